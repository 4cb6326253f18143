/-
  For all drawn circuits and diagrams, the diagram of a circuit stands for its operator, the adjoint diagram for the adjoint matrix, and texts are parsed back. Conditions: none beside the variables' values, which the card ties to the program's text.
-/
import Derived.Test.YtgobkmhhckhbfaaGreatDoorU1
import Derived.Shelf.Spec.SlicesGrow
import Derived.Laws.MakeOwn
import Derived.Laws.Slices
import Derived.WideKeyRuns
import Derived.Deep.Strs
import Derived.WalkKit
import Derived.ProofKit
import Derived.OpenShut
import Derived.Deep.Slices
import Derived.Deep.Fields
import Derived.ChangeSame
import Derived.Lib.SmallJoins
import Derived.WalkSpells
import Derived.Maps.RangeRun
import Derived.Laws.Strings2
import Derived.Laws.IdiomStrings
import Derived.Shelf.SlSortCmp.WholeK
import Derived.Shelf.SlSortCmp.NoneTotal
import Derived.Shelf.SlGeneric
import Derived.Lib.ItoaNum
import Derived.Lib.Join
set_option linter.unusedVariables false
set_option linter.unusedSimpArgs false
set_option maxHeartbeats 1000000
set_option maxRecDepth 20000
set_option linter.unusedSectionVars false
namespace Go.Proofs.YtgobkmhhckhbfaaGreatDoor
open Go.RowKit
section
variable {α : Type}
theorem X5w{enc:α->List Value}{sz:Nat}(hsz:∀ x,(enc x).length=sz){l:List α}{j:Nat}(hj:j<l.length*sz) : ∃ x,l[j/sz]? = some x/\(l.flatMap enc)[j]? = (enc x)[j % sz]?:=by
 have h0:0<sz:=by
  rcases Nat.eq_zero_or_pos sz with h|h
  ·subst h;simp at hj
  ·exact h
 have hk:j/sz<l.length:=Nat.div_lt_of_lt_mul (by rw [Wi];exact hj)
 refine ⟨l[j/sz],Qc hk,?_⟩
 have hm:j % sz<(enc l[j/sz]).length:=by rw [hsz];exact Nat.mod_lt _ h0
 have h1:=X5g hsz l (j/sz) _ (Qc hk) (j % sz) _ (Qc hm)
 rw [show j/sz*sz+j % sz=j from by rw [Wi];exact Nat.div_add_mod j sz] at h1
 rw [h1,Qc hm]
theorem Xah{enc:α->List Value}{sz:Nat}(hsz:∀ x,(enc x).length=sz){z:Value}{z0:α}(hz:z.cells.toList=enc z0)(n:Nat) : madeCells z.cells (n*sz)=((List.replicate n z0).flatMap enc).toArray:=by
 have hs:z.cells.size=sz:=by rw [<- hsz z0,<- hz];simp
 apply Array.ext'
 apply List.ext_getElem?
 intro j
 by_cases hj:j<n*sz
 ·obtain ⟨x,hx,h1⟩:=X5w hsz (l:=List.replicate n z0) (j:=j) (by simpa using hj)
  obtain rfl:x=z0:=(List.eq_of_mem_replicate (Qe hx))
  have h0:0<sz:=by
   rcases Nat.eq_zero_or_pos sz with h|h
   ·subst h;simp at hj
   ·exact h
  have hm:j % sz<z.cells.size:=by rw [hs];exact Nat.mod_lt _ h0
  rw [List.toList_toArray,h1,<- hz]
  simp only [madeCells,Array.getElem?_toList,Array.getElem?_map,Array.getElem?_range,hj,if_true,Option.map_some,hs]
  rw [getElem!_pos z.cells (j % sz) hm,Array.getElem?_eq_getElem hm]
 ·rw [List.getElem?_eq_none (by simp [madeCells];omega),List.toList_toArray,List.getElem?_eq_none (by rw [Xq hsz];simp;omega)]
theorem X68{enc:α->List Value}{sz:Nat}(hsz:∀ x,(enc x).length=sz) : ∀ (l:List α) (k:Nat) (x:α),k<l.length->splice (l.flatMap enc) (k*sz) (enc x)=(l.set k x).flatMap enc
 | [],k,x,h=>by simp at h
 | y::l,0,x,h=>by
  simp only [splice,Nat.zero_mul,List.take_zero,List.nil_append,Nat.zero_add,Wc,List.set_cons_zero]
  rw [hsz,<- hsz y,List.drop_left]
 | y::l,k+1,x,h=>by
  have ih:=X68 hsz l k x (by simpa using h)
  unfold splice at ih ⊢
  have h1:(k+1)*sz=(enc y).length+k*sz:=by rw [hsz,Wb];omega
  rw [h1]
  simp only [Wc,List.set_cons_succ]
  rw [List.take_length_add_append,show (enc y).length+k*sz+(enc x).length=(enc y).length+(k*sz+(enc x).length) from by omega,List.drop_length_add_append,Qx,Qx]
  rw [<- ih,Qx]
end
section
variable {α : Type} {P : Program} {a : Act} {w : World} {n : Nat} {e : Env} {ty : TypeId} {pos : String} {af : Array Edge} {g : Option (Nat × Bool)} {d : Option Tmp}
theorem Xbs{T E sz bytes m:Nat}{x y:Operand}{enc:α->List Value}{z:Value}{z0:α}(hf:Fr a n e)(hx:ev e x=some (.int .i64 (m:Int)))(hy:ev e y=some (.int .i64 (m:Int)))(hT:SliceT P T E)(hi:InfoT P E sz bytes)(hz:ZeroT P E z)(hz0:z.cells.toList=enc z0)(hsz:∀ x,(enc x).length=sz)(hb:bytes*m<=281474976710656)(hm:m<=4611686018427387904) :
  Ef P ⟨d,.makeSlice T x y,ty,pos,af,g⟩ a w (fun v w'=>∃ b,v=.slice (some ⟨b,0,none⟩) m m/\w.heap.size<=b/\Below w.heap.size w w'/\Blk w' b E ((List.replicate m z0).flatMap enc)):=by
 obtain ⟨i,z1,hi1,hi2,hi3,hi4,hi5,hi6⟩:=hi;obtain ⟨i',hi1',hz1⟩:=hz
 rw [hi1] at hi1'
 injection hi1' with hi1'
 subst hi1'
 rw [hi2] at hz1
 injection hz1 with hz1
 subst hz1
 have hb':(i.bytes:Int)*(m:Int)<=281474976710656:=by
  have h:((i.bytes*m:Nat) : Int)<=281474976710656:=by rw [hi4];omega
  rwa [Int.natCast_mul] at h
 have hr:=run_make (P:=P) w T E i z1 hT hi1 hi2 .i64 .i64 m m Z (Int.le_refl _) hb' Z
 refine (Ef.of_run (v:=.slice (some ⟨w.heap.size,0,none⟩) m m) (w':=w.alloc (.cells ((List.replicate m z0).flatMap enc).toArray E)) ?_).mono fun v w' ⟨e1,e2⟩=>?_
 ·rw [hi3,Qj,Xah hsz hz0] at hr
  simp [execOp,hf.ev hx,hf.ev hy,hr]
 ·subst e1;subst e2
  exact ⟨_,O,Qb _,(Below.refl _ _).alloc (Qb _) _,X42 w E _⟩
theorem X41{T E sz bytes m:Nat}{x y:Operand}{enc:α->List Value}{z:Value}{z0:α}(hx:ev e x=some (.int .i64 (m:Int)))(hy:ev e y=some (.int .i64 (m:Int)))(hT:SliceT P T E)(hi:InfoT P E sz bytes)(hz:ZeroT P E z)(hz0:z.cells.toList=enc z0)(hsz:∀ x,(enc x).length=sz)(hb:bytes*m<=281474976710656)(hm:m<=4611686018427387904) : EfW P ⟨d,.makeSlice T x y,ty,pos,af,g⟩ n e w (fun v w'=>∃ b,v=.slice (some ⟨b,0,none⟩) m m/\w.heap.size<=b/\Below w.heap.size w w'/\Blk w' b E ((List.replicate m z0).flatMap enc)):=fun a hf=>Xbs hf hx hy hT hi hz hz0 hsz hb hm
theorem Xat{T E sz b m c k off:Nat}{x y:Operand}{i:Int}(hf:Fr a n e)(hx:ev e x=some (.slice (some ⟨b,0,none⟩) m c))(hy:ev e y=some (.int .i64 i))(hT:SliceT P T E)(hs:SizeT P E sz)(hi:i=(k:Int))(hk:k<m)(ho:k*sz=off) :
  Ev P ⟨d,.indexAddr T x y,ty,pos,af,g⟩ a w (.pointer (some ⟨b,off,none⟩)):=by
 have h:=X7i (P:=P) (w:=w) (d:=d) (ty:=ty) (pos:=pos) (af:=af) (g:=g) hf hx hy hT hs hi hk
 rwa [X24,Nat.zero_add,ho] at h
theorem X5b{T E sz b m c k off:Nat}{x y:Operand}{i:Int}(hx:ev e x=some (.slice (some ⟨b,0,none⟩) m c))(hy:ev e y=some (.int .i64 i))(hT:SliceT P T E)(hs:SizeT P E sz)(hi:i=(k:Int))(hk:k<m)(ho:k*sz=off) : EvW P ⟨d,.indexAddr T x y,ty,pos,af,g⟩ n e w (.pointer (some ⟨b,off,none⟩)):=fun a hf=>Xat hf hx hy hT hs hi hk ho
theorem Xir{t T b k sz:Nat}{x y:Operand}{v:Value}{enc:α->List Value}{l:List α}{u:α}(hf:Fr a n e)(hx:ev e x=some (.pointer (some ⟨b,k*sz,none⟩)))(hy:ev e y=some v)(hs:SizeT P t sz)(hb:Blk w b T (l.flatMap enc))(hsz:∀ x,(enc x).length=sz)(hone:∀ x,(enc x).all one=true)(hv:v.cells.toList=enc u)(hk:k<l.length) :
  Ef P ⟨d,.store t x y,ty,pos,af,g⟩ a w (Stored w b T ((l.set k u).flatMap enc)):=by
 have hl:k*sz+sz<=(l.flatMap enc).length:=by
  rw [Xq hsz]
  have:=Nat.mul_le_mul_right sz (show k+1<=l.length by omega)
  rwa [Wb,Nat.one_mul] at this
 exact X9r (vs:=enc u) hf hx hy hs hb hv (by rw [hsz];simp) (hone u) (by rw [Nat.ble_eq];exact hl) (X68 hsz l k u hk)
theorem X4v{t T b k sz:Nat}{x y:Operand}{v:Value}{enc:α->List Value}{l:List α}{u:α}(hx:ev e x=some (.pointer (some ⟨b,k*sz,none⟩)))(hy:ev e y=some v)(hs:SizeT P t sz)(hb:Blk w b T (l.flatMap enc))(hsz:∀ x,(enc x).length=sz)(hone:∀ x,(enc x).all one=true)(hv:v.cells.toList=enc u)(hk:k<l.length) : EfW P ⟨d,.store t x y,ty,pos,af,g⟩ n e w (Stored w b T ((l.set k u).flatMap enc)):=fun a hf=>Xir hf hx hy hs hb hsz hone hv hk
theorem Xf7{T E sz m c k:Nat}{x y:Operand}{A:Option Addr}{i:Int}(hf:Fr a n e)(hx:ev e x=some (.slice A m c))(hy:ev e y=some (.int .i64 i))(hT:SliceT P T E)(hs:SizeT P E sz)(hi:i=(k:Int))(hk:k<=c) :
  Ev P ⟨d,.slice T x none (some y) none,ty,pos,af,g⟩ a w (.slice A k c):=fun w' _=>by
 subst hi
 have h0:∀ p:Addr,p.add 0=p:=fun p=>by simp [Addr.add]
 simp [execOp,Instr.sliceAt,Instr.slice,Instr.sliceBounds,run_sliceBound,X0m hT,run_sizeOf' hs,hf.ev hx,hf.ev hy,hk,h0]
theorem Xbu{T E sz m c k:Nat}{x y:Operand}{A:Option Addr}{i:Int}(hf:Fr a n e)(hx:ev e x=some (.slice A m c))(hy:ev e y=some (.int .i64 i))(hT:SliceT P T E)(hs:SizeT P E sz)(hi:i=(k:Int))(hk:k<=m) :
  Ev P ⟨d,.slice T x (some y) none none,ty,pos,af,g⟩ a w (.slice (if c=k then A else A.map (·.add (k*sz))) (m-k) (c-k)):=fun w' _=>by
 subst hi
 simp [execOp,Instr.sliceAt,Instr.slice,Instr.sliceBounds,run_sliceBound,X0m hT,run_sizeOf' hs,hf.ev hx,hf.ev hy,hk]
end
section
variable {α : Type} {w : World} {B B0 : Nat} {E : TypeId} {sz : Nat} {enc : α -> List Value} {A : Option Addr} {c : Nat} {l : List α}
theorem Xc7(hsz:∀ x,(enc x).length=sz)(k:Nat) : (l.take k).flatMap enc=(l.flatMap enc).take (k*sz):=by
 conv=>rhs;rw [<- W9 k l]
 rw [List.flatMap_append]
 by_cases hk:k<=l.length
 ·have:((l.take k).flatMap enc).length=k*sz:=by rw [Xq hsz,Qn,Nat.min_eq_left hk]
  rw [<- this,List.take_left]
 ·rw [Qi Z,W3 Z]
  simp only [List.flatMap_nil,List.append_nil]
  rw [Qi (by rw [Xq hsz];exact Nat.mul_le_mul_right _ Z)]
theorem X7o(hsz:∀ x,(enc x).length=sz)(k:Nat) : (l.drop k).flatMap enc=(l.flatMap enc).drop (k*sz):=by
 conv=>rhs;rw [<- W9 k l]
 rw [List.flatMap_append]
 by_cases hk:k<=l.length
 ·have:((l.take k).flatMap enc).length=k*sz:=by rw [Xq hsz,Qn,Nat.min_eq_left hk]
  rw [<- this,List.drop_left]
 ·have h1:l.drop k=[]:=W3 Z
  rw [h1,List.flatMap_nil,List.append_nil,W3 (by rw [Xq hsz,Qn];exact Nat.mul_le_mul_right _ Z)]
theorem Rd.takeK(hsz:∀ x,(enc x).length=sz)(h:Rd w B E enc A l)(k:Nat) : Rd w B E enc A (l.take k):=fun hl=>by
 have hl':l≠[]:=by rintro rfl;simp at hl
 obtain ⟨b,off,cs,fz,h1,h2,h3,h4⟩:=h hl'
 refine ⟨b,off,cs,fz,h1,h2,h3,fun j v hj=>h4 j v ?_⟩
 rw [Xc7 hsz,List.getElem?_take] at hj
 split at hj
 ·exact hj
 ·cases hj
theorem Rd.dropK(hsz:∀ x,(enc x).length=sz)(h:Rd w B E enc A l)(hc:l.length<=c)(k:Nat) : Rd w B E enc (if c=k then A else A.map (·.add (k*sz))) (l.drop k):=fun hl=>by
 have hk:k<l.length:=by
  rcases W4 k l.length with h'|h'
  ·exact h'
  ·exact absurd (W3 h') hl
 have hl':l≠[]:=by rintro rfl;simp at hk
 obtain ⟨b,off,cs,fz,h1,h2,h3,h4⟩:=h hl'
 rw [Q3 Z,h1]
 refine ⟨b,off+k*sz,cs,fz,by rw [Option.map_some,X24],h2,h3,fun j v hj=>?_⟩
 rw [X7o hsz,List.getElem?_drop] at hj
 rw [Nat.add_assoc]
 exact h4 _ v hj
theorem Xkr{P:Program}{a:Act}{n:Nat}{e:Env}{ty:TypeId}{pos:String}{af:Array Edge}{g:Option (Nat×Bool)}{d:Option Tmp}{T k:Nat}{x y:Operand}{i:Int}(hf:Fr a n e)(hx:ev e x=some (.slice A l.length c))(hy:ev e y=some (.int .i64 i))(hT:SliceT P T E)(hs:SizeT P E sz)(hi:i=(k:Int))(hk:k<=l.length)(hc:l.length<=c) :
  Ev P ⟨d,.slice T x none (some y) none,ty,pos,af,g⟩ a w (.slice A (l.take k).length c):=by
 rw [Qn,Nat.min_eq_left hk]
 exact Xf7 hf hx hy hT hs hi Z
theorem Xev{P:Program}{n:Nat}{e:Env}{ty:TypeId}{pos:String}{af:Array Edge}{g:Option (Nat×Bool)}{d:Option Tmp}{T k:Nat}{x y:Operand}{i:Int}(hx:ev e x=some (.slice A l.length c))(hy:ev e y=some (.int .i64 i))(hT:SliceT P T E)(hs:SizeT P E sz)(hi:i=(k:Int))(hk:k<=l.length)(hc:l.length<=c) : EvW P ⟨d,.slice T x none (some y) none,ty,pos,af,g⟩ n e w (.slice A (l.take k).length c):=fun a hf=>Xkr hf hx hy hT hs hi hk hc
theorem Xkj{P:Program}{a:Act}{n:Nat}{e:Env}{ty:TypeId}{pos:String}{af:Array Edge}{g:Option (Nat×Bool)}{d:Option Tmp}{T k:Nat}{x y:Operand}{i:Int}(hf:Fr a n e)(hx:ev e x=some (.slice A l.length c))(hy:ev e y=some (.int .i64 i))(hT:SliceT P T E)(hs:SizeT P E sz)(hi:i=(k:Int))(hk:k<=l.length) :
  Ev P ⟨d,.slice T x (some y) none none,ty,pos,af,g⟩ a w (.slice (if c=k then A else A.map (·.add (k*sz))) (l.drop k).length (c-k)):=by
 rw [List.length_drop]
 exact Xbu hf hx hy hT hs hi hk
theorem Xbh{P:Program}{n:Nat}{e:Env}{ty:TypeId}{pos:String}{af:Array Edge}{g:Option (Nat×Bool)}{d:Option Tmp}{T k:Nat}{x y:Operand}{i:Int}(hx:ev e x=some (.slice A l.length c))(hy:ev e y=some (.int .i64 i))(hT:SliceT P T E)(hs:SizeT P E sz)(hi:i=(k:Int))(hk:k<=l.length) : EvW P ⟨d,.slice T x (some y) none none,ty,pos,af,g⟩ n e w (.slice (if c=k then A else A.map (·.add (k*sz))) (l.drop k).length (c-k)):=fun a hf=>Xkj hf hx hy hT hs hi hk
theorem Own.cap(h:Own w B0 E sz enc A c l) : l.length<=c:=by
 rcases h.2 with ⟨h1,h2⟩|⟨g,cap,cur,h1,h2,h3,h4,h5,h6⟩
 ·omega
 ·injection h1 with _ _ h1
  omega
theorem Own.of_flat(hsz:∀ x,(enc x).length=sz){b m:Nat}(h:Blk w b E (l.flatMap enc))(hb:B0<=b)(hl:l.length=m)(hk:m<=maxLen) : Own w B0 E sz enc (some ⟨b,0,none⟩) m l:=Own.of_blkL hsz h hb rfl hl hk
end
theorem Kept.app{α:Type}{b B B0:Nat}{w0 w w':World}{E:TypeId}{sz:Nat}{enc:α->List Value}{A:Option Addr}{c:Nat}{l:List α}(h:Kept b B w0 w)(ho:Own w B0 E sz enc A c l)(hg:w.grownBy w' (Value.slice A l.length c).ownBlock)(hB:B<=B0)(hs:B<=w.heap.size) : Kept b B w0 w':=
 ⟨hg.os.trans h.os,hg.tape.trans h.tape,hg.output.trans h.output,Q0 h.size hg.size,fun k hk hne=>(hg.block k Z fun hk'=>by have:=(ho.block hk'.symm).1;omega).trans (h.block k hk hne)⟩
end Go.Proofs.YtgobkmhhckhbfaaGreatDoor
namespace Go.Proofs.YtgobkmhhckhbfaaGreatDoor
open Go.RowKit Go.Sort
end Go.Proofs.YtgobkmhhckhbfaaGreatDoor
namespace Go.Proofs.YtgobkmhhckhbfaaGreatDoor
open Go.RowKit
structure Sl where (A:Option Addr) (c:Nat) (l:List Int)
structure Rp where (pos:Int) (old new:List Gt)
def oA(A:Option Addr)(m:Nat) : Addr:=match A with
 | some p=>⟨p.block,m,none⟩
 | none=>⟨0,m,none⟩
theorem X46{l vs:List Value}{off:Nat}(h:off+vs.length<=l.length)(i:Nat) : (splice l off vs)[i]? = if i<off then l[i]? else if i<off+vs.length then vs[i-off]? else l[i]?:=by grind [splice]
theorem X49{l vs:List Value}{off:Nat}(h:off+vs.length<=l.length) : (splice l off vs).length=l.length:=by grind [splice]
theorem Xen{l x vs:List Value}{o j:Nat}(hx:∀ i,i<x.length->l[o+i]? = x[i]?)(h1:o+x.length<=l.length)(h2:j+vs.length<=x.length) : splice l (o+j) vs=splice l o (splice x j vs):=by
 have h3:=X49 h2
 apply List.ext_getElem?
 intro i
 rw [X46 Z,X46 Z,h3]
 by_cases a1:i<o
 ·rw [Q4 Z,Q4 a1]
 ·rw [Q3 a1]
  by_cases a2:i<o+x.length
  ·rw [Q4 a2,X46 h2]
   by_cases a3:i<o+j
   ·rw [Q4 a3,Q4 (show i-o<j by omega),<- hx (i-o) Z];congr 1;omega
   ·rw [Q3 a3,Q3 (show ¬ i-o<j by omega)]
    by_cases a4:i<o+j+vs.length
    ·rw [Q4 a4,Q4 (show i-o<j+vs.length by omega)];congr 1;omega
    ·rw [Q3 a4,Q3 (show ¬ i-o<j+vs.length by omega),<- hx (i-o) Z];congr 1;omega
  ·rw [Q3 a2,Q3 Z,Q3 Z]
theorem Xeo{l vs:List Value}{off N:Nat}(h:off+vs.length<=N)(hN:N<=l.length) : (splice l off vs).take N=splice (l.take N) off vs:=by
 apply List.ext_getElem?
 intro i
 by_cases hi:i<N
 ·rw [Wg hi,X46 Z,X46 (by rw [Qn];omega),Wg hi]
 ·rw [List.getElem?_take_eq_none Z,List.getElem?_eq_none]
  rw [X49 (by rw [Qn];omega),Qn];omega
theorem Xhc{α:Type}{enc:α->List Value}{sz:Nat}(hsz:∀ x,(enc x).length=sz) : ∀ (l:List α) (k i:Nat) (x:α),l[k]? = some x->i<sz->(l.flatMap enc)[k*sz+i]? = (enc x)[i]?
 | [],k,i,x,h,_=>by simp at h
 | y::l,0,i,x,h,hi=>by
  simp at h;subst h
  rw [Wc,Nat.zero_mul,Nat.zero_add,List.getElem?_append_left (by rw [hsz];exact hi)]
 | y::l,k+1,i,x,h,hi=>by
  have h':l[k]? = some x:=by simpa using h
  have e:(k+1)*sz+i=sz+(k*sz+i):=by rw [Wb];omega
  rw [Wc,e,W5 (by rw [hsz];omega),hsz,Nat.add_sub_cancel_left]
  exact Xhc hsz l k i x h' hi
section
variable {P : Program} {a : Act} {w w' : World} {n : Nat} {e : Env} {ty : TypeId} {pos : String} {af : Array Edge} {g : Option (Nat × Bool)} {d : Option Tmp} {α : Type}
theorem Xdx{T E:TypeId}{sz B0 k m:Nat}{x y:Operand}{enc:α->List Value}{A:Option Addr}{c:Nat}{l:List α}{i:Int}(hf:Fr a n e)(hx:ev e x=some (.slice A m c))(hy:ev e y=some (.int .i64 i))(hT:SliceT P T E)(hs:SizeT P E sz)
  (ho:Own w' B0 E sz enc A c l) (hm:m=l.length) (hi:i=(k:Int)) (hk:k<l.length) : Ev P ⟨d,.indexAddr T x y,ty,pos,af,g⟩ a w (.pointer (some (oA A (k*sz)))):=by
 subst hm
 rcases ho.2 with ⟨h1,h2⟩|⟨b,cap,cur,h1,h2,h3,h4⟩
 ·omega
 ·injection h1 with h1
  rw [h1] at hx ⊢
  exact Xat (b:=b) (off:=k*sz) hf hx hy hT hs hi hk O
theorem Xd{T E:TypeId}{sz B0 k m:Nat}{x y:Operand}{enc:α->List Value}{A:Option Addr}{c:Nat}{l:List α}{i:Int}(hx:ev e x=some (.slice A m c))(hy:ev e y=some (.int .i64 i))(hT:SliceT P T E)(hs:SizeT P E sz)(ho:Own w' B0 E sz enc A c l)(hm:m=l.length)(hi:i=(k:Int))(hk:k<l.length) : EvW P ⟨d,.indexAddr T x y,ty,pos,af,g⟩ n e w (.pointer (some (oA A (k*sz)))):=fun a hf=>Xdx hf hx hy hT hs ho hm hi hk
theorem Xdv{T f k m:Nat}{x:Operand}{A:Option Addr}(hf:Fr a n e)(hx:ev e x=some (.pointer (some (oA A m))))(hF:FieldT P T f k){m':Nat}(hm:m+k=m') : Ev P ⟨d,.fieldAddr T x f,ty,pos,af,g⟩ a w (.pointer (some (oA A m'))):=by
 subst hm
 have h:=Xdu (P:=P) (w:=w) (d:=d) (ty:=ty) (pos:=pos) (af:=af) (g:=g) hf hx hF
 have e:(oA A m).add k=oA A (m+k):=by cases A<;>simp [oA,Addr.add]
 rw [e] at h
 exact h
theorem X1z{T f k m:Nat}{x:Operand}{A:Option Addr}(hx:ev e x=some (.pointer (some (oA A m))))(hF:FieldT P T f k){m':Nat}(hm:m+k=m') : EvW P ⟨d,.fieldAddr T x f,ty,pos,af,g⟩ n e w (.pointer (some (oA A m'))):=fun a hf=>Xdv hf hx hF hm
theorem Xdq{t E:TypeId}{sz B0 k j m n1:Nat}{x y:Operand}{enc:α->List Value}{A:Option Addr}{c:Nat}{l:List α}{v:Value}{vs:List Value}{x0 u:α}(hf:Fr a n e)(hx:ev e x=some (.pointer (some (oA A m))))(hy:ev e y=some v)(hs:SizeT P t n1)
  (ho:Own w B0 E sz enc A c l) (hsz:∀ x,(enc x).length=sz) (hv:v.cells.toList=vs) (hn:Nat.beq vs.length n1=true) (h1:vs.all one=true) (hm:k*sz+j=m) (hj:j+n1<=sz) (hk:l[k]? = some x0) (hu:splice (enc x0) j vs=enc u) :
  Ef P ⟨d,.store t x y,ty,pos,af,g⟩ a w (fun _ w'=>Own w' B0 E sz enc A c (l.set k u)/\w.grownBy w' (Value.slice A l.length c).ownBlock):=by
 have hkl:k<l.length:=(Qg.1 hk).1
 rcases ho.2 with ⟨e1,e2⟩|⟨b,cap,cur,e1,e2,e3,e4,e5,e6,e7⟩
 ·omega
 ·injection e1 with e1 _ e1'
  subst hm;subst e1'
  have hcl:cur.toList.length=c*sz:=Array.length_toList.trans e6
  have hN:l.length*sz<=cur.toList.length:=by rw [hcl];exact Nat.mul_le_mul_right _ e4
  have hks:k*sz+sz<=l.length*sz:=by
   have:=Nat.mul_le_mul_right sz (show k+1<=l.length by omega)
   rwa [Wb,Nat.one_mul] at this
  have hn':vs.length=n1:=Nat.eq_of_beq_eq_true hn
  rw [e1] at hx
  have hb:Blk w b E cur.toList:=by unfold Blk;rw [e3]
  refine (X9r (b:=b) (off:=k*sz+j) (vs:=vs) hf hx hy hs hb hv hn h1 (by rw [Nat.ble_eq];omega) O).mono fun _ w' ⟨hO,hB⟩=>?_
  have hlen:((l.set k u).flatMap enc).length=(l.set k u).length*sz:=Xq hsz _
  refine ⟨⟨hlen,.inr ⟨b,c,_,by rw [e1],e2,hB,by simp;omega,e5,?_,?_⟩⟩,?_⟩
  ·rw [List.size_toArray,X49 Z,hcl]
  ·simp only [List.length_set]
   rw [Xeo Z hN,e7,Xen (x:=enc x0) (fun i hi=>?_) (by rw [Xq hsz,hsz];omega) (by rw [hsz];omega),hu]
   ·exact X68 hsz l k u hkl
   ·exact Xhc hsz l k i x0 hk (by rw [<- hsz x0];exact hi)
  ·rw [e1]
   exact ⟨hO.os,hO.tape,hO.output,by rw [hO.size];exact Qb _,fun q _ hne=>hO.block q fun e=>hne (by rw [e];rfl)⟩
theorem X0d{t E:TypeId}{sz B0 k j m n1:Nat}{x y:Operand}{enc:α->List Value}{A:Option Addr}{c:Nat}{l:List α}{v:Value}{vs:List Value}{x0 u:α}(hx:ev e x=some (.pointer (some (oA A m))))(hy:ev e y=some v)(hs:SizeT P t n1)(ho:Own w B0 E sz enc A c l)(hsz:∀ x,(enc x).length=sz)(hv:v.cells.toList=vs)(hn:Nat.beq vs.length n1=true)(h1:vs.all one=true)(hm:k*sz+j=m)(hj:j+n1<=sz)(hk:l[k]? = some x0)(hu:splice (enc x0) j vs=enc u) : EfW P ⟨d,.store t x y,ty,pos,af,g⟩ n e w (fun _ w'=>Own w' B0 E sz enc A c (l.set k u)/\w.grownBy w' (Value.slice A l.length c).ownBlock):=fun a hf=>Xdq hf hx hy hs ho hsz hv hn h1 hm hj hk hu
end
section
variable {P : Program} {ops : Array Oper} {a : Act} {w : World} {n d : Nat} {e : Env} {ty : TypeId} {pos : String} {af : Array Edge} {g : Option (Nat × Bool)} {α : Type}
end
def Apart(A A':Option Addr) : Prop:=∀ p q,A=some p->A'=some q->p.block≠q.block
section
variable {α β : Type} {w w' : World} {B B0 B1 : Nat} {E E' : TypeId} {sz sz' : Nat} {enc : α -> List Value} {enc' : β -> List Value} {A A' : Option Addr} {c c' : Nat} {l : List α} {l' : List β}
theorem Own.apart(h:Own w B E sz enc A c l)(h':Own w' B0 E' sz' enc' A' c' l')(hB:w.heap.size<=B0) : Apart A A':=fun p q hp hq=>by
 rcases h.2 with ⟨h1,_⟩|⟨g,cap,cur,h1,h2,h3,_⟩
 ·injection h1 with h1;rw [h1] at hp;cases hp
 ·rcases h'.2 with ⟨k1,_⟩|⟨g',cap',cur',k1,k2,k3,_⟩
  ·injection k1 with k1;rw [k1] at hq;cases hq
  ·injection h1 with h1
   injection k1 with k1
   rw [h1] at hp
   rw [k1] at hq
   injection hp with hp
   injection hq with hq
   subst hp;subst hq
   have:=(Qp.1 h3).1
   intro e
   simp only at e
   omega
theorem Own.appP(h:Own w B1 E' sz' enc' A' c' l')(hg:w.grownBy w' (Value.slice A l.length c).ownBlock)(ha:Apart A' A) : Own w' B1 E' sz' enc' A' c' l':=by
 refine ⟨h.1,?_⟩
 rcases h.2 with h1|⟨g,cap,cur,h1,h2,h3,h4⟩
 ·exact .inl h1
 ·refine .inr ⟨g,cap,cur,h1,h2,(hg.block g (Qp.1 h3).1 fun hk=>?_).trans h3,h4⟩
  injection h1 with h1
  cases A with
  | none=>simp [Value.ownBlock] at hk
  | some q=>
   simp only [Value.ownBlock,Option.some.injEq] at hk
   exact ha _ q h1 O hk
theorem gbel{r:Option Nat}{w0 w w':World}(h:w0.grownBy w r)(hE:Below w.heap.size w w') : w0.grownBy w' r:=
 ⟨hE.os.trans h.os,hE.tape.trans h.tape,hE.output.trans h.output,Q0 h.size hE.size,fun k hk hn=>(hE.block k (Nat.lt_of_lt_of_le hk h.size)).trans (h.block k hk hn)⟩
theorem Xhr(A:Option Addr)(n m c d:Nat) : (Value.slice A n c).ownBlock=(Value.slice A m d).ownBlock:=by cases A<;>rfl
theorem gtr{A:Option Addr}{n m c d:Nat}{w0 w w':World}(h:w0.grownBy w (Value.slice A n c).ownBlock)(k:w.grownBy w' (Value.slice A m d).ownBlock) : w0.grownBy w' (Value.slice A n c).ownBlock:=
 ⟨k.os.trans h.os,k.tape.trans h.tape,k.output.trans h.output,Q0 h.size k.size,fun q hq hn=>(k.block q (Nat.lt_of_lt_of_le hq h.size) (by rw [Xhr A m n d c];exact hn)).trans (h.block q hq hn)⟩
theorem Own.len{m:Nat}(h:Own w B E sz enc A c l)(hm:m=l.length) : Own w B E sz enc A c l/\Value.slice A m c=Value.slice A l.length c:=⟨h,by rw [hm]⟩
theorem Apart.symm(h:Apart A A') : Apart A' A:=fun p q hp hq e=>h q p hq hp e.symm
end
section
variable {w w' : World} {B : Nat} {l : List Sl}
end
section
variable {α : Type} {w w' : World} {B B1 : Nat} {E : TypeId} {sz : Nat} {enc : α -> List Value} {A : Option Addr} {c : Nat} {l : List α} {m : List Sl}
end
theorem Apart.of_away{A:Option Addr}{b:Nat}(h:Away A b) : Apart A (some ⟨b,0,none⟩):=by grind [Apart,Away]
theorem Apart.app{α:Type}{w:World}{B:Nat}{E:TypeId}{sz:Nat}{enc:α->List Value}{A A1 A2:Option Addr}{c:Nat}{l:List α}(h:Own w B E sz enc A c l)(ha:Apart A A1)(hat:∀ b,b<w.heap.size->Away A1 b->Away A2 b) : Apart A A2:=by
 intro p q hp hq
 rcases h.2 with ⟨h1,_⟩|⟨g,cap,cur,h1,_,h3,_⟩
 ·injection h1 with h1;rw [h1] at hp;cases hp
 ·injection h1 with h1
  rw [h1] at hp
  injection hp with hp
  have hlt:p.block<w.heap.size:=by rw [<- hp];exact (Qp.1 h3).1
  have haw:Away A1 p.block:=fun r hr e=>ha p r (by rw [h1,hp]) hr e.symm
  exact fun e=>hat _ hlt haw q hq e.symm
theorem Xdo{α:Type}{P:Program}{a:Act}{w:World}{n:Nat}{e:Env}{ty:TypeId}{pos:String}{af:Array Edge}{g:Option (Nat×Bool)}{d:Option Tmp}{T E:TypeId}{sz bytes B b0:Nat}{x y:Operand}{enc:α->List Value}{A2:Option Addr}{c2:Nat}{l2:List α}(hf:Fr a n e)(hx:ev e x=some (.slice (some ⟨b0,0,none⟩) 0 0))(hy:ev e y=some (.slice A2 l2.length c2))
  (hT:SliceT P T E) (hi:InfoT P E sz bytes) (hsz:∀ x,(enc x).length=sz) (hone:∀ x,(enc x).all one=true) (hb:Blk w b0 E []) (hr:Rd w B E enc A2 l2) (h63:l2.length<=maxLen) (hbytes:l2.length*bytes<=140737488355328) :
  Ef P ⟨d,.call ⟨.builtin .append,#[x,y],#[T,T]⟩,ty,pos,af,g⟩ a w (fun v w'=>∃ A' c',v=.slice A' l2.length c'/\Own w' b0 E sz enc A' c' l2/\Below w.heap.size w w'/\∀ b,b<w.heap.size->b≠b0->Away A' b):=by
 by_cases hl2:l2=[]
 ·subst hl2
  obtain ⟨i,z,hi1,hi2,hi3,hi4,hi5,hi6⟩:=hi
  have hrun:(Builtin.append_ #[T,T] ty #[.slice (some ⟨b0,0,none⟩) 0 0,.slice A2 0 c2]).run P w=.ok (.slice (some ⟨b0,0,none⟩) 0 0) w:=by
   cases A2<;>simp [Builtin.append_,X0m hT,sizeOf,typeInfo,hi1,Builtin.lenOf,Builtin.firstCells,loadCells,loadCellsFrom,storeCells]
  refine (Ef.of_run (v:=.slice (some ⟨b0,0,none⟩) 0 0) (w':=w) ?_).mono fun v w' ⟨e1,e2⟩=>?_
  ·simp only [List.length_nil] at hy
   simp [execOp,resolve,invoke,builtin,hf.ev hx,hf.ev hy,hrun]
  ·subst e1;subst e2
   exact ⟨_,_,O,Own.empty hb (Qb _),Below.refl _ _,fun b _ hne=>Away.ne hne⟩
 ·have hown:Own w b0 E sz enc (some ⟨b0,0,none⟩) 0 ([] : List α):=Own.empty hb (Qb _)
  obtain ⟨i,z,hi1,hi2,rfl,rfl,hi5,hi6⟩:=hi;obtain ⟨b,off,cs,fz,rfl,h2,h3,h4⟩:=hr hl2;have hlen2:=Xq hsz l2
  have hpos:0<l2.length:=List.length_pos_iff.2 hl2
  have h:=run_append_grow (P:=P) w T ty E i z hT hi1 hi2 ⟨b0,0,none⟩ 0 0 [] O5 (fun j u hu=>by simp at hu)
   ⟨b,off,none⟩ l2.length c2 (l2.flatMap enc) hlen2 (fun j u hu=>by
    have:=h4 j u hu
    rw [X24]
    simp [World.cell?,h3,this])
   Z (by simp only [maxLen] at h63;omega) (growslice_fits Z (by simpa using hbytes))
  simp only [Nat.zero_add] at h
  refine (Ef.of_run (w':=w.drew.alloc (.cells (([] : List Value).toArray++(l2.flatMap enc).toArray++Builtin.zeroCells z.cells (grownCap w l2.length 0 E-l2.length)) E)) (v:=.slice (some ⟨w.heap.size,0,none⟩) l2.length (grownCap w l2.length 0 E)) ?_).mono fun v w' ⟨e1,e2⟩=>?_
  ·simp [execOp,resolve,invoke,builtin,hf.ev hx,hf.ev hy,h]
  ·subst e1;subst e2
   have hb0:=hb.lt;have hge:=grownCap_ge w l2.length 0 E
   refine ⟨_,_,O,?_,((Below.refl _ _).drew).alloc (Qb _) _,fun b hb _=>Away.ne Z⟩
   refine ⟨Xq hsz _,.inr ⟨w.heap.size,_,_,O,by omega,heap_alloc_new w.drew _,hge,grownCap_le_maxLen w _ _ E h63,?_,?_⟩⟩
   ·simp only [Array.size_append,List.size_toArray,size_zeroCells,hi5,hlen2,List.length_nil,Nat.zero_add,<- Wb]
    congr 1
    omega
   ·rw [<- hlen2]
    simp only [Array.toList_append,Qx,List.nil_append]
    exact List.take_left
theorem X4j{α:Type}{P:Program}{w:World}{n:Nat}{e:Env}{ty:TypeId}{pos:String}{af:Array Edge}{g:Option (Nat×Bool)}{d:Option Tmp}{T E:TypeId}{sz bytes B b0:Nat}{x y:Operand}{enc:α->List Value}{A2:Option Addr}{c2:Nat}{l2:List α}(hx:ev e x=some (.slice (some ⟨b0,0,none⟩) 0 0))(hy:ev e y=some (.slice A2 l2.length c2))(hT:SliceT P T E)(hi:InfoT P E sz bytes)(hsz:∀ x,(enc x).length=sz)(hone:∀ x,(enc x).all one=true)(hb:Blk w b0 E [])(hr:Rd w B E enc A2 l2)(h63:l2.length<=maxLen)(hbytes:l2.length*bytes<=140737488355328) : EfW P ⟨d,.call ⟨.builtin .append,#[x,y],#[T,T]⟩,ty,pos,af,g⟩ n e w (fun v w'=>∃ A' c',v=.slice A' l2.length c'/\Own w' b0 E sz enc A' c' l2/\Below w.heap.size w w'/\∀ b,b<w.heap.size->b≠b0->Away A' b):=fun a hf=>Xdo hf hx hy hT hi hsz hone hb hr h63 hbytes
section
variable {P : Program} {ops : Array Oper} {V : Option Vk} {tl : Nat -> Bool} {Q : Act -> World -> Prop} {fuel : Nat} {done : List Nat} {w : World} {o : Oper} {op : Op} {ty : TypeId} {pos : String} {af : Array Edge} {g : Option (Nat × Bool)} {n d : Nat} {e : Env} {v : Value} {R : Value -> World -> Prop} {x : Operand}
end
theorem X2z{x:Dy} : dOk x=true↔rOk x.num=true/\(0<=x.exp/\x.exp<=60)/\(x.exp=0∨rEven x.num=false):=by
 simp only [dOk,Qd,X0o,Bool.or_eq_true,beq_iff_eq,Bool.not_eq_true',and_assoc]
theorem Xgo:∀ (m:Nat) (x:Rg),rOk x=true->m<=60->dOk (dLow x m)=true
 | 0,x,h,_=>by
  rw [X2w Z]
  exact X2z.2 ⟨h,by simp,.inl rfl⟩
 | m+1,x,h,hm=>by
  by_cases he:rEven x=true
  ·rw [X43 Z he,show ((m+1:Nat) : Int)-1=(m:Int) from by omega]
   exact Xgo m _ (X63 h) Z
  ·have he':rEven x=false:=by simpa using he
   rw [X2w fun _=>he']
   exact X2z.2 ⟨h,by dsimp only;omega,.inr he'⟩
theorem X9n{x:Rg}{e:Int}(h:rOk x=true)(h0:0<=e)(h1:e<=60) : dOk (dLow x e)=true:=by
 obtain ⟨m,rfl⟩ : ∃ m:Nat,e=m:=⟨e.toNat,by omega⟩
 exact Xgo m x h Z
def Agree(o:Option Dy)(p:Bool×Dy) : Prop:=(∀ z,o=some z->p=(false,z)/\dOk z=true)/\(o=none->p.1=true)
theorem X81{x y z:Rg}(hx:rOk x=true)(hy:rOk y=true) : rIf2 z [x,y]=rOk z:=by simp [rIf2,hx,hy]
theorem X57{x z:Rg}(hx:rOk x=true) : rIf2 z [x]=rOk z:=by simp [rIf2,hx]
theorem Xin{x y:Dy}(hx:dOk x=true)(hy:dOk y=true) : Agree (dMulI x y) (sMul false x y):=by
 have kx:=X2z.1 hx
 have ky:=X2z.1 hy
 unfold dMulI sMul
 rw [hx,hy,X81 kx.1 ky.1,rIf1,X81 kx.1 ky.1,Qw,Qw]
 by_cases hr:rOk (rMul x.num y.num)=true
 ·rw [Q4 hr,Q4 hr]
  unfold dOf
  rw [hr,Qw]
  by_cases he:60<x.exp+y.exp
  ·have h1:¬ inR (x.exp+y.exp) 0 60=true:=fun h=>by have:=X0o.1 h;omega
   rw [Q3 h1,Q4 he]
   exact ⟨fun z h=>(by cases h),fun _=>rfl⟩
  ·have h1:inR (x.exp+y.exp) 0 60=true:=X0o.2 Z
   rw [Q4 h1,Q3 he,sRing,Q4 hr]
   exact ⟨fun z h=>(by injection h with h;subst h;exact ⟨rfl,X9n hr Z Z⟩),fun h=>by cases h⟩
 ·have hr':rOk (rMul x.num y.num)=false:=by simpa using hr
  rw [Q3 hr]
  refine ⟨fun z h=>(by cases h),fun _=>?_⟩
  by_cases he:60<x.exp+y.exp
  ·rw [Q4 he]
  ·rw [Q3 he,hr'];rfl
theorem X79:∀ (n:Nat) (f:Bool) (x:Dy),(sRaiseN n f x).2.exp=x.exp+n
 | 0,f,x=>by simp [sRaiseN]
 | n+1,f,x=>by rw [sRaiseN,X79 n];dsimp only;omega
theorem X4s:∀ (n:Nat) (x:Dy),(sRaiseN n true x).1=true
 | 0,x=>rfl
 | n+1,x=>by rw [sRaiseN];exact X4s n _
theorem X64:∀ (n:Nat) (x:Dy),rOk x.num=true->(raiseI n x.num).2=true->sRaiseN n false x=(false,⟨(raiseI n x.num).1,x.exp+n⟩)/\rOk (raiseI n x.num).1=true
 | 0,x,h,_=>⟨by simp [sRaiseN,raiseI],h⟩
 | n+1,x,h,hr=>by
  unfold raiseI at hr ⊢
  rw [X57 h] at hr ⊢
  by_cases h1:rOk (rRoot x.num)=true
  ·rw [Q4 h1] at hr ⊢
   rw [sRaiseN,h1,sRing,Q4 h1]
   have:=X64 n ⟨rRoot x.num,x.exp+1⟩ h1 hr
   refine ⟨?_,this.2⟩
   simp only [Bool.not_true,Bool.or_false]
   rw [this.1]
   dsimp only
   congr 2
   omega
  ·rw [Q3 h1] at hr
   cases hr
theorem X65:∀ (n:Nat) (x:Dy),rOk x.num=true->(raiseI n x.num).2=false->(sRaiseN n false x).1=true
 | 0,x,h,hr=>by cases hr
 | n+1,x,h,hr=>by
  unfold raiseI at hr
  rw [X57 h] at hr
  by_cases h1:rOk (rRoot x.num)=true
  ·rw [Q4 h1] at hr
   rw [sRaiseN,h1,sRing,Q4 h1]
   simp only [Bool.not_true,Bool.or_false]
   exact X65 n ⟨rRoot x.num,x.exp+1⟩ h1 hr
  ·have h2:rOk (rRoot x.num)=false:=by simpa using h1
   rw [sRaiseN,h2]
   exact X4s n _
theorem Xim{x y:Dy}(hx:dOk x=true)(hy:dOk y=true) : Agree (dAddI x y) (sAdd false x y):=by
 have kx:=X2z.1 hx
 have ky:=X2z.1 hy
 obtain ⟨m,hm⟩ : ∃ m,m=max x.exp y.exp:=⟨_,O⟩
 have e1:(m-x.exp).toNat=(y.exp-x.exp).toNat:=by omega
 have e3:x.exp+((y.exp-x.exp).toNat:Int)=m:=by omega
 have ed1:dRaise x m=raiseI (y.exp-x.exp).toNat x.num:=by rw [dRaise,e1]
 unfold dAddI sAdd
 rw [hx,hy,Bool.and_self,Q4 O,<- hm,X79,e3]
 cases h1:(dRaise x m).2 with
 | false=>
  have hb:=X65 _ x kx.1 (by rw [<- ed1];exact h1)
  rw [hb,X4s]
  simp only [Bool.false_and,Bool.false_eq_true,if_false,Bool.true_or]
  exact ⟨fun z h=>(by cases h),fun _=>rfl⟩
 | true=>
  obtain ⟨g1,g2⟩:=X64 _ x kx.1 (by rw [<- ed1];exact h1)
  rw [g1]
  rw [<- ed1] at g2 ⊢
  dsimp only
  have ed2:dRaise y m=raiseI (m-y.exp).toNat y.num:=rfl
  cases h2:(dRaise y m).2 with
  | false=>
   have hb:=X65 _ y ky.1 (by rw [<- ed2];exact h2)
   rw [hb]
   simp only [Bool.and_false,Bool.false_and,Bool.false_eq_true,if_false,Bool.true_or]
   exact ⟨fun z h=>(by cases h),fun _=>rfl⟩
  | true=>
   obtain ⟨k1,k2⟩:=X64 _ y ky.1 (by rw [<- ed2];exact h2)
   rw [k1]
   rw [<- ed2] at k2 ⊢
   dsimp only
   rw [X81 g2 k2,rIf1,X81 g2 k2,Qw,Qw,Bool.false_or]
   by_cases hr:rOk (rAdd (dRaise x m).1 (dRaise y m).1)=true
   ·have h3:inR m 0 60=true:=X0o.2 Z
    rw [Q4 hr,Q4 hr,dOf,hr,h3,sRing,Q4 hr]
    exact ⟨fun z h=>(by simp only [Bool.and_self,if_true] at h;injection h with h;subst h;exact ⟨rfl,X9n hr Z Z⟩),fun h=>by simp at h⟩
   ·have hr':rOk (rAdd (dRaise x m).1 (dRaise y m).1)=false:=by simpa using hr
    rw [Q3 hr,hr']
    exact ⟨fun z h=>(by cases h),fun _=>rfl⟩
def dotS(f:Bool)(a b:Mx)(i j:Nat) : Nat->Bool×Dy
 | 0=>(f,dZ)
 | n+1=>if (dotS f a b i j n).1=true then dotS f a b i j n else
   sAdd (sMul false (a.at i n) (b.at n j)).1 (dotS f a b i j n).2 (sMul false (a.at i n) (b.at n j)).2
theorem X9o{f:Bool}{a b:Mx}{i j n:Nat}(h:(dotS f a b i j n).1=true) : ∀ m,n<=m->dotS f a b i j m=dotS f a b i j n
 | 0,h'=>by
  obtain rfl:n=0:=by omega
  rfl
 | m+1,h'=>by
  by_cases hm:n=m+1
  ·subst hm;rfl
  ·rw [dotS,X9o h m Z,Q4 h]
theorem Xip(a b:Mx)(i j n:Nat) : dotS true a b i j n=(true,dZ):=X9o (n:=0) rfl n (Qf _)
theorem Xt5:dOk dZ=true:=by decide
theorem Xn7(x y:Dy) : (sAdd true x y).1=true:=by
 unfold sAdd
 rw [show (sRaiseN (y.exp-x.exp).toNat true x).1=true from X4s _ _,X4s]
 rfl
def AllOk(m:Mx) : Prop:=∀ x ∈ m.cells,dOk x=true
theorem Mx.at_ok{m:Mx}(h:AllOk m)(i j:Nat) : dOk (m.at i j)=true:=by
 unfold Mx.at
 rw [Qa]
 cases hx:m.cells[i*m.cols.toNat+j]? with
 | none=>exact Xt5
 | some x=>exact h x (Qe hx)
theorem Xan{a b:Mx}(ha:AllOk a)(hb:AllOk b)(i j:Nat) : ∀ n,Agree (dotI a b i j n) (dotS false a b i j n)
 | 0=>⟨fun z h=>(by injection h with h;subst h;exact ⟨rfl,Xt5⟩),fun h=>by cases h⟩
 | n+1=>by
  have ih:=Xan ha hb i j n
  have hm:=Xin (Mx.at_ok ha i n) (Mx.at_ok hb n j)
  unfold dotI dotS
  cases h1:dotI a b i j n with
  | none=>
   have h2:=ih.2 h1
   rw [Q4 h2]
   exact ⟨fun z h=>(by cases h),fun _=>h2⟩
  | some s=>
   obtain ⟨h2,h3⟩:=ih.1 s h1
   rw [h2]
   simp only [Bool.false_eq_true,if_false,Qz]
   cases h4:dMulI (a.at i n) (b.at n j) with
   | none=>
    rw [hm.2 h4]
    exact ⟨fun z h=>(by cases h),fun _=>Xn7 _ _⟩
   | some x=>
    obtain ⟨h5,h6⟩:=hm.1 x h4
    rw [h5]
    exact Xim h3 h6
def timesL(f:Bool)(a b:Mx) : Nat->Bool×List Dy
 | 0=>(f,[])
 | n+1=>((dotS (timesL f a b n).1 a b (n/b.cols.toNat) (n % b.cols.toNat) a.cols.toNat).1,(timesL f a b n).2++[(dotS (timesL f a b n).1 a b (n/b.cols.toNat) (n % b.cols.toNat) a.cols.toNat).2])
def timesS(f:Bool)(a b:Mx) : Bool×Mx:=((timesL f a b (a.rows.toNat*b.cols.toNat)).1,⟨a.rows,b.cols,(timesL f a b (a.rows.toNat*b.cols.toNat)).2⟩)
theorem Xac(f:Bool)(a b:Mx) : ∀ n,(timesL f a b n).2.length=n
 | 0=>rfl
 | n+1=>by simp [timesL,Xac f a b n]
theorem Xes{f:Bool}{a b:Mx}{i j:Nat}(hj:j<b.cols.toNat) : timesL f a b (i*b.cols.toNat+(j+1))=((dotS (timesL f a b (i*b.cols.toNat+j)).1 a b i j a.cols.toNat).1,(timesL f a b (i*b.cols.toNat+j)).2++[(dotS (timesL f a b (i*b.cols.toNat+j)).1 a b i j a.cols.toNat).2]):=by
 have h1:(i*b.cols.toNat+j)/b.cols.toNat=i:=by rw [Wi,Nat.mul_add_div Z,Nat.div_eq_of_lt hj];omega
 have h2:(i*b.cols.toNat+j) % b.cols.toNat=j:=by rw [Wi,Nat.mul_add_mod,Nat.mod_eq_of_lt hj]
 rw [show i*b.cols.toNat+(j+1)=(i*b.cols.toNat+j)+1 from O,timesL,h1,h2]
theorem X8k{a b:Mx}(ha:AllOk a)(hb:AllOk b) : ∀ n,(∀ l,seqO (gridG (fun i j=>dotI a b i j a.cols.toNat) b.cols.toNat) n=some l->timesL false a b n=(false,l)/\∀ x ∈ l,dOk x=true)/\
  (seqO (gridG (fun i j=>dotI a b i j a.cols.toNat) b.cols.toNat) n=none->(timesL false a b n).1=true)
 | 0=>⟨fun l h=>(by injection h with h;subst h;exact ⟨rfl,fun x hx=>by cases hx⟩),fun h=>by cases h⟩
 | n+1=>by
  have ih:=X8k ha hb n
  have hd:=Xan ha hb (n/b.cols.toNat) (n % b.cols.toNat) a.cols.toNat
  unfold seqO timesL
  cases h1:seqO (gridG (fun i j=>dotI a b i j a.cols.toNat) b.cols.toNat) n with
  | none=>
   rw [ih.2 h1,Xip]
   exact ⟨fun l h=>(by cases h),fun _=>rfl⟩
  | some l=>
   obtain ⟨h2,h3⟩:=ih.1 l h1
   rw [h2]
   dsimp only
   rw [show gridG (fun i j=>dotI a b i j a.cols.toNat) b.cols.toNat n=dotI a b (n/b.cols.toNat) (n % b.cols.toNat) a.cols.toNat from rfl]
   cases h4:dotI a b (n/b.cols.toNat) (n % b.cols.toNat) a.cols.toNat with
   | none=>exact ⟨fun l h=>(by cases h),fun _=>hd.2 h4⟩
   | some x=>
    obtain ⟨h5,h6⟩:=hd.1 x h4
    rw [h5]
    refine ⟨fun l' h=>?_,fun h=>by cases h⟩
    injection h with h
    subst h
    exact ⟨O,fun y hy=>by
     rcases Qu.1 hy with hy|hy
     ·exact h3 y hy
     ·rw [Qm.1 hy];exact h6⟩
theorem X7s{m:Mx}(h:mOk m=true) : AllOk m:=by grind [AllOk,mOk]
theorem Xe6{m:Mx}(h:mOk m=true) : isDimB m.rows=true/\isDimB m.cols=true:=by grind [isDimB,mOk]
theorem Xfk{m:Mx}(hr:isDimB m.rows=true)(hc:isDimB m.cols=true)(hl:m.cells.length=m.rows.toNat*m.cols.toNat)(ha:AllOk m) : mOk m=true:=by
 have h1:=X45 hr;have h2:=X45 hc
 have h3:(m.cells.any fun x=>!dOk x)=false:=by
  rw [W7]
  intro x hx
  simp [ha x hx]
 have h4:wr (m.rows*m.cols)=(m.cells.length:Int):=by
  obtain ⟨r,hr⟩ : ∃ r:Nat,m.rows=r:=⟨m.rows.toNat,by omega⟩
  obtain ⟨c,hc⟩ : ∃ c:Nat,m.cols=c:=⟨m.cols.toNat,by omega⟩
  rw [hr] at h1
  rw [hc] at h2
  rw [hl,hr,hc]
  have h5:r*c<=32*32:=Nat.mul_le_mul Z Z
  rw [<- Int.natCast_mul,X0v Z Z]
  simp
 unfold mOk
 rw [hr,hc,h3,h4]
 simp
theorem X8d{n:Int}(h:1<=n/\n<=5) : isDimB ((2^n.toNat:Nat) : Int)=true:=by
 have:n=1∨n=2∨n=3∨n=4∨n=5:=by omega
 rcases this with rfl|rfl|rfl|rfl|rfl<;>decide
theorem Xb2{a b:Mx}(ha:mOk a=true)(hb:mOk b=true)(hab:a.cols=b.rows) : (∀ m,mulI a b=some m->timesS false a b=(false,m)/\mOk m=true/\m.rows=a.rows/\m.cols=b.cols)/\(mulI a b=none->(timesS false a b).1=true):=by
 have hd1:=(Xe6 ha).1;have hd2:=(Xe6 hb).2;have h:=X8k (X7s ha) (X7s hb) (a.rows.toNat*b.cols.toNat)
 unfold mulI matOf timesS
 rw [ha,hb,hd1,hd2,Q4 (by simp [hab]),Q4 (show (true&&true)=true from O)]
 cases h1:seqO (gridG (fun i j=>dotI a b i j a.cols.toNat) b.cols.toNat) (a.rows.toNat*b.cols.toNat) with
 | none=>exact ⟨fun m h=>(by cases h),fun _=>h.2 h1⟩
 | some l=>
  obtain ⟨h2,h3⟩:=h.1 l h1
  rw [h2]
  refine ⟨fun m hm=>?_,fun hm=>by cases hm⟩
  injection hm with hm
  subst hm
  exact ⟨O,Xfk hd1 hd2 (X66 h1) h3,O,O⟩
theorem Xb8{f:Nat->Dy} : ∀ n,seqO (fun m=>some (f m)) n=some ((List.range n).map f)
 | 0=>rfl
 | n+1=>by simp [seqO,Xb8 n,List.range_succ]
theorem Xa2{R C:Int}(hR:isDimB R=true)(hC:isDimB C=true)(f:Nat->Nat->Dy) : matOf R C (fun i j=>some (f i j))=some ⟨R,C,gridL f C.toNat (R.toNat*C.toNat)⟩:=by
 unfold matOf
 rw [hR,hC,Q4 (show (true&&true)=true from O)]
 have:gridG (fun i j=>some (f i j)) C.toNat=fun m=>some (gridF f C.toNat m):=rfl
 rw [this,Xb8]
 rfl
theorem Xe1{f g:Nat->Nat->Dy}{R C:Nat}(h:∀ i j,i<R->j<C->f i j=g i j) : gridL f C (R*C)=gridL g C (R*C):=by
 unfold gridL
 refine List.map_congr_left fun m hm=>?_
 have hm':=W2.1 hm
 have hC:0<C:=by
  rcases Nat.eq_zero_or_pos C with h0|h0
  ·subst h0;simp at hm'
  ·exact h0
 exact h _ _ (Nat.div_lt_of_lt_mul (by rw [Wi];exact hm')) (Nat.mod_lt _ hC)
theorem Xax{f:Nat->Nat->Dy}{R C:Nat}{x:Dy}(h:x ∈ gridL f C (R*C)) : ∃ i j,i<R/\j<C/\x=f i j:=by
 unfold gridL at h
 obtain ⟨m,hm,rfl⟩:=W6.1 h
 have hm':=W2.1 hm
 have hC:0<C:=by
  rcases Nat.eq_zero_or_pos C with h0|h0
  ·subst h0;simp at hm'
  ·exact h0
 exact ⟨_,_,Nat.div_lt_of_lt_mul (by rw [Wi];exact hm'),Nat.mod_lt _ hC,O⟩
def unitS(d:Nat) : Mx:=⟨(d:Int),(d:Int),gridL (fun i j=>if i=j then dPow 0 else dZ) d (d*d)⟩
theorem Xe3{d:Nat}(h:isDimB (d:Int)=true) : idI (d:Int)=some (unitS d)/\mOk (unitS d)=true:=by
 refine ⟨?_,?_⟩
 ·unfold idI
  rw [Xa2 h h (fun i j=>if i=j then ⟨⟨1,0,0,0⟩,0⟩ else dZ)]
  rfl
 ·refine Xfk h h (by simp [unitS,X56]) fun x hx=>?_;obtain ⟨i,j,_,_,rfl⟩:=Xax hx
  split
  ·rfl
  ·rfl
def bitT(p s:Nat) : Int:=bits .and .i64 ((s:Int)/2^p) 1
def flipT(p s:Nat) : Int:=bits .xor .i64 (s:Int) (wr (1*2^p))
def chkBits:Bool:=(List.range 5).all fun p=>(List.range 32).all fun s=>
 let f:=flipT p s
 Nat.blt f.toNat 32&&f==(f.toNat:Int)&&flipT p f.toNat==(s:Int)&&(bitT p f.toNat==1-bitT p s)&&(bitT p s==0||bitT p s==1) &&
 (List.range 5).all (fun q=>(q==p)||bitT q f.toNat==bitT q s) &&
 (List.range 5).all (fun q=>let g:=flipT q s;flipT p g.toNat==flipT q f.toNat) &&
 (List.range 32).all fun t=>(((t:Int)==s||f==(t:Int))==(bits .andNot .i64 (bits .xor .i64 (s:Int) (t:Int)) (wr (1*2^p))==0))
theorem Xbp:chkBits=true:=by kernel_rfl
def chkSmall:Bool:=(List.range 6).all fun n=>(List.range n).all fun q=>(List.range (2^n)).all fun s=>Nat.blt (flipT (n-1-q) s).toNat (2^n)
theorem Xae:chkSmall=true:=by kernel_rfl
structure BitsOk (p s:Nat) : Prop where
 nat:flipT p s=((flipT p s).toNat:Int)
 lt:(flipT p s).toNat<32
 back:flipT p (flipT p s).toNat=(s:Int)
 bit:bitT p (flipT p s).toNat=1-bitT p s
 other:∀ q<5,q≠p->bitT q (flipT p s).toNat=bitT q s
 comm:∀ q<5,flipT p (flipT q s).toNat=flipT q (flipT p s).toNat
 sel:∀ t:Nat,t<32->(((t:Int)=s∨flipT p s=(t:Int))↔bits .andNot .i64 (bits .xor .i64 (s:Int) (t:Int)) (wr (1*2^p))=0)
theorem X5c{p s:Nat}(hp:p<5)(hs:s<32) : BitsOk p s:=by
 have h:=Xbp
 simp only [chkBits,W1,W2] at h
 have h:=h p hp s hs
 simp only [Qd,W1,W2,beq_iff_eq,Bool.or_eq_true,Nat.blt_eq] at h
 obtain ⟨⟨⟨⟨⟨⟨⟨h1,h2⟩,h3⟩,h4⟩,_⟩,h6⟩,h7⟩,h8⟩:=h
 refine ⟨h2,h1,h3,h4,fun q hq hne=>(h6 q hq).resolve_left hne,h7,fun t ht=>?_⟩
 have h9:=h8 t ht
 rw [Bool.eq_iff_iff] at h9
 simpa using h9
theorem X5h{n q s:Nat}(hn:n<=5)(hq:q<n)(hs:s<2^n) : (flipT (n-1-q) s).toNat<2^n:=by
 have h:=Xae
 simp only [chkSmall,W1,W2] at h
 have h:=h n Z q hq s hs
 simpa [Nat.blt_eq] using h
theorem Xez{n q:Int}(s:Nat) : bitF n (s:Int) q=bitT (n-1-q).toNat s:=rfl
theorem X6k{n q:Int}(s:Nat) : flipF n (s:Int) q=flipT (n-1-q).toNat s:=rfl
theorem Xb9{n q:Int}(hq:0<=q)(hqn:q<n) : (n-1-q).toNat=n.toNat-1-q.toNat:=by omega
theorem Xd2{n:Int}{g:Gt}(hg:gOk n g=true){s:Nat}(hs:s<2^n.toNat)(hk:9<=g.k/\g.k<=11) : ∃ t:Nat,t<2^n.toNat/\toS n g s=(t:Int)/\toS n g t=(s:Int)/\(g.k=10->t=s):=by
 obtain ⟨hn,hk0,ha,hb⟩:=X2i hg
 have ha:=ha Z
 have hb:=hb hk
 have h32:2^n.toNat<=32:=X80 hn.2
 obtain ⟨p,hp⟩ : ∃ p,p=(n-1-g.a).toNat:=⟨_,O⟩
 obtain ⟨q,hq⟩ : ∃ q,q=(n-1-g.b).toNat:=⟨_,O⟩
 have hp5:p<5:=by omega
 have hq5:q<5:=by omega
 have hpq:p≠q:=by omega
 have hsm:∀ s,s<2^n.toNat->(flipT p s).toNat<2^n.toNat:=fun s hs=>by
  rw [hp,Xb9 Z Z]
  exact X5h Z Z hs
 have hsm2:∀ s,s<2^n.toNat->(flipT q s).toNat<2^n.toNat:=fun s hs=>by
  rw [hq,Xb9 Z Z]
  exact X5h Z Z hs
 unfold toS
 simp only [Xez,X6k,<- hp,<- hq]
 have Bp:=X5c (p:=p) (s:=s) hp5 Z
 have Bq:=X5c (p:=q) (s:=s) hq5 Z
 by_cases h9:g.k=9
 ·simp only [h9,if_true]
  by_cases hb1:bitT p s=1
  ·refine ⟨(flipT q s).toNat,hsm2 s hs,by rw [Q4 hb1];exact Bq.nat,?_,by omega⟩
   rw [Q4 (by rw [Bq.other p hp5 hpq];exact hb1)]
   exact Bq.back
  ·exact ⟨s,hs,by rw [Q3 hb1],by rw [Q3 hb1],by omega⟩
 ·simp only [h9,if_false]
  by_cases h11:g.k=11
  ·simp only [h11,if_true]
   by_cases hb1:bitT p s=bitT q s
   ·exact ⟨s,hs,by rw [Q3 (by simpa using hb1)],by rw [Q3 (by simpa using hb1)],by omega⟩
   ·have Bf:=X5c (p:=q) (s:=(flipT p s).toNat) hq5 Bp.lt
    have Bg:=X5c (p:=p) (s:=(flipT q (flipT p s).toNat).toNat) hp5 Bf.lt
    have e1:flipF n (flipT p s) g.b=flipT q (flipT p s).toNat:=by rw [Bp.nat,X6k,<- hq,Qj]
    refine ⟨(flipT q (flipT p s).toNat).toNat,hsm2 _ (hsm _ hs),?_,?_,by omega⟩
    ·rw [Q4 hb1,e1];exact Bf.nat
    ·have e2:bitT p (flipT q (flipT p s).toNat).toNat=1-bitT p s:=by rw [Bf.other p hp5 hpq,Bp.bit]
     have e3:bitT q (flipT q (flipT p s).toNat).toNat=1-bitT q s:=by rw [Bf.bit,Bp.other q hq5 (Ne.symm hpq)]
     have e4:flipT p (flipT q (flipT p s).toNat).toNat=flipT q (flipT p (flipT p s).toNat).toNat:=(X5c (p:=p) (s:=(flipT p s).toNat) hp5 Bp.lt).comm q hq5
     rw [Q4 (by rw [e2,e3];omega),e4,Bp.back,Qj,Bq.nat,X6k,<- hq,Bq.back]
  ·exact ⟨s,hs,by rw [Q3 h11],by rw [Q3 h11],fun _=>rfl⟩
theorem Xrl{k:Int}(h:1<=k/\k<=8){i j:Int}(hi:i=0∨i=1)(hj:j=0∨j=1) : (oneL k).getD (2*i+j).toNat dZ=entryI k i j:=by
 have:k=1∨k=2∨k=3∨k=4∨k=5∨k=6∨k=7∨k=8:=by omega
 rcases this with rfl|rfl|rfl|rfl|rfl|rfl|rfl|rfl<;>rcases hi with rfl|rfl<;>rcases hj with rfl|rfl<;>rfl
theorem Xon{n:Int}{g:Gt}(hg:gOk n g=true){i j:Nat}(hi:i<2^n.toNat)(hj:j<2^n.toNat) : cellI n g i j=cellS n g i j:=by
 obtain ⟨hn,hk0,ha,hb⟩:=X2i hg
 have h32:2^n.toNat<=32:=X80 hn.2
 unfold cellI cellS
 by_cases h12:g.k=12
 ·rw [Q4 h12,Q3 (show ¬ g.k<=8 by omega)]
  have e1:toS n g j=j:=by unfold toS;rw [Q3 (show ¬ g.k=9 by omega),Q3 (show ¬ g.k=11 by omega)]
  rw [e1]
  by_cases hij:(i:Int)=j
  ·rw [Q4 hij,Q4 hij,valS,Q4 h12]
  ·rw [Q3 hij,Q3 hij]
 ·rw [Q3 h12]
  by_cases h2:9<=g.k/\g.k<=11
  ·rw [Q4 (X0o.2 h2),Q3 (show ¬ g.k<=8 by omega)]
   obtain ⟨t,ht,e1,e2,e3⟩:=Xd2 hg hi h2;obtain ⟨t',ht',e1',e2',e3'⟩:=Xd2 hg hj h2
   by_cases hij:toS n g i=j
   ·have hts:(i:Int)=toS n g j:=by rw [<- e2,<- e1,hij]
    rw [Q4 hij,Q4 hts,valS,Q3 h12]
    by_cases h10:g.k=10
    ·have hij2:i=j:=by rw [e1] at hij;have:=e3 h10;omega
     subst hij2
     by_cases hc:bitF n i g.a=1/\bitF n i g.b=1
     ·rw [Q4 (by simp [czI,h10,hc]),Q4 ⟨h10,hc⟩];rfl
     ·have hc':¬ czI n g i=true:=by simp only [czI,h10,Qd,beq_iff_eq,true_and,and_assoc];exact hc
      rw [Q3 hc',Q3 (fun h=>hc h.2)];rfl
    ·have hc':¬ czI n g i=true:=by simp [czI,h10]
     rw [Q3 hc',Q3 (fun h=>h10 h.1)];rfl
   ·have hts:¬ (i:Int)=toS n g j:=fun h=>by
     rw [e1'] at h
     have h:i=t':=by omega
     subst h
     exact hij e2'
    rw [Q3 hij,Q3 hts]
  ·have h8:g.k<=8:=by omega
   have ha:=ha h12
   rw [Q3 (fun h=>h2 (X0o.1 h)),Q4 h8]
   have B:=X5c (p:=(n-1-g.a).toNat) (s:=i) Z Z
   have hs:=B.sel j Z
   rw [X6k]
   have e0:((i:Int)=j∨flipT (n-1-g.a).toNat i=(j:Int))↔((j:Int)=i∨flipT (n-1-g.a).toNat i=(j:Int)):=by
    constructor<;>rintro (h|h)<;>first|exact .inl h.symm|exact .inr h
   by_cases hz:bits .andNot .i64 (bits .xor .i64 (i:Int) (j:Int)) (wr (1*2^(n-1-g.a).toNat))=0
   ·rw [Q4 (e0.2 (hs.2 hz)),Q3 (fun h=>h hz)]
    exact (Xrl ⟨hk0.1,h8⟩ (X47 _ _ _) (X47 _ _ _)).symm
   ·rw [Q3 (fun h=>hz (hs.1 (e0.1 h))),Q4 hz]
theorem Xkf{k:Int}(h:1<=k/\k<=8){i j:Int}(hi:i=0∨i=1)(hj:j=0∨j=1) : dOk (entryI k i j)=true:=by
 have:k=1∨k=2∨k=3∨k=4∨k=5∨k=6∨k=7∨k=8:=by omega
 rcases this with rfl|rfl|rfl|rfl|rfl|rfl|rfl|rfl<;>rcases hi with rfl|rfl<;>rcases hj with rfl|rfl<;>rfl
theorem Xoo{n:Int}{g:Gt}(hg:gOk n g=true)(i j:Int) : dOk (cellI n g i j)=true:=by
 obtain ⟨hn,hk0,ha,hb⟩:=X2i hg
 unfold cellI
 split
 ·split<;>rfl
 ·split
  ·split
   ·split<;>rfl
   ·rfl
  ·rename_i h1 h2
   split
   ·exact Xkf (by have h3:¬ (9<=g.k/\g.k<=11):=fun h=>h2 (X0o.2 h);omega) (X47 _ _ _) (X47 _ _ _)
   ·rfl
theorem X95{n:Int}{g:Gt}(hg:gOk n g=true) : gateI n g=some (gateS n g)/\mOk (gateS n g)=true:=by
 have hn:=(X2i hg).1;have hd:=X8d hn
 have he:gridL (fun i j=>cellI n g i j) (2^n.toNat) (2^n.toNat*2^n.toNat)=gridL (fun i j=>cellS n g i j) (2^n.toNat) (2^n.toNat*2^n.toNat):=Xe1 fun i j hi hj=>Xon hg hi hj
 refine ⟨?_,?_⟩
 ·unfold gateI
  rw [Q4 hg,Xa2 hd hd (fun i j=>cellI n g i j)]
  simp only [Qj]
  rw [he]
  rfl
 ·refine Xfk hd hd (by simp only [gateS,X56,Qj]) fun x hx=>?_
  simp only [gateS] at hx
  rw [<- he] at hx
  obtain ⟨i,j,_,_,rfl⟩:=Xax hx;exact Xoo hg _ _
def applI(n:Int) : List Gt->Mx->Option Mx
 | [],m=>some m
 | g::l,m=>(mulI ((gateI n g).getD mZ) m).bind (applI n l)
def runS(n:Int)(f:Bool) : List Gt->Mx->Bool×Mx
 | [],m=>(f,m)
 | g::l,m=>if f=true then (f,m) else runS n (timesS false (gateS n g) m).1 l (timesS false (gateS n g) m).2
theorem X8f(n:Int) : ∀ (l:List Gt) (m:Mx),runS n true l m=(true,m)
 | [],_=>rfl
 | _::_,_=>rfl
theorem Xb6{n:Int} : ∀ (l:List Gt) (m:Mx),(∀ g ∈ l,gOk n g=true)->mOk m=true->m.rows=((2^n.toNat:Nat) : Int)->
  (∀ m',applI n l m=some m'->runS n false l m=(false,m')/\mOk m'=true/\m'.rows=((2^n.toNat:Nat) : Int))/\(applI n l m=none->(runS n false l m).1=true)
 | [],m,_,hm,hr=>⟨fun m' h=>(by injection h with h;subst h;exact ⟨rfl,hm,hr⟩),fun h=>by cases h⟩
 | g::l,m,hg,hm,hr=>by
  obtain ⟨h1,h2⟩:=X95 (hg g O5)
  have h3:=Xb2 h2 hm (by rw [hr];rfl)
  unfold applI runS
  rw [h1,Qq,Q3 O4]
  cases h4:mulI (gateS n g) m with
  | none=>
   rw [h3.2 h4,X8f]
   exact ⟨fun m' h=>(by cases h),fun _=>rfl⟩
  | some m1=>
   obtain ⟨h5,h6,h7,h8⟩:=h3.1 m1 h4
   rw [h5]
   exact Xb6 l m1 (fun g hg'=>hg g (by simp [hg'])) h6 (by rw [h7];rfl)
def opI(c:Cx) : Option Mx:=if cOk c=true then (idI ((2^c.n.toNat:Nat) : Int)).bind (applI c.n c.gs) else none
def opS(c:Cx) : Option Mx:=if cOk c=true then (if (runS c.n false c.gs (unitS (2^c.n.toNat))).1=true then none else some (runS c.n false c.gs (unitS (2^c.n.toNat))).2) else none
theorem X7h{c:Cx}(h:cOk c=true) : (1<=c.n/\c.n<=5)/\c.gs.length<=400/\∀ g ∈ c.gs,gOk c.n g=true:=by
 simp only [cOk,Qd,X0o,Qr,Bool.not_eq_true',W7] at h
 exact ⟨h.1.1,by omega,fun g hg=>by simpa using h.2 g hg⟩
theorem Xtz(c:Cx) : opI c=opS c/\∀ m,opS c=some m->mOk m=true/\m.rows=((2^c.n.toNat:Nat) : Int):=by
 unfold opI opS
 by_cases hc:cOk c=true
 ·obtain ⟨hn,_,hg⟩:=X7h hc;obtain ⟨h1,h2⟩:=Xe3 (X8d hn);have h3:=Xb6 c.gs _ hg h2 O
  rw [Q4 hc,Q4 hc,h1,Qz]
  cases h4:applI c.n c.gs (unitS (2^c.n.toNat)) with
  | none=>rw [h3.2 h4,Q4 rfl];exact ⟨rfl,fun m h=>by cases h⟩
  | some m'=>
   obtain ⟨h5,h6,h7⟩:=h3.1 m' h4
   rw [h5,Q3 (show ¬ (false=true) by decide)]
   exact ⟨O,fun m h=>(by injection h with h;subst h;exact ⟨h6,h7⟩)⟩
 ·rw [Q3 hc,Q3 hc]
  exact ⟨O,fun m h=>by cases h⟩
theorem X6q{x:Rg}(h:rOk x=true) : rEven x=true↔(x.a+x.c) % 2=0/\(x.b+x.d) % 2=0:=by
 rw [X3l] at h
 unfold rEven
 rw [X0v Z Z,X0v Z Z]
 simp only [Qd,beq_iff_eq]
 have key:∀ i:Int,i.tmod 2=0↔i % 2=0:=fun i=>by
  rw [<- Int.dvd_iff_tmod_eq_zero,<- Int.dvd_iff_emod_eq_zero]
 rw [key,key]
theorem Xdn{α:Type}{l:List α}{i:Nat}{u:α}(h:l[i]? = some u) : l.drop i=u::l.drop (i+1):=by
 obtain ⟨h1,h2⟩:=Qg.1 h
 rw [Qy h1,h2]
def unitP(d i:Nat) : List Dy:=(List.range (d*d)).map fun m=>if m/d=m % d/\m/d<i then dPow 0 else dZ
theorem Xbb(d i:Nat) : (unitP d i).length=d*d:=by simp [unitP]
theorem Xg4(d:Nat) : List.replicate (d*d) dZ=unitP d 0:=by
 unfold unitP
 apply List.ext_getElem
 ·simp
 ·intro k h1 h2
  simp
theorem Xg3{d i:Nat}(h:i<d) : (unitP d i).set (i*d+i) (dPow 0)=unitP d (i+1):=by
 have e1:(i*d+i)/d=i:=by rw [Wi,Nat.mul_add_div Z,Nat.div_eq_of_lt h];omega
 have e2:(i*d+i) % d=i:=by rw [Wi,Nat.mul_add_mod,Nat.mod_eq_of_lt h]
 unfold unitP
 apply List.ext_getElem
 ·simp
 ·intro k h1 h2
  simp only [List.length_set,Qo,List.length_range] at h1
  rw [List.getElem_set]
  split
  ·rename_i hk
   subst hk
   simp [e1,e2]
  ·rename_i hk
   simp only [List.getElem_map,List.getElem_range]
   have:(k/d=k % d/\k/d<i)↔(k/d=k % d/\k/d<i+1):=by
    constructor
    ·rintro ⟨h3,h4⟩;exact ⟨h3,by omega⟩
    ·rintro ⟨h3,h4⟩
     refine ⟨h3,?_⟩
     rcases W4 (k/d) i with h5|h5
     ·exact h5
     ·have h6:k/d=i:=by omega
      have h7:=Nat.div_add_mod k d
      rw [<- h3,h6] at h7
      exact absurd (show i*d+i=k by rw [Wi i d];exact h7) hk
   by_cases hc:k/d=k % d/\k/d<i
   ·rw [Q4 hc,Q4 (this.1 hc)]
   ·rw [Q3 hc,Q3 (fun h=>hc (this.2 h))]
theorem Xg2{d:Nat} : (unitS d).cells=unitP d d:=by
 unfold unitP unitS gridL
 refine List.map_congr_left fun m hm=>?_
 have hm':=W2.1 hm
 have h1:m/d<d:=Nat.div_lt_of_lt_mul hm'
 unfold gridF
 dsimp only
 by_cases hc:m/d=m % d
 ·rw [Q4 hc,Q4 ⟨hc,h1⟩]
 ·rw [Q3 hc,Q3 (fun h=>hc h.1)]
theorem Xdm:∀ (m:Nat) (x:Rg),0<=(dLow x m).exp/\(dLow x m).exp<=m
 | 0,x=>by rw [X2w Z];simp
 | m+1,x=>by
  by_cases he:rEven x=true
  ·rw [X43 Z he,show ((m+1:Nat) : Int)-1=(m:Int) from by omega]
   have:=Xdm m (rHalf x)
   omega
  ·rw [X2w fun _=>by simpa using he]
   dsimp only
   omega
theorem Xas{x:Rg}{e:Int}(h0:0<=e) : 0<=(dLow x e).exp/\(dLow x e).exp<=e:=by
 obtain ⟨m,rfl⟩ : ∃ m:Nat,e=m:=⟨e.toNat,by omega⟩
 exact Xdm m x
theorem Xei{f:Bool}{x y:Dy}(hx:0<=x.exp/\x.exp<=60)(hy:0<=y.exp/\y.exp<=60) : 0<=(sMul f x y).2.exp/\(sMul f x y).2.exp<=60:=by
 unfold sMul
 split
 ·exact ⟨Int.le_refl _,by decide⟩
 ·have:=Xas (x:=sRing (rMul x.num y.num)) (e:=x.exp+y.exp) Z
  dsimp only
  omega
theorem Xn8{f:Bool}{x y:Dy}(hx:0<=x.exp/\x.exp<=60)(hy:0<=y.exp/\y.exp<=60) : 0<=(sAdd f x y).2.exp/\(sAdd f x y).2.exp<=60:=by
 unfold sAdd
 dsimp only
 rw [X79]
 have:=fun z=>Xas (x:=z) (e:=x.exp+((y.exp-x.exp).toNat:Int)) Z
 have h:=this (sRing (rAdd (sRaiseN (y.exp-x.exp).toNat f x).2.num (sRaiseN (x.exp+((y.exp-x.exp).toNat:Int)-y.exp).toNat (sRaiseN (y.exp-x.exp).toNat f x).1 y).2.num))
 omega
theorem X9p{a b:Mx}(ha:AllOk a)(hb:AllOk b)(f:Bool)(i j:Nat) : ∀ n,0<=(dotS f a b i j n).2.exp/\(dotS f a b i j n).2.exp<=60
 | 0=>⟨Int.le_refl _,show (0:Int)<=60 by decide⟩
 | n+1=>by
  rw [dotS]
  split
  ·exact X9p ha hb f i j n
  ·exact Xn8 (X9p ha hb f i j n) (Xei (X6e (Mx.at_ok ha i n)) (X6e (Mx.at_ok hb n j)))
theorem Xou{a b:Mx}{f f3:Bool}{i j k n:Nat}{s:Dy}(h:dotS f a b i j k=(f3,s))(hk:k<=n)(he:f3=true∨k=n) : dotS f a b i j n=(f3,s):=by
 rcases he with he|he
 ·subst he
  rw [X9o (n:=k) (by rw [h]) n hk,h]
 ·subst he;exact h
theorem Xka{a b:Mx}{f f3:Bool}{i j k:Nat}{s:Dy}(h:dotS f a b i j k=(f3,s))(hf:f3=false) :
  dotS f a b i j (k+1)=((sAdd (sMul f3 (a.at i k) (b.at k j)).1 s (sMul f3 (a.at i k) (b.at k j)).2).1,(sAdd (sMul f3 (a.at i k) (b.at k j)).1 s (sMul f3 (a.at i k) (b.at k j)).2).2):=by grind [dotS,sAdd,sMul]
theorem X30{a b:Nat}(ha:a<=32)(hb:b<=32) : a*b<=1024:=Q0 (Nat.mul_le_mul ha hb) O4
theorem X74{α β:Type}{f:β->α->β}{b:β}{l:List α}{k:Nat}{u:α}(h:l[k]? = some u) : (l.take (k+1)).foldl f b=f ((l.take k).foldl f b) u:=by
 rw [Qt,h]
 simp
def lastN(l:List Int)(q:Int) : Nat->Int
 | 0=>0
 | k+1=>if l.getD k 0=q then (k:Int) else lastN l q k
section
variable {us : List Int} {j : Nat} {v q x k : Int}
end
section
end
instance:DecidableEq Rp:=fun a b=>decidable_of_iff (a.pos=b.pos/\a.old=b.old/\a.new=b.new) (by cases a;cases b;simp)
theorem Y38(w0:World)(d:Nat)(hd:d<=32) : Ret Tryz.prog 37 [vi (d:Int)] w0 (fun v w=>∃ A c,v=mV A c (unitS d)/\Own w w0.heap.size 78 5 encD A c (unitS d).cells/\Below w0.heap.size w0 w):=by
 have aO:d*d<=1024:=X30 hd hd
 refine enter Tryz.func37 O 27 O O ?_;intro a p
 have g:=bz w0
 refine Zs p fun _ aI=>?_;refine Zf (X03 (zs:=[vi 0,vi 0,.slice none 0 0]) X3a O) ?_;rintro _ w1 ⟨b3,rfl,aJ,o,b⟩;have a7:=Q0 g.size aJ;have g:=btr g o;refine Zx aI fun a p _ aK=>?_;refine Zm O<|Zm O<|Zm O<|Zm O<|Ze (Xal (m:=d) (k:=d) O O Z)<|Zf (X41 (m:=(d*d:Nat)) (enc:=encD) (z0:=dZ) O O X21 X31 X3d O X1x Z Z) ?_;rintro _ w2 ⟨x,rfl,aL,o,e⟩;have z:=Q0 g.size aL;have b:=b.bw o;have g:=btr g o;refine Ze (Xt (ps:=[(0,vi (d:Int)),(1,vi (d:Int)),(2,.slice (some ⟨x,0,none⟩) (d*d:Nat) (d*d:Nat))]) (cs:=[vi (d:Int),vi (d:Int),.slice (some ⟨x,0,none⟩) (d*d:Nat) (d*d:Nat)]) O (fun _=>by first|rfl|kernel_rfl)) ?_;refine ZB [vi (d:Int),vi (d:Int),.slice (some ⟨x,0,none⟩) (d*d:Nat) (d*d:Nat)] X3a X1o fun b9 w4 aM o f=>?_
 have aH:b3≠b9:=by have:=b.lt;omega
 have aN:=Q0 g.size aM;have b:=b.bw o;have e:=e.bw o;have g:=btr g o;refine ZX aK fun a p _ a8=>?_;refine Zs p fun _ aA=>?_;refine Za O<|Zt aA fun a p=>?_;refine Q8<|X00 (σ:=Nat×(List Dy)) (fun (s:Nat×(List Dy)) (a:Act) (w:World)=>match s with|(i,l)=>Fr a 27 [(0,vi (d:Int)),(2,(pZ9 b3)),(3,(pZ9 b9)),(4,vi (i:Int))]/\(i<=d)/\(l=unitP d i)/\Blk w b3 37 [vi 0,vi 0,.slice none 0 0]/\Blk w x 78 (l.flatMap encD)/\Blk w b9 37 [vi (d:Int),vi (d:Int),.slice (some ⟨x,0,none⟩) (d*d:Nat) (d*d:Nat)]/\Below w0.heap.size w0 w) (fun (s:Nat×(List Dy))=>match s with|(i,l)=>d-i) (0,List.replicate (d*d) dZ) ?_ ?_
 ·exact ⟨p.sb,(Qf _),(Xg4 d),b,e,f,g⟩
 rintro ⟨i,l⟩ a w5 ⟨p,hi,hl,b,e,f,g⟩;refine Q5 fun _ aB=>?_;refine Zs p fun _ aC=>?_;refine Zm O<|Zm O<|Ze (X1a O O)<|Zt aC fun a p=>?_
 refine X0z p O (fun a6 t=>?_) (fun a6 t=>?_)
 ·have q:i<d:=by have:=t;omega
  have aP:=X30 (show i<=32 by omega) hd
  refine Q7<|aB _ _<|Q5 fun _ aD=>?_;refine Q8<|Xl none (fun j=>[9].contains j) mixed ?_;intro w6 o;have b:=b.bw o;have e:=e.bw o;have f:=f.bw o;have g:=btr g o;refine Yb p<|Yo 0 O (fun _=>Vd O X1q 2)<|Ye 1 O (X0 O X3i (f.at 2))<|Yo 2 O (fun _=>X3 O)<|Yo 3 O (fun _=>X3 O)<|Yo 4 O (fun _=>Xal (m:=i) (k:=d) O O (by have:=X30 (show i<=32 by omega) hd;omega))<|Yo 5 O (fun _=>X3 O)<|Yo 6 O (fun _=>Xr O O Z Z)<|Y1 7 ?_;refine Yk O tv0 (Vc (Xd7 _ 0) X5v) (fun _ _ ⟨_,o⟩=>o) ?_;rintro _ w7 ⟨rfl,o⟩;have b:=b.bw o;have e:=e.bw o;have f:=f.bw o;have g:=btr g o;refine Yo 8 O (fun _=>X5b (k:=(i*d+i)) (off:=(i*d+i)*5) O O X21 X0i Z (X4y q q) O)<|Y1 9 ?_;refine Yh O tv0 O (X4v (enc:=encD) (l:=l) (u:=(dPow 0)) (k:=(i*d+i)) O O X0i e X1x X54 O (by rw [hl,Xbb];exact X4y q q)) ?_;rintro _ w8 ⟨ho,hb⟩;have b:=b.oz ho e O;have f:=f.oz ho e O;have g:=Below.oy g ho z;have e:=hb;refine Yd fun a p=>?_;refine X6<|aD _ _<|Zr p<|Zm O<|Ze (Xr O O Z Z)<|Za O ?_;refine Zn fun a p=>?_;refine Xc ?_;exact ⟨(i+1,(l.set (i*d+i) (dPow 0))),⟨p.sb,Z,(by rw [hl];exact Xg3 q),b,e,f,g⟩,O0⟩
 have q:i=d:=by have:=t;omega
 refine Q9<|Xg<|Xg<|X01 ?_;refine a8 _ _<|Zs p fun _ aE=>?_;refine Ze (Vn X1d f)<|Zo (Vw [vi (d:Int),vi (d:Int),.slice (some ⟨x,0,none⟩) (d*d:Nat) (d*d:Nat)] X1o b) ?_;rintro _ w9 ⟨ho,hb⟩;have e:=e.oz ho b O;have g:=Below.oy g ho a7;have b:=hb;refine Zt aE fun a p=>?_
 refine Q6 (X4 p (Xo p O (ResV.cellN (l:=[vi (d:Int),vi (d:Int),.slice (some ⟨x,0,none⟩) (d*d:Nat) (d*d:Nat)]) O X1d (b.at 0) O)) ?_)
 have aF:l.length=d*d:=by rw [hl,Xbb]
 have aG:d*d<=maxLen:=by simp only [maxLen];omega
 have h:(unitS d).cells=l:=by rw [Xg2,hl,q]
 exact ⟨(some ⟨x,0,none⟩),(d*d:Nat),by show _=Value.agg #[vi (d:Int),vi (d:Int),.slice _ (unitS d).cells.length _];rw [h,aF],by rw [h];exact (Own.of_flat X1x e z aF aG),g⟩
theorem Y33(w0:World)(bV:Nat)(f:Bool)(t:Blk w0 bV 84 [.bool f])(p:Mx)(Ap:Option Addr)(cp:Nat)(e:Rd w0 w0.heap.size 78 encD Ap p.cells)(q:Mx)(Aq:Option Addr)(cq:Nat)(g:Rd w0 w0.heap.size 78 encD Aq q.cells)(hp:mOk p=true)(hq:mOk q=true)(cY:p.cols=q.rows) : Ret Tryz.prog 84 [(pZ9 bV),.agg #[vi p.rows,vi p.cols,.slice Ap p.cells.length cp],.agg #[vi q.rows,vi q.cols,.slice Aq q.cells.length cq]] w0 (fun v w=>∃ A c1,v=mV A c1 ((timesS f p q).2)/\Own w w0.heap.size 78 5 encD A c1 ((timesS f p q).2).cells/\Kept bV w0.heap.size w0 w/\Blk w bV 84 [.bool ((timesS f p q).1)]):=by
 have cU:=t.lt;have b6:=X98 hp;have b8:=X98 hq;have aS:=X7s hp;have aT:=X7s hq
 have cZ:p.cells.length<=1024:=by rw [b6.2.2];exact X30 Z Z
 have d5:q.cells.length<=1024:=by rw [b8.2.2];exact X30 Z Z
 have cG:p.cols=(p.cols.toNat:Int):=by omega
 have cH:q.cols=(q.cols.toNat:Int):=by omega
 suffices hgoal:Ret Tryz.prog 84 [(pZ9 bV),.agg #[vi p.rows,vi (p.cols.toNat:Int),.slice Ap p.cells.length cp],.agg #[vi q.rows,vi (q.cols.toNat:Int),.slice Aq q.cells.length cq]] w0 (fun v w=>∃ A c1,v=.agg #[vi p.rows,vi (q.cols.toNat:Int),.slice A (timesS f p q).2.cells.length c1]/\Own w w0.heap.size 78 5 encD A c1 (timesS f p q).2.cells/\Kept bV w0.heap.size w0 w/\Blk w bV 84 [.bool (timesS f p q).1]) by rw [<- cG,<- cH] at hgoal;exact hgoal
 refine enter Tryz.func84 O 75 O O ?_;intro a J
 have I:Kept bV w0.heap.size w0 w0:=Kept.refl _ _ _
 refine Zs J fun _ cI=>?_;refine Zf (X0u (zs:=[vi p.rows,vi (p.cols.toNat:Int),.slice Ap p.cells.length cp]) O O) ?_;rintro _ w1 ⟨b4,rfl,cJ,D,x⟩;have cV:=Q0 I.size cJ;have t:=t.bw D;have e:=e.bw D;have g:=g.bw D;have I:=ktr I D;refine Zf (X0u (zs:=[vi q.rows,vi (q.cols.toNat:Int),.slice Aq q.cells.length cq]) O O) ?_;rintro _ w2 ⟨b5,rfl,cK,D,z⟩
 have cC:b4≠b5:=by have:=x.lt;omega
 have cW:=Q0 I.size cK;have t:=t.bw D;have x:=x.bw D;have e:=e.bw D;have g:=g.bw D;have I:=ktr I D;refine Zf (X03 (zs:=[vi 0,vi 0,.slice none 0 0]) X3a O) ?_;rintro _ w3 ⟨b7,rfl,cL,D,C⟩
 have cD:b4≠b7:=by have:=x.lt;omega
 have cE:b5≠b7:=by have:=z.lt;omega
 have b9:=Q0 I.size cL;have t:=t.bw D;have x:=x.bw D;have z:=z.bw D;have e:=e.bw D;have g:=g.bw D;have I:=ktr I D;refine Zx cI fun a J _ cM=>?_;refine Ze (Vd O X4a 0)<|Ze (X0 O X2 (x.at 0))<|Ze (Vd O X34 1)<|Ze (X0 O X2 (z.at 1))<|Ze (Xt (ps:=[(0,vi p.rows),(1,vi (q.cols.toNat:Int))]) (cs:=[vi p.rows,vi (q.cols.toNat:Int),.slice none 0 0]) O (fun _=>by first|rfl|kernel_rfl)) ?_;refine ZB [vi p.rows,vi (q.cols.toNat:Int),.slice none 0 0] X3a X1o fun b11 w5 bC D o=>?_
 have bD:b4≠b11:=by have:=x.lt;omega
 have bE:b5≠b11:=by have:=z.lt;omega
 have bF:b7≠b11:=by have:=C.lt;omega
 have aU:=Q0 I.size bC;have t:=t.bw D;have x:=x.bw D;have z:=z.bw D;have C:=C.bw D;have e:=e.bw D;have g:=g.bw D;have I:=ktr I D;refine ZX cM fun a J _ bG=>?_;refine Zs J fun _ bH=>?_;refine Za O<|Zt bH fun a J=>?_;refine Q8<|X00 (σ:=Nat×(List Dy)×Bool) (fun (s:Nat×(List Dy)×Bool) (a:Act) (w:World)=>match s with|(i,l,f1)=>∃ a7 a8,Fr a 75 [(0,(pZ9 bV)),(4,(pZ9 b4)),(5,(pZ9 b5)),(6,(pZ9 b7)),(7,(pZ9 b11)),(8,vi (i:Int))]/\((i:Int)<=p.rows)/\(timesL f p q (i*q.cols.toNat)=(f1,l))/\Blk w bV 84 [.bool f1]/\Blk w b4 37 [vi p.rows,vi (p.cols.toNat:Int),.slice Ap p.cells.length cp]/\Blk w b5 37 [vi q.rows,vi (q.cols.toNat:Int),.slice Aq q.cells.length cq]/\Blk w b7 37 [vi 0,vi 0,.slice none 0 0]/\Blk w b11 37 [vi p.rows,vi (q.cols.toNat:Int),.slice a7 l.length a8]/\Rd w w0.heap.size 78 encD Ap p.cells/\Rd w w0.heap.size 78 encD Aq q.cells/\Own w w0.heap.size 78 5 encD a7 a8 l/\Kept bV w0.heap.size w0 w) (fun (s:Nat×(List Dy)×Bool)=>match s with|(i,l,f1)=>(p.rows-i).toNat) (0,[],f) ?_ ?_
 ·exact ⟨none,0,J.sb,Z,O8,t,x,z,C,o,e,g,(Own.nil _ _ _ _ _),I⟩
 rintro ⟨i,l,f1⟩ a w6 ⟨a7,a8,J,hi,hl,t,x,z,C,o,e,g,aC,I⟩;refine Q5 fun _ bJ=>?_;refine Zs J fun _ bK=>?_;refine Zm O<|Ze (Vd O X4a 0)<|Ze (X0 O X2 (x.at 0))<|Ze (X1a O O)<|Zt bK fun a J=>?_
 refine X0z J O (fun N aH=>?_) (fun N aH=>?_)
 ·have bL:(i:Int)<p.rows:=aH
  refine Q7<|bJ _ _<|Q5 fun _ bM=>?_;refine Q8<|Zs J fun _ bN=>?_;refine Za O<|Zt bN fun a J=>?_;refine Q8<|X00 (σ:=Nat×(List Dy)×Bool) (fun (s:Nat×(List Dy)×Bool) (a:Act) (w:World)=>match s with|(j,l2,f2)=>∃ aE aF,Fr a 75 [(0,(pZ9 bV)),(4,(pZ9 b4)),(5,(pZ9 b5)),(6,(pZ9 b7)),(7,(pZ9 b11)),(8,vi (i:Int)),(9,vi (j:Int))]/\(j<=q.cols.toNat)/\(timesL f p q (i*q.cols.toNat+j)=(f2,l2))/\Blk w bV 84 [.bool f2]/\Blk w b4 37 [vi p.rows,vi (p.cols.toNat:Int),.slice Ap p.cells.length cp]/\Blk w b5 37 [vi q.rows,vi (q.cols.toNat:Int),.slice Aq q.cells.length cq]/\Blk w b7 37 [vi 0,vi 0,.slice none 0 0]/\Blk w b11 37 [vi p.rows,vi (q.cols.toNat:Int),.slice aE l2.length aF]/\Rd w w0.heap.size 78 encD Ap p.cells/\Rd w w0.heap.size 78 encD Aq q.cells/\Own w w0.heap.size 78 5 encD aE aF l2/\Kept bV w0.heap.size w0 w) (fun (s:Nat×(List Dy)×Bool)=>match s with|(j,l2,f2)=>q.cols.toNat-j) (0,l,f1) ?_ ?_
  ·exact ⟨a7,a8,J.sb,(Qf _),hl,t,x,z,C,o,e,g,aC,I⟩
  rintro ⟨j,l2,f2⟩ a w7 ⟨aE,aF,J,hj,aL,t,x,z,C,o,e,g,E,I⟩;refine Q5 fun _ bO=>?_;refine Zs J fun _ bP=>?_;refine Zm O<|Ze (Vd O X34 1)<|Ze (X0 O X2 (z.at 1))<|Ze (X1a O O)<|Zt bP fun a J=>?_
  refine X0z J O (fun Q aI=>?_) (fun Q aI=>?_)
  ·have aM:j<q.cols.toNat:=by have:=aI;omega
   have cX:l2.length=i*q.cols.toNat+j:=by have:=Xac f p q (i*q.cols.toNat+j);rw [aL] at this;exact this
   have d6:=X30 (show i<=32 by omega) (show q.cols.toNat<=32 by omega)
   have aV:=Xes (f:=f) (a:=p) (b:=q) (i:=i) aM
   rw [aL] at aV
   refine Q7<|bO _ _<|Q5 fun _ bQ=>?_;refine Q8<|Zs J fun _ bR=>?_;refine Ze (Xt (ps:=[]) (cs:=[vi 0,vi 0,vi 0,vi 0,vi 0]) O (fun _=>by first|rfl|kernel_rfl)) ?_;refine ZB [vi 0,vi 0,vi 0,vi 0,vi 0] X3d X0i fun aN w9 aQ D B=>?_;have aA:=Q0 I.size aQ;have a6:=E.away aQ;have t:=t.bw D;have x:=x.bw D;have z:=z.bw D;have C:=C.bw D;have o:=o.bw D;have e:=e.bw D;have g:=g.bw D;have E:=E.bw D;have I:=ktr I D;refine ZX bR fun a J _ bS=>?_;refine Zs J fun _ bU=>?_;refine Za O<|Zt bU fun a J=>?_;refine Q8<|X00 (σ:=Nat×Dy×Bool) (fun (s:Nat×Dy×Bool) (a:Act) (w:World)=>match s with|(k,sum,M)=>Fr a 75 [(0,(pZ9 bV)),(4,(pZ9 b4)),(5,(pZ9 b5)),(6,(pZ9 b7)),(7,(pZ9 b11)),(8,vi (i:Int)),(9,vi (j:Int)),(10,(pZ9 aN)),(11,vi (k:Int))]/\(k<=p.cols.toNat)/\(dotS f2 p q i j k=(M,sum))/\Blk w bV 84 [.bool M]/\Blk w b4 37 [vi p.rows,vi (p.cols.toNat:Int),.slice Ap p.cells.length cp]/\Blk w b5 37 [vi q.rows,vi (q.cols.toNat:Int),.slice Aq q.cells.length cq]/\Blk w b7 37 [vi 0,vi 0,.slice none 0 0]/\Blk w b11 37 [vi p.rows,vi (q.cols.toNat:Int),.slice aE l2.length aF]/\Blk w aN 78 [vi sum.num.a,vi sum.num.b,vi sum.num.c,vi sum.num.d,vi sum.exp]/\Rd w w0.heap.size 78 encD Ap p.cells/\Rd w w0.heap.size 78 encD Aq q.cells/\Own w w0.heap.size 78 5 encD aE aF l2/\Kept bV w0.heap.size w0 w) (fun (s:Nat×Dy×Bool)=>match s with|(k,sum,M)=>p.cols.toNat-k) (0,dZ,f2) ?_ ?_
   ·exact ⟨J.sb,(Qf _),O,t,x,z,C,o,B,e,g,E,I⟩
   rintro ⟨k,sum,M⟩ a cN ⟨J,hk,hs,t,x,z,C,o,B,e,g,E,I⟩
   have cO:0<=sum.exp/\sum.exp<=60:=by have:=X9p aS aT f2 i j k;rw [hs] at this;exact this
   refine Q5 fun _ bW=>?_;refine Q5 fun _ bX=>?_;refine X0p (fun a w=>Fr a 75 [(0,(pZ9 bV)),(4,(pZ9 b4)),(5,(pZ9 b5)),(6,(pZ9 b7)),(7,(pZ9 b11)),(8,vi (i:Int)),(9,vi (j:Int)),(10,(pZ9 aN)),(11,vi (k:Int)),(40,.bool ((decide ((k:Int)<(p.cols.toNat:Int)))&&(!M)))]/\cN=w) ?_ ?_
   ·refine Zr J<|Zm O<|Ze (Vd O X34 1)<|Ze (X0 O X2 (x.at 1))<|Ze (X1a O O)<|Zm O ?_
    refine Zg 34 O (fun H=>?_) (fun H=>?_)
    ·refine Zv (gW H) (X3 O) ?_;refine Zv (gW H) (Xw O) ?_;refine Zv (gW H) (Vd O X3w 0) ?_;refine Zv (gW H) (X0 O X4d (t.at 0)) ?_;refine Zv (gW H) (X1w O) ?_;refine Ze (Xa O H O) ?_;refine Zn fun a J=>?_;exact ⟨J.sub ⟨O,O,O,O,O,O,O,O,O,X1 O (by first|rfl|(simp only [N,Q,H,bs];done)|simp [N,Q,H]),trivial⟩,O⟩
    (iterate 5 refine Zp (gP H) ?_);refine Ze (Xh O H O) ?_;refine Zn fun a J=>?_;exact ⟨J.sub ⟨O,O,O,O,O,O,O,O,O,X1 O (by first|rfl|(simp only [N,Q,H,bs];done)|simp [N,Q,H]),trivial⟩,O⟩
   rintro a _ ⟨J,rfl⟩;refine bX _ _ ?_
   refine Xz J O (fun aD=>?_) (fun aD=>?_)
   ·have cP:(k:Int)<(p.cols.toNat:Int)/\M=false:=by simpa using aD
    have d7:k<p.cols.toNat:=by omega
    have d8:=X30 (show i<=32 by omega) (show p.cols.toNat<=32 by omega)
    have dA:=X30 (show k<=32 by omega) (show q.cols.toNat<=32 by omega)
    have cQ:=Xka hs cP.2;refine Q7<|bW _ _<|Q5 fun _ bY=>?_;refine Q8<|Xl (some bV) (fun j=>[25].contains j) mixed ?_;intro dB D;have t:=t.bw D;have x:=x.bw D;have z:=z.bw D;have C:=C.bw D;have o:=o.bw D;have B:=B.bw D;have e:=e.bw D;have g:=g.bw D;have E:=E.bw D;have I:=ktr I D;refine Yb J<|Yo 0 O (fun _=>X3 O) ?_;refine Yw 1 O tv0 (fun w1 h1=>X09 (l:=[vi sum.num.a,vi sum.num.b,vi sum.num.c,vi sum.num.d,vi sum.exp]) O X04 ((B.oz h1 t O).at 0) O) ?_;refine Yo 2 O (fun _=>X3 O)<|Yo 3 O (fun _=>Vd O X1q 2) ?_;refine Yw 4 O tv0 (fun w1 h1=>X0 O X3i ((x.oz h1 t O).at 2)) ?_;refine Yo 5 O (fun _=>X3 O)<|Yo 6 O (fun _=>Vd O X34 1) ?_;refine Yw 7 O tv0 (fun w1 h1=>X0 O X2 ((x.oz h1 t O).at 1)) ?_;refine Yo 8 O (fun _=>Xal (m:=i) (k:=p.cols.toNat) O O (by have:=X30 (show i<=32 by omega) (show p.cols.toNat<=32 by omega);omega))<|Yo 9 O (fun _=>X3 O)<|Yo 10 O (fun _=>Xr O O Z Z) ?_;refine Ya (k:=(i*p.cols.toNat+k)) (u:=(p.at i k)) (enc:=encD) (l:=p.cells) 11 O tv0 t O O O X21 X0i X1x e (Mx.at_get (by rw [b6.2.2];exact X4y Z Z)) Z ?_;intro dC aW aO;refine Yw 12 O tv0 (fun w1 h1=>X09 (l:=[vi ((p.at i k).num.a),vi ((p.at i k).num.b),vi ((p.at i k).num.c),vi ((p.at i k).num.d),vi ((p.at i k).exp)]) O X04 (aW.oy h1 aO) O) ?_;refine Yo 13 O (fun _=>Vd O X1q 2) ?_;refine Yw 14 O tv0 (fun w1 h1=>X0 O X3i ((z.oz h1 t O).at 2)) ?_;refine Yo 15 O (fun _=>X3 O)<|Yo 16 O (fun _=>Vd O X34 1) ?_
    refine Yw 17 O tv0 (fun w1 h1=>X0 O X2 ((z.oz h1 t O).at 1)) ?_;refine Yo 18 O (fun _=>Xal (m:=k) (k:=q.cols.toNat) O O (by have:=X30 (show k<=32 by omega) (show q.cols.toNat<=32 by omega);omega))<|Yo 19 O (fun _=>X3 O)<|Yo 20 O (fun _=>Xr O O Z Z) ?_;refine Ya (k:=(k*q.cols.toNat+j)) (u:=(q.at k j)) (enc:=encD) (l:=q.cells) 21 O tv0 t O O O X21 X0i X1x g (Mx.at_get (by rw [b8.2.2];exact X4y Z Z)) Z ?_;intro dD aX aP;refine Yw 22 O tv0 (fun w1 h1=>X09 (l:=[vi ((q.at k j).num.a),vi ((q.at k j).num.b),vi ((q.at k j).num.c),vi ((q.at k j).num.d),vi ((q.at k j).exp)]) O X04 (aX.oy h1 aP) O) ?_;refine Y1 23<|Yf O tv0 (EfW.mono (Vc (Y3c _ bV M t (p.at i k) (q.at k j) (X6e (Mx.at_ok aS i k)) (X6e (Mx.at_ok aT k j))) Xw8) (fun _ _ h=>⟨fun _=>by obtain ⟨rfl,hK,aB⟩:=h;exact hK.keep,h⟩)) ?_;rintro _ dE ⟨rfl,hK,aB⟩;obtain ⟨wm,W,hm,D⟩:=hK.mid;clear hm;have G:=t;have x:=x.oz W G O;have z:=z.oz W G O;have C:=C.oz W G O;have o:=o.oz W G O;have B:=B.oz W G O;have e:=e.oT W G O;have g:=g.oT W G O;have E:=E.oT W G O;have I:=I.self W;have x:=x.bw D;have z:=z.bw D;have C:=C.bw D;have o:=o.bw D;have B:=B.bw D;have e:=e.bw D;have g:=g.bw D;have E:=E.bw D;have I:=ktr I D
    clear G D W hK;have t:=aB;clear aB;refine Y1 24<|Yf O tv0 (EfW.mono (Vc (Y3b _ bV ((sMul M (p.at i k) (q.at k j)).1) t sum ((sMul M (p.at i k) (q.at k j)).2) cO (Xei (X6e (Mx.at_ok aS i k)) (X6e (Mx.at_ok aT k j)))) Xw7) (fun _ _ h=>⟨fun _=>by obtain ⟨rfl,hK,aB⟩:=h;exact hK.keep,h⟩)) ?_;rintro _ dF ⟨rfl,hK,aB⟩;obtain ⟨wm,W,hm,D⟩:=hK.mid;clear hm;have G:=t;have x:=x.oz W G O;have z:=z.oz W G O;have C:=C.oz W G O;have o:=o.oz W G O;have B:=B.oz W G O;have e:=e.oT W G O;have g:=g.oT W G O;have E:=E.oT W G O;have I:=I.self W;have x:=x.bw D;have z:=z.bw D;have C:=C.bw D;have o:=o.bw D;have B:=B.bw D;have e:=e.bw D;have g:=g.bw D;have E:=E.bw D;have I:=ktr I D
    clear G D W hK;have t:=aB;clear aB;refine Y1 25<|Yh O tv0 O (Vw [vi (((sAdd ((sMul M (p.at i k) (q.at k j)).1) sum ((sMul M (p.at i k) (q.at k j)).2)).2).num.a),vi (((sAdd ((sMul M (p.at i k) (q.at k j)).1) sum ((sMul M (p.at i k) (q.at k j)).2)).2).num.b),vi (((sAdd ((sMul M (p.at i k) (q.at k j)).1) sum ((sMul M (p.at i k) (q.at k j)).2)).2).num.c),vi (((sAdd ((sMul M (p.at i k) (q.at k j)).1) sum ((sMul M (p.at i k) (q.at k j)).2)).2).num.d),vi (((sAdd ((sMul M (p.at i k) (q.at k j)).1) sum ((sMul M (p.at i k) (q.at k j)).2)).2).exp)] X0i B) ?_;rintro _ dG ⟨U,hb⟩;have t:=t.oz U B O;have x:=x.oz U B O;have z:=z.oz U B O;have C:=C.oz U B O;have o:=o.oz U B O;have e:=e.oy U aA;have g:=g.oy U aA;have E:=E.onlyA U a6;have I:=Kept.oy I U aA;have B:=hb;refine Yd fun a J=>?_;refine X6<|bY _ _<|Zr J<|Zm O<|Ze (Xr O O Z Z)<|Za O ?_;refine Zn fun a J=>?_;refine Xc ?_;exact ⟨(k+1,(sAdd (sMul M (p.at i k) (q.at k j)).1 sum (sMul M (p.at i k) (q.at k j)).2).2,(sAdd (sMul M (p.at i k) (q.at k j)).1 sum (sMul M (p.at i k) (q.at k j)).2).1),⟨J.sb,Z,cQ,t,x,z,C,o,B,e,g,E,I⟩,O0⟩
   have cR:=aD
   have bZ:M=true∨k=p.cols.toNat:=by (cases M with|true=>exact .inl rfl|false=>exact .inr (by have h9:¬ (k:Int)<(p.cols.toNat:Int):=(by simpa using aD);omega))
   have cS:=Xou hs hk bZ
   rw [cS] at aV
   refine Q9<|Xg<|Xg<|X01 ?_;refine bS _ _<|Zr J<|Ze (Vd O X1q 2)<|Ze (X0 O X3i (o.at 2))<|Ze (Vn X04 B)<|Zf (X9 (k:=1) (vs:=[.agg #[vi sum.num.a,vi sum.num.b,vi sum.num.c,vi sum.num.d,vi sum.exp]]) (zs:=[vi sum.num.a,vi sum.num.b,vi sum.num.c,vi sum.num.d,vi sum.exp]) O X21 X31 O O) ?_;rintro _ dH ⟨b38,rfl,aR,D,aJ⟩
   have b1:aN≠b38:=by have:=B.lt;omega
   have cT:=Q0 I.size aR;have aG:=E.away aR;have t:=t.bw D;have x:=x.bw D;have z:=z.bw D;have C:=C.bw D;have o:=o.bw D;have B:=B.bw D;have e:=e.bw D;have g:=g.bw D;have E:=E.bw D;have I:=ktr I D;refine Zf (X15 (enc:=encD) (l:=(l2)) (l2:=([sum])) (B0:=w0.heap.size) O O X21 X31 X1x X54 E (Rd.of_blk aJ O _ aJ.lt) (by simp only [maxLen];simp;omega) O6 I.size) ?_;rintro _ dI ⟨aY,aZ,rfl,aK,hg,b0⟩
   have L:Own _ w0.heap.size 78 5 encD _ _ (l2):=E
   have b2:=b0 _ B.lt a6;have b3:=b0 _ aJ.lt aG;clear b0;have t:=t.appT L hg O;have x:=x.appT L hg O;have z:=z.appT L hg O;have C:=C.appT L hg O;have o:=o.appT L hg O;have e:=e.appB L hg (Qb _);have g:=g.appB L hg (Qb _);have I:=Kept.app I L hg (Qb _) I.size;clear L hg;refine Ze (Vd O X1q 2)<|Zo (Vu (vs:=[.slice aY (l2++([sum])).length aZ]) (l':=[vi p.rows,vi (q.cols.toNat:Int),.slice aY (l2++([sum])).length aZ]) O O Xa9 o) ?_;rintro _ dJ ⟨U,hb⟩;have t:=t.oz U o O;have x:=x.oy U Z;have z:=z.oy U Z;have C:=C.oy U Z;have e:=e.oT U o O;have g:=g.oT U o O;have aK:=aK.oT U o O;have I:=Kept.oy I U aU;have o:=hb;refine Zn fun a J=>?_;refine X6<|bQ _ _<|Zr J<|Zm O<|Ze (Xr O O Z Z)<|Za O ?_;refine Zn fun a J=>?_;refine Xc ?_;exact ⟨(j+1,l2++[sum],M),⟨aY,aZ,J.sb,Z,aV,t,x,z,C,o,e,g,aK,I⟩,O0⟩
  have aM:j=q.cols.toNat:=by have:=aI;omega
  refine Q9<|Xg<|Xg<|X01 ?_;refine X6<|bM _ _<|Zr J<|Zm O<|Ze (Xr O O Z Z)<|Za O ?_;refine Zn fun a J=>?_;refine Xc ?_;exact ⟨(i+1,l2,f2),⟨aE,aF,J.sb,Z,(by rw [Wb,Nat.one_mul,<- aM];rw [<- aM] at aL;exact aL),t,x,z,C,o,e,g,E,I⟩,O0⟩
 have bL:i=p.rows.toNat:=by have:=aH;omega
 refine Q9<|Xg<|Xg<|X01 ?_;refine bG _ _<|Zs J fun _ cA=>?_;refine Ze (Vn X1d o)<|Zo (Vw [vi p.rows,vi (q.cols.toNat:Int),.slice a7 l.length a8] X1o C) ?_;rintro _ dK ⟨U,hb⟩;have t:=t.oz U C O;have aC:=aC.oT U C O;have I:=Kept.oy I U b9;have C:=hb;refine Zt cA fun a J=>?_
 refine Q6 (X4 J (Xo J O (ResV.cellN (l:=[vi p.rows,vi (q.cols.toNat:Int),.slice a7 l.length a8]) O X1d (C.at 0) O)) ?_)
 have cB:timesS f p q=(f1,⟨p.rows,q.cols,l⟩):=by rw [timesS,<- bL,hl]
 rw [cB]
 exact ⟨a7,a8,O,aC,I,t⟩
theorem Y37(w0:World)(bV:Nat)(f:Bool)(e:Blk w0 bV 84 [.bool f])(c:Cx)(Ac:Option Addr)(cc:Nat)(d:Rd w0 w0.heap.size 66 encG Ac c.gs)(m:Mx)(Am:Option Addr)(cm:Nat)(C:Rd w0 w0.heap.size 78 encD Am m.cells)(hc:cOk c=true)(hm:mOk m=true)(hr:m.rows=((2^c.n.toNat:Nat) : Int)) : Ret Tryz.prog 36 [(pZ9 bV),.agg #[vi c.n,.slice Ac c.gs.length cc],.agg #[vi m.rows,vi m.cols,.slice Am m.cells.length cm]] w0 (fun v w=>∃ A c1,v=mV A c1 ((runS c.n f c.gs m).2)/\Rd w w.heap.size 78 encD A ((runS c.n f c.gs m).2).cells/\Kept bV w0.heap.size w0 w/\Blk w bV 84 [.bool ((runS c.n f c.gs m).1)]):=by
 have b8:=e.lt;obtain ⟨hn,b9,aW⟩:=X7h hc;refine enter Tryz.func36 O 30 O O ?_;intro a B
 have z:Kept bV w0.heap.size w0 w0:=Kept.refl _ _ _
 refine Zs B fun _ aX=>?_;refine Zf (X0u (zs:=[vi c.n,.slice Ac c.gs.length cc]) O O) ?_;rintro _ w1 ⟨b4,rfl,aY,i,o⟩;have bC:=Q0 z.size aY;have e:=e.bw i;have d:=d.bw i;have C:=C.bw i;have z:=ktr z i;refine Zf (X0u (zs:=[vi m.rows,vi m.cols,.slice Am m.cells.length cm]) O O) ?_;rintro _ w2 ⟨b5,rfl,aZ,i,g⟩;have aG:=Q0 z.size aZ;have e:=e.bw i;have o:=o.bw i;have d:=d.bw i;have C:=C.bw i;have z:=ktr z i;refine Zf (X03 (zs:=[vi 0,vi 0,.slice none 0 0]) X3a O) ?_;rintro _ w3 ⟨b7,rfl,b0,i,p⟩
 have aV:b5≠b7:=by have:=g.lt;omega
 have aH:=Q0 z.size b0;have e:=e.bw i;have o:=o.bw i;have g:=g.bw i;have d:=d.bw i;have C:=C.bw i;have z:=ktr z i;refine ZX aX fun a B _ b1=>?_;refine Zs B fun _ b2=>?_;refine Ze (Vd O X38 1)<|Ze (X0 O X69 (o.at 1))<|Ze (X11 O X3q)<|Zm O<|Zt b2 fun a B=>?_;refine Q8<|X00 (σ:=Nat×Mx×Bool) (fun (s:Nat×Mx×Bool) (a:Act) (w:World)=>match s with|(k,x,D)=>∃ G I,Fr a 30 [(0,(pZ9 bV)),(4,(pZ9 b4)),(5,(pZ9 b5)),(6,(pZ9 b7)),(10,.slice Ac c.gs.length cc),(11,vi (c.gs.length:Int)),(12,vi (k:Int))]/\(runS c.n D (c.gs.drop k) x=runS c.n f c.gs m)/\(D=false->mOk x=true/\x.rows=((2^c.n.toNat:Nat) : Int))/\(k<=c.gs.length)/\Blk w bV 84 [.bool D]/\Blk w b4 26 [vi c.n,.slice Ac c.gs.length cc]/\Blk w b5 37 [vi x.rows,vi x.cols,.slice G x.cells.length I]/\Blk w b7 37 [vi 0,vi 0,.slice none 0 0]/\Rd w w0.heap.size 66 encG Ac c.gs/\Rd w w.heap.size 78 encD G x.cells/\Kept bV w0.heap.size w0 w) (fun (s:Nat×Mx×Bool)=>match s with|(k,x,D)=>c.gs.length-k) (0,m,f) ?_ ?_
 ·exact ⟨Am,cm,B.sb,O,(fun _=>⟨hm,hr⟩),(Qf _),e,o,g,p,d,C.top,z⟩
 rintro ⟨k,x,D⟩ a w4 ⟨G,I,B,N,a6,hk,e,o,g,p,d,t,z⟩;refine Zs B fun _ aI=>?_;refine Ze (X1a O O)<|ZX aI fun a B _ aJ=>?_
 refine X0z B O (fun aA aK=>?_) (fun aA aK=>?_)
 ·obtain ⟨q,Q⟩:=X8 (l:=c.gs) (k:=k) Z
  have aL:=aW q (Qe Q);obtain ⟨bD,aM⟩:=X95 aL;have b3:=Xdn Q;refine Q7<|aJ _ _<|Q5 fun _ a8=>?_;refine Q8<|Zs B fun _ aN=>?_;refine Zi (k:=k) (u:=q) (enc:=encG) (l:=c.gs) tv0 O O X3q X2t X3u d Q O ?_;intro bE aB;refine Ze (X09 (l:=[vi q.k,vi q.a,vi q.b]) O X28 aB O) ?_;refine ZB [vi q.k,vi q.a,vi q.b] X87 X2t fun bF w6 aO i L=>?_;have b6:=Q0 z.size aO;have e:=e.bw i;have o:=o.bw i;have g:=g.bw i;have p:=p.bw i;have d:=d.bw i;have t:=t.bw i;have z:=ktr z i;refine Zx aN fun a B _ aP=>?_;refine Zm O<|Ze (Xw O)<|Ze (Vd O X3w 0)<|Ze (X0 O X4d (e.at 0))<|Ze (X1w O)<|Zt aP fun a B=>?_
  refine Xz B O (fun U=>?_) (fun U=>?_)
  ·have H:D=false:=by simpa using U
   have a7:=Xb2 aM (a6 H).1 (by rw [(a6 H).2];rfl)
   have aC:runS c.n D (c.gs.drop k) x=runS c.n (timesS D (gateS c.n q) x).1 (c.gs.drop (k+1)) (timesS D (gateS c.n q) x).2:=by rw [H,b3,runS,Q3 O4]
   refine Xl (some bV) (fun j=>[7].contains j) mixed ?_;intro w7 i;have e:=e.bw i;have o:=o.bw i;have g:=g.bw i;have p:=p.bw i;have L:=L.bw i;have d:=d.bw i;have t:=t.bw i;have z:=ktr z i;refine Yb B<|Yo 0 O (fun _=>X3 O)<|Yo 1 O (fun _=>Vd O X2f 0) ?_;refine Yw 2 O tv0 (fun w1 W=>X0 O X2 ((o.oz W e O).at 0)) ?_;refine Yw 3 O tv0 (fun w1 W=>X09 (l:=[vi q.k,vi q.a,vi q.b]) O X28 ((L.oz W e O).at 0) O) ?_;refine Yw 5 O tv0 (fun w1 W=>X09 (l:=[vi x.rows,vi x.cols,.slice G x.cells.length I]) O X1d ((g.oz W e O).at 0) O) ?_;refine Y1 4<|Yf O tv0 (EfW.mono (Vc (Y32 _ c.n q aL) Xvx) (fun _ _ h=>⟨fun _=>by obtain ⟨aQ,aR,rfl,M,i⟩:=h;exact Keep.of_below i,h⟩)) ?_;rintro _ w8 ⟨aQ,aR,rfl,M,i⟩;have M:=M.lower z.size;have e:=e.bw i;have o:=o.bw i;have g:=g.bw i;have p:=p.bw i;have d:=d.bw i;have t:=t.bw i;have z:=ktr z i;refine Y1 6<|Yf O tv0 (EfW.mono (Vc (Y33 _ bV D e (gateS c.n q) aQ aR M.rd.top x G I t.top aM (a6 H).1 (by rw [(a6 H).2];rfl)) Xvy) (fun _ _ h=>⟨fun _=>by obtain ⟨aD,aE,rfl,E,hK,aF⟩:=h;exact hK.keep,h⟩)) ?_;rintro _ w9 ⟨aD,aE,rfl,E,hK,aF⟩;have aS:=z.size;obtain ⟨wm,hO,hm,i⟩:=hK.mid;clear hm;have J:=e;have o:=o.oz hO J O;have g:=g.oz hO J O;have p:=p.oz hO J O;have d:=d.oT hO J O;have z:=z.self hO;have o:=o.bw i;have g:=g.bw i;have p:=p.bw i;have d:=d.bw i
   have z:=ktr z i
   clear J i hO hK;have e:=aF;clear aF
   have E:=E.lower aS;clear aS;refine Y1 7<|Yh O tv0 O (Vw [vi (((timesS D (gateS c.n q) x).2).rows),vi (((timesS D (gateS c.n q) x).2).cols),.slice aD (((timesS D (gateS c.n q) x).2).cells).length aE] X1o g) ?_;rintro _ bG ⟨ho,hb⟩;have e:=e.oz ho g O;have o:=o.oz ho g O;have p:=p.oy ho Z;have d:=d.oT ho g O;have E:=E.oT ho g O;have z:=Kept.oy z ho aG;have g:=hb;refine Yd fun a B=>?_;refine X6<|a8 _ _<|Zr B<|Ze (Xr O O Z Z)<|Zm O ?_;refine Zn fun a B=>?_;refine Xc ?_;exact ⟨(k+1,(timesS D (gateS c.n q) x).2,(timesS D (gateS c.n q) x).1),⟨aD,aE,B.sb,(by rw [<- N,aC]),(by rw [H];intro h0;cases W:mulI (gateS c.n q) x with|none=>rw [a7.2 W] at h0;cases h0|some x1=>rw [(a7.1 x1 W).1];exact ⟨(a7.1 x1 W).2.1,by rw [(a7.1 x1 W).2.2.1];rfl⟩),Z,e,o,g,p,d,E.rd,z⟩,O0⟩
  have H:D=true:=by simpa using U
  have aC:runS c.n D (c.gs.drop k) x=runS c.n D (c.gs.drop (k+1)) x:=by rw [H,X8f,X8f]
  refine Q7<|X6<|a8 _ _<|Zr B ?_;refine Ze (Xr O O Z Z)<|Zm O ?_;refine Zn fun a B=>?_;refine Xc ?_;exact ⟨(k+1,x,D),⟨G,I,B.sb,(by rw [<- N,aC]),(fun h0=>by rw [H] at h0;cases h0),Z,e,o,g,p,d,t.top,z⟩,O0⟩
 refine Q9<|Xg<|Xg<|X01 ?_;refine b1 _ _<|Zs B fun _ aT=>?_;refine Ze (Vn X1d g)<|Zo (Vw [vi x.rows,vi x.cols,.slice G x.cells.length I] X1o p) ?_;rintro _ bH ⟨ho,hb⟩;have e:=e.oz ho p O;have t:=t.oT ho p O;have z:=Kept.oy z ho aH;have p:=hb;refine Zt aT fun a B=>?_
 refine Q6 (X4 B (Xo B O (ResV.cellN (l:=[vi x.rows,vi x.cols,.slice G x.cells.length I]) O X1d (p.at 0) O)) ?_)
 have aU:runS c.n f c.gs m=(D,x):=by rw [<- N,W3 Z];rfl
 rw [aU]
 exact ⟨G,I,O,t.top,z,e⟩
theorem Y36(w0:World)(bV:Nat)(f:Bool)(b:Blk w0 bV 84 [.bool f])(m:Mx)(Am:Option Addr)(cm:Nat)(c:Rd w0 w0.heap.size 78 encD Am m.cells) : Ret Tryz.prog 35 [(pZ9 bV),.agg #[vi m.rows,vi m.cols,.slice Am m.cells.length cm]] w0 (fun v w=>∃ A c1,v=.tuple #[mV A c1 (if f=true then mZ else m),.bool (!f)]/\Rd w w.heap.size 78 encD A (if f=true then mZ else m).cells/\Kept bV w0.heap.size w0 w/\Blk w bV 84 [.bool f]):=by
 have aG:=b.lt;refine enter Tryz.func35 O 12 O O ?_;intro a e
 have g:Kept bV w0.heap.size w0 w0:=Kept.refl _ _ _
 refine Zs e fun _ aA=>?_;refine Zf (X0u (zs:=[vi m.rows,vi m.cols,.slice Am m.cells.length cm]) O O) ?_;rintro _ w1 ⟨b3,rfl,aB,p,o⟩;have aH:=Q0 g.size aB;have b:=b.bw p;have c:=c.bw p;have g:=ktr g p;refine Zf (X03 (zs:=[vi 0,vi 0,.slice none 0 0]) X3a O) ?_;rintro _ w2 ⟨b5,rfl,aC,p,d⟩
 have a8:b3≠b5:=by have:=o.lt;omega
 have q:=Q0 g.size aC;have b:=b.bw p;have o:=o.bw p;have c:=c.bw p;have g:=ktr g p;refine Za O<|ZX aA fun a e _ aD=>?_;refine Zs e fun _ aE=>?_;refine Zm O<|Ze (Xw O)<|Ze (Vd O X3w 0)<|Ze (X0 O X4d (b.at 0))<|Zt aE fun a e=>?_
 refine Xz e O (fun a6=>?_) (fun a6=>?_)
 ·have i:f=true:=a6
  have j:(if f=true then mZ else m)=mZ:=Q4 i
  have k:(!f)=false:=by rw [i];rfl
  refine Zs e fun _ aF=>?_;refine Ze (Xt (ps:=[]) (cs:=[vi 0,vi 0,.slice none 0 0]) O (fun _=>by first|rfl|kernel_rfl))<|Zo (Vw [vi 0,vi 0,.slice none 0 0] X1o d) ?_;rintro _ w3 ⟨t,i⟩;have b:=b.oz t d O;have g:=Kept.oy g t q;have d:=i;clear i t;refine Za O<|Zt aF fun a e=>?_;refine Q6<|X7<|X4 e (X2u e O (ResV.cellN (l:=[vi 0,vi 0,.slice none 0 0]) O X1d (d.at 0) O) O) ?_
  rw [j,k]
  exact ⟨none,0,O,(Rd.nil _ 0 _ _ _).top,g,b⟩
 have i:f=false:=a6
 have j:(if f=true then mZ else m)=m:=Q3 (by rw [i];simp)
 have k:(!f)=true:=by rw [i];rfl
 refine Q7<|aD _ _<|Zs e fun _ a7=>?_;refine Ze (Vn X1d o)<|Zo (Vw [vi m.rows,vi m.cols,.slice Am m.cells.length cm] X1o d) ?_;rintro _ w4 ⟨t,i⟩;have b:=b.oz t d O;have c:=c.oT t d O;have g:=Kept.oy g t q;have d:=i;clear i t;refine Za O<|Zt a7 fun a e=>?_
 refine Q6 (X4 e (X2u e O (ResV.cellN (l:=[vi m.rows,vi m.cols,.slice Am m.cells.length cm]) O X1d (d.at 0) O) O) ?_)
 rw [j,k]
 exact ⟨Am,cm,O,c.top,g,b⟩
theorem Y31(w0:World)(c:Cx)(Ac:Option Addr)(cc:Nat)(E:Rd w0 w0.heap.size 66 encG Ac c.gs) : Ret Tryz.prog 10 [.agg #[vi c.n,.slice Ac c.gs.length cc]] w0 (fun v w=>∃ A c1,v=.tuple #[mV A c1 ((opS c).getD mZ),.bool (opS c).isSome]/\Rd w w.heap.size 78 encD A ((opS c).getD mZ).cells/\Below w0.heap.size w0 w):=by
 refine enter Tryz.func10 O 23 O O ?_;intro a o
 have f:=bz w0
 refine Zs o fun _ aJ=>?_;refine Zf (X0u (zs:=[vi c.n,.slice Ac c.gs.length cc]) O O) ?_;rintro _ w1 ⟨b3,rfl,aK,g,i⟩;have aP:=Q0 f.size aK;have f:=btr f g;refine Zf (X03 (zs:=[vi 0,vi 0,.slice none 0 0]) X3a O) ?_;rintro _ w2 ⟨b5,rfl,aL,g,b⟩;have G:=Q0 f.size aL;have i:=i.bw g;have f:=btr f g;refine Za O<|ZX aJ fun a o _ aM=>?_;refine Zs o fun _ aN=>?_;refine Ze (Vn X3g i)<|Zf (Vc (F53 _ c Ac cc (E.bx f).top) Xt8) ?_;rintro _ w3 ⟨rfl,g⟩;have i:=i.bw g;have b:=b.bw g;have f:=btr f g;refine Ze (X1w O)<|Zt aN fun a o=>?_
 refine Xz o O (fun z=>?_) (fun z=>?_)
 ·have a7:=z
  have hn:¬ cOk c=true:=by revert z;cases cOk c<;>simp
  refine Zs o fun _ aO=>?_;refine Ze (Xt (ps:=[]) (cs:=[vi 0,vi 0,.slice none 0 0]) O (fun _=>by first|rfl|kernel_rfl))<|Zo (Vw [vi 0,vi 0,.slice none 0 0] X1o b) ?_;rintro _ w4 ⟨ho,hb⟩;have f:=Below.oy f ho G;have b:=hb;refine Za O<|Zt aO fun a o=>?_;refine Q6<|X7<|X4 o (X2u o O (ResV.cellN (l:=[vi 0,vi 0,.slice none 0 0]) O X1d (b.at 0) O) O) ?_
  have a8:opS c=none:=by rw [opS,Q3 hn]
  rw [a8]
  exact ⟨none,0,O,(Rd.nil _ 0 _ _ _).top,f⟩
 have a7:=z
 have hc:cOk c=true:=by revert z;cases cOk c<;>simp
 obtain ⟨hn,aQ,aR⟩:=X7h hc
 obtain ⟨d,hd⟩ : ∃ d:Nat,d=2^c.n.toNat:=⟨_,O⟩
 refine Q7<|aM _ _<|Zs o fun _ aA=>?_;refine Ze (Xt (ps:=[]) (cs:=[.bool false]) O (fun _=>by first|rfl|kernel_rfl))<|Zf (X0u (zs:=[.bool false]) O O) ?_;rintro _ w5 ⟨a6,rfl,aB,g,e⟩;have B:=Q0 f.size aB;have i:=i.bw g;have b:=b.bw g;have f:=btr f g;refine Za O<|ZX aA fun a o _ aC=>?_;refine Xl (some a6) (fun j=>[12].contains j) mixed ?_;intro w6 g;have i:=i.bw g;have b:=b.bw g;have e:=e.bw g;have f:=btr f g;refine Yb o<|Yo 0 O (fun _=>X3 O)<|Yo 1 O (fun _=>X3 O) ?_;refine Yw 2 O tv0 (fun w1 h1=>X09 (l:=[vi c.n,.slice Ac c.gs.length cc]) O X3g ((i.oz h1 e O).at 0) O) ?_;refine Yo 3 O (fun _=>Vd O X2f 0) ?_;refine Yw 4 O tv0 (fun w1 h1=>X0 O X2 ((i.oz h1 e O).at 0)) ?_;refine Yo 5 O (fun _=>Xew (m:=c.n.toNat) Tryz.underlying3 Tryz.underlying87 O Z Z)<|Yo 6 O (fun _=>Xsu (m:=c.n.toNat) (D:=d) O O O ⟨hd,by omega⟩)<|Y1 7 ?_;refine Yf O tv0 (EfW.mono (Vc (Y38 _ d (by rw [hd];exact X80 hn.2)) Xw3) (fun _ _ h=>⟨fun _=>by obtain ⟨aD,aE,rfl,q,g⟩:=h;exact Keep.of_below g,h⟩)) ?_;rintro _ w7 ⟨aD,aE,rfl,q,g⟩;have q:=q.lower f.size;have b:=b.bw g;have e:=e.bw g;have f:=btr f g;refine Y1 8<|Yf O tv0 (EfW.mono (Vc (Y37 _ a6 false e c Ac cc (E.bx f).top (unitS d) aD aE q.rd.top hc (Xe3 (by rw [hd];exact X8d hn)).2 (by rw [<- hd];rfl)) Xw2) (fun _ _ h=>⟨fun _=>by obtain ⟨aF,aG,rfl,H,C,p⟩:=h;exact C.keep,h⟩)) ?_;rintro _ w8 ⟨aF,aG,rfl,H,C,p⟩;obtain ⟨wm,hO,hm,g⟩:=C.mid;clear hm;have k:=e
 have b:=b.oz hO k O;have f:=Below.oy f hO B;have b:=b.bw g;have f:=btr f g
 clear k g hO C;have e:=p;clear p;refine Y1 9<|Yf O tv0 (EfW.mono (Vc (Y36 _ a6 ((runS c.n false c.gs (unitS d)).1) e ((runS c.n false c.gs (unitS d)).2) aF aG H.top) Xw1) (fun _ _ h=>⟨fun _=>by obtain ⟨u,x,rfl,t,C,p⟩:=h;exact C.keep,h⟩)) ?_;rintro _ w9 ⟨u,x,rfl,t,C,p⟩;obtain ⟨wm,hO,hm,g⟩:=C.mid;clear hm;have k:=e;have b:=b.oz hO k O;have f:=Below.oy f hO B;have b:=b.bw g;have f:=btr f g
 clear k g hO C;have e:=p;clear p;refine Yo 10 O (fun _=>Xj (vs:=[.agg #[vi ((if ((runS c.n false c.gs (unitS d)).1)=true then mZ else ((runS c.n false c.gs (unitS d)).2)).rows),vi ((if ((runS c.n false c.gs (unitS d)).1)=true then mZ else ((runS c.n false c.gs (unitS d)).2)).cols),.slice u ((if ((runS c.n false c.gs (unitS d)).1)=true then mZ else ((runS c.n false c.gs (unitS d)).2)).cells).length x],.bool (!((runS c.n false c.gs (unitS d)).1))]) O O)<|Yo 11 O (fun _=>Xj (vs:=[.agg #[vi ((if ((runS c.n false c.gs (unitS d)).1)=true then mZ else ((runS c.n false c.gs (unitS d)).2)).rows),vi ((if ((runS c.n false c.gs (unitS d)).1)=true then mZ else ((runS c.n false c.gs (unitS d)).2)).cols),.slice u ((if ((runS c.n false c.gs (unitS d)).1)=true then mZ else ((runS c.n false c.gs (unitS d)).2)).cells).length x],.bool (!((runS c.n false c.gs (unitS d)).1))]) O O)<|Y1 12 ?_;refine Yh O tv0 O (Vw [vi ((if ((runS c.n false c.gs (unitS d)).1)=true then mZ else ((runS c.n false c.gs (unitS d)).2)).rows),vi ((if ((runS c.n false c.gs (unitS d)).1)=true then mZ else ((runS c.n false c.gs (unitS d)).2)).cols),.slice u ((if ((runS c.n false c.gs (unitS d)).1)=true then mZ else ((runS c.n false c.gs (unitS d)).2)).cells).length x] X1o b) ?_;rintro _ aS ⟨ho,hb⟩;have t:=t.oT ho b O;have f:=Below.oy f ho G;have b:=hb;refine Yo 13 O (fun _=>X19 O) ?_;refine Yd fun a o=>?_;refine aC _ _ ?_
 refine Q6 (X4 o (X2u o O (ResV.cellN (l:=[vi ((if ((runS c.n false c.gs (unitS d)).1)=true then mZ else ((runS c.n false c.gs (unitS d)).2)).rows),vi ((if ((runS c.n false c.gs (unitS d)).1)=true then mZ else ((runS c.n false c.gs (unitS d)).2)).cols),.slice u ((if ((runS c.n false c.gs (unitS d)).1)=true then mZ else ((runS c.n false c.gs (unitS d)).2)).cells).length x]) O X1d (b.at 0) O) O) ?_)
 have aH:(opS c).getD mZ=if (runS c.n false c.gs (unitS d)).1=true then mZ else (runS c.n false c.gs (unitS d)).2:=by rw [opS,Q4 hc,<- hd];split<;>rfl
 have aI:(opS c).isSome = !(runS c.n false c.gs (unitS d)).1:=by rw [opS,Q4 hc,<- hd];cases (runS c.n false c.gs (unitS d)).1<;>rfl
 rw [aH,aI]
 exact ⟨u,x,O,t.top,f⟩
section
variable {p q : Mx}
theorem Xwx(h:(p.rows != q.rows||p.cols != q.cols||(p.cells.length:Int) != (q.cells.length:Int))=true) : (decide (p.rows=q.rows)&&decide (p.cols=q.cols)&&decide (p.cells=q.cells))=false:=by grind
theorem Xm0(h:(p.rows != q.rows||p.cols != q.cols||(p.cells.length:Int) != (q.cells.length:Int))=false) : p.rows=q.rows/\p.cols=q.cols/\p.cells.length=q.cells.length:=by grind
theorem Xlz{k:Nat}{u v:Dy}(hu:p.cells[k]? = some u)(hv:q.cells[k]? = some v)(h:¬ u=v) : (decide (p.rows=q.rows)&&decide (p.cols=q.cols)&&decide (p.cells=q.cells))=false:=by grind
end
section
end
section
end
section
end
section
end
theorem Y34(d:World)(Al:Option Addr)(cl:Nat)(l:List Int)(aA:Rd d d.heap.size 3 encI Al l)(x:Int)(aO:l.length<=2305843009213693951) : Ret Tryz.prog 140 [.slice Al l.length cl,vi x] d (fun v w=>v=.bool (l.any fun y=>y==x)/\Below d.heap.size d w):=by
 refine enter Tryz.func140 O 17 O O ?_;intro a b
 have hW:=bz d
 refine Zs b fun _ aG=>?_;refine Za O<|ZX aG fun a b _ aH=>?_;refine Zs b fun _ aI=>?_;refine Zm O<|Ze (X11 O Xy)<|Zm O<|Zt aI fun a b=>?_;refine Q8<|X00 (σ:=Nat) (fun (k:Nat) (a:Act) (w:World)=>Fr a 17 [(1,vi x),(7,.slice Al l.length cl),(8,vi (l.length:Int)),(9,vi (k:Int))]/\(k<=l.length)/\((l.take k).all (fun y=>!(y==x))=true)/\Below d.heap.size d w) (fun (k:Nat)=>l.length+1-k) 0 ?_ ?_
 ·exact ⟨b.sb,(Qf _),O5,hW⟩
 rintro k a w1 ⟨b,hk,e,hW⟩;refine Zs b fun _ aJ=>?_;refine Ze (X1a O O)<|ZX aJ fun a b _ aK=>?_
 refine X0z b O (fun aB aL=>?_) (fun aB aL=>?_)
 ·obtain ⟨u8,a6⟩:=X8 (l:=l) (k:=k) Z
  refine Q7<|aK _ _<|Q5 fun _ aM=>?_;refine Q8<|Zs b fun _ aC=>?_;refine Zi (k:=k) (u:=u8) (enc:=encI) (l:=l) tv0 O O Xy X0e Xn (aA.bx hW) a6 O ?_;intro aP a7;refine Ze (X0 O X2 a7)<|Za O<|Zx aC fun a b _ aD=>?_;refine Zm O<|Zm O<|Ze (X0f O O)<|Zt aD fun a b=>?_
  refine Xz b O (fun c=>?_) (fun c=>?_)
  ·have a8:l.any (fun y=>y==x)=true:=X7e a6 c
   refine Zs b fun _ aE=>?_;refine Za O<|Zt aE fun a b=>?_;refine Q6<|X05<|X7<|X7 ?_;refine X05<|X7<|X4 b (Xo b O O) ?_;exact ⟨by rw [a8],hW⟩
  have aN:(!(u8==x))=true:=by rw [c];rfl
  refine Q7<|X6<|aM _ _<|Zr b ?_;refine Ze (Xr O O Z Z)<|Zm O ?_;refine Zn fun a b=>?_;refine Xc ?_;exact ⟨k+1,⟨b.sb,Z,(X5a e a6 aN),hW⟩,Z⟩
 refine Q9<|Xg<|Xg<|X01 ?_;refine aH _ _<|Zs b fun _ aF=>?_;refine Za O<|Zt aF fun a b=>?_
 refine Q6 (X4 b (Xo b O O) ?_)
 have a8:l.any (fun y=>y==x)=false:=X6c (X4m e Z)
 exact ⟨by rw [a8],hW⟩
theorem Xy8(B:World)(p:Mx)(Ap:Option Addr)(cp:Nat)(aB:Rd B B.heap.size 78 encD Ap p.cells)(q:Mx)(Aq:Option Addr)(cq:Nat)(aC:Rd B B.heap.size 78 encD Aq q.cells)(aX:p.cells.length<=2305843009213693951) : Ret Tryz.prog 11 [.agg #[vi p.rows,vi p.cols,.slice Ap p.cells.length cp],.agg #[vi q.rows,vi q.cols,.slice Aq q.cells.length cq]] B (fun v w=>v=.bool (decide (p.rows=q.rows)&&decide (p.cols=q.cols)&&decide (p.cells=q.cells))/\Below B.heap.size B w):=by
 refine enter Tryz.func11 O 45 O O ?_;intro a g
 have o:=bz B
 refine Zs g fun _ aP=>?_;refine Zf (X0u (zs:=[vi p.rows,vi p.cols,.slice Ap p.cells.length cp]) O O) ?_;rintro _ w1 ⟨b4,rfl,aQ,C,i⟩;have aV:=Q0 o.size aQ;have o:=btr o C;refine Zf (X0u (zs:=[vi q.rows,vi q.cols,.slice Aq q.cells.length cq]) O O) ?_;rintro _ w2 ⟨b5,rfl,aR,C,j⟩
 have aO:b4≠b5:=by have:=i.lt;omega
 have aW:=Q0 o.size aR;have i:=i.bw C;have o:=btr o C;refine Za O<|ZX aP fun a g _ aS=>?_;refine Q5 fun _ aT=>?_;refine X0p (fun a w=>Fr a 45 [(2,(pZ9 b4)),(3,(pZ9 b5)),(26,.bool (((p.rows != q.rows)||(p.cols != q.cols))||((p.cells.length:Int) != (q.cells.length:Int))))]/\w2=w) ?_ ?_
 ·refine Zr g<|Ze (Vd O X4a 0)<|Ze (X0 O X2 (i.at 0))<|Ze (Vd O X4a 0)<|Ze (X0 O X2 (j.at 0))<|Ze (X3t O O)<|Zm O ?_
  refine Zg 11 O (fun f=>?_) (fun f=>?_)
  ·(iterate 5 refine Zp (gP f) ?_);refine Ze (Xa O f O)<|Zm O<|Zp (gP O) ?_;(iterate 6 refine Zp (gP O) ?_);refine Ze (Xa O O O) ?_;refine Zn fun a g=>?_;exact ⟨g.sub ⟨O,O,X1 O (by first|rfl|(simp only [f,bs];done)|simp [f]),trivial⟩,O⟩
  refine Zv (gW f) (Vd O X34 1) ?_;refine Zv (gW f) (X0 O X2 (i.at 1)) ?_;refine Zv (gW f) (Vd O X34 1) ?_;refine Zv (gW f) (X0 O X2 (j.at 1)) ?_;refine Zv (gW f) (X3t O O) ?_;refine Ze (Xh O f O)<|Zm O ?_
  refine Zg 18 O (fun e=>?_) (fun e=>?_)
  ·(iterate 7 refine Zp (gP e) ?_);refine Ze (Xa O e O) ?_;refine Zn fun a g=>?_;exact ⟨g.sub ⟨O,O,X1 O (by first|rfl|(simp only [f,e,bs];done)|simp [f,e]),trivial⟩,O⟩
  refine Zv (gW e) (Vd O X1q 2) ?_;refine Zv (gW e) (X0 O X3i (i.at 2)) ?_;refine Zv (gW e) (X11 O X21) ?_;refine Zv (gW e) (Vd O X1q 2) ?_;refine Zv (gW e) (X0 O X3i (j.at 2)) ?_;refine Zv (gW e) (X11 O X21) ?_;refine Zv (gW e) (X3t O O) ?_;refine Ze (Xh O e O) ?_;refine Zn fun a g=>?_;exact ⟨g.sub ⟨O,O,X1 O (by first|rfl|(simp only [f,e,bs];done)|simp [f,e]),trivial⟩,O⟩
 rintro a _ ⟨g,rfl⟩;refine aT _ _ ?_
 refine Xz g O (fun t=>?_) (fun t=>?_)
 ·have x:(decide (p.rows=q.rows)&&decide (p.cols=q.cols)&&decide (p.cells=q.cells))=false:=Xwx t
  refine Zs g fun _ aD=>?_;refine Za O<|Zt aD fun a g=>?_;refine Q6<|X7<|X4 g (Xo g O O) ?_;exact ⟨by rw [x],o⟩
 obtain ⟨e1,e2,e3⟩:=Xm0 t;refine Q7<|aS _ _<|Q5 fun _ aE=>?_;refine Zs g fun _ aF=>?_;refine Ze (Vd O X1q 2)<|Ze (X0 O X3i (i.at 2))<|Ze (X11 O X21)<|Zm O<|Zt aF fun a g=>?_;refine Q8<|X00 (σ:=Nat) (fun (k:Nat) (a:Act) (w:World)=>Fr a 45 [(2,(pZ9 b4)),(3,(pZ9 b5)),(29,vi (p.cells.length:Int)),(30,vi (k:Int))]/\(k<=p.cells.length)/\(p.cells.take k=q.cells.take k)/\Blk w b4 37 [vi p.rows,vi p.cols,.slice Ap p.cells.length cp]/\Blk w b5 37 [vi q.rows,vi q.cols,.slice Aq q.cells.length cq]/\Below B.heap.size B w) (fun (k:Nat)=>p.cells.length-k) 0 ?_ ?_
 ·exact ⟨g.sb,(Qf _),O5,i,j,o⟩
 rintro k a w3 ⟨g,hk,z,i,j,o⟩;refine Zs g fun _ aG=>?_;refine Ze (X1a O O)<|ZX aG fun a g _ aH=>?_
 refine X0z g O (fun a6 aI=>?_) (fun a6 aI=>?_)
 ·obtain ⟨m,h⟩:=X8 (l:=p.cells) (k:=k) Z
  obtain ⟨v9,a7⟩:=X8 (l:=q.cells) (k:=k) Z
  refine Q7<|aH _ _<|Q5 fun _ aJ=>?_;refine Q8<|Zs g fun _ aK=>?_;refine Zm O<|Za O<|ZX aK fun a g _ aL=>?_;refine Xl none (fun _=>false) mixed ?_;intro w4 C;have i:=i.bw C;have j:=j.bw C;have o:=btr o C;refine Yb g<|Yo 0 O (fun _=>Vd O X1q 2)<|Ye 1 O (X0 O X3i (i.at 2))<|Yo 2 O (fun _=>X3 O)<|Yi (k:=k) (u:=m) (enc:=encD) (l:=p.cells) 3 O tv0 O O X21 X0i X1x (aB.bx o) h O ?_;intro aY a8;refine Ye 4 O (X09 (l:=[vi m.num.a,vi m.num.b,vi m.num.c,vi m.num.d,vi m.exp]) O X04 a8 O)<|Yo 5 O (fun _=>Vd O X1q 2)<|Ye 6 O (X0 O X3i (j.at 2))<|Yo 7 O (fun _=>X3 O)<|Yi (k:=k) (u:=v9) (enc:=encD) (l:=q.cells) 8 O tv0 O O X21 X0i X1x (aC.bx o) a7 O ?_;intro aZ aA;refine Ye 9 O (X09 (l:=[vi v9.num.a,vi v9.num.b,vi v9.num.c,vi v9.num.d,vi v9.exp]) O X04 aA O)<|Yo 10 O (fun _=>Xjt O O Xwh (fun w=>eqD 9997 m v9 w)) ?_;refine Yd fun a g=>?_;refine aL _ _ ?_
  refine Xz g O (fun A=>?_) (fun A=>?_)
  ·have x:(decide (p.rows=q.rows)&&decide (p.cols=q.cols)&&decide (p.cells=q.cells))=false:=Xlz h a7 (by simpa using A)
   refine Zs g fun _ aM=>?_;refine Za O<|Zt aM fun a g=>?_;refine Q6<|X05<|X7<|X7 ?_;refine X05<|X7<|X4 g (Xo g O O) ?_;exact ⟨by rw [x],o⟩
  have aU:m=v9:=by simpa using A
  refine Q7<|X6<|aJ _ _<|Zr g ?_;refine Ze (Xr O O Z Z)<|Zm O ?_;refine Zn fun a g=>?_;refine Xc ?_;exact ⟨k+1,⟨g.sb,Z,(Xrw z h a7 aU),i,j,o⟩,Z⟩
 refine Q9<|Xg<|Xg<|X01 ?_;refine aE _ _<|Zs g fun _ aN=>?_;refine Za O<|Zt aN fun a g=>?_
 refine Q6 (X4 g (Xo g O O) ?_)
 have he:p.cells=q.cells:=by rw [Qi Z,Qi Z] at z;exact z
 exact ⟨by simp [e1,e2,he],o⟩
section
variable {w w' : World} {b b' : Nat} {x y : Gt}
end
section
variable {a : Act} {w : World} {n : Nat} {e : Env} {ty : TypeId} {pos : String} {af : Array Edge} {g : Option (Nat × Bool)} {d : Option Tmp} {x y : Gt} {b : Nat}
end
section
variable {P : Program} {a : Act} {w : World} {n : Nat} {e : Env} {ty : TypeId} {pos : String} {af : Array Edge} {g : Option (Nat × Bool)} {d : Option Tmp}
theorem Xdw{T E:TypeId}{len sz b off m k:Nat}{x y:Operand}{i:Int}(hf:Fr a n e)(hx:ev e x=some (.pointer (some ⟨b,off,none⟩)))(hy:ev e y=some (.int .i64 i))(hT:P.underlying T=some (.array len E))(hs:SizeT P E sz)(hi:i=(k:Int))(hk:k<len)(hm:off+k*sz=m) :
  Ev P ⟨d,.indexAddr T x y,ty,pos,af,g⟩ a w (.pointer (some ⟨b,m,none⟩)):=fun w' _=>by
 subst hi hm
 have h1:=X0m (P:=P) hT w';have h2:=run_sizeOf' hs w'
 simp [execOp,Instr.indexAt,asIntOf,Instr.sureAddr,hf.ev hx,hf.ev hy,h1,h2,hk,X24]
theorem X37{T E:TypeId}{len sz b off m k:Nat}{x y:Operand}{i:Int}(hx:ev e x=some (.pointer (some ⟨b,off,none⟩)))(hy:ev e y=some (.int .i64 i))(hT:P.underlying T=some (.array len E))(hs:SizeT P E sz)(hi:i=(k:Int))(hk:k<len)(hm:off+k*sz=m) : EvW P ⟨d,.indexAddr T x y,ty,pos,af,g⟩ n e w (.pointer (some ⟨b,m,none⟩)):=fun a hf=>Xdw hf hx hy hT hs hi hk hm
end
section
variable {P : Program} {a : Act} {w : World} {n : Nat} {e : Env} {α : Type} {ops : Array Oper} {ty : TypeId} {pos : String} {af : Array Edge} {g : Option (Nat × Bool)} {d : Nat}
end
section
variable {gs : List Gt} {s : List Int} {i : Nat} {g : Gt}
end
theorem one_mul{a b:Int}(ha:-1<=a/\a<=1)(hb:-1<=b/\b<=1) : -1<=a*b/\a*b<=1:=by
 have:a = -1∨a=0∨a=1:=by omega
 rcases this with rfl|rfl|rfl<;>omega
theorem w4:∀ p q r s:Int,(-1<=p/\p<=1)->(-1<=q/\q<=1)->(-1<=r/\r<=1)->(-1<=s/\s<=1)->(-4<=wr (wr (wr (wr p-wr q)-wr r)-wr s)/\wr (wr (wr (wr p-wr q)-wr r)-wr s)<=4)/\(-4<=wr (wr (wr (wr p+wr q)-wr r)-wr s)/\wr (wr (wr (wr p+wr q)-wr r)-wr s)<=4)/\(-4<=wr (wr (wr (wr p+wr q)+wr r)-wr s)/\wr (wr (wr (wr p+wr q)+wr r)-wr s)<=4)/\(-4<=wr (wr (wr (wr p+wr q)+wr r)+wr s)/\wr (wr (wr (wr p+wr q)+wr r)+wr s)<=4):=fun p q r s hp hq hr hs=>by
 have a1:wr p=p:=X0v Z Z
 have a2:wr q=q:=X0v Z Z
 have a3:wr r=r:=X0v Z Z
 have a4:wr s=s:=X0v Z Z
 have b1:wr (p-q)=p-q:=X0v Z Z
 have b2:wr (p+q)=p+q:=X0v Z Z
 have c1:wr (p-q-r)=p-q-r:=X0v Z Z
 have c2:wr (p+q-r)=p+q-r:=X0v Z Z
 have c3:wr (p+q+r)=p+q+r:=X0v Z Z
 have d1:wr (p-q-r-s)=p-q-r-s:=X0v Z Z
 have d2:wr (p+q-r-s)=p+q-r-s:=X0v Z Z
 have d3:wr (p+q+r-s)=p+q+r-s:=X0v Z Z
 have d4:wr (p+q+r+s)=p+q+r+s:=X0v Z Z
 rw [a1,a2,a3,a4,b1,b2,c1,c2,c3,d1,d2,d3,d4]
 refine ⟨⟨?_,?_⟩,⟨?_,?_⟩,⟨?_,?_⟩,?_,?_⟩<;>omega
theorem getD_some{α:Type}{l:List α}{i:Nat}{d x:α}(h:l[i]? = some x) : l.getD i d=x:=by rw [Qa,h];rfl
def cvt(g:Gt)(x:Int) : Int:=if g.k=12 then 0 else if x=0 then -1 else x
def conv:List Gt->List Int->List Int
 | g::gs,x::xs=>cvt g x::conv gs xs
 | _,_=>[]
theorem Y4t:ZeroT Tryz.prog 56 (.slice none 0 0):=X2q O3
def encB(b:Bool) : List Value:=[.bool b]
theorem X0n:∀ x,(encB x).length=1:=fun _=>rfl
def i64(x:Int) : Prop:=-9223372036854775808<=x/\x<=9223372036854775807
section
variable (E : Int -> Int -> Bool) (N : List Int -> Gt -> Bool) (R : List Bool -> Int -> Bool) (gs : List Gt)
end
theorem z_4:ZeroT Tryz.prog 4 (.bool false):=X2q O3
section
variable {P : Program} {a : Act} {w : World} {n : Nat} {e : Env} {ty : TypeId} {pos : String} {af : Array Edge} {g : Option (Nat × Bool)} {d : Option Tmp}
theorem Xv9{x y:Operand}{i j:Int}{ts:Array TypeId}(hf:Fr a n e)(hx:ev e x=some (.int .i64 i))(hy:ev e y=some (.int .i64 j)) : Ev P ⟨d,.call ⟨.builtin .min,#[x,y],ts⟩,ty,pos,af,g⟩ a w (.int .i64 (min i j)):=fun w' _=>by
 simp [execOp,resolve,invoke,builtin,Builtin.min_,Builtin.min2,hf.ev hx,hf.ev hy,Int.min_def]
 split<;>simp<;>omega
theorem Y0d{x y:Operand}{i j:Int}{ts:Array TypeId}(hx:ev e x=some (.int .i64 i))(hy:ev e y=some (.int .i64 j)) : EvW P ⟨d,.call ⟨.builtin .min,#[x,y],ts⟩,ty,pos,af,g⟩ n e w (.int .i64 (min i j)):=fun a hf=>Xv9 hf hx hy
end
end Go.Proofs.YtgobkmhhckhbfaaGreatDoor
namespace Go.Proofs.YtgobkmhhckhbfaaGreatDoor
def ltK(key:Int->Int)(i k:Int) : Prop:=key i<key k∨(key i=key k/\i<k)
theorem ltK.trans{key:Int->Int}{i j k:Int}(h:ltK key i j)(h2:ltK key j k) : ltK key i k:=by unfold ltK at *;omega
def Srt(key:Int->Int)(l:List Int) : Prop:=l.Pairwise (ltK key)
theorem Xi6{key:Int->Int}{l1 l2:List Int} : Srt key (l1++l2)↔Srt key l1/\Srt key l2/\∀ x ∈ l1,∀ y ∈ l2,ltK key x y:=List.pairwise_append
theorem Xfe{l1 l2:List Int}{k:Nat}(h:k<l1.length) : (l1++l2).getD k 0=l1.getD k 0:=by grind
theorem Xff{l1 l2:List Int}{k:Nat}(h:l1.length<=k) : (l1++l2).getD k 0=l2.getD (k-l1.length) 0:=by grind
theorem X9w{l:List Int}{k:Nat}(h:k<l.length) : l.getD k 0 ∈ l:=by grind
theorem Xi7{key:Int->Int}{l:List Int}(h:Srt key l){i j:Nat}(hij:i<j)(hj:j<l.length) : ltK key (l.getD i 0) (l.getD j 0):=by
 rw [Qa,Qa,Qc hj,Qc (Nat.lt_trans hij hj)]
 exact (W0.1 h) i j (Nat.lt_trans hij hj) hj hij
def Cut(pr:Nat->Prop)(lo hi st r:Nat) : Prop:=lo<=st/\st<=r/\r<=hi/\(∀ c,lo<=c->c<st->pr c)/\(∀ c,r<=c->c<hi->¬ pr c)
theorem Xfz{l:List Int}{k:Nat}(h:k<l.length) : l.take (k+1)=l.take k++[l.getD k 0]:=by simp_all
theorem Xf5{l:List Int}{k:Nat}(h:k<l.length) : l.drop k=l.getD k 0::l.drop (k+1):=by simp_all
theorem Xap{key:Int->Int}{S:List Int}{x:Int}(hS:Srt key S){j:Nat}(hj:j+1<=S.length)(h:ltK key (S.getD j 0) x) : ∀ y ∈ S.take (j+1),ltK key y x:=by
 intro y hy
 rw [Xfz Z] at hy
 rcases Qu.1 hy with hy|hy
 ·obtain ⟨i,hi,rfl⟩:=List.getElem_of_mem hy
  have hi':i<j:=by rw [Qn] at hi;omega
  have:=Xi7 hS hi' Z
  rw [List.getElem_take]
  rw [Qa,Qc (by omega:i<S.length)] at this
  exact this.trans h
 ·rw [Qm.1 hy];exact h
theorem Xam{key:Int->Int}{S:List Int}{x:Int}(hS:Srt key S){j:Nat}(hj:j<S.length)(h:ltK key x (S.getD j 0)) : ∀ y ∈ S.drop j,ltK key x y:=by
 intro y hy
 rw [Xf5 hj] at hy
 rcases Qv.1 hy with rfl|hy
 ·exact h
 ·obtain ⟨i,hi,rfl⟩:=List.getElem_of_mem hy
  have hl:i<(S.drop (j+1)).length:=hi
  rw [List.length_drop] at hl
  have:=Xi7 hS (show j<j+1+i by omega) Z
  rw [List.getElem_drop]
  rw [Qa (i:=j+1+i),Qc (by omega:j+1+i<S.length)] at this
  exact h.trans this
theorem cross{key:Int->Int}{L R:List Int}(hL:Srt key L)(hR:Srt key R){u v:Nat}(hu:u<=L.length)(hv:v<=R.length)
  (h1:0<u->v<R.length->ltK key (L.getD (u-1) 0) (R.getD v 0)) (h2:0<v->u<L.length->ltK key (R.getD (v-1) 0) (L.getD u 0)) :
  ∀ x ∈ L.take u++R.take v,∀ y ∈ L.drop u++R.drop v,ltK key x y:=by
 intro x hx y hy
 rw [<- W9 u L] at hL
 rw [<- W9 v R] at hR
 obtain ⟨_,_,hLc⟩:=Xi6.1 hL;obtain ⟨_,_,hRc⟩:=Xi6.1 hR
 rw [W9] at hL hR
 rcases Qu.1 hx with hx|hx<;>rcases Qu.1 hy with hy|hy
 ·exact hLc x hx y hy
 ·have hu0:0<u:=by
   rcases Nat.eq_zero_or_pos u with e|e;· rw [e] at hx;simp at hx
   exact e
  have hv0:v<R.length:=by
   rcases W4 v R.length with e|e;· exact e
   rw [List.drop_eq_nil_of_le e] at hy;simp at hy
  have h:=h1 hu0 hv0
  have hxs:=Xap hL (j:=u-1) Z h x (by rw [show u-1+1=u from by omega];exact hx)
  exact (Xam hR hv0 hxs) y hy
 ·have hv0:0<v:=by
   rcases Nat.eq_zero_or_pos v with e|e;· rw [e] at hx;simp at hx
   exact e
  have hu0:u<L.length:=by
   rcases W4 u L.length with e|e;· exact e
   rw [List.drop_eq_nil_of_le e] at hy;simp at hy
  have h:=h2 hv0 hu0
  have hxs:=Xap hR (j:=v-1) Z h x (by rw [show v-1+1=v from by omega];exact hx)
  exact (Xam hL hu0 hxs) y hy
 ·exact hRc x hx y hy
instance (key:Int->Int) (i k:Int) : Decidable (ltK key i k):=by unfold ltK;infer_instance
end Go.Proofs.YtgobkmhhckhbfaaGreatDoor
namespace Go.Proofs.YtgobkmhhckhbfaaGreatDoor
open Go.RowKit
section
variable {P : Program} {a : Act} {w w' : World} {n : Nat} {e : Env} {ty : TypeId} {pos : String} {af : Array Edge} {g : Option (Nat × Bool)} {d : Option Tmp} {s t t' : TypeId} {x y : Operand} {i j : Int}
theorem Xxx(m:Nat)(hm:m<=9223372036854775807) : IntKind.u64.wrap (m:Int)=(m:Int):=by
 simp only [IntKind.wrap]
 simp only [IntKind.bits,IntKind.signed,Bool.false_and,Bool.false_eq_true,if_false]
 omega
theorem Xpg{m:Nat}(hs:P.underlying s=some (.int .i64))(ht:P.underlying t=some (.int .u64))(hf:Fr a n e)(hx:ev e x=some (.int .i64 i))(hi:i=(m:Int))(hm:m<=9223372036854775807) :
  Ev P ⟨d,.convert s t x,ty,pos,af,g⟩ a w (.int .u64 (m:Int)):=fun w' _=>by
 subst hi
 simp [execOp,hf.ev hx,convert,X0m hs,X0m ht,Conv.intToInt,Xxx m hm]
theorem Xju{m:Nat}(hs:P.underlying s=some (.int .i64))(ht:P.underlying t=some (.int .u64))(hx:ev e x=some (.int .i64 i))(hi:i=(m:Int))(hm:m<=9223372036854775807) : EvW P ⟨d,.convert s t x,ty,pos,af,g⟩ n e w (.int .u64 (m:Int)):=fun a hf=>Xpg hs ht hf hx hi hm
end
section
variable {U V W : List Int} {x y : Int} {p q : Nat}
end
section
variable {key : Int -> Int} {cf : Int -> Int -> Int} {P L R Q : List Int} {n : Int} {a m b : Nat}
def In(n:Int)(l:List Int) : Prop:=∀ x ∈ l,0<=x/\x<n
theorem In.get{l:List Int}(h:In n l){k:Nat}(hk:k<l.length) : 0<=l.getD k 0/\l.getD k 0<n:=h _ (X9w hk)
theorem Xlx{k:Nat}(ha:P.length=a)(h1:a<=k)(h2:k<a+L.length) : (P++(L++(R++Q))).getD k 0=L.getD (k-a) 0:=by
 rw [Xff Z,Xfe Z,ha]
theorem Xly{k:Nat}(ha:P.length=a)(hm:a+L.length=m)(h1:m<=k)(h2:k<m+R.length) : (P++(L++(R++Q))).getD k 0=R.getD (k-m) 0:=by grind
structure Two (key:Int->Int) (P L R:List Int) (a m b:Nat) (n:Int) : Prop where
 ha:P.length=a
 hm:a+L.length=m
 hb:m+R.length=b
 hL:Srt key L
 hR:Srt key R
 lt:∀ x ∈ L,∀ y ∈ R,x<y
 iL:In n L
 iR:In n R
variable (h : Two key P L R a m b n)
include h
theorem Two.inl{k:Nat}(h1:a<=k)(h2:k<m) : 0<=(P++(L++(R++Q))).getD k 0/\(P++(L++(R++Q))).getD k 0<n:=by
 have:=h.hm;rw [Xlx h.ha h1 Z];exact h.iL.get Z
theorem Two.inr{k:Nat}(h1:m<=k)(h2:k<b) : 0<=(P++(L++(R++Q))).getD k 0/\(P++(L++(R++Q))).getD k 0<n:=by
 have:=h.hb;rw [Xly h.ha h.hm h1 Z];exact h.iR.get Z
def prS(key:Int->Int)(l:List Int)(p:Nat)(c:Nat) : Prop:=ltK key (l.getD c 0) (l.getD (p-c) 0)
theorem Two.cut{p lo hi s:Nat}(h1:a<=lo)(h2:hi<=m)(h3:m+hi<=p+1)(h4:p<lo+b)(hlh:lo<=hi)(hc:Cut (prS key (P++(L++(R++Q))) p) lo hi s s)
  (h5:lo=a∨p+1=lo+b) (h6:hi=m∨p+1=m+hi) : ∃ u v,s=a+u/\u<=L.length/\v<=R.length/\p+1=s+(m+v)/\
   (∀ x ∈ L.take u++R.take v,∀ y ∈ L.drop u++R.drop v,ltK key x y):=by
 have e1:=h.hm
 have e2:=h.hb
 obtain ⟨c1,c2,c3,c4,c5⟩:=hc
 refine ⟨s-a,p+1-s-m,by omega,by omega,by omega,by omega,cross h.hL h.hR Z Z (fun hu hv=>?_) (fun hv hu=>?_)⟩
 ·have:=c4 (s-1) Z Z
  unfold prS at this
  rw [Xlx h.ha Z Z,Xly h.ha h.hm Z Z] at this
  rw [show s-a-1=s-1-a from by omega,show p+1-s-m=p-(s-1)-m from by omega]
  exact this
 ·have h0:=c5 s Z Z
  unfold prS at h0
  rw [Xlx h.ha Z Z,Xly h.ha h.hm Z Z] at h0
  have hne:=h.lt _ (X9w (l:=L) (k:=s-a) Z) _ (X9w (l:=R) (k:=p-s-m) Z)
  rw [show p+1-s-m-1=p-s-m from by omega]
  unfold ltK at h0 ⊢
  omega
end
end Go.Proofs.YtgobkmhhckhbfaaGreatDoor
namespace Go.Proofs.YtgobkmhhckhbfaaGreatDoor
open Go.RowKit Go.ChangeShapes Go.WideShapes Go.Deep Go.Joins
theorem Xrd{α:Type}{n:Nat}{Q:Nat->α->Prop}(h:∀ i,i<n->∃ g,Q i g) : ∃ l:List α,l.length=n/\∀ i g,l[i]? = some g->Q i g:=by
 induction n with
 | zero=>exact ⟨[],rfl,fun i g h=>by simp at h⟩
 | succ n ih=>
  obtain ⟨l,h1,h2⟩:=ih fun i hi=>h i Z
  obtain ⟨g,hg⟩:=h n Z
  refine ⟨l++[g],by simp [h1],fun i g' hi=>?_⟩
  rcases W4 i n with hin|hin
  ·rw [List.getElem?_append_left Z] at hi
   exact h2 i g' hi
  ·rw [W5 Z] at hi
   have:i-l.length=0:=by
    rcases Nat.eq_zero_or_pos (i-l.length) with h|h
    ·exact h
    ·rw [List.getElem?_eq_none O6] at hi;cases hi
   rw [this] at hi
   injection hi with hi
   subst hi
   have:i=n:=by omega
   subst this
   exact hg
theorem Xeh{α:Type}{w:World}{enc:α->List Value}{sz:Nat}(hsz:∀ x,(enc x).length=sz)(h0:0<sz){p:Addr}{l:List α}
  (h:∀ i g,l[i]? = some g->∀ j v,(enc g)[j]? = some v->w.cell? (p.add (i*sz+j))=some v) : ∃ E,Rd w w.heap.size E enc (some p) l:=by
 by_cases hl:l=[]
 ·subst hl;exact ⟨0,Rd.nil _ _ _ _ _⟩
 ·obtain ⟨g0,l',rfl⟩:=List.exists_cons_of_ne_nil hl
  obtain ⟨v0,hv0⟩ : ∃ v,(enc g0)[0]? = some v:=⟨_,Qc (by rw [hsz];exact h0)⟩
  have hc:=h 0 g0 O 0 v0 hv0;obtain ⟨b,off,spot⟩:=p;have hb:=Xgl hc
  rw [X70] at hb
  have hsp:spot=none:=by
   cases spot with
   | none=>rfl
   | some s=>simp [World.cell?,Addr.add] at hc;split at hc<;>simp_all
  subst hsp
  have hobj:∃ cs E fz,w.heap[b]? = some (.cells cs E fz):=by
   rw [X24] at hc
   simp only [World.cell?] at hc
   split at hc
   ·rename_i c E fz hh;exact ⟨c,E,fz,hh⟩
   ·cases hc
  obtain ⟨cs,E,fz,hh⟩:=hobj
  refine ⟨E,fun _=>⟨b,off,cs,fz,O,hb,hh,fun j v hj=>?_⟩⟩
  have hjl:j<((g0::l').flatMap enc).length:=(Qg.1 hj).1
  rw [Xq hsz] at hjl
  obtain ⟨x,hx,h1⟩:=X5w hsz hjl
  rw [h1] at hj
  have:=h _ _ hx _ _ hj
  rw [X24,show j/sz*sz+j % sz=j from by rw [Wi];exact Nat.div_add_mod j sz] at this
  simpa [World.cell?,hh] using this
section
variable {H : Type} {enc : TypeId × Value -> H} {w : World} {base fuel : Nat} {spare : Nat -> Bool} {held : Bool}
end
section
end
section
end
end Go.Proofs.YtgobkmhhckhbfaaGreatDoor
namespace Go.Proofs.YtgobkmhhckhbfaaGreatDoor
open Go.ChangeShapes Go.WideShapes Go.ChangeAt Go.RowKit Go.Deep Go.Joins
set_option linter.unusedVariables false
theorem own:ownKnob Tryz.prog.godebug=none:=by kernel_rfl
theorem Xhl:laidOutB Tryz.prog=true:=by kernel_rfl
section
variable {H : Type} {enc : TypeId × Value -> H} {P : Program}
theorem Xfr{f:Func}{s:ChangeSpec}{fresh handsOn:Bool}{W W':World}{args:Array Value}{v:Value}{ds gs:List (DataW H)}{before pa pv:List MemPlace}
  (hW:DataW.Whole enc P f.params.toList s.vars false W args.toList ds gs before)
  (hres:∀ (b:Nat) (sp:Nat->Bool) (hd:Bool),DataW.TrodAll enc P W' b sp hd f.resultTypes.toList (v.resultList f.resultTypes.size) (s.fn H (ds++gs)).results [])
  (hargs:∀ sp:Nat->Bool,(∀ p ∈ before,sp p.block=true)->DataW.TrodAll enc P W' 0 sp true f.params.toList args.toList (s.fn H (ds++gs)).args pa)
  (hvars:∀ sp:Nat->Bool,(∀ p ∈ before,sp p.block=true)->DataW.TrodVars enc P W' sp s.vars (s.fn H (ds++gs)).vars pv)
  (hps:before=pa++pv) (hb:Below W.heap.size W W') :
  s.post enc P f false fresh handsOn false W args v W':=by
 have hlt:∀ p ∈ before,p.block<W.heap.size:=fun p hp=>hW.lt p hp
 have hold:∀ p ∈ before,(fun b=>decide (b<W.heap.size)) p.block=true:=fun p hp=>by simpa using hlt p hp
 refine ⟨ds,gs,before,[],pa,pv,hW,hres _ _ _,hargs _ hold,hvars _ hold,World.keptBut_mono (fun p hp=>⟨hp,?_⟩) (hb.frame (· ∈ before)),fun h=>by cases h⟩
 rw [hps,Qu] at hp
 exact Or.inr hp
end
end Go.Proofs.YtgobkmhhckhbfaaGreatDoor
namespace Go.Proofs.YtgobkmhhckhbfaaGreatDoor
open Go.RowKit
theorem X4l(x:Nat) : BitVec.ofInt 64 (x:Int)=BitVec.ofNat 64 x:=BitVec.ofInt_natCast 64 x
theorem X3r{x:Nat}(h:x<2^62) : (BitVec.ofNat 64 x).toNat=x:=by grind
theorem X5n{x:Nat}(h:x<2^62) : IntKind.i64.wrap (x:Int)=(x:Int):=by
 rw [show (2:Nat)^62=4611686018427387904 from by decide] at h
 exact IntWalk.i64_in _ ⟨by omega,by omega⟩
theorem Xun{x y:Nat}(h:x<2^62) : x &&& y<2^62:=Nat.lt_of_le_of_lt Nat.and_le_left h
theorem Xf0{x y:Nat}(hx:x<2^62)(hy:y<2^62) : bits .and .i64 (x:Int) (y:Int)=((x &&& y:Nat) : Int):=by
 show IntKind.i64.wrap ((BitVec.ofInt 64 (x:Int) &&& BitVec.ofInt 64 (y:Int)).toNat:Int)=_
 rw [X4l,X4l,BitVec.toNat_and,X3r hx,X3r hy,X5n (Xun hx)]
theorem Xio{x y:Nat}(hx:x<2^62)(hy:y<2^62) : bits .or .i64 (x:Int) (y:Int)=((x ||| y:Nat) : Int):=by
 show IntKind.i64.wrap ((BitVec.ofInt 64 (x:Int) ||| BitVec.ofInt 64 (y:Int)).toNat:Int)=_
 rw [X4l,X4l,BitVec.toNat_or,X3r hx,X3r hy,X5n (Nat.or_lt_two_pow hx hy)]
theorem Xf1{x y:Nat}(hx:x<2^62)(hy:y<2^62) : bits .xor .i64 (x:Int) (y:Int)=((x ^^^ y:Nat) : Int):=by
 show IntKind.i64.wrap ((BitVec.ofInt 64 (x:Int) ^^^ BitVec.ofInt 64 (y:Int)).toNat:Int)=_
 rw [X4l,X4l,BitVec.toNat_xor,X3r hx,X3r hy,X5n (Nat.xor_lt_two_pow hx hy)]
theorem Xxt{m:Nat}(h:m<62) : 2^m<2^62:=Nat.pow_lt_pow_right O4 h
theorem Xrs{m:Nat}(h:m<62) : wr (1*2^m)=((2^m:Nat) : Int):=by
 rw [Int.one_mul,show ((2:Int)^m)=((2^m:Nat) : Int) from by push_cast;rfl]
 exact X5n (Xxt h)
section
end
section
end
section
end
end Go.Proofs.YtgobkmhhckhbfaaGreatDoor
namespace Go.Proofs.YtgobkmhhckhbfaaGreatDoor
instance:_root_.Add Rg:=⟨fun x y=>⟨x.a+y.a,x.b+y.b,x.c+y.c,x.d+y.d⟩⟩
instance:_root_.Mul Rg:=⟨fun x y=>⟨x.a*y.a-x.b*y.d-x.c*y.c-x.d*y.b,x.a*y.b+x.b*y.a-x.c*y.d-x.d*y.c,x.a*y.c+x.b*y.b+x.c*y.a-x.d*y.d,x.a*y.d+x.b*y.c+x.c*y.b+x.d*y.a⟩⟩
instance:_root_.Neg Rg:=⟨fun x=>⟨-x.a,-x.b,-x.c,-x.d⟩⟩
instance:_root_.Sub Rg:=⟨fun x y=>⟨x.a-y.a,x.b-y.b,x.c-y.c,x.d-y.d⟩⟩
instance:NatCast Rg:=⟨fun n=>⟨n,0,0,0⟩⟩
instance:IntCast Rg:=⟨fun n=>⟨n,0,0,0⟩⟩
instance (n:Nat) : OfNat Rg n:=⟨⟨n,0,0,0⟩⟩
def rgPow(x:Rg) : Nat->Rg
 | 0=>1
 | n+1=>rgPow x n*x
instance:HPow Rg Nat Rg:=⟨rgPow⟩
instance:SMul Nat Rg:=⟨fun n x=>(n:Rg)*x⟩
instance:SMul Int Rg:=⟨fun n x=>(n:Rg)*x⟩
theorem X3c{x y:Rg}(h1:x.a=y.a)(h2:x.b=y.b)(h3:x.c=y.c)(h4:x.d=y.d) : x=y:=by
 obtain ⟨x1,x2,x3,x4⟩:=x;obtain ⟨y1,y2,y3,y4⟩:=y
 simp only at h1 h2 h3 h4
 subst h1 h2 h3 h4
 rfl
theorem Xdd(x y:Rg) : (x+y).a=x.a+y.a:=rfl
theorem Xde(x y:Rg) : (x+y).b=x.b+y.b:=rfl
theorem Xdf(x y:Rg) : (x+y).c=x.c+y.c:=rfl
theorem Xdg(x y:Rg) : (x+y).d=x.d+y.d:=rfl
theorem X7t(x y:Rg) : (x*y).a=x.a*y.a-x.b*y.d-x.c*y.c-x.d*y.b:=rfl
theorem X7u(x y:Rg) : (x*y).b=x.a*y.b+x.b*y.a-x.c*y.d-x.d*y.c:=rfl
theorem X7v(x y:Rg) : (x*y).c=x.a*y.c+x.b*y.b+x.c*y.a-x.d*y.d:=rfl
theorem X7w(x y:Rg) : (x*y).d=x.a*y.d+x.b*y.c+x.c*y.b+x.d*y.a:=rfl
theorem X0l(a:Rg) : a+0=a:=X3c (Int.add_zero _) (Int.add_zero _) (Int.add_zero _) (Int.add_zero _)
theorem X0t(a:Rg) : a*1=a:=by
 have e1:(1:Rg).a=1:=rfl
 have e2:(1:Rg).b=0:=rfl
 have e3:(1:Rg).c=0:=rfl
 have e4:(1:Rg).d=0:=rfl
 apply X3c<;>simp only [X7t,X7u,X7v,X7w,e1,e2,e3,e4]<;>grind
theorem X0c(a:Rg) : 0*a=0:=by
 have e1:(0:Rg).a=0:=rfl
 have e2:(0:Rg).b=0:=rfl
 have e3:(0:Rg).c=0:=rfl
 have e4:(0:Rg).d=0:=rfl
 apply X3c<;>simp only [X7t,X7u,X7v,X7w,e1,e2,e3,e4]<;>grind
theorem X07(a b:Rg) : a*b=b*a:=by (apply X3c<;>simp only [Xdd,Xde,Xdf,Xdg,X7t,X7u,X7v,X7w]<;>grind)
theorem X16(a b c:Rg) : a*(b+c)=a*b+a*c:=by (apply X3c<;>simp only [Xdd,Xde,Xdf,Xdg,X7t,X7u,X7v,X7w]<;>grind)
theorem X13(a b:Rg) : a+b=b+a:=X3c (Int.add_comm _ _) (Int.add_comm _ _) (Int.add_comm _ _) (Int.add_comm _ _)
theorem X0k(a b c:Rg) : a+b+c=a+(b+c):=X3c (Int.add_assoc _ _ _) (Int.add_assoc _ _ _) (Int.add_assoc _ _ _) (Int.add_assoc _ _ _)
theorem Xe(a b c:Rg) : a*b*c=a*(b*c):=by (apply X3c<;>simp only [Xdd,Xde,Xdf,Xdg,X7t,X7u,X7v,X7w]<;>grind)
theorem Xk(a:Rg) : 1*a=a:=by rw [X07,X0t]
theorem X08(a:Rg) : a*0=0:=by rw [X07,X0c]
theorem X14(a:Rg) : 0+a=a:=by rw [X13,X0l]
theorem X1s(a b c:Rg) : (a+b)*c=a*c+b*c:=by rw [X07,X16,X07 c a,X07 c b]
theorem Xb(a b c:Rg) : a*(b*c)=b*(a*c):=by rw [<- Xe,<- Xe,X07 a b]
theorem X0a(a b c:Rg) : a+(b+c)=b+(a+c):=by rw [<- X0k,<- X0k,X13 a b]
def s2:Rg:=⟨0,1,0,-1⟩
def om:Rg:=⟨0,1,0,0⟩
theorem Y2e:s2*s2=2:=by decide
theorem om8:om^8=1:=by decide
theorem Xg1{x y:Rg}(h:2*x=2*y) : x=y:=by
 have e1:(2:Rg).a=2:=rfl
 have e2:(2:Rg).b=0:=rfl
 have e3:(2:Rg).c=0:=rfl
 have e4:(2:Rg).d=0:=rfl
 have h1:=congrArg Rg.a h;have h2:=congrArg Rg.b h;have h3:=congrArg Rg.c h;have h4:=congrArg Rg.d h
 simp only [X7t,X7u,X7v,X7w,e1,e2,e3,e4] at h1 h2 h3 h4
 apply X3c<;>omega
theorem Xjb{x y:Rg}(h:s2*x=s2*y) : x=y:=by
 apply Xg1
 rw [<- Y2e,Xe,Xe,h]
theorem X3j:∀ (m:Nat) {x y:Rg},s2^m*x=s2^m*y->x=y
 | 0,x,y,h=>by
  have e:s2^0=1:=rfl
  rwa [e,Xk,Xk] at h
 | m+1,x,y,h=>by
  have e:s2^(m+1)=s2^m*s2:=rfl
  rw [e] at h
  refine Xjb (X3j m ?_)
  rw [<- Xe,<- Xe]
  exact h
theorem X2r(x:Rg)(m n:Nat) : x^(m+n)=x^m*x^n:=by
 induction n with
 | zero=>show _=_*(1:Rg);rw [X0t];rfl
 | succ n ih=>
  have e1:x^(m+(n+1))=x^(m+n)*x:=rfl
  have e2:x^(n+1)=x^n*x:=rfl
  rw [e1,e2,ih]
  exact Xe _ _ _
theorem X6x(k:Nat){x y:Rg}(h:om^k*x=om^k*y) : x=y:=by
 have h8:∀ k:Nat,∃ z:Rg,z*om^k=1:=fun k=>by
  induction k with
  | zero=>exact ⟨1,rfl⟩
  | succ k ih=>
   obtain ⟨z,hz⟩:=ih
   refine ⟨z*om^7,?_⟩
   have e2:om^(k+1)=om^k*om:=rfl
   have e3:om^8=om^7*om:=rfl
   rw [e2,show z*om^7*(om^k*om)=(z*om^k)*(om^7*om) by simp only [X0c,X08,Xk,X0t,X0l,X14,X16,X1s,Xe,Xb,X07,X0k,X0a,X13],hz,<- e3,om8,Xk]
 obtain ⟨z,hz⟩:=h8 k;have h9:=congrArg (z * ·) h
 rwa [<- Xe,<- Xe,hz,Xk,Xk] at h9
theorem Xhu{x y:Rg}(hx:rOk x=true)(hy:rOk y=true) : rAdd x y=x+y:=by
 have h1:=X3l.1 hx;have h2:=X3l.1 hy
 refine X3c ?_ ?_ ?_ ?_<;>exact X0v Z Z
theorem X2v{p q:Int}(h1:-1000000000<=p/\p<=1000000000)(h2:-1000000000<=q/\q<=1000000000) : -1000000000000000000<=p*q/\p*q<=1000000000000000000:=by
 have h:(p*q).natAbs<=1000000000*1000000000:=by
  rw [Int.natAbs_mul]
  exact Nat.mul_le_mul Z Z
 omega
theorem Xy2{p q r t:Int}(h1:-1000000000000000000<=p/\p<=1000000000000000000)(h2:-1000000000000000000<=q/\q<=1000000000000000000)(h3:-1000000000000000000<=r/\r<=1000000000000000000)(h4:-1000000000000000000<=t/\t<=1000000000000000000) :
  wr (wr (wr (wr p-wr q)-wr r)-wr t)=p-q-r-t:=by
 have e1:wr p=p:=X0v Z Z
 have e2:wr q=q:=X0v Z Z
 have e3:wr r=r:=X0v Z Z
 have e4:wr t=t:=X0v Z Z
 have e5:wr (p-q)=p-q:=X0v Z Z
 have e6:wr (p-q-r)=p-q-r:=X0v Z Z
 rw [e1,e2,e3,e4,e5,e6]
 exact X0v Z Z
theorem Xxz{p q r t:Int}(h1:-1000000000000000000<=p/\p<=1000000000000000000)(h2:-1000000000000000000<=q/\q<=1000000000000000000)(h3:-1000000000000000000<=r/\r<=1000000000000000000)(h4:-1000000000000000000<=t/\t<=1000000000000000000) :
  wr (wr (wr (wr p+wr q)-wr r)-wr t)=p+q-r-t:=by
 have e1:wr p=p:=X0v Z Z
 have e2:wr q=q:=X0v Z Z
 have e3:wr r=r:=X0v Z Z
 have e4:wr t=t:=X0v Z Z
 have e5:wr (p+q)=p+q:=X0v Z Z
 have e6:wr (p+q-r)=p+q-r:=X0v Z Z
 rw [e1,e2,e3,e4,e5,e6]
 exact X0v Z Z
theorem Xy0{p q r t:Int}(h1:-1000000000000000000<=p/\p<=1000000000000000000)(h2:-1000000000000000000<=q/\q<=1000000000000000000)(h3:-1000000000000000000<=r/\r<=1000000000000000000)(h4:-1000000000000000000<=t/\t<=1000000000000000000) :
  wr (wr (wr (wr p+wr q)+wr r)-wr t)=p+q+r-t:=by
 have e1:wr p=p:=X0v Z Z
 have e2:wr q=q:=X0v Z Z
 have e3:wr r=r:=X0v Z Z
 have e4:wr t=t:=X0v Z Z
 have e5:wr (p+q)=p+q:=X0v Z Z
 have e6:wr (p+q+r)=p+q+r:=X0v Z Z
 rw [e1,e2,e3,e4,e5,e6]
 exact X0v Z Z
theorem Xy1{p q r t:Int}(h1:-1000000000000000000<=p/\p<=1000000000000000000)(h2:-1000000000000000000<=q/\q<=1000000000000000000)(h3:-1000000000000000000<=r/\r<=1000000000000000000)(h4:-1000000000000000000<=t/\t<=1000000000000000000) :
  wr (wr (wr (wr p+wr q)+wr r)+wr t)=p+q+r+t:=by
 have e1:wr p=p:=X0v Z Z
 have e2:wr q=q:=X0v Z Z
 have e3:wr r=r:=X0v Z Z
 have e4:wr t=t:=X0v Z Z
 have e5:wr (p+q)=p+q:=X0v Z Z
 have e6:wr (p+q+r)=p+q+r:=X0v Z Z
 rw [e1,e2,e3,e4,e5,e6]
 exact X0v Z Z
theorem Xrn{x y:Rg}(hx:rOk x=true)(hy:rOk y=true) : rMul x y=x*y:=by
 obtain ⟨a1,a2,a3,a4⟩:=X3l.1 hx;obtain ⟨b1,b2,b3,b4⟩:=X3l.1 hy
 have p11:=X2v a1 b1
 have p12:=X2v a1 b2
 have p13:=X2v a1 b3
 have p14:=X2v a1 b4
 have p21:=X2v a2 b1
 have p22:=X2v a2 b2
 have p23:=X2v a2 b3
 have p24:=X2v a2 b4
 have p31:=X2v a3 b1
 have p32:=X2v a3 b2
 have p33:=X2v a3 b3
 have p34:=X2v a3 b4
 have p41:=X2v a4 b1
 have p42:=X2v a4 b2
 have p43:=X2v a4 b3
 have p44:=X2v a4 b4
 unfold rMul
 refine X3c ?_ ?_ ?_ ?_
 ·exact Xy2 p11 p24 p33 p42
 ·exact Xxz p12 p21 p34 p43
 ·exact Xy0 p13 p22 p31 p44
 ·exact Xy1 p14 p23 p32 p41
theorem Xcu(x:Rg) : s2*x=⟨x.b-x.d,x.a+x.c,x.b+x.d,x.c-x.a⟩:=by
 have e1:s2.a=0:=rfl
 have e2:s2.b=1:=rfl
 have e3:s2.c=0:=rfl
 have e4:s2.d = -1:=rfl
 refine X3c ?_ ?_ ?_ ?_<;>simp only [X7t,X7u,X7v,X7w,e1,e2,e3,e4]<;>grind
theorem Xeg{x:Rg}(hx:rOk x=true) : rRoot x=s2*x:=by
 have h1:=X3l.1 hx
 rw [Xcu]
 refine X3c ?_ ?_ ?_ ?_<;>exact X0v Z Z
theorem Xn2{x:Rg}(hx:rOk x=true)(he:rEven x=true) : s2*rHalf x=x:=by
 have h1:=X3l.1 hx;have h2:=(X6q hx).1 he
 have e:=Xeg hx
 rw [Xcu] at e
 have hh:rHalf x=⟨(x.b-x.d)/2,(x.a+x.c)/2,(x.b+x.d)/2,(x.c-x.a)/2⟩:=by
  unfold rHalf
  rw [e]
  dsimp only
  rw [Int.tdiv_eq_ediv_of_dvd Z,Int.tdiv_eq_ediv_of_dvd Z,Int.tdiv_eq_ediv_of_dvd Z,Int.tdiv_eq_ediv_of_dvd Z]
  rw [X0v Z Z,X0v Z Z,X0v Z Z,X0v Z Z]
 rw [Xcu,hh]
 refine X3c ?_ ?_ ?_ ?_<;>dsimp only<;>omega
theorem Xks{x y:Rg}(hx:rOk x=true)(h:x=s2*y) : rEven x=true:=by
 rw [X6q hx]
 rw [h,Xcu]
 dsimp only
 omega
theorem Xmz(x:Rg)(n:Nat) : x^(n+1)=x^n*x:=rfl
theorem Xhs(x:Rg) : x^0=1:=rfl
def V(x:Dy)(m:Nat)(z:Rg) : Prop:=0<=x.exp/\∃ k:Nat,x.exp+k=m/\z=s2^k*x.num
theorem Xsp:∀ (m:Nat) (x:Rg),rOk x=true->V (dLow x m) m x
 | 0,x,h=>by
  rw [X2w Z]
  refine ⟨by dsimp only;omega,0,by dsimp only;omega,?_⟩
  rw [Xhs];exact (Xk _).symm
 | m+1,x,h=>by
  by_cases he:rEven x=true
  ·rw [X43 Z he,show ((m+1:Nat) : Int)-1=(m:Int) from by omega]
   obtain ⟨h0,k,h1,h2⟩:=Xsp m _ (X63 h)
   refine ⟨h0,k+1,by omega,?_⟩
   have e:=Xn2 h he
   rw [h2] at e
   rw [Xmz]
   refine e.symm.trans ?_
   simp only [X0c,X08,Xk,X0t,X0l,X14,X16,X1s,Xe,Xb,X07,X0k,X0a,X13]
  ·have he':rEven x=false:=by simpa using he
   rw [X2w fun _=>he']
   refine ⟨by dsimp only;omega,0,by dsimp only;omega,?_⟩
   rw [Xhs];exact (Xk _).symm
theorem Xjp{x:Rg}{e:Int}(h:rOk x=true)(h0:0<=e) : V (dLow x e) e.toNat x:=by
 obtain ⟨m,rfl⟩ : ∃ m:Nat,e=m:=⟨e.toNat,by omega⟩
 exact Xsp m x h
theorem V.up{x:Dy}{m:Nat}{z:Rg}(h:V x m z)(k:Nat) : V x (m+k) (s2^k*z):=by
 obtain ⟨h0,j,h1,h2⟩:=h
 refine ⟨h0,j+k,by omega,?_⟩
 rw [X2r,h2]
 simp only [X0c,X08,Xk,X0t,X0l,X14,X16,X1s,Xe,Xb,X07,X0k,X0a,X13]
theorem V.fun{x:Dy}{m:Nat}{z z':Rg}(h:V x m z)(h':V x m z') : z=z':=by grind [V]
theorem V.cross{x:Dy}{m m':Nat}{z z':Rg}(h:V x m z)(h':V x m' z') : s2^m'*z=s2^m*z':=by
 have e1:=h.up m'
 have e2:=h'.up m
 rw [Nat.add_comm m' m] at e2
 exact e1.fun e2
theorem Xsn{x:Rg}{e:Int}{w:Dy}(h:dOf x e=some w) : V w e.toNat x/\dOk w=true:=by
 unfold dOf at h
 split at h
 ·rename_i h1
  simp only [Qd,X0o] at h1
  injection h with h
  subst h
  exact ⟨Xjp h1.1 h1.2.1,X9n h1.1 h1.2.1 h1.2.2⟩
 ·cases h
theorem X53{x:Dy}(h:dOk x=true) : rOk x.num=true/\(0<=x.exp/\x.exp<=60):=⟨(X2z.1 h).1,(X2z.1 h).2.1⟩
theorem Y09{x y w:Dy}{m n:Nat}{z z':Rg}(h:dMulI x y=some w)(hx:V x m z)(hy:V y n z') : V w (m+n) (z*z')/\dOk w=true:=by
 unfold dMulI at h
 split at h
 ·rename_i h1
  simp only [Qd] at h1
  obtain ⟨⟨h1,h2⟩,h3⟩:=h1
  have k1:=X53 h1
  have k2:=X53 h2
  rw [rIf1,Q4 h3] at h
  have hv:=Xsn h
  refine ⟨?_,hv.2⟩
  rw [Xrn k1.1 k2.1] at hv
  obtain ⟨_,j,h4,h5⟩:=hx;obtain ⟨_,l,h6,h7⟩:=hy
  have e:=hv.1.up (j+l)
  rw [show (x.exp+y.exp).toNat+(j+l)=m+n from by omega,X2r] at e
  rw [h5,h7]
  have e2:s2^j*x.num*(s2^l*y.num)=s2^j*s2^l*(x.num*y.num):=by simp only [X0c,X08,Xk,X0t,X0l,X14,X16,X1s,Xe,Xb,X07,X0k,X0a,X13]
  rw [e2]
  exact e
 ·cases h
theorem X82:∀ (n:Nat) (y:Rg),rOk y=true->(raiseI n y).2=true->(raiseI n y).1=s2^n*y/\rOk (raiseI n y).1=true
 | 0,y,h,_=>⟨by rw [Xhs];show y=_;exact (Xk _).symm,h⟩
 | n+1,y,h,h2=>by
  rw [raiseI] at h2 ⊢
  rw [X57 h] at h2 ⊢
  by_cases hr:rOk (rRoot y)=true
  ·rw [Q4 hr] at h2 ⊢
   obtain ⟨e1,e2⟩:=X82 n _ hr h2
   refine ⟨?_,e2⟩
   rw [e1,Xeg h,Xmz]
   exact (Xe _ _ _).symm
  ·rw [Q3 hr] at h2
   cases h2
theorem Y08{x y w:Dy}{m:Nat}{z z':Rg}(h:dAddI x y=some w)(hx:V x m z)(hy:V y m z') : V w m (z+z')/\dOk w=true:=by
 unfold dAddI at h
 split at h
 ·rename_i h1
  simp only [Qd] at h1
  obtain ⟨h1,h2⟩:=h1
  have k1:=X53 h1
  have k2:=X53 h2
  split at h
  ·rename_i h3
   simp only [Qd] at h3
   obtain ⟨⟨h3,h4⟩,h5⟩:=h3
   have r1:=X82 _ _ k1.1 h3
   have r2:=X82 _ _ k2.1 h4
   rw [rIf1,Q4 h5] at h
   have hv:=Xsn h
   refine ⟨?_,hv.2⟩
   have e0:rAdd (dRaise x (max x.exp y.exp)).1 (dRaise y (max x.exp y.exp)).1=(dRaise x (max x.exp y.exp)).1+(dRaise y (max x.exp y.exp)).1:=Xhu r1.2 r2.2
   rw [e0] at hv
   obtain ⟨_,j,h6,h7⟩:=hx;obtain ⟨_,l,h8,h9⟩:=hy
   obtain ⟨k,hk⟩ : ∃ k:Nat,max x.exp y.exp+k=m:=⟨(m-max x.exp y.exp).toNat,by omega⟩
   have e:=hv.1.up k
   rw [show (max x.exp y.exp).toNat+k=m from by omega] at e
   have q1:s2^k*(dRaise x (max x.exp y.exp)).1=z:=by
    rw [h7,show j=k+(max x.exp y.exp-x.exp).toNat from by omega,X2r]
    have:=r1.1
    unfold dRaise
    rw [this]
    simp only [X0c,X08,Xk,X0t,X0l,X14,X16,X1s,Xe,Xb,X07,X0k,X0a,X13]
   have q2:s2^k*(dRaise y (max x.exp y.exp)).1=z':=by
    rw [h9,show l=k+(max x.exp y.exp-y.exp).toNat from by omega,X2r]
    have:=r2.1
    unfold dRaise
    rw [this]
    simp only [X0c,X08,Xk,X0t,X0l,X14,X16,X1s,Xe,Xb,X07,X0k,X0a,X13]
   rw [<- q1,<- q2,<- X16]
   exact e
  ·cases h
 ·cases h
theorem Xso{x y:Dy}{m:Nat}{z:Rg}(hx:dOk x=true)(hy:dOk y=true)(h1:V x m z)(h2:V y m z) : x=y:=by
 have kx:=X2z.1 hx
 have ky:=X2z.1 hy
 obtain ⟨_,j,a1,a2⟩:=h1;obtain ⟨_,l,b1,b2⟩:=h2
 have key:∀ {x y:Dy} {j l:Nat},rOk y.num=true->(y.exp=0∨rEven y.num=false)->0<=x.exp->x.exp+j=m->y.exp+l=m->s2^j*x.num=s2^l*y.num->y.exp<=x.exp:=fun {x y j l} k1 k2 k3 a1 b1 e=>by
  rcases k2 with k2|k2
  ·omega
  ·by_cases hlt:y.exp<=x.exp
   ·exact hlt
   ·exfalso
    obtain ⟨t,ht⟩ : ∃ t,j=l+(t+1):=⟨j-l-1,by omega⟩
    rw [ht,X2r] at e
    have e2:s2^l*(s2^(t+1)*x.num)=s2^l*y.num:=by rw [<- Xe];exact e
    have e3:=X3j l e2
    have e4:y.num=s2*(s2^t*x.num):=by rw [<- e3,Xmz];simp only [X0c,X08,Xk,X0t,X0l,X14,X16,X1s,Xe,Xb,X07,X0k,X0a,X13]
    rw [Xks k1 e4] at k2
    cases k2
 have le1:=key (x:=x) (y:=y) ky.1 ky.2.2 kx.2.1.1 a1 b1 (by rw [<- a2,<- b2])
 have le2:=key (x:=y) (y:=x) kx.1 kx.2.2 ky.2.1.1 b1 a1 (by rw [<- a2,<- b2])
 obtain rfl:j=l:=by omega
 have e:=X3j j (a2.symm.trans b2)
 have e2:x.exp=y.exp:=by omega
 cases x
 cases y
 simp only at e e2
 rw [e,e2]
theorem X6z(m:Nat) : V dZ m 0:=⟨by decide,m,by show (0:Int)+m=m;omega,by
 show (0:Rg)=s2^m*0
 exact (X08 _).symm⟩
abbrev St:=(Nat->Bool)->Rg
def flipB(β:Nat->Bool)(q:Nat) : Nat->Bool:=fun p=>if p=q then !β p else β p
def u1(k:Int)(x y:Bool) : Rg:=
 if k=1 then (if x&&y then -1 else 1) else if k=2 then (if x=y then 0 else 1) else if k=3 then (if x=y then 0 else if y then om^6 else om^2)
 else if x=y then (if x then om^(turnOf k).toNat else 1) else 0
def act(g:Gt)(v:St) : St:=fun β=>
 if g.k=12 then om*v β
 else if g.k=9 then v (if β g.a.toNat then flipB β g.b.toNat else β)
 else if g.k=10 then (if β g.a.toNat&&β g.b.toNat then om^4 else 1)*v β
 else if g.k=11 then v (if β g.a.toNat=β g.b.toNat then β else flipB (flipB β g.a.toNat) g.b.toNat)
 else u1 g.k (β g.a.toNat) (β g.a.toNat)*v β+u1 g.k (β g.a.toNat) (!β g.a.toNat)*v (flipB β g.a.toNat)
def hN(g:Gt) : Nat:=if g.k=1 then 1 else 0
def run:List Gt->St->St
 | [],v=>v
 | g::l,v=>run l (act g v)
def hs:List Gt->Nat
 | []=>0
 | g::l=>hN g+hs l
def sumN(f:Nat->Rg) : Nat->Rg
 | 0=>0
 | n+1=>sumN f n+f n
theorem Xa8{f:Nat->Rg} : ∀ n,(∀ k,k<n->f k=0)->sumN f n=0
 | 0,_=>rfl
 | n+1,h=>by rw [sumN,Xa8 n fun k hk=>h k Z,h n Z];rfl
theorem X50{f:Nat->Rg}{t:Nat} : ∀ n,t<n->(∀ k,k<n->k≠t->f k=0)->sumN f n=f t
 | 0,h,_=>by omega
 | n+1,h,h0=>by
  rw [sumN]
  by_cases e:t=n
  ·subst e
   rw [Xa8 t fun k hk=>h0 k Z Z]
   simp only [X0c,X08,Xk,X0t,X0l,X14,X16,X1s,Xe,Xb,X07,X0k,X0a,X13]
  ·rw [X50 n Z fun k hk hne=>h0 k Z hne,h0 n Z Z]
   simp only [X0c,X08,Xk,X0t,X0l,X14,X16,X1s,Xe,Xb,X07,X0k,X0a,X13]
theorem Xi9{f:Nat->Rg}{t u:Nat}(htu:t≠u) : ∀ n,t<n->u<n->(∀ k,k<n->k≠t->k≠u->f k=0)->sumN f n=f t+f u
 | 0,h,_,_=>by omega
 | n+1,h,h',h0=>by
  rw [sumN]
  by_cases e:t=n
  ·subst e
   rw [X50 (t:=u) t Z fun k hk hne=>h0 k Z Z hne]
   simp only [X0c,X08,Xk,X0t,X0l,X14,X16,X1s,Xe,Xb,X07,X0k,X0a,X13]
  ·by_cases e2:u=n
   ·subst e2
    rw [X50 (t:=t) u Z fun k hk hne=>h0 k Z hne Z]
   ·rw [Xi9 htu n Z Z fun k hk a b=>h0 k Z a b,h0 n Z Z Z]
    simp only [X0c,X08,Xk,X0t,X0l,X14,X16,X1s,Xe,Xb,X07,X0k,X0a,X13]
theorem X6t{f g:Nat->Rg} : ∀ n,(∀ k,k<n->f k=g k)->sumN f n=sumN g n
 | 0,_=>rfl
 | n+1,h=>by rw [sumN,sumN,X6t n fun k hk=>h k Z,h n Z]
def pt(N:Nat)(i:Nat) : Nat->Bool:=fun q=>decide (q<N)&&(bitT (N-1-q) i==1)
def chkPt:Bool:=(List.range 6).all fun n=>(List.range (2^n)).all fun i=>(List.range (2^n)).all fun j=>(i==j)||(List.range n).any fun q=>bitT (n-1-q) i != bitT (n-1-q) j
theorem Xf3:chkPt=true:=by kernel_rfl
theorem X8v(p s:Nat) : bitT p s=0∨bitT p s=1:=by
 have h:=X47 ((p:Int)+1) s 0
 rw [Xez,show ((p:Int)+1-1-0).toNat=p from by omega] at h
 exact h
theorem Xxh{N i j:Nat}(hN:N<=5)(hi:i<2^N)(hj:j<2^N)(h:∀ q,q<N->pt N i q=pt N j q) : i=j:=by
 have hc:=Xf3
 simp only [chkPt,W1,W2] at hc
 have hc:=hc N Z i hi j hj
 simp only [Bool.or_eq_true,beq_iff_eq,List.any_eq_true,W2,bne_iff_ne] at hc
 rcases hc with hc|⟨q,hq,hne⟩
 ·exact hc
 ·have h1:=h q hq
  simp only [pt,hq,decide_true,Qw] at h1
  rcases X8v (N-1-q) i with e1|e1<;>rcases X8v (N-1-q) j with e2|e2<;>rw [e1,e2] at h1 hne<;>simp_all
theorem Xcr{N:Nat}(h:N<=5) : 2^N<=32:=Q0 (Nat.pow_le_pow_right O4 h) O4
theorem Xht{N i q:Nat}(hN:N<=5)(hi:i<2^N)(hq:q<N) : pt N (flipT (N-1-q) i).toNat=flipB (pt N i) q:=by
 have hb:=X5c (p:=N-1-q) (s:=i) Z (Nat.lt_of_lt_of_le hi (Xcr hN))
 funext p
 unfold flipB pt
 by_cases hp:p<N
 ·simp only [hp,decide_true,Qw]
  by_cases e:p=q
  ·subst e
   rw [Q4 O,hb.bit]
   rcases X8v (N-1-p) i with e1|e1<;>rw [e1]<;>rfl
  ·rw [Q3 e,hb.other _ Z Z]
 ·simp only [hp,decide_false,Bool.false_and]
  rw [Q3 Z]
theorem X8e{N i q:Nat}(hq:q<N) : bitF (N:Int) (i:Int) (q:Int)=if pt N i q then 1 else 0:=by
 rw [Xez,show ((N:Int)-1-(q:Int)).toNat=N-1-q from by omega]
 simp only [pt,hq,decide_true,Qw,beq_iff_eq]
 rcases X8v (N-1-q) i with e|e<;>rw [e]<;>rfl
def zc(N:Nat)(g:Gt)(i k:Nat) : Rg:=
 if g.k=12 then (if i=k then om else 0)
 else if inR g.k 9 11=true then (if toS N g i=(k:Int) then om^(if czI N g i=true then 4 else 0) else 0)
 else if (i:Int)=k∨flipF N i g.a=(k:Int) then u1 g.k (bitF N i g.a==1) (bitF N k g.a==1) else 0
theorem Xil{x:Dy}{z:Rg}{m:Nat}(h1:x.exp=m)(h2:x.num=z) : V x m z:=⟨by omega,0,by omega,by rw [<- h2,Xhs];exact (Xk _).symm⟩
theorem Xo9{k:Int}(h:1<=k/\k<=8){x y:Int}(hx:x=0∨x=1)(hy:y=0∨y=1) : V (entryI k x y) (if k=1 then 1 else 0) (u1 k (x==1) (y==1)):=by
 have:k=1∨k=2∨k=3∨k=4∨k=5∨k=6∨k=7∨k=8:=by omega
 rcases this with rfl|rfl|rfl|rfl|rfl|rfl|rfl|rfl<;>rcases hx with rfl|rfl<;>rcases hy with rfl|rfl<;>exact Xil O4 O4
theorem Xui{N:Nat}{g:Gt}(hg:gOk N g=true)(i k:Nat) : V (cellI N g i k) (hN g) (zc N g i k):=by
 obtain ⟨hn,hk,ha,hb⟩:=X2i hg
 unfold cellI zc hN
 by_cases h12:g.k=12
 ·have h1:¬ g.k=1:=by omega
  rw [Q4 h12,Q4 h12,Q3 h1]
  by_cases e:i=k
  ·have e':(i:Int)=k:=by omega
   rw [Q4 e,Q4 e']
   exact Xil O4 O4
  ·have e':¬ (i:Int)=k:=by omega
   rw [Q3 e,Q3 e']
   exact X6z 0
 ·rw [Q3 h12,Q3 h12]
  by_cases h9:inR g.k 9 11=true
  ·rw [Q4 h9,Q4 h9]
   have:=X0o.1 h9
   have h1:¬ g.k=1:=by omega
   rw [Q3 h1]
   by_cases e:toS N g i=(k:Int)
   ·rw [Q4 e,Q4 e]
    by_cases e2:czI N g i=true
    ·rw [Q4 e2,Q4 e2]
     exact Xil O4 O4
    ·rw [Q3 e2,Q3 e2]
     exact Xil O4 O4
   ·rw [Q3 e,Q3 e]
    exact X6z 0
  ·rw [Q3 h9,Q3 h9]
   have h8:¬ (9<=g.k/\g.k<=11):=fun h=>h9 (X0o.2 h)
   by_cases e:(i:Int)=k∨flipF N i g.a=(k:Int)
   ·rw [Q4 e,Q4 e]
    exact Xo9 Z (X47 _ _ _) (X47 _ _ _)
   ·rw [Q3 e,Q3 e]
    exact X6z _
theorem X7b{N:Nat}{g:Gt}(hg:gOk N g=true){i:Nat}(hi:i<2^N)(w:St) : sumN (fun k=>zc N g i k*w (pt N k)) (2^N)=act g w (pt N i):=by
 obtain ⟨hn,hk,ha,hb⟩:=X2i hg
 have hN:N<=5:=by omega
 unfold act
 by_cases h12:g.k=12
 ·rw [Q4 h12,X50 (t:=i) _ hi fun k hk' hne=>by
   simp only [zc,Q4 h12]
   rw [Q3 Z]
   exact X0c _]
  simp only [zc,Q4 h12,if_true]
 ·rw [Q3 h12]
  obtain ⟨A,hA⟩ : ∃ A:Nat,g.a=A:=⟨g.a.toNat,by have:=ha h12;omega⟩
  have hA5:A<N:=by have:=ha h12;omega
  by_cases h9:inR g.k 9 11=true
  ·have h9':=X0o.1 h9
   obtain ⟨B,hB⟩ : ∃ B:Nat,g.b=B:=⟨g.b.toNat,by have:=hb h9';omega⟩
   have hB5:B<N:=by have:=hb h9';omega
   obtain ⟨t,ht,ht2,_,_⟩:=Xd2 hg (s:=i) hi h9'
   rw [Qj] at ht
   rw [X50 (t:=t) _ ht fun k hk' hne=>by
    simp only [zc,Q3 h12,Q4 h9,ht2]
    rw [Q3 Z]
    exact X0c _]
   simp only [zc,Q3 h12,Q4 h9,ht2,if_true]
   have bA:=X8e (i:=i) hA5
   have bB:=X8e (i:=i) hB5
   have fl:∀ {j q:Nat},j<2^N->q<N->flipF N j q=((flipT (N-1-q) j).toNat:Int)/\(flipT (N-1-q) j).toNat<2^N/\pt N (flipT (N-1-q) j).toNat=flipB (pt N j) q:=fun {j q} hj hq=>by
    rw [X6k,show ((N:Int)-1-(q:Int)).toNat=N-1-q from by omega]
    exact ⟨(X5c (p:=N-1-q) (s:=j) Z (Nat.lt_of_lt_of_le hj (Xcr hN))).nat,X5h hN hq hj,Xht hN hj hq⟩
   rw [hA,hB,Qj,Qj]
   unfold toS at ht2
   rw [hA,hB] at ht2
   by_cases k9:g.k=9
   ·have hc:czI N g i=false:=by unfold czI;rw [k9];rfl
    rw [Q4 k9,hc,Q3 O4]
    rw [Q4 k9,bA] at ht2
    have e1:om^0=1:=rfl
    rw [e1]
    cases hp:pt N i A
    ·rw [hp] at ht2
     simp only [Bool.false_eq_true,if_false] at ht2
     rw [Q3 O4] at ht2
     obtain rfl:i=t:=by omega
     simp only [Bool.false_eq_true,if_false]
     simp only [e1,Xk]
    ·rw [hp,Q4 O,Q4 O,(fl hi hB5).1] at ht2
     rw [Q4 O,<- (fl hi hB5).2.2,show (flipT (N-1-B) i).toNat=t from by omega]
     simp only [e1,Xk]
   ·rw [Q3 k9] at ht2 ⊢
    by_cases k10:g.k=10
    ·rw [Q4 k10]
     rw [Q3 Z] at ht2
     obtain rfl:i=t:=by omega
     have hc:czI N g i=(pt N i A&&pt N i B):=by
      unfold czI
      rw [k10,hA,hB,bA,bB]
      cases pt N i A<;>cases pt N i B<;>rfl
     rw [hc]
     cases pt N i A&&pt N i B<;>rfl
    ·have k11:g.k=11:=by omega
     have hc:czI N g i=false:=by unfold czI;rw [k11];rfl
     rw [Q3 k10,Q4 k11,hc,Q3 O4]
     rw [Q4 k11,bA,bB] at ht2
     have e1:om^0=1:=rfl
     rw [e1]
     by_cases hp:pt N i A=pt N i B
     ·rw [hp,Q3 (fun h=>h O)] at ht2
      obtain rfl:i=t:=by omega
      rw [Q4 hp]
      simp only [e1,Xk]
     ·rw [Q4 (by revert hp;cases pt N i A<;>cases pt N i B<;>simp),(fl hi hA5).1,(fl (fl hi hA5).2.1 hB5).1] at ht2
      rw [Q3 hp,<- (fl hi hA5).2.2,<- (fl (fl hi hA5).2.1 hB5).2.2]
      rw [show (flipT (N-1-B) (flipT (N-1-A) i).toNat).toNat=t from by omega]
      simp only [e1,Xk]
  ·have h8:¬ (9<=g.k/\g.k<=11):=fun h=>h9 (X0o.2 h)
   rw [Q3 Z,Q3 Z,Q3 Z,hA,Qj]
   have bo:=X5c (p:=N-1-A) (s:=i) Z (Nat.lt_of_lt_of_le hi (Xcr hN))
   have fs:=X5h hN hA5 hi
   have fp:=Xht hN hi hA5
   have fe:flipF N i A=((flipT (N-1-A) i).toNat:Int):=by
    rw [X6k,show ((N:Int)-1-(A:Int)).toNat=N-1-A from by omega]
    exact bo.nat
   generalize (flipT (N-1-A) i).toNat=t at fs fp fe
   have hne:i≠t:=by
    rintro rfl
    have:=congrFun fp A
    simp [flipB] at this
   have bA:=X8e (i:=i) hA5
   have bT:=X8e (i:=t) hA5
   have hT:pt N t A = !pt N i A:=by rw [fp];simp [flipB]
   rw [Xi9 hne _ hi fs fun k hk' n1 n2=>by
    simp only [zc,Q3 h12,Q3 h9,hA,fe]
    rw [Q3 Z]
    exact X0c _]
   simp only [zc,Q3 h12,Q3 h9,hA,fe,true_or,or_true,if_true,bA,bT,hT]
   rw [<- fp]
   cases pt N i A<;>rfl
theorem Xhy{g:Nat->Option Dy} : ∀ {n:Nat} {l:List Dy},seqO g n=some l->∀ k,k<n->g k=some (l.getD k dZ)
 | 0,l,_,k,hk=>by omega
 | n+1,l,h,k,hk=>by
  simp only [seqO] at h
  split at h
  ·rename_i l' x h1 h2
   injection h with h
   subst h
   have hl:=X66 h1
   by_cases e:k=n
   ·subst e
    rw [h2,Qa,W5 Z,hl,Nat.sub_self]
    rfl
   ·rw [Xhy h1 k Z,Qa,Qa,List.getElem?_append_left Z]
  ·cases h
theorem X4p{R C:Int}{f:Nat->Nat->Option Dy}{M:Mx}(h:matOf R C f=some M) : (∀ i j,i<R.toNat->j<C.toNat->f i j=some (M.at i j))/\M.rows=R/\M.cols=C/\M.cells.length=R.toNat*C.toNat:=by
 unfold matOf at h
 split at h
 ·cases hs:seqO (gridG f C.toNat) (R.toNat*C.toNat) with
  | none=>rw [hs] at h;cases h
  | some l=>
   rw [hs] at h
   injection h with h
   subst h
   refine ⟨fun i j hi hj=>?_,O,O,X66 hs⟩
   have:=Xhy hs (i*C.toNat+j) (X4y hi hj)
   rw [X9x hj] at this
   exact this
 ·cases h
theorem Xgq{a b:Mx}{i j m m':Nat}{za zb:Nat->Rg} : ∀ n {s:Dy},(∀ k,k<n->V (a.at i k) m (za k))->(∀ k,k<n->V (b.at k j) m' (zb k))->dotI a b i j n=some s->V s (m+m') (sumN (fun k=>za k*zb k) n)
 | 0,s,_,_,h=>by
  injection h with h
  subst h
  exact X6z _
 | n+1,s,ha,hb,h=>by
  rw [dotI] at h
  cases h1:dotI a b i j n with
  | none=>rw [h1] at h;cases h
  | some t=>
   rw [h1,Qz] at h
   cases h2:dMulI (a.at i n) (b.at n j) with
   | none=>rw [h2] at h;cases h
   | some x=>
    rw [h2,Qz] at h
    exact (Y08 h (Xgq n (fun k hk=>ha k Z) (fun k hk=>hb k Z) h1) (Y09 h2 (ha n Z) (hb n Z)).1).1
theorem Xj0{N:Nat}{g:Gt}(hg:gOk N g=true){i k:Nat}(hi:i<2^N)(hk:k<2^N) : (gateS N g).at i k=cellI N g i k:=by
 have h:=(X95 hg).1
 unfold gateI at h
 rw [Q4 hg] at h
 have:=(X4p h).1 i k (by rw [Qj,Qj];exact hi) (by rw [Qj,Qj];exact hk)
 exact (Option.some.inj this).symm
theorem Xj5{a b M:Mx}(h:mulI a b=some M) : (∀ i j,i<a.rows.toNat->j<b.cols.toNat->dotI a b i j a.cols.toNat=some (M.at i j))/\M.rows=a.rows/\M.cols=b.cols/\a.cols=b.rows/\M.cells.length=a.rows.toNat*b.cols.toNat:=by
 unfold mulI at h
 split at h
 ·rename_i h1
  simp only [Qd,beq_iff_eq] at h1
  obtain ⟨p1,p2,p3,p4⟩:=X4p h;exact ⟨p1,p2,p3,h1.2,p4⟩
 ·cases h
theorem X9j{N:Nat}{C:Nat}{j:Nat}(hj:j<C) : ∀ (l:List Gt) {m0:Nat} {M0 M:Mx} {v:St},(∀ g ∈ l,gOk N g=true)->M0.cols=(C:Int)->(∀ i,i<2^N->V (M0.at i j) m0 (v (pt N i)))->applI N l M0=some M->
  (∀ i,i<2^N->V (M.at i j) (m0+hs l) (run l v (pt N i)))/\M.cols=(C:Int)
 | [],m0,M0,M,v,_,hc,h0,h=>by
  injection h with h
  subst h
  exact ⟨h0,hc⟩
 | g::l,m0,M0,M,v,hg,hc,h0,h=>by
  have hg1:=hg g O5
  rw [applI,(X95 hg1).1,Qq] at h
  cases h1:mulI (gateS N g) M0 with
  | none=>rw [h1] at h;cases h
  | some M1=>
   rw [h1,Qz] at h
   obtain ⟨q1,q2,q3,q4,_⟩:=Xj5 h1
   have e1:(gateS (N:Int) g).rows.toNat=2^N:=by
    show ((2^(N:Int).toNat:Nat) : Int).toNat=2^N
    rw [Qj,Qj]
   have e2:(gateS (N:Int) g).cols.toNat=2^N:=by
    show ((2^(N:Int).toNat:Nat) : Int).toNat=2^N
    rw [Qj,Qj]
   rw [e1,e2,hc,Qj] at q1
   have key:∀ i,i<2^N->V (M1.at i j) (m0+hN g) (act g v (pt N i)):=fun i hi=>by
    have:=Xgq (m:=hN g) (m':=m0) (za:=fun k=>zc N g i k) (zb:=fun k=>v (pt N k)) (2^N) (fun k hk=>by rw [Xj0 hg1 hi hk];exact Xui hg1 i k) (fun k hk=>h0 k hk) (q1 i j hi hj)
    rw [X7b hg1 hi] at this
    rw [Nat.add_comm]
    exact this
   have:=X9j hj l (fun g' hg'=>hg g' (by simp [hg'])) (q3.trans hc) key h
   rw [Nat.add_assoc] at this
   exact this
def eb(N j:Nat) : St:=fun β=>if ∀ q,q<N->β q=pt N j q then 1 else 0
theorem X8l{N i j:Nat}(hN:N<=5)(hi:i<2^N)(hj:j<2^N) : eb N j (pt N i)=if i=j then 1 else 0:=by
 unfold eb
 by_cases e:i=j
 ·subst e
  rw [Q4 O,Q4 fun q _=>rfl]
 ·rw [Q3 e,Q3 fun h=>e (Xxh hN hi hj h)]
theorem Xfm{c:Cx}{N:Nat}{M:Mx}(hn:c.n=N)(h:opI c=some M) : (∀ i j,i<2^N->j<2^N->V (M.at i j) (hs c.gs) (run c.gs (eb N j) (pt N i)))/\mOk M=true/\M.rows=((2^N:Nat) : Int)/\M.cols=((2^N:Nat) : Int):=by
 have hop:=Xtz c
 rw [hop.1] at h
 have hm:=hop.2 M h
 rw [hn,Qj] at hm
 rw [<- hop.1] at h
 unfold opI at h
 split at h
 ·rename_i hc
  obtain ⟨hn5,_,hg⟩:=X7h hc
  have hN:N<=5:=by omega
  rw [hn] at h hg hn5
  cases hi0:idI ((2^(N:Int).toNat:Nat) : Int) with
  | none=>rw [hi0] at h;cases h
  | some U=>
   rw [hi0,Qz] at h
   unfold idI at hi0
   obtain ⟨u1,u2,u3,_⟩:=X4p hi0
   rw [Qj,Qj] at u1
   refine ⟨fun i j hi hj=>?_,hm.1,hm.2,?_⟩
   ·have:=(X9j (N:=N) (C:=2^N) hj c.gs (m0:=0) (v:=eb N j) hg (by rw [u3,Qj]) (fun i hi=>by
     have e:=Option.some.inj (u1 i j hi hj)
     rw [<- e,X8l hN hi hj]
     by_cases e2:i=j
     ·rw [Q4 e2,Q4 e2]
      exact Xil O4 O4
     ·rw [Q3 e2,Q3 e2]
      exact X6z 0) h).1 i hi
    rw [Nat.zero_add] at this
    exact this
   ·exact (X9j (N:=N) (C:=2^N) (j:=0) (Nat.pow_pos O4) c.gs (m0:=0) (v:=eb N 0) hg (by rw [u3,Qj]) (fun i hi=>by
     have e:=Option.some.inj (u1 i 0 hi (Nat.pow_pos O4))
     rw [<- e,X8l hN hi (Nat.pow_pos O4)]
     by_cases e2:i=0
     ·rw [Q4 e2,Q4 e2]
      exact Xil O4 O4
     ·rw [Q3 e2,Q3 e2]
      exact X6z 0) h).2
 ·cases h
def put(N j:Nat)(β:Nat->Bool) : Nat->Bool:=fun q=>if q<N then pt N j q else β q
theorem X9a(c:Rg){f:Nat->Rg} : ∀ n,c*sumN f n=sumN (fun k=>c*f k) n
 | 0=>by show c*0=0;exact X08 c
 | n+1=>by rw [sumN,sumN,X16,X9a c n]
def inj(us:List Int)(β γ:Nat->Bool) : Nat->Bool:=fun p=>if (p:Int) ∈ us then γ (lastN us p us.length).toNat else β p
theorem Xj7(k:Nat) : om^k=om^(k % 8):=by
 have h:∀ m:Nat,om^(8*m)=1:=fun m=>by
  induction m with
  | zero=>rfl
  | succ m ih=>rw [Nat.mul_succ,X2r,ih,om8];rfl
 have:=X2r om (8*(k/8)) (k % 8)
 rw [Nat.div_add_mod,h] at this
 rw [this]
 exact Xk _
end Go.Proofs.YtgobkmhhckhbfaaGreatDoor
namespace Go.Proofs.YtgobkmhhckhbfaaGreatDoor
open Go.RowKit
def encU(i:Int) : List Value:=[.int .u8 i]
theorem Xds:∀ x,(encU x).length=1:=fun _=>rfl
abbrev wu(i:Int) : Int:=IntKind.u64.wrap i
theorem X88(i:Int) : 0<=bits .and .u64 i 255/\bits .and .u64 i 255<=255:=by
 have key:∀ b:BitVec 64,0<=IntKind.u64.wrap ((b &&& BitVec.ofInt 64 255).toNat:Int)/\IntKind.u64.wrap ((b &&& BitVec.ofInt 64 255).toNat:Int)<=255:=fun b=>by
  have h1:(BitVec.ofInt 64 255).toNat=255:=by decide
  have h:(b &&& BitVec.ofInt 64 255).toNat<=255:=by
   rw [BitVec.toNat_and,h1]
   exact Nat.and_le_right
  have h2:IntKind.u64.wrap ((b &&& BitVec.ofInt 64 255).toNat:Int)=((b &&& BitVec.ofInt 64 255).toNat:Int):=by
   generalize (b &&& BitVec.ofInt 64 255).toNat=m at h
   simp only [IntKind.wrap,IntKind.bits,IntKind.signed]
   simp
   omega
  rw [h2]
  omega
 exact key _
theorem Xgg(i:Int) : 0<=bits .and .u64 i 255/\bits .and .u64 i 255<=9223372036854775807:=⟨(X88 i).1,Int.le_trans (X88 i).2 O4⟩
theorem pk{x n:Int}(hx:0<=x)(hn:1<n) : 0<=x.tmod n/\(x.tmod n=0∨x.tmod n<n):=⟨Int.tmod_nonneg _ hx,.inr (Int.tmod_lt_of_pos _ Z)⟩
theorem X5y{l:List Int}{k:Nat}(h:k<l.length) : l[k]? = some (l.getD k 0):=by grind
theorem Xav{l:List Int}{k:Nat}(h:k<l.length) : l.getD k 0 ∈ l:=Qe (X5y h)
section
variable {P : Program} {a : Act} {w : World} {n : Nat} {e : Env} {ty : TypeId} {pos : String} {af : Array Edge} {g : Option (Nat × Bool)} {d : Option Tmp}
variable {s t t' : TypeId} {x y : Operand} {i j : Int}
theorem Xp9(hf:Fr a n e)(hx:ev e x=some (.int .u64 i))(hy:ev e y=some (.int .u64 j)) : Ev P ⟨d,.binOp .mul t x y t',ty,pos,af,g⟩ a w (.int .u64 (wu (i*j))):=fun w' _=>by
 simp [execOp,hf.ev hx,hf.ev hy,eqGuard,binOp,Op.intArith]
theorem Xst(hx:ev e x=some (.int .u64 i))(hy:ev e y=some (.int .u64 j)) : EvW P ⟨d,.binOp .mul t x y t',ty,pos,af,g⟩ n e w (.int .u64 (wu (i*j))):=fun a hf=>Xp9 hf hx hy
theorem Xoz(hf:Fr a n e)(hx:ev e x=some (.int .u64 i))(hy:ev e y=some (.int .u64 j)) : Ev P ⟨d,.binOp .add t x y t',ty,pos,af,g⟩ a w (.int .u64 (wu (i+j))):=fun w' _=>by
 simp [execOp,hf.ev hx,hf.ev hy,eqGuard,binOp,Op.intArith]
theorem Xgc(hx:ev e x=some (.int .u64 i))(hy:ev e y=some (.int .u64 j)) : EvW P ⟨d,.binOp .add t x y t',ty,pos,af,g⟩ n e w (.int .u64 (wu (i+j))):=fun a hf=>Xoz hf hx hy
theorem Xp1(hf:Fr a n e)(hx:ev e x=some (.int .u64 i))(hy:ev e y=some (.int .u64 j)) : Ev P ⟨d,.binOp .and t x y t',ty,pos,af,g⟩ a w (.int .u64 (bits .and .u64 i j)):=fun w' _=>by
 simp [execOp,hf.ev hx,hf.ev hy,eqGuard,binOp,Op.intBits,bits]
theorem Xsq(hx:ev e x=some (.int .u64 i))(hy:ev e y=some (.int .u64 j)) : EvW P ⟨d,.binOp .and t x y t',ty,pos,af,g⟩ n e w (.int .u64 (bits .and .u64 i j)):=fun a hf=>Xp1 hf hx hy
theorem Xpe{m:Nat}(hf:Fr a n e)(hx:ev e x=some (.int .u64 i))(hy:ev e y=some (.int .u64 j))(hj:j=(m:Int))(hm:m<=64) : Ev P ⟨d,.binOp .shr t x y t',ty,pos,af,g⟩ a w (.int .u64 (i/2^m)):=fun w' _=>by
 subst hj
 have hm':min m 64=m:=by omega
 simp [execOp,hf.ev hx,hf.ev hy,eqGuard,binOp,Op.shift,IntKind.bits,hm']
theorem Xsv{m:Nat}(hx:ev e x=some (.int .u64 i))(hy:ev e y=some (.int .u64 j))(hj:j=(m:Int))(hm:m<=64) : EvW P ⟨d,.binOp .shr t x y t',ty,pos,af,g⟩ n e w (.int .u64 (i/2^m)):=fun a hf=>Xpe hf hx hy hj hm
theorem Xvm(hs:P.underlying s=some (.int .i64))(ht:P.underlying t=some (.int .u64))(hf:Fr a n e)(hx:ev e x=some (.int .i64 i)) : Ev P ⟨d,.convert s t x,ty,pos,af,g⟩ a w (.int .u64 (wu i)):=fun w' _=>by
 simp [execOp,hf.ev hx,convert,X0m hs,X0m ht,Conv.intToInt]
theorem Y0g(hs:P.underlying s=some (.int .i64))(ht:P.underlying t=some (.int .u64))(hx:ev e x=some (.int .i64 i)) : EvW P ⟨d,.convert s t x,ty,pos,af,g⟩ n e w (.int .u64 (wu i)):=fun a hf=>Xvm hs ht hf hx
theorem Xvk(hs:P.underlying s=some (.int .u64))(ht:P.underlying t=some (.int .i64))(hf:Fr a n e)(hx:ev e x=some (.int .u64 i))(h:0<=i/\i<=9223372036854775807) : Ev P ⟨d,.convert s t x,ty,pos,af,g⟩ a w (.int .i64 i):=fun w' _=>by
 have h2:IntKind.i64.wrap i=i:=IntWalk.i64_in _ ⟨by omega,by omega⟩
 simp [execOp,hf.ev hx,convert,X0m hs,X0m ht,Conv.intToInt,h2]
theorem Y0f(hs:P.underlying s=some (.int .u64))(ht:P.underlying t=some (.int .i64))(hx:ev e x=some (.int .u64 i))(h:0<=i/\i<=9223372036854775807) : EvW P ⟨d,.convert s t x,ty,pos,af,g⟩ n e w (.int .i64 i):=fun a hf=>Xvk hs ht hf hx h
theorem Xvj(hs:P.underlying s=some (.int .u8))(ht:P.underlying t=some (.int .i64))(hf:Fr a n e)(hx:ev e x=some (.int .u8 i))(h:0<=i/\i<=255) : Ev P ⟨d,.convert s t x,ty,pos,af,g⟩ a w (.int .i64 i):=fun w' _=>by
 have h2:IntKind.i64.wrap i=i:=IntWalk.i64_in _ ⟨by omega,by omega⟩
 simp [execOp,hf.ev hx,convert,X0m hs,X0m ht,Conv.intToInt,h2]
theorem Y3n(hs:P.underlying s=some (.int .u8))(ht:P.underlying t=some (.int .i64))(hx:ev e x=some (.int .u8 i))(h:0<=i/\i<=255) : EvW P ⟨d,.convert s t x,ty,pos,af,g⟩ n e w (.int .i64 i):=fun a hf=>Xvj hs ht hf hx h
end
theorem Xs4(w0:World)(bV:Nat){aS:TypeId}(g:Option Addr)(i:Nat)(d:List Int)(e:Rd w0 w0.heap.size aS encU g d)(aA:∀ x ∈ d,0<=x/\x<=255)(aY:AwayR d g bV)(t:Nat)(sd:Int)(b:Blk w0 bV 52 [.slice g d.length i,vi (t:Int),.int .u64 sd])(ht:t+1<=100000000) : Ret Tryz.prog 55 [(pZ9 bV)] w0 (fun v w=>∃ (x:Int) (t1:Nat) (s1:Int),v=vi x/\(0<=x/\x<=255)/\(t<=t1/\t1<=t+1)/\Kept bV w0.heap.size w0 w/\Blk w bV 52 [.slice g d.length i,vi (t1:Int),.int .u64 s1]):=by
 have aX:=b.lt;refine enter Tryz.func55 O 62 O O ?_;intro a c
 have f:Kept bV w0.heap.size w0 w0:=Kept.refl _ _ _
 refine Zs c fun _ aT=>?_;refine Za O<|Zx aT fun a c _ aU=>?_;refine Za O<|ZX aU fun a c _ aB=>?_;refine Q5 fun _ aV=>?_;refine Xl none (fun _=>false) mixed ?_;intro w1 j;have b:=b.bw j;have e:=e.bw j;have f:=ktr f j;refine Yb c<|Yo 0 O (fun _=>X3 O)<|Yo 1 O (fun _=>Xw O)<|Yo 2 O (fun _=>Vd O X3o 1)<|Ye 3 O (X0 O X2 (b.at 1))<|Yo 4 O (fun _=>X3 O)<|Yo 5 O (fun _=>Xw O)<|Yo 6 O (fun _=>Vd O X6g 0)<|Ye 7 O (X0 O X9b (b.at 0))<|Yo 8 O (fun _=>X11 O X5l)<|Yo 9 O (fun _=>X1a O O) ?_;refine Yd fun a c=>?_;refine aV _ _ ?_
 refine X0z c O (fun aC aW=>?_) (fun aC aW=>?_)
 ·obtain ⟨u7,a6⟩:=X8 (l:=d) (k:=t) Z
  have aZ:=aA _ (Qe a6);refine Xl none (fun _=>false) mixed ?_;intro w2 j;have b:=b.bw j;have e:=e.bw j;have f:=ktr f j;refine Yb c<|Yo 0 O (fun _=>X3 O)<|Yo 1 O (fun _=>Xw O)<|Yo 2 O (fun _=>Vd O X6g 0)<|Ye 3 O (X0 O X9b (b.at 0))<|Yo 4 O (fun _=>X3 O)<|Yo 5 O (fun _=>Xw O)<|Yo 6 O (fun _=>Vd O X3o 1)<|Ye 7 O (X0 O X2 (b.at 1))<|Yi (k:=t) (u:=u7) (enc:=encU) (l:=d) 8 O tv0 O O X5l Y4p Xds e a6 O ?_;intro p9 aD;refine Ye 9 O (X0 O Y4q aD)<|Yo 10 O (fun _=>Y3n Tryz.underlying5 Tryz.underlying3 O (aA _ (Qe a6)))<|Yo 11 O (fun _=>X19 O) ?_;refine Yd fun a c=>?_;refine aB _ _<|Zs c fun _ aE=>?_;refine Zm O<|Ze (Xw O)<|Ze (Vd O X3o 1)<|Ze (X0 O X2 (b.at 1))<|Ze (Xr O O Z Z)<|Ze (Xw O)<|Ze (Vd O X3o 1)<|Zo (X1m (vs:=[vi ((t:Int)+1)]) (l':=[.slice g d.length i,vi ((t:Int)+1),.int .u64 sd]) O O X0e b O O O O O) ?_;rintro _ w3 ⟨ho,hb⟩;have f:=f.self ho;have b:=hb;refine Zx aE fun a c _ aF=>?_;refine Zm O<|Zm O<|Ze (Xw O)<|Ze (Vd O X4k 2)<|Ze (X0 O Xd0 (b.at 2))<|Ze (Xst O O)<|Zm O<|Ze (Y0g Tryz.underlying3 Tryz.underlying50 O)<|Ze (Xgc O O)<|Ze (Xgc O O) ?_;refine Ze (Xw O)<|Ze (Vd O X4k 2)<|Zo (X1m (vs:=[.int .u64 (wu ((wu ((wu (sd*6364136223846793005))+(wu u7)))+1442695040888963407))]) (l':=[.slice g d.length i,vi ((t:Int)+1),.int .u64 (wu ((wu ((wu (sd*6364136223846793005))+(wu u7)))+1442695040888963407))]) O O Xns b O O O O O) ?_;rintro _ w4 ⟨ho,hb⟩;have f:=f.self ho
  have b:=hb;refine ZX aF fun a c _ aG=>?_;refine Q5 fun _ aH=>?_;refine Xl none (fun _=>false) mixed ?_;intro w5 j;have b:=b.bw j;have f:=ktr f j;refine Yb c<|Yo 0 O (fun _=>X3 O)<|Yo 1 O (fun _=>Xw O)<|Yo 2 O (fun _=>Vd O X3o 1)<|Ye 3 O (X0 O X2 (b.at 1))<|Yo 4 O (fun _=>X3 O)<|Yo 5 O (fun _=>Xw O)<|Yo 6 O (fun _=>Vd O X6g 0)<|Ye 7 O (X0 O X9b (b.at 0))<|Yo 8 O (fun _=>X11 O X5l)<|Yo 9 O (fun _=>Xdc O O) ?_;refine Yd fun a c=>?_;refine aH _ _ ?_
  refine X0z c O (fun a7 aI=>?_) (fun a7 aI=>?_)
  ·refine Zs c fun _ aJ=>?_;refine Zm O<|Za O<|Zt aJ fun a c=>?_;refine Q6<|X7<|X4 c (Xo c O O) ?_;exact ⟨_,t+1,_,O,(by first|omega|exact X88 _),⟨by omega,by omega⟩,f,b⟩
  refine Q7<|aG _ _<|Zs c fun _ aK=>?_;refine Zm O<|Ze (Xw O)<|Ze (Vd O X4k 2)<|Ze (X0 O Xd0 (b.at 2))<|Ze (Xsv (m:=40) O O O O4)<|Ze (Xsq O O)<|Ze (Y0f Tryz.underlying50 Tryz.underlying3 O (Xgg _))<|Za O<|Zt aK fun a c=>?_
  refine Q6 (X4 c (Xo c O O) ?_)
  exact ⟨_,t+1,_,O,(by first|omega|exact X88 _),⟨by omega,by omega⟩,f,b⟩
 refine Q7<|aB _ _<|Zs c fun _ aL=>?_;refine Zm O<|Ze (Xw O)<|Ze (Vd O X3o 1)<|Ze (X0 O X2 (b.at 1))<|Ze (Xr O O Z Z)<|Ze (Xw O)<|Ze (Vd O X3o 1)<|Zo (X1m (vs:=[vi ((t:Int)+1)]) (l':=[.slice g d.length i,vi ((t:Int)+1),.int .u64 sd]) O O X0e b O O O O O) ?_;rintro _ w6 ⟨ho,hb⟩;have f:=f.self ho;have b:=hb;refine Zx aL fun a c _ aM=>?_;refine Zm O<|Zm O<|Ze (Xw O)<|Ze (Vd O X4k 2)<|Ze (X0 O Xd0 (b.at 2))<|Ze (Xst O O)<|Zm O<|Ze (Y0g Tryz.underlying3 Tryz.underlying50 O)<|Ze (Xgc O O)<|Ze (Xgc O O) ?_;refine Ze (Xw O)<|Ze (Vd O X4k 2)<|Zo (X1m (vs:=[.int .u64 (wu ((wu ((wu (sd*6364136223846793005))+(wu 0)))+1442695040888963407))]) (l':=[.slice g d.length i,vi ((t:Int)+1),.int .u64 (wu ((wu ((wu (sd*6364136223846793005))+(wu 0)))+1442695040888963407))]) O O Xns b O O O O O) ?_;rintro _ w7 ⟨ho,hb⟩;have f:=f.self ho;have b:=hb;refine ZX aM fun a c _ aN=>?_;refine Q5 fun _ aO=>?_;refine Xl none (fun _=>false) mixed ?_;intro w8 j;have b:=b.bw j;have f:=ktr f j;refine Yb c<|Yo 0 O (fun _=>X3 O)<|Yo 1 O (fun _=>Xw O)<|Yo 2 O (fun _=>Vd O X3o 1)<|Ye 3 O (X0 O X2 (b.at 1))<|Yo 4 O (fun _=>X3 O)<|Yo 5 O (fun _=>Xw O)<|Yo 6 O (fun _=>Vd O X6g 0)<|Ye 7 O (X0 O X9b (b.at 0))<|Yo 8 O (fun _=>X11 O X5l)<|Yo 9 O (fun _=>Xdc O O) ?_;refine Yd fun a c=>?_;refine aO _ _ ?_
 refine X0z c O (fun a8 aP=>?_) (fun a8 aP=>?_)
 ·refine Zs c fun _ aQ=>?_;refine Zm O<|Za O<|Zt aQ fun a c=>?_;refine Q6<|X7<|X4 c (Xo c O O) ?_;exact ⟨_,t+1,_,O,(by first|omega|exact X88 _),⟨by omega,by omega⟩,f,b⟩
 refine Q7<|aN _ _<|Zs c fun _ aR=>?_;refine Zm O<|Ze (Xw O)<|Ze (Vd O X4k 2)<|Ze (X0 O Xd0 (b.at 2))<|Ze (Xsv (m:=40) O O O O4)<|Ze (Xsq O O)<|Ze (Y0f Tryz.underlying50 Tryz.underlying3 O (Xgg _))<|Za O<|Zt aR fun a c=>?_
 refine Q6 (X4 c (Xo c O O) ?_)
 exact ⟨_,t+1,_,O,(by first|omega|exact X88 _),⟨by omega,by omega⟩,f,b⟩
theorem X2h(w0:World)(bV:Nat){aH:TypeId}(f:Option Addr)(k:Nat)(c:List Int)(b:Rd w0 w0.heap.size aH encU f c)(aB:∀ x ∈ c,0<=x/\x<=255)(a6:AwayR c f bV)(t:Nat)(sd:Int)(e:Blk w0 bV 52 [.slice f c.length k,vi (t:Int),.int .u64 sd])(n:Int)(ht:t+2<=100000000) : Ret Tryz.prog 22 [(pZ9 bV),vi n] w0 (fun v w=>∃ (x:Int) (t1:Nat) (s1:Int),v=vi x/\(0<=x/\(x=0∨x<n))/\(t<=t1/\t1<=t+2)/\Kept bV w0.heap.size w0 w/\Blk w bV 52 [.slice f c.length k,vi (t1:Int),.int .u64 s1]):=by
 have aS:=e.lt;refine enter Tryz.func22 O 20 O O ?_;intro a d
 have g:Kept bV w0.heap.size w0 w0:=Kept.refl _ _ _
 refine Zs d fun _ aI=>?_;refine Za O<|ZX aI fun a d _ aJ=>?_;refine Zs d fun _ aK=>?_;refine Zm O<|Ze (Xdc O O)<|Zt aK fun a d=>?_
 refine X0z d O (fun aC a7=>?_) (fun aC a7=>?_)
 ·have a8:n<=1:=a7
  refine Zs d fun _ aL=>?_;refine Za O<|Zt aL fun a d=>?_;refine Q6<|X7<|X4 d (Xo d O O) ?_;exact ⟨0,t,sd,O,⟨by omega,.inl rfl⟩,⟨by omega,by omega⟩,g,e⟩
 have a8:1<n:=by have:=a7;omega
 refine Q7<|aJ _ _<|Zs d fun _ aM=>?_;refine Zm O<|Zf (Vc (Xs4 _ bV f k c b.top aB a6 t sd e Z) Xgw) ?_;rintro _ w1 ⟨aY,aN,aO,rfl,aT,aU,hK,i⟩;obtain ⟨wm,hO,hm,hE⟩:=hK.mid;clear hm;have j:=e;have b:=b.onlyA hO a6;have g:=g.self hO;have b:=b.bw hE;have g:=ktr g hE
 clear j hE hO hK;have e:=i;clear i;refine Za O<|ZX aM fun a d _ aD=>?_;refine Zs d fun _ aP=>?_;refine Zm O<|Ze (X4e O O)<|Zt aP fun a d=>?_
 refine X0z d O (fun aA aE=>?_) (fun aA aE=>?_)
 ·refine Zr d<|Zm O<|Ze (X5t O O Z Z)<|Zm O<|Zf (Vc (Xs4 _ bV f k c b.top aB a6 aN aO e Z) Xgw) ?_;rintro _ w2 ⟨aV,aW,aX,rfl,aQ,aR,hK,i⟩;obtain ⟨wm,hO,hm,hE⟩:=hK.mid;clear hm;have j:=e;have g:=g.self hO;have g:=ktr g hE
  clear j hE hO hK;have e:=i;clear i;refine Ze (Xr O O Z Z)<|Za O<|Zx aD fun a d _ aF=>?_;refine Zm O<|Zm O<|Ze (X4n O O O6)<|Za O<|Zt aF fun a d=>?_
  refine Q6 (X4 d (Xo d O O) ?_)
  exact ⟨_,_,_,O,pk Z a8,⟨by omega,by omega⟩,g,e⟩
 refine Q7<|aD _ _<|Zs d fun _ aG=>?_;refine Zm O<|Zm O<|Ze (X4n O O O6)<|Za O<|Zt aG fun a d=>?_
 refine Q6 (X4 d (Xo d O O) ?_)
 exact ⟨_,_,_,O,pk Z a8,⟨by omega,by omega⟩,g,e⟩
theorem Xs3(w0:World)(bV:Nat){aA:TypeId}(c:Option Addr)(a6:Nat)(b:List Int)(d:Rd w0 w0.heap.size aA encU c b)(aB:∀ x ∈ b,0<=x/\x<=255)(aC:AwayR b c bV)(t:Nat)(sd:Int)(e:Blk w0 bV 52 [.slice c b.length a6,vi (t:Int),.int .u64 sd])(n:Int)(ht:t+2<=100000000) : Ret Tryz.prog 19 [(pZ9 bV),vi n] w0 (fun v w=>∃ (x:Bool) (t1:Nat) (s1:Int),v=.bool x/\(True)/\(t<=t1/\t1<=t+2)/\Kept bV w0.heap.size w0 w/\Blk w bV 52 [.slice c b.length a6,vi (t1:Int),.int .u64 s1]):=by
 have aF:=e.lt;refine enter Tryz.func19 O 9 O O ?_;intro a hf
 have hW:Kept bV w0.heap.size w0 w0:=Kept.refl _ _ _
 refine Zs hf fun _ aD=>?_;refine Za O<|Zx aD fun a hf _ aE=>?_;refine Zm O<|Zm O<|Zf (Vc (X2h _ bV c a6 b d.top aB aC t sd e n Z) X1b) ?_;rintro _ w1 ⟨aI,aJ,aK,rfl,aG,aH,hK,a7⟩;obtain ⟨wm,hO,hm,hE⟩:=hK.mid;clear hm;have a8:=e;have hW:=hW.self hO;have hW:=ktr hW hE
 clear a8 hE hO hK;have e:=a7;clear a7;refine Ze (X0f O O)<|Za O<|Zt aE fun a hf=>?_
 refine Q6 (X4 hf (Xo hf O O) ?_)
 exact ⟨_,_,_,O,trivial,⟨by omega,by omega⟩,hW,e⟩
theorem Xak(w0:World)(bV:Nat){aB:TypeId}(d:Option Addr)(a6:Nat)(b:List Int)(e:Rd w0 w0.heap.size aB encU d b)(aC:∀ x ∈ b,0<=x/\x<=255)(aD:AwayR b d bV)(t:Nat)(sd:Int)(f:Blk w0 bV 52 [.slice d b.length a6,vi (t:Int),.int .u64 sd])(Al:Option Addr)(cl:Nat)(l:List Int)(c:Rd w0 w0.heap.size 3 encI Al l)(aJ:0<l.length)(aK:l.length<=1000)(ht:t+2<=100000000) : Ret Tryz.prog 53 [(pZ9 bV),.slice Al l.length cl] w0 (fun v w=>∃ (x:Int) (t1:Nat) (s1:Int),v=vi x/\(x ∈ l)/\(t<=t1/\t1<=t+2)/\Kept bV w0.heap.size w0 w/\Blk w bV 52 [.slice d b.length a6,vi (t1:Int),.int .u64 s1]):=by
 have aG:=f.lt;refine enter Tryz.func53 O 12 O O ?_;intro a hf
 have hW:Kept bV w0.heap.size w0 w0:=Kept.refl _ _ _
 refine Zs hf fun _ aE=>?_;refine Za O<|Zx aE fun a hf _ aF=>?_;refine Zm O<|Zm O<|Zm O<|Ze (X11 O Xy)<|Zf (Vc (X2h _ bV d a6 b e.top aC aD t sd f (l.length:Int) Z) X1b) ?_;rintro _ w1 ⟨a7,aL,aM,rfl,aH,aI,hK,a8⟩;obtain ⟨wm,hO,hm,hE⟩:=hK.mid;clear hm;have g:=f;have c:=c.oT hO g O;have hW:=hW.self hO;have c:=c.bw hE;have hW:=ktr hW hE
 clear g hE hO hK;have f:=a8;clear a8;refine Zi (k:=a7.toNat) (u:=(l.getD a7.toNat 0)) (enc:=encI) (l:=l) tv0 O O Xy X0e Xn c (X5y Z) Z ?_;intro p6 aA;refine Ze (X0 O X2 aA)<|Za O<|Zt aF fun a hf=>?_
 refine Q6 (X4 hf (Xo hf O O) ?_)
 exact ⟨_,_,_,O,Xav Z,⟨by omega,by omega⟩,hW,f⟩
theorem Xyb(w0:World)(bV:Nat){aU:TypeId}(E:Option Addr)(H:Nat)(q:List Int)(b:Rd w0 w0.heap.size aU encU E q)(a6:∀ x ∈ q,0<=x/\x<=255)(I:AwayR q E bV)(t:Nat)(sd:Int)(d:Blk w0 bV 52 [.slice E q.length H,vi (t:Int),.int .u64 sd])(n:Int)(Al:Option Addr)(cl:Nat)(l:List Int)(z:Rd w0 w0.heap.size 3 encI Al l)(hn:1<=n/\n<=100)(b6:0<l.length)(b7:l.length<=1000)(ht:t+6<=100000000) : Ret Tryz.prog 54 [(pZ9 bV),vi n,.slice Al l.length cl] w0 (fun v w=>∃ (x:Gt) (t1:Nat) (s1:Int),v=gV x/\(True)/\(t<=t1/\t1<=t+6)/\Kept bV w0.heap.size w0 w/\Blk w bV 52 [.slice E q.length H,vi (t1:Int),.int .u64 s1]):=by
 have b5:=d.lt;refine enter Tryz.func54 O 42 O O ?_;intro a o
 have g:Kept bV w0.heap.size w0 w0:=Kept.refl _ _ _
 refine Zs o fun _ aV=>?_;refine Zf (X03 (zs:=[vi 0,vi 0,vi 0]) X87 O) ?_;rintro _ w1 ⟨b4,rfl,aW,p,c⟩;have G:=Q0 g.size aW;have d:=d.bw p;have b:=b.bw p;have z:=z.bw p;have g:=ktr g p;refine Zx aV fun a o _ aX=>?_;refine Zm O<|Zm O<|Zm O<|Ze (X11 O Xy)<|Zf (Vc (X2h _ bV E H q b.top a6 I t sd d (l.length:Int) Z) X1b) ?_;rintro _ w2 ⟨f,aA,aB,rfl,aY,aZ,M,B⟩;obtain ⟨wm,D,hm,p⟩:=M.mid;clear hm;have i:=d;have c:=c.oz D i O;have b:=b.onlyA D I;have z:=z.oT D i O;have g:=g.self D;have c:=c.bw p;have b:=b.bw p;have z:=z.bw p;have g:=ktr g p
 clear i p D M;have d:=B;clear B;refine Zi (k:=f.toNat) (u:=(l.getD f.toNat 0)) (enc:=encI) (l:=l) tv0 O O Xy X0e Xn z (X5y Z) Z ?_;intro p7 aC;refine Ze (X0 O X2 aC)<|Ze (Xt (ps:=[(0,vi (l.getD f.toNat 0))]) (cs:=[vi (l.getD f.toNat 0),vi 0,vi 0]) O (fun _=>by first|rfl|kernel_rfl)) ?_;refine ZB [vi (l.getD f.toNat 0),vi 0,vi 0] X87 X2t fun b8 w4 b0 p e=>?_
 have aT:b4≠b8:=by have:=c.lt;omega
 have J:=Q0 g.size b0;have d:=d.bw p;have c:=c.bw p;have b:=b.bw p;have g:=ktr g p;refine ZX aX fun a o _ b1=>?_;refine Zs o fun _ aD=>?_;refine Ze (Vd O X25 0)<|Ze (X0 O X2 (e.at 0))<|Ze (X0f O O)<|Zt aD fun a o=>?_
 refine Xz o O (fun aE=>?_) (fun aE=>?_)
 ·refine Zs o fun _ aF=>?_;refine Ze (Vn X28 e)<|Zo (Vw [vi (l.getD f.toNat 0),vi 0,vi 0] X2t c) ?_;rintro _ w5 ⟨A,L⟩;have d:=d.oz A c O;have g:=Kept.oy g A G;have c:=L;refine Zt aF fun a o=>?_;refine Q6<|X7<|X4 o (Xo o O (ResV.cellN (l:=[vi (l.getD f.toNat 0),vi 0,vi 0]) O X28 (c.at 0) O)) ?_;exact ⟨⟨_,_,_⟩,_,_,O,trivial,⟨by omega,by omega⟩,g,d⟩
 refine Q7<|b1 _ _<|Zs o fun _ aG=>?_;refine Zm O<|Zm O<|Zf (Vc (X2h _ bV E H q b.top a6 I aA aB d n Z) X1b) ?_;rintro _ w6 ⟨m,aH,aI,rfl,b2,b3,M,B⟩;obtain ⟨wm,D,hm,p⟩:=M.mid;clear hm;have i:=d;have c:=c.oz D i O;have e:=e.oz D i O;have b:=b.onlyA D I;have g:=g.self D;have c:=c.bw p;have e:=e.bw p;have b:=b.bw p;have g:=ktr g p
 clear i p D M;have d:=B;clear B;refine Ze (Vd O Xs 1)<|Zo (Vu (vs:=[vi m]) (l':=[vi (l.getD f.toNat 0),vi m,vi 0]) O O X0e e) ?_;rintro _ w7 ⟨A,L⟩;have d:=d.oz A e O;have c:=c.oy A Z;have b:=b.oy A J;have g:=Kept.oy g A J;have e:=L;refine ZX aG fun a o _ N=>?_;refine Zs o fun _ aJ=>?_;refine Ze (Vd O X25 0)<|Ze (X0 O X2 (e.at 0))<|Zf (Vc (F85 _ (l.getD f.toNat 0) 9 11) X4b) ?_;rintro _ _ ⟨rfl,rfl⟩;refine Zt aJ fun a o=>?_
 refine Xz o O (fun aK=>?_) (fun aK=>?_)
 ·refine Q5 fun _ aL=>?_;refine Zs o fun _ aM=>?_;refine Zm O<|Ze (X0f O O)<|Zt aM fun a o=>?_
  refine Xz o O (fun aN=>?_) (fun aN=>?_)
  ·refine Zs o fun _ aO=>?_;refine Ze (Xt (ps:=[(0,vi 1)]) (cs:=[vi 1,vi 0,vi 0]) O (fun _=>by first|rfl|kernel_rfl))<|Zo (Vw [vi 1,vi 0,vi 0] X2t c) ?_;rintro _ w8 ⟨A,L⟩;have d:=d.oz A c O;have g:=Kept.oy g A G;have c:=L;refine Zt aO fun a o=>?_;refine Q6<|X7<|X7<|X4 o (Xo o O (ResV.cellN (l:=[vi 1,vi 0,vi 0]) O X28 (c.at 0) O)) ?_;exact ⟨⟨_,_,_⟩,_,_,O,trivial,⟨by omega,by omega⟩,g,d⟩
  refine Q7<|aL _ _<|Xl (some bV) (fun j=>[11].contains j) mixed ?_;intro w9 p;have d:=d.bw p;have c:=c.bw p;have e:=e.bw p;have b:=b.bw p;have g:=ktr g p;refine Yb o<|Yo 0 O (fun _=>Vd O Xs 1) ?_;refine Yw 1 O tv0 (fun w1 h1=>X0 O X2 ((e.oz h1 d O).at 1)) ?_;refine Yo 2 O (fun _=>Xr O O Z Z)<|Yo 3 O (fun _=>X3 O)<|Yo 4 O (fun _=>X3 O)<|Yo 5 O (fun _=>X1c O O Z Z)<|Yo 8 O (fun _=>X3 O)<|Y1 6 ?_;refine Yf O tv0 (EfW.mono (Vc (X2h _ bV E H q b.top a6 I aH aI d (n-1) Z) X1b) (fun _ _ h=>⟨fun _=>by obtain ⟨C,aP,aQ,rfl,a7,a8,M,B⟩:=h;exact M.keep,h⟩)) ?_;rintro _ b9 ⟨C,aP,aQ,rfl,a7,a8,M,B⟩;obtain ⟨wm,D,hm,p⟩:=M.mid;clear hm;have i:=d;have c:=c.oz D i O;have e:=e.oz D i O;have g:=g.self D;have c:=c.bw p;have e:=e.bw p;have g:=ktr g p
  clear i p D M;have d:=B;clear B;refine Yo 7 O (fun _=>Xr O O Z Z)<|Yo 9 O (fun _=>X4n O O O6)<|Yo 10 O (fun _=>Vd O X0h 2)<|Y1 11 ?_;refine Yh O tv0 O (Vu (vs:=[vi (((m+1)+C).tmod n)]) (l':=[vi (l.getD f.toNat 0),vi m,vi (((m+1)+C).tmod n)]) O O X0e e) ?_;rintro _ bC ⟨A,L⟩;have d:=d.oz A e O;have c:=c.oy A Z;have g:=Kept.oy g A J;have e:=L;refine Yd fun a o=>?_;refine N _ _<|Zs o fun _ aR=>?_;refine Ze (Vn X28 e)<|Zo (Vw [vi (l.getD f.toNat 0),vi m,vi (((m+1)+C).tmod n)] X2t c) ?_;rintro _ bD ⟨A,L⟩;have d:=d.oz A c O;have g:=Kept.oy g A G;have c:=L;refine Zt aR fun a o=>?_
  refine Q6 (X4 o (Xo o O (ResV.cellN (l:=[vi (l.getD f.toNat 0),vi m,vi (((m+1)+C).tmod n)]) O X28 (c.at 0) O)) ?_)
  exact ⟨⟨_,_,_⟩,_,_,O,trivial,⟨by omega,by omega⟩,g,d⟩
 refine Q7<|N _ _<|Zs o fun _ aS=>?_;refine Ze (Vn X28 e)<|Zo (Vw [vi (l.getD f.toNat 0),vi m,vi 0] X2t c) ?_;rintro _ bE ⟨A,L⟩;have d:=d.oz A c O;have g:=Kept.oy g A G;have c:=L;refine Zt aS fun a o=>?_
 refine Q6 (X4 o (Xo o O (ResV.cellN (l:=[vi (l.getD f.toNat 0),vi m,vi 0]) O X28 (c.at 0) O)) ?_)
 exact ⟨⟨_,_,_⟩,_,_,O,trivial,⟨by omega,by omega⟩,g,d⟩
theorem Xje(w0:World)(bV:Nat){aH:TypeId}(E:Option Addr)(M:Nat)(B:List Int)(d:Rd w0 w0.heap.size aH encU E B)(aI:∀ x ∈ B,0<=x/\x<=255)(W:AwayR B E bV)(t:Nat)(sd:Int)(i:Blk w0 bV 52 [.slice E B.length M,vi (t:Int),.int .u64 sd])(n:Int)(most:Int)(Al:Option Addr)(cl:Nat)(l:List Int)(f:Rd w0 w0.heap.size 3 encI Al l)(hn:1<=n/\n<=100)(hm:0<=most/\most<=1000)(aW:0<l.length)(aX:l.length<=1000)(ht:t+(2+6*most.toNat)<=100000000) : Ret Tryz.prog 21 [(pZ9 bV),vi n,vi most,.slice Al l.length cl] w0 (fun v w=>∃ (c:Cx) (A:Option Addr) (e:Nat) (t1:Nat) (s1:Int),v=.agg #[vi c.n,.slice A c.gs.length e]/\(c.n=n/\(c.gs.length:Int)<=most)/\(t<=t1/\t1<=t+(2+6*most.toNat))/\Own w w0.heap.size 66 3 encG A e c.gs/\Kept bV w0.heap.size w0 w/\Blk w bV 52 [.slice E B.length M,vi (t1:Int),.int .u64 s1]):=by
 have b6:=i.lt;refine enter Tryz.func21 O 31 O O ?_;intro a D
 have z:Kept bV w0.heap.size w0 w0:=Kept.refl _ _ _
 refine Zs D fun _ aY=>?_;refine Zf (X03 (zs:=[vi 0,.slice none 0 0]) Xd6 O) ?_;rintro _ w1 ⟨b5,rfl,aZ,p,g⟩;have aJ:=Q0 z.size aZ;have i:=i.bw p;have d:=d.bw p;have f:=f.bw p;have z:=ktr z p;refine Zx aY fun a D _ b0=>?_;refine Zm O<|Ze (Xt (ps:=[(0,vi n)]) (cs:=[vi n,.slice none 0 0]) O (fun _=>by first|rfl|kernel_rfl)) ?_;refine ZB [vi n,.slice none 0 0] Xd6 X59 fun b9 w3 b1 p m=>?_
 have aV:b5≠b9:=by have:=g.lt;omega
 have a6:=Q0 z.size b1;have i:=i.bw p;have g:=g.bw p;have d:=d.bw p;have f:=f.bw p;have z:=ktr z p;refine ZX b0 fun a D _ aK=>?_;refine Zs D fun _ aL=>?_;refine Zm O<|Zm O<|Ze (Xr O O Z Z)<|Zf (Vc (X2h _ bV E M B d.top aI W t sd i (most+1) Z) X1b) ?_;rintro _ w4 ⟨aM,aN,aO,rfl,b2,b3,hK,H⟩;obtain ⟨wm,G,hm,p⟩:=hK.mid;clear hm;have u:=i;have g:=g.oz G u O;have m:=m.oz G u O;have d:=d.onlyA G W;have f:=f.oT G u O;have z:=z.self G;have g:=g.bw p;have m:=m.bw p;have d:=d.bw p;have f:=f.bw p;have z:=ktr z p
 clear u p G hK;have i:=H;clear H;refine Za O<|Zt aL fun a D=>?_;refine Q8<|X00 (σ:=Int×(List Gt)×Nat×Int) (fun (s:Int×(List Gt)×Nat×Int) (a:Act) (w:World)=>match s with|(j,gs,t2,s2)=>∃ I J,Fr a 31 [(0,(pZ9 bV)),(1,vi n),(3,.slice Al l.length cl),(8,(pZ9 b5)),(9,(pZ9 b9)),(10,vi j)]/\(0<=j/\j+gs.length<=most)/\(t<=t2/\t2+6*j.toNat<=t+(2+6*most.toNat))/\Blk w bV 52 [.slice E B.length M,vi (t2:Int),.int .u64 s2]/\Blk w b5 26 [vi 0,.slice none 0 0]/\Blk w b9 26 [vi n,.slice I gs.length J]/\Rd w w0.heap.size aH encU E B/\Rd w w0.heap.size 3 encI Al l/\Own w w0.heap.size 66 3 encG I J gs/\Kept bV w0.heap.size w0 w) (fun (s:Int×(List Gt)×Nat×Int)=>match s with|(j,gs,t2,s2)=>j.toNat) (aM,[],aN,aO) ?_ ?_
 ·exact ⟨none,0,D.sb,O6,Z,i,g,m,d,f,(Own.nil _ _ _ _ _),z⟩
 rintro ⟨j,gs,t2,s2⟩ a w5 ⟨I,J,D,hj,b7,i,g,m,d,f,o,z⟩;refine Q5 fun _ aP=>?_;refine Zs D fun _ aQ=>?_;refine Zm O<|Ze (X4e O O)<|Zt aQ fun a D=>?_
 refine X0z D O (fun aB aR=>?_) (fun aB aR=>?_)
 ·refine Q7<|aP _ _<|Q5 fun _ aS=>?_;refine Q8<|Xl (some bV) (fun j=>[7,9].contains j) mixed ?_;intro w6 p;have i:=i.bw p;have g:=g.bw p;have m:=m.bw p;have d:=d.bw p;have f:=f.bw p;have o:=o.bw p;have z:=ktr z p;refine Yb D<|Yo 0 O (fun _=>Vd O X38 1) ?_;refine Yw 1 O tv0 (fun w1 h1=>X0 O X69 ((m.oz h1 i O).at 1)) ?_;refine Yo 2 O (fun _=>X3 O)<|Yo 3 O (fun _=>X3 O)<|Yo 4 O (fun _=>X3 O)<|Y1 5 ?_;refine Yf O tv0 (EfW.mono (Vc (Xyb _ bV E M B d.top aI W t2 s2 i n Al cl l f.top hn aW aX Z) Xgv) (fun _ _ h=>⟨fun _=>by obtain ⟨q,a7,a8,rfl,aC,aD,hK,H⟩:=h;exact hK.keep,h⟩)) ?_;rintro _ w7 ⟨q,a7,a8,rfl,aC,aD,hK,H⟩;obtain ⟨wm,G,hm,p⟩:=hK.mid;clear hm;have u:=i;have g:=g.oz G u O;have m:=m.oz G u O;have d:=d.onlyA G W;have f:=f.oT G u O;have o:=o.oT G u O;have z:=z.self G;have g:=g.bw p;have m:=m.bw p;have d:=d.bw p;have f:=f.bw p;have o:=o.bw p;have z:=ktr z p
  clear u p G hK;have i:=H;clear H;refine Y1 6<|Yf O tv0 (EfW.mono (X9 (k:=1) (vs:=[.agg #[vi q.k,vi q.a,vi q.b]]) (zs:=[vi q.k,vi q.a,vi q.b]) O X3q X6m O O) (fun _ _ h=>⟨fun _=>by obtain ⟨_,_,_,p,_⟩:=h;exact Keep.of_below p,h⟩)) ?_;rintro _ w8 ⟨b8,rfl,aA,p,N⟩;have b4:=Q0 z.size aA;have L:=o.away aA;have i:=i.bw p;have g:=g.bw p;have m:=m.bw p;have d:=d.bw p;have f:=f.bw p;have o:=o.bw p;have z:=ktr z p;refine Y1 7<|Yt O tv0 O (X15 (enc:=encG) (l:=(gs)) (l2:=([q])) (B0:=w0.heap.size) O O X3q X6m X3u X9s o (Rd.of_blk N O _ N.lt) (by simp only [maxLen];simp;omega) O6 z.size) ?_;rintro _ w9 ⟨aE,aF,rfl,Q,hg,aT⟩
  have C:Own _ w0.heap.size 66 3 encG _ _ (gs):=o
  have aG:=aT _ N.lt L;clear aT;have i:=i.appT C hg O;have g:=g.appT C hg O;have m:=m.appT C hg O;have d:=d.appB C hg (Qb _);have f:=f.appT C hg O;have z:=Kept.app z C hg (Qb _) z.size;clear C hg;refine Yo 8 O (fun _=>Vd O X38 1)<|Y1 9 ?_;refine Yh O tv0 O (Vu (vs:=[.slice aE (gs++([q])).length aF]) (l':=[vi n,.slice aE (gs++([q])).length aF]) O O Xnt m) ?_;rintro _ bC ⟨U,hb⟩;have i:=i.oz U m O;have g:=g.oy U Z;have d:=d.oy U a6;have f:=f.oT U m O;have Q:=Q.oT U m O;have z:=Kept.oy z U a6;have m:=hb;refine Yd fun a D=>?_;refine X6<|aS _ _<|Zr D<|Zm O<|Ze (X1c O O Z Z)<|Za O ?_;refine Zn fun a D=>?_;refine Xc ?_;exact ⟨(j-1,gs++[q],a7,a8),⟨aE,aF,D.sb,O6,Z,i,g,m,d,f,Q,z⟩,O0⟩
 refine Q9<|Xg<|Xg<|X01 ?_;refine aK _ _<|Zs D fun _ aU=>?_;refine Ze (Vn X3g m)<|Zo (Vw [vi n,.slice I gs.length J] X59 g) ?_;rintro _ bD ⟨U,hb⟩;have i:=i.oz U g O;have o:=o.oT U g O;have z:=Kept.oy z U aJ;have g:=hb;refine Zt aU fun a D=>?_
 refine Q6 (X4 D (Xo D O (ResV.cellN (l:=[vi n,.slice I gs.length J]) O X3g (g.at 0) O)) ?_)
 exact ⟨⟨n,gs⟩,I,J,_,_,O,⟨O,by show (gs.length:Int)<=most;omega⟩,⟨by omega,by omega⟩,o,z,i⟩
theorem Xyd(w0:World)(bV:Nat){aF:TypeId}(q:Option Addr)(z:Nat)(g:List Int)(b:Rd w0 w0.heap.size aF encU q g)(aA:∀ x ∈ g,0<=x/\x<=255)(a6:AwayR g q bV)(t:Nat)(sd:Int)(f:Blk w0 bV 52 [.slice q g.length z,vi (t:Int),.int .u64 sd])(ht:t+52<=100000000) : Ret Tryz.prog 52 [(pZ9 bV)] w0 (fun v w=>∃ (c:Cx) (A:Option Addr) (e:Nat) (t1:Nat) (s1:Int),v=.agg #[vi c.n,.slice A c.gs.length e]/\((1<=c.n/\c.n<=3)/\c.gs.length<=8)/\(t<=t1/\t1<=t+52)/\Own w w0.heap.size 66 3 encG A e c.gs/\Kept bV w0.heap.size w0 w/\Blk w bV 52 [.slice q g.length z,vi (t1:Int),.int .u64 s1]):=by
 have aO:=f.lt;refine enter Tryz.func52 O 9 O O ?_;intro a hf
 have j:Kept bV w0.heap.size w0 w0:=Kept.refl _ _ _
 refine Zs hf fun _ aG=>?_;refine Zf (X03 (zs:=[vi 0,.slice none 0 0]) Xd6 O) ?_;rintro _ w1 ⟨b4,rfl,aH,i,d⟩;have aB:=Q0 j.size aH;have f:=f.bw i;have b:=b.bw i;have j:=ktr j i;refine Zx aG fun a hf _ aI=>?_;refine Zm O<|Zm O<|Zf (X9 (k:=4) (vs:=[vi 1,vi 2,vi 2,vi 3]) (zs:=[vi 1,vi 2,vi 2,vi 3]) O Xy X2j O O) ?_;rintro _ w2 ⟨b6,rfl,aJ,i,o⟩;have aP:=Q0 j.size aJ;have f:=f.bw i;have d:=d.bw i;have b:=b.bw i;have j:=ktr j i;refine Zf (Vc (Xak _ bV q z g b.top aA a6 t sd f (some ⟨b6,0,none⟩) 4 ([1,2,2,3]) (Rd.of_blk o O _ o.lt) O5 O5 Z) X6h) ?_;rintro _ w3 ⟨aK,aL,aM,rfl,C,aQ,hK,u⟩;obtain ⟨wm,h,hm,i⟩:=hK.mid;clear hm;have m:=f;have d:=d.oz h m O;have o:=o.oz h m O;have b:=b.onlyA h a6;have j:=j.self h;have d:=d.bw i;have o:=o.bw i;have b:=b.bw i;have j:=ktr j i
 clear m i h hK;have f:=u;clear u;refine Zf (X9 (k:=15) (vs:=[vi 1,vi 2,vi 3,vi 4,vi 5,vi 6,vi 7,vi 8,vi 9,vi 9,vi 10,vi 11,vi 12,vi 7,vi 1]) (zs:=[vi 1,vi 2,vi 3,vi 4,vi 5,vi 6,vi 7,vi 8,vi 9,vi 9,vi 10,vi 11,vi 12,vi 7,vi 1]) O Xy X2j O O) ?_;rintro _ w4 ⟨b8,rfl,aN,i,aC⟩
 have aE:b6≠b8:=by have:=o.lt;omega
 have aR:=Q0 j.size aN;have f:=f.bw i;have d:=d.bw i;have b:=b.bw i;have j:=ktr j i;refine Zf (Vc (Xje _ bV q z g b.top aA a6 aL aM f aK 8 (some ⟨b8,0,none⟩) 15 ([1,2,3,4,5,6,7,8,9,9,10,11,12,7,1]) (Rd.of_blk aC O _ aC.lt) (by simp at C;omega) Z O5 O5 Z) X8z) ?_;rintro _ w5 ⟨B,a7,a8,aU,aV,rfl,aS,aT,p,hK,u⟩;have aD:=j.size;obtain ⟨wm,h,hm,i⟩:=hK.mid;clear hm;have m:=f;have d:=d.oz h m O;have j:=j.self h;have d:=d.bw i;have j:=ktr j i
 clear m i h hK;have f:=u;clear u
 have p:=p.lower aD;clear aD;refine Zo (Vw [vi B.n,.slice a7 B.gs.length a8] X59 d) ?_;rintro _ w6 ⟨ho,hb⟩;have f:=f.oz ho d O;have p:=p.oT ho d O;have j:=Kept.oy j ho aB;have d:=hb;refine Zt aI fun a hf=>?_
 refine Q6 (X4 hf (Xo hf O (ResV.cellN (l:=[vi B.n,.slice a7 B.gs.length a8]) O X3g (d.at 0) O)) ?_)
 exact ⟨_,a7,a8,_,_,O,⟨(by simp at C;omega),Z⟩,⟨by omega,by omega⟩,p,j,f⟩
theorem Xyc(w0:World)(bV:Nat){bE:TypeId}(J:Option Addr)(N:Nat)(B:List Int)(b:Rd w0 w0.heap.size bE encU J B)(a7:∀ x ∈ B,0<=x/\x<=255)(L:AwayR B J bV)(t:Nat)(sd:Int)(g:Blk w0 bV 52 [.slice J B.length N,vi (t:Int),.int .u64 sd])(ht:t+60<=100000000) : Ret Tryz.prog 20 [(pZ9 bV)] w0 (fun v w=>∃ (c:Cx) (A:Option Addr) (e:Nat) (t1:Nat) (s1:Int),v=.agg #[vi c.n,.slice A c.gs.length e]/\((0<=c.n/\c.n<=6)/\c.gs.length<=9)/\(t<=t1/\t1<=t+60)/\Own w w0.heap.size 66 3 encG A e c.gs/\Kept bV w0.heap.size w0 w/\Blk w bV 52 [.slice J B.length N,vi (t1:Int),.int .u64 s1]):=by
 have bQ:=g.lt;refine enter Tryz.func20 O 31 O O ?_;intro a G
 have p:Kept bV w0.heap.size w0 w0:=Kept.refl _ _ _
 refine Zs G fun _ bF=>?_;refine Zf (X03 (zs:=[vi 0,.slice none 0 0]) Xd6 O) ?_;rintro _ w1 ⟨b4,rfl,bG,o,f⟩;have a8:=Q0 p.size bG;have g:=g.bw o;have b:=b.bw o;have p:=ktr p o;refine Zx bF fun a G _ bH=>?_;refine Zm O<|Zf (Vc (Xyd _ bV J N B b.top a7 L t sd g Z) Xpk) ?_;rintro _ w2 ⟨q,Q,U,bJ,bK,rfl,bR,bS,d,H,u⟩;have aU:=p.size;obtain ⟨wm,z,hm,o⟩:=H.mid;clear hm;have m:=g;have f:=f.oz z m O;have b:=b.onlyA z L;have p:=p.self z;have f:=f.bw o;have b:=b.bw o;have p:=ktr p o
 clear m o z H;have g:=u;clear u
 have d:=d.lower aU;clear aU;refine ZB [vi q.n,.slice Q q.gs.length U] Xd6 X59 fun b8 w4 bL o i=>?_
 have bD:b4≠b8:=by have:=f.lt;omega
 have aE:=Q0 p.size bL;have g:=g.bw o;have f:=f.bw o;have b:=b.bw o;have d:=d.bw o;have p:=ktr p o;refine ZX bH fun a G _ aL=>?_;refine Zs G fun _ aV=>?_;refine Zm O<|Zf (Vc (X2h _ bV J N B b.top a7 L bJ bK g 14 Z) X1b) ?_;rintro _ w5 ⟨bZ,aW,aX,rfl,bU,bW,H,u⟩;obtain ⟨wm,z,hm,o⟩:=H.mid;clear hm;have m:=g;have f:=f.oz z m O;have i:=i.oz z m O;have b:=b.onlyA z L;have d:=d.oT z m O;have p:=p.self z;have f:=f.bw o;have i:=i.bw o;have b:=b.bw o;have d:=d.bw o;have p:=ktr p o
 clear m o z H;have g:=u;clear u;refine Zt aV fun a G=>?_;refine Q8<|Zs G fun _ aY=>?_;refine Ze (X0f O O)<|Za O<|Zt aY fun a G=>?_
 refine Xz G O (fun aZ=>?_) (fun aZ=>?_)
 ·refine Zr G<|Zm O<|Zf (X9 (k:=4) (vs:=[vi 0,vi 1,vi 5,vi 6]) (zs:=[vi 0,vi 1,vi 5,vi 6]) O Xy X2j O O) ?_;rintro _ w6 ⟨bM,rfl,b0,o,aF⟩;have bN:=Q0 p.size b0;have g:=g.bw o;have f:=f.bw o;have i:=i.bw o;have b:=b.bw o;have d:=d.bw o;have p:=ktr p o;refine Zf (Vc (Xak _ bV J N B b.top a7 L aW aX g (some ⟨bM,0,none⟩) 4 ([0,1,5,6]) (Rd.of_blk aF O _ aF.lt) O5 O5 Z) X6h) ?_;rintro _ w7 ⟨I,bX,bY,rfl,aM,bO,H,u⟩;obtain ⟨wm,z,hm,o⟩:=H.mid;clear hm;have m:=g;have f:=f.oz z m O;have i:=i.oz z m O;have d:=d.oT z m O;have p:=p.self z;have f:=f.bw o;have i:=i.bw o;have d:=d.bw o;have p:=ktr p o
  clear m o z H;have g:=u;clear u;refine Ze (Vd O X2f 0)<|Zo (Vu (vs:=[vi I]) (l':=[vi I,.slice Q q.gs.length U]) O O X0e i) ?_;rintro _ w8 ⟨M,hb⟩;have g:=g.oz M i O;have f:=f.oy M Z;have d:=d.oT M i O;have p:=Kept.oy p M aE;have i:=hb;refine Zn fun a G=>?_;refine X6<|aL _ _<|Zs G fun _ b1=>?_;refine Ze (Vn X3g i)<|Zo (Vw [vi I,.slice Q q.gs.length U] X59 f) ?_;rintro _ w9 ⟨M,hb⟩;have g:=g.oz M f O;have d:=d.oT M f O;have p:=Kept.oy p M a8;have f:=hb;refine Zt b1 fun a G=>?_
  refine Q6 (X4 G (Xo G O (ResV.cellN (l:=[vi I,.slice Q q.gs.length U]) O X3g (f.at 0) O)) ?_)
  exact ⟨⟨I,q.gs⟩,Q,U,_,_,O,⟨(by simp at aM;show 0<=I/\I<=6;omega),(by show q.gs.length<=9;omega)⟩,⟨by omega,by omega⟩,d,p,g⟩
 refine Zs G fun _ b2=>?_;refine Ze (X0f O O)<|Za O<|Zt b2 fun a G=>?_
 refine Xz G O (fun b3=>?_) (fun b3=>?_)
 ·refine Xl (some bV) (fun j=>[12,14].contains j) mixed ?_;intro cA o;have g:=g.bw o;have f:=f.bw o;have i:=i.bw o;have b:=b.bw o;have d:=d.bw o;have p:=ktr p o;refine Yb G<|Yo 0 O (fun _=>Vd O X38 1) ?_;refine Yw 1 O tv0 (fun w1 h1=>X0 O X69 ((i.oz h1 g O).at 1)) ?_;refine Yo 2 O (fun _=>X3 O)<|Yo 4 O (fun _=>X3 O)<|Yo 7 O (fun _=>X3 O)<|Y1 3 ?_;refine Yf O tv0 (EfW.mono (Vc (X2h _ bV J N B b.top a7 L aW aX g 14 Z) X1b) (fun _ _ h=>⟨fun _=>by obtain ⟨C,aG,aH,rfl,aN,aO,H,u⟩:=h;exact H.keep,h⟩)) ?_;rintro _ cB ⟨C,aG,aH,rfl,aN,aO,H,u⟩;obtain ⟨wm,z,hm,o⟩:=H.mid;clear hm;have m:=g;have f:=f.oz z m O;have i:=i.oz z m O;have b:=b.onlyA z L;have d:=d.oT z m O;have p:=p.self z;have f:=f.bw o;have i:=i.bw o;have b:=b.bw o;have d:=d.bw o;have p:=ktr p o
  clear m o z H;have g:=u;clear u;refine Y1 5<|Yf O tv0 (EfW.mono (Vc (X2h _ bV J N B b.top a7 L aG aH g 4 Z) X1b) (fun _ _ h=>⟨fun _=>by obtain ⟨D,aI,aJ,rfl,aP,aQ,H,u⟩:=h;exact H.keep,h⟩)) ?_;rintro _ cC ⟨D,aI,aJ,rfl,aP,aQ,H,u⟩;obtain ⟨wm,z,hm,o⟩:=H.mid;clear hm;have m:=g;have f:=f.oz z m O;have i:=i.oz z m O;have b:=b.onlyA z L;have d:=d.oT z m O;have p:=p.self z;have f:=f.bw o;have i:=i.bw o;have b:=b.bw o;have d:=d.bw o;have p:=ktr p o
  clear m o z H;have g:=u;clear u;refine Yo 6 O (fun _=>X1c O O Z Z)<|Y1 8 ?_;refine Yf O tv0 (EfW.mono (Vc (X2h _ bV J N B b.top a7 L aI aJ g 4 Z) X1b) (fun _ _ h=>⟨fun _=>by obtain ⟨E,b5,b6,rfl,aR,aS,H,u⟩:=h;exact H.keep,h⟩)) ?_;rintro _ cD ⟨E,b5,b6,rfl,aR,aS,H,u⟩;obtain ⟨wm,z,hm,o⟩:=H.mid;clear hm;have m:=g;have f:=f.oz z m O;have i:=i.oz z m O;have d:=d.oT z m O;have p:=p.self z;have f:=f.bw o;have i:=i.bw o;have d:=d.bw o;have p:=ktr p o
  clear m o z H;have g:=u;clear u;refine Yo 9 O (fun _=>X1c O O Z Z)<|Yo 10 O (fun _=>Xt (ps:=[(0,vi C),(1,vi (D-1)),(2,vi (E-1))]) (cs:=[vi C,vi (D-1),vi (E-1)]) O (fun _=>by first|rfl|kernel_rfl))<|Y1 11 ?_;refine Yf O tv0 (EfW.mono (X9 (k:=1) (vs:=[.agg #[vi C,vi (D-1),vi (E-1)]]) (zs:=[vi C,vi (D-1),vi (E-1)]) O X3q X6m O O) (fun _ _ h=>⟨fun _=>by obtain ⟨_,_,_,o,_⟩:=h;exact Keep.of_below o,h⟩)) ?_;rintro _ cE ⟨cG,rfl,aK,o,aA⟩;have bP:=Q0 p.size aK;have aB:=d.away aK;have g:=g.bw o;have f:=f.bw o;have i:=i.bw o;have d:=d.bw o;have p:=ktr p o;refine Y1 12<|Yt O tv0 O (X15 (enc:=encG) (l:=(q.gs)) (l2:=([(⟨C,D-1,E-1⟩ : Gt)])) (B0:=w0.heap.size) O O X3q X6m X3u X9s d (Rd.of_blk aA O _ aA.lt) (by simp only [maxLen];simp;omega) O6 p.size) ?_;rintro _ cH ⟨aC,aD,rfl,W,hg,b7⟩
  have a6:Own _ w0.heap.size 66 3 encG _ _ (q.gs):=d
  have aT:=b7 _ aA.lt aB;clear b7;have g:=g.appT a6 hg O;have f:=f.appT a6 hg O;have i:=i.appT a6 hg O;have p:=Kept.app p a6 hg (Qb _) p.size;clear a6 hg;refine Yo 13 O (fun _=>Vd O X38 1)<|Y1 14 ?_;refine Yh O tv0 O (Vu (vs:=[.slice aC (q.gs++([(⟨C,D-1,E-1⟩ : Gt)])).length aD]) (l':=[vi q.n,.slice aC (q.gs++([(⟨C,D-1,E-1⟩ : Gt)])).length aD]) O O Xnt i) ?_;rintro _ cI ⟨M,hb⟩;have g:=g.oz M i O;have f:=f.oy M Z;have W:=W.oT M i O;have p:=Kept.oy p M aE;have i:=hb;refine Yd fun a G=>?_;refine X6<|aL _ _<|Zs G fun _ b9=>?_;refine Ze (Vn X3g i)<|Zo (Vw [vi q.n,.slice aC (q.gs++([(⟨C,D-1,E-1⟩ : Gt)])).length aD] X59 f) ?_;rintro _ cJ ⟨M,hb⟩;have g:=g.oz M f O;have W:=W.oT M f O;have p:=Kept.oy p M a8;have f:=hb;refine Zt b9 fun a G=>?_
  refine Q6 (X4 G (Xo G O (ResV.cellN (l:=[vi q.n,.slice aC (q.gs++([(⟨C,D-1,E-1⟩ : Gt)])).length aD]) O X3g (f.at 0) O)) ?_)
  exact ⟨⟨q.n,q.gs++[⟨C,D-1,E-1⟩]⟩,aC,aD,_,_,O,⟨(by show 0<=q.n/\q.n<=6;omega),(by show (q.gs++_).length<=9;simp;omega)⟩,⟨by omega,by omega⟩,W,p,g⟩
 refine Q7<|X6<|aL _ _<|Zs G fun _ bC=>?_;refine Ze (Vn X3g i)<|Zo (Vw [vi q.n,.slice Q q.gs.length U] X59 f) ?_;rintro _ cK ⟨M,hb⟩;have g:=g.oz M f O;have d:=d.oT M f O;have p:=Kept.oy p M a8;have f:=hb;refine Zt bC fun a G=>?_
 refine Q6 (X4 G (Xo G O (ResV.cellN (l:=[vi q.n,.slice Q q.gs.length U]) O X3g (f.at 0) O)) ?_)
 exact ⟨q,Q,U,_,_,O,⟨Z,Z⟩,⟨by omega,by omega⟩,d,p,g⟩
section
end
section
end
end Go.Proofs.YtgobkmhhckhbfaaGreatDoor
namespace Go.Proofs.YtgobkmhhckhbfaaGreatDoor
open Go.RowKit Go.ChangeShapes Go.WideShapes Go.Deep Go.Joins
theorem Xup:Tryz.prog.cellsOf 5=1:=by kernel_rfl
theorem Xnw{n:Int}(h:(Lit.int .u8 n).wf=true) : 0<=n/\n<=255:=by
 have h1:IntKind.u8.min=0:=rfl
 have h2:IntKind.u8.max=255:=rfl
 simp [Lit.wf] at h
 omega
set_option maxRecDepth 100000 in
theorem Xa4{H:Type}{enc:TypeId×Value->H}{w:World}{base b0:Nat}{spare:Nat->Bool}{held:Bool}{r:Reach}{v:Value}{d:DataW H}{p:List MemPlace}(hv:Value.okWide Tryz.prog w r b0 22 v)(h:DataW.Trod enc Tryz.prog w base spare held 22 v d p)(hsp:∀ b,spare b=true) :
  ∃ (A:Option Addr) (l:List Int) (k:Nat) (E:TypeId),v=.slice A l.length k/\Rd w w.heap.size E encU A l/\(∀ x ∈ l,0<=x/\x<=255):=by
 obtain ⟨a1,n1,k1,rfl⟩:=okWide_slice Tryz.underlying22 hv;obtain ⟨fuel,hf⟩:=h
 have key:∃ (A:Option Addr) (l:List Int) (c:Nat) (E:TypeId),(Value.slice a1 n1 k1).cells.toList=[Value.slice A l.length c]/\Rd w w.heap.size E encU A l/\(∀ x ∈ l,0<=x/\x<=255):=by
  rcases open_slice Tryz.underlying22 hf with ⟨hcs,_⟩|⟨a,len,cap,m,n,D,Pl,hcs,hb,hl,hm,hmm,_,hi⟩
  ·exact ⟨none,[],0,0,hcs,Rd.nil _ _ _ _ _,by simp⟩
  ·rw [Xup] at hi
   have hlm:len<=m:=by rw [hmm,hsp];simpa using hl
   obtain ⟨l,h1,h2⟩:=Xrd (n:=len) (Q:=fun i g=>(0<=g/\g<=255)/\∀ j v,(encU g)[j]? = some v->w.cell? (a.add (i*1+j))=some v) fun i hilt=>by
    obtain ⟨cs',hc,ht⟩:=hi i Z
    obtain ⟨g,rfl,_,hwf⟩:=DataW.trod_int Tryz.underlying5 ht;obtain ⟨_,_,hat⟩:=World.cells?_some hc
    refine ⟨g,Xnw hwf,fun j v hj=>?_⟩
    have hj3:j<1:=by have:=(Qg.1 hj).1;simpa [encU] using this
    rw [<- X7d,hat j hj3]
    exact hj
   obtain ⟨E,hr⟩:=Xeh Xds O4 fun i g hig=>(h2 i g hig).2
   refine ⟨some a,l,cap,E,by rw [hcs,h1],hr,fun x hx=>?_⟩
   obtain ⟨i,hi9,e⟩:=List.getElem_of_mem hx;exact (h2 i x (by rw [Qc hi9,e])).1
 obtain ⟨A,l,c,E,e0,hr,hb⟩:=key
 simp [Value.cells] at e0
 obtain ⟨rfl,rfl,rfl⟩:=e0;exact ⟨_,l,_,E,O,hr,hb⟩
end Go.Proofs.YtgobkmhhckhbfaaGreatDoor
namespace Go.Proofs.YtgobkmhhckhbfaaGreatDoor
open Go.RowKit
section
end
end Go.Proofs.YtgobkmhhckhbfaaGreatDoor
namespace Go.Proofs.YtgobkmhhckhbfaaGreatDoor
def oneK(k:Int) : Bool:=decide (k≠12/\¬ (9<=k/\k<=11))
def c0(g:Gt)(β:Nat->Bool) : Rg:=
 if g.k=12 then om else if g.k=9 then 1 else if g.k=10 then (if β g.a.toNat&&β g.b.toNat then om^4 else 1) else if g.k=11 then 1 else u1 g.k (β g.a.toNat) (β g.a.toNat)
def c1(g:Gt)(β:Nat->Bool) : Rg:=if oneK g.k=true then u1 g.k (β g.a.toNat) (!β g.a.toNat) else 0
theorem X6l(β:Nat->Bool)(q:Nat) : flipB (flipB β q) q=β:=by
 funext p
 unfold flipB
 by_cases e:p=q<;>simp [e]
theorem Xc8(β:Nat->Bool){p q:Nat}(h:p≠q) : flipB β q p=β p:=by unfold flipB;rw [Q3 h]
end Go.Proofs.YtgobkmhhckhbfaaGreatDoor
namespace Go.Proofs.YtgobkmhhckhbfaaGreatDoor
open Go.RowKit
section
variable {α : Type} {P : Program} {a : Act} {w : World} {n : Nat} {e : Env} {ty : TypeId} {pos : String} {af : Array Edge} {g : Option (Nat × Bool)} {d : Option Tmp}
theorem Xol{T b k sz:Nat}{enc:α->List Value}{l:List α}{u:α}{v:Value}{r:List Value}(hb:Blk w b T (l.flatMap enc))(hsz:∀ x,(enc x).length=sz)(hu:l[k]? = some u)(hv:enc u=v::r) : At w ⟨b,k*sz,none⟩ (v::(r++(l.drop (k+1)).flatMap enc)):=by
 have h:=hb.at (k*sz)
 rw [<- X7o hsz,Xdn hu,Wc,hv] at h
 exact h
theorem Xkm{t T b k sz:Nat}{x:Operand}{enc:α->List Value}{l:List α}{u:α}{v:Value}{r:List Value}(hf:Fr a n e)(hx:ev e x=some (.pointer (some ⟨b,k*sz,none⟩)))(h1:OneT P t)(hb:Blk w b T (l.flatMap enc))(hsz:∀ x,(enc x).length=sz)(hu:l[k]? = some u)(hv:enc u=v::r) : Ev P ⟨d,.load t x,ty,pos,af,g⟩ a w v:=
 Xdy hf hx h1 (Xol hb hsz hu hv)
theorem Xuk{t T b k sz:Nat}{x:Operand}{enc:α->List Value}{l:List α}{u:α}{v:Value}{r:List Value}(hx:ev e x=some (.pointer (some ⟨b,k*sz,none⟩)))(h1:OneT P t)(hb:Blk w b T (l.flatMap enc))(hsz:∀ x,(enc x).length=sz)(hu:l[k]? = some u)(hv:enc u=v::r) : EvW P ⟨d,.load t x,ty,pos,af,g⟩ n e w v:=fun a hf=>Xkm hf hx h1 hb hsz hu hv
end
end Go.Proofs.YtgobkmhhckhbfaaGreatDoor
namespace Go.Proofs.YtgobkmhhckhbfaaGreatDoor
end Go.Proofs.YtgobkmhhckhbfaaGreatDoor
namespace Go.Proofs.YtgobkmhhckhbfaaGreatDoor
open Go.RowKit
end Go.Proofs.YtgobkmhhckhbfaaGreatDoor
namespace Go.Proofs.YtgobkmhhckhbfaaGreatDoor
end Go.Proofs.YtgobkmhhckhbfaaGreatDoor
namespace Go.Proofs.YtgobkmhhckhbfaaGreatDoor
open Go.RowKit
section
end
section
end
section
end
section
end
section
end
structure Tm where (m c:Int) deriving DecidableEq
structure Af where (m t:Int) deriving DecidableEq
def tmN(f:Int->Int) : Nat->List Tm
 | 0=>[]
 | n+1=>if 0<(n:Int)/\f n≠0 then tmN f n++[⟨n,f n⟩] else tmN f n
@[irreducible] def tms (f:Int->Int) : List Tm:=tmN f 16777216
def oI(a b:Int) : Int:=bits .or .i64 a b
def encTx(s:ByteArray) : List Value:=[.string s]
theorem X2m:∀ x,(encTx x).length=1:=fun _=>rfl
theorem X6f:∀ x,(encTx x).all one=true:=fun _=>rfl
def tx(l:List UInt8) : ByteArray:=⟨l.toArray⟩
theorem X3m(l:List UInt8) : (tx l).data.toList=l:=rfl
theorem X3y(l:List UInt8) : (tx l).size=l.length:=by simp [tx,ByteArray.size]
theorem Xxu(l r:List UInt8) : tx l++tx r=tx (l++r):=by
 apply ByteArray.ext
 simp [tx]
theorem Xxw(s:ByteArray) : tx s.data.toList=s:=by cases s;simp [tx]
section
variable {P : Program} {a : Act} {w : World} {n : Nat} {e : Env} {ty : TypeId} {pos : String} {af : Array Edge} {g : Option (Nat × Bool)} {d : Option Tmp} {t t' : TypeId}
theorem Xkh{x y:Operand}{s r:ByteArray}(hf:Fr a n e)(hx:ev e x=some (.string s))(hy:ev e y=some (.string r))(hb:s.size+r.size<=9223372036854775807) : Ev P ⟨d,.binOp .add t x y t',ty,pos,af,g⟩ a w (.string (s++r)):=fun w' _=>by
 have h2:¬ (((s.size+r.size:Nat) : Int)>IntKind.i64.max):=by
  have:IntKind.i64.max=9223372036854775807:=rfl
  omega
 simp only [execOp,hf.ev hx,hf.ev hy]
 simp [eqGuard,binOp,Op.stringOp]
 simpa using h2
theorem Xoy{x y:Operand}{s r:List UInt8}(hf:Fr a n e)(hx:ev e x=some (.string (tx s)))(hy:ev e y=some (.string (tx r)))(hb:s.length+r.length<=9223372036854775807) : Ev P ⟨d,.binOp .add t x y t',ty,pos,af,g⟩ a w (.string (tx (s++r))):=by
 rw [<- Xxu];exact Xkh hf hx hy (by rw [X3y,X3y];exact hb)
theorem X9g{x y:Operand}{s r:List UInt8}(hx:ev e x=some (.string (tx s)))(hy:ev e y=some (.string (tx r)))(hb:s.length+r.length<=9223372036854775807) : EvW P ⟨d,.binOp .add t x y t',ty,pos,af,g⟩ n e w (.string (tx (s++r))):=fun _ hf=>Xoy hf hx hy hb
theorem Xp5{x y:Operand}{T:TypeId}{s:List UInt8}{i:Int}{k:Nat}{u:UInt8}(hf:Fr a n e)(hx:ev e x=some (.string (tx s)))(hy:ev e y=some (.int .i64 i))(hT:P.underlying T=some .string)(hi:i=(k:Int))(hk:s[k]? = some u) : Ev P ⟨d,.index T x y,ty,pos,af,g⟩ a w (.int .u8 (u.toNat:Int)):=fun w' _=>by
 subst hi
 have hlt:=(Qg.1 hk).1;have h:=run_index_string (P:=P) w' T (tx s) .i64 (k:Int) hT
 rw [dif_pos ⟨by omega,by rw [X3y];omega⟩] at h
 have e1:((tx s)[(k:Int).toNat]'(by rw [X3y];omega))=u:=by
  have:((tx s)[(k:Int).toNat]'(by rw [X3y];omega))=s[k]:=rfl
  rw [this];exact (Qg.1 hk).2
 rw [e1] at h
 simp [execOp,hf.ev hx,hf.ev hy,h]
theorem Y0b{x y:Operand}{T:TypeId}{s:List UInt8}{i:Int}{k:Nat}{u:UInt8}(hx:ev e x=some (.string (tx s)))(hy:ev e y=some (.int .i64 i))(hT:P.underlying T=some .string)(hi:i=(k:Int))(hk:s[k]? = some u) : EvW P ⟨d,.index T x y,ty,pos,af,g⟩ n e w (.int .u8 (u.toNat:Int)):=fun _ hf=>Xp5 hf hx hy hT hi hk
end
theorem Vx{P:Program}{o:Oper}{n:Nat}{e:List (Nat×Value)}{w:World}{k:IntKind}{a b:Int}(h:EvW P o n e w (.int k a))(e2:a=b) : EvW P o n e w (.int k b):=e2▸h
structure TurnS (S:Nat->Prop) (w w':World) : Prop where
 os:w'.os=w.os
 tape:w'.tape=w.tape
 output:w'.output=w.output
 size:w.heap.size<=w'.heap.size
 block:∀ k,k<w.heap.size->¬ S k->w'.heap[k]? = w.heap[k]?
theorem TurnS.refl(S:Nat->Prop)(w:World) : TurnS S w w:=⟨rfl,rfl,rfl,Qb _,fun _ _ _=>rfl⟩
def ownB(A:Option Addr) : Option Nat:=(Value.slice A 0 0).ownBlock
theorem X7z(A:Option Addr)(n c:Nat) : (Value.slice A n c).ownBlock=ownB A:=Xhr A n 0 c 0
section
variable {S S' : Nat -> Prop} {w0 w w' : World} {b : Nat} {A : Option Addr} {n c : Nat}
theorem tsbel(h:TurnS S w0 w)(hE:Below w.heap.size w w') : TurnS S w0 w':=
 ⟨hE.os.trans h.os,hE.tape.trans h.tape,hE.output.trans h.output,Q0 h.size hE.size,fun k hk h1=>(hE.block k (Nat.lt_of_lt_of_le hk h.size)).trans (h.block k hk h1)⟩
theorem tsonly(h:TurnS S w0 w)(ho:Only b w w')(hb:S b∨w0.heap.size<=b) : TurnS S w0 w':=
 ⟨ho.os.trans h.os,ho.tape.trans h.tape,ho.output.trans h.output,by rw [ho.size];exact h.size,fun k hk h1=>(ho.block k (fun e=>by
  subst e
  rcases hb with hb|hb
  ·exact h1 hb
  ·omega)).trans (h.block k hk h1)⟩
theorem tsrow(h:TurnS S w0 w)(hg:w.grownBy w' (Value.slice A n c).ownBlock)(hs:∀ k,ownB A=some k->S k∨w0.heap.size<=k) : TurnS S w0 w':=
 ⟨hg.os.trans h.os,hg.tape.trans h.tape,hg.output.trans h.output,Q0 h.size hg.size,fun k hk h1=>(hg.block k (Nat.lt_of_lt_of_le hk h.size) (fun e=>by
  rw [X7z] at e
  rcases hs k e.symm with hb|hb
  ·exact h1 hb
  ·omega)).trans (h.block k hk h1)⟩
theorem tstr(h:TurnS S w0 w)(k:TurnS S' w w')(hs:∀ k,S' k->S k∨w0.heap.size<=k) : TurnS S w0 w':=
 ⟨k.os.trans h.os,k.tape.trans h.tape,k.output.trans h.output,Q0 h.size k.size,fun q hq h1=>(k.block q (Nat.lt_of_lt_of_le hq h.size) (fun e=>by
  rcases hs q e with hb|hb
  ·exact h1 hb
  ·omega)).trans (h.block q hq h1)⟩
theorem Below.ts{B:Nat}(h:Below B w0 w)(k:TurnS S w w')(hs:∀ k,S k->B<=k)(hB:B<=w.heap.size) : Below B w0 w':=
 h.trans ⟨k.os,k.tape,k.output,k.size,fun q hq=>k.block q (Nat.lt_of_lt_of_le hq hB) fun e=>by have:=hs q e;omega⟩
end
section
variable {α : Type} {w : World} {B0 : Nat} {E : TypeId} {enc : α -> List Value} {A : Option Addr} {l : List α} {sz c : Nat}
theorem X2g(h:Own w B0 E sz enc A c l){k:Nat}(hk:ownB A=some k) : B0<=k:=(h.block (k:=k) (by rw [X7z];exact hk)).1
theorem X17(ho:Own w B0 E sz enc A c l)(hsz:∀ x,(enc x).length=sz){k:Nat}{u:α}(hk:l[k]? = some u)(j:Nat){m:Nat}(hm:k*sz+j=m) : At w (oA A m) ((enc u).drop j):=by
 subst hm
 rcases ho.2 with ⟨e1,e2⟩|⟨b,cap,cur,e1,e2,e3,e4,e5,e6,e7⟩
 ·have:l=[]:=List.eq_nil_of_length_eq_zero e2
  rw [this] at hk;cases hk
 ·injection e1 with e1 _ e1'
  obtain ⟨p,hp,h⟩:=Rd.at hsz ho.rd hk
  rw [e1] at hp ⊢
  injection hp with hp
  subst hp
  intro i v hv
  rw [List.getElem?_drop] at hv
  have h2:=h _ v hv
  show w.cell? ((⟨b,k*sz+j,none⟩ : Addr).add i)=_
  rw [X24] at h2 ⊢
  rw [X24] at h2
  rw [<- h2]
  congr 2
  omega
end
structure Pst where (f:Int->Int) (v:Nat) (out:List Af)
def xI(a b:Int) : Int:=bits .xor .i64 a b
def rotC(k:Int) : Int:=if k=4 then 4 else if k=5 then 2 else if k=6 then 6 else if k=7 then 1 else if k=8 then 7 else 0
def Mk(m:Int) : Prop:=0<=m/\m<16777216
theorem Mk.nat{m:Int}(h:Mk m) : ∃ x:Nat,x<2^24/\m=x:=⟨m.toNat,by have:=h.1;have:=h.2;omega,by have:=h.1;omega⟩
theorem Mk.of{x:Nat}(h:x<2^24) : Mk (x:Int):=⟨by omega,by omega⟩
theorem Xeb{x:Nat}(h:x<2^24) : x<2^62:=Nat.lt_of_lt_of_le h O4
theorem Mk.or{a b:Int}(ha:Mk a)(hb:Mk b) : Mk (oI a b):=by
 obtain ⟨x,hx,rfl⟩:=ha.nat;obtain ⟨y,hy,rfl⟩:=hb.nat
 unfold oI
 rw [Xio (Xeb hx) (Xeb hy)]
 exact Mk.of (Nat.or_lt_two_pow hx hy)
theorem Mk.xor{a b:Int}(ha:Mk a)(hb:Mk b) : Mk (xI a b):=by
 obtain ⟨x,hx,rfl⟩:=ha.nat;obtain ⟨y,hy,rfl⟩:=hb.nat
 unfold xI
 rw [Xf1 (Xeb hx) (Xeb hy)]
 exact Mk.of (Nat.xor_lt_two_pow hx hy)
theorem Mk.zero:Mk 0:=⟨by omega,by omega⟩
def drN(v x:Nat) : Nat:=x % 2^v+2^v*(x/2^(v+1))
theorem Xuz(v x:Nat) : drN v x<=x:=by
 unfold drN
 have h1:=Nat.div_add_mod x (2^v)
 have h2:x/2^(v+1)<=x/2^v:=by
  rw [Nat.pow_succ,<- Nat.div_div_eq_div_mul];exact Nat.div_le_self _ _
 have:=Nat.mul_le_mul_left (2^v) h2
 omega
def bitQ(v:Nat)(m:Int) : Bool:=m.toNat.testBit v
def drI(v:Nat)(m:Int) : Int:=((drN v m.toNat:Nat) : Int)
theorem Xdi(v x:Nat) : bitQ v (x:Int)=x.testBit v:=rfl
theorem Mk.dr{v:Nat}{m:Int}(h:Mk m) : Mk (drI v m):=by
 obtain ⟨x,hx,rfl⟩:=h.nat;exact Mk.of (Nat.lt_of_le_of_lt (Xuz v x) hx)
section
variable {Q : Int -> Prop} (hq : ∀ a b, Q a -> Q b -> Q (oI a b)) (h0 : Q 0) {l : List Int} (hl : ∀ x ∈ l, Q x)
include h0 hl
include hq
end
section
variable {Q : Int -> Prop} {φ : Int -> Int} (hq : ∀ a b, Q a -> Q b -> Q (oI a b)) (hφ : ∀ a b, Q a -> Q b -> φ (oI a b) = oI (φ a) (φ b)) (h0 : Q 0) (hφ0 : φ 0 = 0) {l : List Int} (hl : ∀ x ∈ l, Q x)
include hφ0
include h0 hl hφ hq
end
section
end
section
variable {n : Nat} {g : Gt}
theorem X5x(h:gOk (n:Int) g=true) : 0<=g.a/\g.a.toNat<n:=by
 simp only [gOk,inR,Qd,Qr] at h
 obtain ⟨⟨h1,h2⟩,h3⟩:=h
 split at h3
 ·simp at h3;omega
 ·split at h3<;>simp at h3<;>omega
theorem X5o(h:gOk (n:Int) g=true) : 0<=g.b/\g.b.toNat<n:=by
 simp only [gOk,inR,Qd,Qr] at h
 obtain ⟨⟨h1,h2⟩,h3⟩:=h
 split at h3
 ·simp at h3;omega
 ·split at h3<;>simp at h3<;>omega
theorem Xlb(h:gOk (n:Int) g=true)(hk:9<=g.k/\g.k<=11) : g.a.toNat≠g.b.toNat:=by
 have ha:=(X5x h).1;have hb:=(X5o h).1
 simp only [gOk,inR,Qd,Qr] at h
 obtain ⟨⟨h1,h2⟩,h3⟩:=h
 rw [Q3 Z,Q4 hk] at h3
 simp at h3
 omega
end
section
variable {n : Nat} {ps : Pst} {g : Gt}
end
end Go.Proofs.YtgobkmhhckhbfaaGreatDoor
namespace Go.Proofs.YtgobkmhhckhbfaaGreatDoor
open Go.RowKit Go.Sort Go.Shelf Go.Lib
structure Mt where (v:Tm) (h:0<=v.m/\v.m<16777216)
instance:Inhabited Mt:=⟨⟨⟨0,0⟩,by decide,by decide⟩⟩
theorem X9t{α:Type}[Inhabited α]{enc:α->List Value}{k:Nat}(hk:∀ x,(enc x).length=k)(L:List α) : (flatK enc k L.toArray).toList=L.flatMap enc:=by
 apply List.ext_getElem?
 intro t
 by_cases h:t<L.length*k
 ·obtain ⟨x,h1,h2⟩:=X5w hk h
  have hk0:0<k:=by
   rcases Nat.eq_zero_or_pos k with e|e
   ·subst e;simp at h
   ·exact e
  have h3:t % k<(enc x).length:=by rw [hk];exact Nat.mod_lt _ hk0
  have h4:t/k<L.length:=(Qg.1 h1).1
  rw [h2,Array.getElem?_toList]
  have e1:L[t/k]! = x:=by rw [List.getElem!_eq_getElem?_getD,h1];rfl
  have e2:L[t/k]?.getD default=x:=by rw [h1];rfl
  simp [flatK,h,e2,h3]
 ·rw [List.getElem?_eq_none (by simp [flatK];omega),List.getElem?_eq_none (by rw [Xq hk];omega)]
theorem Xj9{w:World}{g n:Nat}{os:Array Obj}{cur:Array Value}{e:TypeId}{fr:Nat×Nat}(d:Array Value)(hb:w.heap[g]? = some (.cells cur e fr)) :
  (grow (putRow id (Sort.ahead w n) g 0 d) os).heap[g]? = some (.cells (putCells id 0 d cur) e fr):=by
 have hg:g<w.heap.size:=(Qp.1 hb).1
 rw [heap_grow_old _ _ (by simpa using hg)]
 simp [putRow,mapBlock,Sort.ahead,Array.getElem?_modify,hb,onCells]
theorem Xfs{w:World}{g n:Nat}{os:Array Obj}(d:Array Value) : w.grownBy (grow (putRow id (Sort.ahead w n) g 0 d) os) (some g):=by
 refine ⟨O,O,O,by simp,fun k hk hne=>?_⟩
 rw [heap_grow_old _ _ (by simpa using hk)]
 have:g≠k:=fun e=>hne (by rw [e])
 simp [putRow,mapBlock,Sort.ahead,Array.getElem?_modify,this]
theorem Xjd(cur F:Array Value)(h:F.size<=cur.size) : (putCells id 0 F cur).toList.take F.size=F.toList:=by
 apply List.ext_getElem?
 intro j
 by_cases hj:j<F.size
 ·rw [Wg hj,Array.getElem?_toList,Array.getElem?_toList]
  simp [putCells,hj,show j<cur.size by omega]
 ·rw [List.getElem?_take_eq_none Z,List.getElem?_eq_none O6]
theorem Xwo{w:World}{g:Nat}{cur:Array Value}{e:TypeId}{F:Array Value}(hb:w.heap[g]? = some (.cells cur e (0,0)))(ht:cur.toList.take F.size=F.toList) : Holds id w g 0 F:=by
 intro j hj
 refine ⟨?_,by simp [World.frozen?,hb]⟩
 have h1:(cur.toList.take F.size)[j]? = F.toList[j]?:=by rw [ht]
 rw [Wg hj] at h1
 simp only [World.cell?,hb,Nat.zero_add]
 simp only [Option.isSome_none,Bool.false_eq_true,if_false]
 rw [<- Array.getElem?_toList,h1]
 simp [hj]
end Go.Proofs.YtgobkmhhckhbfaaGreatDoor
namespace Go.Proofs.YtgobkmhhckhbfaaGreatDoor
open Go.RowKit
theorem X6v{c:Cx}(h:cOk c=true) : ∃ n:Nat,c.n=(n:Int)/\1<=n/\n<=5:=by
 simp only [cOk,inR,Qd,Qr] at h
 exact ⟨c.n.toNat,by omega,by omega,by omega⟩
theorem X7g{c:Cx}(h:cOk c=true) : c.gs.length<=400:=by grind [cOk]
theorem Xaq{c:Cx}{n i:Nat}{u:Gt}(h:cOk c=true)(hn:c.n=(n:Int))(hu:c.gs[i]? = some u) : gOk (n:Int) u=true:=by grind [cOk,gOk]
section
end
theorem Y4m(x k:Nat) : (x:Int)/2^k=((x/2^k:Nat) : Int):=by
 rw [Int.natCast_ediv];simp
theorem Xa7{m:Nat}(h:m<=30) : wr (1*2^m)=((2^m:Nat) : Int):=Xrs Z
def bI(v:Nat)(m:Int) : Int:=if bitQ v m then 1 else 0
theorem Xok{m:Int}(h:Mk m)(v:Nat) : bits .and .i64 (m/2^v) 1=bI v m:=by
 obtain ⟨x,hx,rfl⟩:=h.nat
 have hd:x/2^v<2^62:=Nat.lt_of_le_of_lt (Nat.div_le_self _ _) (Xeb hx)
 rw [Y4m,show (1:Int)=((1:Nat) : Int) from O,Xf0 hd O4,Nat.and_one_is_mod]
 unfold bI
 rw [Xdi,Nat.testBit_eq_decide_div_mod_eq]
 by_cases e:x/2^v % 2=1
 ·rw [decide_eq_true e,e];rfl
 ·rw [decide_eq_false e,show x/2^v % 2=0 from by omega];rfl
structure Ar where (c z:Int) (any pl:Bool)
section
end
section
end
section
variable {P : Program} {a : Act} {w : World} {n : Nat} {e : Env} {ty : TypeId} {pos : String} {af : Array Edge} {g : Option (Nat × Bool)} {d : Option Tmp} {t t' : TypeId} {x y : Operand} {i j : Int}
theorem Xp6{T E:TypeId}{len k:Nat}{vs:List Value}{v:Value}(hf:Fr a n e)(hx:ev e x=some (.agg vs.toArray))(hy:ev e y=some (.int .i64 i))(hT:P.underlying T=some (.array len E))(hs:SizeT P E 1)(h1:OneT P E)(hi:i=(k:Int))(hk:k<len)(hv:vs[k]? = some v) : Ev P ⟨d,.index T x y,ty,pos,af,g⟩ a w v:=fun w' _=>by
 subst hi
 have h4:=X0m (P:=P) hT w';have h5:=run_sizeOf' hs w';have h6:=X51 (P:=P) (w:=w') h1
 simp [execOp,hf.ev hx,hf.ev hy,Instr.index,asIntOf,h4,h5,h6,part,hk,hv]
theorem Xss{T E:TypeId}{len k:Nat}{vs:List Value}{v:Value}(hx:ev e x=some (.agg vs.toArray))(hy:ev e y=some (.int .i64 i))(hT:P.underlying T=some (.array len E))(hs:SizeT P E 1)(h1:OneT P E)(hi:i=(k:Int))(hk:k<len)(hv:vs[k]? = some v) : EvW P ⟨d,.index T x y,ty,pos,af,g⟩ n e w v:=fun a hf=>Xp6 hf hx hy hT hs h1 hi hk hv
end
section
variable {j : Nat} {s : Ar} {u : Tm}
end
section
variable {ins : Int} {s : Ar} (hp : s.pl = true)
include hp
end
section
end
section
end
theorem Xye(w0:World)(k:Int) : Ret Tryz.prog 63 [vi k] w0 (fun v w=>v=vi (rotC k)/\w0=w):=by
 refine enter Tryz.func63 O 14 O O ?_;intro a b
 have hW:=bz w0
 refine Zs b fun _ aH=>?_;refine Za O<|ZX aH fun a b _ aI=>?_;refine Zs b fun _ aJ=>?_;refine Zm O<|Zt aJ fun a b=>?_;refine Q8<|Zs b fun _ aK=>?_;refine Ze (X0f O O)<|Za O<|Zt aK fun a b=>?_
 refine Xz b O (fun aL=>?_) (fun aL=>?_)
 ·refine Zs b fun _ aM=>?_;refine Za O<|Zt aM fun a b=>?_;refine Q6<|X05<|X7<|X4 b (Xo b O O) ?_;exact ⟨by unfold rotC;simp_all,rfl⟩
 refine Zs b fun _ aN=>?_;refine Ze (X0f O O)<|Za O<|Zt aN fun a b=>?_
 refine Xz b O (fun aO=>?_) (fun aO=>?_)
 ·refine Zs b fun _ aP=>?_;refine Za O<|Zt aP fun a b=>?_;refine Q6<|X05<|X7<|X4 b (Xo b O O) ?_;exact ⟨by unfold rotC;simp_all,rfl⟩
 refine Zs b fun _ a6=>?_;refine Ze (X0f O O)<|Za O<|Zt a6 fun a b=>?_
 refine Xz b O (fun a7=>?_) (fun a7=>?_)
 ·refine Zs b fun _ a8=>?_;refine Za O<|Zt a8 fun a b=>?_;refine Q6<|X05<|X7<|X4 b (Xo b O O) ?_;exact ⟨by unfold rotC;simp_all,rfl⟩
 refine Zs b fun _ aA=>?_;refine Ze (X0f O O)<|Za O<|Zt aA fun a b=>?_
 refine Xz b O (fun aB=>?_) (fun aB=>?_)
 ·refine Zs b fun _ aC=>?_;refine Za O<|Zt aC fun a b=>?_;refine Q6<|X05<|X7<|X4 b (Xo b O O) ?_;exact ⟨by unfold rotC;simp_all,rfl⟩
 refine Zs b fun _ aD=>?_;refine Ze (X0f O O)<|Za O<|Zt aD fun a b=>?_
 refine Xz b O (fun aE=>?_) (fun aE=>?_)
 ·refine Zs b fun _ aF=>?_;refine Za O<|Zt aF fun a b=>?_;refine Q6<|X05<|X7<|X4 b (Xo b O O) ?_;exact ⟨by unfold rotC;simp_all,rfl⟩
 refine Q7<|X6<|aI _ _<|Zs b fun _ aG=>?_;refine Za O<|Zt aG fun a b=>?_
 refine Q6 (X4 b (Xo b O O) ?_)
 exact ⟨by unfold rotC;simp_all,rfl⟩
def Cg(x y:Int) : Prop:=∃ q:Int,x=y+8*q
theorem Cg.refl(x:Int) : Cg x x:=⟨0,by omega⟩
theorem Cg.of{x y:Int}(h:x=y) : Cg x y:=⟨0,by omega⟩
theorem Cg.symm{x y:Int}(h:Cg x y) : Cg y x:=by obtain ⟨q,h⟩:=h;exact ⟨-q,by omega⟩
theorem Cg.trans{x y z:Int}(h:Cg x y)(k:Cg y z) : Cg x z:=by obtain ⟨q,h⟩:=h;obtain ⟨r,k⟩:=k;exact ⟨q+r,by omega⟩
theorem Cg.add{x y z w:Int}(h:Cg x y)(k:Cg z w) : Cg (x+z) (y+w):=by obtain ⟨q,h⟩:=h;obtain ⟨r,k⟩:=k;exact ⟨q+r,by omega⟩
theorem Cg.mod(x:Int) : Cg (x % 8) x:=⟨-(x/8),by omega⟩
theorem Cg.mul{x y:Int}(k:Int)(h:Cg x y) : Cg (k*x) (k*y):=by
 obtain ⟨q,h⟩:=h;exact ⟨k*q,by rw [h,Int.mul_add,Int.mul_left_comm]⟩
def omZ(k:Int) : Rg:=om^(k % 8).toNat
theorem Xa3{x y:Int}(h:Cg x y) : omZ x=omZ y:=by grind [Cg,omZ]
theorem X6p(x y:Int) : omZ (x+y)=omZ x*omZ y:=by
 unfold omZ
 rw [<- X2r,Xj7 ((x % 8).toNat+(y % 8).toNat)]
 congr 1
 omega
theorem Xec:omZ 0=1:=rfl
def subI(a:Nat->Bool)(m:Int) : Int:=if (List.range 62).all (fun i=>!m.toNat.testBit i||a i) then 1 else 0
theorem sub_zero(a:Nat->Bool) : subI a 0=1:=by simp [subI]
def T2:Nat->Nat
 | 0=>0
 | c+1=>T2 c+c
def Wl(l:List Int) : Prop:=∀ x ∈ l,∃ n:Nat,n<2^62/\x=(n:Int)
theorem Wl.at{l:List Int}(h:Wl l)(n:Nat) : ∃ k:Nat,k<2^62/\l.getD n 0=(k:Int):=by
 rw [Qa]
 cases e:l[n]? with
 | none=>exact ⟨0,by decide,rfl⟩
 | some x=>exact h x (Qe e)
section
variable {a : Nat -> Bool} {l : List Int} (hl : Wl l) {k : Int}
include hl
end
def upB(a:Nat->Bool)(i:Nat)(b:Bool) : Nat->Bool:=fun j=>if j=i then b else a j
def tact(g:Gt)(w:St) : St:=if g.k=3 then (fun β=>om^4*act g w β) else act g w
def trun:List Gt->St->St
 | [],w=>w
 | g::l,w=>tact g (trun l w)
theorem Xhd(β:Nat->Bool)(q:Nat) : flipB β q=upB β q (!β q):=by grind [flipB,upB]
theorem X6u(β:Nat->Bool)(q:Nat){b:Bool}(h:β q=b) : upB β q b=β:=by grind [upB]
theorem Y2o(b:Bool) : u1 2 b b=0/\u1 2 b (!b)=1:=by cases b<;>decide
theorem Y2p(b:Bool) : u1 3 b b=0/\u1 3 b (!b)=if b then om^2 else om^6:=by cases b<;>decide
theorem Y4s{k:Int}(h:4<=k/\k<=8)(b:Bool) : u1 k b b=omZ (rotC k*if b then 1 else 0)/\u1 k b (!b)=0:=by
 have:k=4∨k=5∨k=6∨k=7∨k=8:=by omega
 rcases this with rfl|rfl|rfl|rfl|rfl<;>cases b<;>decide
theorem Xnx(β:Nat->Bool)(q:Nat)(b c:Bool) : upB (upB β q b) q c=upB β q c:=by
 funext p
 unfold upB
 split<;>rfl
theorem Xxr{g:Gt}(h1:g.k=1)(w:St)(β:Nat->Bool) : tact g w β=u1 1 (β g.a.toNat) (β g.a.toNat)*w β+u1 1 (β g.a.toNat) (!β g.a.toNat)*w (flipB β g.a.toNat):=by
 unfold tact act
 rw [Q3 (show ¬ g.k=3 by omega)]
 show (if g.k=12 then _ else _)=_
 rw [Q3 (show ¬ g.k=12 by omega),Q3 (show ¬ g.k=9 by omega),Q3 (show ¬ g.k=10 by omega),Q3 (show ¬ g.k=11 by omega),h1]
def Agr(N:Nat)(β γ:Nat->Bool) : Prop:=∀ q,q<N->β q=γ q
theorem Agr.symm{N:Nat}{β γ:Nat->Bool}(h:Agr N β γ) : Agr N γ β:=fun q hq=>(h q hq).symm
def ebA(N:Nat)(γ:Nat->Bool) : St:=fun β=>if (∀ q,q<N->β q=γ q) then 1 else 0
theorem X8y{N:Nat}{β γ:Nat->Bool}(h:Agr N β γ) : ebA N γ β=1:=Q4 h
theorem X72{N:Nat}{β γ:Nat->Bool}(h:¬ Agr N β γ) : ebA N γ β=0:=Q3 h
theorem Xbr{N:Nat}{β γ β' γ':Nat->Bool}(h:Agr N β γ↔Agr N β' γ') : ebA N γ β=ebA N γ' β':=by grind [Agr,ebA]
theorem Xck{N:Nat}{F:(Nat->Bool)->Nat->Bool}(h1:∀ β,F (F β)=β)(h2:∀ β γ,Agr N β γ->Agr N (F β) (F γ))(β γ:Nat->Bool) : Agr N (F β) γ↔Agr N (F γ) β:=by grind [Agr]
theorem X7q(β:Nat->Bool)(q:Nat) : flipB β q q = !β q:=by unfold flipB;rw [Q4 rfl]
theorem Xiy(β:Nat->Bool)(p q:Nat) : flipB (flipB β p) q=flipB (flipB β q) p:=by
 funext r
 unfold flipB
 split<;>split<;>rfl
theorem X7p{N q:Nat}{β γ:Nat->Bool}(h:Agr N β γ) : Agr N (flipB β q) (flipB γ q):=fun p hp=>by
 unfold flipB
 rw [h p hp]
theorem Xry{k:Int}(h:1<=k/\k<=8)(b:Bool) : u1 k b (!b)=(if k=3 then om^4 else 1)*u1 k (!b) b:=by
 have:k=1∨k=2∨k=3∨k=4∨k=5∨k=6∨k=7∨k=8:=by omega
 rcases this with rfl|rfl|rfl|rfl|rfl|rfl|rfl|rfl<;>cases b<;>decide
theorem Xrx{k:Int}(h:1<=k/\k<=8)(b:Bool) : u1 k b b=(if k=3 then om^4 else 1)*u1 k b b:=by
 have:k=1∨k=2∨k=3∨k=4∨k=5∨k=6∨k=7∨k=8:=by omega
 rcases this with rfl|rfl|rfl|rfl|rfl|rfl|rfl|rfl<;>cases b<;>decide
theorem Xaa(g:Gt)(w:St)(β:Nat->Bool) : tact g w β=(if g.k=3 then om^4 else 1)*act g w β:=by
 unfold tact
 split
 ·rfl
 ·rw [Xk]
theorem Xjv{N:Nat}{g:Gt}(hg:gOk (N:Int) g=true)(β γ:Nat->Bool) : act g (ebA N γ) β=tact g (ebA N β) γ:=by
 obtain ⟨hn,hk,ha,hb⟩:=X2i hg;have hA:=X5x hg
 rw [Xaa]
 have hsym:ebA N γ β=ebA N β γ:=Xbr ⟨Agr.symm,Agr.symm⟩
 by_cases h12:g.k=12
 ·rw [Q3 (show ¬ g.k=3 by omega),Xk]
  unfold act
  rw [Q4 h12,Q4 h12,hsym]
 ·by_cases h9:g.k=9
  ·have hB:=X5o hg
   have hne:=Xlb hg Z
   rw [Q3 (show ¬ g.k=3 by omega),Xk]
   unfold act
   rw [Q3 h12,Q4 h9,Q3 h12,Q4 h9]
   refine Xbr (Xck (F:=fun β=>if β g.a.toNat then flipB β g.b.toNat else β) (fun β=>?_) (fun β γ h=>?_) β γ)
   ·cases e:β g.a.toNat
    ·simp [e]
    ·simp [e,Xc8 β hne,X6l]
   ·show Agr N (if β g.a.toNat then _ else _) (if γ g.a.toNat then _ else _)
    rw [h _ hA.2]
    cases γ g.a.toNat
    ·exact h
    ·exact X7p h
  ·by_cases h10:g.k=10
   ·have hB:=X5o hg
    rw [Q3 (show ¬ g.k=3 by omega),Xk]
    unfold act
    rw [Q3 h12,Q3 h9,Q4 h10,Q3 h12,Q3 h9,Q4 h10,<- hsym]
    by_cases e:Agr N β γ
    ·rw [e _ hA.2,e _ hB.2]
    ·rw [X72 e,X08,X08]
   ·by_cases h11:g.k=11
    ·have hB:=X5o hg
     have hne:=Xlb hg Z
     rw [Q3 (show ¬ g.k=3 by omega),Xk]
     unfold act
     rw [Q3 h12,Q3 h9,Q3 h10,Q4 h11,Q3 h12,Q3 h9,Q3 h10,Q4 h11]
     refine Xbr (Xck (F:=fun β=>if β g.a.toNat=β g.b.toNat then β else flipB (flipB β g.a.toNat) g.b.toNat) (fun β=>?_) (fun β γ h=>?_) β γ)
     ·by_cases e:β g.a.toNat=β g.b.toNat
      ·simp [e]
      ·have e2:¬ flipB (flipB β g.a.toNat) g.b.toNat g.a.toNat=flipB (flipB β g.a.toNat) g.b.toNat g.b.toNat:=by
        rw [Xc8 _ hne,X7q,X7q,Xc8 _ (fun h=>hne h.symm)]
        revert e
        cases β g.a.toNat<;>cases β g.b.toNat<;>simp
       simp only [Q3 e,Q3 e2]
       rw [Xiy (flipB (flipB β g.a.toNat) g.b.toNat),X6l,X6l]
     ·show Agr N (if β g.a.toNat=β g.b.toNat then _ else _) (if γ g.a.toNat=γ g.b.toNat then _ else _)
      rw [h _ hA.2,h _ hB.2]
      split
      ·exact h
      ·exact X7p (X7p h)
    ·have hk8:1<=g.k/\g.k<=8:=by omega
     unfold act
     rw [Q3 h12,Q3 h9,Q3 h10,Q3 h11,Q3 h12,Q3 h9,Q3 h10,Q3 h11]
     by_cases e:Agr N β γ
     ·have e2:¬ Agr N (flipB β g.a.toNat) γ:=fun h=>by
       have h1:=h _ hA.2
       rw [X7q,e _ hA.2] at h1
       cases h':γ g.a.toNat<;>rw [h'] at h1<;>cases h1
      have e3:¬ Agr N (flipB γ g.a.toNat) β:=fun h=>by
       have h1:=h _ hA.2
       rw [X7q,e _ hA.2] at h1
       cases h':γ g.a.toNat<;>rw [h'] at h1<;>cases h1
      rw [X8y e,X8y e.symm,X72 e2,X72 e3,X08,X08,X0l,X0l,X0t,X0t,e _ hA.2]
      exact Xrx hk8 _
     ·have e':¬ Agr N γ β:=fun h=>e h.symm
      rw [X72 e,X72 e',X08,X08,X14,X14]
      have hF:=Xck (N:=N) (F:=fun β=>flipB β g.a.toNat) (fun β=>X6l β _) (fun β γ h=>X7p h) β γ
      by_cases e2:Agr N (flipB β g.a.toNat) γ
      ·rw [X8y e2,X8y (hF.1 e2),X0t,X0t]
       have h1:=e2 _ hA.2
       rw [X7q] at h1
       rw [<- h1,Bool.not_not]
       exact Xry hk8 _
      ·rw [X72 e2,X72 (fun h=>e2 (hF.2 h)),X08,X08,X08]
theorem Y19(N j:Nat) : eb N j=ebA N (pt N j):=rfl
theorem Xep(f g:Nat->Rg) : ∀ n,sumN (fun k=>f k+g k) n=sumN f n+sumN g n
 | 0=>(X0l 0).symm
 | n+1=>by
  rw [sumN,sumN,sumN,Xep f g n]
  simp only [X0k,X0a,X13]
theorem Xeq(f:Nat->Nat->Rg)(m:Nat) : ∀ n,sumN (fun i=>sumN (f i) m) n=sumN (fun k=>sumN (fun i=>f i k) n) m
 | 0=>(Xa8 m fun _ _=>rfl).symm
 | n+1=>by
  show sumN (fun i=>sumN (f i) m) n+sumN (f n) m=sumN (fun k=>sumN (fun i=>f i k) n+f n k) m
  rw [Xeq f m n,Xep]
theorem Xo4{N:Nat}{g:Gt}(hg:gOk (N:Int) g=true){i k:Nat}(hi:i<2^N)(hk:k<2^N) : zc N g i k=act g (eb N k) (pt N i):=by
 have hN:N<=5:=by have:=(X2i hg).1;omega
 rw [<- X7b hg hi,X50 (t:=k) _ hk fun j hj hne=>by rw [X8l hN hj hk,Q3 hne,X08],X8l hN hk hk,Q4 rfl,X0t]
theorem Xjw{N:Nat}{g:Gt}(hg:gOk (N:Int) g=true)(w v:St) : sumN (fun i=>w (pt N i)*act g v (pt N i)) (2^N)=sumN (fun i=>tact g w (pt N i)*v (pt N i)) (2^N):=by
 rw [X6t _ fun i hi=>by rw [<- X7b hg hi,X9a],Xeq]
 refine X6t _ fun k hk=>?_
 rw [Xaa,<- X7b hg hk,X07,X9a,X9a]
 refine X6t _ fun i hi=>?_
 have h1:zc N g i k=(if g.k=3 then om^4 else 1)*zc N g k i:=by
  rw [Xo4 hg hi hk,Xo4 hg hk hi,Y19,Y19,Xjv hg,Xaa]
 rw [h1]
 simp only [Xe,Xb,X07]
theorem Xge{N:Nat}(w:St) : ∀ (l:List Gt) (v:St),(∀ g ∈ l,gOk (N:Int) g=true)->sumN (fun i=>w (pt N i)*run l v (pt N i)) (2^N)=sumN (fun i=>trun l w (pt N i)*v (pt N i)) (2^N)
 | [],v,_=>rfl
 | g::l,v,h=>by
  show sumN (fun i=>w (pt N i)*run l (act g v) (pt N i)) (2^N)=_
  rw [Xge w l (act g v) fun g' hg'=>h g' (by simp [hg']),Xjw (h g O5)]
  rfl
theorem Xn6{N:Nat}(hN:N<=5){l:List Gt}(h:∀ g ∈ l,gOk (N:Int) g=true){i j:Nat}(hi:i<2^N)(hj:j<2^N) : run l (eb N j) (pt N i)=trun l (eb N i) (pt N j):=by
 have:=Xge (eb N i) l (eb N j) h
 rw [X50 (t:=i) _ hi fun k hk hne=>by rw [X8l hN hk hi,Q3 hne,X0c],X50 (t:=j) _ hj fun k hk hne=>by rw [X8l hN hk hj,Q3 hne,X08]] at this
 rw [X8l hN hi hi,X8l hN hj hj,Q4 O,Q4 O,Xk,X0t] at this
 exact this
def lift(v:Nat)(a:Nat->Bool)(b:Bool) : Nat->Bool:=fun i=>if i<v then a i else if i=v then b else a (i-1)
section
end
theorem Xfx(z:Rg) : s2^2*z=(1+1)*z:=by
 rw [show s2^2=(1+1:Rg) from by decide]
section
end
def rZ:Rg:=⟨0,0,0,0⟩
def sclI(z:Rg)(e:Int) : Option Dy:=if z=rZ then some dZ else if (raiseI (-e).toNat z).2&&dOk (dLow (raiseI (-e).toNat z).1 (max e 0)) then some (dLow (raiseI (-e).toNat z).1 (max e 0)) else none
def sm4(z:Rg)(n:Int) : Prop:=(-n<=z.a/\z.a<=n)/\(-n<=z.b/\z.b<=n)/\(-n<=z.c/\z.c<=n)/\(-n<=z.d/\z.d<=n)
theorem Xmq(k:Int) : sm4 (omZ k) 1:=by
 unfold omZ
 have hm:(k % 8).toNat<8:=by omega
 revert hm
 generalize (k % 8).toNat=m
 intro hm
 have:m=0∨m=1∨m=2∨m=3∨m=4∨m=5∨m=6∨m=7:=by omega
 unfold sm4
 rcases this with rfl|rfl|rfl|rfl|rfl|rfl|rfl|rfl<;>decide
theorem Xnq{f:Nat->Rg}(h:∀ k,sm4 (f k) 1) : ∀ n:Nat,sm4 (sumN f n) (n:Int)
 | 0=>by show sm4 (0:Rg) 0;unfold sm4;decide
 | n+1=>by
  have h1:=Xnq h n;have h2:=h n
  unfold sm4 at *
  have ea:(sumN f (n+1)).a=(sumN f n).a+(f n).a:=rfl
  have eb:(sumN f (n+1)).b=(sumN f n).b+(f n).b:=rfl
  have ec:(sumN f (n+1)).c=(sumN f n).c+(f n).c:=rfl
  have ed:(sumN f (n+1)).d=(sumN f n).d+(f n).d:=rfl
  rw [ea,eb,ec,ed]
  omega
theorem Xcy{z:Rg}{e:Int}{d:Dy}(hz:rOk z=true)(h:sclI z e=some d) : V d e.toNat (s2^(-e).toNat*z)/\dOk d=true:=by
 unfold sclI at h
 split at h
 ·rename_i h0
  injection h with h
  subst h0 h
  have:s2^(-e).toNat*rZ=0:=X08 _
  rw [this]
  exact ⟨X6z _,by decide⟩
 ·split at h
  ·rename_i h1
   injection h with h
   simp only [Qd] at h1
   obtain ⟨e1,e2⟩:=X82 _ _ hz h1.1
   have hv:=Xjp (e:=max e 0) e2 Z
   rw [h] at hv h1
   rw [e1,show (max e 0).toNat=e.toNat from by omega] at hv
   exact ⟨hv,h1.2⟩
  ·cases h
theorem Xm9{p q:Mx}{R C:Nat}(hr:p.rows=(R:Int))(hr2:q.rows=(R:Int))(hc:p.cols=(C:Int))(hc2:q.cols=(C:Int))(hp:p.cells.length=R*C)(hq:q.cells.length=R*C)(h:∀ i j,i<R->j<C->p.at i j=q.at i j) : p=q:=by
 obtain ⟨pr,pc,pl⟩:=p;obtain ⟨qr,qc,ql⟩:=q
 simp only at hr hr2 hc hc2 hp hq
 subst hr hc hr2 hc2
 congr 1
 apply List.ext_getElem
 ·omega
 ·intro m h1 h2
  have hC:0<C:=by
   rcases Nat.eq_zero_or_pos C with e|e
   ·rw [e,Nat.mul_zero] at hp;omega
   ·exact e
  have h3:=h (m/C) (m % C) (Nat.div_lt_of_lt_mul (by rw [Wi];omega)) (Nat.mod_lt _ hC)
  unfold Mx.at at h3
  simp only [Qj] at h3
  rw [show m/C*C+m % C=m from by rw [Wi];exact Nat.div_add_mod m _] at h3
  rw [Qa,Qa,Qc h1,Qc h2] at h3
  exact h3
section
end
structure Oc where f:Nat->Int
theorem Xy5:ZeroT Tryz.prog 128 (.agg #[.int .i64 0,.int .i64 0,.int .i64 0,.int .i64 0,.int .i64 0,.int .i64 0,.int .i64 0,.int .i64 0]):=X2q O3
def Oc.put(u:Oc)(j:Nat)(v:Int) : Oc:=⟨fun i=>if i=j then v else u.f i⟩
section
variable {P : Program} {a : Act} {w : World} {n : Nat} {e : Env} {ty : TypeId} {pos : String} {af : Array Edge} {g : Option (Nat × Bool)} {d : Option Tmp}
end
def oSum(u:Oc) : Rg:=⟨u.f 0-u.f 4,u.f 1-u.f 5,u.f 2-u.f 6,u.f 3-u.f 7⟩
theorem Xlc:Tryz.prog.eqGuardType Tryz.prog.depth 76=false:=by kernel_rfl
theorem Xrm(x:Rg)(l:List Rg) : rOk (rIf1 x l)=true:=by
 unfold rIf1
 split
 ·rename_i h
  unfold rIf2 at h
  rw [List.all_append,Qd] at h
  simpa using h.2
 ·decide
theorem Xnd{z y:Rg}{m j:Int}{b:Bool}(h:(if b=true then raiseI (-j).toNat y else (y,false))=raiseI (-m).toNat z)(hb:b=true)(hj:j<0) :
  (if rIf2 (rRoot y) [y]=true then raiseI (-(j+1)).toNat (rIf1 (rRoot y) [y]) else (rIf1 (rRoot y) [y],false))=raiseI (-m).toNat z:=by
 rw [<- h,Q4 hb]
 obtain ⟨k,hk⟩ : ∃ k,(-j).toNat=k+1:=⟨(-j).toNat-1,by omega⟩
 rw [hk,show (-(j+1)).toNat=k from by omega]
 unfold rIf1
 by_cases hh:rIf2 (rRoot y) [y]=true<;>simp [raiseI,hh]
theorem Xu3{z:Rg}{m:Int}(h:z=rZ) : sclI z m=some dZ:=by unfold sclI;rw [Q4 h]
section
variable {z x y : Rg} {m i j : Int} {b : Bool} (hz0 : ¬ z = rZ) (h : (if b = true then raiseI (-j).toNat y else (y, false)) = raiseI (-m).toNat z) (hjb : b = true -> 0 <= j)
variable (hjm : -60 <= j /\ j <= 60 /\ (j = m ∨ m < 0 /\ j <= 0)) (hin : dLow x i = dLow y j) (hst : dLow x i = ⟨x, i⟩)
include hz0 h hjb hjm hin hst
end
theorem Y43{n k:Int}(hn:1<=n/\n<=5)(hk:k=12) : gOk n ⟨k,0,0⟩=true:=by
 subst hk
 simp only [gOk,Qd,X0o]
 exact ⟨⟨hn,by omega⟩,O⟩
theorem Y42{n:Int}(hn:1<=n/\n<=5) : gOk n ⟨1,0,0⟩=true:=by
 simp only [gOk,Qd,X0o]
 refine ⟨⟨hn,by omega⟩,?_⟩
 rw [Q3 O4,Q3 O4]
 simp only [Qd,X0o]
 exact ⟨by omega,rfl⟩
theorem Y40{n k a:Int}(hn:1<=n/\n<=5)(hk:1<=k/\k<=12)(h12:¬ k=12)(h9:inR k 9 11=false)(ha:0<=a/\(a=0∨a<n)) : gOk n ⟨k,a,0⟩=true:=by
 simp only [gOk,Qd,X0o]
 refine ⟨⟨hn,hk⟩,?_⟩
 rw [Q3 h12,Q3 (fun h=>by rw [<- X0o,h9] at h;cases h)]
 simp only [Qd,X0o]
 exact ⟨by omega,rfl⟩
theorem Y41{n k a b:Int}(hn:1<=n/\n<=5)(hk:1<=k/\k<=12)(h12:¬ k=12)(h9:inR k 9 11=true)(h1:¬ n=1)(ha:0<=a/\(a=0∨a<n))(hb:0<=b/\(b=0∨b<n-1)) : gOk n ⟨k,a,(a+1+b).tmod n⟩=true:=by
 have e:(a+1+b).tmod n=if a+1+b<n then a+1+b else a+1+b-n:=by
  rw [Int.tmod_eq_emod_of_nonneg Z]
  split
  ·exact Int.emod_eq_of_lt Z Z
  ·rw [<- Int.sub_emod_right]
   exact Int.emod_eq_of_lt Z Z
 simp only [gOk,Qd,X0o]
 refine ⟨⟨hn,hk⟩,?_⟩
 rw [Q3 h12,Q4 (X0o.1 h9)]
 simp only [Qd,X0o,bne_iff_ne,ne_eq]
 rw [e]
 split<;>omega
theorem Xj4{n:Int}{l:List Gt}{g:Gt}(h:∀ x ∈ l,gOk n x=true)(hg:gOk n g=true) : ∀ x ∈ l++[g],gOk n x=true:=fun x hx=>by
 rcases Qu.1 hx with hx|hx
 ·exact h x hx
 ·rw [Qm.1 hx];exact hg
theorem Xzz(w0:World)(bV:Nat){aU:TypeId}(E:Option Addr)(H:Nat)(q:List Int)(b:Rd w0 w0.heap.size aU encU E q)(a8:∀ x ∈ q,0<=x/\x<=255)(I:AwayR q E bV)(t:Nat)(sd:Int)(d:Blk w0 bV 52 [.slice E q.length H,vi (t:Int),.int .u64 sd])(n:Int)(Al:Option Addr)(cl:Nat)(l:List Int)(z:Rd w0 w0.heap.size 3 encI Al l)(hn:1<=n/\n<=5)(aB:∀ k ∈ l,1<=k/\k<=12)(b5:0<l.length)(b6:l.length<=1000)(ht:t+6<=100000000) : Ret Tryz.prog 54 [(pZ9 bV),vi n,.slice Al l.length cl] w0 (fun v w=>∃ (x:Gt) (t1:Nat) (s1:Int),v=gV x/\(gOk n x=true)/\(t<=t1/\t1<=t+6)/\Kept bV w0.heap.size w0 w/\Blk w bV 52 [.slice E q.length H,vi (t1:Int),.int .u64 s1]):=by
 have b3:=d.lt;refine enter Tryz.func54 O 42 O O ?_;intro a o
 have g:Kept bV w0.heap.size w0 w0:=Kept.refl _ _ _
 refine Zs o fun _ aV=>?_;refine Zf (X03 (zs:=[vi 0,vi 0,vi 0]) X87 O) ?_;rintro _ w1 ⟨b4,rfl,aW,p,c⟩;have G:=Q0 g.size aW;have d:=d.bw p;have b:=b.bw p;have z:=z.bw p;have g:=ktr g p;refine Zx aV fun a o _ aX=>?_;refine Zm O<|Zm O<|Zm O<|Ze (X11 O Xy)<|Zf (Vc (X2h _ bV E H q b.top a8 I t sd d (l.length:Int) Z) X1b) ?_;rintro _ w2 ⟨e,aC,aD,rfl,aY,aZ,hK,B⟩;obtain ⟨wm,D,hm,p⟩:=hK.mid;clear hm;have i:=d;have c:=c.oz D i O;have b:=b.onlyA D I;have z:=z.oT D i O;have g:=g.self D;have c:=c.bw p;have b:=b.bw p;have z:=z.bw p;have g:=ktr g p
 clear i p D hK;have d:=B;clear B;refine Zi (k:=e.toNat) (u:=(l.getD e.toNat 0)) (enc:=encI) (l:=l) tv0 O O Xy X0e Xn z (X5y Z) Z ?_;intro p7 aE;refine Ze (X0 O X2 aE)<|Ze (Xt (ps:=[(0,vi (l.getD e.toNat 0))]) (cs:=[vi (l.getD e.toNat 0),vi 0,vi 0]) O (fun _=>by first|rfl|kernel_rfl)) ?_;refine ZB [vi (l.getD e.toNat 0),vi 0,vi 0] X87 X2t fun b8 w4 b0 p f=>?_
 have aT:b4≠b8:=by have:=c.lt;omega
 have J:=Q0 g.size b0;have d:=d.bw p;have c:=c.bw p;have b:=b.bw p;have g:=ktr g p;refine ZX aX fun a o _ b1=>?_;refine Zs o fun _ aF=>?_;refine Ze (Vd O X25 0)<|Ze (X0 O X2 (f.at 0))<|Ze (X0f O O)<|Zt aF fun a o=>?_
 refine Xz o O (fun L=>?_) (fun L=>?_)
 ·have a6:l.getD e.toNat 0=12:=by have:=L;simpa using this
  refine Zs o fun _ aG=>?_;refine Ze (Vn X28 f)<|Zo (Vw [vi (l.getD e.toNat 0),vi 0,vi 0] X2t c) ?_;rintro _ w5 ⟨A,M⟩;have d:=d.oz A c O;have g:=Kept.oy g A G;have c:=M;refine Zt aG fun a o=>?_;refine Q6<|X7<|X4 o (Xo o O (ResV.cellN (l:=[vi (l.getD e.toNat 0),vi 0,vi 0]) O X28 (c.at 0) O)) ?_;exact ⟨⟨_,_,_⟩,_,_,O,Y43 hn a6,⟨by omega,by omega⟩,g,d⟩
 have a6:¬ l.getD e.toNat 0=12:=by have:=L;simpa using this
 have aH:=aB (l.getD e.toNat 0) (Xav Z)
 refine Q7<|b1 _ _<|Zs o fun _ aI=>?_;refine Zm O<|Zm O<|Zf (Vc (X2h _ bV E H q b.top a8 I aC aD d n Z) X1b) ?_;rintro _ w6 ⟨m,aJ,aK,rfl,N,b2,hK,B⟩;obtain ⟨wm,D,hm,p⟩:=hK.mid;clear hm;have i:=d;have c:=c.oz D i O;have f:=f.oz D i O;have b:=b.onlyA D I;have g:=g.self D;have c:=c.bw p;have f:=f.bw p;have b:=b.bw p;have g:=ktr g p
 clear i p D hK;have d:=B;clear B;refine Ze (Vd O Xs 1)<|Zo (Vu (vs:=[vi m]) (l':=[vi (l.getD e.toNat 0),vi m,vi 0]) O O X0e f) ?_;rintro _ w7 ⟨A,M⟩;have d:=d.oz A f O;have c:=c.oy A Z;have b:=b.oy A J;have g:=Kept.oy g A J;have f:=M;refine ZX aI fun a o _ a7=>?_;refine Zs o fun _ aL=>?_;refine Ze (Vd O X25 0)<|Ze (X0 O X2 (f.at 0))<|Zf (Vc (F85 _ (l.getD e.toNat 0) 9 11) X4b) ?_;rintro _ _ ⟨rfl,rfl⟩;refine Zt aL fun a o=>?_
 refine Xz o O (fun Q=>?_) (fun Q=>?_)
 ·have h9:inR (l.getD e.toNat 0) 9 11=true:=Q
  refine Q5 fun _ aM=>?_;refine Zs o fun _ aN=>?_;refine Zm O<|Ze (X0f O O)<|Zt aN fun a o=>?_
  refine Xz o O (fun U=>?_) (fun U=>?_)
  ·have h1:n=1:=by have:=U;simpa using this
   refine Zs o fun _ aO=>?_;refine Ze (Xt (ps:=[(0,vi 1)]) (cs:=[vi 1,vi 0,vi 0]) O (fun _=>by first|rfl|kernel_rfl))<|Zo (Vw [vi 1,vi 0,vi 0] X2t c) ?_;rintro _ w8 ⟨A,M⟩;have d:=d.oz A c O;have g:=Kept.oy g A G;have c:=M;refine Zt aO fun a o=>?_;refine Q6<|X7<|X7<|X4 o (Xo o O (ResV.cellN (l:=[vi 1,vi 0,vi 0]) O X28 (c.at 0) O)) ?_;exact ⟨⟨_,_,_⟩,_,_,O,Y42 hn,⟨by omega,by omega⟩,g,d⟩
  have h1:¬ n=1:=by have:=U;simpa using this
  refine Q7<|aM _ _<|Xl (some bV) (fun j=>[11].contains j) mixed ?_;intro w9 p;have d:=d.bw p;have c:=c.bw p;have f:=f.bw p;have b:=b.bw p;have g:=ktr g p;refine Yb o<|Yo 0 O (fun _=>Vd O Xs 1) ?_;refine Yw 1 O tv0 (fun w1 h1=>X0 O X2 ((f.oz h1 d O).at 1)) ?_;refine Yo 2 O (fun _=>Xr O O Z Z)<|Yo 3 O (fun _=>X3 O)<|Yo 4 O (fun _=>X3 O)<|Yo 5 O (fun _=>X1c O O Z Z)<|Yo 8 O (fun _=>X3 O)<|Y1 6 ?_;refine Yf O tv0 (EfW.mono (Vc (X2h _ bV E H q b.top a8 I aJ aK d (n-1) Z) X1b) (fun _ _ h=>⟨fun _=>by obtain ⟨C,aP,aQ,rfl,W,aA,hK,B⟩:=h;exact hK.keep,h⟩)) ?_;rintro _ b7 ⟨C,aP,aQ,rfl,W,aA,hK,B⟩;obtain ⟨wm,D,hm,p⟩:=hK.mid;clear hm;have i:=d;have c:=c.oz D i O;have f:=f.oz D i O;have g:=g.self D;have c:=c.bw p;have f:=f.bw p;have g:=ktr g p
  clear i p D hK;have d:=B;clear B;refine Yo 7 O (fun _=>Xr O O Z Z)<|Yo 9 O (fun _=>X4n O O O6)<|Yo 10 O (fun _=>Vd O X0h 2)<|Y1 11 ?_;refine Yh O tv0 O (Vu (vs:=[vi (((m+1)+C).tmod n)]) (l':=[vi (l.getD e.toNat 0),vi m,vi (((m+1)+C).tmod n)]) O O X0e f) ?_;rintro _ b9 ⟨A,M⟩;have d:=d.oz A f O;have c:=c.oy A Z;have g:=Kept.oy g A J;have f:=M;refine Yd fun a o=>?_;refine a7 _ _<|Zs o fun _ aR=>?_;refine Ze (Vn X28 f)<|Zo (Vw [vi (l.getD e.toNat 0),vi m,vi (((m+1)+C).tmod n)] X2t c) ?_;rintro _ bC ⟨A,M⟩;have d:=d.oz A c O;have g:=Kept.oy g A G;have c:=M;refine Zt aR fun a o=>?_
  refine Q6 (X4 o (Xo o O (ResV.cellN (l:=[vi (l.getD e.toNat 0),vi m,vi (((m+1)+C).tmod n)]) O X28 (c.at 0) O)) ?_)
  exact ⟨⟨_,_,_⟩,_,_,O,Y41 hn aH a6 h9 h1 N W,⟨by omega,by omega⟩,g,d⟩
 have h9:inR (l.getD e.toNat 0) 9 11=false:=Q
 refine Q7<|a7 _ _<|Zs o fun _ aS=>?_;refine Ze (Vn X28 f)<|Zo (Vw [vi (l.getD e.toNat 0),vi m,vi 0] X2t c) ?_;rintro _ bD ⟨A,M⟩;have d:=d.oz A c O;have g:=Kept.oy g A G;have c:=M;refine Zt aS fun a o=>?_
 refine Q6 (X4 o (Xo o O (ResV.cellN (l:=[vi (l.getD e.toNat 0),vi m,vi 0]) O X28 (c.at 0) O)) ?_)
 exact ⟨⟨_,_,_⟩,_,_,O,Y40 hn aH a6 h9 N,⟨by omega,by omega⟩,g,d⟩
theorem Y00(w0:World)(bV:Nat){aH:TypeId}(G:Option Addr)(N:Nat)(C:List Int)(d:Rd w0 w0.heap.size aH encU G C)(aI:∀ x ∈ C,0<=x/\x<=255)(a6:AwayR C G bV)(t:Nat)(sd:Int)(m:Blk w0 bV 52 [.slice G C.length N,vi (t:Int),.int .u64 sd])(n:Int)(most:Int)(Al:Option Addr)(cl:Nat)(l:List Int)(f:Rd w0 w0.heap.size 3 encI Al l)(hn:1<=n/\n<=5)(aJ:∀ k ∈ l,1<=k/\k<=12)(hm:0<=most/\most<=1000)(aY:0<l.length)(aZ:l.length<=1000)(ht:t+(2+6*most.toNat)<=100000000) : Ret Tryz.prog 21 [(pZ9 bV),vi n,vi most,.slice Al l.length cl] w0 (fun v w=>∃ (c:Cx) (A:Option Addr) (e:Nat) (t1:Nat) (s1:Int),v=.agg #[vi c.n,.slice A c.gs.length e]/\(c.n=n/\(c.gs.length:Int)<=most/\∀ g ∈ c.gs,gOk n g=true)/\(t<=t1/\t1<=t+(2+6*most.toNat))/\Own w w0.heap.size 66 3 encG A e c.gs/\Kept bV w0.heap.size w0 w/\Blk w bV 52 [.slice G C.length N,vi (t1:Int),.int .u64 s1]):=by
 have b8:=m.lt;refine enter Tryz.func21 O 31 O O ?_;intro a E
 have B:Kept bV w0.heap.size w0 w0:=Kept.refl _ _ _
 refine Zs E fun _ b0=>?_;refine Zf (X03 (zs:=[vi 0,.slice none 0 0]) Xd6 O) ?_;rintro _ w1 ⟨b5,rfl,b1,q,i⟩;have aK:=Q0 B.size b1;have m:=m.bw q;have d:=d.bw q;have f:=f.bw q;have B:=ktr B q;refine Zx b0 fun a E _ b2=>?_;refine Zm O<|Ze (Xt (ps:=[(0,vi n)]) (cs:=[vi n,.slice none 0 0]) O (fun _=>by first|rfl|kernel_rfl)) ?_;refine ZB [vi n,.slice none 0 0] Xd6 X59 fun b9 w3 b3 q o=>?_
 have aX:b5≠b9:=by have:=i.lt;omega
 have a7:=Q0 B.size b3;have m:=m.bw q;have i:=i.bw q;have d:=d.bw q;have f:=f.bw q;have B:=ktr B q;refine ZX b2 fun a E _ aL=>?_;refine Zs E fun _ aM=>?_;refine Zm O<|Zm O<|Ze (Xr O O Z Z)<|Zf (Vc (X2h _ bV G N C d.top aI a6 t sd m (most+1) Z) X1b) ?_;rintro _ w4 ⟨aN,aO,aP,rfl,b4,b6,hK,I⟩;obtain ⟨wm,H,hm,q⟩:=hK.mid;clear hm;have z:=m;have i:=i.oz H z O;have o:=o.oz H z O;have d:=d.onlyA H a6;have f:=f.oT H z O;have B:=B.self H;have i:=i.bw q;have o:=o.bw q;have d:=d.bw q;have f:=f.bw q;have B:=ktr B q
 clear z q H hK;have m:=I;clear I;refine Za O<|Zt aM fun a E=>?_;refine Q8<|X00 (σ:=Int×(List Gt)×Nat×Int) (fun (s:Int×(List Gt)×Nat×Int) (a:Act) (w:World)=>match s with|(j,gs,t2,s2)=>∃ J L,Fr a 31 [(0,(pZ9 bV)),(1,vi n),(3,.slice Al l.length cl),(8,(pZ9 b5)),(9,(pZ9 b9)),(10,vi j)]/\(0<=j/\j+gs.length<=most)/\(t<=t2/\t2+6*j.toNat<=t+(2+6*most.toNat))/\(∀ g ∈ gs,gOk n g=true)/\Blk w bV 52 [.slice G C.length N,vi (t2:Int),.int .u64 s2]/\Blk w b5 26 [vi 0,.slice none 0 0]/\Blk w b9 26 [vi n,.slice J gs.length L]/\Rd w w0.heap.size aH encU G C/\Rd w w0.heap.size 3 encI Al l/\Own w w0.heap.size 66 3 encG J L gs/\Kept bV w0.heap.size w0 w) (fun (s:Int×(List Gt)×Nat×Int)=>match s with|(j,gs,t2,s2)=>j.toNat) (aN,[],aO,aP) ?_ ?_
 ·exact ⟨none,0,E.sb,O6,Z,O5,m,i,o,d,f,(Own.nil _ _ _ _ _),B⟩
 rintro ⟨j,gs,t2,s2⟩ a w5 ⟨J,L,E,hj,bC,aQ,m,i,o,d,f,p,B⟩;refine Q5 fun _ aR=>?_;refine Zs E fun _ aS=>?_;refine Zm O<|Ze (X4e O O)<|Zt aS fun a E=>?_
 refine X0z E O (fun aC aT=>?_) (fun aC aT=>?_)
 ·refine Q7<|aR _ _<|Q5 fun _ aU=>?_;refine Q8<|Xl (some bV) (fun j=>[7,9].contains j) mixed ?_;intro w6 q;have m:=m.bw q;have i:=i.bw q;have o:=o.bw q;have d:=d.bw q;have f:=f.bw q;have p:=p.bw q;have B:=ktr B q;refine Yb E<|Yo 0 O (fun _=>Vd O X38 1) ?_;refine Yw 1 O tv0 (fun w1 h1=>X0 O X69 ((o.oz h1 m O).at 1)) ?_;refine Yo 2 O (fun _=>X3 O)<|Yo 3 O (fun _=>X3 O)<|Yo 4 O (fun _=>X3 O)<|Y1 5 ?_;refine Yf O tv0 (EfW.mono (X2b (vs:=[(pZ9 bV),vi n,.slice Al l.length cl]) O Xgv (Xzz _ bV G N C d.top aI a6 t2 s2 m n Al cl l f.top hn aJ aY aZ Z)) (fun _ _ h=>⟨fun _=>by obtain ⟨u,a8,aA,rfl,Q,aD,hK,I⟩:=h;exact hK.keep,h⟩)) ?_;rintro _ w7 ⟨u,a8,aA,rfl,Q,aD,hK,I⟩;obtain ⟨wm,H,hm,q⟩:=hK.mid;clear hm;have z:=m;have i:=i.oz H z O;have o:=o.oz H z O;have d:=d.onlyA H a6;have f:=f.oT H z O;have p:=p.oT H z O;have B:=B.self H;have i:=i.bw q;have o:=o.bw q;have d:=d.bw q;have f:=f.bw q;have p:=p.bw q;have B:=ktr B q
  clear z q H hK;have m:=I;clear I;refine Y1 6<|Yf O tv0 (EfW.mono (X9 (k:=1) (vs:=[.agg #[vi u.k,vi u.a,vi u.b]]) (zs:=[vi u.k,vi u.a,vi u.b]) O X3q X6m O O) (fun _ _ h=>⟨fun _=>by obtain ⟨_,_,_,q,_⟩:=h;exact Keep.of_below q,h⟩)) ?_;rintro _ w8 ⟨bD,rfl,aB,q,U⟩;have b7:=Q0 B.size aB;have M:=p.away aB;have m:=m.bw q;have i:=i.bw q;have o:=o.bw q;have d:=d.bw q;have f:=f.bw q;have p:=p.bw q;have B:=ktr B q;refine Y1 7<|Yt O tv0 O (X15 (enc:=encG) (l:=(gs)) (l2:=([u])) (B0:=w0.heap.size) O O X3q X6m X3u X9s p (Rd.of_blk U O _ U.lt) (by simp only [maxLen];simp;omega) O6 B.size) ?_;rintro _ w9 ⟨aE,aF,rfl,W,hg,aV⟩
  have D:Own _ w0.heap.size 66 3 encG _ _ (gs):=p
  have aG:=aV _ U.lt M;clear aV;have m:=m.appT D hg O;have i:=i.appT D hg O;have o:=o.appT D hg O;have d:=d.appB D hg (Qb _);have f:=f.appT D hg O;have B:=Kept.app B D hg (Qb _) B.size;clear D hg;refine Yo 8 O (fun _=>Vd O X38 1)<|Y1 9 ?_;refine Yh O tv0 O (Vu (vs:=[.slice aE (gs++([u])).length aF]) (l':=[vi n,.slice aE (gs++([u])).length aF]) O O Xnt o) ?_;rintro _ bE ⟨ho,hb⟩;have m:=m.oz ho o O;have i:=i.oy ho Z;have d:=d.oy ho a7;have f:=f.oT ho o O;have W:=W.oT ho o O;have B:=Kept.oy B ho a7;have o:=hb;refine Yd fun a E=>?_;refine X6<|aU _ _<|Zr E<|Zm O<|Ze (X1c O O Z Z)<|Za O ?_;refine Zn fun a E=>?_;refine Xc ?_;exact ⟨(j-1,gs++[u],a8,aA),⟨aE,aF,E.sb,O6,Z,(Xj4 aQ Q),m,i,o,d,f,W,B⟩,O0⟩
 refine Q9<|Xg<|Xg<|X01 ?_;refine aL _ _<|Zs E fun _ aW=>?_;refine Ze (Vn X3g o)<|Zo (Vw [vi n,.slice J gs.length L] X59 i) ?_;rintro _ bF ⟨ho,hb⟩;have m:=m.oz ho i O;have p:=p.oT ho i O;have B:=Kept.oy B ho aK;have i:=hb;refine Zt aW fun a E=>?_
 refine Q6 (X4 E (Xo E O (ResV.cellN (l:=[vi n,.slice J gs.length L]) O X3g (i.at 0) O)) ?_)
 exact ⟨⟨n,gs⟩,J,L,_,_,O,⟨O,(by show (gs.length:Int)<=most;omega),aQ⟩,⟨by omega,by omega⟩,p,B,m⟩
theorem Y3k(x:World)(R C:Int)(k:FuncId)(caps:List Value)(hF:FuncF Tryz.prog k)(f:Nat->Nat->Option Dy)(aC:∀ (i j:Nat) w,(i:Int)<R->(j:Int)<C->Below x.heap.size x w->Ret Tryz.prog k ([vi (i:Int),vi (j:Int)]++caps) w (fun v w'=>∃ d:Dy,v=.tuple #[dV d,.bool (f i j).isSome]/\(∀ y,f i j=some y->d=y)/\Below w.heap.size w w')) : Ret Tryz.prog 32 [vi R,vi C,.func (.func k) #[] caps.toArray] x (fun v w=>∃ A c,v=.tuple #[mV A c ((matOf R C f).getD mZ),.bool (matOf R C f).isSome]/\Own w x.heap.size 78 5 encD A c ((matOf R C f).getD mZ).cells/\Below x.heap.size x w):=by
 refine enter Tryz.func32 O 52 O O ?_;intro a g
 have p:=bz x
 refine Zs g fun _ b8=>?_;refine Zf (X03 (zs:=[vi 0,vi 0,.slice none 0 0]) X3a O) ?_;rintro _ w1 ⟨b3,rfl,b9,t,e⟩;have I:=Q0 p.size b9;have p:=btr p t;refine Za O<|Zx b8 fun a g _ bC=>?_;refine Zm O<|Zm O<|Ze (Xt (ps:=[(0,vi R),(1,vi C)]) (cs:=[vi R,vi C,.slice none 0 0]) O (fun _=>by first|rfl|kernel_rfl)) ?_;refine ZB [vi R,vi C,.slice none 0 0] X3a X1o fun b7 w3 bD t o=>?_
 have b6:b3≠b7:=by have:=e.lt;omega
 have aM:=Q0 p.size bD;have e:=e.bw t;have p:=btr p t;refine ZX bC fun a g _ bE=>?_;refine Q5 fun _ bF=>?_;refine X0p (fun a w=>Fr a 52 [(0,vi R),(1,vi C),(2,.func (.func k) #[] caps.toArray),(6,(pZ9 b3)),(8,(pZ9 b7)),(23,.bool ((!(isDimB R))||(!(isDimB C))))]/\w3=w) ?_ ?_
 ·refine Zr g<|Zm O<|Zf (Vc (Xy9 _ R) Xl0) ?_;rintro _ _ ⟨rfl,rfl⟩;refine Ze (X1w O)<|Zm O ?_
  refine Zg 19 O (fun m=>?_) (fun m=>?_)
  ·(iterate 3 refine Zp (gP m) ?_);refine Ze (Xa O m O) ?_;refine Zn fun a g=>?_;exact ⟨g.sub ⟨O,O,O,O,O,X1 O (by first|rfl|(simp only [m,bs];done)|simp [m]),trivial⟩,O⟩
  refine Zv (gW m) (X3 O) ?_;refine Zk (gW m) (Vc (Xy9 _ C) Xl0) ?_;rintro _ _ ⟨rfl,rfl⟩;refine Zv (gW m) (X1w O) ?_;refine Ze (Xh O m O) ?_;refine Zn fun a g=>?_;exact ⟨g.sub ⟨O,O,O,O,O,X1 O (by first|rfl|(simp only [m,bs];done)|simp [m]),trivial⟩,O⟩
 rintro a _ ⟨g,rfl⟩;refine bF _ _ ?_
 refine Xz g O (fun J=>?_) (fun J=>?_)
 ·have hn:=Xb3 J;refine Zs g fun _ aN=>?_;refine Ze (Xt (ps:=[]) (cs:=[vi 0,vi 0,.slice none 0 0]) O (fun _=>by first|rfl|kernel_rfl))<|Zo (Vw [vi 0,vi 0,.slice none 0 0] X1o e) ?_;rintro _ w4 ⟨N,hb⟩;have p:=Below.oy p N I;have e:=hb;refine Za O<|Zt aN fun a g=>?_;refine Q6<|X7<|X4 g (X2u g O (ResV.cellN (l:=[vi 0,vi 0,.slice none 0 0]) O X1d (e.at 0) O) O) ?_
  have he:matOf R C f=none:=by rw [matOf,hn];rfl
  rw [he]
  exact ⟨none,0,O,(Own.nil _ _ _ _ _),p⟩
 have hy:=Xed J;have aO:=(Qd _ _▸hy:isDimB R=true/\isDimB C=true);have hR:=X45 aO.1;have hC:=X45 aO.2;refine Q7<|bE _ _<|Q5 fun _ aP=>?_;refine Zs g fun _ aQ=>?_;refine Zm O<|Zm O<|Zt aQ fun a g=>?_;refine Q8<|X00 (σ:=Nat×(List Dy)) (fun (s:Nat×(List Dy)) (a:Act) (w:World)=>match s with|(i,l)=>∃ z h,Fr a 52 [(1,vi C),(2,.func (.func k) #[] caps.toArray),(6,(pZ9 b3)),(8,(pZ9 b7)),(25,vi R),(26,vi (i:Int))]/\((i:Int)<=R)/\(seqO (gridG f C.toNat) (i*C.toNat)=some l)/\Blk w b3 37 [vi 0,vi 0,.slice none 0 0]/\Blk w b7 37 [vi R,vi C,.slice z l.length h]/\Own w x.heap.size 78 5 encD z h l/\Below x.heap.size x w) (fun (s:Nat×(List Dy))=>match s with|(i,l)=>(R-i).toNat) (0,[]) ?_ ?_
 ·exact ⟨none,0,g.sb,Z,O8,e,o,(Own.nil _ _ _ _ _),p⟩
 rintro ⟨i,l⟩ a w5 ⟨z,h,g,bN,hl,e,o,B,p⟩;refine Zs g fun _ aR=>?_;refine Ze (X1a O O)<|ZX aR fun a g _ aS=>?_
 refine X0z g O (fun aD a7=>?_) (fun aD a7=>?_)
 ·have aE:(i:Int)<R:=a7
  have bO:i*C.toNat<=1024:=Q0 (Nat.mul_le_mul (show i<=32 by omega) (show C.toNat<=32 by omega)) O4
  refine Q7<|aS _ _<|Q5 fun _ aT=>?_;refine Q8<|Zs g fun _ aU=>?_;refine Zm O<|Za O<|Zx aU fun a g _ aV=>?_;refine Zm O<|Zm O<|Zt aV fun a g=>?_;refine Q8<|X00 (σ:=Nat×(List Dy)) (fun (s:Nat×(List Dy)) (a:Act) (w:World)=>match s with|(j,l2)=>∃ Q U,Fr a 52 [(1,vi C),(2,.func (.func k) #[] caps.toArray),(6,(pZ9 b3)),(8,(pZ9 b7)),(9,vi (i:Int)),(25,vi R),(26,vi (i:Int)),(29,vi C),(30,vi (j:Int))]/\((j:Int)<=C)/\(seqO (gridG f C.toNat) (i*C.toNat+j)=some l2)/\Blk w b3 37 [vi 0,vi 0,.slice none 0 0]/\Blk w b7 37 [vi R,vi C,.slice Q l2.length U]/\Own w x.heap.size 78 5 encD Q U l2/\Below x.heap.size x w) (fun (s:Nat×(List Dy))=>match s with|(j,l2)=>(C-j).toNat) (0,l) ?_ ?_
  ·exact ⟨z,h,g.sb,Z,hl,e,o,B,p⟩
  rintro ⟨j,l2⟩ a w6 ⟨Q,U,g,bP,W,e,o,q,p⟩;refine Zs g fun _ aW=>?_;refine Ze (X1a O O)<|ZX aW fun a g _ aX=>?_
  refine X0z g O (fun aF a8=>?_) (fun aF a8=>?_)
  ·have a6:(j:Int)<C:=a8
   have bM:=X66 W;refine Q7<|aX _ _<|Q5 fun _ aY=>?_;refine Q8<|Zs g fun _ aZ=>?_;refine Zm O<|Za O<|Zx aZ fun a g _ b0=>?_;refine Zm O<|Zm O<|Zm O<|Zf (Xbg (cs:=caps) (vs:=[vi (i:Int),vi (j:Int)]) O O hF (aC i j _ aE a6 p)) ?_;rintro _ w7 ⟨d9,rfl,bG,t⟩;have e:=e.bw t;have o:=o.bw t;have q:=q.bw t;have p:=btr p t;refine Zm O<|Ze (Xj (vs:=[.agg #[vi d9.num.a,vi d9.num.b,vi d9.num.c,vi d9.num.d,vi d9.exp],.bool ((f i j).isSome)]) O O)<|Ze (Xj (vs:=[.agg #[vi d9.num.a,vi d9.num.b,vi d9.num.c,vi d9.num.d,vi d9.exp],.bool ((f i j).isSome)]) O O) ?_;refine ZB [vi d9.num.a,vi d9.num.b,vi d9.num.c,vi d9.num.d,vi d9.exp] X3d X0i fun bH w9 aA t u=>?_;have bJ:=Q0 p.size aA;have G:=q.away aA;have e:=e.bw t;have o:=o.bw t;have q:=q.bw t;have p:=btr p t;refine Za O<|ZX b0 fun a g _ b1=>?_;refine Zs g fun _ b2=>?_;refine Zm O<|Ze (X1w O)<|Zt b2 fun a g=>?_
   refine Xz g O (fun D=>?_) (fun D=>?_)
   ·have bK:=D
    have hn:gridG f C.toNat (i*C.toNat+j)=none:=by rw [X9x Z];revert D;cases f i j<;>simp
    refine Zs g fun _ b4=>?_;refine Ze (Xt (ps:=[]) (cs:=[vi 0,vi 0,.slice none 0 0]) O (fun _=>by first|rfl|kernel_rfl))<|Zo (Vw [vi 0,vi 0,.slice none 0 0] X1o e) ?_;rintro _ bQ ⟨N,hb⟩;have p:=Below.oy p N I;have e:=hb;refine Za O<|Zt b4 fun a g=>?_;refine Q6<|X7<|X05<|X7 ?_;refine X7<|X05<|X05<|X7 ?_;refine X7<|X05<|X7<|X4 g (X2u g O (ResV.cellN (l:=[vi 0,vi 0,.slice none 0 0]) O X1d (e.at 0) O) O) ?_
    have he:matOf R C f=none:=by rw [matOf,Q4 hy,Xb7 hn _ (X4y Z Z)];rfl
    rw [he]
    exact ⟨none,0,O,(Own.nil _ _ _ _ _),p⟩
   have hx:gridG f C.toNat (i*C.toNat+j)=some d9:=by rw [X9x Z];have h8:=D;cases h7:f i j with
    | none=>rw [h7] at h8;simp at h8
    | some y9=>rw [bG y9 h7]
   refine Q7<|b1 _ _<|Zr g<|Ze (Vd O X1q 2)<|Ze (X0 O X3i (o.at 2))<|Ze (Vn X04 u)<|Zf (X9 (k:=1) (vs:=[.agg #[vi d9.num.a,vi d9.num.b,vi d9.num.c,vi d9.num.d,vi d9.exp]]) (zs:=[vi d9.num.a,vi d9.num.b,vi d9.num.c,vi d9.num.d,vi d9.exp]) O X21 X31 O O) ?_;rintro _ bR ⟨b36,rfl,aB,t,L⟩
   have aJ:bH≠b36:=by have:=u.lt;omega
   have bL:=Q0 p.size aB;have H:=q.away aB;have e:=e.bw t;have o:=o.bw t;have u:=u.bw t;have q:=q.bw t;have p:=btr p t;refine Zf (X15 (enc:=encD) (l:=(l2)) (l2:=([d9])) (B0:=x.heap.size) O O X21 X31 X1x X54 q (Rd.of_blk L O _ L.lt) (by simp only [maxLen];simp;omega) O6 p.size) ?_;rintro _ bS ⟨aG,aH,rfl,M,hg,aI⟩
   have E:Own _ x.heap.size 78 5 encD _ _ (l2):=q
   have aK:=aI _ u.lt G;have aL:=aI _ L.lt H;clear aI;have e:=e.appT E hg O;have o:=o.appT E hg O;have p:=Below.app p E hg (Qb _) p.size;clear E hg;refine Ze (Vd O X1q 2)<|Zo (Vu (vs:=[.slice aG (l2++([d9])).length aH]) (l':=[vi R,vi C,.slice aG (l2++([d9])).length aH]) O O Xa9 o) ?_;rintro _ bU ⟨N,hb⟩;have e:=e.oy N Z;have M:=M.oT N o O;have p:=Below.oy p N aM;have o:=hb;refine Zn fun a g=>?_;refine X6<|aY _ _<|Zr g<|Ze (Xr O O Z Z)<|Zm O ?_;refine Zn fun a g=>?_;refine Xc ?_;exact ⟨(j+1,l2++[d9]),⟨aG,aH,g.sb,Z,(Xjc W hx),e,o,M,p⟩,O0⟩
  have a6:j=C.toNat:=by omega
  refine Q9<|Xg<|Xg<|X01 ?_;refine X6<|aT _ _<|Zr g<|Ze (Xr O O Z Z)<|Zm O ?_;refine Zn fun a g=>?_;refine Xc ?_;exact ⟨(i+1,l2),⟨Q,U,g.sb,Z,(by rw [Wb,Nat.one_mul,<- a6];rw [<- a6] at W;exact W),e,o,q,p⟩,O0⟩
 have aE:i=R.toNat:=by omega
 refine Q9<|Xg<|Xg<|X01 ?_;refine aP _ _<|Zs g fun _ b5=>?_;refine Ze (Vn X1d o)<|Zo (Vw [vi R,vi C,.slice z l.length h] X1o e) ?_;rintro _ bW ⟨N,hb⟩;have B:=B.oT N e O;have p:=Below.oy p N I;have e:=hb;refine Za O<|Zt b5 fun a g=>?_
 refine Q6 (X4 g (X2u g O (ResV.cellN (l:=[vi R,vi C,.slice z l.length h]) O X1d (e.at 0) O) O) ?_)
 have he:matOf R C f=some ⟨R,C,l⟩:=by rw [matOf,Q4 hy,<- aE,hl];rfl
 rw [he]
 exact ⟨z,h,O,B,p⟩
end Go.Proofs.YtgobkmhhckhbfaaGreatDoor
namespace Go.Proofs.YtgobkmhhckhbfaaGreatDoor
section
end
end Go.Proofs.YtgobkmhhckhbfaaGreatDoor
namespace Go.Proofs.YtgobkmhhckhbfaaGreatDoor
open Go
end Go.Proofs.YtgobkmhhckhbfaaGreatDoor
namespace Go.Proofs.YtgobkmhhckhbfaaGreatDoor
open Go.RowKit
section
end
section
end
section
end
end Go.Proofs.YtgobkmhhckhbfaaGreatDoor
namespace Go.Proofs.YtgobkmhhckhbfaaGreatDoor
def dimS(n:Int) : Bool:=[1,2,4,8,16,32].any fun y=>y==n
theorem X8x(n:Int) : dimS n=isDimB n:=by
 by_cases h:1<=n/\n<=32
 ·obtain ⟨k,rfl⟩:=Int.eq_ofNat_of_zero_le (by omega:0<=n)
  have hk:k<33:=by omega
  have:∀ j:Nat,j<33->dimS (j:Int)=isDimB (j:Int):=by decide
  exact this k hk
 ·have h1:isDimB n=false:=by
   unfold isDimB inR
   have:(decide (1<=n)&&decide (n<=32))=false:=by simp;omega
   rw [this];rfl
  rw [h1];simp [dimS];omega
def cmI(x y:Int) : Int:=if x<y then -1 else if y<x then 1 else 0
def idxF{α:Type}(l:List α)(q:α->Bool) : Int:=match l.findIdx? q with
 | some k=>(k:Int)
 | none=>-1
theorem Xch{α:Type}{q:α->Bool} : ∀ {l:List α} {k:Nat} {u:α},((l.take k).all fun x=>!q x)=true->l[k]? = some u->q u=true->idxF l q=(k:Int):=by
 intro l k u h1 h2 h3;obtain ⟨h4,h5⟩:=Qg.1 h2
 have:l.findIdx? q=some k:=by
  rw [List.findIdx?_eq_some_iff_getElem]
  refine ⟨h4,by rw [h5];exact h3,fun j hj=>?_⟩
  have:=W1.1 h1 l[j] (by rw [List.mem_iff_getElem];exact ⟨j,by simp;omega,by simp⟩)
  simpa using this
 unfold idxF;rw [this]
end Go.Proofs.YtgobkmhhckhbfaaGreatDoor
namespace Go.Proofs.YtgobkmhhckhbfaaGreatDoor
open Go.RowKit
theorem Xyi(w0:World)(x:Dy) : Ret Tryz.prog 98 [.agg #[vi x.num.a,vi x.num.b,vi x.num.c,vi x.num.d,vi x.exp]] w0 (fun v w=>v=.bool (dOk x)/\Below w0.heap.size w0 w):=by
 refine enter Tryz.func98 O 22 O O ?_;intro a j
 have m:=bz w0
 refine Zs j fun _ a6=>?_;refine Zf (X0u (zs:=[vi x.num.a,vi x.num.b,vi x.num.c,vi x.num.d,vi x.exp]) O O) ?_;rintro _ w1 ⟨b2,rfl,a7,o,k⟩;have aA:=Q0 m.size a7;have m:=btr m o;refine Za O<|ZX a6 fun a j _ a8=>?_;refine X0p (fun a w=>Fr a 22 [(2,.bool (((rOk x.num)&&(inR x.exp 0 60))&&((x.exp==0)||(!(rEven x.num)))))]/\Below w1.heap.size w1 w) ?_ ?_
 ·have i:Below w1.heap.size w1 w1:=Below.refl _ _
  refine Zr j<|Ze (Vd O X35 0)<|Ze (X09 (l:=[vi x.num.a,vi x.num.b,vi x.num.c,vi x.num.d]) O X0j ((k.at 0).take 4) O)<|Zf (Vc (Xo8 _ x.num) Xc2) ?_;rintro _ w2 ⟨rfl,o⟩;have k:=k.bw o;have m:=btr m o;have i:=btr i o;refine Zm O ?_
  refine Zg 6 O (fun f=>?_) (fun f=>?_)
  ·refine Zv (gW f) (Vd O X26 4) ?_;refine Zv (gW f) (X0 O X2 (k.at 4)) ?_;refine Zk (gW f) (Vc (F85 _ x.exp 0 60) X4b) ?_;rintro _ _ ⟨rfl,rfl⟩;refine Ze (Xa O f O)<|Zm O ?_
   refine Zg 11 O (fun e=>?_) (fun e=>?_)
   ·refine Zv (gW e) (Vd O X26 4) ?_;refine Zv (gW e) (X0 O X2 (k.at 4)) ?_;refine Zv (gW e) (X0f O O) ?_;refine Zv (gW e) (X3 O) ?_
    refine Zg 15 O (fun g=>?_) (fun g=>?_)
    ·(iterate 4 refine Zp (gP g) ?_);refine Zv (gW e) (Xa O g O) ?_;refine Ze (Xa O e O)<|Za O ?_;refine Zn fun a j=>?_;exact ⟨j.sub ⟨X1 O (by first|rfl|(simp only [f,e,g,bs];done)|simp [f,e,g]),trivial⟩,i⟩
    refine Zv (gW g) (Vd O X35 0) ?_;refine Zv (gW g) (X09 (l:=[vi x.num.a,vi x.num.b,vi x.num.c,vi x.num.d]) O X0j ((k.at 0).take 4) O) ?_;refine Zk (gW g) (Vc (Xug _ x.num) Xfc) ?_;rintro _ w3 ⟨rfl,o⟩;have m:=btr m o;have i:=btr i o;refine Zv (gW g) (X1w O) ?_;refine Zv (gW e) (Xh O g O) ?_;refine Ze (Xa O e O)<|Za O ?_;refine Zn fun a j=>?_;exact ⟨j.sub ⟨X1 O (by first|rfl|(simp only [f,e,g,bs];done)|simp [f,e,g]),trivial⟩,i⟩
   (iterate 4 refine Zp (gP e) ?_);(iterate 4 refine Zp (gP tv0) ?_);refine Zp (gP e) ?_;refine Ze (Xh O e O)<|Za O ?_;refine Zn fun a j=>?_;exact ⟨j.sub ⟨X1 O (by first|rfl|(simp only [f,e,bs];done)|simp [f,e]),trivial⟩,i⟩
  (iterate 3 refine Zp (gP f) ?_);refine Ze (Xh O f O)<|Zm O<|Zp (gP O) ?_;(iterate 3 refine Zp (gP O) ?_);(iterate 4 refine Zp (gP tv0) ?_);refine Zp (gP O) ?_;refine Ze (Xh O O O)<|Za O ?_;refine Zn fun a j=>?_;exact ⟨j.sub ⟨X1 O (by first|rfl|(simp only [f,bs];done)|simp [f]),trivial⟩,i⟩
 rintro a w4 ⟨j,o⟩;have m:=btr m o;refine a8 _ _ ?_
 refine Q6 (X4 j (Xo j O O) ?_)
 exact ⟨by simp [dOk, *],m⟩
theorem Xyg(w0:World)(x:Int) : Ret Tryz.prog 154 [vi x] w0 (fun v w=>v=.bool false/\w0=w):=by
 refine enter Tryz.func154 O 6 O O ?_;intro a hf
 have hW:=bz w0
 refine Zs hf fun _ a6=>?_;refine Za O<|Zx a6 fun a hf _ a7=>?_;refine Zm O<|Zm O<|Ze (X3t O O)<|Za O<|Zt a7 fun a hf=>?_
 refine Q6 (X4 hf (Xo hf O O) ?_)
 exact ⟨by simp,rfl⟩
theorem Xg7(w0:World)(x:Int)(y:Int) : Ret Tryz.prog 114 [vi x,vi y] w0 (fun v w=>v=vi (cmI x y)/\w0=w):=by
 refine enter Tryz.func114 O 20 O O ?_;intro a b
 have hW:=bz w0
 refine Zs b fun _ aF=>?_;refine Za O<|Zx aF fun a b _ aG=>?_;refine Zm O<|Zf (Vc (Xyg _ x) Xl2) ?_;rintro _ _ ⟨rfl,rfl⟩;refine Za O<|Zx aG fun a b _ aH=>?_;refine Zm O<|Zf (Vc (Xyg _ y) Xl2) ?_;rintro _ _ ⟨rfl,rfl⟩;refine Za O<|ZX aH fun a b _ aI=>?_;refine Zs b fun _ aJ=>?_;refine Zm O<|Zt aJ fun a b=>?_;refine X6d b O ?_;refine Q7<|aI _ _<|Q5 fun _ aK=>?_;refine Zs b fun _ aL=>?_;refine Zm O<|Zt aL fun a b=>?_;refine X6d b O ?_;refine Q7<|aK _ _<|Q5 fun _ aM=>?_;refine Zs b fun _ aN=>?_;refine Zm O<|Zm O<|Ze (X1a O O)<|Zt aN fun a b=>?_
 refine X0z b O (fun a6 d=>?_) (fun a6 d=>?_)
 ·have c:cmI x y = -1:=by rw [cmI,Q4 d]
  refine Zs b fun _ a8=>?_;refine Za O<|Zt a8 fun a b=>?_;refine Q6<|X7<|X4 b (Xo b O O) ?_;exact ⟨by rw [c],rfl⟩
 have aA:=d;refine Q7<|aM _ _<|Q5 fun _ aB=>?_;refine Zs b fun _ aC=>?_;refine Zm O<|Zm O<|Ze (X4e O O)<|Zt aC fun a b=>?_
 refine X0z b O (fun a7 e=>?_) (fun a7 e=>?_)
 ·have c:cmI x y=1:=by rw [cmI,Q3 aA,Q4 e]
  refine Zs b fun _ aD=>?_;refine Za O<|Zt aD fun a b=>?_;refine Q6<|X7<|X4 b (Xo b O O) ?_;exact ⟨by rw [c],rfl⟩
 have c:cmI x y=0:=by rw [cmI,Q3 aA,Q3 e]
 refine Q7<|aB _ _<|Zs b fun _ aE=>?_;refine Za O<|Zt aE fun a b=>?_
 refine Q6 (X4 b (Xo b O O) ?_)
 exact ⟨by rw [c],rfl⟩
theorem Xs6(w0:World)(n:Int) : Ret Tryz.prog 97 [vi n] w0 (fun v w=>v=.bool (dimS n)/\Below w0.heap.size w0 w):=by
 refine enter Tryz.func97 O 6 O O ?_;intro a hf
 have hW:=bz w0
 refine Zs hf fun _ a7=>?_;refine Za O<|Zx a7 fun a hf _ a8=>?_;refine Zf (X9 (k:=6) (vs:=[vi 1,vi 2,vi 4,vi 8,vi 16,vi 32]) (zs:=[vi 1,vi 2,vi 4,vi 8,vi 16,vi 32]) O Xy X2j O O) ?_;rintro _ w1 ⟨b3,rfl,aA,hE,a6⟩;have aB:=Q0 hW.size aA;have hW:=btr hW hE;refine Zm O<|Zf (Vc (Y34 _ (some ⟨b3,0,none⟩) 6 ([1,2,4,8,16,32]) (Rd.of_blk a6 O _ a6.lt) n O5) Xvz) ?_;rintro _ w2 ⟨rfl,hE⟩;have hW:=btr hW hE;refine Za O<|Zt a8 fun a hf=>?_
 refine Q6 (X4 hf (Xo hf O O) ?_)
 exact ⟨by simp [dimS],hW⟩
theorem Xyh(A:World)(m:Mx)(Am:Option Addr)(cm:Nat)(aA:Rd A A.heap.size 78 encD Am m.cells)(aZ:m.cells.length<=2305843009213693951) : Ret Tryz.prog 50 [.agg #[vi m.rows,vi m.cols,.slice Am m.cells.length cm]] A (fun v w=>v=.bool (mOk m)/\Below A.heap.size A w):=by
 refine enter Tryz.func50 O 37 O O ?_;intro a f
 have o:=bz A
 refine Zs f fun _ aQ=>?_;refine Zf (X0u (zs:=[vi m.rows,vi m.cols,.slice Am m.cells.length cm]) O O) ?_;rintro _ w1 ⟨b3,rfl,aR,p,j⟩;have aY:=Q0 o.size aR;have o:=btr o p;refine Za O<|ZX aQ fun a f _ aS=>?_;refine Q5 fun _ aT=>?_;refine X0p (fun a w=>Fr a 37 [(1,(pZ9 b3)),(25,.bool (((!(dimS m.rows))||(!(dimS m.cols)))||((m.cells.length:Int) != (wr (m.rows*m.cols)))))]/\Below w1.heap.size w1 w) ?_ ?_
 ·have q:Below w1.heap.size w1 w1:=Below.refl _ _
  refine Zr f<|Ze (Vd O X4a 0)<|Ze (X0 O X2 (j.at 0))<|Zf (Vc (Xs6 _ m.rows) Xgy) ?_;rintro _ w2 ⟨rfl,p⟩;have j:=j.bw p;have o:=btr o p;have q:=btr q p;refine Ze (X1w O)<|Zm O ?_
  refine Zg 9 O (fun g=>?_) (fun g=>?_)
  ·(iterate 4 refine Zp (gP g) ?_);refine Ze (Xa O g O)<|Zm O<|Zp (gP O) ?_;(iterate 8 refine Zp (gP O) ?_);refine Ze (Xa O O O) ?_;refine Zn fun a f=>?_;exact ⟨f.sub ⟨O,X1 O (by first|rfl|(simp only [g,bs];done)|simp [g]),trivial⟩,q⟩
  refine Zv (gW g) (Vd O X34 1) ?_;refine Zv (gW g) (X0 O X2 (j.at 1)) ?_;refine Zk (gW g) (Vc (Xs6 _ m.cols) Xgy) ?_;rintro _ w3 ⟨rfl,p⟩;have j:=j.bw p;have o:=btr o p;have q:=btr q p;refine Zv (gW g) (X1w O) ?_;refine Ze (Xh O g O)<|Zm O ?_
  refine Zg 15 O (fun e=>?_) (fun e=>?_)
  ·(iterate 9 refine Zp (gP e) ?_);refine Ze (Xa O e O) ?_;refine Zn fun a f=>?_;exact ⟨f.sub ⟨O,X1 O (by first|rfl|(simp only [g,e,bs];done)|simp [g,e]),trivial⟩,q⟩
  refine Zv (gW e) (Vd O X1q 2) ?_;refine Zv (gW e) (X0 O X3i (j.at 2)) ?_;refine Zv (gW e) (X11 O X21) ?_;refine Zv (gW e) (Vd O X4a 0) ?_;refine Zv (gW e) (X0 O X2 (j.at 0)) ?_;refine Zv (gW e) (Vd O X34 1) ?_;refine Zv (gW e) (X0 O X2 (j.at 1)) ?_;refine Zv (gW e) (X5s O O) ?_;refine Zv (gW e) (X3t O O) ?_;refine Ze (Xh O e O) ?_;refine Zn fun a f=>?_;exact ⟨f.sub ⟨O,X1 O (by first|rfl|(simp only [g,e,bs];done)|simp [g,e]),trivial⟩,q⟩
 rintro a w4 ⟨f,p⟩;have j:=j.bw p;have o:=btr o p;refine aT _ _ ?_
 refine Xz f O (fun z=>?_) (fun z=>?_)
 ·have aB:=z
  have aC:mOk m=false:=by revert z;unfold mOk;rw [<- X8x,<- X8x];cases dimS m.rows<;>cases dimS m.cols<;>simp<;>exact fun h8 h9=>absurd h9 h8
  refine Zs f fun _ aU=>?_;refine Za O<|Zt aU fun a f=>?_;refine Q6<|X7<|X4 f (Xo f O O) ?_;exact ⟨by rw [aC],o⟩
 have aB:=z
 have aD:(isDimB m.rows&&isDimB m.cols&&(m.cells.length:Int)==wr (m.rows*m.cols))=true:=by revert z;rw [<- X8x,<- X8x];cases dimS m.rows<;>cases dimS m.cols<;>simp
 refine Q7<|aS _ _<|Q5 fun _ aE=>?_;refine Zs f fun _ aF=>?_;refine Ze (Vd O X1q 2)<|Ze (X0 O X3i (j.at 2))<|Ze (X11 O X21)<|Zm O<|Zt aF fun a f=>?_;refine Q8<|X00 (σ:=Nat) (fun (k:Nat) (a:Act) (w:World)=>Fr a 37 [(27,.slice Am m.cells.length cm),(28,vi (m.cells.length:Int)),(29,vi (k:Int))]/\(k<=m.cells.length)/\((m.cells.take k).all (fun x=>dOk x)=true)/\Below A.heap.size A w) (fun (k:Nat)=>m.cells.length+1-k) 0 ?_ ?_
 ·exact ⟨f.sb,(Qf _),O5,o⟩
 rintro k a w5 ⟨f,hk,B,o⟩;refine Zs f fun _ aG=>?_;refine Ze (X1a O O)<|ZX aG fun a f _ aH=>?_
 refine X0z f O (fun a6 aI=>?_) (fun a6 aI=>?_)
 ·obtain ⟨i,h⟩:=X8 (l:=m.cells) (k:=k) Z
  refine Q7<|aH _ _<|Q5 fun _ aJ=>?_;refine Q8<|Zs f fun _ aK=>?_;refine Zi (k:=k) (u:=i) (enc:=encD) (l:=m.cells) tv0 O O X21 X0i X1x (aA.bx o) h O ?_;intro b0 a7;refine Ze (X09 (l:=[vi i.num.a,vi i.num.b,vi i.num.c,vi i.num.d,vi i.exp]) O X04 a7 O) ?_;refine ZB [vi i.num.a,vi i.num.b,vi i.num.c,vi i.num.d,vi i.exp] X3d X0i fun b1 w7 aL p aM=>?_;have aV:=Q0 o.size aL;have o:=btr o p;refine Zx aK fun a f _ aN=>?_;refine Ze (Vn X04 aM)<|Zf (Vc (Xyi _ i) Xpp) ?_;rintro _ w8 ⟨rfl,p⟩;have o:=btr o p;refine Ze (X1w O)<|Zt aN fun a f=>?_
  refine Xz f O (fun t=>?_) (fun t=>?_)
  ·have a8:(m.cells.any fun x=>!dOk x)=true:=X7e h t
   refine Zs f fun _ aO=>?_;refine Za O<|Zt aO fun a f=>?_;refine Q6<|X05<|X7<|X7 ?_;refine X05<|X7<|X4 f (Xo f O O) ?_;exact ⟨by rw [mOk,aD,a8];rfl,o⟩
  have aW:=t
  have aX:dOk i=true:=by revert t;cases dOk i<;>simp
  refine Q7<|X6<|aJ _ _<|Zr f ?_;refine Ze (Xr O O Z Z)<|Zm O ?_;refine Zn fun a f=>?_;refine Xc ?_;exact ⟨k+1,⟨f.sb,Z,(X5a B h aX),o⟩,Z⟩
 refine Q9<|Xg<|Xg<|X01 ?_;refine aE _ _<|Zs f fun _ aP=>?_;refine Za O<|Zt aP fun a f=>?_
 refine Q6 (X4 f (Xo f O O) ?_)
 have a8:(m.cells.any fun x=>!dOk x)=false:=X6c (by simpa using X4m B Z)
 exact ⟨by rw [mOk,aD,a8];rfl,o⟩
theorem Xs5(w0:World)(x:Int)(y:Int) : Ret Tryz.prog 151 [vi x,vi y] w0 (fun v w=>v=vi (min x y)/\Below w0.heap.size w0 w):=by
 refine enter Tryz.func151 O 10 O O ?_;intro a b
 have hW:=bz w0
 refine Zs b fun _ a7=>?_;refine Za O<|ZX a7 fun a b _ a8=>?_;refine Zs b fun _ aA=>?_;refine Zm O<|Zm O<|Ze (X1a O O)<|Zt aA fun a b=>?_
 refine X0z b O (fun a6 aB=>?_) (fun a6 aB=>?_)
 ·refine Zs b fun _ aC=>?_;refine Zm O<|Za O<|Zt aC fun a b=>?_;refine Q6<|X7<|X4 b (Xo b O O) ?_;exact ⟨by rw [Int.min_eq_left Z],hW⟩
 refine Q7<|a8 _ _<|Zs b fun _ aD=>?_;refine Zm O<|Za O<|Zt aD fun a b=>?_
 refine Q6 (X4 b (Xo b O O) ?_)
 exact ⟨by rw [Int.min_eq_right Z],hW⟩
theorem Xya(d:World){a6 a7:TypeId}(Ap:Option Addr)(cp:Nat)(p:List Int)(aB:Rd d d.heap.size a6 encU Ap p)(Aq:Option Addr)(cq:Nat)(q:List Int)(aC:Rd d d.heap.size a7 encU Aq q) : Ret Tryz.prog 4 [.slice Ap p.length cp,.slice Aq q.length cq] d (fun v w=>v=.bool (decide (1048576<(p.length:Int))||decide (wr (1048576-(p.length:Int))<(q.length:Int)))/\Below d.heap.size d w):=by
 refine enter Tryz.func4 O 16 O O ?_;intro a c
 have hW:=bz d
 refine Zs c fun _ a8=>?_;refine Za O<|ZX a8 fun a c _ aA=>?_;refine X0p (fun a w=>Fr a 16 [(4,.bool ((decide (1048576<(p.length:Int)))||(decide ((wr (1048576-(p.length:Int)))<(q.length:Int)))))]/\d=w) ?_ ?_
 ·refine Zr c<|Zm O<|Ze (X11 O X5l)<|Ze (X4e O O)<|Zm O ?_
  refine Zg 8 O (fun b=>?_) (fun b=>?_)
  ·(iterate 6 refine Zp (gP b) ?_);refine Ze (Xa O b O)<|Za O ?_;refine Zn fun a c=>?_;exact ⟨c.sub ⟨X1 O (by first|rfl|(simp only [b,bs];done)|simp [b]),trivial⟩,O⟩
  refine Zv (gW b) (X3 O) ?_;refine Zv (gW b) (X11 O X5l) ?_;refine Zv (gW b) (X3 O) ?_;refine Zv (gW b) (X11 O X5l) ?_;refine Zv (gW b) (X5u O O) ?_;refine Zv (gW b) (X4e O O) ?_;refine Ze (Xh O b O)<|Za O ?_;refine Zn fun a c=>?_;exact ⟨c.sub ⟨X1 O (by first|rfl|(simp only [b,bs];done)|simp [b]),trivial⟩,O⟩
 rintro a _ ⟨c,rfl⟩;refine aA _ _ ?_
 refine Q6 (X4 c (Xo c O O) ?_)
 exact ⟨O,hW⟩
structure Nd where
 k:Int
 p:Int deriving DecidableEq
structure Wr where
 a:Int
 b:Int
 h:Bool deriving DecidableEq
structure Dg where
 n:Int
 ns:List Nd
 ws:List Wr
 t:Int
 r:Int deriving DecidableEq
def nZ:Nd:=⟨0,0⟩
def wZ:Wr:=⟨0,0,false⟩
def encNd(x:Nd) : List Value:=[.int .i64 x.k,.int .i64 x.p]
def encWr(x:Wr) : List Value:=[.int .i64 x.a,.int .i64 x.b,.bool x.h]
theorem X02:∀ x,(encNd x).length=2:=fun _=>rfl
theorem X2x:∀ x,(encNd x).all one=true:=fun _=>rfl
theorem X06:∀ x,(encWr x).length=3:=fun _=>rfl
theorem X2n:∀ x,(encWr x).all one=true:=fun _=>rfl
def wlt(x y:Wr) : Bool:=decide (x.a<y.a)||(x.a==y.a&&decide (x.b<y.b))
abbrev WSd(l:List Wr) : Prop:=l.Pairwise fun x y=>wlt x y=true
theorem X9c{x y:Wr} : wlt x y=true↔x.a<y.a∨(x.a=y.a/\x.b<y.b):=by unfold wlt;simp
theorem Xd4{x y:Wr} : wlt x y=false↔y.a<x.a∨(x.a=y.a/\y.b<=x.b):=by grind [wlt]
theorem Xg6{x y z:Wr}(h1:wlt x y=true)(h2:wlt y z=true) : wlt x z=true:=by rw [X9c] at *;omega
def isW(a b:Int)(w:Wr) : Bool:=w.a==min a b&&w.b==max a b
theorem X7r{a b:Int}{w:Wr} : isW a b w=true↔w.a=min a b/\w.b=max a b:=by simp [isW]
def fdW(l:List Wr)(a b:Int) : Int:=idxF l (isW a b)
theorem Xa0{α:Type}(l:List α)(q:α->Bool) : (idxF l q = -1/\∀ x ∈ l,q x=false)∨∃ k:Nat,∃ x,idxF l q=(k:Int)/\l[k]? = some x/\q x=true:=by
 unfold idxF
 cases h:l.findIdx? q with
 | none=>exact .inl ⟨rfl,fun x hx=>by have:=List.findIdx?_eq_none_iff.1 h x hx;simpa using this⟩
 | some k=>
  obtain ⟨h1,h2,_⟩:=List.findIdx?_eq_some_iff_getElem.1 h;exact .inr ⟨k,l[k],O,Qc h1,h2⟩
theorem X7k(l:List Wr)(a b:Int) : (fdW l a b = -1/\∀ w ∈ l,isW a b w=false)∨∃ k:Nat,∃ w,fdW l a b=(k:Int)/\l[k]? = some w/\isW a b w=true:=Xa0 l (isW a b)
theorem Y1c{l:List Wr}{a b:Int}(h:∀ w ∈ l,isW a b w=false) : fdW l a b = -1:=by
 rcases X7k l a b with h1|⟨k,w,_,h2,h3⟩
 ·exact h1.1
 ·rw [h w (Qe h2)] at h3;cases h3
theorem Xkx{l:List Wr}{a b:Int}(h:fdW l a b<0) : ∀ w ∈ l,isW a b w=false:=by
 rcases X7k l a b with h1|⟨k,w,h1,_⟩
 ·exact h1.2
 ·omega
def insW:List Wr->Wr->List Wr
 | [],x=>[x]
 | y::l,x=>if wlt y x=true then y::insW l x else x::y::l
def jnW(l:List Wr)(a b:Int)(h:Bool) : List Wr:=insW l ⟨min a b,max a b,h⟩
def ctW(l:List Wr)(i:Nat) : List Wr:=l.take i++l.drop (i+1)
theorem Xhk:∀ (l:List Wr) (x:Wr),(insW l x).length=l.length+1
 | [],x=>rfl
 | y::l,x=>by
  unfold insW
  split
  ·rw [Qs,Xhk l x];rfl
  ·rfl
theorem Xcj{z:Wr} : ∀ {l:List Wr} {x:Wr},z ∈ insW l x↔z=x∨z ∈ l
 | [],x=>by simp [insW]
 | y::l,x=>by
  unfold insW
  split
  ·rw [Qv,Xcj (l:=l),Qv]
   constructor
   ·rintro (h|h|h)
    ·exact .inr (.inl h)
    ·exact .inl h
    ·exact .inr (.inr h)
   ·rintro (h|h|h)
    ·exact .inr (.inl h)
    ·exact .inl h
    ·exact .inr (.inr h)
  ·rw [Qv,Qv]
theorem Xlp:∀ (l:List Wr) (x:Wr) (k:Nat),((l.take k).all fun y=>wlt y x)=true->(∀ y,l[k]? = some y->wlt y x=false)->insW l x=l.take k++[x]++l.drop k
 | [],x,k,_,_=>by simp [insW]
 | y::l,x,0,_,h=>by
  have h:=h y O
  unfold insW
  rw [Q3 (by rw [h];decide)]
  rfl
 | y::l,x,k+1,ha,h=>by
  simp only [List.take_succ_cons,List.all_cons,Qd] at ha
  have ih:=Xlp l x k ha.2 (fun z hz=>h z (by simpa using hz))
  unfold insW
  rw [Q4 ha.1,ih]
  simp
theorem Xfi:∀ {l:List Wr} {x:Wr},WSd l->(∀ y ∈ l,¬ (y.a=x.a/\y.b=x.b))->WSd (insW l x)
 | [],x,_,_=>by simp [insW]
 | y::l,x,hl,hx=>by
  have hl':=W8.1 hl
  unfold insW
  split
  ·rename_i hy
   refine W8.2 ⟨fun z hz=>?_,Xfi hl'.2 fun z hz=>hx z (by simp [hz])⟩
   rcases Xcj.1 hz with rfl|hz
   ·exact hy
   ·exact hl'.1 z hz
  ·rename_i hy
   have hxy:wlt x y=true:=by
    rw [Bool.not_eq_true] at hy
    have h1:=Xd4.1 hy
    have h2:=hx y O5
    rw [X9c]
    omega
   refine W8.2 ⟨fun z hz=>?_,hl⟩
   rcases Qv.1 hz with rfl|hz
   ·exact hxy
   ·exact Xg6 hxy (hl'.1 z hz)
theorem Xlu{l:List Wr}{a b:Int}{h:Bool}(hl:WSd l)(hf:fdW l a b<0) : WSd (jnW l a b h):=
 Xfi hl fun y hy h9=>by
  have:=Xkx hf y hy
  rw [X7r.2 h9] at this
  cases this
theorem Xa1{z:Wr}{l:List Wr}{a b:Int}{h:Bool} : z ∈ jnW l a b h↔z=⟨min a b,max a b,h⟩∨z ∈ l:=Xcj
theorem X89(l:List Wr)(i:Nat) : (ctW l i).Sublist l:=by
 unfold ctW
 rw [<- List.eraseIdx_eq_take_drop_succ]
 exact List.eraseIdx_sublist l i
theorem Y14{l:List Wr}(hl:WSd l)(i:Nat) : WSd (ctW l i):=hl.sublist (X89 l i)
theorem Xus{l:List Wr}{i:Nat}(h:i<l.length) : (ctW l i).length+1=l.length:=by grind [ctW]
def spI(ns:List Nd)(k:Int) : Bool:=inR k 0 ((ns.length:Int)-1)&&(ns.getD k.toNat nZ).k==3
def adN(ns:List Nd)(k by_:Int) : List Nd:=ns.set k.toNat ⟨(ns.getD k.toNat nZ).k,((ns.getD k.toNat nZ).p+by_) % 8⟩
theorem X9h(ns:List Nd)(k m:Int) : (adN ns k m).length=ns.length:=List.length_set
structure InW (ws:List Wr) : Prop where
 s:WSd ws
 l:∀ w ∈ ws,w.a<w.b
theorem X8u{α:Type}{l:List α}{q:α->Bool}{k:Nat}{u:α}(h:((l.take k).all fun x=>!q x)=true)(hu:l[k]? = some u)(hq:q u=false) : ((l.take (k+1)).all fun x=>!q x)=true:=by
 rw [Qt,hu,Option.toList_some,List.all_append,h]
 simp [hq]
theorem Xci{α:Type}{l:List α}{q:α->Bool}{k:Nat}(h:((l.take k).all fun x=>!q x)=true)(hk:l.length<=k) : idxF l q = -1:=by
 rw [Qi hk] at h
 rcases Xa0 l q with h1|⟨j,x,_,h2,h3⟩
 ·exact h1.1
 ·have:=W1.1 h x (Qe h2)
  rw [h3] at this
  cases this
theorem Xt7{l:List Wr}{a b:Int}(h:0<=fdW l a b) : ∃ w,l[(fdW l a b).toNat]? = some w/\isW a b w=true/\(fdW l a b).toNat<l.length:=by
 rcases X7k l a b with ⟨h1,_⟩|⟨k,w,h1,h2,h3⟩
 ·omega
 ·rw [h1]
  exact ⟨w,h2,h3,(Qg.1 h2).1⟩
theorem Xgt(l:List Wr)(a b:Int) : fdW l a b<l.length:=by
 rcases X7k l a b with ⟨h1,_⟩|⟨k,w,h1,h2,_⟩
 ·omega
 ·have:=(Qg.1 h2).1;omega
theorem X75(l:List Wr)(a b:Int)(h:Bool) : (jnW l a b h).length=l.length+1:=Xhk _ _
theorem Xf{α:Type}{l:List α}{k:Nat}{d:α}(h:k<l.length) : l[k]? = some (l.getD k d):=by grind
theorem Xr0{α:Type}{l:List α}{k:Nat}{d:α}(h:decide ((k:Int)<(l.length:Int))=true) : l[k]? = some (l.getD k d):=Xf (by simpa using h)
theorem Xrb{l:List Wr}{x:Wr}{k:Nat}(ha:((l.take k).all fun y=>wlt y x)=true)(h:(decide ((k:Int)<(l.length:Int))&&wlt (l.getD k wZ) x)=false) : insW l x=l.take k++[x]++l.drop k:=by
 refine Xlp l x k ha fun y hy=>?_;have h1:=(Qg.1 hy).1
 have e:l.getD k wZ=y:=by rw [Qa,hy];rfl
 rw [e,decide_eq_true Z,Qw] at h
 exact h
theorem Xoj{l:List Wr}{x:Wr}{k:Nat}(ha:((l.take k).all fun y=>wlt y x)=true)(h:(decide ((k:Int)<(l.length:Int))&&wlt (l.getD k wZ) x)=true) : ((l.take (k+1)).all fun y=>wlt y x)=true/\k+1<=l.length:=by
 rw [Qd,Qr] at h
 have hk:k<l.length:=by omega
 refine ⟨?_,by omega⟩
 rw [Qt,Xf (d:=wZ) hk,Option.toList_some,List.all_append,ha,List.all_cons,h.2]
 rfl
def tgD(d:Dg)(a b:Int) : Dg:=
 if 0<=fdW d.ws a b then { d with ws:=ctW d.ws (fdW d.ws a b).toNat,r:=wr (d.r-1) } else { d with ws:=jnW d.ws a b true,r:=wr (d.r+1) }
theorem X8a{α:Type}{l:List α}{q:α->Bool}{j:Nat}{u:α}(hu:l[j]? = some u) : (l.take (j+1)).filter q=(l.take j).filter q++(if q u=true then [u] else []):=by
 rw [Qt,hu,Option.toList_some,List.filter_append]
 cases h:q u<;>simp [h]
theorem Xn5{q:Nat->Bool}{n k:Nat}(hk:k<n)(hq:q k=false) : (List.range n).all q=false:=by grind
theorem X99{q:Nat->Bool}{n:Nat}(h:∀ j,j<n->q j=true) : (List.range n).all q=true:=W1.2 fun j hj=>h j (W2.1 hj)
def PhN(ns:List Nd) : Prop:=∀ x ∈ ns,0<=x.p/\x.p<=7
theorem Xee{ns:List Nd}(h:PhN ns)(k:Nat) : 0<=(ns.getD k nZ).p/\(ns.getD k nZ).p<=7:=by grind [PhN,nZ]
theorem Xxc{ns:List Nd}(h:PhN ns)(k:Nat){x:Nd}(hx:0<=x.p/\x.p<=7) : PhN (ns.set k x):=by grind [PhN]
theorem Y28{ns:List Nd}(h:PhN ns)(k m:Int) : PhN (adN ns k m):=by grind [PhN,adN]
theorem tm8{x:Int}(h:0<=x) : x.tmod 8=x % 8:=Int.tmod_eq_emod_of_nonneg h
theorem Xi5{ns:List Nd}{k:Int}(h:spI ns k=true) : 0<=k/\k.toNat<ns.length/\(ns.getD k.toNat nZ).k=3:=by
 unfold spI at h
 rw [Qd] at h
 have h1:=X0o.1 h.1;exact ⟨h1.1,by omega,by simpa using h.2⟩
theorem Xsa(w0:World)(x:Wr)(y:Wr) : Ret Tryz.prog 69 [.agg #[vi x.a,vi x.b,.bool x.h],.agg #[vi y.a,vi y.b,.bool y.h]] w0 (fun v w=>v=.bool (wlt x y)/\Below w0.heap.size w0 w):=by
 refine enter Tryz.func69 O 24 O O ?_;intro a f
 have hW:=bz w0
 refine Zs f fun _ a8=>?_;refine Zf (X0u (zs:=[vi x.a,vi x.b,.bool x.h]) O O) ?_;rintro _ w1 ⟨b2,rfl,aA,hE,e⟩;have aD:=Q0 hW.size aA;have hW:=btr hW hE;refine Zf (X0u (zs:=[vi y.a,vi y.b,.bool y.h]) O O) ?_;rintro _ w2 ⟨b3,rfl,aB,hE,a6⟩
 have a7:b2≠b3:=by have:=e.lt;omega
 have aE:=Q0 hW.size aB;have e:=e.bw hE;have hW:=btr hW hE;refine Za O<|ZX a8 fun a f _ aC=>?_;refine X0p (fun a w=>Fr a 24 [(4,.bool ((decide (x.a<y.a))||((x.a==y.a)&&(decide (x.b<y.b)))))]/\w2=w) ?_ ?_
 ·refine Zr f<|Ze (Vd O X1k 0)<|Ze (X0 O X2 (e.at 0))<|Ze (Vd O X1k 0)<|Ze (X0 O X2 (a6.at 0))<|Ze (X1a O O)<|Zm O ?_
  refine Zg 10 O (fun c=>?_) (fun c=>?_)
  ·(iterate 6 refine Zp (gP c) ?_);(iterate 5 refine Zp (gP tv0) ?_);refine Zp (gP c) ?_;refine Ze (Xa O c O)<|Za O ?_;refine Zn fun a f=>?_;exact ⟨f.sub ⟨X1 O (by first|rfl|(simp only [c,bs];done)|simp [c]),trivial⟩,O⟩
  refine Zv (gW c) (Vd O X1k 0) ?_;refine Zv (gW c) (X0 O X2 (e.at 0)) ?_;refine Zv (gW c) (Vd O X1k 0) ?_;refine Zv (gW c) (X0 O X2 (a6.at 0)) ?_;refine Zv (gW c) (X0f O O) ?_;refine Zv (gW c) (X3 O) ?_
  refine Zg 16 O (fun d=>?_) (fun d=>?_)
  ·refine Zv (gW d) (Vd O X1n 1) ?_;refine Zv (gW d) (X0 O X2 (e.at 1)) ?_;refine Zv (gW d) (Vd O X1n 1) ?_;refine Zv (gW d) (X0 O X2 (a6.at 1)) ?_;refine Zv (gW d) (X1a O O) ?_;refine Zv (gW c) (Xa O d O) ?_;refine Ze (Xh O c O)<|Za O ?_;refine Zn fun a f=>?_;exact ⟨f.sub ⟨X1 O (by first|rfl|(simp only [c,d,bs];done)|simp [c,d]),trivial⟩,O⟩
  (iterate 5 refine Zp (gP d) ?_);refine Zv (gW c) (Xh O d O) ?_;refine Ze (Xh O c O)<|Za O ?_;refine Zn fun a f=>?_;exact ⟨f.sub ⟨X1 O (by first|rfl|(simp only [c,d,bs];done)|simp [c,d]),trivial⟩,O⟩
 rintro a _ ⟨f,rfl⟩;refine aC _ _ ?_
 refine Q6 (X4 f (Xo f O O) ?_)
 exact ⟨O,hW⟩
theorem Xjj(A:World)(Al:Option Addr)(cl:Nat)(l:List Wr)(aB:Rd A A.heap.size 72 encWr Al l)(p:Int)(q:Int)(aP:l.length<=1000000000) : Ret Tryz.prog 149 [.slice Al l.length cl,vi p,vi q] A (fun v w=>v=vi (fdW l p q)/\Below A.heap.size A w):=by
 refine enter Tryz.func149 O 32 O O ?_;intro a d
 have f:=bz A
 refine Zs d fun _ aI=>?_;refine Za O<|ZX aI fun a d _ aJ=>?_;refine Zs d fun _ aK=>?_;refine Zm O<|Ze (X11 O Xx)<|Zm O<|Zt aK fun a d=>?_;refine Q8<|X00 (σ:=Nat) (fun (k:Nat) (a:Act) (w:World)=>Fr a 32 [(1,vi p),(2,vi q),(9,.slice Al l.length cl),(10,vi (l.length:Int)),(11,vi (k:Int))]/\(k<=l.length)/\(((l.take k).all fun x=>!isW p q x)=true)/\Below A.heap.size A w) (fun (k:Nat)=>l.length-k) 0 ?_ ?_
 ·exact ⟨d.sb,(Qf _),O5,f⟩
 rintro k a w1 ⟨d,hk,m,f⟩;refine Zs d fun _ aL=>?_;refine Ze (X1a O O)<|ZX aL fun a d _ aM=>?_
 refine X0z d O (fun g a6=>?_) (fun g a6=>?_)
 ·obtain ⟨u8,aQ⟩:=X8 (l:=l) (k:=k) Z
  obtain ⟨o,a7⟩:=X8 (l:=l) (k:=k) (by have:=a6;omega)
  refine Q7<|aM _ _<|Q5 fun _ aN=>?_;refine Q8<|Zs d fun _ aC=>?_;refine Zm O<|Zi (k:=k) (u:=o) (enc:=encWr) (l:=l) tv0 O O Xx X0s X06 (aB.bx f) a7 O ?_;intro aR a8;refine Ze (X09 (l:=[vi o.a,vi o.b,.bool o.h]) O X1y a8 O)<|Zf (X03 (zs:=[vi 0,vi 0,.bool false]) X3n O) ?_;rintro _ w2 ⟨aS,rfl,aD,i,e⟩;have aA:=Q0 f.size aD;have f:=btr f i;refine Za O<|Zo (Vw [vi o.a,vi o.b,.bool o.h] X0s e) ?_;rintro _ w3 ⟨ho,hb⟩;have f:=Below.oy f ho aA;have e:=hb;refine ZX aC fun a d _ aE=>?_;refine X0p (fun a w=>Fr a 32 [(1,vi p),(2,vi q),(7,vi (k:Int)),(9,.slice Al l.length cl),(10,vi (l.length:Int)),(11,vi (k:Int)),(29,.bool ((o.a==(min p q))&&(o.b==(max p q))))]/\Below w3.heap.size w3 w) ?_ ?_
  ·have j:Below w3.heap.size w3 w3:=Below.refl _ _
   refine Xl none (fun _=>false) mixed ?_;intro w4 i;have e:=e.bw i;have f:=btr f i;have j:=btr j i;refine Yb d<|Yo 0 O (fun _=>Vd O X1k 0)<|Ye 1 O (X0 O X2 (e.at 0))<|Yo 2 O (fun _=>X3 O)<|Yo 3 O (fun _=>X3 O)<|Y1 4 ?_;refine Yk O tv0 (Vc (Xs5 _ p q) Xgx) (fun _ _ ⟨_,i⟩=>i) ?_;rintro _ w5 ⟨rfl,i⟩;have e:=e.bw i;have f:=btr f i;have j:=btr j i;refine Yo 5 O (fun _=>X0f O O)<|Yo 6 O (fun _=>X3 O) ?_
   refine Yl 22 O (fun c=>?_) (fun c=>?_)
   ·refine Yu 7 O (gW c) (fun _=>Vd O X1n 1) ?_;refine Yv 8 O (gW c) (X0 O X2 (e.at 1)) ?_;refine Yu 9 O (gW c) (fun _=>X3 O) ?_;refine Yu 10 O (gW c) (fun _=>X3 O) ?_;refine Y1 11<|Yz O ⟨_,_,O,O,c⟩ (Vc (Xy7 _ p q) Xky) ?_;refine Yu 12 O (gW c) (fun _=>X0f O O) ?_;refine Yo 13 O (fun _=>Xa O c O) ?_;refine Yd fun a d=>?_;exact ⟨d.sub ⟨O,O,O,O,O,O,X1 O (by first|rfl|(simp only [g,c,bs];done)|simp [g,c]),trivial⟩,j⟩
   refine Yp 7 O (gP c) ?_;refine Yp 8 O (gP c) ?_;refine Yp 9 O (gP c) ?_;refine Yp 10 O (gP c) ?_;refine Y1 11<|Yq O ⟨_,_,O,O,c⟩ ?_;refine Yp 12 O (gP c) ?_;refine Yo 13 O (fun _=>Xh O c O) ?_;refine Yd fun a d=>?_;exact ⟨d.sub ⟨O,O,O,O,O,O,X1 O (by first|rfl|(simp only [g,c,bs];done)|simp [g,c]),trivial⟩,j⟩
  rintro a w6 ⟨d,i⟩;have f:=btr f i;refine aE _ _ ?_
  refine Xz d O (fun t=>?_) (fun t=>?_)
  ·have aF:isW p q o=true:=t
   have z:fdW l p q=(k:Int):=Xch m a7 aF
   refine Zs d fun _ aG=>?_;refine Zm O<|Za O<|Zt aG fun a d=>?_;refine Q6<|X05<|X7<|X7 ?_;refine X05<|X7<|X4 d (Xo d O O) ?_;exact ⟨by rw [z],f⟩
  have aO:isW p q o=false:=t
  refine Q7<|X6<|aN _ _<|Zr d ?_;refine Ze (Xr O O Z Z)<|Zm O ?_;refine Zn fun a d=>?_;refine Xc ?_;exact ⟨k+1,⟨d.sb,Z,(X8u m a7 aO),f⟩,Z⟩
 have z:fdW l p q = -1:=Xci m (by have:=a6;omega)
 refine Q9<|Xg<|Xg<|X01 ?_;refine aJ _ _<|Zs d fun _ aH=>?_;refine Za O<|Zt aH fun a d=>?_
 refine Q6 (X4 d (Xo d O O) ?_)
 exact ⟨by rw [z],f⟩
theorem Xda(t:World)(Al:Option Addr)(cl:Nat)(l:List Wr)(C:Rd t t.heap.size 72 encWr Al l)(p:Int)(q:Int)(x:Bool)(aX:l.length<=1000000000)(a8:l.length<=cl) : Ret Tryz.prog 109 [.slice Al l.length cl,vi p,vi q,.bool x] t (fun v w=>∃ A c,v=.slice A (jnW l p q x).length c/\Own w t.heap.size 72 3 encWr A c (jnW l p q x)/\Below t.heap.size t w):=by
 refine enter Tryz.func109 O 48 O O ?_;intro a i
 have f:=bz t
 refine Zs i fun _ aL=>?_;refine Za O<|Zx aL fun a i _ aM=>?_;refine Zm O<|Zm O<|Zf (Vc (Xs5 _ p q) Xgx) ?_;rintro _ w1 ⟨rfl,j⟩;have f:=btr f j;refine Zm O<|Zm O<|Zf (Vc (Xy7 _ p q) Xky) ?_;rintro _ _ ⟨rfl,rfl⟩;refine Zm O<|Ze (Xt (ps:=[(0,vi (min p q)),(1,vi (max p q)),(2,.bool x)]) (cs:=[vi (min p q),vi (max p q),.bool x]) O (fun _=>by first|rfl|kernel_rfl)) ?_;refine ZB [vi (min p q),vi (max p q),.bool x] X3n X0s fun b5 w3 aN j e=>?_;have aW:=Q0 f.size aN;have f:=btr f j;refine Zx aM fun a i _ aO=>?_;refine Za O<|ZX aO fun a i _ aP=>?_;refine Q8<|X00 (σ:=Nat) (fun (k:Nat) (a:Act) (w:World)=>Fr a 48 [(0,.slice Al l.length cl),(9,(pZ9 b5)),(10,vi (k:Int))]/\(k<=l.length)/\(((l.take k).all fun y=>wlt y ⟨min p q,max p q,x⟩)=true)/\Blk w b5 72 [vi (min p q),vi (max p q),.bool x]/\Below t.heap.size t w) (fun (k:Nat)=>l.length-k) 0 ?_ ?_
 ·exact ⟨i.sb,(Qf _),O,e,f⟩
 rintro k a w4 ⟨i,hk,J,e,f⟩;refine Q5 fun _ aQ=>?_;refine Q5 fun _ aR=>?_;refine X0p (fun a w=>Fr a 48 [(0,.slice Al l.length cl),(9,(pZ9 b5)),(10,vi (k:Int)),(31,.bool (decide ((k:Int)<(l.length:Int))&&wlt (l.getD k wZ) ⟨min p q,max p q,x⟩))]/\Below w4.heap.size w4 w) ?_ ?_
 ·have z:Below w4.heap.size w4 w4:=Below.refl _ _
  refine Xl none (fun _=>false) mixed ?_;intro w5 j;have e:=e.bw j;have f:=btr f j;have z:=btr z j;refine Yb i<|Yo 0 O (fun _=>X3 O)<|Yo 1 O (fun _=>X3 O)<|Yo 2 O (fun _=>X11 O Xx)<|Yo 3 O (fun _=>X1a O O)<|Yo 4 O (fun _=>X3 O) ?_
  refine Yl 24 O (fun d=>?_) (fun d=>?_)
  ·refine Yu 5 O (gW d) (fun _=>X3 O) ?_;refine Yu 6 O (gW d) (fun _=>X3 O) ?_;refine Yi (k:=k) (u:=(l.getD k wZ)) (enc:=encWr) (l:=l) 7 O ⟨_,_,O,O,d⟩ O O Xx X0s X06 (C.bx f) (Xr0 (by assumption)) O ?_;intro aY a6;refine Yv 8 O (gW d) (X09 (l:=[vi ((l.getD k wZ).a),vi ((l.getD k wZ).b),.bool ((l.getD k wZ).h)]) O X1y a6 O) ?_;refine Yv 9 O (gW d) (Vn X1y e) ?_;refine Y1 10<|Yk O ⟨_,_,O,O,d⟩ (Vc (Xsa _ (l.getD k wZ) (⟨min p q,max p q,x⟩ : Wr)) Xh3) (fun _ _ ⟨_,j⟩=>j) ?_;rintro _ w6 ⟨rfl,j⟩;have f:=btr f j;have z:=btr z j;refine Yo 11 O (fun _=>Xa O d O) ?_;refine Yd fun a i=>?_;exact ⟨i.sub ⟨O,O,O,X1 O (by first|rfl|(simp only [d,bs];done)|simp [d]),trivial⟩,z⟩
  refine Yp 5 O (gP d) ?_;refine Yp 6 O (gP d) ?_;refine Yp 7 O (gP d) ?_;refine Yp 8 O (gP d) ?_;refine Yp 9 O (gP d) ?_;refine Y1 10<|Yq O ⟨_,_,O,O,d⟩ ?_;refine Yo 11 O (fun _=>Xh O d O) ?_;refine Yd fun a i=>?_;exact ⟨i.sub ⟨O,O,O,X1 O (by first|rfl|(simp only [d,bs];done)|simp [d]),trivial⟩,z⟩
 rintro a w7 ⟨i,j⟩;have e:=e.bw j;have f:=btr f j;refine aR _ _ ?_
 refine Xz i O (fun D=>?_) (fun D=>?_)
 ·obtain ⟨aS,aZ⟩:=Xoj J D;refine Q7<|aQ _ _<|Q8<|Zr i ?_;refine Zm O<|Ze (Xr O O Z Z)<|Za O ?_;refine Zn fun a i=>?_;refine X6<|Xc ?_;exact ⟨k+1,⟨i.sb,Z,aS,e,f⟩,Z⟩
 have aA:jnW l p q x=_:=Xrb J D
 refine Q9<|Xg<|Xg<|X01 ?_;refine aP _ _<|Zs i fun _ aB=>?_;refine Zf (X9 (k:=0) (vs:=[]) (zs:=[]) O Xx X1v O O) ?_;rintro _ w8 ⟨b15,rfl,aC,j,L⟩
 have aD:b5≠b15:=by have:=e.lt;omega
 have E:=Q0 f.size aC;have e:=e.bw j;have f:=btr f j;refine Zm O<|Zm O ?_;have aE:=((C.bx f).top).takeK X06 k;refine Ze (Xev (l:=l) (k:=k) O O Xx X0s O hk a8)<|Zf (X15 (enc:=encWr) (l:=([] : List Wr)) (l2:=((l.take k))) (B0:=t.heap.size) O O Xx X1v X06 X2n (Own.empty L E) aE (by simp only [maxLen];simp;omega) O6 f.size) ?_;rintro _ w9 ⟨b0,b1,rfl,m,I,o⟩
 have g:Own _ t.heap.size 72 3 encWr _ _ ([] : List Wr):=(Own.empty L E)
 have G:=o _ e.lt (Away.ne Z)
 clear o;have e:=e.appA I (Away.ne Z);have f:=Below.app f g I (Qb _) f.size;clear g I
 simp only [List.nil_append] at m
 refine Za O<|Zx aB fun a i _ aF=>?_;refine Zm O<|Ze (Vn X1y e)<|Zf (X9 (k:=1) (vs:=[.agg #[vi (min p q),vi (max p q),.bool x]]) (zs:=[vi (min p q),vi (max p q),.bool x]) O Xx X1v O O) ?_;rintro _ b2 ⟨b20,rfl,M,j,H⟩
 have aG:b5≠b20:=by have:=e.lt;omega
 have aT:=Q0 f.size M;have B:=m.away M;have e:=e.bw j;have m:=m.bw j;have f:=btr f j;refine Zf (X15 (enc:=encWr) (l:=((l.take k))) (l2:=([(⟨min p q,max p q,x⟩ : Wr)])) (B0:=t.heap.size) O O Xx X1v X06 X2n m (Rd.of_blk H O _ H.lt) (by simp only [maxLen];simp;omega) O6 f.size) ?_;rintro _ b3 ⟨b4,b6,rfl,N,I,o⟩
 have g:Own _ t.heap.size 72 3 encWr _ _ ((l.take k)):=m
 have aH:=o _ e.lt G;have a7:=o _ H.lt B;clear o;have f:=Below.app f g I (Qb _) f.size;clear g I;refine Za O<|Zx aF fun a i _ aI=>?_;refine Zm O<|Zm O<|Zm O ?_;have aJ:=((C.bx f).top).dropK X06 (c:=cl) a8 k;refine Ze (Xbh (l:=l) (k:=k) O O Xx X0s O hk)<|Zf (X15 (enc:=encWr) (l:=((l.take k)++([(⟨min p q,max p q,x⟩ : Wr)]))) (l2:=((l.drop k))) (B0:=t.heap.size) O O Xx X1v X06 X2n N aJ (by simp only [maxLen];simp;omega) O6 f.size) ?_;rintro _ b7 ⟨aU,aV,rfl,aK,I,o⟩
 have g:Own _ t.heap.size 72 3 encWr _ _ ((l.take k)++([(⟨min p q,max p q,x⟩ : Wr)])):=N
 clear o;have f:=Below.app f g I (Qb _) f.size;clear g I;refine Za O<|Zt aI fun a i=>?_
 refine Q6 (X4 i (Xo i O O) ?_)
 rw [aA]
 exact ⟨aU,aV,O,aK,f⟩
theorem Xsc(e:World)(Al:Option Addr)(cl:Nat)(l:List Wr)(f:Rd e e.heap.size 72 encWr Al l)(p:Int)(aK:l.length<=1000000000)(a8:l.length<=cl)(aL:0<=p/\p<(l.length:Int)) : Ret Tryz.prog 150 [.slice Al l.length cl,vi p] e (fun v w=>∃ A c,v=.slice A (ctW l p.toNat).length c/\Own w e.heap.size 72 3 encWr A c (ctW l p.toNat)/\Below e.heap.size e w):=by
 refine enter Tryz.func150 O 17 O O ?_;intro a hf
 have d:=bz e
 refine Zs hf fun _ aD=>?_;refine Za O<|Zx aD fun a hf _ aE=>?_;refine Zf (X9 (k:=0) (vs:=[]) (zs:=[]) O Xx X1v O O) ?_;rintro _ w1 ⟨b5,rfl,aF,hE,aA⟩;have g:=Q0 d.size aF;have d:=btr d hE;refine Zm O<|Zm O ?_;have aG:=((f.bx d).top).takeK X06 p.toNat;refine Ze (Xev (l:=l) (k:=p.toNat) O O Xx X0s Z Z a8)<|Zf (X15 (enc:=encWr) (l:=([] : List Wr)) (l2:=((l.take p.toNat))) (B0:=e.heap.size) O O Xx X1v X06 X2n (Own.empty aA g) aG (by simp only [maxLen];simp;omega) O6 d.size) ?_;rintro _ w2 ⟨A8,c8,rfl,a6,hg,a7⟩
 have b:Own _ e.heap.size 72 3 encWr _ _ ([] : List Wr):=(Own.empty aA g)
 clear a7;have d:=Below.app d b hg (Qb _) d.size;clear b hg
 simp only [List.nil_append] at a6
 refine Za O<|Zx aE fun a hf _ aH=>?_;refine Zm O<|Zm O<|Zm O<|Ze (Xr O O Z Z) ?_;have aB:=((f.bx d).top).dropK X06 (c:=cl) a8 (p.toNat+1);refine Ze (Xbh (l:=l) (k:=(p.toNat+1)) O O Xx X0s Z Z)<|Zf (X15 (enc:=encWr) (l:=((l.take p.toNat))) (l2:=((l.drop (p.toNat+1)))) (B0:=e.heap.size) O O Xx X1v X06 X2n a6 aB (by simp only [maxLen];simp;omega) O6 d.size) ?_;rintro _ w3 ⟨aI,aJ,rfl,aC,hg,a7⟩
 have b:Own _ e.heap.size 72 3 encWr _ _ ((l.take p.toNat)):=a6
 clear a7;have d:=Below.app d b hg (Qb _) d.size;clear b hg;refine Za O<|Zt aH fun a hf=>?_
 refine Q6 (X4 hf (Xo hf O O) ?_)
 exact ⟨aI,aJ,O,aC,d⟩
end Go.Proofs.YtgobkmhhckhbfaaGreatDoor
