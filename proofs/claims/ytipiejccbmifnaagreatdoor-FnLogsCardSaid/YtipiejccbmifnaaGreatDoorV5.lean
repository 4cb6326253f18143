/-
  Whatever the bytes, logs drawn from them are replayed, cut in two and read back as the law says; so it answers true.
-/
import Derived.Test.YtipiejccbmifnaaGreatDoorV1
import Derived.Test.YtipiejccbmifnaaGreatDoorV4
import Derived.Test.YtipiejccbmifnaaGreatDoorV2
import Derived.Lib.AtoiErrMem
import Derived.Test.YtipiejccbmifnaaGreatDoorV3
import Derived.Test.YtipiejccbmifnaaGreatDoorRows
import Derived.Lib.LaidU8
import Derived.ChangeVars
import Derived.MakeChecks
import Derived.OpenShut
import Derived.Handed
import Derived.HandedShaped
import Derived.Shelf.Vars
import Derived.Test.YtipiejccbmifnaaGreatDoorCards
import Derived.Test.YtipiejccbmifnaaGreatDoorTie
import Derived.Lay
set_option linter.unusedVariables false
set_option linter.unusedSimpArgs false
set_option maxHeartbeats 1000000
set_option maxRecDepth 8000
set_option linter.unusedSectionVars false
namespace Go.Proofs.YtipiejccbmifnaaGreatDoor
open Go.RowKit
section
variable {P : Program} {a : Act} {w : World} {n : Nat} {e : Env} {ty : TypeId} {pos : String} {af : Array Edge} {g : Option (Nat × Bool)} {d : Option Tmp}
theorem Xah{T E:TypeId}{len sz b k:Nat}{x y:Operand}{i:Int}(hf:Fr a n e)(hx:ev e x=some (.pointer (some ⟨b,0,none⟩)))(hy:ev e y=some (.int .i64 i))(hT:P.underlying T=some (.array len E))(hs:SizeT P E sz)(hi:i=(k:Int))(hk:k<len) :
  Ev P ⟨d,.slice T x (some y) none none,ty,pos,af,g⟩ a w (.slice (some ⟨b,k*sz,none⟩) (len-k) (len-k)):=fun w' _=>by
 subst hi
 have h1:=X0c (P:=P) hT w';have h2:=run_sizeOf' hs w'
 have h3:¬ len=k:=by omega
 have h4:k<=len:=by omega
 simp [execOp,Instr.sliceAt,Instr.slice,Instr.sliceBounds,Instr.sureAddr,run_sliceBound,h1,hf.ev hx,hf.ev hy,h3,h4,Addr.add,Result.andThen]
 rw [h2]
 simp
 exact fun h=>h.symm
theorem Xe6{T E:TypeId}{len sz b k:Nat}{x y:Operand}{i:Int}(hx:ev e x=some (.pointer (some ⟨b,0,none⟩)))(hy:ev e y=some (.int .i64 i))(hT:P.underlying T=some (.array len E))(hs:SizeT P E sz)(hi:i=(k:Int))(hk:k<len) : EvW P ⟨d,.slice T x (some y) none none,ty,pos,af,g⟩ n e w (.slice (some ⟨b,k*sz,none⟩) (len-k) (len-k)):=fun _ hf=>Xah hf hx hy hT hs hi hk
theorem X8o{T E:TypeId}{len sz b off k:Nat}{x y:Operand}{i:Int}(hf:Fr a n e)(hx:ev e x=some (.pointer (some ⟨b,off,none⟩)))(hy:ev e y=some (.int .i64 i))(hT:P.underlying T=some (.array len E))(hs:SizeT P E sz)(hi:i=(k:Int))(hk:k<len) :
  Ev P ⟨d,.indexAddr T x y,ty,pos,af,g⟩ a w (.pointer (some ⟨b,off+k*sz,none⟩)):=fun w' _=>by
 subst hi
 have h1:=X0c (P:=P) hT w';have h2:=run_sizeOf' hs w'
 simp [execOp,Instr.indexAt,asIntOf,Instr.sureAddr,hf.ev hx,hf.ev hy,h1,h2,hk,X1a]
theorem Xau{T E:TypeId}{len sz b off k:Nat}{x y:Operand}{i:Int}(hx:ev e x=some (.pointer (some ⟨b,off,none⟩)))(hy:ev e y=some (.int .i64 i))(hT:P.underlying T=some (.array len E))(hs:SizeT P E sz)(hi:i=(k:Int))(hk:k<len) : EvW P ⟨d,.indexAddr T x y,ty,pos,af,g⟩ n e w (.pointer (some ⟨b,off+k*sz,none⟩)):=fun _ hf=>X8o hf hx hy hT hs hi hk
end
theorem Xd0(s:List UInt8) : (tx s).toList=s:=by rw [ByteArray.toList_eq];rfl
section
variable {P : Program} {a : Act} {w : World} {n : Nat} {e : Env} {ty : TypeId} {pos : String} {af : Array Edge} {g : Option (Nat × Bool)} {d : Option Tmp} {t t' : TypeId}
theorem Xio{x y:Operand}{s:List UInt8}(hf:Fr a n e)(hx:ev e x=some (.string (tx s)))(hy:ev e y=some (.string (tx s))) : Ev P ⟨d,.binOp .eql t x y t',ty,pos,af,g⟩ a w (.bool true):=fun w' _=>by
 simp [execOp,hf.ev hx,hf.ev hy,eqGuard,binOp,Op.stringOp]
theorem Xs3{x y:Operand}{s:List UInt8}(hx:ev e x=some (.string (tx s)))(hy:ev e y=some (.string (tx s))) : EvW P ⟨d,.binOp .eql t x y t',ty,pos,af,g⟩ n e w (.bool true):=fun _ hf=>Xio hf hx hy
theorem Xor(s r:List UInt8) : decide ((tx s).toList=(tx r).toList)=decide (s=r):=by rw [Xd0,Xd0]
theorem Xgw{x y:Operand}{s r:List UInt8}(hf:Fr a n e)(hx:ev e x=some (.string (tx s)))(hy:ev e y=some (.string (tx r))) : Ev P ⟨d,.binOp .eql t x y t',ty,pos,af,g⟩ a w (.bool (decide (s=r))):=fun w' _=>by
 rw [<- Xor]
 simp [execOp,hf.ev hx,hf.ev hy,eqGuard,binOp,Op.stringOp]
 exact Bool.eq_iff_iff.2 (by simp)
theorem Xnj{x y:Operand}{s r:List UInt8}(hx:ev e x=some (.string (tx s)))(hy:ev e y=some (.string (tx r))) : EvW P ⟨d,.binOp .eql t x y t',ty,pos,af,g⟩ n e w (.bool (decide (s=r))):=fun _ hf=>Xgw hf hx hy
theorem Xe0{x:Operand}(hf:Fr a n e)(hx:ev e x=some .nilIface)(hT:P.underlying t=some (.interface (P.methodsAt t))) : Ev P ⟨d,.binOp .eql t x (.const .nilIface) t',ty,pos,af,g⟩ a w (.bool true):=fun w' _=>by
 have hc:a.eval (.const .nilIface)=.nilIface:=rfl
 simp [execOp,hf.ev hx,hc,eqGuard,binOp,run_equal_nil_nil w' t hT]
theorem Xhr{x:Operand}(hx:ev e x=some .nilIface)(hT:P.underlying t=some (.interface (P.methodsAt t))) : EvW P ⟨d,.binOp .eql t x (.const .nilIface) t',ty,pos,af,g⟩ n e w (.bool true):=fun _ hf=>Xe0 hf hx hT
end
theorem Xk4:Tryz.prog.underlying (160:TypeId)=some (.interface (Tryz.prog.methodsAt (160:TypeId))):=by kernel_rfl
theorem Xev(w:World)(n:Int)(h:0<=n/\n<=39) : Ret Tryz.prog 46 [.int .i64 n] w (fun v w'=>v=.string (tx (Lib.itoa n))/\w=w'):=by
 obtain ⟨m,rfl⟩ : ∃ m:Nat,n=(m:Int):=⟨n.toNat,by omega⟩
 exact Calls.mono (Tryz.strconv_Itoa_small m (by omega) w) fun _ _ ⟨he,hw⟩=>⟨_,he,by unfold Lib.itoa;rw [Q3 (by omega)];rfl,hw.symm⟩
theorem Xrf(w:World)(n:Int)(h:0<=n/\n<=39) : Ret Tryz.prog 109 [.string (tx (Lib.itoa n))] w (fun v w'=>v=.tuple #[.int .i64 n,.nilIface]/\Below w.heap.size w w'):=
 Calls.mono (Tryz.strconv_Atoi (tx (Lib.itoa n)) n (by rw [X51];have:=(X4h h).2.2.2;omega) (by rw [X48];exact (X4h h).2.2.1) w) fun _ _ ⟨he,t,hw⟩=>⟨_,he,rfl,by subst hw;exact Lib.bytesWorld_below _ _ _⟩
def MaxT(w:World) : Prop:=∃ m:Int,w.cell? ⟨2,0,none⟩=some (.int .i64 m)
theorem MaxT.of{w0 w:World}(h:MaxT w0)(hW:Below w0.heap.size w0 w) : MaxT w:=by
 obtain ⟨m,hm⟩:=h;have hb:=World.block_lt_of_cell? _ _ hm
 refine ⟨m,?_⟩
 rw [<- hm]
 unfold World.cell?
 rw [hW.block _ hb]
theorem Xli(w:World)(s:List UInt8)(c:UInt8)(ps:List (List UInt8))(h0:0<ps.length)(hc:Lib.count s [c]=ps.length-1)(hs:Lib.splitK [c] 0 (ps.length-1) s=ps)(hl:s.length<=100000)(hm:MaxT w) : Ret Tryz.prog 50 [.string (tx s),.string (tx [c])] w (fun v w'=>∃ A d,v=.slice A (ps.map tx).length d/\Rd w' w'.heap.size 9 encTx A (ps.map tx)/\Below w.heap.size w w'):=by
 obtain ⟨m,hm⟩:=hm
 have e1:Lib.countB (tx s) (tx [c])=ps.length-1:=hc
 have e2:Lib.splitB (tx [c]) 0 (ps.length-1) (tx s)=ps.map tx:=by
  have h:=Lib.splitB_data (tx [c]) 0 (ps.length-1) (tx s)
  rw [X48,X48,hs] at h
  have h2:=congrArg (List.map tx) h
  rw [List.map_map] at h2
  have h3:∀ l:List ByteArray,l.map (tx ∘ fun x=>x.data.toList)=l:=fun l=>by
   induction l with
   | nil=>rfl
   | cons x l ih=>rw [List.map_cons,ih];simp [Xg9]
  rw [h3] at h2
  exact h2
 refine Calls.mono (Tryz.strings_Split (tx s) (tx [c]) m w (by rw [X51];omega) hm (by rw [X51];exact Qb _)) fun _ w' ⟨he,hw⟩=>⟨_,he,?_⟩
 rw [e1,e2] at hw
 rw [e1,show ps.length-1+1=(ps.map tx).length by rw [Qo];omega]
 subst hw
 have e3:((ps.map tx).map Value.string)=(ps.map tx).flatMap encTx:=by
  generalize ps.map tx=l
  induction l with
  | nil=>rfl
  | cons x l ih=>rw [List.map_cons,ih];rfl
 rw [e3]
 exact ⟨_,_,rfl,Rd.of_blk (X2c w 9 _) rfl _ (X2c w 9 _).lt,(Below.refl _ _).alloc (Qb _) _⟩
def joT(l:List ByteArray)(s:ByteArray) : ByteArray:=tx (Lib.join (l.map (·.data.toList)) s.data.toList)
theorem Xtd(w:World){B:Nat}{E:TypeId}(A:Option Addr)(c:Nat)(l:List ByteArray)(s:ByteArray)(hr:Rd w B E encTx A l)(hc:l.length<=c)(hl:l.length<=1048576)(hb:(Lib.join (l.map (·.data.toList)) s.data.toList).length<=140737488355328) :
  Ret Tryz.prog 49 [.slice A l.length c,.string s] w (fun v w'=>v=.string (joT l s)/\Below w.heap.size w w'):=by
 by_cases h:l=[]
 ·subst h
  exact Calls.mono (Tryz.strings_Join_none A c s w) fun _ _ ⟨he,hw⟩=>⟨_,he,rfl,by rw [hw];exact Below.refl _ _⟩
 ·obtain ⟨b,off,cs,fz,rfl,h2,h3,h4⟩:=hr h
  have hlt:b<w.heap.size:=(Qp.1 h3).1
  refine Calls.mono (Tryz.strings_Join b off c l s w (fun j x hj=>?_) hlt (by omega) hc hb) fun _ _ ⟨he,hw⟩=>⟨_,he,rfl,hw⟩
  have h5:=h4 j (.string x) (by
   have:=X3b X2a l j x hj 0 (.string x) rfl
   simpa using this)
  simp only [World.cell?,h3]
  simpa using h5
def rwA:List ByteArray:=[tx [],tx (wdB 1),tx (wdB 2),tx (wdB 3),tx (wdB 4),tx (wdB 5)]
def RuleT(w:World) : Prop:=∃ T F,w.heap[0]? = some (.cells (rwA.flatMap encTx).toArray T F)
theorem RuleT.of{w0 w:World}(h:RuleT w0)(hW:Below w0.heap.size w0 w) : RuleT w:=by
 obtain ⟨T,F,h⟩:=h;exact ⟨T,F,(hW.block 0 (Qp.1 h).1).trans h⟩
theorem RuleT.cell{w:World}(h:RuleT w){k:Nat}{s:ByteArray}(hk:rwA[k]? = some s) : w.cell? ⟨0,k,none⟩=some (.string s):=by
 obtain ⟨T,F,h⟩:=h
 have e:(rwA.flatMap encTx)[k]? = rwA[k]?.map Value.string:=by
  have:rwA.flatMap encTx=rwA.map Value.string:=rfl
  rw [this,List.getElem?_map]
 simp [World.cell?,h,e,hk]
theorem RuleT.at{w:World}(h:RuleT w){k:Nat}{s:ByteArray}(hk:rwA[k]? = some s) : At w ⟨0,k,none⟩ [.string s]:=by
 intro j v hj
 match j,hj with
 | 0,hj=>
  injection hj with hj
  subst hj
  exact h.cell hk
theorem Xrg{u:Int}(h:1<=u/\u<=5) : rwA[u.toNat]? = some (tx (wdB u)):=by
 rcases u5 h with rfl|rfl|rfl|rfl|rfl<;>rfl
theorem Xld(w:World)(u:Int)(h:1<=u/\u<=5)(hR:RuleT w) : Ret Tryz.prog 69 [.slice (some ⟨0,1,none⟩) 5 5,.string (tx (wdB u))] w (fun v w'=>v=.int .i64 (u-1)/\w=w'):=by
 refine Calls.mono (Tryz.slices_Index_string 0 1 5 5 (rwT.map tx) (tx (wdB u)) w (by decide) (by decide) fun j hj=>?_) fun _ _ ⟨he,hw⟩=>⟨_,he,?_,hw.symm⟩
 ·have hj:j<5:=hj
  refine hR.cell ?_
  have:j=0∨j=1∨j=2∨j=3∨j=4:=by omega
  rcases this with rfl|rfl|rfl|rfl|rfl<;>rfl
 ·rw [show (rwT.map tx).take 5=rwT.map tx from rfl,Xo6 h]
section
variable {P : Program} {a : Act} {w : World} {n : Nat} {e : Env} {ty : TypeId} {pos : String} {af : Array Edge} {g : Option (Nat × Bool)} {d : Option Tmp} {t t' : TypeId}
theorem Xht{x y:Operand}{s:List UInt8}(hf:Fr a n e)(hx:ev e x=some (.string (tx s)))(hy:ev e y=some (.string (tx s))) : Ev P ⟨d,.binOp .neq t x y t',ty,pos,af,g⟩ a w (.bool false):=fun w' _=>by
 simp [execOp,hf.ev hx,hf.ev hy,eqGuard,binOp,Op.stringOp]
theorem Xr7{x y:Operand}{s:List UInt8}(hx:ev e x=some (.string (tx s)))(hy:ev e y=some (.string (tx s))) : EvW P ⟨d,.binOp .neq t x y t',ty,pos,af,g⟩ n e w (.bool false):=fun _ hf=>Xht hf hx hy
end
def lgO(l:List Rz) : Bool:=decide (l.length<=60)&&l.all okW
def lgT(l:List Rz) : ByteArray:=if lgO l=true then tx (lgB l) else tx []
theorem Xsy{l:List Rz}(h:lgO l=false) : lgT l=tx []/\lgO l=false:=⟨Q3 (by rw [h];decide),h⟩
theorem Xoq{l:List Rz}(h:lgO l=true) : lgT l=tx (lgB l)/\lgO l=true:=⟨Q4 h,h⟩
theorem Xiu{l:List Rz}(h:¬ l.length<=60) : lgO l=false:=by unfold lgO;rw [decide_eq_false h,Bool.false_and]
theorem Xnf{l:List Rz}{k:Nat}{u:Rz}(hu:l[k]? = some u)(h:okW u=false) : lgO l=false:=by unfold lgO;rw [Xb0 hu h,Bool.and_false]
theorem Xmx{l:List Rz}(h:l.length<=60)(ha:l.all okW=true) : lgO l=true:=by unfold lgO;rw [decide_eq_true h,ha];rfl
theorem Xu1(r:Rz) : (((!inR r.u 1 5||!inR r.a 0 39)||!inR r.b 0 39)||(r.b != 0&&!twoU r.u)) = !okW r:=by
 unfold okW bne
 cases inR r.u 1 5<;>cases inR r.a 0 39<;>cases inR r.b 0 39<;>cases (r.b==0)<;>cases twoU r.u<;>rfl
theorem Xs6{r:Rz}(h:twoU r.u=true) : ((wdB r.u++[32])++Lib.itoa r.a)++([32]++Lib.itoa r.b)=rwB r:=(Q4 h).symm
theorem Xq5{r:Rz}(h:twoU r.u=false) : (wdB r.u++[32])++Lib.itoa r.a=rwB r:=(Q3 (by rw [h];decide)).symm
theorem Xek(l:List Rz) : (l.map fun r=>tx (rwB r)).map (·.data.toList)=l.map rwB:=by
 rw [List.map_map]
 exact List.map_congr_left fun r _=>X48 _
theorem Xq2{l:List Rz}(h:l≠[]) : joT (l.map fun r=>tx (rwB r)) (tx [59])=tx (lgB l):=by
 unfold joT lgB
 rw [Q3 h,Xek,X48]
theorem Xnz{l:List Rz}(hl:l.length<=60)(ha:l.all okW=true) : (Lib.join ((l.map fun r=>tx (rwB r)).map (·.data.toList)) (tx [59]).data.toList).length<=140737488355328:=by
 rw [Xek,X48]
 cases l with
 | nil=>exact Qf _
 | cons r l=>
  have h:=(Xaq ha).2
  unfold lgB at h
  rw [Q3 (by simp)] at h
  rw [Qs] at hl
  omega
theorem Xu4(r:Rz) : ((rwW r).map tx)[0]? = some (tx (wdB r.u)):=by unfold rwW;split<;>rfl
theorem Xql(r:Rz) : ((rwW r).map tx)[1]? = some (tx (Lib.itoa r.a)):=by unfold rwW;split<;>rfl
theorem Xtm{r:Rz}(h:twoU r.u=true) : ((rwW r).map tx)[2]? = some (tx (Lib.itoa r.b)):=by unfold rwW;rw [Q4 h];rfl
theorem Xj5(r:Rz) : 2<=(rwW r).length/\((rwW r).map tx).length=(rwW r).length/\(2<((rwW r).map tx).length->twoU r.u=true)/\(¬ 2<((rwW r).map tx).length->twoU r.u=false):=by
 unfold rwW
 cases h:twoU r.u with
 | true=>rw [Q4 rfl];exact ⟨(by decide:2<=3),rfl,fun _=>rfl,fun h=>absurd (by decide:2<3) h⟩
 | false=>rw [Q3 Bool.false_ne_true];exact ⟨Qb 2,rfl,fun h=>absurd h (by decide:¬ 2<2),fun _=>rfl⟩
theorem Xu6{l:List Rz}{k:Nat}{u:Rz}(h:l[k]? = some u) : ((l.map rwB).map tx)[k]? = some (tx (rwB u)):=by
 rw [List.getElem?_map,List.getElem?_map,h]
 rfl
theorem Xph{l:List Rz}(ha:l.all okW=true)(hl:l.length<=60)(h0:l≠[]) : 0<(l.map rwB).length/\Lib.count (lgB l) [59]=(l.map rwB).length-1/\Lib.splitK [59] 0 ((l.map rwB).length-1) (lgB l)=l.map rwB/\(lgB l).length<=100000:=by
 cases l with
 | nil=>exact absurd rfl h0
 | cons r l=>
  have h:=Xfa ha;have h2:=(Xaq ha).2
  rw [Qs] at hl
  rw [Qo,Qs,Nat.add_sub_cancel]
  exact ⟨by omega,h.1,h.2,by omega⟩
theorem Xtq{r:Rz}(h:okW r=true)(ht:twoU r.u=false) : (⟨r.u,r.a,0⟩ : Rz)=r:=by
 have:=(X7a h).2.2.2
 rcases this with h1|h1
 ·cases r;dsimp only at h1;rw [h1]
 ·rw [h1] at ht;cases ht
theorem mpS{α β:Type}{f:α->β}{l:List α}{k:Nat}{q:List β}{u:α}(h:q=(l.take k).map f)(hu:l[k]? = some u) : q++[f u]=(l.take (k+1)).map f:=by
 obtain ⟨h1,rfl⟩:=Qg.1 hu
 rw [h,Wf h1,List.map_append]
 rfl
theorem X61{l m:List Rz}{k:Nat}{u:Rz}(h:m=l.take k)(hu:l[k]? = some u) : m++[u]=l.take (k+1):=by
 rw [h]
 obtain ⟨h1,rfl⟩:=Qg.1 hu;exact (Wf h1).symm
theorem Xmg(w0:World)(u:Int) : Ret Tryz.prog 68 [vi u] w0 (fun v w=>v=.bool (twoU u)/\w0=w):=by
 refine enter Tryz.func68 rfl 9 rfl rfl ?_;intro a c
 have hW:=bz w0
 refine Zs c fun _ a6=>?_;refine Za rfl<|ZX a6 fun a c _ a7=>?_;refine X06 (fun a w=>Fr a 9 [(2,.bool ((u==1)||(u==4)))]/\w0=w) ?_ ?_
 ·refine Zr c<|Zm rfl<|Ze (X0f rfl rfl)<|Zm rfl ?_
  refine Zg 5 rfl (fun b=>?_) (fun b=>?_)
  ·(iterate 2 refine Zp (gP b) ?_);refine Ze (X5 rfl b rfl)<|Za rfl ?_;refine Zn fun a c=>?_;exact ⟨c.sub ⟨X1 rfl (by first|rfl|(simp only [b,bs];done)|simp [b]),trivial⟩,rfl⟩
  refine Zv (gW b) (X3 rfl) ?_;refine Zv (gW b) (X0f rfl rfl) ?_;refine Ze (X9 rfl b rfl)<|Za rfl ?_;refine Zn fun a c=>?_;exact ⟨c.sub ⟨X1 rfl (by first|rfl|(simp only [b,bs];done)|simp [b]),trivial⟩,rfl⟩
 rintro a _ ⟨c,rfl⟩;refine a7 _ _ ?_
 refine Q6 (X6 c (Xs c rfl rfl) ?_)
 exact ⟨rfl,rfl⟩
theorem Xlz(w0:World)(n:Int)(a6:0<=n/\n<=39) : Ret Tryz.prog 51 [.string (tx (Lib.itoa n))] w0 (fun v w=>v=.tuple #[vi n,.bool true]/\Below w0.heap.size w0 w):=by
 refine enter Tryz.func51 rfl 20 rfl rfl ?_;intro a b
 have hW:=bz w0
 refine Zs b fun _ a7=>?_;refine Za rfl<|Za rfl<|Zx a7 fun a b _ a8=>?_;refine Zm rfl<|Zf (Vc (Xrf _ n a6) Xic) ?_;rintro _ w1 ⟨rfl,hE⟩;have hW:=btr hW hE;refine Zm rfl<|Ze (Xn (vs:=[vi n,.nilIface]) rfl rfl)<|Ze (Xn (vs:=[vi n,.nilIface]) rfl rfl)<|Za rfl<|Za rfl<|ZX a8 fun a b _ aA=>?_;refine X06 (fun a w=>Fr a 20 [(2,vi n),(3,.bool true)]/\w1=w) ?_ ?_
 ·refine Zr b<|Zm rfl<|Zm rfl<|Ze (Xhr rfl Xk4)<|Zm rfl<|Zv (gW rfl) (X3 rfl) ?_;refine Zk (gW rfl) (Vc (Xev _ n a6) X97) ?_;rintro _ _ ⟨rfl,rfl⟩;refine Zv (gW rfl) (X3 rfl) ?_;refine Zv (gW rfl) (Xs3 rfl rfl) ?_;refine Ze (X5 rfl rfl rfl)<|Za rfl<|Za rfl ?_;refine Zn fun a b=>?_;exact ⟨b.sb,rfl⟩
 rintro a _ ⟨b,rfl⟩;refine aA _ _ ?_
 refine Q6 (X6 b (X1h b rfl rfl rfl) ?_)
 exact ⟨rfl,hW⟩
theorem Xmt(C:World)(Al:Option Addr)(cl:Nat)(l:List Rz)(a7:Rd C C.heap.size 57 encRz Al l)(bS:l.length<=1000000)(bC:RuleT C) : Ret Tryz.prog 25 [.slice Al l.length cl] C (fun v w=>v=.tuple #[.string (lgT l),.bool (lgO l)]/\Below C.heap.size C w):=by
 refine enter Tryz.func25 rfl 73 rfl rfl ?_;intro a c
 have o:=bz C
 refine Zs c fun _ bD=>?_;refine Za rfl<|Za rfl<|ZX bD fun a c _ bE=>?_;refine Zs c fun _ bF=>?_;refine Zm rfl<|Ze (X07 rfl X08)<|Ze (X2o rfl rfl)<|Zt bF fun a c=>?_
 refine Xf c rfl (fun x=>?_) (fun x=>?_)
 ·have p:=x;have x:=Q2 x
  have I:=Xsy (Xiu (l:=l) (by have:=x;omega))
  refine Zs c fun _ bG=>?_;refine Za rfl<|Za rfl<|Zt bG fun a c=>?_;refine Q6<|X8<|X6 c (X1h c rfl rfl rfl) ?_;exact ⟨by rw [I.1,I.2];rfl,o⟩
 have p:=x;have x:=Q1 x
 have a8:l.length<=60:=by have:=x;omega
 refine Q7<|bE _ _<|Zs c fun _ bH=>?_;refine Zf (Xj (k:=0) (vs:=[]) (zs:=[]) rfl X1w Xa0 rfl rfl) ?_;rintro _ w1 ⟨b8,rfl,bI,B,bJ⟩;have aO:=Q0 o.size bI;have o:=btr o B;refine Za rfl<|ZX bH fun a c _ aP=>?_;refine Zs c fun _ aQ=>?_;refine Zm rfl<|Ze (X07 rfl X08)<|Zm rfl<|Zt aQ fun a c=>?_;refine Q8<|X02 (σ:=Nat×(List ByteArray)) (fun (s:Nat×(List ByteArray)) (a:Act) (w:World)=>match s with|(k,q)=>∃ J L,Fr a 73 [(4,.slice J q.length L),(12,.slice Al l.length cl),(13,vi (l.length:Int)),(14,vi (k:Int))]/\(k<=l.length)/\(q=(l.take k).map fun r=>tx (rwB r))/\((l.take k).all okW=true)/\(q.length=k)/\Own w C.heap.size 9 1 encTx J L q/\Below C.heap.size C w) (fun (s:Nat×(List ByteArray))=>match s with|(k,q)=>l.length-k) (0,[]) ?_ ?_
 ·exact ⟨some ⟨b8,0,none⟩,0,c.sb,(Qf _),rfl,rfl,rfl,(Own.empty bJ aO),o⟩
 rintro ⟨k,q⟩ a w2 ⟨J,L,c,hk,hq,M,bT,g,o⟩;refine Zs c fun _ aR=>?_;refine Ze (X0i rfl rfl)<|ZX aR fun a c _ aS=>?_
 refine Xf c rfl (fun t=>?_) (fun t=>?_)
 ·have j:=t;have t:=Q2 t
  obtain ⟨bU,bR⟩:=X4 (l:=l) (k:=k) (by omega)
  obtain ⟨i,E⟩:=X4 (l:=l) (k:=k) (by have:=t;omega)
  refine Q7<|aS _ _<|Q5 fun _ aA=>?_;refine Q8<|Zs c fun _ aT=>?_;refine Zi (k:=k) (u:=i) (enc:=encRz) (l:=l) tv0 rfl rfl X08 X0v X0p (a7.bx o) E rfl ?_;intro bW aF;refine Ze (X00 (l:=[vi i.u,vi i.a,vi i.b]) rfl X10 aF rfl)<|Zf (Xw (zs:=[vi 0,vi 0,vi 0]) X2m rfl) ?_;rintro _ w3 ⟨bK,rfl,aB,B,n⟩;have aG:=Q0 o.size aB;have aU:=(a7.bx o).away aB;have g:=g.bw B;have o:=btr o B;refine Zo (Vw [vi i.u,vi i.a,vi i.b] X0v n) ?_;rintro _ w4 ⟨ho,hb⟩;have aV:=n;have g:=g.oT ho aV rfl;have o:=Below.oy o ho aG;have n:=hb;refine ZX aT fun a c _ aW=>?_;refine Q5 fun _ aX=>?_;refine X06 (fun a w=>Fr a 73 [(4,.slice J q.length L),(6,(pZ9 bK)),(12,.slice Al l.length cl),(13,vi (l.length:Int)),(14,vi (k:Int)),(44,.bool ((((!(inR i.u 1 5))||(!(inR i.a 0 39)))||(!(inR i.b 0 39)))||((i.b != 0)&&(!(twoU i.u)))))]/\w4=w) ?_ ?_
  ·refine Zr c<|Ze (Vd rfl X1p 0)<|Ze (X0 rfl Xa (n.at 0))<|Zf (Vc (F91 _ i.u 1 5) X3w) ?_;rintro _ _ ⟨rfl,rfl⟩;refine Ze (X0z rfl)<|Zm rfl ?_
   refine Zg 22 rfl (fun d=>?_) (fun d=>?_)
   ·(iterate 4 refine Zp (gP d) ?_);refine Ze (X5 rfl d rfl)<|Zm rfl<|Zp (gP rfl) ?_;(iterate 3 refine Zp (gP rfl) ?_);refine Ze (X5 rfl rfl rfl)<|Zm rfl<|Zp (gP rfl) ?_;(iterate 3 refine Zp (gP rfl) ?_);(iterate 4 refine Zp (gP tv0) ?_);refine Zp (gP rfl) ?_;refine Ze (X5 rfl rfl rfl) ?_;refine Zn fun a c=>?_;exact ⟨c.sub ⟨rfl,rfl,rfl,rfl,rfl,X1 rfl (by first|rfl|(simp only [p,j,d,bs];done)|simp [p,j,d]),trivial⟩,rfl⟩
   refine Zv (gW d) (Vd rfl X14 1) ?_;refine Zv (gW d) (X0 rfl Xa (n.at 1)) ?_;refine Zk (gW d) (Vc (F91 _ i.a 0 39) X3w) ?_;rintro _ _ ⟨rfl,rfl⟩;refine Zv (gW d) (X0z rfl) ?_;refine Ze (X9 rfl d rfl)<|Zm rfl ?_
   refine Zg 28 rfl (fun f=>?_) (fun f=>?_)
   ·(iterate 4 refine Zp (gP f) ?_);refine Ze (X5 rfl f rfl)<|Zm rfl<|Zp (gP rfl) ?_;(iterate 3 refine Zp (gP rfl) ?_);(iterate 4 refine Zp (gP tv0) ?_);refine Zp (gP rfl) ?_;refine Ze (X5 rfl rfl rfl) ?_;refine Zn fun a c=>?_;exact ⟨c.sub ⟨rfl,rfl,rfl,rfl,rfl,X1 rfl (by first|rfl|(simp only [p,j,d,f,bs];done)|simp [p,j,d,f]),trivial⟩,rfl⟩
   refine Zv (gW f) (Vd rfl X1r 2) ?_;refine Zv (gW f) (X0 rfl Xa (n.at 2)) ?_;refine Zk (gW f) (Vc (F91 _ i.b 0 39) X3w) ?_;rintro _ _ ⟨rfl,rfl⟩;refine Zv (gW f) (X0z rfl) ?_;refine Ze (X9 rfl f rfl)<|Zm rfl ?_
   refine Zg 34 rfl (fun e=>?_) (fun e=>?_)
   ·(iterate 4 refine Zp (gP e) ?_);(iterate 4 refine Zp (gP tv0) ?_);refine Zp (gP e) ?_;refine Ze (X5 rfl e rfl) ?_;refine Zn fun a c=>?_;exact ⟨c.sub ⟨rfl,rfl,rfl,rfl,rfl,X1 rfl (by first|rfl|(simp only [p,j,d,f,e,bs];done)|simp [p,j,d,f,e]),trivial⟩,rfl⟩
   refine Zv (gW e) (Vd rfl X1r 2) ?_;refine Zv (gW e) (X0 rfl Xa (n.at 2)) ?_;refine Zv (gW e) (X1c rfl rfl) ?_;refine Zv (gW e) (X3 rfl) ?_
   refine Zg 38 rfl (fun m=>?_) (fun m=>?_)
   ·refine Zv (gW m) (Vd rfl X1p 0) ?_;refine Zv (gW m) (X0 rfl Xa (n.at 0)) ?_;refine Zk (gW m) (Vc (Xmg _ i.u) Xci) ?_;rintro _ _ ⟨rfl,rfl⟩;refine Zv (gW m) (X0z rfl) ?_;refine Zv (gW e) (X5 rfl m rfl) ?_;refine Ze (X9 rfl e rfl) ?_;refine Zn fun a c=>?_;exact ⟨c.sub ⟨rfl,rfl,rfl,rfl,rfl,X1 rfl (by first|rfl|(simp only [p,j,d,f,e,m,bs];done)|simp [p,j,d,f,e,m]),trivial⟩,rfl⟩
   (iterate 4 refine Zp (gP m) ?_);refine Zv (gW e) (X9 rfl m rfl) ?_;refine Ze (X9 rfl e rfl) ?_;refine Zn fun a c=>?_;exact ⟨c.sub ⟨rfl,rfl,rfl,rfl,rfl,X1 rfl (by first|rfl|(simp only [p,j,d,f,e,m,bs];done)|simp [p,j,d,f,e,m]),trivial⟩,rfl⟩
  rintro a _ ⟨c,rfl⟩;refine aX _ _ ?_
  refine Xf c rfl (fun y=>?_) (fun y=>?_)
  ·have aH:=y
   have I:=Xsy (Xnf E (by have h8:=y;rw [Xu1] at h8;simpa using h8))
   refine Zs c fun _ aY=>?_;refine Za rfl<|Za rfl<|Zt aY fun a c=>?_;refine Q6<|X8<|Xx<|X8 ?_;refine X8<|Xx<|X8<|X6 c (X1h c rfl rfl rfl) ?_;exact ⟨by rw [I.1,I.2];rfl,o⟩
  have aH:=y
  have N:okW i=true:=by have h8:=y;rw [Xu1] at h8;simpa using h8
  obtain ⟨aZ,b0,b1,_⟩:=X7a N;have bX:=(Xdl aZ).2.2.2;have bY:=(X4h b0).2.2.2;have bZ:=(X4h b1).2.2.2;refine Q7<|aW _ _<|Q5 fun _ b2=>?_;refine Xz none (fun _=>false) mixed ?_;intro w5 B;have n:=n.bw B;have g:=g.bw B;have o:=btr o B;refine Yb c<|Yo 0 rfl (fun _=>Vd rfl X1p 0)<|Ye 1 rfl (X0 rfl Xa (n.at 0))<|Yo 2 rfl (fun _=>Xau (k:=i.u.toNat) rfl rfl Tryz.underlying126 Xe9 (by omega) (by omega))<|Ye 3 rfl (X0 rfl Xg0 ((bC.of o).at (by rw [Nat.zero_add,Nat.mul_one];exact Xrg aZ)))<|Yo 4 rfl (fun _=>Xcj (s:=(wdB i.u)) (r:=[32]) rfl rfl (by simp only [Qh,List.length_singleton];omega))<|Yo 5 rfl (fun _=>Vd rfl X14 1)<|Ye 6 rfl (X0 rfl Xa (n.at 1))<|Y1 7 ?_;refine Yz rfl tv0 (Vc (Xev _ i.a b0) X97) ?_;refine Yo 8 rfl (fun _=>Xcj (s:=((wdB i.u)++[32])) (r:=(Lib.itoa i.a)) rfl rfl (by simp only [Qh,List.length_singleton];omega))<|Yo 9 rfl (fun _=>X0h rfl) ?_;refine Yd fun a c=>?_;refine b2 _ _<|Q5 fun _ aC=>?_;refine Zs c fun _ b3=>?_;refine Ze (Vd rfl X1p 0)<|Ze (X0 rfl Xa (n.at 0))<|Zf (Vc (Xmg _ i.u) Xci) ?_;rintro _ _ ⟨rfl,rfl⟩;refine Zt b3 fun a c=>?_
  refine Xf c rfl (fun z=>?_) (fun z=>?_)
  ·have aI:=z;have aJ:=Xs6 (r:=i) z;refine Zr c<|Zm rfl<|Ze (Vd rfl X1r 2)<|Ze (X0 rfl Xa (n.at 2))<|Zf (Vc (Xev _ i.b b1) X97) ?_;rintro _ _ ⟨rfl,rfl⟩;refine Ze (Xcj (s:=[32]) (r:=(Lib.itoa i.b)) rfl rfl (by simp only [Qh,List.length_singleton];omega))<|Ze (Xcj (s:=(((wdB i.u)++[32])++(Lib.itoa i.a))) (r:=([32]++(Lib.itoa i.b))) rfl rfl (by simp only [Qh,List.length_singleton];omega))<|Za rfl<|Zt aC fun a c=>?_;refine Zr c<|Zm rfl<|Zm rfl<|Zf (Xj (k:=1) (vs:=[.string (tx ((((wdB i.u)++[32])++(Lib.itoa i.a))++([32]++(Lib.itoa i.b))))]) (zs:=[.string (tx ((((wdB i.u)++[32])++(Lib.itoa i.a))++([32]++(Lib.itoa i.b))))]) rfl X1w Xa0 rfl rfl) ?_;rintro _ w6 ⟨cA,rfl,aD,B,Q⟩;have bL:=Q0 o.size aD;have G:=g.away aD;have g:=g.bw B;have o:=btr o B;refine Zf (X0k (enc:=encTx) (l:=(q)) (l2:=([tx ((((wdB i.u)++[32])++(Lib.itoa i.a))++([32]++(Lib.itoa i.b)))])) (B0:=C.heap.size) rfl rfl X1w Xa0 X2a X7u g (Rd.of_blk Q rfl _ Q.lt) (by simp only [maxLen];simp;omega) (by simp;omega) o.size) ?_;rintro _ w7 ⟨bM,bN,rfl,b4,hg,U⟩
   have h:Own _ C.heap.size 9 1 encTx _ _ (q):=g
   have aM:=U _ Q.lt G;clear U;have o:=Below.app o h hg (Qb _) o.size;clear h hg;refine Za rfl ?_;refine Zn fun a c=>?_;refine Xb<|aA _ _<|Zr c<|Ze (Xr rfl rfl (by omega) (by omega))<|Zm rfl ?_;refine Zn fun a c=>?_;refine Xe ?_;exact ⟨(k+1,q++([tx ((((wdB i.u)++[32])++(Lib.itoa i.a))++([32]++(Lib.itoa i.b)))])),⟨bM,bN,c.sb,(by omega),(by rw [aJ];exact mpS hq E),(X91 M E N),(by rw [Qh,List.length_singleton];omega),b4,o⟩,(by first|omega|(dsimp only;omega))⟩
  have aI:=z;have aJ:=Xq5 (r:=i) z;refine Q7<|aC _ _<|Zr c<|Zm rfl<|Zm rfl<|Zf (Xj (k:=1) (vs:=[.string (tx (((wdB i.u)++[32])++(Lib.itoa i.a)))]) (zs:=[.string (tx (((wdB i.u)++[32])++(Lib.itoa i.a)))]) rfl X1w Xa0 rfl rfl) ?_;rintro _ w8 ⟨cB,rfl,aE,B,W⟩;have bO:=Q0 o.size aE;have H:=g.away aE;have g:=g.bw B;have o:=btr o B;refine Zf (X0k (enc:=encTx) (l:=(q)) (l2:=([tx (((wdB i.u)++[32])++(Lib.itoa i.a))])) (B0:=C.heap.size) rfl rfl X1w Xa0 X2a X7u g (Rd.of_blk W rfl _ W.lt) (by simp only [maxLen];simp;omega) (by simp;omega) o.size) ?_;rintro _ w9 ⟨bP,bQ,rfl,b5,hg,U⟩
  have h:Own _ C.heap.size 9 1 encTx _ _ (q):=g
  have aN:=U _ W.lt H;clear U;have o:=Below.app o h hg (Qb _) o.size;clear h hg;refine Za rfl ?_;refine Zn fun a c=>?_;refine Xb<|aA _ _<|Zr c<|Ze (Xr rfl rfl (by omega) (by omega))<|Zm rfl ?_;refine Zn fun a c=>?_;refine Xe ?_;exact ⟨(k+1,q++([tx (((wdB i.u)++[32])++(Lib.itoa i.a))])),⟨bP,bQ,c.sb,(by omega),(by rw [aJ];exact mpS hq E),(X91 M E N),(by rw [Qh,List.length_singleton];omega),b5,o⟩,(by first|omega|(dsimp only;omega))⟩
 have j:=t;have t:=Q1 t
 have b6:=X93 M (by have:=t;omega)
 have D:=Xoq (Xmx a8 b6)
 have a6:q=l.map fun r=>tx (rwB r):=by rw [hq,Qi (by have:=t;omega)]
 refine Q9<|Xl<|Xl<|X01 ?_;refine aP _ _<|Q5 fun _ b7=>?_;refine Zs c fun _ b9=>?_;refine Zm rfl<|Ze (X07 rfl X1w)<|Ze (X0f rfl rfl)<|Zt b9 fun a c=>?_
 refine Xf c rfl (fun A=>?_) (fun A=>?_)
 ·have aK:=A
  have aL:l=[]:=List.eq_nil_of_length_eq_zero (by have h8:=A;rw [beq_iff_eq] at h8;have h7:=congrArg List.length a6;rw [Qo] at h7;omega)
  refine Zs c fun _ bA=>?_;refine Za rfl<|Za rfl<|Zt bA fun a c=>?_;refine Q6<|X8<|X6 c (X1h c rfl rfl rfl) ?_;exact ⟨by rw [D.1,D.2,aL];rfl,o⟩
 have aK:=A
 have aL:l≠[]:=fun h9=>by have h8:=A;rw [a6,h9] at h8;simp at h8
 refine Q7<|b7 _ _<|Zs c fun _ bB=>?_;refine Zm rfl<|Zf (Vc (Xtd _ J L q (tx [59]) g.rd.top g.cap (by rw [a6,Qo];omega) (by rw [a6];exact Xnz a8 b6)) Xki) ?_;rintro _ cC ⟨rfl,B⟩;have o:=btr o B;refine Za rfl<|Za rfl<|Zt bB fun a c=>?_
 refine Q6 (X6 c (X1h c rfl rfl rfl) ?_)
 exact ⟨by rw [D.1,D.2,a6,Xq2 aL],o⟩
theorem Xqm(M:World)(l:List Rz)(aF:l.all okW=true)(hl:l.length<=60)(b6:MaxT M)(aN:RuleT M) : Ret Tryz.prog 26 [.string (tx (lgB l))] M (fun v w=>∃ A c,v=.tuple #[.slice A l.length c,.bool true]/\Rd w w.heap.size 57 encRz A l/\Below M.heap.size M w):=by
 refine enter Tryz.func26 rfl 70 rfl rfl ?_;intro a g
 have i:=bz M
 refine Zs g fun _ bU=>?_;refine Za rfl<|Za rfl<|ZX bU fun a g _ bW=>?_;refine Zs g fun _ bX=>?_;refine Zm rfl<|Ze (Xnj (s:=(lgB l)) (r:=[45]) rfl rfl)<|Zt bX fun a g=>?_
 refine Xf g rfl (fun E=>?_) (fun E=>?_)
 ·have aH:=E;have E:=Q2 E
  have aO:l=[]:=Xi5 aF (by simpa using E)
  refine Zs g fun _ bY=>?_;refine Za rfl<|Za rfl<|Zt bY fun a g=>?_;refine Q6<|X8<|X6 g (X1h g rfl rfl rfl) ?_
  subst aO
  exact ⟨none,0,rfl,Rd.nil _ _ _ _ _,i⟩
 have aH:=E;have E:=Q1 E
 have aO:l≠[]:=fun h9=>by have h8:=E;rw [h9] at h8;revert h8;decide
 obtain ⟨bZ,cA,cB,cC⟩:=Xph aF hl aO;refine Q7<|bW _ _<|Zs g fun _ cD=>?_;refine Zf (Xj (k:=0) (vs:=[]) (zs:=[]) rfl X08 X1g rfl rfl) ?_;rintro _ w1 ⟨b9,rfl,cE,o,aP⟩;have b7:=Q0 i.size cE;have i:=btr i o;refine Za rfl<|ZX cD fun a g _ b8=>?_;refine Zs g fun _ bA=>?_;refine Zm rfl<|Zf (Vc (Xli _ _ _ (l.map rwB) bZ cA cB cC (b6.of i)) Xbs) ?_;rintro _ w2 ⟨aQ,bB,rfl,e,o⟩;have aP:=aP.bw o;have i:=btr i o;refine Ze (X07 rfl X1w)<|Zm rfl<|Zt bA fun a g=>?_;refine Q8<|X02 (σ:=Nat×(List Rz)) (fun (s:Nat×(List Rz)) (a:Act) (w:World)=>match s with|(k,m)=>∃ G I,Fr a 70 [(0,.string (tx (lgB l))),(4,.slice G m.length I),(15,.slice aQ ((l.map rwB).map tx).length bB),(16,vi (((l.map rwB).map tx).length:Int)),(17,vi (k:Int))]/\(k<=l.length)/\(m=l.take k)/\(m.length=k)/\Own w M.heap.size 57 3 encRz G I m/\Rd w w2.heap.size 9 encTx aQ ((l.map rwB).map tx)/\Below M.heap.size M w) (fun (s:Nat×(List Rz))=>match s with|(k,m)=>l.length-k) (0,[]) ?_ ?_
 ·exact ⟨some ⟨b9,0,none⟩,0,g.sb,(Qf _),rfl,rfl,(Own.empty aP b7),e,i⟩
 rintro ⟨k,m⟩ a w3 ⟨G,I,g,hk,hm,cT,d,e,i⟩;refine Zs g fun _ bC=>?_;refine Ze (X0i rfl rfl)<|ZX bC fun a g _ bD=>?_
 refine Xf g rfl (fun t=>?_) (fun t=>?_)
 ·have a8:=t;have t:=Q2 t
  obtain ⟨cU,cS⟩:=X4 (l:=((l.map rwB).map tx)) (k:=k) (by omega)
  obtain ⟨n,U⟩:=X4 (l:=l) (k:=k) (by have h8:=t;simp only [Qo] at h8;omega)
  have J:=Xkn aF U;obtain ⟨bE,cF,cG,_⟩:=X7a J;have bF:=Xj5 n;have cH:=t
  simp only [Qo] at cH
  have bG:=Xhb J;have cV:=X8l J;refine Q7<|bD _ _<|Q5 fun _ aI=>?_;refine Q8<|Zs g fun _ bH=>?_;refine Zi (k:=k) (u:=tx (rwB n)) (enc:=encTx) (l:=((l.map rwB).map tx)) tv0 rfl rfl X1w Xe9 X2a e (Xu6 U) rfl ?_;intro cW aR;refine Ze (X0 rfl Xg0 aR)<|Za rfl<|Zx bH fun a g _ bI=>?_;refine Zm rfl<|Zf (Vc (Xli _ _ _ (rwW n) (by omega) bG.1 bG.2 (by omega) (b6.of i)) Xbs) ?_;rintro _ w4 ⟨cI,cJ,rfl,q,o⟩;have d:=d.bw o;have e:=e.bw o;have i:=btr i o;refine Za rfl<|ZX bI fun a g _ bJ=>?_;refine X06 (fun a w=>∃ H,Fr a 70 [(0,.string (tx (lgB l))),(4,.slice G m.length I),(7,.slice cI ((rwW n).map tx).length cJ),(8,(pZ9 H)),(15,.slice aQ ((l.map rwB).map tx).length bB),(16,vi (((l.map rwB).map tx).length:Int)),(17,vi (k:Int))]/\M.heap.size<=H/\Blk w H 57 [vi n.u,vi 0,vi 0]/\Away G H/\Below w4.heap.size w4 w) ?_ ?_
  ·have x:Below w4.heap.size w4 w4:=Below.refl _ _
   refine Xz none (fun j=>[8].contains j) mixed ?_;intro w5 o;have d:=d.bw o;have q:=q.bw o;have i:=btr i o;have x:=btr x o;refine Yb g<|Yo 0 rfl (fun _=>Xe6 (k:=1) (len:=6) rfl rfl Tryz.underlying126 Xe9 rfl (by decide))<|Yo 1 rfl (fun _=>X3 rfl)<|Yi (k:=0) (u:=tx (wdB n.u)) (enc:=encTx) (l:=((rwW n).map tx)) 2 rfl tv0 rfl rfl X1w Xe9 X2a q (Xu4 n) rfl ?_;intro cX aS;refine Ye 3 rfl (X0 rfl Xg0 aS) ?_;refine Y2 4 7 ?_ ?_
   ·refine Yz rfl tv0 (Vc (Xld _ n.u bE (aN.of i)) Xct) ?_;refine Yo 5 rfl (fun _=>Xbw (k:=n.u) rfl rfl (by omega) (by omega) (by omega))<|Yo 6 rfl (fun _=>X11 (ps:=[(0,vi n.u)]) (cs:=[vi n.u,vi 0,vi 0]) rfl (fun _=>by first|rfl|kernel_rfl))<|Y1 7 ?_;refine Yk rfl tv0 (Xw (zs:=[vi 0,vi 0,vi 0]) X2m rfl) (fun _ _ ⟨_,_,_,h,_⟩=>h) ?_;rintro _ w6 ⟨H,rfl,aA,o,f⟩;have B:=Q0 i.size aA;have aT:=Q0 x.size aA;have p:=d.away aA;have i:=btr i o;have x:=btr x o;refine Y1 8<|Yh rfl tv0 rfl (Vw [vi n.u,vi 0,vi 0] X0v f) ?_;rintro _ w7 ⟨N,hb⟩;have D:=f;have x:=Below.oy x N aT;have i:=Below.oy i N B;have f:=hb;refine Yd fun a g=>?_
    have aU:Below w4.heap.size w4 w7:=x
    exact ⟨H,g.sb,B,f,p,aU⟩
   refine Yk rfl tv0 (Xw (zs:=[vi 0,vi 0,vi 0]) X2m rfl) (fun _ _ ⟨_,_,_,h,_⟩=>h) ?_;rintro _ w8 ⟨cK,rfl,aB,o,Q⟩;have aC:=Q0 i.size aB;have aV:=Q0 x.size aB;have W:=d.away aB;have i:=btr i o;have x:=btr x o;refine Y1 4<|Yz rfl tv0 (Vc (Xld _ n.u bE (aN.of i)) Xct) ?_;refine Yo 5 rfl (fun _=>Xbw (k:=n.u) rfl rfl (by omega) (by omega) (by omega))<|Yo 6 rfl (fun _=>X11 (ps:=[(0,vi n.u)]) (cs:=[vi n.u,vi 0,vi 0]) rfl (fun _=>by first|rfl|kernel_rfl))<|Y1 8 ?_;refine Yh rfl tv0 rfl (Vw [vi n.u,vi 0,vi 0] X0v Q) ?_;rintro _ w9 ⟨N,hb⟩;have D:=Q;have x:=Below.oy x N aV;have i:=Below.oy i N aC;have Q:=hb;refine Yd fun a g=>?_
   have aU:Below w4.heap.size w4 w9:=x
   exact ⟨cK,g.sub ⟨rfl,rfl,rfl,(by first|rfl|(simp [look,aH,a8])),rfl,rfl,rfl,trivial⟩,aC,Q,W,aU⟩
  rintro a cY ⟨H,g,B,f,p,o⟩;have d:=d.bw o;have e:=e.bw o;have q:=q.bw o;have i:=btr i o;refine bJ _ _<|Q5 fun _ bK=>?_;refine Zs g fun _ bL=>?_;refine Zm rfl<|Ze (X07 rfl X1w)<|Ze (X2o rfl rfl)<|Zt bL fun a g=>?_
  refine Xf g rfl (fun z=>?_) (fun z=>?_)
  ·have aW:=z;have z:=Q2 z;refine Zr g<|Zm rfl<|Zi (k:=1) (u:=tx (Lib.itoa n.a)) (enc:=encTx) (l:=((rwW n).map tx)) tv0 rfl rfl X1w Xe9 X2a q (Xql n) rfl ?_;intro cZ aX;refine Ze (X0 rfl Xg0 aX)<|Zf (Vc (Xlz _ n.a cF) Xdj) ?_;rintro _ d5 ⟨rfl,o⟩;have f:=f.bw o;have d:=d.bw o;have e:=e.bw o;have q:=q.bw o;have i:=btr i o;refine Zm rfl<|Ze (Xn (vs:=[vi n.a,.bool true]) rfl rfl)<|Ze (Xn (vs:=[vi n.a,.bool true]) rfl rfl)<|Ze (Vd rfl X14 1)<|Zo (Vu (vs:=[vi n.a]) (l':=[vi n.u,vi n.a,vi 0]) rfl rfl X0a f) ?_;rintro _ d6 ⟨N,hb⟩;have D:=f;have d:=d.onlyA N p;have e:=e.oT N D rfl;have q:=q.oT N D rfl;have i:=Below.oy i N B;have f:=hb;refine ZX bK fun a g _ aJ=>?_;refine Zs g fun _ bM=>?_;refine Zm rfl<|Ze (X07 rfl X1w)<|Ze (X2o rfl rfl)<|Zt bM fun a g=>?_
   refine Xf g rfl (fun y=>?_) (fun y=>?_)
   ·have aY:=y;have y:=Q2 y
    have aG:=bF.2.2.1 (by have:=y;omega)
    refine Zr g<|Zm rfl<|Zi (k:=2) (u:=tx (Lib.itoa n.b)) (enc:=encTx) (l:=((rwW n).map tx)) tv0 rfl rfl X1w Xe9 X2a q (Xtm aG) rfl ?_;intro d7 aZ;refine Ze (X0 rfl Xg0 aZ)<|Zf (Vc (Xlz _ n.b cG) Xdj) ?_;rintro _ d8 ⟨rfl,o⟩;have f:=f.bw o;have d:=d.bw o;have e:=e.bw o;have i:=btr i o;refine Zm rfl<|Ze (Xn (vs:=[vi n.b,.bool true]) rfl rfl)<|Ze (Xn (vs:=[vi n.b,.bool true]) rfl rfl)<|Ze (Vd rfl X1r 2)<|Zo (Vu (vs:=[vi n.b]) (l':=[vi n.u,vi n.a,vi n.b]) rfl rfl X0a f) ?_;rintro _ d9 ⟨N,hb⟩;have D:=f;have d:=d.onlyA N p;have e:=e.oT N D rfl;have i:=Below.oy i N B;have f:=hb;refine Zt aJ fun a g=>?_;refine Zr g<|Zm rfl<|Ze (Vn X10 f)<|Zf (Xj (k:=1) (vs:=[.agg #[vi n.u,vi n.a,vi n.b]]) (zs:=[vi n.u,vi n.a,vi n.b]) rfl X08 X1g rfl rfl) ?_;rintro _ dA ⟨b40,rfl,aK,o,aD⟩
    have b0:H≠b40:=by have:=f.lt;omega
    have cL:=Q0 i.size aK;have a6:=d.away aK;have f:=f.bw o;have d:=d.bw o;have e:=e.bw o;have i:=btr i o;refine Zf (X0k (enc:=encRz) (l:=(m)) (l2:=([n])) (B0:=M.heap.size) rfl rfl X08 X1g X0p X2e d (Rd.of_blk aD rfl _ aD.lt) (by simp only [maxLen];simp only [Qs,List.length_nil];omega) (by simp only [Qs,List.length_nil];omega) i.size) ?_;rintro _ dB ⟨cM,cN,rfl,bN,hg,L⟩
    have C:Own _ M.heap.size 57 3 encRz _ _ (m):=d
    have b1:=L _ f.lt p;have b2:=L _ aD.lt a6;clear L;have e:=e.appT C hg rfl;have i:=Below.app i C hg (Qb _) i.size;clear C hg;refine Za rfl ?_;refine Zn fun a g=>?_;refine Xb<|aI _ _<|Zr g<|Ze (Xr rfl rfl (by omega) (by omega))<|Zm rfl ?_;refine Zn fun a g=>?_;refine Xe ?_;exact ⟨(k+1,m++([n])),⟨cM,cN,g.sb,(by omega),(by first|exact X61 hm U|(rw [Xtq J aG];exact X61 hm U)),(by rw [Qh,List.length_singleton];omega),bN,e,i⟩,(by first|omega|(dsimp only;omega))⟩
   have aY:=y;have y:=Q1 y
   have aG:=bF.2.2.2 (by have:=y;omega)
   refine Q7<|aJ _ _<|Zr g<|Zm rfl<|Ze (Vn X10 f)<|Zf (Xj (k:=1) (vs:=[.agg #[vi n.u,vi n.a,vi 0]]) (zs:=[vi n.u,vi n.a,vi 0]) rfl X08 X1g rfl rfl) ?_;rintro _ dC ⟨b43,rfl,aL,o,aE⟩
   have b3:H≠b43:=by have:=f.lt;omega
   have cO:=Q0 i.size aL;have a7:=d.away aL;have f:=f.bw o;have d:=d.bw o;have e:=e.bw o;have i:=btr i o;refine Zf (X0k (enc:=encRz) (l:=(m)) (l2:=([(⟨n.u,n.a,0⟩ : Rz)])) (B0:=M.heap.size) rfl rfl X08 X1g X0p X2e d (Rd.of_blk aE rfl _ aE.lt) (by simp only [maxLen];simp only [Qs,List.length_nil];omega) (by simp only [Qs,List.length_nil];omega) i.size) ?_;rintro _ dD ⟨cP,cQ,rfl,bO,hg,L⟩
   have C:Own _ M.heap.size 57 3 encRz _ _ (m):=d
   have b4:=L _ f.lt p;have b5:=L _ aE.lt a7;clear L;have e:=e.appT C hg rfl;have i:=Below.app i C hg (Qb _) i.size;clear C hg;refine Za rfl ?_;refine Zn fun a g=>?_;refine Xb<|aI _ _<|Zr g<|Ze (Xr rfl rfl (by omega) (by omega))<|Zm rfl ?_;refine Zn fun a g=>?_;refine Xe ?_;exact ⟨(k+1,m++([(⟨n.u,n.a,0⟩ : Rz)])),⟨cP,cQ,g.sb,(by omega),(by first|exact X61 hm U|(rw [Xtq J aG];exact X61 hm U)),(by rw [Qh,List.length_singleton];omega),bO,e,i⟩,(by first|omega|(dsimp only;omega))⟩
  have aW:=z;have z:=Q1 z;have h8:=z;omega
 have a8:=t;have t:=Q1 t
 have bP:m=l:=by rw [hm,Qi (by have h8:=t;simp only [Qo] at h8;omega)]
 have aM:lgT m=tx (lgB l)/\lgO m=true:=by rw [bP];exact Xoq (Xmx hl aF)
 refine Q9<|Xl<|Xl<|X01 ?_;refine b8 _ _<|Q5 fun _ bQ=>?_;refine Zs g fun _ bR=>?_;refine Zm rfl<|Zf (X16 (vs:=[.slice G m.length I]) rfl Xcu (by have hq:=Xmt w3 G I m d.rd.top (by omega) (aN.of i);rw [aM.1,aM.2] at hq;exact hq)) ?_;rintro _ cR ⟨rfl,o⟩;have d:=d.bw o;have i:=btr i o;refine Zm rfl<|Ze (Xn (vs:=[.string (tx (lgB l)),.bool true]) rfl rfl)<|Ze (Xn (vs:=[.string (tx (lgB l)),.bool true]) rfl rfl)<|Za rfl<|Za rfl<|ZX bR fun a g _ bS=>?_;refine X06 (fun a w=>Fr a 70 [(4,.slice G m.length I),(68,.bool false)]/\cR=w) ?_ ?_
 ·refine Zr g<|Zm rfl<|Ze (X0z rfl)<|Zm rfl<|Zv (gW rfl) (X3 rfl) ?_;refine Zv (gW rfl) (X3 rfl) ?_;refine Zv (gW rfl) (Xr7 rfl rfl) ?_;refine Ze (X9 rfl rfl rfl) ?_;refine Zn fun a g=>?_;exact ⟨g.sb,rfl⟩
 rintro a _ ⟨g,rfl⟩;refine bS _ _<|X6b g rfl ?_;refine Q7<|bQ _ _<|Zs g fun _ bT=>?_;refine Zm rfl<|Za rfl<|Za rfl<|Zt bT fun a g=>?_
 refine Q6 (X6 g (X1h g rfl rfl rfl) ?_)
 subst bP
 exact ⟨G,I,rfl,d.rd.top,i⟩
theorem Xcv(d:Nat)(x y:Rz)(w:World) : (Op.equalIn (d+2) 57 (.agg #[.int .i64 x.u,.int .i64 x.a,.int .i64 x.b]) (.agg #[.int .i64 y.u,.int .i64 y.a,.int .i64 y.b])).run Tryz.prog w=.ok (decide (x=y)) w:=by
 have hf:=X5r Tryz.underlying57;refine (run_equalIn_struct w (d+1) 57 _ _ (by rw [hf];exact Tryz.underlying57) (by kernel_rfl)).trans ?_
 rw [hf]
 have:decide (x=y)=(decide (x.u=y.u)&&(decide (x.a=y.a)&&(decide (x.b=y.b)&&true))):=by
  obtain ⟨a,b,c⟩:=x;obtain ⟨a',b',c'⟩:=y
  simp
 rw [this]
 refine X1n (by decide) Xa Tryz.underlying3 rfl rfl fun _=>?_;refine X1n (by decide) Xa Tryz.underlying3 rfl rfl fun _=>?_;refine X1n (by decide) Xa Tryz.underlying3 rfl rfl fun _=>?_
 rfl
theorem Xdr:Tryz.prog.eqGuardType Tryz.prog.depth 57=false:=by kernel_rfl
theorem X5y{d:Dg}{l:List Rz} : InD (rlD d l):=by
 cases h:rlB d l with
 | false=>rw [(Xga h).1];exact Xlw
 | true=>rw [(X57 h).1];exact X1b (X50 l (Xe3 h).1)
theorem Xoc{d:Dg}{l:List Rz}(hB:rlB d l=true)(hK:rlK d l=l.length){m:Nat}(hm:m<=l.length) : rlB d (l.take m)=true/\rlB (rlD d (l.take m)) (l.drop m)=true/\rlK d (l.take m)=m/\rlK (rlD d (l.take m)) (l.drop m)=l.length-m/\rlD (rlD d (l.take m)) (l.drop m)=rlD d l:=by
 have hp:=Xe3 hB
 rw [(X57 hB).2] at hK
 have h:=X9k l m hK hm
 have h1:rlB d (l.take m)=true:=by
  unfold rlB
  rw [hp.1,decide_eq_true (by rw [Qn];omega)]
  rfl
 rw [(X57 h1).1]
 have h2:rlB (rpD d (l.take m)) (l.drop m)=true:=by
  unfold rlB
  rw [X50 _ hp.1,decide_eq_true (by rw [List.length_drop];omega)]
  rfl
 refine ⟨h1,h2,by rw [(X57 h1).2];exact h.1,by rw [(X57 h2).2];exact h.2.2,?_⟩
 rw [(X57 h2).1,(X57 hB).1]
 exact h.2.1
theorem Xnc{d e:Dg}{l:List Rz}{m:Nat}(hB:rlB d l=true)(hK:rlK d l=l.length)(hm:m<=l.length)(he:e=rlD d (l.take m)) : (((!rlB d (l.take m)||!rlB e (l.drop m))||(wr (((rlK d (l.take m) : Nat) : Int)+((rlK e (l.drop m) : Nat) : Int)) != ((rlK d l:Nat) : Int)))||!decide (rlD e (l.drop m)=rlD d l))=false:=by
 have h:=Xoc hB hK hm;have hl:=(Xe3 hB).2
 subst he
 rw [h.1,h.2.1,h.2.2.1,h.2.2.2.1,h.2.2.2.2,hK,X27 (by omega) (by omega),decide_eq_true rfl]
 rw [show ((m:Int)+((l.length-m:Nat) : Int))=(l.length:Int) by omega]
 simp
theorem Xfr{d:Dg}{l:List Rz}{u:Rz}(hB:rlB d l=true)(hK:rlK d l=l.length)(hu:l[0]? = some u) : apC d u=true:=by
 rw [(X57 hB).2] at hK
 have h:=Xha hK (Qg.1 hu).1
 rwa [Qa,hu] at h
theorem Xkd{l:List Rz}{u x:Rz}{k:Nat}{b:Bool}(h:b=(l.take k).any fun z=>z==u)(hx:l[k]? = some x) : (b||decide (x=u))=(l.take (k+1)).any fun z=>z==u:=by
 obtain ⟨h1,rfl⟩:=Qg.1 hx
 rw [Wf h1,List.any_append,h]
 rw [List.any_cons,List.any_nil,Bool.or_false]
 congr 1
theorem Xjl{l:List Rz}{u x:Rz}{k:Nat}{b v:Bool}(h:b=(l.take k).any fun z=>z==u)(hx:l[k]? = some x)(hv:v=(b||decide (x=u))) : v=(l.take (k+1)).any fun z=>z==u:=hv.trans (Xkd h hx)
theorem Xji{k:Nat}(h:k<=1000000) : wr (((k:Nat) : Int).tdiv 2)=((k/2:Nat) : Int):=by
 rw [Int.tdiv_eq_ediv_of_nonneg (by omega),X27 (by omega) (by omega)]
 first|done|omega
theorem Xop{l:List Rz}(h:lgO l=true) : l.all okW=true:=by
 unfold lgO at h
 rw [Qd] at h
 exact h.2
theorem Xqe{l:List Rz}(h:lgO l=true) : l.length<=60:=by
 unfold lgO at h
 rw [Qd,Qr] at h
 exact h.1
theorem Xq0(w0:World){gM:TypeId}(dL:Option Addr)(dW:Nat)(bK:List Int)(J:Rd w0 w0.heap.size gM encU dL bK)(gN:∀ x ∈ bK,0<=x/\x<=255){gO:TypeId}(aV:Option Addr)(b0:Nat)(more:List Int)(L:Rd w0 w0.heap.size gO encU aV more)(gQ:∀ x ∈ more,0<=x/\x<=255)(gR:MaxT w0)(eY:RuleT w0) : Ret Tryz.prog 4 [.slice dL bK.length dW,.slice aV more.length b0] w0 (fun v w=>v=.bool true/\Below w0.heap.size w0 w):=by
 refine enter Tryz.func4 rfl 183 rfl rfl ?_;intro a q
 have p:=bz w0
 refine Zs q fun _ gS=>?_;refine Za rfl<|ZX gS fun a q _ gT=>?_;refine Zs q fun _ gU=>?_;refine Zm rfl<|Zm rfl<|Zf (Vc (Xqf _ dL dW bK (J.bx p).top aV b0 more (L.bx p).top) Xkv) ?_;rintro _ w1 ⟨rfl,f⟩;have p:=btr p f;refine Zt gU fun a q=>?_
 refine Xf q rfl (fun dX=>?_) (fun dX=>?_)
 ·have D:=dX;refine Zs q fun _ gX=>?_;refine Za rfl<|Zt gX fun a q=>?_;refine Q6<|X8<|X6 q (Xs q rfl rfl) ?_;exact ⟨rfl,p⟩
 have D:=dX;refine Q7<|gT _ _<|Zs q fun _ gY=>?_;refine Zm rfl<|Zf (Vc (Xmq _ dL dW bK (J.bx p).top gN) Xcr) ?_;rintro _ w2 ⟨d,aI,aJ,aK,aL,lz35,G,E,rfl,bN,g,i,b1,e,aQ,f⟩;have p:=btr p f;refine Zm rfl<|Ze (Xn (vs:=[.agg #[vi d.n,.slice aI d.ns.length aJ,.slice aK d.ws.length aL,vi d.t,vi d.r],.slice G lz35.length E]) rfl rfl)<|Ze (Xn (vs:=[.agg #[vi d.n,.slice aI d.ns.length aJ,.slice aK d.ws.length aL,vi d.t,vi d.r],.slice G lz35.length E]) rfl rfl)<|Zf (Xw (zs:=[vi 0,.slice none 0 0,.slice none 0 0,vi 0,vi 0]) X0e rfl) ?_;rintro _ w3 ⟨aW,rfl,d9,f,o⟩;have dY:=Q0 p.size d9;have eZ:=(J.bx p).away d9;have f0:=(L.bx p).away d9;have g:=g.bw f;have i:=i.bw f;have e:=e.bw f;have p:=btr p f;refine Zo (Vw [vi d.n,.slice aI d.ns.length aJ,.slice aK d.ws.length aL,vi d.t,vi d.r] Xd o) ?_;rintro _ w4 ⟨ho,hb⟩;have B:=o;have g:=g.oT ho B rfl;have i:=i.oT ho B rfl;have e:=e.oT ho B rfl;have p:=Below.oy p ho dY;have o:=hb;refine Za rfl<|Zx gY fun a q _ f3=>?_;refine Ze (Vn X2 o)<|Zm rfl<|Zf (X16 (vs:=[.agg #[vi d.n,.slice aI d.ns.length aJ,.slice aK d.ws.length aL,vi d.t,vi d.r],.slice G lz35.length E]) rfl X4x (X9d _ d d.ns.length rfl aI aJ g.top aK aL i.top b1 G E lz35 e.top (by omega) (by omega) (by omega))) ?_;rintro _ w5 ⟨dA,dB,dC,dD,rfl,aM,aN,f5,f⟩;have o:=o.bw f;have g:=g.bw f;have i:=i.bw f
 have e:=e.bw f;have p:=btr p f;refine Zm rfl<|Ze (Xn (vs:=[.agg #[vi ((rlD d lz35).n),.slice dA ((rlD d lz35).ns).length dB,.slice dC ((rlD d lz35).ws).length dD,vi ((rlD d lz35).t),vi ((rlD d lz35).r)],vi ((rlK d lz35:Nat) : Int),.bool (rlB d lz35)]) rfl rfl)<|Ze (Xn (vs:=[.agg #[vi ((rlD d lz35).n),.slice dA ((rlD d lz35).ns).length dB,.slice dC ((rlD d lz35).ws).length dD,vi ((rlD d lz35).t),vi ((rlD d lz35).r)],vi ((rlK d lz35:Nat) : Int),.bool (rlB d lz35)]) rfl rfl)<|Ze (Xn (vs:=[.agg #[vi ((rlD d lz35).n),.slice dA ((rlD d lz35).ns).length dB,.slice dC ((rlD d lz35).ws).length dD,vi ((rlD d lz35).t),vi ((rlD d lz35).r)],vi ((rlK d lz35:Nat) : Int),.bool (rlB d lz35)]) rfl rfl)<|Zf (Xw (zs:=[vi 0,.slice none 0 0,.slice none 0 0,vi 0,vi 0]) X0e rfl) ?_;rintro _ w6 ⟨b20,rfl,dE,f,aO⟩
 have eU:aW≠b20:=by have:=o.lt;omega
 have dZ:=Q0 p.size dE;have f7:=(J.bx p).away dE;have f8:=(L.bx p).away dE;have o:=o.bw f;have g:=g.bw f;have i:=i.bw f;have e:=e.bw f;have aM:=aM.bw f;have aN:=aN.bw f;have p:=btr p f;refine Zo (Vw [vi ((rlD d lz35).n),.slice dA ((rlD d lz35).ns).length dB,.slice dC ((rlD d lz35).ws).length dD,vi ((rlD d lz35).t),vi ((rlD d lz35).r)] Xd aO) ?_;rintro _ w7 ⟨ho,hb⟩;have B:=aO;have o:=o.oy ho (by omega);have g:=g.oT ho B rfl;have i:=i.oT ho B rfl;have e:=e.oT ho B rfl;have aM:=aM.oT ho B rfl;have aN:=aN.oT ho B rfl;have p:=Below.oy p ho dZ;have aO:=hb;refine Za rfl<|Za rfl<|Zx f3 fun a q _ f9=>?_;refine Ze (Vn X2 o)<|Zm rfl<|Zf (Vc (Xsx _ d d.ns.length rfl aI aJ g.top aK aL i.top b1 G E lz35 e.top (by omega) (by omega) (by omega) bN.2.2.1) Xkq) ?_;rintro _ w8 ⟨cJ,cK,cL,cM,rfl,aF,aG,dR,f⟩;have o:=o.bw f;have aO:=aO.bw f;have g:=g.bw f;have i:=i.bw f;have e:=e.bw f;have aM:=aM.bw f;have aN:=aN.bw f;have p:=btr p f;refine Zm rfl<|Ze (Xn (vs:=[.agg #[vi ((rlD d lz35).n),.slice cJ ((rlD d lz35).ns).length cK,.slice cL ((rlD d lz35).ws).length cM,vi ((rlD d lz35).t),vi ((rlD d lz35).r)],vi ((rlK d lz35:Nat) : Int),.bool (rlB d lz35)]) rfl rfl)<|Ze (Xn (vs:=[.agg #[vi ((rlD d lz35).n),.slice cJ ((rlD d lz35).ns).length cK,.slice cL ((rlD d lz35).ws).length cM,vi ((rlD d lz35).t),vi ((rlD d lz35).r)],vi ((rlK d lz35:Nat) : Int),.bool (rlB d lz35)]) rfl rfl)<|Ze (Xn (vs:=[.agg #[vi ((rlD d lz35).n),.slice cJ ((rlD d lz35).ns).length cK,.slice cL ((rlD d lz35).ws).length cM,vi ((rlD d lz35).t),vi ((rlD d lz35).r)],vi ((rlK d lz35:Nat) : Int),.bool (rlB d lz35)]) rfl rfl)<|Zf (Xw (zs:=[vi 0,.slice none 0 0,.slice none 0 0,vi 0,vi 0]) X0e rfl) ?_;rintro _ w9 ⟨b26,rfl,dF,f,H⟩
 have eV:aW≠b26:=by have:=o.lt;omega
 have eX:b20≠b26:=by have:=aO.lt;omega
 have e8:=Q0 p.size dF;have fA:=(J.bx p).away dF;have fB:=(L.bx p).away dF;have o:=o.bw f;have aO:=aO.bw f;have g:=g.bw f;have i:=i.bw f;have e:=e.bw f;have aM:=aM.bw f;have aN:=aN.bw f;have aF:=aF.bw f;have aG:=aG.bw f;have p:=btr p f;refine Zo (Vw [vi ((rlD d lz35).n),.slice cJ ((rlD d lz35).ns).length cK,.slice cL ((rlD d lz35).ws).length cM,vi ((rlD d lz35).t),vi ((rlD d lz35).r)] Xd H) ?_;rintro _ w10 ⟨ho,hb⟩;have B:=H;have o:=o.oy ho (by omega);have aO:=aO.oy ho (by omega);have g:=g.oT ho B rfl;have i:=i.oT ho B rfl;have e:=e.oT ho B rfl;have aM:=aM.oT ho B rfl;have aN:=aN.oT ho B rfl;have aF:=aF.oT ho B rfl;have aG:=aG.oT ho B rfl;have p:=Below.oy p ho e8;have H:=hb;refine Za rfl<|Za rfl<|ZX f9 fun a q _ fC=>?_;refine Q5 fun _ fD=>?_;refine X06 (fun a w=>Fr a 183 [(1,.slice aV more.length b0),(5,(pZ9 aW)),(6,.slice G lz35.length E),(9,.bool (rlB d lz35)),(10,(pZ9 b26)),(11,vi ((rlK d lz35:Nat) : Int)),(65,.bool ((((rlB d lz35) != (rlB d lz35))||(((rlK d lz35:Nat) : Int) != ((rlK d lz35:Nat) : Int)))||(!(decide ((rlD d lz35)=(rlD d lz35))))))]/\Below w10.heap.size w10 w) ?_ ?_
 ·have y:Below w10.heap.size w10 w10:=Below.refl _ _
  refine Zr q<|Zm rfl<|Zm rfl<|Ze (X6j Tryz.underlying4 rfl rfl)<|Zm rfl ?_
  refine Zg 55 rfl (fun W=>?_) (fun W=>?_)
  ·(iterate 3 refine Zp (gP W) ?_);refine Ze (X5 rfl W rfl)<|Zm rfl<|Zp (gP rfl) ?_;(iterate 3 refine Zp (gP rfl) ?_);refine Ze (X5 rfl rfl rfl) ?_;refine Zn fun a q=>?_
   have aA:Below w10.heap.size w10 w10:=y
   exact ⟨q.sub ⟨rfl,rfl,rfl,rfl,rfl,rfl,X1 rfl (by first|rfl|(simp only [W,Qw,Bool.false_and,Bool.true_or,Bool.false_or];done)|(simp only [D,W,Qw,Bool.false_and,Bool.true_or,Bool.false_or];done)|(simp [D,W];done)|(exfalso;revert W;simp)),trivial⟩,aA⟩
  refine Zv (gW W) (X3 rfl) ?_;refine Zv (gW W) (X3 rfl) ?_;refine Zv (gW W) (X1c rfl rfl) ?_;refine Ze (X9 rfl W rfl)<|Zm rfl ?_
  refine Zg 60 rfl (fun a6=>?_) (fun a6=>?_)
  ·(iterate 4 refine Zp (gP a6) ?_);refine Ze (X5 rfl a6 rfl) ?_;refine Zn fun a q=>?_
   have aA:Below w10.heap.size w10 w10:=y
   exact ⟨q.sub ⟨rfl,rfl,rfl,rfl,rfl,rfl,X1 rfl (by first|rfl|(simp only [W,a6,Qw,Bool.false_and,Bool.true_or,Bool.false_or];done)|(simp only [D,W,a6,Qw,Bool.false_and,Bool.true_or,Bool.false_or];done)|(simp [D,W,a6];done)|(exfalso;revert a6;simp)),trivial⟩,aA⟩
  refine Zv (gW a6) (Vn X2 aO) ?_;refine Zv (gW a6) (Vn X2 H) ?_;refine Zk (gW a6) (Vc (Xmf _ (rlD d lz35) (((rlD d lz35).ns).length) rfl dA dB aM.top dC dD aN.top f5 (rlD d lz35) (((rlD d lz35).ns).length) rfl cJ cK aF.top cL cM aG.top dR (Q0 X5y.len (by decide)) (Q0 X5y.m (by decide))) Xd5) ?_;rintro _ w11 ⟨rfl,f⟩;have p:=btr p f;have y:=btr y f;refine Zv (gW a6) (X0z rfl) ?_;refine Ze (X9 rfl a6 rfl) ?_;refine Zn fun a q=>?_
  have aA:Below w10.heap.size w10 w11:=y
  exact ⟨q.sub ⟨rfl,rfl,rfl,rfl,rfl,rfl,X1 rfl (by first|rfl|(simp only [W,a6,Qw,Bool.false_and,Bool.true_or,Bool.false_or];done)|(simp only [D,W,a6,Qw,Bool.false_and,Bool.true_or,Bool.false_or];done)|(simp [D,W,a6];done)|(exfalso;revert a6;simp)),trivial⟩,aA⟩
 rintro a w12 ⟨q,f⟩;have o:=o.bw f;have H:=H.bw f;have g:=g.bw f;have i:=i.bw f;have e:=e.bw f;have aF:=aF.bw f;have aG:=aG.bw f;have p:=btr p f;refine fD _ _ ?_
 refine Xf q rfl (fun bR=>?_) (fun bR=>?_)
 ·have C:=bR
  simp at bR
 have C:=bR;refine Q7<|fC _ _<|Q5 fun _ fE=>?_;refine Q5 fun _ fF=>?_;refine X06 (fun a w=>Fr a 183 [(1,.slice aV more.length b0),(5,(pZ9 aW)),(6,.slice G lz35.length E),(10,(pZ9 b26)),(11,vi ((rlK d lz35:Nat) : Int)),(76,.bool (((rlB d lz35)&&(((rlK d lz35:Nat) : Int)==(lz35.length:Int)))&&(decide (0<((rlK d lz35:Nat) : Int)))))]/\w12=w) ?_ ?_
 ·refine Zr q<|Zm rfl<|Zm rfl ?_
  refine Zg 67 rfl (fun M=>?_) (fun M=>?_)
  ·refine Zv (gW M) (X3 rfl) ?_;refine Zv (gW M) (X3 rfl) ?_;refine Zv (gW M) (X07 rfl X08) ?_;refine Zv (gW M) (X0f rfl rfl) ?_;refine Ze (X5 rfl M rfl)<|Zm rfl ?_
   refine Zg 73 rfl (fun aB=>?_) (fun aB=>?_)
   ·refine Zv (gW aB) (X3 rfl) ?_;refine Zv (gW aB) (X2o rfl rfl) ?_;refine Ze (X5 rfl aB rfl) ?_;refine Zn fun a q=>?_;exact ⟨q.sub ⟨rfl,rfl,rfl,rfl,rfl,X1 rfl (by first|rfl|(simp only [M,aB,Qw,Bool.false_and,Bool.true_or,Bool.false_or];done)|(simp only [D,C,M,aB,Qw,Bool.false_and,Bool.true_or,Bool.false_or];done)|(simp [D,C,M,aB];done)|(exfalso;revert aB;simp)),trivial⟩,rfl⟩
   (iterate 2 refine Zp (gP aB) ?_);refine Ze (X9 rfl aB rfl) ?_;refine Zn fun a q=>?_;exact ⟨q.sub ⟨rfl,rfl,rfl,rfl,rfl,X1 rfl (by first|rfl|(simp only [M,aB,Qw,Bool.false_and,Bool.true_or,Bool.false_or];done)|(simp only [D,C,M,aB,Qw,Bool.false_and,Bool.true_or,Bool.false_or];done)|(simp [D,C,M,aB];done)|(exfalso;revert aB;simp)),trivial⟩,rfl⟩
  (iterate 4 refine Zp (gP M) ?_);refine Ze (X9 rfl M rfl)<|Zm rfl<|Zp (gP rfl) ?_;refine Zp (gP rfl) ?_;refine Ze (X9 rfl rfl rfl) ?_;refine Zn fun a q=>?_;exact ⟨q.sub ⟨rfl,rfl,rfl,rfl,rfl,X1 rfl (by first|rfl|(simp only [M,Qw,Bool.false_and,Bool.true_or,Bool.false_or];done)|(simp only [D,C,M,Qw,Bool.false_and,Bool.true_or,Bool.false_or];done)|(simp [D,C,M];done)|(exfalso;revert M;simp)),trivial⟩,rfl⟩
 rintro a _ ⟨q,rfl⟩;refine fF _ _<|X06 (fun a w=>Fr a 183 [(1,.slice aV more.length b0)]/\Below w0.heap.size w0 w) ?_ ?_
 ·refine Xf q rfl (fun bS=>?_) (fun bS=>?_)
  ·have Q:=bS
   have gZ:rlB d lz35=true/\rlK d lz35=lz35.length/\0<rlK d lz35:=by have h8:=bS;simp at h8;exact ⟨h8.1.1,by omega,by omega⟩
   obtain ⟨e9,fG,i7⟩:=gZ
   have hG:goodD d=true:=(Xe3 e9).1
   obtain ⟨u0,eA⟩:=X4 (l:=lz35) (k:=0) (by omega)
   have dS:=Xfr e9 fG eA;have hJ:=(Xgs dS).1
   have i1:(alL d u0.u).length<=1000000:=Q0 (X9a _ _ _) (Nat.mul_le_mul bN.1 bN.1)
   have fH:wr (((rlK d lz35:Nat) : Int).tdiv 2)=(((rlK d lz35/2) : Nat) : Int):=Xji (by omega)
   refine Q5 fun _ fI=>?_;refine X06 (fun a w=>∃ b43 aR aX aS aT,Fr a 183 [(1,.slice aV more.length b0),(5,(pZ9 aW)),(6,.slice G lz35.length E),(10,(pZ9 b26)),(11,vi ((rlK d lz35:Nat) : Int)),(13,(pZ9 b43)),(14,vi ((rlK d (lz35.take (rlK d lz35/2)) : Nat) : Int)),(15,.bool (rlB d (lz35.take (rlK d lz35/2))))]/\w0.heap.size<=b43/\Blk w b43 31 [vi ((rlD d (lz35.take (rlK d lz35/2))).n),.slice aR ((rlD d (lz35.take (rlK d lz35/2))).ns).length aX,.slice aS ((rlD d (lz35.take (rlK d lz35/2))).ws).length aT,vi ((rlD d (lz35.take (rlK d lz35/2))).t),vi ((rlD d (lz35.take (rlK d lz35/2))).r)]/\aW≠b43/\b26≠b43/\Rd w w.heap.size 76 encNd aR ((rlD d (lz35.take (rlK d lz35/2))).ns)/\Rd w w.heap.size 84 encWr aS ((rlD d (lz35.take (rlK d lz35/2))).ws)/\((rlD d (lz35.take (rlK d lz35/2))).ws).length<=aT/\Below w12.heap.size w12 w) ?_ ?_
   ·have y:Below w12.heap.size w12 w12:=Below.refl _ _
    refine Xz none (fun j=>[11].contains j) mixed ?_;intro i8 f;have o:=o.bw f;have H:=H.bw f;have g:=g.bw f;have i:=i.bw f;have e:=e.bw f;have p:=btr p f;have y:=btr y f;refine Yb q<|Ye 0 rfl (Vn X2 o)<|Yo 1 rfl (fun _=>X3 rfl)<|Yo 2 rfl (fun _=>X3 rfl)<|Yo 3 rfl (fun _=>Xo4 rfl rfl rfl) ?_;have bT:=(e.top).takeK X0p (rlK d lz35/2);refine Yo 4 rfl (fun _=>X2d (l:=lz35) (k:=(rlK d lz35/2)) rfl rfl X08 X0v fH (by omega) aQ) ?_;refine Y2 5 10 ?_ ?_
    ·refine Yk rfl tv0 (X16 (vs:=[.agg #[vi d.n,.slice aI d.ns.length aJ,.slice aK d.ws.length aL,vi d.t,vi d.r],.slice G (lz35.take (rlK d lz35/2)).length E]) rfl X4x (X9d _ d d.ns.length rfl aI aJ g.top aK aL i.top b1 G E (lz35.take (rlK d lz35/2)) bT.top (by omega) (by omega) (by rw [Qn];omega))) (fun _ _ ⟨aR,aX,aS,aT,_,aD,aE,bL,f⟩=>f) ?_;rintro _ i9 ⟨aR,aX,aS,aT,rfl,aD,aE,bL,f⟩;have o:=o.bw f;have H:=H.bw f;have p:=btr p f;have y:=btr y f;refine Yo 6 rfl (fun _=>X3 rfl)<|Yo 7 rfl (fun _=>Xn (vs:=[.agg #[vi ((rlD d (lz35.take (rlK d lz35/2))).n),.slice aR ((rlD d (lz35.take (rlK d lz35/2))).ns).length aX,.slice aS ((rlD d (lz35.take (rlK d lz35/2))).ws).length aT,vi ((rlD d (lz35.take (rlK d lz35/2))).t),vi ((rlD d (lz35.take (rlK d lz35/2))).r)],vi ((rlK d (lz35.take (rlK d lz35/2)) : Nat) : Int),.bool (rlB d (lz35.take (rlK d lz35/2)))]) rfl rfl)<|Yo 8 rfl (fun _=>Xn (vs:=[.agg #[vi ((rlD d (lz35.take (rlK d lz35/2))).n),.slice aR ((rlD d (lz35.take (rlK d lz35/2))).ns).length aX,.slice aS ((rlD d (lz35.take (rlK d lz35/2))).ws).length aT,vi ((rlD d (lz35.take (rlK d lz35/2))).t),vi ((rlD d (lz35.take (rlK d lz35/2))).r)],vi ((rlK d (lz35.take (rlK d lz35/2)) : Nat) : Int),.bool (rlB d (lz35.take (rlK d lz35/2)))]) rfl rfl)<|Yo 9 rfl (fun _=>Xn (vs:=[.agg #[vi ((rlD d (lz35.take (rlK d lz35/2))).n),.slice aR ((rlD d (lz35.take (rlK d lz35/2))).ns).length aX,.slice aS ((rlD d (lz35.take (rlK d lz35/2))).ws).length aT,vi ((rlD d (lz35.take (rlK d lz35/2))).t),vi ((rlD d (lz35.take (rlK d lz35/2))).r)],vi ((rlK d (lz35.take (rlK d lz35/2)) : Nat) : Int),.bool (rlB d (lz35.take (rlK d lz35/2)))]) rfl rfl)<|Y1 10 ?_
     refine Yk rfl tv0 (Xw (zs:=[vi 0,.slice none 0 0,.slice none 0 0,vi 0,vi 0]) X0e rfl) (fun _ _ ⟨_,_,_,h,_⟩=>h) ?_;rintro _ iA ⟨b43,rfl,bU,f,aH⟩
     have b8:aW≠b43:=by have:=o.lt;omega
     have b9:b26≠b43:=by have:=H.lt;omega
     have bO:=Q0 p.size bU;have eB:=Q0 y.size bU;have fJ:=(J.bx p).away bU;have fK:=(L.bx p).away bU;have aD:=aD.bw f;have aE:=aE.bw f;have p:=btr p f;have y:=btr y f;refine Y1 11<|Yh rfl tv0 rfl (Vw [vi ((rlD d (lz35.take (rlK d lz35/2))).n),.slice aR ((rlD d (lz35.take (rlK d lz35/2))).ns).length aX,.slice aS ((rlD d (lz35.take (rlK d lz35/2))).ws).length aT,vi ((rlD d (lz35.take (rlK d lz35/2))).t),vi ((rlD d (lz35.take (rlK d lz35/2))).r)] Xd aH) ?_;rintro _ w16 ⟨ho,hb⟩;have B:=aH;have aD:=aD.oT ho B rfl;have aE:=aE.oT ho B rfl;have y:=Below.oy y ho eB;have p:=Below.oy p ho bO;have aH:=hb;refine Yo 12 rfl (fun _=>X0h rfl)<|Yo 13 rfl (fun _=>X0h rfl) ?_;refine Yd fun a q=>?_
     have aA:Below w12.heap.size w12 w16:=y
     exact ⟨b43,aR,aX,aS,aT,q.sb,bO,aH,b8,b9,aD.top,aE.top,bL,aA⟩
    refine Yk rfl tv0 (Xw (zs:=[vi 0,.slice none 0 0,.slice none 0 0,vi 0,vi 0]) X0e rfl) (fun _ _ ⟨_,_,_,h,_⟩=>h) ?_;rintro _ iB ⟨b46,rfl,bW,f,bA⟩
    have cN:aW≠b46:=by have:=o.lt;omega
    have cO:b26≠b46:=by have:=H.lt;omega
    have dG:=Q0 p.size bW;have eC:=Q0 y.size bW;have fL:=(J.bx p).away bW;have fM:=(L.bx p).away bW;have g:=g.bw f;have i:=i.bw f;have bT:=bT.bw f;have p:=btr p f;have y:=btr y f;refine Y1 5<|Yk rfl tv0 (X16 (vs:=[.agg #[vi d.n,.slice aI d.ns.length aJ,.slice aK d.ws.length aL,vi d.t,vi d.r],.slice G (lz35.take (rlK d lz35/2)).length E]) rfl X4x (X9d _ d d.ns.length rfl aI aJ g.top aK aL i.top b1 G E (lz35.take (rlK d lz35/2)) bT.top (by omega) (by omega) (by rw [Qn];omega))) (fun _ _ ⟨cP,cQ,cR,cS,_,bX,bY,dT,f⟩=>f) ?_;rintro _ iC ⟨cP,cQ,cR,cS,rfl,bX,bY,dT,f⟩;have bA:=bA.bw f;have p:=btr p f;have y:=btr y f;refine Yo 6 rfl (fun _=>X3 rfl)<|Yo 7 rfl (fun _=>Xn (vs:=[.agg #[vi ((rlD d (lz35.take (rlK d lz35/2))).n),.slice cP ((rlD d (lz35.take (rlK d lz35/2))).ns).length cQ,.slice cR ((rlD d (lz35.take (rlK d lz35/2))).ws).length cS,vi ((rlD d (lz35.take (rlK d lz35/2))).t),vi ((rlD d (lz35.take (rlK d lz35/2))).r)],vi ((rlK d (lz35.take (rlK d lz35/2)) : Nat) : Int),.bool (rlB d (lz35.take (rlK d lz35/2)))]) rfl rfl)<|Yo 8 rfl (fun _=>Xn (vs:=[.agg #[vi ((rlD d (lz35.take (rlK d lz35/2))).n),.slice cP ((rlD d (lz35.take (rlK d lz35/2))).ns).length cQ,.slice cR ((rlD d (lz35.take (rlK d lz35/2))).ws).length cS,vi ((rlD d (lz35.take (rlK d lz35/2))).t),vi ((rlD d (lz35.take (rlK d lz35/2))).r)],vi ((rlK d (lz35.take (rlK d lz35/2)) : Nat) : Int),.bool (rlB d (lz35.take (rlK d lz35/2)))]) rfl rfl)<|Yo 9 rfl (fun _=>Xn (vs:=[.agg #[vi ((rlD d (lz35.take (rlK d lz35/2))).n),.slice cP ((rlD d (lz35.take (rlK d lz35/2))).ns).length cQ,.slice cR ((rlD d (lz35.take (rlK d lz35/2))).ws).length cS,vi ((rlD d (lz35.take (rlK d lz35/2))).t),vi ((rlD d (lz35.take (rlK d lz35/2))).r)],vi ((rlK d (lz35.take (rlK d lz35/2)) : Nat) : Int),.bool (rlB d (lz35.take (rlK d lz35/2)))]) rfl rfl)<|Y1 11 ?_
    refine Yh rfl tv0 rfl (Vw [vi ((rlD d (lz35.take (rlK d lz35/2))).n),.slice cP ((rlD d (lz35.take (rlK d lz35/2))).ns).length cQ,.slice cR ((rlD d (lz35.take (rlK d lz35/2))).ws).length cS,vi ((rlD d (lz35.take (rlK d lz35/2))).t),vi ((rlD d (lz35.take (rlK d lz35/2))).r)] Xd bA) ?_;rintro _ w19 ⟨ho,hb⟩;have B:=bA;have bX:=bX.oT ho B rfl;have bY:=bY.oT ho B rfl;have y:=Below.oy y ho eC;have p:=Below.oy p ho dG;have bA:=hb;refine Yo 12 rfl (fun _=>X0h rfl)<|Yo 13 rfl (fun _=>X0h rfl) ?_;refine Yd fun a q=>?_
    have aA:Below w12.heap.size w12 w19:=y
    exact ⟨b46,cP,cQ,cR,cS,q.sub ⟨rfl,rfl,rfl,rfl,rfl,(by first|rfl|(simp [look,D,C,Q])),rfl,rfl,trivial⟩,dG,bA,cN,cO,bX.top,bY.top,dT,aA⟩
   rintro a w20 ⟨b43,aR,aX,aS,aT,q,bO,aH,b8,b9,aD,aE,bL,f⟩;have o:=o.bw f;have H:=H.bw f;have g:=g.bw f;have i:=i.bw f;have e:=e.bw f;have aF:=aF.bw f;have aG:=aG.bw f;have p:=btr p f;refine fI _ _<|Q5 fun _ fN=>?_;refine X06 (fun a w=>∃ b55 b2 b7 b3 b4,Fr a 183 [(1,.slice aV more.length b0),(5,(pZ9 aW)),(6,.slice G lz35.length E),(10,(pZ9 b26)),(11,vi ((rlK d lz35:Nat) : Int)),(14,vi ((rlK d (lz35.take (rlK d lz35/2)) : Nat) : Int)),(15,.bool (rlB d (lz35.take (rlK d lz35/2)))),(16,(pZ9 b55)),(17,vi ((rlK (rlD d (lz35.take (rlK d lz35/2))) (lz35.drop (rlK d lz35/2)) : Nat) : Int)),(18,.bool (rlB (rlD d (lz35.take (rlK d lz35/2))) (lz35.drop (rlK d lz35/2))))]/\w0.heap.size<=b55/\Blk w b55 31 [vi ((rlD (rlD d (lz35.take (rlK d lz35/2))) (lz35.drop (rlK d lz35/2))).n),.slice b2 ((rlD (rlD d (lz35.take (rlK d lz35/2))) (lz35.drop (rlK d lz35/2))).ns).length b7,.slice b3 ((rlD (rlD d (lz35.take (rlK d lz35/2))) (lz35.drop (rlK d lz35/2))).ws).length b4,vi ((rlD (rlD d (lz35.take (rlK d lz35/2))) (lz35.drop (rlK d lz35/2))).t),vi ((rlD (rlD d (lz35.take (rlK d lz35/2))) (lz35.drop (rlK d lz35/2))).r)]/\aW≠b55/\b26≠b55/\b43≠b55/\Rd w w.heap.size 76 encNd b2 ((rlD (rlD d (lz35.take (rlK d lz35/2))) (lz35.drop (rlK d lz35/2))).ns)/\Rd w w.heap.size 84 encWr b3 ((rlD (rlD d (lz35.take (rlK d lz35/2))) (lz35.drop (rlK d lz35/2))).ws)/\((rlD (rlD d (lz35.take (rlK d lz35/2))) (lz35.drop (rlK d lz35/2))).ws).length<=b4/\Below w20.heap.size w20 w) ?_ ?_
   ·have y:Below w20.heap.size w20 w20:=Below.refl _ _
    refine Xz none (fun j=>[11].contains j) mixed ?_;intro iD f;have o:=o.bw f;have H:=H.bw f;have aH:=aH.bw f;have e:=e.bw f;have aD:=aD.bw f;have aE:=aE.bw f;have p:=btr p f;have y:=btr y f;refine Yb q<|Ye 0 rfl (Vn X2 aH)<|Yo 1 rfl (fun _=>X3 rfl)<|Yo 2 rfl (fun _=>X3 rfl)<|Yo 3 rfl (fun _=>Xo4 rfl rfl rfl) ?_;have bZ:=(e.top).dropK X0p (c:=E) aQ (rlK d lz35/2);refine Yo 4 rfl (fun _=>X3z (l:=lz35) (k:=(rlK d lz35/2)) rfl rfl X08 X0v fH (by omega)) ?_;refine Y2 5 10 ?_ ?_
    ·refine Yk rfl tv0 (X16 (vs:=[.agg #[vi ((rlD d (lz35.take (rlK d lz35/2))).n),.slice aR ((rlD d (lz35.take (rlK d lz35/2))).ns).length aX,.slice aS ((rlD d (lz35.take (rlK d lz35/2))).ws).length aT,vi ((rlD d (lz35.take (rlK d lz35/2))).t),vi ((rlD d (lz35.take (rlK d lz35/2))).r)],.slice (if E=(rlK d lz35/2) then G else G.map (·.add ((rlK d lz35/2)*3))) (lz35.drop (rlK d lz35/2)).length (E-(rlK d lz35/2))]) rfl X4x (X9d _ (rlD d (lz35.take (rlK d lz35/2))) (((rlD d (lz35.take (rlK d lz35/2))).ns).length) rfl aR aX aD.top aS aT aE.top bL (if E=(rlK d lz35/2) then G else G.map (·.add ((rlK d lz35/2)*3))) (E-(rlK d lz35/2)) (lz35.drop (rlK d lz35/2)) bZ.top (Q0 X5y.len (by decide)) X5y.m (by rw [List.length_drop];omega))) (fun _ _ ⟨b2,b7,b3,b4,_,aY,aZ,cA,f⟩=>f) ?_;rintro _ iE ⟨b2,b7,b3,b4,rfl,aY,aZ,cA,f⟩;have o:=o.bw f;have H:=H.bw f;have aH:=aH.bw f;have p:=btr p f;have y:=btr y f;refine Yo 6 rfl (fun _=>X3 rfl)<|Yo 7 rfl (fun _=>Xn (vs:=[.agg #[vi ((rlD (rlD d (lz35.take (rlK d lz35/2))) (lz35.drop (rlK d lz35/2))).n),.slice b2 ((rlD (rlD d (lz35.take (rlK d lz35/2))) (lz35.drop (rlK d lz35/2))).ns).length b7,.slice b3 ((rlD (rlD d (lz35.take (rlK d lz35/2))) (lz35.drop (rlK d lz35/2))).ws).length b4,vi ((rlD (rlD d (lz35.take (rlK d lz35/2))) (lz35.drop (rlK d lz35/2))).t),vi ((rlD (rlD d (lz35.take (rlK d lz35/2))) (lz35.drop (rlK d lz35/2))).r)],vi ((rlK (rlD d (lz35.take (rlK d lz35/2))) (lz35.drop (rlK d lz35/2)) : Nat) : Int),.bool (rlB (rlD d (lz35.take (rlK d lz35/2))) (lz35.drop (rlK d lz35/2)))]) rfl rfl)<|Yo 8 rfl (fun _=>Xn (vs:=[.agg #[vi ((rlD (rlD d (lz35.take (rlK d lz35/2))) (lz35.drop (rlK d lz35/2))).n),.slice b2 ((rlD (rlD d (lz35.take (rlK d lz35/2))) (lz35.drop (rlK d lz35/2))).ns).length b7,.slice b3 ((rlD (rlD d (lz35.take (rlK d lz35/2))) (lz35.drop (rlK d lz35/2))).ws).length b4,vi ((rlD (rlD d (lz35.take (rlK d lz35/2))) (lz35.drop (rlK d lz35/2))).t),vi ((rlD (rlD d (lz35.take (rlK d lz35/2))) (lz35.drop (rlK d lz35/2))).r)],vi ((rlK (rlD d (lz35.take (rlK d lz35/2))) (lz35.drop (rlK d lz35/2)) : Nat) : Int),.bool (rlB (rlD d (lz35.take (rlK d lz35/2))) (lz35.drop (rlK d lz35/2)))]) rfl rfl)<|Yo 9 rfl (fun _=>Xn (vs:=[.agg #[vi ((rlD (rlD d (lz35.take (rlK d lz35/2))) (lz35.drop (rlK d lz35/2))).n),.slice b2 ((rlD (rlD d (lz35.take (rlK d lz35/2))) (lz35.drop (rlK d lz35/2))).ns).length b7,.slice b3 ((rlD (rlD d (lz35.take (rlK d lz35/2))) (lz35.drop (rlK d lz35/2))).ws).length b4,vi ((rlD (rlD d (lz35.take (rlK d lz35/2))) (lz35.drop (rlK d lz35/2))).t),vi ((rlD (rlD d (lz35.take (rlK d lz35/2))) (lz35.drop (rlK d lz35/2))).r)],vi ((rlK (rlD d (lz35.take (rlK d lz35/2))) (lz35.drop (rlK d lz35/2)) : Nat) : Int),.bool (rlB (rlD d (lz35.take (rlK d lz35/2))) (lz35.drop (rlK d lz35/2)))]) rfl rfl)<|Y1 10 ?_
     refine Yk rfl tv0 (Xw (zs:=[vi 0,.slice none 0 0,.slice none 0 0,vi 0,vi 0]) X0e rfl) (fun _ _ ⟨_,_,_,h,_⟩=>h) ?_;rintro _ iF ⟨b55,rfl,cB,f,bB⟩
     have bC:aW≠b55:=by have:=o.lt;omega
     have bD:b26≠b55:=by have:=H.lt;omega
     have bE:b43≠b55:=by have:=aH.lt;omega
     have bP:=Q0 p.size cB;have eD:=Q0 y.size cB;have fO:=(J.bx p).away cB;have fP:=(L.bx p).away cB;have aY:=aY.bw f;have aZ:=aZ.bw f;have p:=btr p f;have y:=btr y f;refine Y1 11<|Yh rfl tv0 rfl (Vw [vi ((rlD (rlD d (lz35.take (rlK d lz35/2))) (lz35.drop (rlK d lz35/2))).n),.slice b2 ((rlD (rlD d (lz35.take (rlK d lz35/2))) (lz35.drop (rlK d lz35/2))).ns).length b7,.slice b3 ((rlD (rlD d (lz35.take (rlK d lz35/2))) (lz35.drop (rlK d lz35/2))).ws).length b4,vi ((rlD (rlD d (lz35.take (rlK d lz35/2))) (lz35.drop (rlK d lz35/2))).t),vi ((rlD (rlD d (lz35.take (rlK d lz35/2))) (lz35.drop (rlK d lz35/2))).r)] Xd bB) ?_;rintro _ w24 ⟨ho,hb⟩;have B:=bB;have aY:=aY.oT ho B rfl;have aZ:=aZ.oT ho B rfl;have y:=Below.oy y ho eD;have p:=Below.oy p ho bP;have bB:=hb;refine Yo 12 rfl (fun _=>X0h rfl)<|Yo 13 rfl (fun _=>X0h rfl) ?_;refine Yd fun a q=>?_
     have aA:Below w20.heap.size w20 w24:=y
     exact ⟨b55,b2,b7,b3,b4,q.sb,bP,bB,bC,bD,bE,aY.top,aZ.top,cA,aA⟩
    refine Yk rfl tv0 (Xw (zs:=[vi 0,.slice none 0 0,.slice none 0 0,vi 0,vi 0]) X0e rfl) (fun _ _ ⟨_,_,_,h,_⟩=>h) ?_;rintro _ iG ⟨b58,rfl,cC,f,bF⟩
    have cT:aW≠b58:=by have:=o.lt;omega
    have cU:b26≠b58:=by have:=H.lt;omega
    have cV:b43≠b58:=by have:=aH.lt;omega
    have dH:=Q0 p.size cC;have eE:=Q0 y.size cC;have fQ:=(J.bx p).away cC;have fR:=(L.bx p).away cC;have aD:=aD.bw f;have aE:=aE.bw f;have bZ:=bZ.bw f;have p:=btr p f;have y:=btr y f;refine Y1 5<|Yk rfl tv0 (X16 (vs:=[.agg #[vi ((rlD d (lz35.take (rlK d lz35/2))).n),.slice aR ((rlD d (lz35.take (rlK d lz35/2))).ns).length aX,.slice aS ((rlD d (lz35.take (rlK d lz35/2))).ws).length aT,vi ((rlD d (lz35.take (rlK d lz35/2))).t),vi ((rlD d (lz35.take (rlK d lz35/2))).r)],.slice (if E=(rlK d lz35/2) then G else G.map (·.add ((rlK d lz35/2)*3))) (lz35.drop (rlK d lz35/2)).length (E-(rlK d lz35/2))]) rfl X4x (X9d _ (rlD d (lz35.take (rlK d lz35/2))) (((rlD d (lz35.take (rlK d lz35/2))).ns).length) rfl aR aX aD.top aS aT aE.top bL (if E=(rlK d lz35/2) then G else G.map (·.add ((rlK d lz35/2)*3))) (E-(rlK d lz35/2)) (lz35.drop (rlK d lz35/2)) bZ.top (Q0 X5y.len (by decide)) X5y.m (by rw [List.length_drop];omega))) (fun _ _ ⟨cW,cX,cY,cZ,_,cD,cE,dU,f⟩=>f) ?_;rintro _ iH ⟨cW,cX,cY,cZ,rfl,cD,cE,dU,f⟩;have bF:=bF.bw f;have p:=btr p f;have y:=btr y f;refine Yo 6 rfl (fun _=>X3 rfl)<|Yo 7 rfl (fun _=>Xn (vs:=[.agg #[vi ((rlD (rlD d (lz35.take (rlK d lz35/2))) (lz35.drop (rlK d lz35/2))).n),.slice cW ((rlD (rlD d (lz35.take (rlK d lz35/2))) (lz35.drop (rlK d lz35/2))).ns).length cX,.slice cY ((rlD (rlD d (lz35.take (rlK d lz35/2))) (lz35.drop (rlK d lz35/2))).ws).length cZ,vi ((rlD (rlD d (lz35.take (rlK d lz35/2))) (lz35.drop (rlK d lz35/2))).t),vi ((rlD (rlD d (lz35.take (rlK d lz35/2))) (lz35.drop (rlK d lz35/2))).r)],vi ((rlK (rlD d (lz35.take (rlK d lz35/2))) (lz35.drop (rlK d lz35/2)) : Nat) : Int),.bool (rlB (rlD d (lz35.take (rlK d lz35/2))) (lz35.drop (rlK d lz35/2)))]) rfl rfl)<|Yo 8 rfl (fun _=>Xn (vs:=[.agg #[vi ((rlD (rlD d (lz35.take (rlK d lz35/2))) (lz35.drop (rlK d lz35/2))).n),.slice cW ((rlD (rlD d (lz35.take (rlK d lz35/2))) (lz35.drop (rlK d lz35/2))).ns).length cX,.slice cY ((rlD (rlD d (lz35.take (rlK d lz35/2))) (lz35.drop (rlK d lz35/2))).ws).length cZ,vi ((rlD (rlD d (lz35.take (rlK d lz35/2))) (lz35.drop (rlK d lz35/2))).t),vi ((rlD (rlD d (lz35.take (rlK d lz35/2))) (lz35.drop (rlK d lz35/2))).r)],vi ((rlK (rlD d (lz35.take (rlK d lz35/2))) (lz35.drop (rlK d lz35/2)) : Nat) : Int),.bool (rlB (rlD d (lz35.take (rlK d lz35/2))) (lz35.drop (rlK d lz35/2)))]) rfl rfl)<|Yo 9 rfl (fun _=>Xn (vs:=[.agg #[vi ((rlD (rlD d (lz35.take (rlK d lz35/2))) (lz35.drop (rlK d lz35/2))).n),.slice cW ((rlD (rlD d (lz35.take (rlK d lz35/2))) (lz35.drop (rlK d lz35/2))).ns).length cX,.slice cY ((rlD (rlD d (lz35.take (rlK d lz35/2))) (lz35.drop (rlK d lz35/2))).ws).length cZ,vi ((rlD (rlD d (lz35.take (rlK d lz35/2))) (lz35.drop (rlK d lz35/2))).t),vi ((rlD (rlD d (lz35.take (rlK d lz35/2))) (lz35.drop (rlK d lz35/2))).r)],vi ((rlK (rlD d (lz35.take (rlK d lz35/2))) (lz35.drop (rlK d lz35/2)) : Nat) : Int),.bool (rlB (rlD d (lz35.take (rlK d lz35/2))) (lz35.drop (rlK d lz35/2)))]) rfl rfl)<|Y1 11 ?_
    refine Yh rfl tv0 rfl (Vw [vi ((rlD (rlD d (lz35.take (rlK d lz35/2))) (lz35.drop (rlK d lz35/2))).n),.slice cW ((rlD (rlD d (lz35.take (rlK d lz35/2))) (lz35.drop (rlK d lz35/2))).ns).length cX,.slice cY ((rlD (rlD d (lz35.take (rlK d lz35/2))) (lz35.drop (rlK d lz35/2))).ws).length cZ,vi ((rlD (rlD d (lz35.take (rlK d lz35/2))) (lz35.drop (rlK d lz35/2))).t),vi ((rlD (rlD d (lz35.take (rlK d lz35/2))) (lz35.drop (rlK d lz35/2))).r)] Xd bF) ?_;rintro _ w27 ⟨ho,hb⟩;have B:=bF;have cD:=cD.oT ho B rfl;have cE:=cE.oT ho B rfl;have y:=Below.oy y ho eE;have p:=Below.oy p ho dH;have bF:=hb;refine Yo 12 rfl (fun _=>X0h rfl)<|Yo 13 rfl (fun _=>X0h rfl) ?_;refine Yd fun a q=>?_
    have aA:Below w20.heap.size w20 w27:=y
    exact ⟨b58,cW,cX,cY,cZ,q.sub ⟨rfl,rfl,rfl,rfl,rfl,rfl,rfl,(by first|rfl|(simp [look,D,C,Q])),rfl,rfl,trivial⟩,dH,bF,cT,cU,cV,cD.top,cE.top,dU,aA⟩
   rintro a w28 ⟨b55,b2,b7,b3,b4,q,bP,bB,bC,bD,bE,aY,aZ,cA,f⟩;have o:=o.bw f;have H:=H.bw f;have g:=g.bw f;have i:=i.bw f;have e:=e.bw f;have aF:=aF.bw f;have aG:=aG.bw f;have p:=btr p f;refine fN _ _<|Q5 fun _ fS=>?_;refine Q5 fun _ fT=>?_;refine X06 (fun a w=>Fr a 183 [(1,.slice aV more.length b0),(5,(pZ9 aW)),(6,.slice G lz35.length E),(115,.bool ((((!(rlB d (lz35.take (rlK d lz35/2))))||(!(rlB (rlD d (lz35.take (rlK d lz35/2))) (lz35.drop (rlK d lz35/2)))))||((wr (((rlK d (lz35.take (rlK d lz35/2)) : Nat) : Int)+((rlK (rlD d (lz35.take (rlK d lz35/2))) (lz35.drop (rlK d lz35/2)) : Nat) : Int))) != ((rlK d lz35:Nat) : Int)))||(!(decide ((rlD (rlD d (lz35.take (rlK d lz35/2))) (lz35.drop (rlK d lz35/2)))=(rlD d lz35))))))]/\Below w28.heap.size w28 w) ?_ ?_
   ·have y:Below w28.heap.size w28 w28:=Below.refl _ _
    refine Zr q<|Zm rfl<|Ze (X0z rfl)<|Zm rfl ?_
    refine Zg 99 rfl (fun U=>?_) (fun U=>?_)
    ·(iterate 2 refine Zp (gP U) ?_);refine Ze (X5 rfl U rfl)<|Zm rfl<|Zp (gP rfl) ?_;(iterate 4 refine Zp (gP rfl) ?_);refine Ze (X5 rfl rfl rfl)<|Zm rfl<|Zp (gP rfl) ?_;(iterate 3 refine Zp (gP rfl) ?_);refine Ze (X5 rfl rfl rfl) ?_;refine Zn fun a q=>?_
     have aA:Below w28.heap.size w28 w28:=y
     exact ⟨q.sub ⟨rfl,rfl,rfl,X1 rfl (by first|rfl|(simp only [U,Qw,Bool.false_and,Bool.true_or,Bool.false_or];done)|(simp only [D,C,Q,U,Qw,Bool.false_and,Bool.true_or,Bool.false_or];done)|(simp [D,C,Q,U];done)|(exfalso;revert U;simp)),trivial⟩,aA⟩
    refine Zv (gW U) (X3 rfl) ?_;refine Zv (gW U) (X0z rfl) ?_;refine Ze (X9 rfl U rfl)<|Zm rfl ?_
    refine Zg 103 rfl (fun I=>?_) (fun I=>?_)
    ·(iterate 5 refine Zp (gP I) ?_);refine Ze (X5 rfl I rfl)<|Zm rfl<|Zp (gP rfl) ?_;(iterate 3 refine Zp (gP rfl) ?_);refine Ze (X5 rfl rfl rfl) ?_;refine Zn fun a q=>?_
     have aA:Below w28.heap.size w28 w28:=y
     exact ⟨q.sub ⟨rfl,rfl,rfl,X1 rfl (by first|rfl|(simp only [U,I,Qw,Bool.false_and,Bool.true_or,Bool.false_or];done)|(simp only [D,C,Q,U,I,Qw,Bool.false_and,Bool.true_or,Bool.false_or];done)|(simp [D,C,Q,U,I];done)|(exfalso;revert I;simp)),trivial⟩,aA⟩
    refine Zv (gW I) (X3 rfl) ?_;refine Zv (gW I) (X3 rfl) ?_;refine Zv (gW I) (X3h rfl rfl) ?_;refine Zv (gW I) (X3 rfl) ?_;refine Zv (gW I) (X1c rfl rfl) ?_;refine Ze (X9 rfl I rfl)<|Zm rfl ?_
    refine Zg 110 rfl (fun a7=>?_) (fun a7=>?_)
    ·(iterate 4 refine Zp (gP a7) ?_);refine Ze (X5 rfl a7 rfl) ?_;refine Zn fun a q=>?_
     have aA:Below w28.heap.size w28 w28:=y
     exact ⟨q.sub ⟨rfl,rfl,rfl,X1 rfl (by first|rfl|(simp only [U,I,a7,Qw,Bool.false_and,Bool.true_or,Bool.false_or];done)|(simp only [D,C,Q,U,I,a7,Qw,Bool.false_and,Bool.true_or,Bool.false_or];done)|(simp [D,C,Q,U,I,a7];done)|(exfalso;revert a7;simp)),trivial⟩,aA⟩
    refine Zv (gW a7) (Vn X2 bB) ?_;refine Zv (gW a7) (Vn X2 H) ?_;refine Zk (gW a7) (Vc (Xmf _ (rlD (rlD d (lz35.take (rlK d lz35/2))) (lz35.drop (rlK d lz35/2))) (((rlD (rlD d (lz35.take (rlK d lz35/2))) (lz35.drop (rlK d lz35/2))).ns).length) rfl b2 b7 aY.top b3 b4 aZ.top cA (rlD d lz35) (((rlD d lz35).ns).length) rfl cJ cK aF.top cL cM aG.top dR (Q0 X5y.len (by decide)) (Q0 X5y.m (by decide))) Xd5) ?_;rintro _ w29 ⟨rfl,f⟩;have p:=btr p f;have y:=btr y f;refine Zv (gW a7) (X0z rfl) ?_;refine Ze (X9 rfl a7 rfl) ?_;refine Zn fun a q=>?_
    have aA:Below w28.heap.size w28 w29:=y
    exact ⟨q.sub ⟨rfl,rfl,rfl,X1 rfl (by first|rfl|(simp only [U,I,a7,Qw,Bool.false_and,Bool.true_or,Bool.false_or];done)|(simp only [D,C,Q,U,I,a7,Qw,Bool.false_and,Bool.true_or,Bool.false_or];done)|(simp [D,C,Q,U,I,a7];done)|(exfalso;revert a7;simp)),trivial⟩,aA⟩
   rintro a iI ⟨q,f⟩;have o:=o.bw f;have g:=g.bw f;have i:=i.bw f;have e:=e.bw f;have p:=btr p f;refine fT _ _ ?_
   refine Xf q rfl (fun cF=>?_) (fun cF=>?_)
   ·have b5:=cF
    have h8:=cF;rw [Xnc e9 fG (by omega) rfl] at h8;cases h8
   have b5:=cF;refine Q7<|fS _ _<|Q5 fun _ fU=>?_;refine Xz none (fun _=>false) mixed ?_;intro iJ f;have o:=o.bw f;have g:=g.bw f;have i:=i.bw f;have e:=e.bw f;have p:=btr p f;refine Yb q<|Ye 0 rfl (Vn X2 o)<|Yo 1 rfl (fun _=>X3 rfl)<|Yi (k:=0) (u:=u0) (enc:=encRz) (l:=lz35) 2 rfl tv0 rfl rfl X08 X0v X0p e eA rfl ?_;intro iK eF;refine Yo 3 rfl (fun _=>X1y rfl X1p)<|Ye 4 rfl (X0 rfl Xa (eF.drop 0))<|Y1 5 ?_;refine Yk rfl tv0 (Vc (Xs4 _ d d.ns.length rfl aI aJ g.top aK aL i.top b1 u0.u hG hJ) Xir) (fun _ _ ⟨d5,d6,_,aC,f⟩=>f) ?_;rintro _ iL ⟨d5,d6,rfl,aC,f⟩;have aC:=aC.lower p.size;have e:=e.bw f;have p:=btr p f;refine Yo 6 rfl (fun _=>X3 rfl)<|Yo 7 rfl (fun _=>Xn (vs:=[.slice d5 (alL d u0.u).length d6,.bool true]) rfl rfl)<|Yo 8 rfl (fun _=>Xn (vs:=[.slice d5 (alL d u0.u).length d6,.bool true]) rfl rfl)<|Yo 9 rfl (fun _=>X0h rfl)<|Yo 10 rfl (fun _=>X0h rfl) ?_;refine Yd fun a q=>?_;refine fU _ _<|Zs q fun _ fV=>?_;refine Za rfl<|ZX fV fun a q _ fW=>?_;refine Zs q fun _ fX=>?_;refine Zm rfl<|Ze (X07 rfl X08)<|Zm rfl<|Zt fX fun a q=>?_;refine Q8<|X02 (σ:=Nat×Bool) (fun (s:Nat×Bool) (a:Act) (w:World)=>match s with|(k,b)=>Fr a 183 [(1,.slice aV more.length b0),(6,.slice G lz35.length E),(20,.bool true),(21,.bool b),(125,.slice d5 (alL d u0.u).length d6),(126,vi ((alL d u0.u).length:Int)),(127,vi (k:Int))]/\(k<=(alL d u0.u).length)/\(b=(((alL d u0.u).take k).any fun z=>z==u0))/\Rd w w2.heap.size 57 encRz G lz35/\Own w w0.heap.size 57 3 encRz d5 d6 (alL d u0.u)/\lz35.length<=E/\Below w0.heap.size w0 w) (fun (s:Nat×Bool)=>match s with|(k,b)=>(alL d u0.u).length-k) (0,false) ?_ ?_
   ·exact ⟨q.sb,(Qf _),rfl,e,aC,aQ,p⟩
   rintro ⟨k,b⟩ a hS ⟨q,hk,fY,e,aC,aQ,p⟩;refine Zs q fun _ fZ=>?_;refine Ze (X0i rfl rfl)<|ZX fZ fun a q _ g5=>?_
   refine Xf q rfl (fun aU=>?_) (fun aU=>?_)
   ·have b6:=aU;have aU:=Q2 aU
    obtain ⟨iM,i2⟩:=X4 (l:=(alL d u0.u)) (k:=k) (by omega)
    obtain ⟨u9,dI⟩:=X4 (l:=alL d u0.u) (k:=k) (by have:=aU;omega)
    refine Q7<|g5 _ _<|Q5 fun _ g6=>?_;refine Q8<|Zs q fun _ g7=>?_;refine Zi (k:=k) (u:=u9) (enc:=encRz) (l:=(alL d u0.u)) tv0 rfl rfl X08 X0v X0p aC.rd dI rfl ?_;intro iN eG;refine Ze (X00 (l:=[vi u9.u,vi u9.a,vi u9.b]) rfl X10 eG rfl)<|Zf (Xw (zs:=[vi 0,vi 0,vi 0]) X2m rfl) ?_;rintro _ iO ⟨iP,rfl,bM,f,bG⟩;have eH:=Q0 p.size bM;have g8:=(J.bx p).away bM;have gA:=(L.bx p).away bM;have d7:=e.away bM;have d8:=aC.away bM;have e:=e.bw f;have aC:=aC.bw f;have p:=btr p f;refine Zo (Vw [vi u9.u,vi u9.a,vi u9.b] X0v bG) ?_;rintro _ w35 ⟨ho,hb⟩;have B:=bG;have e:=e.onlyA ho d7;have aC:=aC.onlyA ho d8;have p:=Below.oy p ho eH;have bG:=hb;refine Zt g7 fun a q=>?_;refine X06 (fun a w=>Fr a 183 [(1,.slice aV more.length b0),(6,.slice G lz35.length E),(20,.bool true),(21,.bool (b||(decide (u9=u0)))),(125,.slice d5 (alL d u0.u).length d6),(126,vi ((alL d u0.u).length:Int)),(127,vi (k:Int))]/\Below w35.heap.size w35 w) ?_ ?_
    ·have y:Below w35.heap.size w35 w35:=Below.refl _ _
     refine Xz none (fun _=>false) mixed ?_;intro w36 f;have bG:=bG.bw f;have e:=e.bw f;have p:=btr p f;have y:=btr y f;refine Yb q<|Yo 0 rfl (fun _=>X3 rfl)<|Yo 1 rfl (fun _=>X3 rfl) ?_
     refine Yl 132 rfl (fun N=>?_) (fun N=>?_)
     ·refine Yp 2 rfl (gP N) ?_;refine Yp 3 rfl (gP N) ?_;refine Yp 4 rfl (gP N) ?_;refine Yp 5 rfl (gP N) ?_;refine Yp 6 rfl (gP N) ?_;refine Yo 7 rfl (fun _=>X5 rfl N rfl)<|Yo 8 rfl (fun _=>X0h rfl) ?_;refine Yd fun a q=>?_
      have aA:Below w35.heap.size w35 w36:=y
      exact ⟨q.sub ⟨rfl,rfl,rfl,X1 rfl (by first|rfl|(simp only [N,Qw,Bool.false_and,Bool.true_or,Bool.false_or];done)|(simp only [D,C,Q,b5,b6,N,Qw,Bool.false_and,Bool.true_or,Bool.false_or];done)|(simp [D,C,Q,b5,b6,N];done)|(exfalso;revert N;simp)),rfl,rfl,rfl,trivial⟩,aA⟩
     refine Yv 2 rfl (gW N) (Vn X10 bG) ?_;refine Yu 3 rfl (gW N) (fun _=>X3 rfl) ?_;refine Yi (k:=0) (u:=u0) (enc:=encRz) (l:=lz35) 4 rfl ⟨_,_,rfl,rfl,N⟩ rfl rfl X08 X0v X0p e eA rfl ?_;intro iQ eI;refine Yv 5 rfl (gW N) (X00 (l:=[vi u0.u,vi u0.a,vi u0.b]) rfl X10 eI rfl) ?_;refine Yu 6 rfl (gW N) (fun _=>Xls rfl rfl Xdr (fun w=>Xcv 9998 u9 u0 w)) ?_;refine Yo 7 rfl (fun _=>X9 rfl N rfl)<|Yo 8 rfl (fun _=>X0h rfl) ?_;refine Yd fun a q=>?_
     have aA:Below w35.heap.size w35 w36:=y
     exact ⟨q.sub ⟨rfl,rfl,rfl,X1 rfl (by first|rfl|(simp only [N,Qw,Bool.false_and,Bool.true_or,Bool.false_or];done)|(simp only [D,C,Q,b5,b6,N,Qw,Bool.false_and,Bool.true_or,Bool.false_or];done)|(simp [D,C,Q,b5,b6,N];done)|(exfalso;revert N;simp)),rfl,rfl,rfl,trivial⟩,aA⟩
    rintro a iR ⟨q,f⟩;have e:=e.bw f;have aC:=aC.bw f;have p:=btr p f;refine Xb<|g6 _ _<|Zr q<|Ze (Xr rfl rfl (by omega) (by omega))<|Zm rfl ?_;refine Zn fun a q=>?_;refine Xe ?_;exact ⟨(k+1,b||(decide (u9=u0))),⟨q.sb,(by omega),(Xjl fY dI (by first|rfl|simp [*])),e,aC,aQ,p⟩,(by first|omega|(dsimp only;omega))⟩
   have b6:=aU;have aU:=Q1 aU
   have gB:b=true:=by rw [fY,Qi (by have:=aU;omega)];exact Xks dS
   refine Q9<|Xl<|Xl<|X01 ?_;refine fW _ _<|Q5 fun _ gC=>?_;refine X06 (fun a w=>Fr a 183 [(1,.slice aV more.length b0),(145,.bool (!b))]/\hS=w) ?_ ?_
   ·refine Zr q<|Zm rfl<|Ze (X0z rfl)<|Zm rfl<|Zv (gW rfl) (X3 rfl) ?_;refine Zv (gW rfl) (X0z rfl) ?_;refine Ze (X9 rfl rfl rfl) ?_;refine Zn fun a q=>?_;exact ⟨q.sb,rfl⟩
   rintro a _ ⟨q,rfl⟩;refine gC _ _ ?_
   refine Xf q rfl (fun cG=>?_) (fun cG=>?_)
   ·have eJ:=cG;have h8:=cG;rw [gB] at h8;cases h8
   have eJ:=cG;refine Q7<|Xe ?_;exact ⟨q.sb,p⟩
  have Q:=bS;refine Q7<|Xe ?_;exact ⟨q.sb,p⟩
 rintro a iS ⟨q,p⟩;refine fE _ _<|Zs q fun _ gD=>?_;refine Zm rfl<|Zf (Vc (Xt2 _ aV b0 more (L.bx p).top gQ) Xi9) ?_;rintro _ hU ⟨A,bI,bQ,rfl,gL,a8,f⟩;have p:=btr p f;refine Za rfl<|Zx gD fun a q _ gE=>?_;refine Zm rfl<|Zf (Vc (Xmt _ bI bQ A a8.top (by omega) (eY.of p)) Xcu) ?_;rintro _ hY ⟨rfl,f⟩;have a8:=a8.bw f;have p:=btr p f;refine Zm rfl<|Ze (Xn (vs:=[.string (lgT A),.bool (lgO A)]) rfl rfl)<|Ze (Xn (vs:=[.string (lgT A),.bool (lgO A)]) rfl rfl)<|Za rfl<|Za rfl<|ZX gE fun a q _ dV=>?_;refine Zs q fun _ gF=>?_;refine Zm rfl<|Zt gF fun a q=>?_
 refine Xf q rfl (fun cH=>?_) (fun cH=>?_)
 ·have eK:=cH;have dJ:=cH;refine Zs q fun _ gG=>?_;refine Zm rfl<|Zf (X16 (vs:=[.string (lgT A)]) rfl Xkk (by rw [(Xoq dJ).1];exact Xqm hY A (Xop dJ) (Xqe dJ) (gR.of p) (eY.of p))) ?_;rintro _ gH ⟨dK,dM,rfl,bH,f⟩;have a8:=a8.bw f;have p:=btr p f;refine Zm rfl<|Ze (Xn (vs:=[.slice dK A.length dM,.bool true]) rfl rfl)<|Ze (Xn (vs:=[.slice dK A.length dM,.bool true]) rfl rfl)<|Za rfl<|Za rfl<|ZX gG fun a q _ gI=>?_;refine Q5 fun _ gJ=>?_;refine X06 (fun a w=>Fr a 183 [(24,.slice bI A.length bQ),(27,.slice dK A.length dM),(167,.bool ((A.length:Int) != (A.length:Int)))]/\gH=w) ?_ ?_
  ·refine Zr q<|Zm rfl<|Ze (X0z rfl)<|Zm rfl<|Zv (gW rfl) (X3 rfl) ?_;refine Zv (gW rfl) (X07 rfl X08) ?_;refine Zv (gW rfl) (X3 rfl) ?_;refine Zv (gW rfl) (X07 rfl X08) ?_;refine Zv (gW rfl) (X1c rfl rfl) ?_;refine Ze (X9 rfl rfl rfl) ?_;refine Zn fun a q=>?_;exact ⟨q.sb,rfl⟩
  rintro a _ ⟨q,rfl⟩;refine gJ _ _ ?_
  refine Xf q rfl (fun cI=>?_) (fun cI=>?_)
  ·have eL:=cI
   simp at cI
  have eL:=cI;refine Q7<|gI _ _<|Zs q fun _ gK=>?_;refine Zm rfl<|Ze (X07 rfl X08)<|Zm rfl<|Zt gK fun a q=>?_;refine Q8<|X02 (σ:=Nat) (fun (k:Nat) (a:Act) (w:World)=>Fr a 183 [(24,.slice bI A.length bQ),(27,.slice dK A.length dM),(169,vi (A.length:Int)),(170,vi (k:Int))]/\(k<=A.length)/\Rd w hU.heap.size 57 encRz bI A/\Rd w gH.heap.size 57 encRz dK A/\Below w0.heap.size w0 w) (fun (k:Nat)=>A.length-k) 0 ?_ ?_
  ·exact ⟨q.sb,(Qf _),a8,bH,p⟩
  rintro k a iT ⟨q,hk,a8,bH,p⟩;refine Zs q fun _ eM=>?_;refine Ze (X0i rfl rfl)<|ZX eM fun a q _ eO=>?_
  refine Xf q rfl (fun aP=>?_) (fun aP=>?_)
  ·have dN:=aP;have aP:=Q2 aP
   obtain ⟨i4,i0⟩:=X4 (l:=A) (k:=k) (by omega)
   obtain ⟨u9,dI⟩:=X4 (l:=A) (k:=k) (by have:=aP;omega)
   refine Q7<|eO _ _<|Q5 fun _ eP=>?_;refine Q8<|Zs q fun _ eQ=>?_;refine Zm rfl<|Za rfl<|ZX eQ fun a q _ eR=>?_;refine Xz none (fun _=>false) mixed ?_;intro iU f;have a8:=a8.bw f;have bH:=bH.bw f;have p:=btr p f;refine Yb q<|Yo 0 rfl (fun _=>X3 rfl)<|Yo 1 rfl (fun _=>X3 rfl)<|Yi (k:=k) (u:=u9) (enc:=encRz) (l:=A) 2 rfl tv0 rfl rfl X08 X0v X0p bH dI rfl ?_;intro i5 dO;refine Ye 3 rfl (X00 (l:=[vi u9.u,vi u9.a,vi u9.b]) rfl X10 dO rfl)<|Yo 4 rfl (fun _=>X3 rfl)<|Yo 5 rfl (fun _=>X3 rfl)<|Yi (k:=k) (u:=u9) (enc:=encRz) (l:=A) 6 rfl tv0 rfl rfl X08 X0v X0p a8 dI rfl ?_;intro i6 dP;refine Ye 7 rfl (X00 (l:=[vi u9.u,vi u9.a,vi u9.b]) rfl X10 dP rfl)<|Yo 8 rfl (fun _=>Xfg rfl rfl Xdr (fun w=>Xcv 9998 u9 u9 w)) ?_;refine Yd fun a q=>?_;refine eR _ _ ?_
   refine Xf q rfl (fun bJ=>?_) (fun bJ=>?_)
   ·have dQ:=bJ
    simp at bJ
   have dQ:=bJ;refine Q7<|Xb<|eP _ _<|Zr q ?_;refine Ze (Xr rfl rfl (by omega) (by omega))<|Zm rfl ?_;refine Zn fun a q=>?_;refine Xe ?_;exact ⟨k+1,⟨q.sb,(by omega),a8,bH,p⟩,(by omega)⟩
  have dN:=aP;have aP:=Q1 aP;refine Q9<|Xl<|Xl<|X01 ?_;refine dV _ _<|Zs q fun _ eS=>?_;refine Za rfl<|Zt eS fun a q=>?_
  refine Q6 (X6 q (Xs q rfl rfl) ?_)
  exact ⟨rfl,p⟩
 have eK:=cH;refine Q7<|dV _ _<|Zs q fun _ eT=>?_;refine Za rfl<|Zt eT fun a q=>?_
 refine Q6 (X6 q (Xs q rfl rfl) ?_)
 exact ⟨rfl,p⟩
end Go.Proofs.YtipiejccbmifnaaGreatDoor
namespace Go.Proofs.YtipiejccbmifnaaGreatDoor
open Go.ChangeShapes Go.WideShapes Go.ChangeAt Go.RowKit Go.Deep Go.Joins
set_option linter.unusedVariables false
theorem X9e{H:Type}{enc:TypeId×Value->H}{C:Checked}{os:Os}{f:FuncId}{fn:Func}{s:ChangeSpec}{apart fresh handsOn again:Bool}{X:World->Array Value->Prop}
  (hX:∀ (w w':World) (args:Array Value),w.heap=w'.heap->X w args->X w' args)
  (own:ownKnob C.prog.godebug=none) (started:os.Started) (noInit:C.prog.inits.idxOf? f=none) (hfn:C.prog.funcs[f]? = some fn)
  (witness:∃ (w:World) (tape:Tape) (i:Input),w.os=os/\(w.forCall tape i).Shaped C.prog/\i.vars=[]/\Input.okWide C.prog (w.forCall tape i) .any w.heap.size f i/\
   ((s.pre enc C.prog fn [] apart (w.forCall tape i).memory i.args/\X (w.forCall tape i).memory i.args)/\sizedMet enc C.prog fn (OpenSpec.ofChange s) apart (w.forCall tape i).memory i.args)/\({} : Assume).holds C.prog (lone (Frame.enter C.prog f i.args .normal) [] (w.forCall tape i)))
  (contract:∀ (W:World) (base:Nat) (args:Array Value) (ds gs:List (DataW H)) (before:List MemPlace),
   (∀ (j:Nat) t v,fn.params[j]? = some t->args[j]? = some v->Value.okWide C.prog W .any base t v)->
   DataW.Whole enc C.prog fn.params.toList s.vars apart W args.toList ds gs before->W.ShapedOpen C.prog->X W args->
   Calls C.prog f args W fun e W'=>∃ v,e=.returned v/\s.post enc C.prog fn apart fresh handsOn again W args v W') :
  ReturnsInHanded {} C os f .any (fun w args=>(s.pre enc C.prog fn [] apart w args/\X w args)/\sizedMet enc C.prog fn (OpenSpec.ofChange s) apart w args) (s.post enc C.prog fn apart fresh handsOn again):=by
 refine returnsInHanded_of_calls own started noInit witness ?_;intro w tape i _ hsh _ hok hpre hholds;obtain ⟨_,_,_,fn',hfn',_,_,_,_,hval⟩:=hok
 obtain rfl:fn'=fn:=Option.some.inj (hfn'.symm.trans hfn)
 obtain ⟨⟨⟨ds,gs,before,hw,_⟩,hx⟩,_⟩:=hpre;refine (contract (w.forCall tape i) w.heap.size i.args ds gs before hval (hw.of_heap (by rfl)) hsh (hX _ _ _ (by rfl) hx)).mono fun e W' ⟨v,he,hp⟩=>?_
 subst he
 exact ChangeSpec.post_blind hp
theorem Xbf : Tryz.prog.globalNamed "loop.example/g00864/impl.ruleWords" = some 0 := by kernel_rfl
theorem Xlo:(Tryz.prog.globals[0]?).map (·.type)=some (126:TypeId):=by kernel_rfl
theorem Xdv:Tryz.prog.cellsOf 126=6:=by kernel_rfl
theorem Xn1:Tryz.prog.cellsOf 9=1:=by kernel_rfl
section
variable {H : Type} {enc : TypeId × Value -> H} {w : World} {base fuel : Nat} {spare : Nat -> Bool} {held : Bool}
theorem X4b{c:Value}{y:DataW H×List MemPlace}{s:List UInt8}{n:Nat}(h:DataW.trod enc Tryz.prog w base spare held n 9 [c]=some y)(e:y.1=.lit (.string s)) : c=.string (tx s):=by
 obtain ⟨b,h1,rfl,_⟩:=DataW.trod_string Tryz.underlying9 h
 simp only [DataW.lit.injEq,Lit.string.injEq] at e
 rw [List.singleton_inj.1 h1,<- e,Xg9]
set_option maxRecDepth 100000 in
theorem Xf2{cs:List Value}{p:List MemPlace}(h:DataW.trod enc Tryz.prog w base spare held fuel 126 cs=some (Rows.laid_loop_example_g00864_impl_ruleWords,p)) : cs=rwA.flatMap encTx:=by
 obtain ⟨xs,m,_,hx,hl,hxl,hi⟩:=DataW.trod_array Tryz.underlying126 h
 rw [Xdv] at hl
 match cs,hl,xs,hxl with
 | [c0,c1,c2,c3,c4,c5],_,[y0,y1,y2,y3,y4,y5],_=>
  have h0:=hi 0 (by decide)
  have h1:=hi 1 (by decide)
  have h2:=hi 2 (by decide)
  have h3:=hi 3 (by decide)
  have h4:=hi 4 (by decide)
  have h5:=hi 5 (by decide)
  simp only [Xn1] at h0 h1 h2 h3 h4 h5
  unfold Rows.laid_loop_example_g00864_impl_ruleWords at hx
  simp only [List.map_cons,List.map_nil,Prod.mk.injEq,DataW.agg.injEq,List.cons.injEq,and_true] at hx
  obtain ⟨⟨e0,e1,e2,e3,e4,e5⟩,_⟩:=hx
  rw [X4b h0 e0.symm,X4b h1 e1.symm,X4b h2 e2.symm,X4b h3 e3.symm,X4b h4 e4.symm,X4b h5 e5.symm]
  rfl
end
theorem Xgk{W:World}(h:laidMetH Tryz.prog Rows.fnLogsRow.laid W) : RuleT W:=by
 rw [MakeChecks.laidMetH_plain _ _ _ (by kernel_rfl)] at h
 obtain ⟨g,t,cs,fuel,p,h1,h2,h3,h4⟩:=Lib.laidMet.reads h (.tail _ (.tail _ (.tail _ (.tail _ (.tail _ (.tail _ (.head _)))))))
 rw [Xbf] at h1
 obtain rfl:=Option.some.inj h1
 rw [Xlo] at h2
 obtain rfl:=Option.some.inj h2
 have hc:=Xf2 h4
 unfold World.var? at h3
 rw [Xbf,Qz] at h3
 cases hh:W.heap[0]? with
 | none=>rw [hh] at h3;cases h3
 | some r=>
  rw [hh] at h3
  cases r with
  | cells cs' T F=>
   simp only [Option.some.injEq] at h3
   subst h3
   exact ⟨T,F,by rw [hh,<- hc]⟩
  | _=>cases h3
theorem Xo0{W:World}(h:W.ShapedOpen Tryz.prog) : MaxT W:=
 cell_of_shapedOpen_int (P:=Tryz.prog) (g:=2) (t:=3) (zero:=#[.int .i64 0]) h (Q2 (by kernel_rfl)) (by kernel_rfl) rfl (by kernel_rfl) (by kernel_rfl) Tryz.underlying3
theorem Xb7 {H : Type} {enc : TypeId × Value -> H} {W W' : World} {gs : List (DataW H)} {q : List MemPlace} (h : DataW.TrodVars enc Tryz.prog W (fun _ => true) ["loop.example/g00864/impl.ruleWords"] gs q) (hlt : ∀ x ∈ q, x.block < W.heap.size) (hb : Below W.heap.size W W') {sp : Nat -> Bool} (hs : ∀ x ∈ q, sp x.block = true) : DataW.TrodVars enc Tryz.prog W' sp ["loop.example/g00864/impl.ruleWords"] gs q := by
 obtain ⟨g,t,cs,fuel,d,p,rfl,h1,h2,h3,h4,rfl⟩:=trodVars_one h
 have h1':=h1
 have h2':=h2
 rw [Xbf] at h1'
 obtain rfl:=Option.some.inj h1'
 rw [Xlo] at h2'
 obtain rfl:=Option.some.inj h2'
 have h3' : W'.var? Tryz.prog "loop.example/g00864/impl.ruleWords" = some cs := by
  unfold World.var? at h3 ⊢
  rw [Xbf,Qz] at h3 ⊢
  cases hh:W.heap[0]? with
  | none=>rw [hh] at h3;cases h3
  | some r=>rw [hb.block 0 (Qp.1 hh).1];exact h3
 exact trodVars_mk1 (fuel:=fuel) h1 h2 h3' (DataW.trod_stays (kids_book X92 (by kernel_rfl)) (book_sized (by kernel_rfl)) (fun h=>by cases h) ⟨Q2 (by kernel_rfl),book_self _⟩ h4 (fun x hx=>hb.same (hlt x (Qu.2 (.inr hx)))) (fun x hx=>hs x (Qu.2 (.inr hx))))
set_option linter.unusedVariables false
set_option maxRecDepth 100000 in
theorem Xaa(os:Os)(started:os.Started)(H:Type)(enc:TypeId×Value->H) :
  ReturnsInHanded {} Tryz.checked os 4 .any (fun w args=>(Rows.fnLogsSpec.pre enc Tryz.prog Tryz.f4 [] false w args/\laidMetH Tryz.prog Rows.fnLogsRow.laid w)/\sizedMet enc Tryz.prog Tryz.f4 (OpenSpec.ofChange Rows.fnLogsSpec) false w args)
   (Rows.fnLogsSpec.post enc Tryz.prog Tryz.f4 false true false false):=by
 refine X9e (C:=Tryz.checked) (X:=fun w _=>laidMetH Tryz.prog Rows.fnLogsRow.laid w) (fun _ _ _ hh h=>h.of_heap hh) own started (by kernel_rfl) Tryz.func4
  (ChangeSpec.witness_shaped (enc:=enc) (C:=Tryz.checked) (os:=os) (X:=fun w _=>laidMetH Tryz.prog Rows.fnLogsRow.laid w) false (World.laidAll Tryz.prog os Rows.fnLogsRow.laid) #[.slice none 0 0,.slice none 0 0] 8 (World.laidAll_os _ _ _)
   (World.shaped_of_ZipB (by kernel_rfl) (by kernel_rfl)) (by kernel_rfl) (by kernel_rfl) (by kernel_rfl)
   (by rw [MakeChecks.laidMetH_plain _ _ _ (by kernel_rfl)];exact laidMet_laidAll _ (by kernel_rfl) (by kernel_rfl))) ?_
 intro W base args ds gs before hval0 hW hsh hL
 have hval:∀ (j:Nat) t v,Tryz.f4.params[j]? = some t->args[j]? = some v->Value.okWide Tryz.prog W .any base t v:=hval0
 have hW':=hW
 obtain ⟨p,q,hA0,hV,rfl,hfz,hnd⟩:=hW
 have hA:DataW.TrodAll enc Tryz.prog W 0 (fun _=>true) true Tryz.f4.params.toList args.toList ds p:=hA0
 rw [Tryz.params4] at hA hval
 obtain ⟨v0,v1,d0,d1,p0,p1,rfl,rfl,rfl,h0,h1⟩:=trodAll_two hA
 have hV' : DataW.TrodVars enc Tryz.prog W (fun _ => true) ["loop.example/g00864/impl.ruleWords"] gs q := hV
 obtain ⟨_,_,_,_,g1,_,hgs,_⟩:=trodVars_one hV'
 subst hgs
 have h0k:=h0;have h1k:=h1
 obtain ⟨A,c,i,E,rfl,hr0,hc0⟩:=X6z (hval 0 22 v0 rfl rfl) h0 (fun _=>rfl)
 obtain ⟨B,l,k,F,rfl,hr1,hc1⟩:=X6z (hval 1 22 v1 rfl rfl) h1 (fun _=>rfl)
 clear hA0 hval0
 have hlt:∀ x ∈ (p0++p1)++q,x.block<W.heap.size:=fun x hx=>hW'.lt x hx
 refine Calls.mono (Xq0 W A i c hr0 hc0 B k l hr1 hc1 (Xo0 hsh) (Xgk hL)) fun r W' ⟨v,he,hv,hb⟩=>?_
 subst hv
 refine ⟨_,he,Xba (pa:=p0++p1) (pv:=q) hW' (fun _ _ _=>trodAll_mk1 (shut_bool Tryz.underlying4 true)) (fun sp hsp=>?_) (fun sp hsp=>Xb7 hV' (fun x hx=>hlt x (Qu.2 (.inr hx))) hb (fun x hx=>hsp x (Qu.2 (.inr hx)))) rfl hb⟩
 exact trodAll_mk2 (WideElems.Trod_stays X92 (by kernel_rfl) (Q2 (by kernel_rfl)) h0k (fun x hx=>hb.same (hlt x (Qu.2 (.inl (Qu.2 (.inl hx)))))) (fun x hx=>hsp x (Qu.2 (.inl (Qu.2 (.inl hx))))))
  (WideElems.Trod_stays X92 (by kernel_rfl) (Q2 (by kernel_rfl)) h1k (fun x hx=>hb.same (hlt x (Qu.2 (.inl (Qu.2 (.inr hx)))))) (fun x hx=>hsp x (Qu.2 (.inl (Qu.2 (.inr hx))))))
theorem Xgm:Rows.FnLogsSaid:=
 OpenClaim.holds_of_wide 4 Tryz.f4 rfl rfl rfl rfl rfl rfl rfl ⟨rfl,rfl,rfl,rfl,rfl⟩ rfl rfl rfl rfl rfl (by kernel_rfl) Tryz.func4 (by kernel_rfl)
  (Q2 (by kernel_rfl)) (by unfold Func.isWrapper;first|(rw [Q4 (by decide +kernel)];kernel_rfl)|(rw [Q3 (by decide +kernel)];exact ⟨rfl,rfl⟩))
  (fun os started H enc _=>Xaa os started H enc)
theorem Xjm : Tryz.prog.funcNamed "loop.example/g00864/laws.FnLogs" = some 4 := by kernel_rfl
theorem Xb5:Tryz.prog.wantsStandIn 22=false:=by kernel_rfl
theorem logs_holds:Rows.FnLogsCardSaid:=
 Claim7.holds_tied_plain_at .later [] [.data, .data, .data, .data, .sentinel, .sentinel, .widerDeep, .pinned] true (true, "ebce1da6db8aeab32f384d52c11cf10e2b1f969f29a035bf2cb18cfeaf355b03") true
  Xgm (fun _ h=>by cases h) (by kernel_rfl) (fun _ h=>by cases h) fnLogs_row_tie rfl ⟨rfl,rfl⟩ (by kernel_rfl) rfl
  (fun f fn hf hfn=>by
   obtain rfl:f=4:=Option.some.inj (Xjm.symm.trans hf) |>.symm
   obtain rfl:fn=Tryz.f4:=(Option.some.inj (Tryz.func4.symm.trans hfn)).symm
   exact ⟨by kernel_rfl,fun j t ht=>by
    rw [Tryz.params4] at ht
    have hm:=Array.mem_of_getElem? ht
    simp only [List.mem_toArray,Qv,List.mem_nil_iff,or_false] at hm
    rcases hm with rfl|rfl<;>exact Xb5⟩)
  (by kernel_rfl)
end Go.Proofs.YtipiejccbmifnaaGreatDoor
