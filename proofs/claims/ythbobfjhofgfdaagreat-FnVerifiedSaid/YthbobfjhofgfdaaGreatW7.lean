/-
  For all drawn circuits, circuits that are verified by rewriting have the same operator up to a phase, and simplification does not increase the T-count. Conditions: none.
-/
import Derived.Test.YthbobfjhofgfdaaGreatRows
import Derived.Test.YthbobfjhofgfdaaGreatW6
import Derived.Test.YthbobfjhofgfdaaGreatW2
set_option linter.unusedVariables false
set_option linter.defProp false
set_option linter.unusedSimpArgs false
set_option linter.unusedSectionVars false
namespace Go.Proofs.YthbobfjhofgfdaaGreat
open Go.ChangeShapes Go.WideShapes Go.ChangeAt Go.RowKit Go.Deep Go.Joins
set_option linter.unusedVariables false
set_option maxRecDepth 100000 in
theorem Xgv(os:Os)(started:os.Started)(H:Type)(enc:TypeId×Value->H) :
  ReturnsInHanded {} Tryz.checked os 3 .any (Rows.fnVerifiedSpec.pre6 enc Tryz.prog Tryz.f3 Rows.fnVerifiedRow.domain false) (Rows.fnVerifiedSpec.post enc Tryz.prog Tryz.f3 false true false false):=by
 refine returnsInHanded_of_change (C:=Tryz.checked) own started O3 Tryz.func3
  (ChangeSpec.witness6 (enc:=enc) (C:=Tryz.checked) false ⟨#[],#[.slice none 0 0,.slice none 0 0],[]⟩ 8 O3 O3 O3 O3) ?_
 intro W base args ds gs before hval0 hW hcnd _
 have hval:∀ (j:Nat) t v,Tryz.f3.params[j]? = some t->args[j]? = some v->Value.okWide Tryz.prog W .any base t v:=hval0
 have hW':=hW
 obtain ⟨p,q,hA0,hV,rfl,hfz,hnd⟩:=hW
 have hA:DataW.TrodAll enc Tryz.prog W 0 (fun _=>true) true Tryz.f3.params.toList args.toList ds p:=hA0
 rw [Tryz.params3] at hA hval
 obtain ⟨v0,v1,d0,d1,p0,p1,rfl,rfl,rfl,h0,h1⟩:=trodAll_two hA;obtain ⟨rfl,rfl⟩:=trodVars_none hV;have h0k:=h0;have h1k:=h1
 obtain ⟨A,c,i,E,rfl,hr0,hc0⟩:=Xce (hval 0 22 v0 O O) h0 (fun _=>rfl)
 obtain ⟨B,l,k,F,rfl,hr1,hc1⟩:=Xce (hval 1 22 v1 O O) h1 (fun _=>rfl)
 clear hA0 hval0
 simp only [List.append_nil] at hW'
 have hlt:∀ x ∈ p0++p1,x.block<W.heap.size:=fun x hx=>hW'.lt x (by simpa using hx)
 refine Calls.mono (Y8n W A i c hr0 hc0 B k l hr1 hc1) fun r W' ⟨v,he,hv,hb⟩=>?_
 subst hv
 refine ⟨_,he,Xj3 (pa:=p0++p1) (pv:=[]) hW' (fun _ _ _=>trodAll_mk1 (shut_bool Tryz.underlying4 true)) (fun sp hsp=>?_) (fun _ _=>rfl) O4 hb⟩
 exact trodAll_mk2 (WideElems.Trod_stays Xln O3 (Q2 O3) h0k (fun x hx=>hb.same (hlt x (List.mem_append_left _ hx))) (fun x hx=>hsp x (by simp [hx])))
  (WideElems.Trod_stays Xln O3 (Q2 O3) h1k (fun x hx=>hb.same (hlt x (List.mem_append_right _ hx))) (fun x hx=>hsp x (by simp [hx])))
theorem fver_holds:Rows.FnVerifiedSaid:=
 OpenClaim.holds_of_wide 3 Tryz.f3 rfl rfl rfl rfl rfl rfl rfl ⟨rfl,rfl,rfl,rfl,rfl⟩ rfl rfl rfl rfl rfl O3 Tryz.func3 O3
  (Q2 O3) (by unfold Func.isWrapper;first|(rw [Q4 O0];kernel_rfl)|(rw [Q3 O0];exact ⟨rfl,rfl⟩))
  (fun os started H enc _=>Xgv os started H enc)
end Go.Proofs.YthbobfjhofgfdaaGreat
