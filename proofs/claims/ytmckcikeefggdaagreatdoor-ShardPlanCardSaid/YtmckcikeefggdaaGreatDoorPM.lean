/- Part 13 of the proof. -/
import Derived.Test.YtmckcikeefggdaaGreatDoorPL
set_option linter.unusedVariables false
set_option linter.unusedSimpArgs false
set_option linter.unusedSectionVars false
set_option maxRecDepth 100000
set_option maxHeartbeats 16000000
namespace Go.Proofs.YtmckcikeefggdaaGreatDoor
section
open Go Go.Pi Go.ChangeShapes Go.WideShapes Go.ChangeAt Go.RowKit
theorem Iu(os:Os)(started:os.Started)(H:Type)(enc:TypeId × Value->H) :
  ReturnsInHanded {} Tryz.checked os 3 .any (λ w args=>(Rows.shardPlanSpec.pre enc Tryz.prog Tryz.f3 [] false w args/\laidMetH Tryz.prog Rows.shardPlanRow.laid w)/\sizedMet enc Tryz.prog Tryz.f3 (OpenSpec.ofChange Rows.shardPlanSpec) false w args)
   (Rows.shardPlanSpec.post enc Tryz.prog Tryz.f3 false true false false):=by
 refine returnsInHanded_of_change_and (C:=Tryz.checked) (X:=λ w _=>laidMetH Tryz.prog Rows.shardPlanRow.laid w) (λ _ _ _ hh h=>h.of_heap hh) own started (by kernel_rfl) Tryz.func3
  (Ej os H enc) ?_
 intro W base args ds gs before hval0 hW _ hsz hL _;have hval:∀ (j:Nat) t v,Tryz.f3.params[j]?=some t->args[j]?=some v->Value.okWide Tryz.prog W .any base t v:=hval0
 have hW':=hW
 obtain⟨p,q,hA0,hV,rfl,hfz,hnd⟩:=hW;have hA:DataW.TrodAll enc Tryz.prog W 0 (λ _=>true) true Tryz.f3.params.toList args.toList ds p:=hA0
 rw[Tryz.params3]at hA hval;have hsz:(DataW.weightsEach Tryz.prog (Tryz.f3.params.toList++[]) (ds++gs)).all (λ x=>decide (x<=reachBytes))=true:=hsz
 rw[Tryz.params3]at hsz;obtain⟨v0,vs0,d0,ds0,p0,q0,hargs,rfl,rfl,h0,r0⟩:=trodAll_cons hA;obtain⟨rfl,rfl,rfl⟩:=trodAll_nil r0;obtain rfl:args=#[v0]:=by cases args;simp_all
 obtain⟨rfl,rfl⟩:=trodVars_none hV;have k0:=h0
 have lt0:∀ x∈p0,x.block < W.heap.size:=by obtain⟨m,hm⟩:=k0;exact DataW.trod_lt m _ _ _ hm
 have hv0:=hval 0 33 v0 rfl rfl
 obtain⟨cs,rfl,-,-⟩:=A5 hv0;have hwt:∀ n∈d0.weights Tryz.prog 33,n<=reachBytes:=λ n hn=>by
  have h1:=Zz.1 hsz n (by simp only[List.append_nil,DataW.weightsEach];simpa using hn)
  exact XD h1
 obtain⟨m,hm⟩:=h0;obtain⟨cvs,r1,rn,r3⟩:=Mk ZbX m (t:=33) rfl hm hwt;obtain⟨e,rfl,hok⟩:=Zay r3;have r2:RdC (Xq W) (.agg cs) (.agg e.cells):=by
  have r4:=RdC.agg cs.toList e.cells r1.1 r1.2 rn
  rwa [Array.toArray_toList]at r4
 obtain⟨N,hrun⟩:=Zfb e hok;have hv:RdL (Xq W) [.agg cs] [.c (.agg e.cells)]:=by
  refine⟨rfl,λ i v c a b=>?_⟩
  match i with
  | 0=>simp at a b;subst a;subst b;exact .c _ _ r2
  | i+1=>simp at a
 refine(Ac Hr (E0 Hr prgOk) prgOk.lies ok3 hrun (E2 hL) hv).mono λ e W' ⟨he,bel⟩=>?_
 subst he;exact⟨_,rfl,_,_,_,[],_,[],hW',trodAll_mk1 (shut_bool u4 _),trodAll_cons_mk (Below.trod EV (by kernel_rfl) (XD (by kernel_rfl)) k0 bel lt0) trodAll_mk0,rfl,bel.frame _,λ h=>by cases h⟩
theorem gG:Rows.ShardPlanSaid:=
 OpenClaim.holds_of_wide 3 Tryz.f3 rfl rfl rfl rfl rfl rfl rfl ⟨rfl,rfl,rfl,rfl,rfl⟩ rfl rfl rfl rfl rfl (by kernel_rfl) Tryz.func3 (by kernel_rfl)
  (XD (by kernel_rfl)) (by unfold Func.isWrapper;first|(rw[if_pos (by decide +kernel)];kernel_rfl)|(rw[if_neg (by decide +kernel)];exact⟨rfl,rfl⟩))
  (λ os started H enc _=>Iu os started H enc)
end
end Go.Proofs.YtmckcikeefggdaaGreatDoor
