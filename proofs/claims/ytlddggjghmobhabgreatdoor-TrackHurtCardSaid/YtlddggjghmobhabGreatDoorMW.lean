/- Part of the proof: WTrackHurt. Conditions: as each statement tells. -/
import Derived.Test.YtlddggjghmobhabGreatDoorRows
import Derived.Test.YtlddggjghmobhabGreatDoorCards
import Derived.Test.YtlddggjghmobhabGreatDoorTie
import Derived.WalkKit
import Derived.ProofKit
import Derived.OpenShut
import Derived.Handed
import Derived.SevenTiedAt
import Derived.Test.YtlddggjghmobhabGreatDoorMF
import Derived.Test.YtlddggjghmobhabGreatDoorMV
noncomputable section
set_option linter.unusedSimpArgs false
set_option linter.unusedVariables false
namespace Go.Proofs.YtlddggjghmobhabGreatDoor.trackHurt
open Go.ChangeShapes Go.WideShapes Go.ChangeAt Go.RowKit Go.Ab
theorem bulkAll {H:Type}:∀ l:List (DataW H),Rows.uptoBulkAll l=(l.map Rows.uptoBulk).sum
 | []=>by simp [Rows.uptoBulkAll]
 |d::r=>by simp [Rows.uptoBulkAll,bulkAll r]
theorem bulk {H:Type}:xL (Rows.uptoBulk (H:=H)) where
 one:=fun d=>by
  cases d with
  |lit l=>cases l<;>simp [Rows.uptoBulk]
  |_=>simp [Rows.uptoBulk]
 str:=fun bs=>by simp [Rows.uptoBulk]
 slice:=fun es sp=>by simp only [Rows.uptoBulk,bulkAll];omega
 agg:=fun ps=>by simp only [Rows.uptoBulk,bulkAll];omega
set_option maxRecDepth 100000 in
theorem contract (H:Type) (enc:TypeId×Value->H) (W:World) (base:Nat) (args:Array Value) (ds gs:List (DataW H)) (before:List MemPlace)
  (hval:∀ (j:Nat) t v,Tryz.f3.params[j]?=some t->args[j]?=some v->Value.okWide Tryz.prog W .any base t v)
  (hW:DataW.Whole enc Tryz.prog Tryz.f3.params.toList Rows.trackHurtSpec.vars false W args.toList ds gs before) (hL:laidMetH Tryz.prog laidTab W):
  Calls Tryz.prog 3 args W fun e W'=>∃ v,e=.returned v/\Rows.trackHurtSpec.post enc Tryz.prog Tryz.f3 false true false false W args v W':=
 a0V (s:=Od) (tb:=4) bulk c9o.1 laidOut (by kernel_rfl) rfl (by kernel_rfl) (by kernel_rfl) rfl (fun ds h=>match ds,h with|[_,_,_,_,_,_,_],_=>rfl)
  (fun x h _=>by refine ⟨true,?_,rfl⟩;unfold Od;refine Eq.trans ?_ (pZ x (b6T (h ⟨_,x.2.2.2.2.2.2⟩ (List.mem_cons_of_mem _ (List.mem_cons_of_mem _ (List.mem_cons_of_mem _ (List.mem_cons_of_mem _ (List.mem_cons_of_mem _ (List.mem_cons_of_mem _ List.mem_cons_self)))))))));kernel_rfl) (a2x hL) hval hW (Nat.le_refl _)
set_option maxRecDepth 100000 in
theorem lifted (os:Os) (started:os.Started) (H:Type) (enc:TypeId×Value->H):
  ReturnsInHanded {} Tryz.checked os 3 .any (fun w args=>(Rows.trackHurtSpec.pre enc Tryz.prog Tryz.f3 [] false w args/\laidMetH Tryz.prog laidTab w)/\sizedMet enc Tryz.prog Tryz.f3 (OpenSpec.ofChange Rows.trackHurtSpec) false w args)
   (Rows.trackHurtSpec.post enc Tryz.prog Tryz.f3 false true false false):=by
 refine returnsInHanded_of_change_and (C:=Tryz.checked) (X:=fun w _=>laidMetH Tryz.prog laidTab w) (fun _ _ _ hh h=>h.of_heap hh) own started (by kernel_rfl) Tryz.func3
  (ChangeSpec.witness_shaped (enc:=enc) (C:=Tryz.checked) (os:=os) (X:=fun w _=>laidMetH Tryz.prog laidTab w) false (World.doorLaid Tryz.prog 400 os) #[.agg #[.int .i64 0,.int .i64 0,.int .i64 0],.slice none 0 0,.int .i64 0,.int .i64 0,.int .i64 0,.int .i64 0,.int .u8 0] 8 rfl (World.shaped_of_RefB (by kernel_rfl) (by kernel_rfl)) (by kernel_rfl) (by kernel_rfl) (by kernel_rfl) (b4L os _)) ?_
 intro W base args ds gs before hval hW _ _ hL _
 exact contract H enc W base args ds gs before hval hW hL
theorem and2 {a b:Bool} (ha:a=true) (hb:b=true):(a&&b)=true:=by rw [ha,hb];rfl
theorem joined:joinedFacts Tryz.prog 3 Tryz.f3 Rows.trackHurtSpec Rows.trackHurtRow=true:=by
 unfold joinedFacts
 refine and2 ?_ j31
 refine and2 ?_ j30
 refine and2 ?_ j29
 refine and2 ?_ (by kernel_rfl)
 refine and2 ?_ j27
 refine and2 ?_ j26
 refine and2 ?_ j25
 refine and2 ?_ j24
 refine and2 ?_ j23
 refine and2 ?_ j22
 refine and2 ?_ j21
 refine and2 ?_ j20
 refine and2 ?_ j19
 refine and2 ?_ j18
 refine and2 ?_ j17
 refine and2 ?_ j16
 refine and2 ?_ j15
 refine and2 ?_ j14
 refine and2 ?_ j13
 refine and2 ?_ j12
 refine and2 ?_ j11
 refine and2 ?_ j10
 refine and2 ?_ j9
 refine and2 ?_ j8
 refine and2 ?_ j7
 refine and2 ?_ j6
 refine and2 ?_ j5
 refine and2 ?_ j4
 refine and2 ?_ j3
 refine and2 ?_ j2
 refine and2 ?_ j1
 exact j0
theorem over:Rows.TrackHurtSaid:=
 OpenClaim.holds_of_wide 3 Tryz.f3 rfl rfl rfl rfl rfl rfl rfl ⟨rfl,rfl,rfl,rfl,rfl⟩ rfl rfl rfl rfl rfl pn Tryz.func3 joined
  (of_decide_eq_true (by kernel_rfl)) (by unfold Func.isWrapper;first|(rw [if_pos (by decide +kernel)];kernel_rfl)|(rw [if_neg (by decide +kernel)];exact ⟨rfl,rfl⟩))
  (fun os started H enc _=>lifted os started H enc)
theorem noStandIns:∀ (j:Nat) t,Tryz.f3.params[j]?=some t->Tryz.prog.wantsStandIn t=false:=fun j t h=>
 have h1:Tryz.f3.params.toList.all (fun t=>!Tryz.prog.wantsStandIn t)=true:=by kernel_rfl
 have h2:=List.all_eq_true.1 h1 t (by simpa using Array.mem_of_getElem? h)
 by simpa using h2
theorem proved:Rows.TrackHurtCardSaid:=
 Claim7.holds_tied_plain_at .later [] [.data] true (true, "d69474b5906d1532afedbfa3ca3f5fd96c40b913f080cd6967164314683b4bce") false
  over (fun _ h=>by cases h) pw (fun _ h=>by cases h) trackHurt_row_tie rfl ⟨rfl,rfl⟩ pm rfl
  (fun f fn hf hfn=>by
   obtain rfl:f=3:=Option.some.inj (pn.symm.trans hf) |>.symm
   obtain rfl:fn=Tryz.f3:=(Option.some.inj (Tryz.func3.symm.trans hfn)).symm
   exact ⟨pl,noStandIns⟩)
  pg
#print axioms proved
end Go.Proofs.YtlddggjghmobhabGreatDoor.trackHurt
