/- Part of the proof: WSpliceJoins. Conditions: as each statement tells. -/
import Derived.Test.YtkikcohfbelmeacGreatDoorMF
import Derived.Test.YtkikcohfbelmeacGreatDoorMV
noncomputable section
set_option linter.unusedSimpArgs false
set_option linter.unusedVariables false
namespace Go.Proofs.YtkikcohfbelmeacGreatDoor.spliceJoins
open Go.ChangeShapes Go.WideShapes Go.ChangeAt Go.RowKit Go.Ab
theorem bulkAll {H:Type}:∀ l:List (DataW H),Rows.uptoBulkAll l=(l.map Rows.uptoBulk).sum
 | []=>by simp [Rows.uptoBulkAll]
 |d::r=>by simp [Rows.uptoBulkAll,bulkAll r]
theorem bulk {H:Type}:xO (Rows.uptoBulk (H:=H)) where
 one:=fun d=>by
  cases d with
  |lit l=>cases l<;>simp [Rows.uptoBulk]
  |_=>simp [Rows.uptoBulk]
 str:=fun bs=>by simp [Rows.uptoBulk]
 slice:=fun es sp=>by simp only [Rows.uptoBulk,bulkAll];omega
 agg:=fun ps=>by simp only [Rows.uptoBulk,bulkAll];omega
set_option maxRecDepth 100000 in
theorem contract (H:Type) (enc:TypeId×Value->H) (W:World) (base:Nat) (args:Array Value) (ds gs:List (DataW H)) (before:List MemPlace)
  (hval:∀ (j:Nat) t v,Tryz.f3.params[j]?=some t->args[j]?=some v->Value.okWide Tryz.prog W .any base t v)
  (hW:DataW.Whole enc Tryz.prog Tryz.f3.params.toList Rows.spliceJoinsSpec.vars false W args.toList ds gs before) (hL:laidMetH Tryz.prog laidTab W):
  Calls Tryz.prog 3 args W fun e W'=>∃ v,e=.returned v/\Rows.spliceJoinsSpec.post enc Tryz.prog Tryz.f3 false true false false W args v W':=
 a3H (s:=MV) (tb:=4) bulk d4y.1 laidOut (by kernel_rfl) rfl (by kernel_rfl) (by kernel_rfl) rfl (fun ds h=>match ds,h with|[_,_],_=>rfl)
  (fun x h _=>by refine ⟨true,?_,rfl⟩;unfold MV;refine Eq.trans ?_ (lE x (fun c hc=>a7z (h ⟨_,x.1⟩ List.mem_cons_self c hc)) (fun c hc=>a7z (h ⟨_,x.2⟩ (List.mem_cons_of_mem _ List.mem_cons_self) c hc)));kernel_rfl) (a4S hL) hval hW (Nat.le_refl _)
set_option maxRecDepth 100000 in
theorem lifted (os:Os) (started:os.Started) (H:Type) (enc:TypeId×Value->H):
  ReturnsInHanded {} Tryz.checked os 3 .any (fun w args=>(Rows.spliceJoinsSpec.pre enc Tryz.prog Tryz.f3 [] false w args/\laidMetH Tryz.prog laidTab w)/\sizedMet enc Tryz.prog Tryz.f3 (OpenSpec.ofChange Rows.spliceJoinsSpec) false w args)
   (Rows.spliceJoinsSpec.post enc Tryz.prog Tryz.f3 false true false false):=by
 refine returnsInHanded_of_change_and (C:=Tryz.checked) (X:=fun w _=>laidMetH Tryz.prog laidTab w) (fun _ _ _ hh h=>h.of_heap hh) own started (by kernel_rfl) Tryz.func3
  (ChangeSpec.witness_shaped (enc:=enc) (C:=Tryz.checked) (os:=os) (X:=fun w _=>laidMetH Tryz.prog laidTab w) false (World.doorLaid Tryz.prog 400 os) #[.slice none 0 0,.slice none 0 0] 8 rfl (World.shaped_of_RefB (by kernel_rfl) (by kernel_rfl)) (by kernel_rfl) (by kernel_rfl) (by kernel_rfl) (b6V os _)) ?_
 intro W base args ds gs before hval hW _ _ hL _
 exact contract H enc W base args ds gs before hval hW hL
theorem A {a b:Bool} (ha:a=true) (hb:b=true):(a&&b)=true:=by rw [ha,hb];rfl
theorem joined:joinedFacts Tryz.prog 3 Tryz.f3 Rows.spliceJoinsSpec Rows.spliceJoinsRow=true:=by
 unfold joinedFacts
 exact A (A (A (A (A (A (A (A (A (A (A (A (A (A (A (A (A (A (A (A (A (A (A (A (A (A (A (A (A (A (A j0 j1) j2) j3) j4) j5) j6) j7) j8) j9) j10) j11) j12) j13) j14) j15) j16) j17) j18) j19) j20) j21) j22) j23) j24) j25) j26) j27) (by kernel_rfl)) j29) j30) j31
theorem over:Rows.SpliceJoinsSaid:=
 OpenClaim.holds_of_wide 3 Tryz.f3 rfl rfl rfl rfl rfl rfl rfl ⟨rfl,rfl,rfl,rfl,rfl⟩ rfl rfl rfl rfl rfl pn Tryz.func3 joined
  (of_decide_eq_true (by kernel_rfl)) (by unfold Func.isWrapper;first|(rw [if_pos (by decide +kernel)];kernel_rfl)|(rw [if_neg (by decide +kernel)];exact ⟨rfl,rfl⟩))
  (fun os started H enc _=>lifted os started H enc)
theorem noStandIns:∀ (j:Nat) t,Tryz.f3.params[j]?=some t->Tryz.prog.wantsStandIn t=false:=fun j t h=>
 have h1:Tryz.f3.params.toList.all (fun t=>!Tryz.prog.wantsStandIn t)=true:=by kernel_rfl
 have h2:=List.all_eq_true.1 h1 t (by simpa using Array.mem_of_getElem? h)
 by simpa using h2
theorem proved:Rows.SpliceJoinsCardSaid:=
 Claim7.holds_tied_plain_at .later [] [.data] true (true, "71c7f671e7f407b38f135708f168015e41e543a0bd534d9637b3c89614a394b5") false
  over (fun _ h=>by cases h) pw (fun _ h=>by cases h) spliceJoins_row_tie rfl ⟨rfl,rfl⟩ pm rfl
  (fun f fn hf hfn=>by
   obtain rfl:f=3:=Option.some.inj (pn.symm.trans hf) |>.symm
   obtain rfl:fn=Tryz.f3:=(Option.some.inj (Tryz.func3.symm.trans hfn)).symm
   exact ⟨pl,noStandIns⟩)
  pg
#print axioms proved
end Go.Proofs.YtkikcohfbelmeacGreatDoor.spliceJoins
