/- For every row of acts ProcNumbers returns true and leaves its argument as it is: the volume and the example are reckoned by the kernel with an executor that is proved sound; each act, whatever it is, is carried out by the same executor over a table of which the numbers are below the next one. Conditions: none but the row's own (the two listed tables of utf8 are laid). -/
import Derived.Test.YtfelnhemmccjmaaGreatDoorPF
import Derived.Test.YtfelnhemmccjmaaGreatDoorTie
import Derived.Test.YtfelnhemmccjmaaGreatDoorCards
import Derived.ProofKit
import Derived.OpenShut
import Derived.LaidMore
import Derived.Lay
import Derived.SevenTiedAt
import Derived.Stop.Joined
set_option autoImplicit false
set_option linter.unusedSimpArgs false
set_option linter.unusedVariables false
set_option maxRecDepth 100000
namespace Go.Proofs.YtfelnhemmccjmaaGreatDoor.procNumbers
open Go Go.AX Go.ChangeShapes Go.WideShapes Go.ChangeAt Go.RowKit
theorem own : ownKnob Tryz.prog.godebug = none := by kernel_rfl

theorem lifted (os : Os) (started : os.Started) (H : Type) (enc : TypeId × Value → H) :
    ReturnsInHanded {} Tryz.checked os 3 .any (fun w args => (Rows.procNumbersSpec.pre enc Tryz.prog Tryz.f3 Rows.procNumbersRow.domain false w args ∧ laidMetH Tryz.prog Rows.procNumbersRow.laid w) ∧ sizedMet enc Tryz.prog Tryz.f3 (OpenSpec.ofChange Rows.procNumbersSpec) false w args)
      (Rows.procNumbersSpec.post enc Tryz.prog Tryz.f3 false true false false) := by
  refine returnsInHanded_of_change_and (C := Tryz.checked) (X := fun w _ => laidMetH Tryz.prog Rows.procNumbersRow.laid w) (fun _ _ _ hh h => h.of_heap hh) own started (by kernel_rfl) Tryz.func3
    (ChangeSpec.witness_shaped (enc := enc) (C := Tryz.checked) (os := os) (X := fun w _ => laidMetH Tryz.prog Rows.procNumbersRow.laid w) false (World.laidAll Tryz.prog os Rows.procNumbersRow.laid) #[.slice none 0 0] 8 (World.laidAll_os _ _ _)
      (World.shaped_of_ZipB (by kernel_rfl) (by kernel_rfl)) (by kernel_rfl) (by kernel_rfl) (by kernel_rfl)
      (by rw [MakeChecks.laidMetH_plain _ _ _ (by kernel_rfl)]; exact laidMet_laidAll _ (by kernel_rfl) (by kernel_rfl))) ?_
  intro W base args ds gs before hval0 hW _ _ _ _
  have hval : ∀ (j : Nat) t v, Tryz.f3.params[j]? = some t → args[j]? = some v → Value.okWide Tryz.prog W .any base t v := hval0
  have hW' := hW
  obtain ⟨p, q, hA0, hV, rfl, _, _⟩ := hW
  have hA : DataW.TrodAll enc Tryz.prog W 0 (fun _ => true) true Tryz.f3.params.toList args.toList ds p := hA0
  rw [Tryz.params3] at hA hval
  obtain ⟨v0, vs0, d0, ds0, p0, q0, hargs, rfl, rfl, h0, r0⟩ := trodAll_cons hA
  obtain ⟨rfl, rfl, rfl⟩ := trodAll_nil r0
  obtain rfl : args = #[v0] := by cases args; simp_all
  obtain ⟨rfl, rfl⟩ := trodVars_none hV
  have h0k := h0
  obtain ⟨fuel0, hf0⟩ := h0
  have hlt0 : ∀ x ∈ p0, x.block < W.heap.size := DataW.trod_lt _ _ _ _ hf0
  obtain ⟨ad, len0, cap0, rfl⟩ := okWide_slice Tryz.underlying22 (hval 0 22 v0 rfl rfl)
  have hwalk : (Value.slice ad len0 cap0 = .slice none 0 0) ∨ ∃ a len cap, Value.slice ad len0 cap0 = .slice (some a) len cap ∧ a.spot = none ∧ len ≤ cap ∧
      ∀ i, i < len → ∃ kd pd fl y, W.cell? (a.add (i * 4)) = some (.int .i64 kd) ∧ W.cell? (a.add (i * 4 + 1)) = some (.int .i64 pd) ∧ W.cell? (a.add (i * 4 + 2)) = some (.int .i64 fl) ∧ W.cell? (a.add (i * 4 + 3)) = some y ∧ y.oneCell' = true := by
    have hok := hval 0 22 _ rfl rfl
    cases ad with
    | none =>
      rcases DataW.trod_slice Tryz.underlying22 hf0 with ⟨hcs, _⟩ | ⟨a, len, cap, _, _, _, _, hcs, _⟩
      · left; simpa [Value.cells] using hcs
      · simp [Value.cells] at hcs
    | some a =>
      right
      have hsp : a.spot = none := by
        simp only [Value.okWide, Tryz.underlying22, Cell.okWide, Cell.ok] at hok
        exact hok.2.2.2.1
      obtain ⟨hl, hc⟩ := acts_at hf0
      exact ⟨a, len0, cap0, rfl, hsp, hl, hc⟩
  clear hA0 hval0
  simp only [List.append_nil] at hW'
  refine (Go.AX.walk W _ hwalk).mono fun e W' ⟨he, hb⟩ => ?_
  subst he
  exact ⟨_, rfl, _, _, _, [], _, [], hW', trodAll_mk1 (shut_bool Tryz.underlying4 _), trodAll_cons_mk (Below.trod (by kernel_rfl) (by kernel_rfl) (of_decide_eq_true (by kernel_rfl)) h0k hb hlt0) trodAll_mk0, rfl, hb.frame _, fun h => by cases h⟩
theorem over : Rows.procNumbersRow.holds Tryz.pinned (OpenSpec.ofChange Rows.procNumbersSpec) :=
  OpenClaim.holds_of_wide 3 Tryz.f3 rfl rfl rfl rfl rfl rfl rfl ⟨rfl, rfl, rfl, rfl, rfl⟩ rfl rfl rfl rfl rfl (by kernel_rfl) Tryz.func3 (by kernel_rfl)
    (of_decide_eq_true (by kernel_rfl)) (by unfold Func.isWrapper; first | (rw [if_pos (by decide +kernel)]; kernel_rfl) | (rw [if_neg (by decide +kernel)]; exact ⟨rfl, rfl⟩))
    (fun os started H enc _ => lifted os started H enc)
theorem card_holds : Rows.ProcNumbersCardSaid :=
  Claim7.holds_tied_plain_at .later [] [.data, .pinned] true (true, "4ec42321c06026dc94ebaf213c382e903fa3ff63820897a861c85cac3665e05e") true over (fun _ h => by cases h) (by kernel_rfl) (fun _ h => by cases h) procNumbers_row_tie rfl ⟨rfl, rfl⟩ (by kernel_rfl) rfl
    (fun f fn hf hfn => by
      obtain rfl : f = 3 := Option.some.inj ((show Tryz.prog.funcNamed "farrier/farrierlaw08.ProcNumbers" = some 3 by kernel_rfl).symm.trans hf) |>.symm
      obtain rfl : fn = Tryz.f3 := (Option.some.inj (Tryz.func3.symm.trans hfn)).symm
      exact ⟨by kernel_rfl, fun j t ht => by
        rw [Tryz.params3] at ht
        have hm : t ∈ [22] := by simpa using Array.mem_of_getElem? ht
        have hall : ([22].all fun u => !Tryz.prog.wantsStandIn u) = true := by kernel_rfl
        exact (show Tryz.prog.wantsStandIn t = false by simpa using List.all_eq_true.1 hall t hm)⟩)
    (by kernel_rfl)
#print axioms card_holds
end Go.Proofs.YtfelnhemmccjmaaGreatDoor.procNumbers
