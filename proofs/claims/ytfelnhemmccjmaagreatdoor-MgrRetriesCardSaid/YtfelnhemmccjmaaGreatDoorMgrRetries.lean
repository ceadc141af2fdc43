/- For every pair of arguments MgrRetries returns true and leaves its arguments as they are: the run hangs on the lowest two bits of each argument alone, and each of the 16 cases is reckoned by the kernel with an executor that is proved sound. Conditions: none but the row's own (the two listed tables of utf8 are laid). -/
import Derived.Test.YtfelnhemmccjmaaGreatDoorQ16N0
import Derived.Test.YtfelnhemmccjmaaGreatDoorQ16N1
import Derived.Test.YtfelnhemmccjmaaGreatDoorAxD
import Derived.Test.YtfelnhemmccjmaaGreatDoorTie
import Derived.Test.YtfelnhemmccjmaaGreatDoorCards
import Derived.ProofKit
import Derived.OpenShut
import Derived.LaidMore
import Derived.Lay
import Derived.SevenTiedAt
import Derived.Stop.Joined
set_option autoImplicit false
set_option linter.unusedSimpArgs false
set_option linter.unusedVariables false
set_option maxRecDepth 100000
namespace Go.Proofs.YtfelnhemmccjmaaGreatDoor.mgrRetries
open Go Go.AX Go.ChangeShapes Go.WideShapes Go.ChangeAt Go.RowKit
theorem own : ownKnob Tryz.prog.godebug = none := by kernel_rfl
theorem all : ∀ (k b : Nat), 4 ≤ k → k < 8 → 4 ≤ b → b < 8 → yesQ (callQ cfgC16 3000 8 [.c (.sym k), .c (.sym b)] ⟨.e, Tryz.prog.globals.size⟩) = true := by
  intro k b h1 h2 h3 h4
  rw [glob3]
  have h : k = 4 ∨ k = 5 ∨ k = 6 ∨ k = 7 := by omega
  have h' : b = 4 ∨ b = 5 ∨ b = 6 ∨ b = 7 := by omega
  rcases h with rfl | rfl | rfl | rfl <;> rcases h' with rfl | rfl | rfl | rfl
  · exact retr_4_4
  · exact retr_4_5
  · exact retr_4_6
  · exact retr_4_7
  · exact retr_5_4
  · exact retr_5_5
  · exact retr_5_6
  · exact retr_5_7
  · exact retr_6_4
  · exact retr_6_5
  · exact retr_6_6
  · exact retr_6_7
  · exact retr_7_4
  · exact retr_7_5
  · exact retr_7_6
  · exact retr_7_7
theorem walk (a0 a1 : Int) (w : World) : Calls Tryz.prog 8 #[.int .i64 a0, .int .i64 a1] w fun e w' => e = .returned (.bool true) ∧ Below w.heap.size w w' := by
  have h1 := Int.emod_nonneg a0 (show ((2 ^ 2 : Nat) : Int) ≠ 0 by decide)
  have h2 := Int.emod_lt_of_pos a0 (show (0 : Int) < ((2 ^ 2 : Nat) : Int) by decide)
  have h4 := Int.emod_nonneg a1 (show ((2 ^ 2 : Nat) : Int) ≠ 0 by decide)
  have h5 := Int.emod_lt_of_pos a1 (show (0 : Int) < ((2 ^ 2 : Nat) : Int) by decide)
  have h3 : ((2 ^ 2 : Nat) : Int) = 4 := rfl
  refine run_true cfgC16_ok (all (2 ^ 2 + (a0 % ((2 ^ 2 : Nat) : Int)).toNat) (2 ^ 2 + (a1 % ((2 ^ 2 : Nat) : Int)).toNat) (by omega) (by omega) (by omega) (by omega)) ?_ Tryz.func8 (by kernel_rfl) rfl w
  exact .cons (sym_low _ a0 2 rfl) (.cons (sym_low _ a1 2 rfl) .nil)
theorem lifted (os : Os) (started : os.Started) (H : Type) (enc : TypeId × Value → H) :
    ReturnsInHanded {} Tryz.checked os 8 .any (fun w args => (Rows.mgrRetriesSpec.pre enc Tryz.prog Tryz.f8 Rows.mgrRetriesRow.domain false w args ∧ laidMetH Tryz.prog Rows.mgrRetriesRow.laid w) ∧ sizedMet enc Tryz.prog Tryz.f8 (OpenSpec.ofChange Rows.mgrRetriesSpec) false w args)
      (Rows.mgrRetriesSpec.post enc Tryz.prog Tryz.f8 false true false false) := by
  refine returnsInHanded_of_change_and (C := Tryz.checked) (X := fun w _ => laidMetH Tryz.prog Rows.mgrRetriesRow.laid w) (fun _ _ _ hh h => h.of_heap hh) own started (by kernel_rfl) Tryz.func8
    (ChangeSpec.witness_shaped (enc := enc) (C := Tryz.checked) (os := os) (X := fun w _ => laidMetH Tryz.prog Rows.mgrRetriesRow.laid w) false (World.laidAll Tryz.prog os Rows.mgrRetriesRow.laid) #[.int .i64 0, .int .i64 0] 8 (World.laidAll_os _ _ _)
      (World.shaped_of_ZipB (by kernel_rfl) (by kernel_rfl)) (by kernel_rfl) (by kernel_rfl) (by kernel_rfl)
      (by rw [MakeChecks.laidMetH_plain _ _ _ (by kernel_rfl)]; exact laidMet_laidAll _ (by kernel_rfl) (by kernel_rfl))) ?_
  intro W base args ds gs before hval0 hW _ _ _ _
  have hval : ∀ (j : Nat) t v, Tryz.f8.params[j]? = some t → args[j]? = some v → Value.okWide Tryz.prog W .any base t v := hval0
  have hW' := hW
  obtain ⟨p, q, hA0, hV, rfl, _, _⟩ := hW
  have hA : DataW.TrodAll enc Tryz.prog W 0 (fun _ => true) true Tryz.f8.params.toList args.toList ds p := hA0
  rw [Tryz.params8] at hA hval
  obtain ⟨v0, vs0, d0, ds0, p0, q0, hargs, rfl, rfl, h0, r0⟩ := trodAll_cons hA
  obtain ⟨v1, vs1, d1, ds1, p1, q1, rfl, rfl, rfl, h1, r1⟩ := trodAll_cons r0
  obtain ⟨rfl, rfl, rfl⟩ := trodAll_nil r1
  obtain rfl : args = #[v0, v1] := by cases args; simp_all
  obtain ⟨rfl, rfl⟩ := trodVars_none hV
  obtain ⟨a0, rfl, rfl, rfl, w0⟩ := open_int Tryz.underlying3 (hval 0 3 v0 rfl rfl) h0
  obtain ⟨a1, rfl, rfl, rfl, w1⟩ := open_int Tryz.underlying3 (hval 1 3 v1 rfl rfl) h1
  clear hA0 hval0
  simp only [List.append_nil] at hW'
  refine (walk a0 a1 W).mono fun e W' ⟨he, hb⟩ => ?_
  subst he
  exact ⟨_, rfl, _, _, _, [], [], [], hW', trodAll_mk1 (shut_bool Tryz.underlying4 _), trodAll_cons_mk (shut_int Tryz.underlying3 w0) (trodAll_cons_mk (shut_int Tryz.underlying3 w1) trodAll_mk0), rfl, hb.frame _, fun h => by cases h⟩
theorem over : Rows.mgrRetriesRow.holds Tryz.pinned (OpenSpec.ofChange Rows.mgrRetriesSpec) :=
  OpenClaim.holds_of_wide 8 Tryz.f8 rfl rfl rfl rfl rfl rfl rfl ⟨rfl, rfl, rfl, rfl, rfl⟩ rfl rfl rfl rfl rfl (by kernel_rfl) Tryz.func8 (by kernel_rfl)
    (of_decide_eq_true (by kernel_rfl)) (by unfold Func.isWrapper; first | (rw [if_pos (by decide +kernel)]; kernel_rfl) | (rw [if_neg (by decide +kernel)]; exact ⟨rfl, rfl⟩))
    (fun os started H enc _ => lifted os started H enc)
theorem card_holds : Rows.MgrRetriesCardSaid :=
  Claim7.holds_tied_plain_at .later [] [.data, .pinned] true (true, "4ec42321c06026dc94ebaf213c382e903fa3ff63820897a861c85cac3665e05e") true over (fun _ h => by cases h) (by kernel_rfl) (fun _ h => by cases h) mgrRetries_row_tie rfl ⟨rfl, rfl⟩ (by kernel_rfl) rfl
    (fun f fn hf hfn => by
      obtain rfl : f = 8 := Option.some.inj ((show Tryz.prog.funcNamed "farrier/farrierlaw16.MgrRetries" = some 8 by kernel_rfl).symm.trans hf) |>.symm
      obtain rfl : fn = Tryz.f8 := (Option.some.inj (Tryz.func8.symm.trans hfn)).symm
      exact ⟨by kernel_rfl, fun j t ht => by
        rw [Tryz.params8] at ht
        have hm : t ∈ [3] := by simpa using Array.mem_of_getElem? ht
        have hall : ([3].all fun u => !Tryz.prog.wantsStandIn u) = true := by kernel_rfl
        exact (show Tryz.prog.wantsStandIn t = false by simpa using List.all_eq_true.1 hall t hm)⟩)
    (by kernel_rfl)
#print axioms card_holds
end Go.Proofs.YtfelnhemmccjmaaGreatDoor.mgrRetries
