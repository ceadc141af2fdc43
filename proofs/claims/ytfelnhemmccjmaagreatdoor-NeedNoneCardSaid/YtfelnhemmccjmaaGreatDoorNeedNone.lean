/- For every pair of arguments NeedNone returns true and leaves its arguments as they are: the run hangs on the lowest four bits of the first argument and on the second alone, and each of the 32 cases is reckoned by the kernel with an executor that is proved sound. Conditions: none but the row's own (the two listed tables of utf8 are laid). -/
import Derived.Test.YtfelnhemmccjmaaGreatDoorQ17N0
import Derived.Test.YtfelnhemmccjmaaGreatDoorQ17N1
import Derived.Test.YtfelnhemmccjmaaGreatDoorQ17N2
import Derived.Test.YtfelnhemmccjmaaGreatDoorQ17N3
import Derived.Test.YtfelnhemmccjmaaGreatDoorAxD
import Derived.Test.YtfelnhemmccjmaaGreatDoorTie
import Derived.Test.YtfelnhemmccjmaaGreatDoorCards
import Derived.ProofKit
import Derived.OpenShut
import Derived.LaidMore
import Derived.Lay
import Derived.SevenTiedAt
import Derived.Stop.Joined
set_option autoImplicit false
set_option linter.unusedSimpArgs false
set_option linter.unusedVariables false
set_option maxRecDepth 100000
namespace Go.Proofs.YtfelnhemmccjmaaGreatDoor.needNone
open Go Go.AX Go.ChangeShapes Go.WideShapes Go.ChangeAt Go.RowKit
theorem own : ownKnob Tryz.prog.godebug = none := by kernel_rfl
theorem all : ∀ (k : Nat) (b : Bool), 16 ≤ k → k < 32 → yesQ (callQ cfgC17 3000 5 [.c (.sym k), .c (.bool b)] ⟨.e, Tryz.prog.globals.size⟩) = true := by
  intro k b h1 h2
  rw [glob3]
  have h : k = 16 ∨ k = 17 ∨ k = 18 ∨ k = 19 ∨ k = 20 ∨ k = 21 ∨ k = 22 ∨ k = 23 ∨ k = 24 ∨ k = 25 ∨ k = 26 ∨ k = 27 ∨ k = 28 ∨ k = 29 ∨ k = 30 ∨ k = 31 := by omega
  rcases h with rfl | rfl | rfl | rfl | rfl | rfl | rfl | rfl | rfl | rfl | rfl | rfl | rfl | rfl | rfl | rfl
  · cases b
    · exact need_16_false
    · exact need_16_true
  · cases b
    · exact need_17_false
    · exact need_17_true
  · cases b
    · exact need_18_false
    · exact need_18_true
  · cases b
    · exact need_19_false
    · exact need_19_true
  · cases b
    · exact need_20_false
    · exact need_20_true
  · cases b
    · exact need_21_false
    · exact need_21_true
  · cases b
    · exact need_22_false
    · exact need_22_true
  · cases b
    · exact need_23_false
    · exact need_23_true
  · cases b
    · exact need_24_false
    · exact need_24_true
  · cases b
    · exact need_25_false
    · exact need_25_true
  · cases b
    · exact need_26_false
    · exact need_26_true
  · cases b
    · exact need_27_false
    · exact need_27_true
  · cases b
    · exact need_28_false
    · exact need_28_true
  · cases b
    · exact need_29_false
    · exact need_29_true
  · cases b
    · exact need_30_false
    · exact need_30_true
  · cases b
    · exact need_31_false
    · exact need_31_true
theorem walk (a0 : Int) (a1 : Bool) (w : World) : Calls Tryz.prog 5 #[.int .i64 a0, .bool a1] w fun e w' => e = .returned (.bool true) ∧ Below w.heap.size w w' := by
  have h1 := Int.emod_nonneg a0 (show ((2 ^ 4 : Nat) : Int) ≠ 0 by decide)
  have h2 := Int.emod_lt_of_pos a0 (show (0 : Int) < ((2 ^ 4 : Nat) : Int) by decide)
  have h3 : ((2 ^ 4 : Nat) : Int) = 16 := rfl
  refine run_true cfgC17_ok (all (2 ^ 4 + (a0 % ((2 ^ 4 : Nat) : Int)).toNat) a1 (by omega) (by omega)) ?_ Tryz.func5 (by kernel_rfl) rfl w
  exact .cons (sym_low _ a0 4 rfl) (.cons rfl .nil)
theorem lifted (os : Os) (started : os.Started) (H : Type) (enc : TypeId × Value → H) :
    ReturnsInHanded {} Tryz.checked os 5 .any (fun w args => (Rows.needNoneSpec.pre enc Tryz.prog Tryz.f5 Rows.needNoneRow.domain false w args ∧ laidMetH Tryz.prog Rows.needNoneRow.laid w) ∧ sizedMet enc Tryz.prog Tryz.f5 (OpenSpec.ofChange Rows.needNoneSpec) false w args)
      (Rows.needNoneSpec.post enc Tryz.prog Tryz.f5 false true false false) := by
  refine returnsInHanded_of_change_and (C := Tryz.checked) (X := fun w _ => laidMetH Tryz.prog Rows.needNoneRow.laid w) (fun _ _ _ hh h => h.of_heap hh) own started (by kernel_rfl) Tryz.func5
    (ChangeSpec.witness_shaped (enc := enc) (C := Tryz.checked) (os := os) (X := fun w _ => laidMetH Tryz.prog Rows.needNoneRow.laid w) false (World.laidAll Tryz.prog os Rows.needNoneRow.laid) #[.int .i64 0, .bool false] 8 (World.laidAll_os _ _ _)
      (World.shaped_of_ZipB (by kernel_rfl) (by kernel_rfl)) (by kernel_rfl) (by kernel_rfl) (by kernel_rfl)
      (by rw [MakeChecks.laidMetH_plain _ _ _ (by kernel_rfl)]; exact laidMet_laidAll _ (by kernel_rfl) (by kernel_rfl))) ?_
  intro W base args ds gs before hval0 hW _ _ _ _
  have hval : ∀ (j : Nat) t v, Tryz.f5.params[j]? = some t → args[j]? = some v → Value.okWide Tryz.prog W .any base t v := hval0
  have hW' := hW
  obtain ⟨p, q, hA0, hV, rfl, _, _⟩ := hW
  have hA : DataW.TrodAll enc Tryz.prog W 0 (fun _ => true) true Tryz.f5.params.toList args.toList ds p := hA0
  rw [Tryz.params5] at hA hval
  obtain ⟨v0, vs0, d0, ds0, p0, q0, hargs, rfl, rfl, h0, r0⟩ := trodAll_cons hA
  obtain ⟨v1, vs1, d1, ds1, p1, q1, rfl, rfl, rfl, h1, r1⟩ := trodAll_cons r0
  obtain ⟨rfl, rfl, rfl⟩ := trodAll_nil r1
  obtain rfl : args = #[v0, v1] := by cases args; simp_all
  obtain ⟨rfl, rfl⟩ := trodVars_none hV
  obtain ⟨a0, rfl, rfl, rfl, w0⟩ := open_int Tryz.underlying3 (hval 0 3 v0 rfl rfl) h0
  obtain ⟨a1, rfl, rfl, rfl⟩ := open_bool Tryz.underlying4 (hval 1 4 v1 rfl rfl) h1
  clear hA0 hval0
  simp only [List.append_nil] at hW'
  refine (walk a0 a1 W).mono fun e W' ⟨he, hb⟩ => ?_
  subst he
  exact ⟨_, rfl, _, _, _, [], [], [], hW', trodAll_mk1 (shut_bool Tryz.underlying4 _), trodAll_cons_mk (shut_int Tryz.underlying3 w0) (trodAll_cons_mk (shut_bool Tryz.underlying4 _) trodAll_mk0), rfl, hb.frame _, fun h => by cases h⟩
theorem over : Rows.needNoneRow.holds Tryz.pinned (OpenSpec.ofChange Rows.needNoneSpec) :=
  OpenClaim.holds_of_wide 5 Tryz.f5 rfl rfl rfl rfl rfl rfl rfl ⟨rfl, rfl, rfl, rfl, rfl⟩ rfl rfl rfl rfl rfl (by kernel_rfl) Tryz.func5 (by kernel_rfl)
    (of_decide_eq_true (by kernel_rfl)) (by unfold Func.isWrapper; first | (rw [if_pos (by decide +kernel)]; kernel_rfl) | (rw [if_neg (by decide +kernel)]; exact ⟨rfl, rfl⟩))
    (fun os started H enc _ => lifted os started H enc)
theorem card_holds : Rows.NeedNoneCardSaid :=
  Claim7.holds_tied_plain_at .later [] [.data, .pinned] true (true, "4ec42321c06026dc94ebaf213c382e903fa3ff63820897a861c85cac3665e05e") true over (fun _ h => by cases h) (by kernel_rfl) (fun _ h => by cases h) needNone_row_tie rfl ⟨rfl, rfl⟩ (by kernel_rfl) rfl
    (fun f fn hf hfn => by
      obtain rfl : f = 5 := Option.some.inj ((show Tryz.prog.funcNamed "farrier/farrierlaw17.NeedNone" = some 5 by kernel_rfl).symm.trans hf) |>.symm
      obtain rfl : fn = Tryz.f5 := (Option.some.inj (Tryz.func5.symm.trans hfn)).symm
      exact ⟨by kernel_rfl, fun j t ht => by
        rw [Tryz.params5] at ht
        have hm : t ∈ [3, 4] := by simpa using Array.mem_of_getElem? ht
        have hall : ([3, 4].all fun u => !Tryz.prog.wantsStandIn u) = true := by kernel_rfl
        exact (show Tryz.prog.wantsStandIn t = false by simpa using List.all_eq_true.1 hall t hm)⟩)
    (by kernel_rfl)
#print axioms card_holds
end Go.Proofs.YtfelnhemmccjmaaGreatDoor.needNone
