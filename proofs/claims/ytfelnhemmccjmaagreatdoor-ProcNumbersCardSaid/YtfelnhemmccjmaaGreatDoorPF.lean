/- Part of a proof: a checked executor for the model, its proof of soundness, tables and kernel runs. No condition of its own. -/
import Derived.Test.YtfelnhemmccjmaaGreatDoorPTab
import Derived.Test.YtfelnhemmccjmaaGreatDoorPOpen
import Derived.Test.YtfelnhemmccjmaaGreatDoorPCode
import Derived.Test.YtfelnhemmccjmaaGreatDoorBxD
import Derived.ChangeArms
import Derived.ChangeSlices
import Derived.Carry
import Derived.ChangeOld
set_option autoImplicit false
set_option linter.unusedSimpArgs false
set_option linter.unusedVariables false
set_option maxRecDepth 100000
namespace Go.AX
open Go Go.Proofs
theorem s11 : SummSound Tryz.prog 11 (closedS 4 open08N open08V open08K) := closed_of cfgA_ok (by rw [glob3]; decide) open08_ok
theorem s10 : SummSound Tryz.prog 10 (plainS true) := plain_of cfgA_ok (by rw [glob3]; exact alive08_ok)
def summP : T (List A → St → Option (V × St)) := (.n (.n (.n (.n (.n (.n (.n (.n .e (some treeLoose2) .e) none .e) none .e) none .e) none .e) none (.n (.n (.n (.n .e (some (sortedI2 [109, 193])) .e) none .e) none .e) (some (closedS 4 open08N open08V open08K)) .e)) none (.n (.n (.n .e none (.n .e none (.n .e (some treeUsed2) .e))) none .e) none .e)) none (.n .e none (.n (.n (.n (.n .e none (.n .e none (.n .e (some countS) .e))) none .e) (some (plainS true)) (.n (.n (.n .e (some treeClone2) .e) none .e) none .e)) none (.n .e none (.n (.n .e none (.n .e none (.n .e (some indexB) .e))) none .e)))))
def cfgP : Cfg := { code := fun f => codeT.get (.ofNat f), meth := methA, summ := fun f => summP.get (.ofNat f) }
theorem summP_ok : AllT summP fun p sm => SummSound Tryz.prog p.toNat sm := ⟨⟨⟨⟨⟨⟨⟨⟨trivial, some_all s127, trivial⟩, none_all, trivial⟩, none_all, trivial⟩, none_all, trivial⟩, none_all, trivial⟩, none_all, ⟨⟨⟨⟨trivial, some_all s67, trivial⟩, none_all, trivial⟩, none_all, trivial⟩, some_all s11, trivial⟩⟩, none_all, ⟨⟨⟨trivial, none_all, ⟨trivial, none_all, ⟨trivial, some_all s113, trivial⟩⟩⟩, none_all, trivial⟩, none_all, trivial⟩⟩, none_all, ⟨trivial, none_all, ⟨⟨⟨⟨trivial, none_all, ⟨trivial, none_all, ⟨trivial, some_all s226, trivial⟩⟩⟩, none_all, trivial⟩, some_all s10, ⟨⟨⟨trivial, some_all s74, trivial⟩, none_all, trivial⟩, none_all, trivial⟩⟩, none_all, ⟨trivial, none_all, ⟨⟨trivial, none_all, ⟨trivial, none_all, ⟨trivial, some_all s238, trivial⟩⟩⟩, none_all, trivial⟩⟩⟩⟩⟩
theorem cfgP_ok : CfgOk Tryz.prog cfgP := ⟨mixedT, code_of codeT_ok, methL_ok meths_ok rfl, summ_of summP_ok⟩
end Go.AX

set_option maxRecDepth 100000
namespace Go.AX
open Go Go.Proofs

theorem callN_code {cfg : Cfg} {n f : Nat} {args : List A} {s : St} {fn : IFunc} {tm : Tm} (hs : cfg.summ f = none) (hc : cfg.code f = some fn) (ht : initTm fn.params args .e = some tm) :
    callN cfg (n + 1) f args s = match exec cfg (callN cfg n) n fn.body tm s with
      | some (.norm tm s) => (match ressOf tm s fn.results with | some l => some (resV l, s) | none => none)
      | some (.ret tm s) => (match ressOf tm s fn.results with | some l => some (resV l, s) | none => none)
      | _ => none := by
  simp only [callN, hs, hc, ht]
  rfl
theorem callN_sm {cfg : Cfg} {n f : Nat} {args : List A} {s : St} {sm : List A → St → Option (V × St)} (hs : cfg.summ f = some sm) : callN cfg (n + 1) f args s = sm args s := by
  simp only [callN, hs]

theorem sP3 : cfgP.summ 3 = none := by kernel_rfl
theorem sP12 : cfgP.summ 12 = none := by kernel_rfl
theorem sP13 : cfgP.summ 13 = none := by kernel_rfl
theorem sP14 : cfgP.summ 14 = none := by kernel_rfl
theorem sP15 : cfgP.summ 15 = none := by kernel_rfl
theorem sP16 : cfgP.summ 16 = none := by kernel_rfl
theorem sP66 : cfgP.summ 66 = none := by kernel_rfl
theorem sP68 : cfgP.summ 68 = none := by kernel_rfl
theorem sP67 : cfgP.summ 67 = some (sortedI2 [109, 193]) := by kernel_rfl
theorem sP10 : cfgP.summ 10 = some (plainS true) := by kernel_rfl
theorem sP11 : cfgP.summ 11 = some (closedS 4 open08N open08V open08K) := by kernel_rfl
theorem cP3 : cfgP.code 3 = some n3 := by kernel_rfl
theorem cP12 : cfgP.code 12 = some n12 := by kernel_rfl
theorem cP13 : cfgP.code 13 = some n13 := by kernel_rfl
theorem cP14 : cfgP.code 14 = some n14 := by kernel_rfl
theorem cP15 : cfgP.code 15 = some n15 := by kernel_rfl
theorem cP16 : cfgP.code 16 = some n16 := by kernel_rfl
theorem cP66 : cfgP.code 66 = some n66 := by kernel_rfl
theorem cP68 : cfgP.code 68 = some n68 := by kernel_rfl

theorem new_run (n : Nat) (x : C) (s : St) : callN cfgP (n + 1) 12 [.c x] s = some (.a (.c (.ptr (s.nx + 1) 0)), (s.new (.map [])).new (.row [x, .map s.nx, .int .i64 1])) := by
  rw [callN_code sP12 cP12 rfl]
  simp [exec, runOps, runOper, wantedI, IOp.run, IOp.kind, same, IOp.val, IOp.eff, ev, evC, evA, evI, putT, one, T.get_set, Pos.ofNat_inj_iff, intBin, eqA, runD, runD.checkAgain, fillParts, splice, A.cells, eqVV_refl, evAs, decEq_i64, ble_dec, beq_dec, blt_dec, n12, ressOf, resOf, resV]
end Go.AX

set_option maxRecDepth 100000
namespace Go.AX
open Go Go.Proofs

abbrev rowT (fv : C) (m k : Nat) : Obj := .cells 3 .nilp (.n 0 [fv, .map m, .int .i64 (Int.ofNat k)] .e) false
abbrev rowP (q : Nat) : Obj := .cells 4 .nilp (.n 0 [.int .i64 (Int.ofNat q), .str [117], .nils, .bool false] .e) false

theorem rowT_0 {s : St} {t m k : Nat} {fv : C} (h : s.get t = some (rowT fv m k)) : s.load t 0 = some fv := by unfold St.load; rw [h]; rfl
theorem rowT_1 {s : St} {t m k : Nat} {fv : C} (h : s.get t = some (rowT fv m k)) : s.load t 1 = some (.map m) := by unfold St.load; rw [h]; rfl
theorem rowT_2 {s : St} {t m k : Nat} {fv : C} (h : s.get t = some (rowT fv m k)) : s.load t 2 = some (.int .i64 (Int.ofNat k)) := by unfold St.load; rw [h]; rfl
theorem rowT_s0 {s : St} {t m k : Nat} {fv : C} (h : s.get t = some (rowT fv m k)) (c : C) : s.storeN t 0 [c] = some (s.put t (rowT c m k)) := by unfold St.storeN; rw [h]; rfl
theorem rowT_s1 {s : St} {t m k : Nat} {fv : C} (h : s.get t = some (rowT fv m k)) (m' : Nat) : s.storeN t 1 [.map m'] = some (s.put t (rowT fv m' k)) := by unfold St.storeN; rw [h]; rfl
theorem rowT_s2 {s : St} {t m k : Nat} {fv : C} (h : s.get t = some (rowT fv m k)) (k' : Nat) : s.storeN t 2 [.int .i64 (Int.ofNat k')] = some (s.put t (rowT fv m k')) := by unfold St.storeN; rw [h]; rfl
theorem rowP_2 {s : St} {b q : Nat} (h : s.get b = some (rowP q)) : s.load b 2 = some .nils := by unfold St.load; rw [h]; rfl
theorem rowP_0 {s : St} {b q : Nat} (h : s.get b = some (rowP q)) : s.load b 0 = some (.int .i64 (Int.ofNat q)) := by unfold St.load; rw [h]; rfl
theorem rowP_s2 {s : St} {b q : Nat} (h : s.get b = some (rowP q)) : s.storeN b 2 [.nils] = some (s.put b (rowP q)) := by unfold St.storeN; rw [h]; rfl


def tm1 (x : A) : Tm := T.set (some (.a x)) (.ofNat 0) .e
def tm2 (x y : A) : Tm := T.set (some (.a y)) (.ofNat 1) (T.set (some (.a x)) (.ofNat 0) .e)
def tm3 (x y z : A) : Tm := T.set (some (.a z)) (.ofNat 2) (T.set (some (.a y)) (.ofNat 1) (T.set (some (.a x)) (.ofNat 0) .e))
theorem tm1_0 (x : A) : (tm1 x).get (.ofNat 0) = some (.a x) := by simp [tm1, T.get_set]
theorem tm2_0 (x y : A) : (tm2 x y).get (.ofNat 0) = some (.a x) := by simp [tm2, T.get_set, Pos.ofNat_inj_iff]
theorem tm2_1 (x y : A) : (tm2 x y).get (.ofNat 1) = some (.a y) := by simp [tm2, T.get_set]
theorem tm3_0 (x y z : A) : (tm3 x y z).get (.ofNat 0) = some (.a x) := by simp [tm3, T.get_set, Pos.ofNat_inj_iff]
theorem tm3_1 (x y z : A) : (tm3 x y z).get (.ofNat 1) = some (.a y) := by simp [tm3, T.get_set, Pos.ofNat_inj_iff]
theorem tm3_2 (x y z : A) : (tm3 x y z).get (.ofNat 2) = some (.a z) := by simp [tm3, T.get_set]
theorem callN_ret {cfg : Cfg} {n f : Nat} {args l : List A} {s s' : St} {fn : IFunc} {tm tm' : Tm} (hs : cfg.summ f = none) (hc : cfg.code f = some fn) (ht : initTm fn.params args .e = some tm) (he : exec cfg (callN cfg n) n fn.body tm s = some (.ret tm' s')) (hr : ressOf tm' s' fn.results = some l) :
    callN cfg (n + 1) f args s = some (resV l, s') := by
  rw [callN_code hs hc ht, he]
  simp only [hr]
theorem callN_norm {cfg : Cfg} {n f : Nat} {args l : List A} {s s' : St} {fn : IFunc} {tm tm' : Tm} (hs : cfg.summ f = none) (hc : cfg.code f = some fn) (ht : initTm fn.params args .e = some tm) (he : exec cfg (callN cfg n) n fn.body tm s = some (.norm tm' s')) (hr : ressOf tm' s' fn.results = some l) :
    callN cfg (n + 1) f args s = some (resV l, s') := by
  rw [callN_code hs hc ht, he]
  simp only [hr]

/-- (*Table).free, of what has no files. -/
theorem free_exec (cfg : Cfg) (call : Nat → List A → St → Option (V × St)) (n t b q : Nat) (s : St) (h : s.get b = some (rowP q)) (tm : Tm) (h0 : tm.get (.ofNat 0) = some (.a (.c (.ptr t 0)))) (h1 : tm.get (.ofNat 1) = some (.a (.c (.ptr b 0)))) : ∃ tm', exec cfg call (n + 1) n66.body tm s = some (.norm tm' (s.put b (rowP q))) := by
  apply Exists.intro
  simp [exec, iter, runOps, runOper, wantedI, IOp.run, IOp.kind, same, IOp.val, IOp.eff, ev, evC, evA, evI, putT, one, T.get_set, Pos.ofNat_inj_iff, intBin, eqA, ltI, runD, runD.checkAgain, fillParts, splice, A.cells, eqVV_refl, evAs, decEq_i64, ble_dec, beq_dec, blt_dec, n66, h0, h1, rowP_2 h, rowP_s2 h]
  rfl
theorem free_run (n t b q : Nat) (s : St) (h : s.get b = some (rowP q)) : callN cfgP (n + 2) 66 [.c (.ptr t 0), .c (.ptr b 0)] s = some (.tup [], s.put b (rowP q)) := by
  obtain ⟨tm', he⟩ := free_exec cfgP (callN cfgP (n + 1)) n t b q s h (tm2 _ _) (tm2_0 _ _) (tm2_1 _ _)
  exact callN_norm sP66 cP66 rfl he rfl

/-- (*Table).Exit: of nobody. -/
theorem exit_none_exec (cfg : Cfg) (call : Nat → List A → St → Option (V × St)) (n t m k : Nat) (fv : C) (L : List (C × A)) (p : Int) (s : St) (h : s.get t = some (rowT fv m k)) (hm : s.get m = some (.map L)) (hf : mfind (.int .i64 p) L = some none) (tm : Tm) (h0 : tm.get (.ofNat 0) = some (.a (.c (.ptr t 0)))) (h1 : tm.get (.ofNat 1) = some (.a (.c (.int .i64 p)))) :
    ∃ tm', exec cfg call n n13.body tm s = some (.ret tm' s) ∧ ressOf tm' s n13.results = some [.c (.int .i64 8)] := by
  apply Exists.intro
  refine And.intro ?_ ?_
  · simp [exec, iter, runOps, runOper, wantedI, IOp.run, IOp.kind, same, IOp.val, IOp.eff, ev, evC, evA, evI, putT, one, T.get_set, Pos.ofNat_inj_iff, intBin, eqA, ltI, runD, runD.checkAgain, fillParts, splice, A.cells, eqVV_refl, evAs, decEq_i64, ble_dec, beq_dec, blt_dec, n13, h0, h1, rowT_1 h, keyOk, getMap, hm, hf]
    rfl
  · simp [n13, ressOf, resOf, T.get_set, Pos.ofNat_inj_iff]
theorem exit_none (n t m k : Nat) (fv : C) (L : List (C × A)) (p : Int) (s : St) (h : s.get t = some (rowT fv m k)) (hm : s.get m = some (.map L)) (hf : mfind (.int .i64 p) L = some none) :
    callN cfgP (n + 1) 13 [.c (.ptr t 0), .c (.int .i64 p)] s = some (.a (.c (.int .i64 8)), s) := by
  obtain ⟨tm', he, hr⟩ := exit_none_exec cfgP (callN cfgP n) n t m k fv L p s h hm hf (tm2 _ _) (tm2_0 _ _) (tm2_1 _ _)
  exact callN_ret sP13 cP13 rfl he hr
theorem exit_some_exec (cfg : Cfg) (call : Nat → List A → St → Option (V × St)) (n t m k b q : Nat) (fv : C) (L : List (C × A)) (p : Int) (s : St) (h : s.get t = some (rowT fv m k)) (hm : s.get m = some (.map L)) (hf : mfind (.int .i64 p) L = some (some (.c (.ptr b 0))))
    (hcall : call 66 [.c (.ptr t 0), .c (.ptr b 0)] s = some (.tup [], s.put b (rowP q))) (hbt : b ≠ t) (hbm : b ≠ m) (tm : Tm) (h0 : tm.get (.ofNat 0) = some (.a (.c (.ptr t 0)))) (h1 : tm.get (.ofNat 1) = some (.a (.c (.int .i64 p)))) :
    ∃ tm', exec cfg call n n13.body tm s = some (.ret tm' ((s.put b (rowP q)).put m (.map (mdel (.int .i64 p) L)))) ∧ ∀ s', ressOf tm' s' n13.results = some [.c (.int .i64 0)] := by
  have h' : (s.put b (rowP q)).get t = some (rowT fv m k) := by rw [St.get_put, if_neg hbt]; exact h
  have hm' : (s.put b (rowP q)).get m = some (.map L) := by rw [St.get_put, if_neg hbm]; exact hm
  apply Exists.intro
  refine And.intro ?_ ?_
  · simp [exec, iter, runOps, runOper, wantedI, IOp.run, IOp.kind, same, IOp.val, IOp.eff, ev, evC, evA, evI, putT, one, T.get_set, Pos.ofNat_inj_iff, intBin, eqA, ltI, runD, runD.checkAgain, fillParts, splice, A.cells, eqVV_refl, evAs, decEq_i64, ble_dec, beq_dec, blt_dec, n13, h0, h1, rowT_1 h, keyOk, getMap, hm, hf, hcall, rowT_1 h', hm']
    rfl
  · intro s'
    simp [n13, ressOf, resOf, T.get_set, Pos.ofNat_inj_iff]
theorem exit_some (n t m k b q : Nat) (fv : C) (L : List (C × A)) (p : Int) (s : St) (h : s.get t = some (rowT fv m k)) (hm : s.get m = some (.map L)) (hf : mfind (.int .i64 p) L = some (some (.c (.ptr b 0)))) (hb : s.get b = some (rowP q)) (hbt : b ≠ t) (hbm : b ≠ m) :
    callN cfgP (n + 3) 13 [.c (.ptr t 0), .c (.int .i64 p)] s = some (.a (.c (.int .i64 0)), (s.put b (rowP q)).put m (.map (mdel (.int .i64 p) L))) := by
  obtain ⟨tm', he, hr⟩ := exit_some_exec cfgP (callN cfgP (n + 2)) (n + 2) t m k b q fv L p s h hm hf (free_run n t b q s hb) hbt hbm (tm2 _ _) (tm2_0 _ _) (tm2_1 _ _)
  exact callN_ret sP13 cP13 rfl he (hr _)

/-- (*Table).Reset. -/
theorem reset_exec (cfg : Cfg) (call : Nat → List A → St → Option (V × St)) (n t m k : Nat) (fv x : C) (s : St) (h : s.get t = some (rowT fv m k)) (hlt : t < s.nx) (tm : Tm) (h0 : tm.get (.ofNat 0) = some (.a (.c (.ptr t 0)))) (h1' : tm.get (.ofNat 1) = some (.a (.c x))) :
    ∃ tm', exec cfg call n n14.body tm s = some (.norm tm' (((s.new (.map [])).put t (rowT x m k)).put t (rowT x s.nx k))) := by
  have h1 : (s.new (.map [])).get t = some (rowT fv m k) := by rw [St.get_new, if_neg (by omega)]; exact h
  have h2 : ((s.new (.map [])).put t (rowT x m k)).get t = some (rowT x m k) := by rw [St.get_put, if_pos rfl]
  apply Exists.intro
  simp [exec, iter, runOps, runOper, wantedI, IOp.run, IOp.kind, same, IOp.val, IOp.eff, ev, evC, evA, evI, putT, one, T.get_set, Pos.ofNat_inj_iff, intBin, eqA, ltI, runD, runD.checkAgain, fillParts, splice, A.cells, eqVV_refl, evAs, decEq_i64, ble_dec, beq_dec, blt_dec, n14, h0, h1', rowT_s0 h1, rowT_s1 h2]
  rfl
theorem reset_run (n t m k : Nat) (fv x : C) (s : St) (h : s.get t = some (rowT fv m k)) (hlt : t < s.nx) :
    callN cfgP (n + 1) 14 [.c (.ptr t 0), .c x] s = some (.tup [], ((s.new (.map [])).put t (rowT x m k)).put t (rowT x s.nx k)) := by
  obtain ⟨tm', he⟩ := reset_exec cfgP (callN cfgP n) n t m k fv x s h hlt (tm2 _ _) (tm2_0 _ _) (tm2_1 _ _)
  exact callN_norm sP14 cP14 rfl he rfl
end Go.AX

set_option maxRecDepth 100000
namespace Go.AX
open Go Go.Proofs

theorem cellsI_len (l : List Int) : (cellsI l).length = l.length := by
  induction l with
  | nil => rfl
  | cons x l ih => simp [cellsI, ih]
theorem insI_len (x : Int) (l : List Int) : (insI x l).length = l.length + 1 := by
  induction l with
  | nil => rfl
  | cons y l ih => simp only [insI]; cases ltI y x <;> simp [ih]
theorem sortI_len (l : List Int) : (sortI l).length = l.length := by
  induction l with
  | nil => rfl
  | cons x l ih => simp [sortI, insI_len, ih]

/-- What a new slice is: nil where there is nothing. -/
theorem newSlice_len {l : List C} {s : St} : ∃ c s', newSlice l s = some (.a (.c c), s') ∧ ((c = .nils ∧ l.length = 0) ∨ ∃ b o cap z ex, c = .slice b o l.length cap z ex) ∧ s.nx ≤ s'.nx ∧ s'.r = s.r ∧ ∀ q, q < s.nx → s'.get q = s.get q := by
  cases l with
  | nil => exact ⟨_, _, rfl, .inl ⟨rfl, rfl⟩, Nat.le_refl _, rfl, fun _ _ => rfl⟩
  | cons x l => exact ⟨_, _, rfl, .inr ⟨_, _, _, _, _, rfl⟩, Nat.le_succ _, rfl, fun q hq => by rw [St.get_new, if_neg (by omega)]⟩

/-- (*Table).List: only how many they are. -/
theorem keys_exec (cfg : Cfg) (call : Nat → List A → St → Option (V × St)) (n m : Nat) (s : St) (tm : Tm) (h0 : tm.get (.ofNat 0) = some (.a (.c (.map m)))) :
    ∃ tm', exec cfg call n n68.body tm s = some (.ret tm' (s.new (.row [.map m]))) ∧ ∀ s', ressOf tm' s' n68.results = some [.c (.fn1 109 (.ptr s.nx 0))] := by
  apply Exists.intro
  refine And.intro ?_ ?_
  · simp [exec, iter, runOps, runOper, wantedI, IOp.run, IOp.kind, same, IOp.val, IOp.eff, ev, evC, evA, evI, evCs, putT, one, T.get_set, Pos.ofNat_inj_iff, intBin, eqA, ltI, runD, runD.checkAgain, fillParts, splice, A.cells, eqVV_refl, evAs, decEq_i64, ble_dec, beq_dec, blt_dec, n68, h0]
    rfl
  · intro s'
    simp [n68, ressOf, resOf, T.get_set, Pos.ofNat_inj_iff]
theorem keys_run (n m : Nat) (s : St) : callN cfgP (n + 1) 68 [.c (.map m)] s = some (.a (.c (.fn1 109 (.ptr s.nx 0))), s.new (.row [.map m])) := by
  obtain ⟨tm', he, hr⟩ := keys_exec cfgP (callN cfgP n) n m s (tm1 _) (tm1_0 _)
  exact callN_ret sP68 cP68 rfl he (hr _)
theorem list_exec (cfg : Cfg) (call : Nat → List A → St → Option (V × St)) (n t m k : Nat) (fv c : C) (s s1 s2 : St) (h : s.get t = some (rowT fv m k)) (g : C) (h1 : call 68 [.c (.map m)] s = some (.a (.c g), s1)) (h2 : call 67 [.c g] s1 = some (.a (.c c), s2))
    (tm : Tm) (h0 : tm.get (.ofNat 0) = some (.a (.c (.ptr t 0)))) : ∃ tm', exec cfg call n n15.body tm s = some (.ret tm' s2) ∧ ∀ s', ressOf tm' s' n15.results = some [.c c] := by
  apply Exists.intro
  refine And.intro ?_ ?_
  · simp [exec, iter, runOps, runOper, wantedI, IOp.run, IOp.kind, same, IOp.val, IOp.eff, ev, evC, evA, evI, evCs, putT, one, T.get_set, Pos.ofNat_inj_iff, intBin, eqA, ltI, runD, runD.checkAgain, fillParts, splice, A.cells, eqVV_refl, evAs, decEq_i64, ble_dec, beq_dec, blt_dec, n15, h0, rowT_1 h, h1, h2]
    rfl
  · intro s'
    simp [n15, ressOf, resOf, T.get_set, Pos.ofNat_inj_iff]
theorem list_run (n t m k : Nat) (fv : C) (L : List (C × A)) (ks : List Int) (s : St) (h : s.get t = some (rowT fv m k)) (hm : s.get m = some (.map L)) (hml : m < s.nx) (hk : keysI2 L = some ks) (hks : ks.length = L.length) (hl : L.length ≤ 32) :
    ∃ c s', callN cfgP (n + 2) 15 [.c (.ptr t 0)] s = some (.a (.c c), s') ∧ ((c = .nils ∧ L.length = 0) ∨ ∃ b o cap z ex, c = .slice b o L.length cap z ex) ∧ s.nx ≤ s'.nx ∧ s'.r = s.r ∧ ∀ q, q < s.nx → s'.get q = s.get q := by
  have hlen : (cellsI (sortI ks)).length = L.length := by rw [cellsI_len, sortI_len, hks]
  obtain ⟨c, s', h1, h2, h3, h4, h5⟩ := newSlice_len (l := cellsI (sortI ks)) (s := s.new (.row [.map m]))
  rw [hlen] at h2
  have hg : (s.new (.row [.map m])).get s.nx = some (.cells 1 .nilp (.n 0 [.map m] .e) false) := by rw [St.get_new, if_pos rfl]; rfl
  have hgm : (s.new (.row [.map m])).get m = some (.map L) := by rw [St.get_new, if_neg (by omega)]; exact hm
  have hsum : callN cfgP (n + 1) 67 [.c (.fn1 109 (.ptr s.nx 0))] (s.new (.row [.map m])) = some (.a (.c c), s') := by
    rw [callN_sm sP67]
    have ht : tget .nilp (.n 0 [.map m] .e) 0 = C.map m := rfl
    have hble : Nat.ble L.length 1000000 = true := Nat.ble_eq_true_of_le (by omega)
    simp only [sortedI2, hg, ht, hgm, hble, hk, cond_true]
    exact h1
  obtain ⟨tm', he, hr⟩ := list_exec cfgP (callN cfgP (n + 1)) (n + 1) t m k fv c s _ s' h _ (keys_run n m s) hsum (tm1 _) (tm1_0 _)
  refine ⟨c, s', callN_ret sP15 cP15 rfl he (hr _), h2, ?_, h4, fun q hq => ?_⟩
  · simp at h3; omega
  · rw [h5 q (by simp; omega), St.get_new, if_neg (by omega)]
end Go.AX

set_option maxRecDepth 100000
namespace Go.AX
open Go Go.Proofs

theorem spawn_full_exec (cfg : Cfg) (call : Nat → List A → St → Option (V × St)) (n t m k : Nat) (fv : C) (u : List Nat) (L : List (C × A)) (s : St) (h : s.get t = some (rowT fv m k)) (hm : s.get m = some (.map L)) (hL : ltI (Int.ofNat L.length) 32 = false)
    (tm : Tm) (h0 : tm.get (.ofNat 0) = some (.a (.c (.ptr t 0)))) (h1 : tm.get (.ofNat 1) = some (.a (.c (.str u)))) (h2 : tm.get (.ofNat 2) = some (.a (.c .nils))) :
    ∃ tm', exec cfg call n n16.body tm s = some (.ret tm' s) ∧ ressOf tm' s n16.results = some [.c (.int .i64 0), .c (.int .i64 7)] := by
  apply Exists.intro
  refine And.intro ?_ ?_
  · simp [exec, iter, runOps, runOper, wantedI, IOp.run, IOp.kind, same, IOp.val, IOp.eff, ev, evC, evA, evI, evCs, putT, one, T.get_set, Pos.ofNat_inj_iff, intBin, eqA, runD, runD.checkAgain, fillParts, splice, A.cells, eqVV_refl, evAs, decEq_i64, ble_dec, beq_dec, blt_dec, n16, h0, h1, h2, rowT_1 h, getMap, hm, hL, show ltI 8 (Int.ofNat 0) = false from rfl, show ltI 8 0 = false from rfl, -Int.ofNat_eq_natCast]
    rfl
  · simp [n16, ressOf, resOf, T.get_set, Pos.ofNat_inj_iff]
theorem spawn_full (n t m k : Nat) (fv : C) (u : List Nat) (L : List (C × A)) (s : St) (h : s.get t = some (rowT fv m k)) (hm : s.get m = some (.map L)) (hL : 32 ≤ L.length) :
    callN cfgP (n + 1) 16 [.c (.ptr t 0), .c (.str u), .c .nils] s = some (.tup [.c (.int .i64 0), .c (.int .i64 7)], s) := by
  have hL' : ltI (Int.ofNat L.length) 32 = false := by
    show Nat.blt L.length 32 = false
    rw [blt_dec]; simp; omega
  obtain ⟨tm', he, hr⟩ := spawn_full_exec cfgP (callN cfgP n) n t m k fv u L s h hm hL' (tm3 _ _ _) (tm3_0 _ _ _) (tm3_1 _ _ _) (tm3_2 _ _ _)
  exact callN_ret sP16 cP16 rfl he hr

theorem spawn_exec (cfg : Cfg) (call : Nat → List A → St → Option (V × St)) (n t m k : Nat) (fv : C) (L : List (C × A)) (s : St) (h : s.get t = some (rowT fv m k)) (hm : s.get m = some (.map L)) (hL : ltI (Int.ofNat L.length) 32 = true) (htm : t ≠ m) (ht : t < s.nx) (hmn : m < s.nx)
    (hf : mfind (.int .i64 (Int.ofNat k)) L = some none) (hw : wrapF .i64 (addI (Int.ofNat k) 1) = Int.ofNat (k + 1))
    (tm : Tm) (h0 : tm.get (.ofNat 0) = some (.a (.c (.ptr t 0)))) (h1 : tm.get (.ofNat 1) = some (.a (.c (.str [117])))) (h2 : tm.get (.ofNat 2) = some (.a (.c .nils))) :
    ∃ tm', exec cfg call (n + 1) n16.body tm s = some (.ret tm' (((s.new (Obj.row [.int .i64 (Int.ofNat k), .str [117], .nils, .bool false])).put m (.map (mset (.int .i64 (Int.ofNat k)) (.c (.ptr s.nx 0)) L))).put t (rowT fv m (k + 1)))) ∧ ∀ s', ressOf tm' s' n16.results = some [.c (.int .i64 (Int.ofNat k)), .c (.int .i64 0)] := by
  have a1 : (s.new (Obj.row [.int .i64 (Int.ofNat k), .str [117], .nils, .bool false])).get t = some (rowT fv m k) := by rw [St.get_new, if_neg (by omega)]; exact h
  have a2 : (s.new (Obj.row [.int .i64 (Int.ofNat k), .str [117], .nils, .bool false])).get m = some (.map L) := by rw [St.get_new, if_neg (by omega)]; exact hm
  have a3 : (s.new (Obj.row [.int .i64 (Int.ofNat k), .str [117], .nils, .bool false])).load s.nx 0 = some (.int .i64 (Int.ofNat k)) := rowP_0 (by rw [St.get_new, if_pos rfl]; rfl)
  have b1 : ((s.new (Obj.row [.int .i64 (Int.ofNat k), .str [117], .nils, .bool false])).put m (.map (mset (.int .i64 (Int.ofNat k)) (.c (.ptr s.nx 0)) L))).get t = some (rowT fv m k) := by rw [St.get_put, if_neg (Ne.symm htm)]; exact a1
  have c1 : (((s.new (Obj.row [.int .i64 (Int.ofNat k), .str [117], .nils, .bool false])).put m (.map (mset (.int .i64 (Int.ofNat k)) (.c (.ptr s.nx 0)) L))).put t (rowT fv m (k + 1))).load s.nx 0 = some (.int .i64 (Int.ofNat k)) := rowP_0 (by rw [St.get_put, if_neg (by omega), St.get_put, if_neg (by omega), St.get_new, if_pos rfl]; rfl)
  apply Exists.intro
  refine And.intro ?_ ?_
  · simp [exec, iter, runOps, runOper, wantedI, IOp.run, IOp.kind, same, IOp.val, IOp.eff, ev, evC, evA, evI, evCs, putT, one, T.get_set, Pos.ofNat_inj_iff, intBin, eqA, runD, runD.checkAgain, fillParts, splice, A.cells, eqVV_refl, evAs, decEq_i64, ble_dec, beq_dec, blt_dec, n16, h0, h1, h2, rowT_1 h, rowT_2 h, getMap, hm, hL, show ltI 8 (Int.ofNat 0) = false from rfl, show ltI 8 0 = false from rfl, show ltI 0 (Int.ofNat 0) = false from rfl, show ltI 0 0 = false from rfl, rowT_1 a1, rowT_2 a1, a2, a3, rowT_2 b1, rowT_s2 b1, c1, hf, hw, keyOk, -Int.ofNat_eq_natCast]
    rfl
  · intro s'
    simp [n16, ressOf, resOf, T.get_set, Pos.ofNat_inj_iff, -Int.ofNat_eq_natCast]
theorem spawn_run (n t m k : Nat) (fv : C) (L : List (C × A)) (s : St) (h : s.get t = some (rowT fv m k)) (hm : s.get m = some (.map L)) (hL : L.length < 32) (htm : t ≠ m) (ht : t < s.nx) (hmn : m < s.nx)
    (hf : mfind (.int .i64 (Int.ofNat k)) L = some none) (hk : k < 1000000) :
    callN cfgP (n + 2) 16 [.c (.ptr t 0), .c (.str [117]), .c .nils] s = some (.tup [.c (.int .i64 (Int.ofNat k)), .c (.int .i64 0)], ((s.new (rowP k)).put m (.map (mset (.int .i64 (Int.ofNat k)) (.c (.ptr s.nx 0)) L))).put t (rowT fv m (k + 1))) := by
  have hL' : ltI (Int.ofNat L.length) 32 = true := by
    show Nat.blt L.length 32 = true
    rw [blt_dec]; simp; omega
  have hw : wrapF .i64 (addI (Int.ofNat k) 1) = Int.ofNat (k + 1) := wrap_i64n (show k + 1 < 9223372036854775808 by omega)
  obtain ⟨tm', he, hr⟩ := spawn_exec cfgP (callN cfgP (n + 1)) n t m k fv L s h hm hL' htm ht hmn hf hw (tm3 _ _ _) (tm3_0 _ _ _) (tm3_1 _ _ _) (tm3_2 _ _ _)
  exact callN_ret sP16 cP16 rfl he (hr _)
end Go.AX

set_option maxRecDepth 100000
namespace Go.AX
open Go Go.Proofs
def g1 : ICode := (.reg [⟨(some (.ofNat 24)), none, (.iaddrV 4 (.t (.ofNat 20)) (.t (.ofNat 22)))⟩, ⟨(some (.ofNat 25)), none, (.loadN 4 (.t (.ofNat 24)))⟩, ⟨(some (.ofNat 7)), none, (.alloc [(.int .i64 0), (.int .i64 0), (.int .i64 0), .nils])⟩, ⟨none, none, (.store 4 (.t (.ofNat 7)) (.t (.ofNat 25)))⟩])
def g2 : ICode := (.reg [⟨(some (.ofNat 26)), none, (.faddr 0 (.t (.ofNat 7)))⟩, ⟨(some (.ofNat 27)), none, (.load1 (.t (.ofNat 26)))⟩, ⟨(some (.ofNat 28)), none, (.bin .and .num (.t (.ofNat 27)) (.k (.c (.int .i64 3))))⟩])
def gA : ICode := (.reg [⟨(some (.ofNat 57)), none, (.mov (.t (.ofNat 4)))⟩, ⟨(some (.ofNat 58)), none, (.faddr 1 (.t (.ofNat 7)))⟩, ⟨(some (.ofNat 59)), none, (.load1 (.t (.ofNat 58)))⟩, ⟨(some (.ofNat 60)), none, (.call 13 [(.t (.ofNat 57)), (.t (.ofNat 59))])⟩])
def gB : ICode := (.reg [⟨(some (.ofNat 63)), none, (.mov (.t (.ofNat 4)))⟩, ⟨(some (.ofNat 64)), none, (.mov (.t (.ofNat 3)))⟩, ⟨(some (.ofNat 65)), none, (.mkif 24 (.t (.ofNat 64)))⟩, ⟨(some (.ofNat 66)), none, (.call 14 [(.t (.ofNat 63)), (.t (.ofNat 65))])⟩])
def gC : ICode := (.seq (.reg [⟨(some (.ofNat 29)), none, (.mov (.t (.ofNat 4)))⟩, ⟨(some (.ofNat 30)), none, (.call 15 [(.t (.ofNat 29))])⟩, ⟨(some (.ofNat 31)), none, (.len .slice (.t (.ofNat 30)))⟩, ⟨(some (.ofNat 8)), none, (.mov (.t (.ofNat 31)))⟩])
 (.seq (.reg [⟨(some (.ofNat 33)), none, (.mov (.t (.ofNat 4)))⟩, ⟨(some (.ofNat 34)), none, (.call 16 [(.t (.ofNat 33)), (.k (.c (.str [117]))), (.k (.c .nils))])⟩, ⟨(some (.ofNat 32)), none, (.mov (.t (.ofNat 34)))⟩, ⟨(some (.ofNat 35)), none, (.ext (.t (.ofNat 32)) 0)⟩, ⟨(some (.ofNat 36)), none, (.ext (.t (.ofNat 32)) 1)⟩, ⟨(some (.ofNat 9)), none, (.mov (.t (.ofNat 35)))⟩, ⟨(some (.ofNat 10)), none, (.mov (.t (.ofNat 36)))⟩])
 (.seq (.seq (.reg [⟨(some (.ofNat 37)), none, (.mov (.t (.ofNat 10)))⟩, ⟨(some (.ofNat 38)), none, (.bin .eql .num (.t (.ofNat 37)) (.k (.c (.int .i64 0))))⟩, ⟨(some (.ofNat 39)), none, (.mov (.t (.ofNat 8)))⟩, ⟨(some (.ofNat 40)), none, (.bin .lss .num (.t (.ofNat 39)) (.k (.c (.int .i64 32))))⟩, ⟨(some (.ofNat 41)), none, (.bin .neq .bool (.t (.ofNat 38)) (.t (.ofNat 40)))⟩, ⟨(some (.ofNat 42)), none, (.mov (.t (.ofNat 41)))⟩, ⟨(some (.ofNat 43)), (some ((.ofNat 42), false)), (.mov (.t (.ofNat 10)))⟩, ⟨(some (.ofNat 44)), (some ((.ofNat 42), false)), (.bin .eql .num (.t (.ofNat 43)) (.k (.c (.int .i64 0))))⟩, ⟨(some (.ofNat 45)), (some ((.ofNat 42), false)), (.mov (.t (.ofNat 44)))⟩, ⟨(some (.ofNat 46)), (some ((.ofNat 45), true)), (.mov (.t (.ofNat 9)))⟩, ⟨(some (.ofNat 47)), (some ((.ofNat 45), true)), (.mov (.t (.ofNat 5)))⟩, ⟨(some (.ofNat 48)), (some ((.ofNat 45), true)), (.bin .add .num (.t (.ofNat 47)) (.k (.c (.int .i64 1))))⟩, ⟨(some (.ofNat 49)), (some ((.ofNat 45), true)), (.bin .neq .num (.t (.ofNat 46)) (.t (.ofNat 48)))⟩, ⟨(some (.ofNat 50)), (some ((.ofNat 42), false)), (.pick (.t (.ofNat 45)) (.t (.ofNat 49)) (.k (.c (.bool false))))⟩, ⟨(some (.ofNat 51)), none, (.pick (.t (.ofNat 42)) (.k (.c (.bool true))) (.t (.ofNat 50)))⟩])
 (.cond (.t (.ofNat 51)) (.seq (.reg [⟨(some (.ofNat 2)), none, (.mov (.k (.c (.bool false))))⟩])
 .ret) .skip))
 (.seq (.reg [⟨(some (.ofNat 52)), none, (.mov (.t (.ofNat 10)))⟩, ⟨(some (.ofNat 53)), none, (.bin .eql .num (.t (.ofNat 52)) (.k (.c (.int .i64 0))))⟩])
 (.cond (.t (.ofNat 53)) (.reg [⟨(some (.ofNat 54)), none, (.mov (.t (.ofNat 9)))⟩, ⟨(some (.ofNat 5)), none, (.mov (.t (.ofNat 54)))⟩]) .skip)))))
def g0 : ICode := (.reg [⟨(some (.ofNat 56)), none, (.bin .eql .num (.t (.ofNat 28)) (.k (.c (.int .i64 0))))⟩, ⟨(some (.ofNat 55)), none, (.mov (.t (.ofNat 56)))⟩])
def g01 : ICode := (.reg [⟨(some (.ofNat 62)), none, (.bin .eql .num (.t (.ofNat 28)) (.k (.c (.int .i64 1))))⟩, ⟨(some (.ofNat 61)), none, (.mov (.t (.ofNat 62)))⟩])
def gi : ICode := (.reg [⟨(some (.ofNat 67)), none, (.bin .add .num (.t (.ofNat 22)) (.k (.c (.int .i64 1))))⟩, ⟨(some (.ofNat 22)), none, (.mov (.t (.ofNat 67)))⟩])
def gl : ICode := (.reg [⟨(some (.ofNat 23)), none, (.bin .lss .num (.t (.ofNat 22)) (.t (.ofNat 21)))⟩])
def g3 : ICode := .block 2 (.seq g0 (.cond (.t (.ofNat 55)) gA (.seq g01 (.cond (.t (.ofNat 61)) gB gC))))
def gloop : ICode := .seq gl (.seq (.cond (.t (.ofNat 23)) .skip (.exit 0)) (.seq (.block 1 (.seq g1 (.seq g2 g3))) gi))
theorem n3_g : n3 = ⟨[(.ofNat 0)],
 (.seq (.reg [⟨(some (.ofNat 2)), none, (.mov (.k (.c (.bool false))))⟩])
 (.seq (.seq (.reg [⟨(some (.ofNat 11)), none, (.call 10 [])⟩, ⟨(some (.ofNat 12)), none, (.not (.t (.ofNat 11)))⟩])
 (.cond (.t (.ofNat 12)) (.seq (.reg [⟨(some (.ofNat 2)), none, (.mov (.k (.c (.bool false))))⟩])
 .ret) .skip))
 (.seq (.seq (.reg [⟨(some (.ofNat 13)), none, (.mov (.t (.ofNat 0)))⟩, ⟨(some (.ofNat 14)), none, (.len .slice (.t (.ofNat 13)))⟩, ⟨(some (.ofNat 15)), none, (.bin .gtr .num (.t (.ofNat 14)) (.k (.c (.int .i64 100))))⟩])
 (.cond (.t (.ofNat 15)) (.seq (.reg [⟨(some (.ofNat 2)), none, (.mov (.k (.c (.bool true))))⟩])
 .ret) .skip))
 (.seq (.reg [⟨(some (.ofNat 16)), none, (.call 11 [])⟩, ⟨(some (.ofNat 3)), none, (.mov (.t (.ofNat 16)))⟩])
 (.seq (.reg [⟨(some (.ofNat 17)), none, (.mov (.t (.ofNat 3)))⟩, ⟨(some (.ofNat 18)), none, (.mkif 24 (.t (.ofNat 17)))⟩, ⟨(some (.ofNat 19)), none, (.call 12 [(.t (.ofNat 18))])⟩, ⟨(some (.ofNat 4)), none, (.mov (.t (.ofNat 19)))⟩])
 (.seq (.reg [⟨(some (.ofNat 5)), none, (.mov (.k (.c (.int .i64 0))))⟩])
 (.seq (.seq (.reg [⟨(some (.ofNat 20)), none, (.mov (.t (.ofNat 0)))⟩, ⟨(some (.ofNat 21)), none, (.len .slice (.t (.ofNat 20)))⟩, ⟨(some (.ofNat 22)), none, (.mov (.k (.c (.int .i64 0))))⟩])
 (.block 0 (.loop gloop)))
 (.seq (.reg [⟨(some (.ofNat 2)), none, (.mov (.k (.c (.bool true))))⟩])
 .ret)))))))),
 [.t (.ofNat 2)]⟩ := rfl
end Go.AX

set_option maxRecDepth 100000
namespace Go.AX
open Go Go.Proofs

structure Sl (tm : Tm) (va : C) (len i last t v : Nat) : Prop where
  h3 : tm.get (.ofNat 3) = some (.a (.c (.ptr v 0)))
  h4 : tm.get (.ofNat 4) = some (.a (.c (.ptr t 0)))
  h5 : tm.get (.ofNat 5) = some (.a (.c (.int .i64 (Int.ofNat last))))
  h20 : tm.get (.ofNat 20) = some (.a (.c va))
  h21 : tm.get (.ofNat 21) = some (.a (.c (.int .i64 (Int.ofNat len))))
  h22 : tm.get (.ofNat 22) = some (.a (.c (.int .i64 (Int.ofNat i))))

section
variable (cfg : Cfg) (call : Nat → List A → St → Option (V × St)) (n : Nat)

theorem gl_run {tm : Tm} {va : C} {len i last t v : Nat} (h : Sl tm va len i last t v) (s : St) : ∃ tm', exec cfg call n gl tm s = some (.norm tm' s) ∧ Sl tm' va len i last t v ∧ tm'.get (.ofNat 23) = some (.a (.c (.bool (Nat.blt i len)))) := by
  have hb : ltI (Int.ofNat i) (Int.ofNat len) = Nat.blt i len := rfl
  apply Exists.intro
  refine And.intro ?_ (And.intro ?_ ?_)
  · simp [exec, iter, runOps, runOper, wantedI, IOp.run, IOp.kind, same, IOp.val, IOp.eff, ev, evC, evA, evI, putT, one, T.get_set, Pos.ofNat_inj_iff, intBin, decEq_i64, gl, h.h21, h.h22, hb, -Int.ofNat_eq_natCast]
    rfl
  · exact ⟨by simp [T.get_set, Pos.ofNat_inj_iff, h.h3], by simp [T.get_set, Pos.ofNat_inj_iff, h.h4], by simp [T.get_set, Pos.ofNat_inj_iff, h.h5, -Int.ofNat_eq_natCast], by simp [T.get_set, Pos.ofNat_inj_iff, h.h20], by simp [T.get_set, Pos.ofNat_inj_iff, h.h21, -Int.ofNat_eq_natCast], by simp [T.get_set, Pos.ofNat_inj_iff, h.h22, -Int.ofNat_eq_natCast]⟩
  · simp [T.get_set]
theorem gi_run {tm : Tm} {va : C} {len i last t v : Nat} (h : Sl tm va len i last t v) (s : St) (hi : i < 1000) : ∃ tm', exec cfg call n gi tm s = some (.norm tm' s) ∧ Sl tm' va len (i + 1) last t v := by
  have hw : wrapF .i64 (addI (Int.ofNat i) 1) = Int.ofNat (i + 1) := wrap_i64n (show i + 1 < 9223372036854775808 by omega)
  apply Exists.intro
  refine And.intro ?_ ?_
  · simp [exec, iter, runOps, runOper, wantedI, IOp.run, IOp.kind, same, IOp.val, IOp.eff, ev, evC, evA, evI, putT, one, T.get_set, Pos.ofNat_inj_iff, intBin, decEq_i64, gi, h.h22, hw, -Int.ofNat_eq_natCast]
    rfl
  · exact ⟨by simp [T.get_set, Pos.ofNat_inj_iff, h.h3], by simp [T.get_set, Pos.ofNat_inj_iff, h.h4], by simp [T.get_set, Pos.ofNat_inj_iff, h.h5, -Int.ofNat_eq_natCast], by simp [T.get_set, Pos.ofNat_inj_iff, h.h20], by simp [T.get_set, Pos.ofNat_inj_iff, h.h21, -Int.ofNat_eq_natCast], by simp [T.get_set, Pos.ofNat_inj_iff, -Int.ofNat_eq_natCast]⟩
theorem g1_run {tm : Tm} {bA cap len i last t v : Nat} {ex : Bool} (h : Sl tm (.slice bA 0 len cap 4 ex) len i last t v) (s : St) (hi : i < len) (kd pd : Int) (c2 c3 : C) (hl : s.loadN bA (i * 4) 4 = some [.int .i64 kd, .int .i64 pd, c2, c3]) :
    ∃ tm' X, exec cfg call n g1 tm s = some (.norm tm' ((s.new (Obj.row [.int .i64 0, .int .i64 0, .int .i64 0, .nils])).put s.nx X)) ∧ X = .cells 4 .nilp (.n 0 [.int .i64 kd, .int .i64 pd, c2, c3] .e) false ∧ Sl tm' (.slice bA 0 len cap 4 ex) len i last t v ∧ tm'.get (.ofNat 7) = some (.a (.c (.ptr s.nx 0))) := by
  have hst : (s.new (Obj.row [.int .i64 0, .int .i64 0, .int .i64 0, .nils])).storeN s.nx 0 [.int .i64 kd, .int .i64 pd, c2, c3] = some ((s.new (Obj.row [.int .i64 0, .int .i64 0, .int .i64 0, .nils])).put s.nx (.cells 4 .nilp (.n 0 [.int .i64 kd, .int .i64 pd, c2, c3] .e) false)) := by
    unfold St.storeN
    rw [St.get_new, if_pos rfl]
    rfl
  apply Exists.intro
  apply Exists.intro
  refine And.intro ?_ (And.intro rfl (And.intro ?_ ?_))
  · simp [exec, iter, runOps, runOper, wantedI, IOp.run, IOp.kind, same, IOp.val, IOp.eff, ev, evC, evA, evI, putT, one, T.get_set, Pos.ofNat_inj_iff, A.cells, blt_dec, hi, beq_dec, g1, h.h20, h.h22, hl, hst, -Int.ofNat_eq_natCast]
    rfl
  · exact ⟨by simp [T.get_set, Pos.ofNat_inj_iff, h.h3], by simp [T.get_set, Pos.ofNat_inj_iff, h.h4], by simp [T.get_set, Pos.ofNat_inj_iff, h.h5, -Int.ofNat_eq_natCast], by simp [T.get_set, Pos.ofNat_inj_iff, h.h20], by simp [T.get_set, Pos.ofNat_inj_iff, h.h21, -Int.ofNat_eq_natCast], by simp [T.get_set, Pos.ofNat_inj_iff, h.h22, -Int.ofNat_eq_natCast]⟩
  · simp [T.get_set, Pos.ofNat_inj_iff]
theorem g2_run {tm : Tm} {va : C} {len i last t v a : Nat} (h : Sl tm va len i last t v) (h7 : tm.get (.ofNat 7) = some (.a (.c (.ptr a 0)))) (s : St) (kd x : Int) (hl : s.load a 0 = some (.int .i64 kd)) (hx : intBin .and .i64 kd 3 = some (.int .i64 x)) :
    ∃ tm', exec cfg call n g2 tm s = some (.norm tm' s) ∧ Sl tm' va len i last t v ∧ tm'.get (.ofNat 7) = some (.a (.c (.ptr a 0))) ∧ tm'.get (.ofNat 28) = some (.a (.c (.int .i64 x))) := by
  apply Exists.intro
  refine And.intro ?_ (And.intro ?_ (And.intro ?_ ?_))
  · simp [exec, iter, runOps, runOper, wantedI, IOp.run, IOp.kind, same, IOp.val, IOp.eff, ev, evC, evA, evI, putT, one, T.get_set, Pos.ofNat_inj_iff, decEq_i64, g2, h7, hl, hx, -Int.ofNat_eq_natCast]
    rfl
  · exact ⟨by simp [T.get_set, Pos.ofNat_inj_iff, h.h3], by simp [T.get_set, Pos.ofNat_inj_iff, h.h4], by simp [T.get_set, Pos.ofNat_inj_iff, h.h5, -Int.ofNat_eq_natCast], by simp [T.get_set, Pos.ofNat_inj_iff, h.h20], by simp [T.get_set, Pos.ofNat_inj_iff, h.h21, -Int.ofNat_eq_natCast], by simp [T.get_set, Pos.ofNat_inj_iff, h.h22, -Int.ofNat_eq_natCast]⟩
  · simp [T.get_set, Pos.ofNat_inj_iff, h7]
  · simp [T.get_set, Pos.ofNat_inj_iff]
end
end Go.AX

set_option maxRecDepth 100000
namespace Go.AX
open Go Go.Proofs

section
variable (cfg : Cfg) (call : Nat → List A → St → Option (V × St)) (n : Nat)

theorem g3A_run {tm : Tm} {va : C} {len i last t v a : Nat} (h : Sl tm va len i last t v) (h7 : tm.get (.ofNat 7) = some (.a (.c (.ptr a 0)))) (s s' : St) (pd x : Int) (u : V) (h28 : tm.get (.ofNat 28) = some (.a (.c (.int .i64 x)))) (hl : s.load a 1 = some (.int .i64 pd)) (hx : eqI x 0 = true)
    (hc : call 13 [.c (.ptr t 0), .c (.int .i64 pd)] s = some (u, s')) : ∃ tm', exec cfg call n g3 tm s = some (.norm tm' s') ∧ Sl tm' va len i last t v := by
  apply Exists.intro
  refine And.intro ?_ ?_
  · simp [exec, iter, runOps, runOper, wantedI, IOp.run, IOp.kind, same, IOp.val, IOp.eff, ev, evC, evA, evI, evAs, putT, one, T.get_set, Pos.ofNat_inj_iff, decEq_i64, intBin, g3, g0, gA, h7, h28, h.h4, hl, hx, hc, -Int.ofNat_eq_natCast]
    rfl
  · exact ⟨by simp [T.get_set, Pos.ofNat_inj_iff, h.h3], by simp [T.get_set, Pos.ofNat_inj_iff, h.h4], by simp [T.get_set, Pos.ofNat_inj_iff, h.h5, -Int.ofNat_eq_natCast], by simp [T.get_set, Pos.ofNat_inj_iff, h.h20], by simp [T.get_set, Pos.ofNat_inj_iff, h.h21, -Int.ofNat_eq_natCast], by simp [T.get_set, Pos.ofNat_inj_iff, h.h22, -Int.ofNat_eq_natCast]⟩
theorem g3B_run {tm : Tm} {va : C} {len i last t v : Nat} (h : Sl tm va len i last t v) (s s' : St) (x : Int) (u : V) (h28 : tm.get (.ofNat 28) = some (.a (.c (.int .i64 x)))) (hx : eqI x 0 = false) (hx1 : eqI x 1 = true)
    (hc : call 14 [.c (.ptr t 0), .c (.iface 24 (.ptr v 0))] s = some (u, s')) : ∃ tm', exec cfg call n g3 tm s = some (.norm tm' s') ∧ Sl tm' va len i last t v := by
  apply Exists.intro
  refine And.intro ?_ ?_
  · simp [exec, iter, runOps, runOper, wantedI, IOp.run, IOp.kind, same, IOp.val, IOp.eff, ev, evC, evA, evI, evAs, putT, one, T.get_set, Pos.ofNat_inj_iff, decEq_i64, intBin, g3, g0, g01, gB, h28, h.h4, h.h3, hx, hx1, hc, -Int.ofNat_eq_natCast]
    rfl
  · exact ⟨by simp [T.get_set, Pos.ofNat_inj_iff, h.h3], by simp [T.get_set, Pos.ofNat_inj_iff, h.h4], by simp [T.get_set, Pos.ofNat_inj_iff, h.h5, -Int.ofNat_eq_natCast], by simp [T.get_set, Pos.ofNat_inj_iff, h.h20], by simp [T.get_set, Pos.ofNat_inj_iff, h.h21, -Int.ofNat_eq_natCast], by simp [T.get_set, Pos.ofNat_inj_iff, h.h22, -Int.ofNat_eq_natCast]⟩
/-- What 'len' says of a list's slice. -/
def lenC (c : C) (k : Nat) : Prop := (c = .nils ∧ k = 0) ∨ ∃ b o cap z ex, c = .slice b o k cap z ex
theorem g3C_ok {tm : Tm} {va : C} {len i last t v k : Nat} (h : Sl tm va len i last t v) (s s1 s' : St) (x : Int) (c : C) (h28 : tm.get (.ofNat 28) = some (.a (.c (.int .i64 x)))) (hx : eqI x 0 = false) (hx1 : eqI x 1 = false)
    (hc : call 15 [.c (.ptr t 0)] s = some (.a (.c c), s1)) (hk : lenC c k) (hk32 : k < 32)
    (hc2 : call 16 [.c (.ptr t 0), .c (.str [117]), .c .nils] s1 = some (.tup [.c (.int .i64 (Int.ofNat (last + 1))), .c (.int .i64 0)], s')) (hlast : last < 100000) : ∃ tm', exec cfg call n g3 tm s = some (.norm tm' s') ∧ Sl tm' va len i (last + 1) t v := by
  have hw : wrapF .i64 (addI (Int.ofNat last) 1) = Int.ofNat (last + 1) := wrap_i64n (show last + 1 < 9223372036854775808 by omega)
  have he : eqI (Int.ofNat (last + 1)) (Int.ofNat (last + 1)) = true := Nat.beq_refl _
  have hlt : ltI (Int.ofNat k) 32 = true := by
    show Nat.blt k 32 = true
    rw [blt_dec]; simp; omega
  have h00 : eqI 0 0 = true := rfl
  rcases hk with ⟨rfl, hk⟩ | ⟨b, o, cap, z, ex, rfl⟩
  · subst hk
    have hlt : ltI 0 32 = true := rfl
    have hlt' : ltI (Int.ofNat 0) 32 = true := rfl
    apply Exists.intro
    refine And.intro ?_ ?_
    · simp [exec, iter, runOps, runOper, wantedI, IOp.run, IOp.kind, same, IOp.val, IOp.eff, ev, evC, evA, evI, evAs, putT, one, T.get_set, Pos.ofNat_inj_iff, decEq_i64, intBin, eqA, eqB, g3, g0, g01, gC, h28, h.h4, h.h5, hx, hx1, hc, hc2, hw, he, hlt, hlt', h00, -Int.ofNat_eq_natCast]
      rfl
    · exact ⟨by simp [T.get_set, Pos.ofNat_inj_iff, h.h3], by simp [T.get_set, Pos.ofNat_inj_iff, h.h4], by simp [T.get_set, Pos.ofNat_inj_iff, h.h5, -Int.ofNat_eq_natCast], by simp [T.get_set, Pos.ofNat_inj_iff, h.h20], by simp [T.get_set, Pos.ofNat_inj_iff, h.h21, -Int.ofNat_eq_natCast], by simp [T.get_set, Pos.ofNat_inj_iff, h.h22, -Int.ofNat_eq_natCast]⟩
  · apply Exists.intro
    refine And.intro ?_ ?_
    · simp [exec, iter, runOps, runOper, wantedI, IOp.run, IOp.kind, same, IOp.val, IOp.eff, ev, evC, evA, evI, evAs, putT, one, T.get_set, Pos.ofNat_inj_iff, decEq_i64, intBin, eqA, eqB, g3, g0, g01, gC, h28, h.h4, h.h5, hx, hx1, hc, hc2, hw, he, hlt, h00, -Int.ofNat_eq_natCast]
      rfl
    · exact ⟨by simp [T.get_set, Pos.ofNat_inj_iff, h.h3], by simp [T.get_set, Pos.ofNat_inj_iff, h.h4], by simp [T.get_set, Pos.ofNat_inj_iff, h.h5, -Int.ofNat_eq_natCast], by simp [T.get_set, Pos.ofNat_inj_iff, h.h20], by simp [T.get_set, Pos.ofNat_inj_iff, h.h21, -Int.ofNat_eq_natCast], by simp [T.get_set, Pos.ofNat_inj_iff, h.h22, -Int.ofNat_eq_natCast]⟩
theorem g3C_full {tm : Tm} {va : C} {len i last t v k : Nat} (h : Sl tm va len i last t v) (s s1 s' : St) (x : Int) (c : C) (h28 : tm.get (.ofNat 28) = some (.a (.c (.int .i64 x)))) (hx : eqI x 0 = false) (hx1 : eqI x 1 = false)
    (hc : call 15 [.c (.ptr t 0)] s = some (.a (.c c), s1)) (hk : lenC c k) (hk32 : 32 ≤ k)
    (hc2 : call 16 [.c (.ptr t 0), .c (.str [117]), .c .nils] s1 = some (.tup [.c (.int .i64 0), .c (.int .i64 7)], s')) : ∃ tm', exec cfg call n g3 tm s = some (.norm tm' s') ∧ Sl tm' va len i last t v := by
  have hlt : ltI (Int.ofNat k) 32 = false := by
    show Nat.blt k 32 = false
    rw [blt_dec]; simp; omega
  have h00 : eqI 7 0 = false := rfl
  rcases hk with ⟨rfl, hk⟩ | ⟨b, o, cap, z, ex, rfl⟩
  · omega
  · apply Exists.intro
    refine And.intro ?_ ?_
    · simp [exec, iter, runOps, runOper, wantedI, IOp.run, IOp.kind, same, IOp.val, IOp.eff, ev, evC, evA, evI, evAs, putT, one, T.get_set, Pos.ofNat_inj_iff, decEq_i64, intBin, eqA, eqB, g3, g0, g01, gC, h28, h.h4, h.h5, hx, hx1, hc, hc2, hlt, h00, -Int.ofNat_eq_natCast]
      rfl
    · exact ⟨by simp [T.get_set, Pos.ofNat_inj_iff, h.h3], by simp [T.get_set, Pos.ofNat_inj_iff, h.h4], by simp [T.get_set, Pos.ofNat_inj_iff, h.h5, -Int.ofNat_eq_natCast], by simp [T.get_set, Pos.ofNat_inj_iff, h.h20], by simp [T.get_set, Pos.ofNat_inj_iff, h.h21, -Int.ofNat_eq_natCast], by simp [T.get_set, Pos.ofNat_inj_iff, h.h22, -Int.ofNat_eq_natCast]⟩
end
end Go.AX

set_option maxRecDepth 100000
namespace Go.AX
open Go Go.Proofs

structure Tab (s : St) (t m : Nat) (L : List (C × A)) (k : Nat) (fv : C) : Prop where
  row : s.get t = some (rowT fv m k)
  map : s.get m = some (.map L)
  ne : t ≠ m
  tlt : t < s.nx
  mlt : m < s.nx
  ents : ∀ p ∈ L, ∃ q b, p = (.int .i64 (Int.ofNat q), .c (.ptr b 0)) ∧ q < k ∧ b < s.nx ∧ b ≠ t ∧ b ≠ m ∧ s.get b = some (rowP q)
  few : L.length ≤ 32

theorem keyEq_i64 (a b : Int) : keyEq (.int .i64 a) (.int .i64 b) = some (eqI a b) := by simp [keyEq, decEq_i64]
def EntsOk (L : List (C × A)) (k : Nat) : Prop := ∀ p ∈ L, ∃ q b, p = (.int .i64 (Int.ofNat q), .c (.ptr b 0)) ∧ q < k
theorem Tab.ok {s : St} {t m k : Nat} {L : List (C × A)} {fv : C} (h : Tab s t m L k fv) : EntsOk L k := fun p hp => let ⟨q, b, h1, h2, _⟩ := h.ents p hp; ⟨q, b, h1, h2⟩
theorem mfind_ok {k : Nat} (pd : Int) : ∀ {L : List (C × A)}, EntsOk L k → mfind (.int .i64 pd) L = some none ∨ ∃ p ∈ L, mfind (.int .i64 pd) L = some (some p.2)
  | [], _ => .inl rfl
  | p :: L, h => by
    obtain ⟨q, b, rfl, hq⟩ := h p (by simp)
    simp only [mfind, keyEq_i64]
    cases he : eqI pd (Int.ofNat q) with
    | true => exact .inr ⟨_, List.mem_cons_self .., rfl⟩
    | false =>
      rcases mfind_ok pd (L := L) (fun p hp => h p (List.mem_cons_of_mem _ hp)) with h1 | ⟨p, h1, h2⟩
      · exact .inl h1
      · exact .inr ⟨p, List.mem_cons_of_mem _ h1, h2⟩
theorem mfind_new {k : Nat} : ∀ {L : List (C × A)}, EntsOk L k → mfind (.int .i64 (Int.ofNat k)) L = some none
  | [], _ => rfl
  | p :: L, h => by
    obtain ⟨q, b, rfl, hq⟩ := h p (by simp)
    have he : eqI (Int.ofNat k) (Int.ofNat q) = false := by
      show Nat.beq k q = false
      rw [beq_dec]; simp; omega
    simp only [mfind, keyEq_i64, he]
    exact mfind_new fun p hp => h p (List.mem_cons_of_mem _ hp)
theorem mset_new {k : Nat} (v : A) {L : List (C × A)} (h : EntsOk L k) : mset (.int .i64 (Int.ofNat k)) v L = L ++ [(.int .i64 (Int.ofNat k), v)] := mset_append fun p hp => by
  obtain ⟨q, b, rfl, hq⟩ := h p hp
  have he : eqI (Int.ofNat k) (Int.ofNat q) = false := by
    show Nat.beq k q = false
    rw [beq_dec]; simp; omega
  rw [keyEq_i64, he]
theorem mdel_mem {c : C} {p : C × A} : ∀ {L : List (C × A)}, p ∈ mdel c L → p ∈ L
  | [], h => by simp [mdel] at h
  | (k, w) :: L, h => by
    simp only [mdel] at h
    split at h
    · exact List.mem_cons_of_mem _ h
    · rcases List.mem_cons.1 h with rfl | h
      · simp
      · exact List.mem_cons_of_mem _ (mdel_mem h)
theorem mdel_len {c : C} : ∀ {L : List (C × A)}, (mdel c L).length ≤ L.length
  | [] => by simp [mdel]
  | (k, w) :: L => by
    simp only [mdel]
    split
    · simp
    · simp only [List.length_cons]; have := mdel_len (c := c) (L := L); omega
theorem keys_ok {k : Nat} (hk : k < 1000000) : ∀ {L : List (C × A)}, EntsOk L k → ∃ ks, keysI2 L = some ks ∧ ks.length = L.length
  | [], _ => ⟨[], rfl, rfl⟩
  | p :: L, h => by
    obtain ⟨q, b, rfl, hq⟩ := h p (by simp)
    obtain ⟨ks, h1, h2⟩ := keys_ok hk (L := L) fun p hp => h p (List.mem_cons_of_mem _ hp)
    have hw : inI64 (Int.ofNat q) = true := by
      show Nat.blt q 9223372036854775808 = true
      rw [blt_dec]; simp; omega
    exact ⟨Int.ofNat q :: ks, by simp [keysI2, h1, hw, -Int.ofNat_eq_natCast], by simp [h2]⟩

theorem Tab.frame {s s' : St} {t m k : Nat} {L : List (C × A)} {fv : C} (h : Tab s t m L k fv) (hn : s.nx ≤ s'.nx) (hg : ∀ q, q < s.nx → s'.get q = s.get q) : Tab s' t m L k fv := by
  refine ⟨by rw [hg _ h.tlt]; exact h.row, by rw [hg _ h.mlt]; exact h.map, h.ne, by have := h.tlt; omega, by have := h.mlt; omega, fun p hp => ?_, h.few⟩
  obtain ⟨q, b, h1, h2, h3, h4, h5, h6⟩ := h.ents p hp
  exact ⟨q, b, h1, h2, by omega, h4, h5, by rw [hg _ h3]; exact h6⟩
theorem Tab.exit {s : St} {t m k b q : Nat} {L : List (C × A)} {fv : C} (h : Tab s t m L k fv) (c : C) (hb : s.get b = some (rowP q)) (hbt : b ≠ t) (hbm : b ≠ m) : Tab ((s.put b (rowP q)).put m (.map (mdel c L))) t m (mdel c L) k fv := by
  refine ⟨?_, ?_, h.ne, h.tlt, h.mlt, fun p hp => ?_, Nat.le_trans mdel_len h.few⟩
  · rw [St.get_put, if_neg (Ne.symm h.ne), St.get_put, if_neg hbt]; exact h.row
  · rw [St.get_put, if_pos rfl]
  · obtain ⟨q', b', h1, h2, h3, h4, h5, h6⟩ := h.ents p (mdel_mem hp)
    refine ⟨q', b', h1, h2, h3, h4, h5, ?_⟩
    rw [St.get_put, if_neg (Ne.symm h5), St.get_put]
    by_cases e : b = b'
    · rw [if_pos e]; subst e; rw [hb] at h6; exact h6
    · rw [if_neg e]; exact h6
theorem Tab.reset {s : St} {t m k : Nat} {L : List (C × A)} {fv : C} (h : Tab s t m L k fv) (x : C) : Tab (((s.new (.map [])).put t (rowT x m k)).put t (rowT x s.nx k)) t s.nx [] k x := by
  have ht := h.tlt
  refine ⟨?_, ?_, by omega, ?_, ?_, fun p hp => (by cases hp), by simp⟩
  · rw [St.get_put, if_pos rfl]
  · rw [St.get_put, if_neg (by omega), St.get_put, if_neg (by omega), St.get_new, if_pos rfl]
  · simp; omega
  · simp
theorem Tab.spawn {s : St} {t m k : Nat} {L : List (C × A)} {fv : C} (h : Tab s t m L k fv) (hL : L.length < 32) :
    Tab (((s.new (rowP k)).put m (.map (mset (.int .i64 (Int.ofNat k)) (.c (.ptr s.nx 0)) L))).put t (rowT fv m (k + 1))) t m (mset (.int .i64 (Int.ofNat k)) (.c (.ptr s.nx 0)) L) (k + 1) fv := by
  have ht := h.tlt
  have hm := h.mlt
  refine ⟨?_, ?_, h.ne, ?_, ?_, fun p hp => ?_, ?_⟩
  · rw [St.get_put, if_pos rfl]
  · rw [St.get_put, if_neg h.ne, St.get_put, if_pos rfl]
  · simp; omega
  · simp; omega
  · rw [mset_new _ h.ok] at hp
    rcases List.mem_append.1 hp with hp | hp
    · obtain ⟨q, b, h1, h2, h3, h4, h5, h6⟩ := h.ents p hp
      refine ⟨q, b, h1, by omega, by simp; omega, h4, h5, ?_⟩
      rw [St.get_put, if_neg (Ne.symm h4), St.get_put, if_neg (Ne.symm h5), St.get_new, if_neg (by omega)]; exact h6
    · have hp : p = (.int .i64 (Int.ofNat k), .c (.ptr s.nx 0)) := by simpa using hp
      refine ⟨k, s.nx, hp, by omega, by simp, by omega, by omega, ?_⟩
      rw [St.get_put, if_neg (by omega), St.get_put, if_neg (by omega), St.get_new, if_pos rfl]
  · rw [mset_new _ h.ok, List.length_append]; simp; omega

/-- What the loop needs of the state but the table. -/
structure Wd (s : St) (bA : Nat) (rr : T Ro) : Prop where
  none : s.get bA = none
  lt : bA < s.nx
  r : s.r = rr

theorem Wd.frame {s s' : St} {bA : Nat} {rr : T Ro} (h : Wd s bA rr) (hn : s.nx ≤ s'.nx) (hr : s'.r = s.r) (hg : s'.get bA = s.get bA) : Wd s' bA rr := ⟨by rw [hg]; exact h.none, by have := h.lt; omega, hr.trans h.r⟩
theorem Wd.ne {s : St} {bA b : Nat} {rr : T Ro} {o : Obj} (h : Wd s bA rr) (hb : s.get b = some o) : b ≠ bA := fun e => by rw [e, h.none] at hb; cases hb
end Go.AX

set_option maxRecDepth 100000
namespace Go.AX
open Go Go.Proofs

/-- What lies at the argument: a row of acts, of which only the two ints are told. -/
def ActsAt (bA len : Nat) (rr : T Ro) : Prop := ∀ i, i < len → ∃ kd pd c2 c3, ∀ s : St, s.get bA = none → s.r = rr → s.loadN bA (i * 4) 4 = some [.int .i64 kd, .int .i64 pd, c2, c3]

theorem g3_run {n N t m i len last v a bA : Nat} {va fv : C} {L : List (C × A)} {rr : T Ro} {tm : Tm} {s : St} (hS : Sl tm va len i last t v) (hT : Tab s t m L (last + 1) (.iface 24 (.ptr v 0))) (hW : Wd s bA rr) (hla : last < 1000)
    (h7 : tm.get (.ofNat 7) = some (.a (.c (.ptr a 0)))) (pd x : Int) (h28 : tm.get (.ofNat 28) = some (.a (.c (.int .i64 x)))) (hl : s.load a 1 = some (.int .i64 pd)) :
    ∃ tm' s' m' L' last', exec cfgP (callN cfgP (n + 3)) N g3 tm s = some (.norm tm' s') ∧ Sl tm' va len i last' t v ∧ Tab s' t m' L' (last' + 1) (.iface 24 (.ptr v 0)) ∧ Wd s' bA rr ∧ last' ≤ last + 1 := by
  cases hx : eqI x 0 with
  | true =>
    rcases mfind_ok pd hT.ok with hf | ⟨p, hp, hf⟩
    · obtain ⟨tm', h1, h2⟩ := g3A_run cfgP (callN cfgP (n + 3)) N hS h7 s s pd x _ h28 hl hx (exit_none (n + 2) t m (last + 1) _ L pd s hT.row hT.map hf)
      exact ⟨tm', s, m, L, last, h1, h2, hT, hW, by omega⟩
    · obtain ⟨q, b, rfl, h3, h4, h5, h6, h8⟩ := hT.ents p hp
      obtain ⟨tm', h1, h2⟩ := g3A_run cfgP (callN cfgP (n + 3)) N hS h7 s _ pd x _ h28 hl hx (exit_some n t m (last + 1) b q _ L pd s hT.row hT.map hf h8 h5 h6)
      refine ⟨tm', _, m, _, last, h1, h2, hT.exit _ h8 h5 h6, hW.frame (Nat.le_refl _) rfl ?_, by omega⟩
      rw [St.get_put, if_neg (hW.ne hT.map), St.get_put, if_neg (hW.ne h8)]
  | false =>
    cases hx1 : eqI x 1 with
    | true =>
      obtain ⟨tm', h1, h2⟩ := g3B_run cfgP (callN cfgP (n + 3)) N hS s _ x _ h28 hx hx1 (reset_run (n + 2) t m (last + 1) _ (.iface 24 (.ptr v 0)) s hT.row hT.tlt)
      refine ⟨tm', _, _, _, last, h1, h2, hT.reset _, hW.frame (by simp) rfl ?_, by omega⟩
      have := hW.lt
      rw [St.get_put, if_neg (hW.ne hT.row), St.get_put, if_neg (hW.ne hT.row), St.get_new, if_neg (by omega)]
    | false =>
      obtain ⟨ks, hk1, hk2⟩ := keys_ok (show last + 1 < 1000000 by omega) hT.ok
      obtain ⟨c, s1, hc1, hc2, hc3, hc4, hc5⟩ := list_run (n + 1) t m (last + 1) _ L ks s hT.row hT.map hT.mlt hk1 hk2 hT.few
      have hT1 : Tab s1 t m L (last + 1) (.iface 24 (.ptr v 0)) := hT.frame hc3 hc5
      have hW1 : Wd s1 bA rr := hW.frame hc3 hc4 (hc5 _ hW.lt)
      by_cases hL : L.length < 32
      · obtain ⟨tm', h1, h2⟩ := g3C_ok cfgP (callN cfgP (n + 3)) N hS s s1 _ x c h28 hx hx1 hc1 hc2 hL (spawn_run (n + 1) t m (last + 1) _ L s1 hT1.row hT1.map hL hT1.ne hT1.tlt hT1.mlt (mfind_new hT1.ok) (by omega)) (by omega)
        have := hW1.lt
        refine ⟨tm', _, _, _, last + 1, h1, h2, hT1.spawn hL, hW1.frame (by simp) rfl ?_, by omega⟩
        rw [St.get_put, if_neg (hW1.ne hT1.row), St.get_put, if_neg (hW1.ne hT1.map), St.get_new, if_neg (by omega)]
      · obtain ⟨tm', h1, h2⟩ := g3C_full cfgP (callN cfgP (n + 3)) N hS s s1 _ x c h28 hx hx1 hc1 hc2 (by omega) (spawn_full (n + 2) t m (last + 1) _ [117] L s1 hT1.row hT1.map (by omega))
        exact ⟨tm', s1, m, L, last, h1, h2, hT1, hW1, by omega⟩

theorem round_run {n N t m i len last v bA cap : Nat} {ex : Bool} {L : List (C × A)} {rr : T Ro} {tm : Tm} {s : St} (hS : Sl tm (.slice bA 0 len cap 4 ex) len i last t v) (hT : Tab s t m L (last + 1) (.iface 24 (.ptr v 0))) (hW : Wd s bA rr) (hi : i < len) (hlen : len ≤ 100) (hla : last ≤ i) (hA : ActsAt bA len rr) :
    ∃ tm' s' m' L' last', exec cfgP (callN cfgP (n + 3)) N gloop tm s = some (.norm tm' s') ∧ Sl tm' (.slice bA 0 len cap 4 ex) len (i + 1) last' t v ∧ Tab s' t m' L' (last' + 1) (.iface 24 (.ptr v 0)) ∧ Wd s' bA rr ∧ last' ≤ i + 1 := by
  obtain ⟨tm1, e1, hS1, h23⟩ := gl_run cfgP (callN cfgP (n + 3)) N hS s
  rw [show Nat.blt i len = true by rw [blt_dec]; simp; omega] at h23
  obtain ⟨kd, pd, c2, c3, hl⟩ := hA i hi
  obtain ⟨tm2, X, e2, hX, hS2, h7⟩ := g1_run cfgP (callN cfgP (n + 3)) N hS1 s hi kd pd c2 c3 (hl s hW.none hW.r)
  generalize hs1 : (s.new (Obj.row [.int .i64 0, .int .i64 0, .int .i64 0, .nils])).put s.nx X = s1 at e2
  have hg : ∀ q, q < s.nx → s1.get q = s.get q := fun q hq => by rw [← hs1, St.get_put, if_neg (by omega), St.get_new, if_neg (by omega)]
  have hn : s.nx ≤ s1.nx := by rw [← hs1]; simp
  have hr : s1.r = s.r := by rw [← hs1]; rfl
  have hgX : s1.get s.nx = some X := by rw [← hs1, St.get_put, if_pos rfl]
  have l0 : s1.load s.nx 0 = some (.int .i64 kd) := by unfold St.load; rw [hgX, hX]; rfl
  have l1 : s1.load s.nx 1 = some (.int .i64 pd) := by unfold St.load; rw [hgX, hX]; rfl
  obtain ⟨tm3, e3, hS3, h7', h28⟩ := g2_run cfgP (callN cfgP (n + 3)) N hS2 h7 s1 kd _ l0 rfl
  obtain ⟨tm4, s4, m', L', last', e4, hS4, hT4, hW4, hla4⟩ := g3_run (n := n) (N := N) (fv := .nils) hS3 (hT.frame hn hg) (hW.frame hn hr (hg _ hW.lt)) (by omega) h7' pd _ h28 l1
  obtain ⟨tm5, e5, hS5⟩ := gi_run cfgP (callN cfgP (n + 3)) N hS4 s4 (by omega)
  refine ⟨tm5, s4, m', L', last', ?_, hS5, hT4, hW4, by omega⟩
  simp [gloop, exec, e1, evC, ev, h23, e2, e3, e4, e5]

theorem loop_run {n N t v bA cap len : Nat} {ex : Bool} {rr : T Ro} (hlen : len ≤ 100) (hA : ActsAt bA len rr) : ∀ (d i : Nat) {m last : Nat} {L : List (C × A)} {tm : Tm} {s : St}, len - i = d → i ≤ len → Sl tm (.slice bA 0 len cap 4 ex) len i last t v → Tab s t m L (last + 1) (.iface 24 (.ptr v 0)) → Wd s bA rr → last ≤ i →
    ∀ f, d < f → ∃ tm' s', iter (exec cfgP (callN cfgP (n + 3)) N gloop) f tm s = some (.exit 0 tm' s') := by
  intro d
  induction d with
  | zero =>
    intro i m last L tm s hd hi hS hT hW hla f hf
    obtain ⟨f, rfl⟩ : ∃ g, f = g + 1 := ⟨f - 1, by omega⟩
    obtain ⟨tm1, e1, hS1, h23⟩ := gl_run cfgP (callN cfgP (n + 3)) N hS s
    rw [show Nat.blt i len = false by rw [blt_dec]; simp; omega] at h23
    exact ⟨tm1, s, by simp [iter, gloop, exec, e1, evC, ev, h23]⟩
  | succ d ih =>
    intro i m last L tm s hd hi hS hT hW hla f hf
    obtain ⟨f, rfl⟩ : ∃ g, f = g + 1 := ⟨f - 1, by omega⟩
    obtain ⟨tm', s', m', L', last', e1, hS1, hT1, hW1, hla1⟩ := round_run (n := n) (N := N) hS hT hW (by omega) hlen hla hA
    obtain ⟨tm2, s2, e2⟩ := ih (i + 1) (by omega) (by omega) hS1 hT1 hW1 hla1 f (by omega)
    exact ⟨tm2, s2, by simp [iter, e1, e2]⟩
end Go.AX

set_option maxRecDepth 100000
namespace Go.AX
open Go Go.Proofs
def h1 : ICode := (.reg [⟨(some (.ofNat 2)), none, (.mov (.k (.c (.bool false))))⟩])
def h2 : ICode := (.seq (.reg [⟨(some (.ofNat 11)), none, (.call 10 [])⟩, ⟨(some (.ofNat 12)), none, (.not (.t (.ofNat 11)))⟩])
 (.cond (.t (.ofNat 12)) (.seq (.reg [⟨(some (.ofNat 2)), none, (.mov (.k (.c (.bool false))))⟩])
 .ret) .skip))
def h3 : ICode := (.seq (.reg [⟨(some (.ofNat 13)), none, (.mov (.t (.ofNat 0)))⟩, ⟨(some (.ofNat 14)), none, (.len .slice (.t (.ofNat 13)))⟩, ⟨(some (.ofNat 15)), none, (.bin .gtr .num (.t (.ofNat 14)) (.k (.c (.int .i64 100))))⟩])
 (.cond (.t (.ofNat 15)) (.seq (.reg [⟨(some (.ofNat 2)), none, (.mov (.k (.c (.bool true))))⟩])
 .ret) .skip))
def h4 : ICode := (.reg [⟨(some (.ofNat 16)), none, (.call 11 [])⟩, ⟨(some (.ofNat 3)), none, (.mov (.t (.ofNat 16)))⟩])
def h5 : ICode := (.reg [⟨(some (.ofNat 17)), none, (.mov (.t (.ofNat 3)))⟩, ⟨(some (.ofNat 18)), none, (.mkif 24 (.t (.ofNat 17)))⟩, ⟨(some (.ofNat 19)), none, (.call 12 [(.t (.ofNat 18))])⟩, ⟨(some (.ofNat 4)), none, (.mov (.t (.ofNat 19)))⟩])
def h6 : ICode := (.reg [⟨(some (.ofNat 5)), none, (.mov (.k (.c (.int .i64 0))))⟩])
def h7 : ICode := (.reg [⟨(some (.ofNat 20)), none, (.mov (.t (.ofNat 0)))⟩, ⟨(some (.ofNat 21)), none, (.len .slice (.t (.ofNat 20)))⟩, ⟨(some (.ofNat 22)), none, (.mov (.k (.c (.int .i64 0))))⟩])
def hE : ICode := (.seq (.reg [⟨(some (.ofNat 2)), none, (.mov (.k (.c (.bool true))))⟩])
 .ret)
theorem n3_h : n3.body = .seq h1 (.seq h2 (.seq h3 (.seq h4 (.seq h5 (.seq h6 (.seq (.seq h7 (.block 0 (.loop gloop))) hE)))))) := rfl
end Go.AX

set_option maxRecDepth 100000
namespace Go.AX
open Go Go.Proofs

section
variable (cfg : Cfg) (call : Nat → List A → St → Option (V × St)) (n : Nat)

theorem h12_run {tm : Tm} {c : C} (h0 : tm.get (.ofNat 0) = some (.a (.c c))) (s : St) (hc : call 10 [] s = some (.a (.c (.bool true)), s)) : ∃ tm', exec cfg call n (.seq h1 h2) tm s = some (.norm tm' s) ∧ tm'.get (.ofNat 0) = some (.a (.c c)) := by
  apply Exists.intro
  refine And.intro ?_ ?_
  · simp [exec, iter, runOps, runOper, wantedI, IOp.run, IOp.kind, same, IOp.val, IOp.eff, ev, evC, evA, evI, evAs, putT, one, T.get_set, Pos.ofNat_inj_iff, h1, h2, hc]
    rfl
  · simp [T.get_set, Pos.ofNat_inj_iff, h0]
theorem h3_few {tm : Tm} {c : C} {len : Nat} (h0 : tm.get (.ofNat 0) = some (.a (.c c))) (s : St) (hc : lenC c len) (hlen : len ≤ 100) : ∃ tm', exec cfg call n h3 tm s = some (.norm tm' s) ∧ tm'.get (.ofNat 0) = some (.a (.c c)) := by
  have hg : ltI 100 (Int.ofNat len) = false := by
    show Nat.blt 100 len = false
    rw [blt_dec]; simp; omega
  have hg0 : ltI 100 (Int.ofNat 0) = false := rfl
  rcases hc with ⟨rfl, rfl⟩ | ⟨b, o, cap, z, ex, rfl⟩
  · apply Exists.intro
    refine And.intro ?_ ?_
    · simp [exec, iter, runOps, runOper, wantedI, IOp.run, IOp.kind, same, IOp.val, IOp.eff, ev, evC, evA, evI, evAs, putT, one, T.get_set, Pos.ofNat_inj_iff, decEq_i64, intBin, h3, h0, hg0, show ltI 100 0 = false from rfl, -Int.ofNat_eq_natCast]
      rfl
    · simp [T.get_set, Pos.ofNat_inj_iff, h0]
  · apply Exists.intro
    refine And.intro ?_ ?_
    · simp [exec, iter, runOps, runOper, wantedI, IOp.run, IOp.kind, same, IOp.val, IOp.eff, ev, evC, evA, evI, evAs, putT, one, T.get_set, Pos.ofNat_inj_iff, decEq_i64, intBin, h3, h0, hg, -Int.ofNat_eq_natCast]
      rfl
    · simp [T.get_set, Pos.ofNat_inj_iff, h0]
theorem h3_many {tm : Tm} {c : C} {len : Nat} (h0 : tm.get (.ofNat 0) = some (.a (.c c))) (s : St) (hc : lenC c len) (hlen : 100 < len) : ∃ tm', exec cfg call n h3 tm s = some (.ret tm' s) ∧ tm'.get (.ofNat 2) = some (.a (.c (.bool true))) := by
  have hg : ltI 100 (Int.ofNat len) = true := by
    show Nat.blt 100 len = true
    rw [blt_dec]; simp; omega
  rcases hc with ⟨rfl, rfl⟩ | ⟨b, o, cap, z, ex, rfl⟩
  · omega
  · apply Exists.intro
    refine And.intro ?_ ?_
    · simp [exec, iter, runOps, runOper, wantedI, IOp.run, IOp.kind, same, IOp.val, IOp.eff, ev, evC, evA, evI, evAs, putT, one, T.get_set, Pos.ofNat_inj_iff, decEq_i64, intBin, h3, h0, hg, -Int.ofNat_eq_natCast]
      rfl
    · simp [T.get_set, Pos.ofNat_inj_iff]
theorem h456_run {tm : Tm} {c : C} {v t : Nat} (h0 : tm.get (.ofNat 0) = some (.a (.c c))) (s s1 s2 : St) (hc1 : call 11 [] s = some (.a (.c (.ptr v 0)), s1)) (hc2 : call 12 [.c (.iface 24 (.ptr v 0))] s1 = some (.a (.c (.ptr t 0)), s2)) :
    ∃ tm', exec cfg call n (.seq h4 (.seq h5 h6)) tm s = some (.norm tm' s2) ∧ tm'.get (.ofNat 0) = some (.a (.c c)) ∧ tm'.get (.ofNat 3) = some (.a (.c (.ptr v 0))) ∧ tm'.get (.ofNat 4) = some (.a (.c (.ptr t 0))) ∧ tm'.get (.ofNat 5) = some (.a (.c (.int .i64 (Int.ofNat 0)))) := by
  apply Exists.intro
  refine And.intro ?_ (And.intro ?_ (And.intro ?_ (And.intro ?_ ?_)))
  · simp [exec, iter, runOps, runOper, wantedI, IOp.run, IOp.kind, same, IOp.val, IOp.eff, ev, evC, evA, evI, evAs, putT, one, T.get_set, Pos.ofNat_inj_iff, decEq_i64, intBin, h4, h5, h6, hc1, hc2]
    rfl
  · simp [T.get_set, Pos.ofNat_inj_iff, h0]
  · simp [T.get_set, Pos.ofNat_inj_iff]
  · simp [T.get_set, Pos.ofNat_inj_iff]
  · simp [T.get_set, Pos.ofNat_inj_iff]
theorem h7_run {tm : Tm} {c : C} {len v t : Nat} (s : St) (hc : lenC c len) (h0 : tm.get (.ofNat 0) = some (.a (.c c))) (h3 : tm.get (.ofNat 3) = some (.a (.c (.ptr v 0)))) (h4 : tm.get (.ofNat 4) = some (.a (.c (.ptr t 0)))) (h5 : tm.get (.ofNat 5) = some (.a (.c (.int .i64 (Int.ofNat 0))))) :
    ∃ tm', exec cfg call n h7 tm s = some (.norm tm' s) ∧ Sl tm' c len 0 0 t v := by
  rcases hc with ⟨rfl, rfl⟩ | ⟨b, o, cap, z, ex, rfl⟩
  · apply Exists.intro
    refine And.intro ?_ ?_
    · simp [exec, iter, runOps, runOper, wantedI, IOp.run, IOp.kind, same, IOp.val, IOp.eff, ev, evC, evA, evI, evAs, putT, one, T.get_set, Pos.ofNat_inj_iff, decEq_i64, intBin, h7, h0, -Int.ofNat_eq_natCast]
      rfl
    · exact ⟨by simp [T.get_set, Pos.ofNat_inj_iff, h3], by simp [T.get_set, Pos.ofNat_inj_iff, h4], by simp [T.get_set, Pos.ofNat_inj_iff, h5, -Int.ofNat_eq_natCast], by simp [T.get_set, Pos.ofNat_inj_iff], by simp [T.get_set, Pos.ofNat_inj_iff, -Int.ofNat_eq_natCast], by simp [T.get_set, Pos.ofNat_inj_iff]⟩
  · apply Exists.intro
    refine And.intro ?_ ?_
    · simp [exec, iter, runOps, runOper, wantedI, IOp.run, IOp.kind, same, IOp.val, IOp.eff, ev, evC, evA, evI, evAs, putT, one, T.get_set, Pos.ofNat_inj_iff, decEq_i64, intBin, h7, h0, -Int.ofNat_eq_natCast]
      rfl
    · exact ⟨by simp [T.get_set, Pos.ofNat_inj_iff, h3], by simp [T.get_set, Pos.ofNat_inj_iff, h4], by simp [T.get_set, Pos.ofNat_inj_iff, h5, -Int.ofNat_eq_natCast], by simp [T.get_set, Pos.ofNat_inj_iff], by simp [T.get_set, Pos.ofNat_inj_iff, -Int.ofNat_eq_natCast], by simp [T.get_set, Pos.ofNat_inj_iff]⟩
theorem hE_run {tm : Tm} (s : St) : ∃ tm', exec cfg call n hE tm s = some (.ret tm' s) ∧ tm'.get (.ofNat 2) = some (.a (.c (.bool true))) := by
  apply Exists.intro
  refine And.intro ?_ ?_
  · simp [exec, iter, runOps, runOper, wantedI, IOp.run, IOp.kind, same, IOp.val, IOp.eff, ev, evC, evA, evI, evAs, putT, one, hE]
    rfl
  · simp [T.get_set, Pos.ofNat_inj_iff]
theorem loop_end {tm : Tm} {va : C} {len t v last : Nat} (hS : Sl tm va len len last t v) (s : St) {f : Nat} (hf : 0 < f) : ∃ tm' s', iter (exec cfg call n gloop) f tm s = some (.exit 0 tm' s') := by
  obtain ⟨f, rfl⟩ : ∃ g, f = g + 1 := ⟨f - 1, by omega⟩
  obtain ⟨tm1, e1, hS1, h23⟩ := gl_run cfg call n hS s
  rw [show Nat.blt len len = false by rw [blt_dec]; simp] at h23
  exact ⟨tm1, s, by simp [iter, gloop, exec, e1, evC, ev, h23]⟩
end

theorem res2 {tm : Tm} {s : St} {c : C} (h : tm.get (.ofNat 2) = some (.a (.c c))) : ressOf tm s n3.results = some [.c c] := by
  simp [n3, ressOf, resOf, h]

/-- The law, by the executor. -/
theorem law_exec (n : Nat) {c : C} {len : Nat} {s : St} {rr : T Ro} (hnx : s.nx = 4) (hc : lenC c len) (hcase : len ≤ 100 → (c = .nils ∧ len = 0) ∨ ∃ cap ex, c = .slice 3 0 len cap 4 ex ∧ s.get 3 = none ∧ s.r = rr ∧ ActsAt 3 len rr) :
    ∃ s', callN cfgP (n + 105) 3 [.c c] s = some (.a (.c (.bool true)), s') := by
  have c10 : callN cfgP (n + 104) 10 [] s = some (.a (.c (.bool true)), s) := by rw [callN_sm sP10]; rfl
  obtain ⟨tma, ea, ha0⟩ := h12_run cfgP (callN cfgP (n + 104)) (n + 104) (tm1_0 (.c c)) s c10
  have ea' : ∀ x, exec cfgP (callN cfgP (n + 104)) (n + 104) (.seq h1 (.seq h2 x)) (tm1 (.c c)) s = exec cfgP (callN cfgP (n + 104)) (n + 104) x tma s := by
    intro x
    simp only [exec] at ea ⊢
    cases e1 : exec cfgP (callN cfgP (n + 104)) (n + 104) h1 (tm1 (.c c)) s with
    | none => rw [e1] at ea; cases ea
    | some r =>
      rw [e1] at ea
      cases r with
      | norm t1 s1 => simp only at ea ⊢; rw [ea]
      | exit => cases ea
      | ret => cases ea
  by_cases hlen : len ≤ 100
  · obtain ⟨tmb, eb, hb0⟩ := h3_few cfgP (callN cfgP (n + 104)) (n + 104) ha0 s hc hlen
    have c11 : callN cfgP (n + 104) 11 [] s = some (open08V, { s with h := addObjs open08K s.h, nx := open08N }) := by
      rw [callN_sm sP11]
      simp only [closedS, hnx]
      rfl
    obtain ⟨tmc, ec, hc0, hc3, hc4, hc5⟩ := h456_run cfgP (callN cfgP (n + 104)) (n + 104) hb0 s _ _ c11 (new_run (n + 103) _ _)
    generalize hs1 : ({ s with h := addObjs open08K s.h, nx := open08N } : St) = s1 at ec hc4
    have g1 : ∀ q, s1.get q = s.get q := fun q => by rw [← hs1]; rfl
    have n1 : s1.nx = 1153 := by rw [← hs1]; rfl
    have r1 : s1.r = s.r := by rw [← hs1]
    generalize hs2 : (s1.new (.map [])).new (.row [.iface 24 (.ptr 1022 0), .map s1.nx, .int .i64 1]) = s2 at ec
    have hT : Tab s2 (s1.nx + 1) s1.nx [] (0 + 1) (.iface 24 (.ptr 1022 0)) := by
      refine ⟨?_, ?_, by omega, ?_, ?_, fun p hp => (by cases hp), by simp⟩
      · rw [← hs2, St.get_new, if_pos (show (s1.new (.map [])).nx = s1.nx + 1 from rfl)]; rfl
      · rw [← hs2, St.get_new, if_neg (by simp), St.get_new, if_pos rfl]
      · rw [← hs2]; simp
      · rw [← hs2]; simp; omega
    obtain ⟨tmd, ed, hS⟩ := h7_run cfgP (callN cfgP (n + 104)) (n + 104) s2 hc hc0 hc3 hc4 hc5
    have hloop : ∃ tm' s', iter (exec cfgP (callN cfgP (n + 104)) (n + 104) gloop) (n + 104) tmd s2 = some (.exit 0 tm' s') := by
      rcases hcase hlen with ⟨rfl, rfl⟩ | ⟨cap, ex, rfl, hg3, hr, hA⟩
      · exact loop_end cfgP _ _ hS s2 (by omega)
      · have hW : Wd s2 3 rr := by
          refine ⟨?_, ?_, ?_⟩
          · rw [← hs2, St.get_new, if_neg (by simp; omega), St.get_new, if_neg (by omega), g1]; exact hg3
          · rw [← hs2]; simp; omega
          · rw [← hs2, ← hr, ← r1]; rfl
        exact loop_run (n := n + 101) (N := n + 104) hlen hA len 0 (by omega) (by omega) hS hT hW (by omega) (n + 104) (by omega)
    obtain ⟨tme, s3, ee⟩ := hloop
    obtain ⟨tmf, ef, hf2⟩ := hE_run cfgP (callN cfgP (n + 104)) (n + 104) (tm := tme) s3
    refine ⟨s3, callN_ret sP3 cP3 (tm := tm1 (.c c)) rfl ?_ (res2 hf2)⟩
    rw [n3_h, ea']
    have ec' : ∀ x, exec cfgP (callN cfgP (n + 104)) (n + 104) (.seq h4 (.seq h5 (.seq h6 x))) tmb s = exec cfgP (callN cfgP (n + 104)) (n + 104) x tmc s2 := by
      intro x
      simp only [exec] at ec ⊢
      cases e1 : exec cfgP (callN cfgP (n + 104)) (n + 104) h4 tmb s with
      | none => rw [e1] at ec; cases ec
      | some r =>
        rw [e1] at ec
        cases r with
        | exit => cases ec
        | ret => cases ec
        | norm t1 q1 =>
          simp only at ec ⊢
          cases e2 : exec cfgP (callN cfgP (n + 104)) (n + 104) h5 t1 q1 with
          | none => rw [e2] at ec; cases ec
          | some r =>
            rw [e2] at ec
            cases r with
            | exit => cases ec
            | ret => cases ec
            | norm t2 q2 => simp only at ec ⊢; rw [ec]
    have estep : exec cfgP (callN cfgP (n + 104)) (n + 104) (.seq h3 (.seq h4 (.seq h5 (.seq h6 (.seq (.seq h7 (.block 0 (.loop gloop))) hE))))) tma s = exec cfgP (callN cfgP (n + 104)) (n + 104) (.seq h4 (.seq h5 (.seq h6 (.seq (.seq h7 (.block 0 (.loop gloop))) hE)))) tmb s := by
      rw [exec, eb]
    rw [estep, ec']
    simp [exec, ed, ee, ef]
  · obtain ⟨tmb, eb, hb2⟩ := h3_many cfgP (callN cfgP (n + 104)) (n + 104) ha0 s hc (by omega)
    refine ⟨s, callN_ret sP3 cP3 (tm := tm1 (.c c)) rfl ?_ (res2 hb2)⟩
    rw [n3_h, ea', exec, eb]
end Go.AX

set_option maxRecDepth 100000
namespace Go.AX
open Go Go.Proofs Go.RowKit

/-- What is told of a cell: an int, or nothing. -/
def toC : Value → C
  | .int .i64 n => .int .i64 n
  | _ => .any
theorem toC_rel (E : Env) {y : Value} (h : y.oneCell' = true) : CRel E (toC y) y := by
  unfold toC
  split
  · rfl
  · exact h

theorem slice_one {H : Type} {enc : TypeId × Value → H} {P : Program} {w : World} {base : Nat} {sp : Nat → Bool} {held : Bool} {t e : TypeId} {fuel : Nat} {cs : List Value} {x : DataW H × List MemPlace} (ht : P.underlying t = some (.slice e))
    (h : DataW.trod enc P w base sp held fuel t cs = some x) : ∃ y, cs = [y] ∧ y.oneCell' = true := by
  rcases DataW.trod_slice ht h with ⟨rfl, _⟩ | ⟨a, len, cap, elems, rest, n, _, rfl, _⟩
  · exact ⟨_, rfl, rfl⟩
  · exact ⟨_, rfl, rfl⟩

theorem add_add (a : Addr) (x k : Nat) : (a.add x).add k = a.add (x + k) := by
  unfold Addr.add
  by_cases hx : x = 0
  · subst hx; simp
  · by_cases hk : k = 0
    · subst hk; simp [hx]
    · rw [if_neg hk, if_neg hx, if_neg (show ¬ x + k = 0 by omega)]
      simp [Nat.add_assoc]

/-- An act's cells. -/
theorem act_cells {H : Type} {enc : TypeId × Value → H} {w : World} {base : Nat} {sp : Nat → Bool} {held : Bool} {fuel : Nat} {cs : List Value} {x : DataW H × List MemPlace} (h : DataW.trod enc Tryz.prog w base sp held fuel 30 cs = some x) :
    ∃ kd pd fl y, cs = [.int .i64 kd, .int .i64 pd, .int .i64 fl, y] ∧ y.oneCell' = true := by
  obtain ⟨xs, n, rfl, _, hlen, hxs, hf⟩ := DataW.trod_struct Tryz.underlying30 h
  have hc : Tryz.prog.cellsOf 30 = 4 := by kernel_rfl
  have h3 : Tryz.prog.cellsOf 3 = 1 := by kernel_rfl
  have h28 : Tryz.prog.cellsOf 28 = 1 := by kernel_rfl
  rw [hc] at hlen
  match cs, hlen with
  | [y0, y1, y2, y3], _ =>
    have f0 : DataW.trod enc Tryz.prog w base sp held n 3 (([y0, y1, y2, y3].drop 0).take (Tryz.prog.cellsOf 3)) = xs[0]? := hf 0 _ rfl
    have f1 : DataW.trod enc Tryz.prog w base sp held n 3 (([y0, y1, y2, y3].drop 1).take (Tryz.prog.cellsOf 3)) = xs[1]? := hf 1 _ rfl
    have f2 : DataW.trod enc Tryz.prog w base sp held n 3 (([y0, y1, y2, y3].drop 2).take (Tryz.prog.cellsOf 3)) = xs[2]? := hf 2 _ rfl
    have f3 : DataW.trod enc Tryz.prog w base sp held n 28 (([y0, y1, y2, y3].drop 3).take (Tryz.prog.cellsOf 28)) = xs[3]? := hf 3 _ rfl
    rw [h3] at f0 f1 f2
    rw [h28] at f3
    have hx : ∀ i, i < 4 → ∃ z, xs[i]? = some z := fun i hi => ⟨xs[i]'(by rw [hxs]; exact hi), by simp⟩
    obtain ⟨z0, e0⟩ := hx 0 (by omega)
    obtain ⟨z1, e1⟩ := hx 1 (by omega)
    obtain ⟨z2, e2⟩ := hx 2 (by omega)
    obtain ⟨z3, e3⟩ := hx 3 (by omega)
    rw [e0] at f0; rw [e1] at f1; rw [e2] at f2; rw [e3] at f3
    obtain ⟨n0, g0, _⟩ := DataW.trod_int Tryz.underlying3 f0
    obtain ⟨n1, g1, _⟩ := DataW.trod_int Tryz.underlying3 f1
    obtain ⟨n2, g2, _⟩ := DataW.trod_int Tryz.underlying3 f2
    obtain ⟨y, g3, g4⟩ := slice_one Tryz.underlying28 f3
    simp at g0 g1 g2 g3
    subst g0; subst g1; subst g2; subst g3
    exact ⟨_, _, _, _, rfl, g4⟩

theorem acts_at {H : Type} {enc : TypeId × Value → H} {w : World} {sp : Nat → Bool} {held : Bool} {fuel : Nat} {a : Addr} {len cap : Nat} {x : DataW H × List MemPlace} (h : DataW.trod enc Tryz.prog w 0 sp held fuel 22 [.slice (some a) len cap] = some x) :
    len ≤ cap ∧ ∀ i, i < len → ∃ kd pd fl y, w.cell? (a.add (i * 4)) = some (.int .i64 kd) ∧ w.cell? (a.add (i * 4 + 1)) = some (.int .i64 pd) ∧ w.cell? (a.add (i * 4 + 2)) = some (.int .i64 fl) ∧ w.cell? (a.add (i * 4 + 3)) = some y ∧ y.oneCell' = true := by
  rcases DataW.trod_slice Tryz.underlying22 h with ⟨h0, _⟩ | ⟨a', len', cap', elems, rest, n, _, hcs, hx, _, hl, _, hlen, hel, _⟩
  · simp at h0
  · simp at hcs
    obtain ⟨rfl, rfl, rfl⟩ := hcs
    refine ⟨hl, fun i hi => ?_⟩
    have hE := hel i hi
    rw [show Tryz.prog.cellsOf 30 = 4 by kernel_rfl] at hE
    have : ∃ z, elems[i]? = some z := ⟨elems[i]'(by omega), by simp⟩
    obtain ⟨z, hz⟩ := this
    rw [hz, Option.bind_eq_some_iff] at hE
    obtain ⟨cs, hcs, htr⟩ := hE
    obtain ⟨kd, pd, fl, y, rfl, hy⟩ := act_cells htr
    obtain ⟨_, _, hc⟩ := World.cells?_some hcs
    have c0 := hc 0 (by omega)
    have c1 := hc 1 (by omega)
    have c2 := hc 2 (by omega)
    have c3 := hc 3 (by omega)
    rw [add_add] at c0 c1 c2 c3
    exact ⟨kd, pd, fl, y, c0, c1, c2, c3, hy⟩

/-- The window. -/
def roOf (w : World) (a : Addr) (len : Nat) : Ro := { n := 4 * len, d := .any, t := .n 0 ((List.range (4 * len)).map fun j => toC ((w.cell? (a.add j)).getD undef)) .e }
theorem roOf_get (w : World) (a : Addr) (len j : Nat) (hj : j < 4 * len) : tget .any (roOf w a len).t j = toC ((w.cell? (a.add j)).getD undef) := by
  unfold roOf
  rw [tget_n, if_neg (Nat.not_lt_zero _), if_pos (by simpa using hj)]
  simp [List.getD_eq_getElem?_getD, hj]
def roT (w : World) (a : Addr) (len : Nat) : T Ro := (T.e : T Ro).set (some (roOf w a len)) (.ofNat 3)
theorem roT_3 (w : World) (a : Addr) (len : Nat) : (roT w a len).get (.ofNat 3) = some (roOf w a len) := T.get_set_same _ _ _

theorem actsAt {w : World} {a : Addr} {len : Nat} (h : ∀ i, i < len → ∃ kd pd fl y, w.cell? (a.add (i * 4)) = some (.int .i64 kd) ∧ w.cell? (a.add (i * 4 + 1)) = some (.int .i64 pd) ∧ w.cell? (a.add (i * 4 + 2)) = some (.int .i64 fl) ∧ w.cell? (a.add (i * 4 + 3)) = some y ∧ y.oneCell' = true) :
    ActsAt 3 len (roT w a len) := by
  intro i hi
  obtain ⟨kd, pd, fl, y, h0, h1, h2, h3, h4⟩ := h i hi
  refine ⟨kd, pd, .int .i64 fl, toC y, fun s hg hr => ?_⟩
  have hgr : s.getR 3 = some (roOf w a len) := by unfold St.getR; rw [hr]; exact roT_3 w a len
  unfold St.loadN
  rw [hg, hgr]
  have hble : Nat.ble (Nat.add (i * 4) 4) (roOf w a len).n = true := Nat.ble_eq_true_of_le (show i * 4 + 4 ≤ 4 * len by omega)
  simp only [hble, cond_true, forceL_eq]
  obtain ⟨e1, e2⟩ := tgetN_spec (roOf w a len).d (roOf w a len).t (i * 4) 4
  have hd : (roOf w a len).d = .any := rfl
  rw [hd] at e1 e2 ⊢
  have r0 := e2 0 (by omega)
  have r1 := e2 1 (by omega)
  have r2 := e2 2 (by omega)
  have r3 := e2 3 (by omega)
  rw [roOf_get w a len _ (by omega)] at r0 r1 r2 r3
  rw [Nat.add_zero, h0] at r0
  rw [h1] at r1
  rw [h2] at r2
  rw [h3] at r3
  generalize tgetN .any (roOf w a len).t (i * 4) 4 = l at *
  match l, e1 with
  | [a0, a1, a2, a3], _ =>
    simp at r0 r1 r2 r3
    subst r0; subst r1; subst r2; subst r3
    rfl
end Go.AX

set_option maxRecDepth 100000
namespace Go.AX
open Go Go.Proofs Go.RowKit

theorem cells_at {w : World} {a : Addr} {len : Nat} (hs : a.spot = none) (hl : 0 < len) (h : ∀ i, i < len → ∃ kd pd fl y, w.cell? (a.add (i * 4)) = some (.int .i64 kd) ∧ w.cell? (a.add (i * 4 + 1)) = some (.int .i64 pd) ∧ w.cell? (a.add (i * 4 + 2)) = some (.int .i64 fl) ∧ w.cell? (a.add (i * 4 + 3)) = some y ∧ y.oneCell' = true) :
    ∃ c el fr, w.heap[a.block]? = some (.cells c el fr) ∧ 4 * len + a.off ≤ c.size ∧ ∀ j, j < 4 * len → ∃ y, c[j + a.off]? = some y ∧ w.cell? (a.add j) = some y ∧ y.oneCell' = true := by
  have hblk : ∀ j, (a.add j).block = a.block := fun j => by unfold Addr.add; split <;> rfl
  have hoff : ∀ j, (a.add j).off = a.off + j := fun j => by unfold Addr.add; split <;> simp_all
  have hspot : ∀ j, (a.add j).spot = none := fun j => by unfold Addr.add; split <;> simp_all
  have hany : ∀ j, j < 4 * len → ∃ y, w.cell? (a.add j) = some y ∧ y.oneCell' = true := by
    intro j hj
    obtain ⟨kd, pd, fl, y, h0, h1, h2, h3, h4⟩ := h (j / 4) (by omega)
    have : j = j / 4 * 4 ∨ j = j / 4 * 4 + 1 ∨ j = j / 4 * 4 + 2 ∨ j = j / 4 * 4 + 3 := by omega
    rcases this with e | e | e | e
    · rw [← e] at h0; exact ⟨_, h0, rfl⟩
    · rw [← e] at h1; exact ⟨_, h1, rfl⟩
    · rw [← e] at h2; exact ⟨_, h2, rfl⟩
    · rw [← e] at h3; exact ⟨_, h3, h4⟩
  obtain ⟨y0, hy0, _⟩ := hany 0 (by omega)
  have hc : ∃ c el fr, w.heap[a.block]? = some (.cells c el fr) := by
    unfold World.cell? at hy0
    rw [hblk] at hy0
    split at hy0
    · rename_i hh; exact ⟨_, _, _, hh⟩
    · cases hy0
  obtain ⟨c, el, fr, hc⟩ := hc
  have hget : ∀ j, w.cell? (a.add j) = c[j + a.off]? := fun j => by
    unfold World.cell?
    rw [hblk, hc]
    simp [hspot, hoff, Nat.add_comm]
  refine ⟨c, el, fr, hc, ?_, fun j hj => ?_⟩
  · obtain ⟨y, hy, _⟩ := hany (4 * len - 1) (by omega)
    rw [hget] at hy
    have := (Array.getElem?_eq_some_iff.1 hy).1
    omega
  · obtain ⟨y, hy, h1⟩ := hany j hj
    exact ⟨y, by rw [← hget]; exact hy, hy, h1⟩

def envA (a : Addr) : Env := { loc := fun b => if b < 3 then some ⟨b, 0, 0⟩ else if b = 3 then some ⟨a.block, a.off, 0⟩ else none, sym := fun _ => undef }

theorem walk (W : World) (v : Value) (hv : v = .slice none 0 0 ∨ ∃ a len cap, v = .slice (some a) len cap ∧ a.spot = none ∧ len ≤ cap ∧
    ∀ i, i < len → ∃ kd pd fl y, W.cell? (a.add (i * 4)) = some (.int .i64 kd) ∧ W.cell? (a.add (i * 4 + 1)) = some (.int .i64 pd) ∧ W.cell? (a.add (i * 4 + 2)) = some (.int .i64 fl) ∧ W.cell? (a.add (i * 4 + 3)) = some y ∧ y.oneCell' = true) :
    Calls Tryz.prog 3 #[v] W fun e w' => e = .returned (.bool true) ∧ Below W.heap.size W w' := by
  have main : ∀ (E : Env) (s0 : St) (c : C) (s' : St), callN cfgP (0 + 105) 3 [.c c] s0 = some (.a (.c (.bool true)), s') → s0.nx = 4 → (∀ b, s0.get b = none) → Rel E s0 W → GOk Tryz.prog E → (∀ b, 4 ≤ b → E.loc b = none) → CRel E c v →
      Calls Tryz.prog 3 #[v] W fun e w' => e = .returned (.bool true) ∧ Below W.heap.size W w' := by
    intro E s0 c s' hrun hnx hnone hrel hG hE hcv
    have := callN_sound cfgP_ok (0 + 105) 3 [.c c] s0 _ s' hrun E W #[v] hrel hG (by rw [hnx, glob3]; decide) (fun b h1 _ => hE b (by omega)) (.cons hcv .nil)
    rw [callFunc_enter Tryz.func3 (by kernel_rfl) (c := _) (by rfl)] at this
    refine Calls.mono this fun e w' ⟨x, he, E', hv, hst⟩ => ?_
    have hv : x = .bool true := hv
    subst hv
    refine ⟨he, hst.os, hst.tape, hst.output, hst.size, fun k hk => hst.frame k hk fun ⟨b, o, L, h1, _⟩ => ?_⟩
    rw [hnone] at h1; cases h1
  have hg0 : ∀ rr : T Ro, ∀ b, St.get { h := .e, nx := 4, r := rr } b = none := fun rr b => T.get_e _
  have hG : ∀ a, GOk Tryz.prog (envA a) := fun a g hg => by
    rw [glob3] at hg
    exact ⟨0, by simp [envA, hg]⟩
  rcases hv with rfl | ⟨a, len, cap, rfl, hsp, hlc, hcells⟩
  · obtain ⟨s', hs'⟩ := law_exec 0 (c := .nils) (len := 0) (s := { h := .e, nx := 4, r := .e }) (rr := .e) rfl (.inl ⟨rfl, rfl⟩) (fun _ => .inl ⟨rfl, rfl⟩)
    refine main (envA ⟨0, 0, none⟩) _ .nils s' hs' rfl (hg0 _) ?_ (hG _) (fun b hb => ?_) rfl
    · exact Rel.zero _ _ 4
    · simp only [envA]; rw [if_neg (by omega), if_neg (by omega)]
  · have hloc3 : (envA a).loc 3 = some ⟨a.block, a.off, 0⟩ := by simp [envA]
    have hcv : CRel (envA a) (.slice 3 0 len cap 4 true) (.slice (some a) len cap) := by
      refine ⟨_, a.off, cap, hloc3, ?_, fun _ => by simp, hlc, Nat.le_refl _, fun _ => rfl, fun h => by cases h⟩
      cases a
      simp at hsp
      subst hsp
      rfl
    have hE : ∀ b, 4 ≤ b → (envA a).loc b = none := fun b hb => by simp only [envA]; rw [if_neg (by omega), if_neg (by omega)]
    rcases Nat.eq_zero_or_pos len with rfl | hpos
    · obtain ⟨s', hs'⟩ := law_exec 0 (c := .slice 3 0 0 cap 4 true) (len := 0) (s := { h := .e, nx := 4, r := .e }) (rr := .e) rfl (.inr ⟨_, _, _, _, _, rfl⟩) (fun _ => .inr ⟨_, _, rfl, hg0 _ _, rfl, fun i hi => by omega⟩)
      exact main (envA a) _ _ s' hs' rfl (hg0 _) (Rel.zero _ _ 4) (hG _) hE hcv
    · obtain ⟨s', hs'⟩ := law_exec 0 (c := .slice 3 0 len cap 4 true) (len := len) (s := { h := .e, nx := 4, r := roT W a len }) (rr := roT W a len) rfl (.inr ⟨_, _, _, _, _, rfl⟩) (fun _ => .inr ⟨_, _, rfl, hg0 _ _, rfl, actsAt hcells⟩)
      refine main (envA a) _ _ s' hs' rfl (hg0 _) ⟨⟨fun b o h => ?_, fun b b' o o' L L' h => ?_⟩, fun b x h => ?_⟩ (hG _) hE hcv
      · rw [hg0] at h; cases h
      · rw [hg0] at h; cases h
      · have hb : b = 3 := by
          have h : (roT W a len).get (.ofNat b) = some x := h
          unfold roT at h
          rw [T.get_set] at h
          split at h
          · rename_i e; exact (Pos.ofNat_inj e).symm
          · simp at h
        subst hb
        have h : (roT W a len).get (.ofNat 3) = some x := h
        rw [roT_3] at h; cases h
        obtain ⟨c, el, fr, h1, h2, h3⟩ := cells_at hsp hpos hcells
        refine ⟨_, hloc3, fun ⟨b, o, L, h1, _⟩ => (by rw [hg0] at h1; cases h1), c, el, fr, h1, h2, fun j hj => ?_⟩
        obtain ⟨y, h4, h5, h6⟩ := h3 j hj
        refine ⟨y, h4, ?_⟩
        have hd : (roOf W a len).d = .any := rfl
        rw [hd, roOf_get W a len j hj, h5]
        exact toC_rel _ h6
end Go.AX
