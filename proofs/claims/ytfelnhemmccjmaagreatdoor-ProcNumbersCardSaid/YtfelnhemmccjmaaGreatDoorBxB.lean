/- Part of a proof: a checked executor for the model, its proof of soundness, tables and kernel runs. No condition of its own. -/
import Derived.Test.YtfelnhemmccjmaaGreatDoorBxA
import Derived.Laws.Build
set_option autoImplicit false
set_option linter.unusedSimpArgs false
set_option linter.unusedVariables false
namespace Go.AX
open Go

section
variable {P : Program} {E : Env} {nt : Nat} {tm : Tm} {a : Act} {s : St} {w : World}

set_option maxHeartbeats 4000000 in
/-- **The operations that turn no memory** yield what they yield here, in the world that they got. -/
theorem val_sound (hr : Rel E s w) (hG : GOk P E) (ht : TRel E nt tm a) {o : Oper} {iop : IOp} (hc : cOp P nt o.op = some iop) {v : V} (hv : iop.val tm s = some v) :
    ∃ x, (execOp a.eval o).run P w = .ok (.value x) w ∧ VRel E v x := by
  have up : ∀ {m : Sem Value}, (∃ x, m.run P w = .ok x w ∧ VRel E v x) → ∃ x, (do pure (Next.value (← m)) : Sem Next).run P w = .ok (.value x) w ∧ VRel E v x :=
    fun ⟨x, h1, h2⟩ => ⟨x, runv h1, h2⟩
  obtain ⟨dst, op, type, pos, after, guard⟩ := o
  simp only at hc
  cases op with
  | move x =>
    obtain ⟨y, hy, rfl⟩ := map_eq_some' hc
    exact ⟨_, rfl, ev_sound hG ht hy hv⟩
  | assign x =>
    obtain ⟨y, hy, rfl⟩ := map_eq_some' hc
    exact ⟨_, rfl, ev_sound hG ht hy hv⟩
  | pick c x y =>
    simp only [cOp] at hc
    split at hc
    · rename_i c' x' y' h1 h2 h3
      cases hc
      simp only [IOp.val] at hv
      split at hv
      · rename_i hb
        have e : a.eval c = .bool true := evC_sound hG ht h1 hb
        exact ⟨_, by simp only [execOp, e, asBool]; rfl, ev_sound hG ht h2 hv⟩
      · rename_i hb
        have e : a.eval c = .bool false := evC_sound hG ht h1 hb
        exact ⟨_, by simp only [execOp, e, asBool]; rfl, ev_sound hG ht h3 hv⟩
      · cases hv
    · cases hc
  | alloc e =>
    simp only [cOp] at hc
    split at hc <;> cases hc
    simp [IOp.val] at hv
  | box e x => obtain ⟨y, hy, rfl⟩ := map_eq_some' hc; simp [IOp.val] at hv
  | build t ps => exact up (build_sound hG ht hc hv)
  | buildSlice t n ps =>
    simp only [cOp] at hc
    split at hc
    · split at hc
      · obtain ⟨_, hc⟩ := cond_some hc
        split at hc <;> cases hc
        simp [IOp.val] at hv
      · cases hc
    · cases hc
  | insert t m k x =>
    simp only [cOp] at hc
    split at hc
    · split at hc <;> cases hc <;> simp [IOp.val] at hv
    · cases hc
  | load t x =>
    simp only [cOp] at hc
    split at hc
    · rename_i n x' h1 h2 h3
      cases hc
      simp only [IOp.val] at hv
      split at hv
      · rename_i b o hl
        split at hv
        · rename_i l hll
          cases hv
          obtain ⟨L, hL, hx⟩ := evC_sound hG ht h3 hl
          obtain ⟨L', hL', _, vs, hrun, hvs⟩ := loadN_sound (P := P) hr hll
          rw [hL] at hL'; cases hL'
          exact up ⟨.agg vs.toArray, by simp [Instr.loadAt, hx, Instr.sureAddr, loadVar, isAggT_run h1, sizeT_run h2, hrun], vs, rfl, hvs⟩
        · cases hv
      · cases hv
    · rename_i n x' h1 h2 h3
      cases hc
      simp only [IOp.val] at hv
      split at hv
      · rename_i b o hl
        split at hv
        · rename_i c hll
          cases one_eq hv
          obtain ⟨L, hL, hx⟩ := evC_sound hG ht h3 hl
          obtain ⟨L', hL', y, hcell, hcr⟩ := load_sound hr hll
          rw [hL] at hL'; cases hL'
          exact up ⟨y, by simp [Instr.loadAt, hx, Instr.sureAddr, loadVar, isAggT_run h1, hcell], hcr⟩
        · cases hv
      · cases hv
    · cases hc
  | store t x y =>
    simp only [cOp] at hc
    split at hc <;> cases hc
    simp [IOp.val] at hv
  | ready g => simp [cOp] at hc
  | waits g => simp [cOp] at hc
  | nilCheck x =>
    obtain ⟨y, hy, rfl⟩ := map_eq_some' hc
    simp only [IOp.val] at hv
    split at hv
    · rename_i b o hl
      cases one_eq hv
      have h := evC_sound hG ht hy hl
      obtain ⟨L, hL, hx⟩ := id h
      exact ⟨a.eval x, by simp [execOp, hx], h⟩
    · rename_i t c hl
      cases one_eq hv
      have h := evC_sound hG ht hy hl
      obtain ⟨z, hz, hx⟩ := id h
      exact ⟨a.eval x, by simp [execOp, hx], h⟩
    · rename_i f hl
      cases one_eq hv
      have h := evC_sound hG ht hy hl
      have hx : a.eval x = _ := h
      exact ⟨a.eval x, by simp [execOp, hx], h⟩
    · rename_i f c hl
      cases one_eq hv
      have h := evC_sound hG ht hy hl
      obtain ⟨z, hz, hx⟩ := id h
      exact ⟨a.eval x, by simp [execOp, hx], h⟩
    · rename_i f c d hl
      cases one_eq hv
      have h := evC_sound hG ht hy hl
      obtain ⟨z, z', hz, hz', hx⟩ := id h
      exact ⟨a.eval x, by simp [execOp, hx], h⟩
    · rename_i f c hl
      cases one_eq hv
      have h := evC_sound hG ht hy hl
      obtain ⟨z, hz, hx⟩ := id h
      exact ⟨a.eval x, by simp [execOp, hx], h⟩
    · cases hv
  | binOp op t x y yt => exact up (bin_sound hr hG ht hc hv)
  | unOp op t x =>
    simp only [cOp] at hc
    split at hc
    · rename_i y hy
      cases hc
      simp only [IOp.val] at hv
      split at hv
      · rename_i hb
        cases one_eq hv
        have e : a.eval x = .bool true := evC_sound hG ht hy hb
        exact up ⟨.bool false, by simp [e, Op.unary], rfl⟩
      · rename_i hb
        cases one_eq hv
        have e : a.eval x = .bool false := evC_sound hG ht hy hb
        exact up ⟨.bool true, by simp [e, Op.unary], rfl⟩
      · cases hv
    · rename_i y hy
      cases hc
      simp only [IOp.val] at hv
      split at hv
      · rename_i k n hb
        cases one_eq hv
        have e : a.eval x = .int k n := evC_sound hG ht hy hb
        refine up ⟨_, by simp [e, Op.unary, Op.intArith]; rfl, ?_⟩
        simp [VRel, ARel, CRel, wrapF_eq, subI_eq]
      · cases hv
    · rename_i y hy
      cases hc
      simp only [IOp.val] at hv
      split at hv
      · rename_i k n hb
        cases one_eq hv
        have e : a.eval x = .int k n := evC_sound hG ht hy hb
        refine up ⟨.int k (k.wrap (BitVec.ofInt k.bits (if k.signed then -1 else k.max) ^^^ BitVec.ofInt k.bits n).toNat), by rw [e]; rfl, ?_⟩
        simp only [VRel, ARel, CRel, wrapF_eq, toBits_eq, fullK_eq]
        rw [xor_full]
        have hall : BitVec.ofInt k.bits (if k.signed then -1 else k.max) = BitVec.allOnes k.bits := by
          cases k <;> rfl
        rw [hall, BitVec.allOnes_xor]
        rfl
      · cases hv
    · cases hc
  | convert sr d x =>
    simp only [cOp] at hc
    split at hc
    · rename_i k0 k y h1 h2 hy
      cases hc
      simp only [IOp.val] at hv
      split at hv
      · rename_i l n hb
        cases one_eq hv
        have e : a.eval x = .int l n := evC_sound hG ht hy hb
        refine up ⟨_, by rw [e]; exact convert_int h1 h2 l n, ?_⟩
        simp [VRel, ARel, CRel, wrapF_eq]
      · cases hv
    · rename_i k0 y h1 h2 hy
      cases hc
      simp only [IOp.val] at hv
      split at hv
      · rename_i l n hb
        obtain ⟨hn, hv⟩ := cond_some hv
        cases one_eq hv
        have hn := blt_true hn
        have e : a.eval x = .int l (.ofNat n) := evC_sound hG ht hy hb
        refine up ⟨_, by rw [e]; exact convert_rune h1 h2 l n, _, rfl, ?_⟩
        have hval : Utf8.valid ((n : Nat) : Int) = true := by
          simp only [Utf8.valid, Bool.or_eq_true, Bool.and_eq_true, decide_eq_true_eq]
          left
          constructor
          · omega
          · omega
        have hlt : n < 128 := hn
        show List.map (fun x => x.toNat) (Utf8.encode ((n : Nat) : Int)).data.toList = [n]
        simp only [Utf8.encode, hval, if_true]
        rw [if_pos (show ((n : Nat) : Int).toNat < 128 from hlt), Int.toNat_natCast]
        simp only [List.map_cons, List.map_nil, UInt8.toNat_ofNat']
        rw [Nat.mod_eq_of_lt (by omega)]
      · cases hv
    · rename_i y h1 h2 hy
      cases hc
      simp only [IOp.val] at hv
      split at hv
      · rename_i l hb
        cases one_eq hv
        obtain ⟨st, hst, hs⟩ := evC_sound hG ht hy hb
        exact up ⟨.string st, by rw [hst]; exact convert_str h1 h2 st, st, rfl, hs⟩
      · cases hv
    · rename_i e y h1 h2 hy
      split at hc <;> cases hc
      simp [IOp.val] at hv
    · rename_i e y h1 h2 hy
      split at hc
      · rename_i he
        cases hc
        simp only [IOp.val] at hv
        split at hv
        · rename_i hb
          cases one_eq hv
          have e1 : a.eval x = .slice none 0 0 := evC_sound hG ht hy hb
          refine up ⟨.string .empty, ?_, .empty, rfl, rfl⟩
          rw [e1, run_convert_bytes_string w sr d e _ _ _ h1 he h2]
          simp [Conv.bytesToString]
        · rename_i b o l c z ex hb
          obtain ⟨L, off, c', hL, hx, g1, g2, g3, g4, g5⟩ := evC_sound hG ht hy hb
          cases hl0 : Nat.beq l 0
          · rw [hl0] at hv
            have hlp : 0 < l := Nat.pos_of_ne_zero (beq_false hl0)
            simp only [cond_false] at hv
            split at hv
            · rename_i cs hcs
              split at hv
              · rename_i r hrr
                cases one_eq hv
                obtain ⟨L', hL', _, vs, hrun, hvs⟩ := loadN_sound (P := P) hr hcs
                rw [hL] at hL'; cases hL'
                obtain ⟨z', hz1, hz2⟩ := cvStr_sound (P := P) (w := w) (k := l) (c := c') hrr hvs hrun
                refine up ⟨z', ?_, hz2⟩
                rw [hx, run_convert_bytes_string w sr d e _ _ _ h1 he h2, g1 (by omega)]
                exact hz1
              · cases hv
            · cases hv
          · rw [hl0] at hv
            have := beq_true hl0
            subst this
            cases one_eq hv
            obtain ⟨z', hz1, hz2⟩ := cvStr_sound (P := P) (w := w) (E := E) (l := []) (r := []) (vs := []) (a := ⟨L.blk, off, none⟩) (k := 0) (c := c') rfl .nil (by simp [loadCells, loadCellsFrom])
            refine up ⟨z', ?_, hz2⟩
            rw [hx, run_convert_bytes_string w sr d e _ _ _ h1 he h2]
            exact hz1
        · cases hv
      · cases hc
    · rename_i e0 e y h1 h2 hy
      split at hc
      · obtain ⟨_, hc⟩ := cond_some hc; cases hc; simp [IOp.val] at hv
      · cases hc
    · cases hc
  | sliceToArrayPointer t x => simp [cOp] at hc
  | makeInterface t x =>
    simp only [cOp] at hc
    split at hc
    · cases hc
    · rename_i d y hd hdu hy
      cases hc
      simp only [IOp.val] at hv
      split at hv
      · rename_i c hb
        cases one_eq hv
        have h := evC_sound hG ht hy hb
        refine up ⟨.iface t (a.eval x), ?_, _, h, rfl⟩
        exact run_makeInterface w t _ (by
          unfold Program.concrete
          rw [hdu]
          cases d <;> first | rfl | exact absurd rfl (hd _))
      · cases hv
    · cases hc
  | makeFunc fn first captured =>
    cases fn with
    | func f =>
      simp only [cOp] at hc
      split at hc
      · rename_i cs hf hcs
        cases hc
        have hfirst : first = #[] := by simpa using hf
        subst hfirst
        simp only [IOp.val] at hv
        have hcap : ∀ {l : List C}, evCs tm cs = some l → All2 (CRel E) l (captured.map a.eval).toList := fun h => by simpa using evCs_sound hG ht hcs h
        split at hv
        · rename_i hl
          cases one_eq hv
          have h := hcap hl
          refine up ⟨.func (.func f) #[] #[], ?_, rfl⟩
          have : captured.map a.eval = #[] := by
            cases hm : (captured.map a.eval).toList with
            | nil => exact Array.toList_eq_nil_iff.1 hm
            | cons _ _ => rw [hm] at h; cases h
          simp [Instr.makeFunc, this]
        · rename_i c hl
          cases one_eq hv
          have h := hcap hl
          generalize hg : captured.map a.eval = arr at h
          cases arr with
          | mk xs =>
            cases h with
            | cons h1 h2 =>
              cases h2
              rename_i y
              exact up ⟨.func (.func f) #[] #[y], by simp [Instr.makeFunc, hg], y, h1, rfl⟩
        · rename_i c d hl
          cases one_eq hv
          have h := hcap hl
          generalize hg : captured.map a.eval = arr at h
          cases arr with
          | mk xs =>
            cases h with
            | cons h1 h2 =>
              cases h2 with
              | cons h3 h4 =>
                cases h4
                rename_i y z
                exact up ⟨.func (.func f) #[] #[y, z], by simp [Instr.makeFunc, hg], y, z, h1, h3, rfl⟩
        · cases hv
      · rename_i x hf hcs
        split at hc
        · rename_i y hy
          cases hc
          simp only [IOp.val] at hv
          split at hv
          · rename_i c hb
            cases one_eq hv
            have h := evC_sound hG ht hy hb
            have hfirst : first = #[x] := by
              apply Array.ext'
              simpa using hf
            have hcap : captured = #[] := by
              cases hm : captured.toList with
              | nil => exact Array.toList_eq_nil_iff.1 hm
              | cons p l =>
                rw [hm] at hcs
                simp only [cOpds] at hcs
                split at hcs <;> cases hcs
            subst hfirst; subst hcap
            exact up ⟨.func (.func f) #[a.eval x] #[], by simp [Instr.makeFunc], _, h, rfl⟩
          · cases hv
        · cases hc
      · cases hc
    | _ => simp [cOp] at hc
  | makeMap t r =>
    cases r with
    | none =>
      simp only [cOp] at hc
      split at hc <;> cases hc
      simp [IOp.val] at hv
    | some r => simp [cOp] at hc
  | makeChan t x => simp [cOp] at hc
  | makeSlice t l c =>
    simp only [cOp] at hc
    split at hc
    · split at hc
      · obtain ⟨_, hc⟩ := cond_some hc; cases hc; simp [IOp.val] at hv
      · cases hc
    · cases hc
  | slice t x lo hi mx => exact up (slc_sound hG ht hc hv)
  | fieldAddr t x f =>
    simp only [cOp] at hc
    split at hc
    · rename_i fs y hu hy
      split at hc
      · rename_i g hg
        split at hc
        · rename_i n hsz
          cases hc
          simp only [IOp.val] at hv
          split at hv
          · rename_i b o hl
            cases one_eq hv
            obtain ⟨L, hL, hx⟩ := evC_sound hG ht hy hl
            refine up ⟨.pointer (some ⟨L.blk, o + g.offset + L.sh, none⟩), ?_, L, hL, rfl⟩
            have e : (⟨L.blk, o + L.sh, none⟩ : Addr).add g.offset = ⟨L.blk, o + g.offset + L.sh, none⟩ := by
              rw [Addr.add_none]; congr 1; omega
            simp [Instr.fieldAt, run_underlying hu, hg, hx, Instr.sureAddr, fieldPlace, sizeT_run hsz, e]
          · cases hv
        · cases hc
      · cases hc
    · cases hc
  | field t x f =>
    simp only [cOp] at hc
    split at hc
    · rename_i fs y hu hy
      split at hc
      · rename_i g hg
        split at hc
        · rename_i n h1 h2
          cases hc
          simp only [IOp.val] at hv
          split at hv
          · rename_i l hl
            obtain ⟨_, hv⟩ := cond_some hv
            cases hv
            obtain ⟨vs, hx, hvs⟩ := evA_sound hG ht hy hl
            refine up ⟨_, ?_, extract_sound hvs g.offset n⟩
            simp [Instr.field, run_underlying hu, hg, hx, asAgg, runPartN h1 h2]
          · cases hv
        · rename_i n h1 h2
          cases hc
          simp only [IOp.val] at hv
          split at hv
          · rename_i l hl
            split at hv
            · rename_i c hcc
              cases one_eq hv
              obtain ⟨vs, hx, hvs⟩ := evA_sound hG ht hy hl
              obtain ⟨z, hz, hcr⟩ := hvs.get hcc
              refine up ⟨z, ?_, hcr⟩
              simp [Instr.field, run_underlying hu, hg, hx, asAgg]
              exact runPart1 h1 (by simpa using hz)
            · cases hv
          · cases hv
        · cases hc
      · cases hc
    · cases hc
  | indexAddr t x i =>
    simp only [cOp] at hc
    split at hc
    · rename_i n e y j hu hy hj
      split at hc
      · rename_i sz hsz
        cases hc
        simp only [IOp.val] at hv
        split at hv
        · rename_i b o m hl hm
          obtain ⟨hlt, hv⟩ := cond_some hv
          cases one_eq hv
          have hlt := blt_true hlt
          obtain ⟨L, hL, hx⟩ := evC_sound hG ht hy hl
          obtain ⟨k, hi⟩ := evI_sound hG ht hj hm
          refine up ⟨.pointer (some ⟨L.blk, o + m * sz + L.sh, none⟩), ?_, L, hL, rfl⟩
          have h0 : (0 : Int) ≤ Int.ofNat m ∧ Int.ofNat m < (n : Int) := ⟨by simp, Int.ofNat_lt.2 hlt⟩
          unfold Instr.indexAt
          simp only [hi, asIntOf, Sem.run_bind, Sem.run_pure, Result.andThen_ok, run_underlying hu, hx, Instr.sureAddr, if_pos h0, sizeT_run hsz, Addr.add_none]
          congr 4
          show o + L.sh + (Int.ofNat m).toNat * sz = _
          simp
          omega
        · cases hv
      · cases hc
    · rename_i e y j hu hy hj
      split at hc
      · rename_i sz hsz
        cases hc
        simp only [IOp.val] at hv
        split at hv
        · rename_i b o l c z ex m hl hm
          obtain ⟨hlt, hv⟩ := cond_some hv
          cases one_eq hv
          have hlt := blt_true hlt
          obtain ⟨L, off, c', hL, hx, g1, g2, g3, g4, g5⟩ := evC_sound hG ht hy hl
          obtain ⟨k, hi⟩ := evI_sound hG ht hj hm
          refine up ⟨.pointer (some ⟨L.blk, o + m * sz + L.sh, none⟩), ?_, L, hL, rfl⟩
          have h0 : (0 : Int) ≤ Int.ofNat m ∧ Int.ofNat m < (l : Int) := ⟨by simp, Int.ofNat_lt.2 hlt⟩
          have hoff := g1 (by omega)
          unfold Instr.indexAt
          simp only [hi, asIntOf, Sem.run_bind, Sem.run_pure, Result.andThen_ok, run_underlying hu, hx, if_pos h0, sizeT_run hsz, Addr.add_none]
          congr 4
          show off + (Int.ofNat m).toNat * sz = _
          simp
          omega
        · cases hv
      · cases hc
    · cases hc
  | index t x i =>
    simp only [cOp] at hc
    split at hc
    · rename_i n e y j hu hy hj
      split at hc
      · rename_i sz h1 hsz
        cases hc
        simp only [IOp.val] at hv
        split at hv
        · rename_i l m hl hm
          obtain ⟨hlt, hv⟩ := cond_some hv
          cases hv
          rw [Bool.and_eq_true] at hlt
          have hlt := blt_true hlt.1
          obtain ⟨vs, hx, hvs⟩ := evA_sound hG ht hy hl
          obtain ⟨k, hi⟩ := evI_sound hG ht hj hm
          have h0 : (0 : Int) ≤ Int.ofNat m ∧ Int.ofNat m < (n : Int) := ⟨by simp, Int.ofNat_lt.2 hlt⟩
          refine up ⟨_, ?_, extract_sound hvs (m * sz) sz⟩
          unfold Instr.index
          simp only [hi, asIntOf, Sem.run_bind, Sem.run_pure, Result.andThen_ok, run_underlying hu, hx, if_pos h0, sizeT_run hsz]
          rw [runPartN h1 hsz]
          rfl
        · cases hv
      · rename_i h1 hsz
        cases hc
        simp only [IOp.val] at hv
        split at hv
        · rename_i l m hl hm
          obtain ⟨hlt, hv⟩ := cond_some hv
          have hlt := blt_true hlt
          split at hv
          · rename_i c hcc
            cases one_eq hv
            obtain ⟨vs, hx, hvs⟩ := evA_sound hG ht hy hl
            obtain ⟨k, hi⟩ := evI_sound hG ht hj hm
            obtain ⟨z, hz, hcr⟩ := hvs.get hcc
            have h0 : (0 : Int) ≤ Int.ofNat m ∧ Int.ofNat m < (n : Int) := ⟨by simp, Int.ofNat_lt.2 hlt⟩
            refine up ⟨z, ?_, hcr⟩
            unfold Instr.index
            simp only [hi, asIntOf, Sem.run_bind, Sem.run_pure, Result.andThen_ok, run_underlying hu, hx, if_pos h0, sizeT_run hsz]
            exact runPart1 h1 (by simpa using hz)
          · cases hv
        · cases hv
      · cases hc
    · rename_i y j hu hy hj
      cases hc
      simp only [IOp.val] at hv
      split at hv
      · rename_i l m hl hm
        split at hv
        · rename_i b hb
          cases one_eq hv
          obtain ⟨st, hst, hs⟩ := evC_sound hG ht hy hl
          obtain ⟨k, hi⟩ := evI_sound hG ht hj hm
          obtain ⟨u, hu1, rfl⟩ := str_get hs hb
          refine up ⟨.int .u8 u.toNat, ?_, rfl⟩
          unfold Instr.index
          simp only [hi, asIntOf, Sem.run_bind, Sem.run_pure, Result.andThen_ok, run_underlying hu, hst]
          rw [if_pos (by simp)]
          simp [hu1]
        · cases hv
      · cases hv
    · cases hc
  | lookup t m k ok =>
    simp only [cOp] at hc
    split at hc
    · rename_i kt e hu
      split at hc
      · rename_i ik z m' k' hk hz hm hkk
        cases hc
        simp only [IOp.val] at hv
        split at hv
        · rename_i mc kc h1 h2
          obtain ⟨hko, hv⟩ := cond_some hv
          split at hv
          · rename_i l hg
            split at hv
            · rename_i u hf
              obtain ⟨y, hy1, hy2⟩ := look_sound hr hu hk (ki := true) rfl hz (evC_sound hG ht hm h1) (evC_sound hG ht hkk h2) hko hg hf ok
              refine up ⟨y, hy1, ?_⟩
              cases ok <;> cases hv <;> exact hy2
            · rename_i hf
              obtain ⟨y, hy1, hy2⟩ := look_sound hr hu hk (ki := true) rfl hz (evC_sound hG ht hm h1) (evC_sound hG ht hkk h2) hko hg hf ok
              refine up ⟨y, hy1, ?_⟩
              cases ok <;> cases hv <;> exact hy2
            · cases hv
          · cases hv
        · cases hv
      · rename_i z m' k' hk hz hm hkk
        cases hc
        simp only [IOp.val] at hv
        split at hv
        · rename_i mc kc h1 h2
          obtain ⟨hko, hv⟩ := cond_some hv
          split at hv
          · rename_i l hg
            split at hv
            · rename_i u hf
              obtain ⟨y, hy1, hy2⟩ := look_sound hr hu hk (ki := false) rfl hz (evC_sound hG ht hm h1) (evC_sound hG ht hkk h2) hko hg hf ok
              refine up ⟨y, hy1, ?_⟩
              cases ok <;> cases hv <;> exact hy2
            · rename_i hf
              obtain ⟨y, hy1, hy2⟩ := look_sound hr hu hk (ki := false) rfl hz (evC_sound hG ht hm h1) (evC_sound hG ht hkk h2) hko hg hf ok
              refine up ⟨y, hy1, ?_⟩
              cases ok <;> cases hv <;> exact hy2
            · cases hv
          · cases hv
        · cases hv
      · cases hc
    · cases hc
  | mapUpdate t m k x =>
    simp only [cOp] at hc
    split at hc
    · split at hc <;> cases hc <;> simp [IOp.val] at hv
    · cases hc
  | mapEntry t m k => simp [cOp] at hc
  | entryStore t m st x => simp [cOp] at hc
  | range t x =>
    simp only [cOp] at hc
    split at hc <;> cases hc
    simp [IOp.val] at hv
  | next x b =>
    cases b
    · simp [cOp] at hc
    · obtain ⟨y, hy, rfl⟩ := map_eq_some' hc
      simp [IOp.val] at hv
  | entry x => simp [cOp] at hc
  | typeAssert x t1 t2 ok => simp [cOp] at hc
  | extract x i =>
    obtain ⟨y, hy, rfl⟩ := map_eq_some' hc
    simp only [IOp.val] at hv
    split at hv
    · rename_i l hl
      split at hv
      · rename_i b hb
        cases hv
        obtain ⟨vs, hx, hvs⟩ := ev_sound hG ht hy hl
        obtain ⟨z, hz, hcr⟩ := hvs.get hb
        refine up ⟨z, ?_, hcr⟩
        have hz' : vs.toArray[i]? = some z := by simpa using hz
        simp [Instr.extract, hx, hz]
      · cases hv
    · cases hv
  | call c =>
    simp only [cOp] at hc
    split at hc
    · rename_i b hcal
      have hexec : execOp a.eval ⟨dst, .call c, type, pos, after, guard⟩ = builtin b c.argTypes type (c.args.map fun | .const _ => true | _ => false) (c.args.map a.eval) := by
        simp only [execOp, resolve, hcal]
        rfl
      rw [hexec]
      unfold cBuiltin at hc
      split at hc
      · rename_i x t hargs htys
        have ha : c.args = #[x] := Array.ext' (by simpa using hargs)
        have hty : c.argTypes = #[t] := Array.ext' (by simpa using htys)
        have go : ∀ {m : Value}, (Builtin.len_ #[t] type #[a.eval x]).run P w = .ok m w → VRel E v m → ∃ y, (builtin .len c.argTypes type (c.args.map fun | .const _ => true | _ => false) (c.args.map a.eval)).run P w = .ok (.value y) w ∧ VRel E v y := by
          intro m hm hv
          refine ⟨m, ?_, hv⟩
          rw [ha, hty]
          simp only [builtin]
          exact runv (by simpa using hm)
        split at hc
        · rename_i y hu hy
          cases hc
          simp only [IOp.val] at hv
          split at hv
          · rename_i l hl
            cases one_eq hv
            obtain ⟨st, hst, hs⟩ := evC_sound hG ht hy hl
            refine go (m := goInt st.size) (by simp [Builtin.len_, run_underlying hu, hst]) ?_
            rw [size_of_str hs]; rfl
          · cases hv
        · rename_i n e y hu hy
          cases hc
          cases one_eq hv
          exact go (m := goInt n) (by simp [Builtin.len_, run_underlying hu]) rfl
        · rename_i e y hu hy
          cases hc
          simp only [IOp.val] at hv
          split at hv
          · rename_i hl
            cases one_eq hv
            have e1 : a.eval x = .slice none 0 0 := evC_sound hG ht hy hl
            exact go (m := goInt 0) (by simp [Builtin.len_, run_underlying hu, e1]) rfl
          · rename_i b o l cc z ex hl
            cases one_eq hv
            obtain ⟨L, off, c', hL, hx, _⟩ := evC_sound hG ht hy hl
            exact go (m := goInt l) (by simp [Builtin.len_, run_underlying hu, hx]) rfl
          · cases hv
        · rename_i k e y hu hy
          cases hc
          simp only [IOp.val] at hv
          split at hv
          · rename_i m hm
            split at hv
            · rename_i l hl
              cases one_eq hv
              rcases getMap_sound hr hl (evC_sound hG ht hy hm) with ⟨e1, rfl⟩ | ⟨r, es, clock, e1, hh, _, l', hp, hall⟩
              · exact go (m := goInt 0) (by simp [Builtin.len_, run_underlying hu, e1]) rfl
              · refine go (m := goInt es.size) (by simp only [Builtin.len_, List.getElem?_toArray, List.getElem?_cons_zero, Sem.run_bind, run_underlying hu, Result.andThen_ok, e1, run_getObj_map hh, Sem.run_pure]) ?_
                have h1 := hall.length
                have h2 := hp.length_eq
                have h3 : es.toList.length = es.size := Array.length_toList
                show CRel E _ _
                simp only [CRel, goInt]
                congr 1
                show (es.size : Int) = ((l.length : Nat) : Int)
                omega
            · cases hv
          · cases hv
        · rename_i ar y hu hy
          split at hc
          · rename_i n e hu2
            cases hc
            cases one_eq hv
            exact go (m := goInt n) (by simp [Builtin.len_, run_underlying hu, run_underlying hu2]) rfl
          · cases hc
        · cases hc
      · rename_i x t hargs htys
        have ha : c.args = #[x] := Array.ext' (by simpa using hargs)
        have hty : c.argTypes = #[t] := Array.ext' (by simpa using htys)
        split at hc
        · rename_i e y hu hy
          cases hc
          have go : ∀ {m : Value}, (Builtin.cap_ #[t] type #[a.eval x]).run P w = .ok m w → VRel E v m → ∃ y, (builtin .cap c.argTypes type (c.args.map fun | .const _ => true | _ => false) (c.args.map a.eval)).run P w = .ok (.value y) w ∧ VRel E v y := by
            intro m hm hv
            refine ⟨m, ?_, hv⟩
            rw [ha, hty]
            simp only [builtin]
            exact runv (by simpa using hm)
          simp only [IOp.val] at hv
          split at hv
          · rename_i hl
            cases one_eq hv
            have e1 : a.eval x = .slice none 0 0 := evC_sound hG ht hy hl
            exact go (m := goInt 0) (by simp [Builtin.cap_, run_underlying hu, e1]) rfl
          · rename_i b o l cc z hl
            cases one_eq hv
            obtain ⟨L, off, c', hL, hx, _, _, _, g4, _⟩ := evC_sound hG ht hy hl
            have := g4 rfl
            subst this
            exact go (m := goInt c') (by simp [Builtin.cap_, run_underlying hu, hx]) rfl
          · cases hv
        · cases hc
      · split at hc
        · split at hc
          · split at hc
            · obtain ⟨_, hc⟩ := cond_some hc; cases hc; simp [IOp.val] at hv
            · cases hc
          · cases hc
        · split at hc
          · split at hc
            · obtain ⟨_, hc⟩ := cond_some hc; cases hc; simp [IOp.val] at hv
            · cases hc
          · cases hc
        · split at hc
          · split at hc
            · obtain ⟨_, hc⟩ := cond_some hc; cases hc; simp [IOp.val] at hv
            · cases hc
          · cases hc
        · cases hc
      · split at hc
        · split at hc
          · cases hc; simp [IOp.val] at hv
          · cases hc
        · split at hc
          · cases hc; simp [IOp.val] at hv
          · cases hc
        · cases hc
      · split at hc
        · split at hc <;> cases hc <;> simp [IOp.val] at hv
        · cases hc
      · split at hc
        · cases hc; simp [IOp.val] at hv
        · split at hc
          · cases hc; simp [IOp.val] at hv
          · cases hc
        · cases hc
      · rename_i xs
        split at hc
        · rename_i ys hys
          cases hc
          simp only [IOp.val] at hv
          split at hv
          · rename_i k n l hl
            split at hv
            · rename_i r hrr
              cases one_eq hv
              have h := evCs_sound hG ht hys hl
              generalize hg : c.args.toList.map a.eval = vs at h
              cases h with
              | cons h1 h2 =>
                rename_i y vs'
                obtain ⟨ks, hk1, rfl⟩ := intsOf_sound hrr h2
                have h1 : y = .int k n := h1
                subst h1
                refine ⟨_, ?_, rfl⟩
                simp only [builtin]
                refine runv ?_
                simp only [Builtin.min_, Array.toList_map, hg]
                exact foldMin k r ks n hk1
            · cases hv
          · cases hv
        · cases hc
      · rename_i xs
        split at hc
        · rename_i ys hys
          cases hc
          simp only [IOp.val] at hv
          split at hv
          · rename_i k n l hl
            split at hv
            · rename_i r hrr
              cases one_eq hv
              have h := evCs_sound hG ht hys hl
              generalize hg : c.args.toList.map a.eval = vs at h
              cases h with
              | cons h1 h2 =>
                rename_i y vs'
                obtain ⟨ks, hk1, rfl⟩ := intsOf_sound hrr h2
                have h1 : y = .int k n := h1
                subst h1
                refine ⟨_, ?_, rfl⟩
                simp only [builtin]
                refine runv ?_
                simp only [Builtin.max_, Array.toList_map, hg]
                exact foldMax k r ks n hk1
            · cases hv
          · cases hv
        · cases hc
      · cases hc
    · split at hc <;> cases hc
      simp [IOp.val] at hv
    · split at hc <;> cases hc
      simp [IOp.val] at hv
    · split at hc <;> cases hc
      simp [IOp.val] at hv
  | go c => simp [cOp] at hc
  | defer c => simp [cOp] at hc
  | panic x => simp [cOp] at hc
  | send x y => simp [cOp] at hc
  | recv t x ok => simp [cOp] at hc
  | select cs b => simp [cOp] at hc

end
end Go.AX

namespace Go.AX
open Go

theorem eqL_symm : ∀ (a b : List Nat), eqL a b = eqL b a
  | [], [] => rfl
  | [], _ :: _ => rfl
  | _ :: _, [] => rfl
  | x :: a, y :: b => by
    simp only [eqL]
    rw [eqL_symm a b]
    cases h : Nat.beq x y
    · have : Nat.beq y x = false := by
        cases h' : Nat.beq y x
        · rfl
        · have := beq_true h'; subst this; rw [beq_rfl] at h; cases h
      rw [this]
    · have := beq_true h; subst this; rw [h]

theorem keyEq_symm {a b : C} {r : Bool} (h : keyEq a b = some r) : keyEq b a = some r := by
  cases a <;> cases b <;> simp only [keyEq] at h ⊢ <;> try (cases h; done)
  · split at h
    · rename_i e _
      subst e
      cases h
      split
      · rw [eqI_eq, eqI_eq]; congr 1; exact Bool.eq_iff_iff.2 ⟨fun h => by simpa using (by simpa using h : _ = _).symm, fun h => by simpa using (by simpa using h : _ = _).symm⟩
      · rename_i h _; exact absurd rfl h
    · cases h
  · rw [eqL_symm]; exact h

/-- The entry of a key, and what stands around it. -/
theorem mfind_split {ki : Bool} {k : C} (hk : keyOk ki k = true) : ∀ {l : List (C × A)} {u : A}, mfind k l = some (some u) → ∃ l1 l2, l = l1 ++ (k, u) :: l2 ∧ (∀ v, mset k v l = l1 ++ (k, v) :: l2) ∧ mdel k l = l1 ++ l2 ∧ (∀ p ∈ l1, keyEq k p.1 = some false)
  | [], u, h => by simp [mfind] at h
  | (d, w) :: l, u, h => by
    simp only [mfind] at h
    cases hke : keyEq k d with
    | none => rw [hke] at h; cases h
    | some b =>
      rw [hke] at h
      cases b with
      | true =>
        simp only at h
        cases h
        have := keyEq_true hk hke
        subst this
        exact ⟨[], l, rfl, fun v => by simp [mset, hke], by simp [mdel, hke], by simp⟩
      | false =>
        obtain ⟨l1, l2, h1, h2, h3, h4⟩ := mfind_split hk h
        subst h1
        refine ⟨(d, w) :: l1, l2, rfl, fun v => by simp [mset, hke, h2], by simp [mdel, hke, h3], fun p hp => ?_⟩
        rcases List.mem_cons.1 hp with rfl | hp
        · exact hke
        · exact h4 p hp

theorem mset_none {k : C} {v : A} : ∀ {l : List (C × A)}, mfind k l = some none → mset k v l = l ++ [(k, v)]
  | [], _ => rfl
  | (d, w) :: l, h => by
    simp only [mfind] at h
    cases hke : keyEq k d with
    | none => rw [hke] at h; cases h
    | some b =>
      rw [hke] at h
      cases b with
      | true => simp only at h; cases h
      | false => simp only at h; simp [mset, hke, mset_none h]
theorem mdel_none {k : C} : ∀ {l : List (C × A)}, mfind k l = some none → mdel k l = l
  | [], _ => rfl
  | (d, w) :: l, h => by
    simp only [mfind] at h
    cases hke : keyEq k d with
    | none => rw [hke] at h; cases h
    | some b =>
      rw [hke] at h
      cases b with
      | true => simp only at h; cases h
      | false => simp only at h; simp [mdel, hke, mdel_none h]

theorem keyed_iff (l : List (C × A)) : keyedOk l ↔ (∀ p ∈ l, keyOk true p.1 = true ∨ keyOk false p.1 = true) ∧ l.Pairwise (fun p q => keyEq p.1 q.1 = some false ∧ keyEq q.1 p.1 = some false) := by
  induction l with
  | nil => simp [keyedOk]
  | cons p l ih =>
    obtain ⟨k, v⟩ := p
    simp only [keyedOk, ih, List.mem_cons, forall_eq_or_imp, List.pairwise_cons]
    constructor
    · rintro ⟨h1, h2, h3, h4⟩; exact ⟨⟨h1, h3⟩, h2, h4⟩
    · rintro ⟨⟨h1, h3⟩, h2, h4⟩; exact ⟨h1, h2, h3, h4⟩

theorem keyOk_or {ki : Bool} {k : C} (h : keyOk ki k = true) : keyOk true k = true ∨ keyOk false k = true := by
  cases ki
  · exact .inr h
  · exact .inl h

theorem keyed_set {ki : Bool} {k : C} (hk : keyOk ki k = true) {l : List (C × A)} (hl : keyedOk l) {r : Option A} (hf : mfind k l = some r) (v : A) : keyedOk (mset k v l) := by
  rw [keyed_iff] at hl ⊢
  cases r with
  | none =>
    rw [mset_none hf]
    have hn := mfind_none hf
    refine ⟨fun p hp => ?_, ?_⟩
    · rcases List.mem_append.1 hp with hp | hp
      · exact hl.1 p hp
      · simp at hp; subst hp; exact keyOk_or hk
    · rw [List.pairwise_append]
      refine ⟨hl.2, by simp, fun p hp q hq => ?_⟩
      simp at hq; subst hq
      exact ⟨keyEq_symm (hn p hp), hn p hp⟩
  | some u =>
    obtain ⟨l1, l2, rfl, h2, _, _⟩ := mfind_split hk hf
    rw [h2 v]
    refine ⟨fun p hp => ?_, ?_⟩
    · rcases List.mem_append.1 hp with hp | hp
      · exact hl.1 p (by simp [hp])
      · rcases List.mem_cons.1 hp with rfl | hp
        · exact keyOk_or hk
        · exact hl.1 p (by simp [hp])
    · have h := hl.2
      rw [List.pairwise_append, List.pairwise_cons] at h ⊢
      obtain ⟨g1, ⟨g2, g3⟩, g4⟩ := h
      refine ⟨g1, ⟨fun q hq => g2 q hq, g3⟩, fun p hp q hq => ?_⟩
      rcases List.mem_cons.1 hq with rfl | hq
      · exact g4 p hp (k, u) (by simp)
      · exact g4 p hp q (by simp [hq])
theorem keyed_del {ki : Bool} {k : C} (hk : keyOk ki k = true) {l : List (C × A)} (hl : keyedOk l) {r : Option A} (hf : mfind k l = some r) : keyedOk (mdel k l) := by
  rw [keyed_iff] at hl ⊢
  cases r with
  | none => rw [mdel_none hf]; exact hl
  | some u =>
    obtain ⟨l1, l2, rfl, _, h3, _⟩ := mfind_split hk hf
    rw [h3]
    refine ⟨fun p hp => hl.1 p (by rcases List.mem_append.1 hp with hp | hp <;> simp [hp]), ?_⟩
    have h := hl.2
    rw [List.pairwise_append, List.pairwise_cons] at h
    rw [List.pairwise_append]
    obtain ⟨g1, ⟨g2, g3⟩, g4⟩ := h
    exact ⟨g1, g3, fun p hp q hq => g4 p hp q (by simp [hq])⟩

/-- In another order of the entries. -/
theorem perm_around {l1 l2 l' : List (C × A)} {p : C × A} {j : Nat} (hp : l'.Perm (l1 ++ p :: l2)) (hj : l'[j]? = some p) (q : C × A) :
    (l'.set j q).Perm (l1 ++ q :: l2) ∧ (l'.eraseIdx j).Perm (l1 ++ l2) := by
  have hlt : j < l'.length := (List.getElem?_eq_some_iff.1 hj).1
  have hpe : l'[j] = p := (List.getElem?_eq_some_iff.1 hj).2
  have e1 : l' = l'.take j ++ p :: l'.drop (j + 1) := by
    rw [← hpe, ← List.drop_eq_getElem_cons hlt, List.take_append_drop]
  have h1 : (p :: (l'.take j ++ l'.drop (j + 1))).Perm (p :: (l1 ++ l2)) := by
    refine List.Perm.trans ?_ (hp.trans List.perm_middle)
    conv => rhs; rw [e1]
    exact List.perm_middle.symm
  have h2 := h1.cons_inv
  refine ⟨?_, ?_⟩
  · rw [List.set_eq_take_append_cons_drop, if_pos hlt]
    exact List.perm_middle.trans ((List.Perm.cons q h2).trans List.perm_middle.symm)
  · rw [List.eraseIdx_eq_take_drop_succ]
    exact h2

theorem all2_set {α β : Type} {R : α → β → Prop} : ∀ {l : List α} {m : List β}, All2 R l m → ∀ (j : Nat) {x : α} {y : β}, R x y → All2 R (l.set j x) (m.set j y)
  | _, _, .nil, j, _, _, _ => by simpa using .nil
  | _, _, .cons h ht, 0, _, _, hr => .cons hr ht
  | _, _, .cons h ht, j + 1, _, _, hr => .cons h (all2_set ht j hr)
theorem all2_erase {α β : Type} {R : α → β → Prop} : ∀ {l : List α} {m : List β}, All2 R l m → ∀ (j : Nat), All2 R (l.eraseIdx j) (m.eraseIdx j)
  | _, _, .nil, j => by simpa using .nil
  | _, _, .cons h ht, 0 => ht
  | _, _, .cons h ht, j + 1 => .cons h (all2_erase ht j)

section
variable {P : Program} {E : Env} {s : St} {w : World}

theorem sameBits_key {ki : Bool} {c d : C} (hk : keyOk ki c = true) (h : keyEq c d = some true) {x y : Value} (hx : CRel E c x) (hy : CRel E d y) : Instr.sameBits 10000 y x = true := by
  have := keyEq_true hk h
  subst this
  cases c <;> cases ki <;> simp [keyOk] at hk
  · simp only [CRel] at hx hy; subst hx; subst hy; simp [Instr.sameBits]
  · obtain ⟨s, rfl, hs⟩ := hx
    obtain ⟨u, rfl, hu⟩ := hy
    have : s = u := by
      obtain ⟨⟨a⟩⟩ := s
      obtain ⟨⟨b⟩⟩ := u
      congr 2
      have e : a.map (·.toNat) = b.map (·.toNat) := by rw [show a.map (·.toNat) = _ from hs, ← hu]
      exact (List.map_inj_right fun x y h => UInt8.toNat_inj.1 h).1 e
    subst this
    simp only [Instr.sameBits]
    rw [beq_toListBytes]
    simp

/-- A map is written anew. -/
theorem setMap_step (hr : Rel E s w) {b : Nat} {l l2 : List (C × A)} (hg : s.get b = some (.map l)) {L : Loc} (hL : E.loc b = some L) {es2 : Array MapEntry} {clock2 : Nat}
    (hk : keyedOk l2) (hp : ∃ l', l'.Perm l2 ∧ All2 (EntRel E) l' es2.toList) (hn : (es2.toList.map (·.born)).Nodup) (hb : ∀ e ∈ es2.toList, e.born < clock2) :
    (setObj L.blk (.map es2 clock2)).run P w = .ok () { w with heap := w.heap.setIfInBounds L.blk (.map es2 clock2) } ∧
    Step E s w E (s.put b (.map l2)) { w with heap := w.heap.setIfInBounds L.blk (.map es2 clock2) } := by
  obtain ⟨L', hL', es, clock, hh, hsh, hkd, _⟩ := hr.obj b _ hg
  rw [hL] at hL'; cases hL'
  have hlt : L.blk < w.heap.size := (Array.getElem?_eq_some_iff.1 hh).1
  have hheap : ∀ m, (w.heap.setIfInBounds L.blk (Go.Obj.map es2 clock2))[m]? = if m = L.blk then some (.map es2 clock2) else w.heap[m]? := by
    intro m
    by_cases hm : m = L.blk
    · subst hm; rw [if_pos rfl, Array.getElem?_setIfInBounds_self_of_lt hlt]
    · rw [if_neg hm, Array.getElem?_setIfInBounds_ne (fun e => hm e.symm)]
  refine ⟨by simp [setObj, Sem.run, hh], ?_⟩
  refine ⟨⟨fun b' o' hb' => ?_, fun b1 b2 o1 o2 L1 L2 h1 h2 e1 e2 e3 => ?_⟩, Nat.le_refl _, fun _ _ => rfl, rfl, fun m hm => ?_, fun m hm hl => ?_, by simp, rfl, rfl, rfl, rfl⟩
  · rw [St.get_put] at hb'
    by_cases hbb : b = b'
    · subst hbb
      rw [if_pos rfl] at hb'
      cases hb'
      exact ⟨L, hL, es2, clock2, by rw [hheap, if_pos rfl], hsh, hk, hp, hn, hb⟩
    · rw [if_neg hbb] at hb'
      obtain ⟨L2, hL2, ho2⟩ := hr.obj b' o' hb'
      refine ⟨L2, hL2, ho2.same ?_⟩
      rw [hheap, if_neg]
      intro e
      exact hbb (hr.inj b b' _ _ L L2 hg hb' hL hL2 e.symm)
  · have g : ∀ b3 o3, (s.put b (.map l2)).get b3 = some o3 → ∃ o4, s.get b3 = some o4 := by
      intro b3 o3 h3
      rw [St.get_put] at h3
      by_cases hb3 : b = b3
      · subst hb3; exact ⟨_, hg⟩
      · rw [if_neg hb3] at h3; exact ⟨_, h3⟩
    obtain ⟨o3, h3⟩ := g _ _ h1
    obtain ⟨o4, h4⟩ := g _ _ h2
    exact hr.inj b1 b2 o3 o4 L1 L2 h3 h4 e1 e2 e3
  · obtain ⟨b3, o3, L3, h3, e3, e4⟩ := hm
    right
    rw [St.get_put] at h3
    by_cases hb3 : b = b3
    · subst hb3; exact ⟨b, _, L3, hg, e3, e4⟩
    · rw [if_neg hb3] at h3; exact ⟨b3, o3, L3, h3, e3, e4⟩
  · show (w.heap.setIfInBounds L.blk (.map es2 clock2))[m]? = _
    rw [hheap, if_neg]
    intro e
    subst e
    exact hl ⟨b, _, L, hg, hL, rfl⟩

theorem mupd_sound (hr : Rel E s w) {t kt et : TypeId} {ty : TypeDesc} (hu : P.underlying t = some (.map kt et)) {ki : Bool} (hk : P.underlying kt = some ty) (hki : KindOk ki ty)
    {b : Nat} {k : C} {v : A} {x y z : Value} (hx : CRel E (.map b) x) (hy : CRel E k y) (hz : ARel E v z) (hko : keyOk ki k = true) {l : List (C × A)} (hg : s.get b = some (.map l)) {r : Option A} (hf : mfind k l = some r) :
    ∃ w', (Instr.mapUpdate t x y z).run P w = .ok () w' ∧ Step E s w E (s.put b (.map (mset k v l))) w' := by
  obtain ⟨L, hL, es, clock, hh, hsh, hkd, ⟨l', hp, ha⟩, hn, hb⟩ := hr.obj b _ hg
  obtain ⟨L', hL', rfl⟩ := hx
  rw [hL] at hL'; cases hL'
  have hf' := mfind_perm hp hkd hko hf
  have hfn := findNow_sound hko hki hy ha 0 hf'
  have hks := keyed_set hko hkd hf v
  cases r with
  | some u =>
    obtain ⟨j, en, h1, h2, h3, ⟨p, h4, h5⟩, _⟩ := hfn
    obtain ⟨l1, l2, hl, hset, _⟩ := mfind_split hko hf
    have hkp : p = (k, u) := by
      have hpm : p ∈ l := hp.mem_iff.1 (List.mem_of_getElem? h4)
      rcases keyed_mem hkd (show (k, u) ∈ l by rw [hl]; simp) hpm with e | e
      · exact e.symm
      · simp only at e; rw [h5] at e; cases e
    subst hkp
    have hper := (perm_around (hl ▸ hp) h4 (k, v)).1
    have hjlt : j < es.size := by have := (List.getElem?_eq_some_iff.1 h1).1; rwa [Array.length_toList] at this
    have hes : (es.modify j fun e => { e with key := y, val := z }).toList = es.toList.set j { en with key := y, val := z } := by
      rw [Array.toList_modify]
      apply List.ext_getElem?
      intro i
      rw [List.getElem?_modify, List.getElem?_set]
      by_cases hij : j = i
      · subst hij
        rw [if_pos rfl, if_pos (by rwa [Array.length_toList]), h1]; simp
      · rw [if_neg hij]
        simp [hij]
    have hborn : (es.modify j fun e => { e with key := y, val := z }).toList.map (·.born) = es.toList.map (·.born) := by
      rw [hes, List.map_set]
      apply List.ext_getElem?
      intro i
      rw [List.getElem?_set]
      by_cases hij : j = i
      · subst hij
        rw [if_pos rfl, if_pos (by simpa using hjlt), List.getElem?_map, h1]; rfl
      · rw [if_neg hij]
    obtain ⟨g1, g2⟩ := setMap_step (P := P) hr hg hL (es2 := es.modify j fun e => { e with key := y, val := z }) (clock2 := clock) hks
      ⟨l'.set j (k, v), by rw [hset v]; exact hper, by rw [hes]; exact all2_set ha j ⟨hy, hz⟩⟩ (by rw [hborn]; exact hn)
      (fun e he => by
        have hm : e.born ∈ (es.modify j fun e => { e with key := y, val := z }).toList.map (·.born) := List.mem_map.2 ⟨e, he, rfl⟩
        rw [hborn] at hm
        obtain ⟨e', he', hee⟩ := List.mem_map.1 hm
        rw [← hee]; exact hb e' he')
    refine ⟨_, ?_, g2⟩
    have hjs : es[j]? = some en := by rw [← Array.getElem?_toList]; exact h1
    have hkts : (Instr.keyThatStays (((es[0 + j]?).map (·.key)).getD y) y).run P w = .ok y w := by
      unfold Instr.keyThatStays
      rw [Nat.zero_add, hjs]
      simp only [Option.map_some, Option.getD_some]
      have hent : CRel E k en.key := by
        obtain ⟨e', he', hre⟩ := ha.get h4
        rw [h1] at he'; cases he'; exact hre.1
      rw [if_pos (sameBits_key hko (keyEq_self hko) hy hent)]
      rfl
    unfold Instr.mapUpdate
    simp only [Sem.run_bind, run_underlying hu, Result.andThen_ok, run_getObj_map hh, checkKey_run hko hk hki hy, findKey_run (w := w) hk h2, hkts]
    rw [Nat.zero_add]
    exact g1
  | none =>
    rw [mset_none hf]
    rw [mset_none hf] at hks
    obtain ⟨g1, g2⟩ := setMap_step (P := P) hr hg hL (es2 := es.push { key := y, val := z, born := clock }) (clock2 := clock + 1) hks
      ⟨l' ++ [(k, v)], hp.append_right _, by rw [Array.toList_push]; exact ha.append (.cons ⟨hy, hz⟩ .nil)⟩
      (by
        rw [Array.toList_push, List.map_append, List.nodup_append]
        refine ⟨hn, by simp, fun x hx y hy => ?_⟩
        simp at hy; subst hy
        obtain ⟨e', he', rfl⟩ := List.mem_map.1 hx
        have := hb e' he'
        omega)
      (fun e he => by
        rw [Array.toList_push] at he
        rcases List.mem_append.1 he with he | he
        · have := hb e he; omega
        · simp at he; subst he; simp)
    refine ⟨_, ?_, g2⟩
    unfold Instr.mapUpdate
    simp only [Sem.run_bind, run_underlying hu, Result.andThen_ok, run_getObj_map hh, checkKey_run hko hk hki hy, findKey_run (w := w) hk hfn.1]
    exact g1

end
end Go.AX

namespace Go.AX
open Go

/-- What an operation comes to. -/
def Outc (P : Program) (Φ : Value → World → Prop) : Result Next → Prop
  | .ok (.value x) w => Φ x w
  | .ok .skip w => Φ undef w
  | .ok (.enter f args) w => Calls P f args w fun e w' => ∃ x, e = .returned x ∧ Φ x w'
  | _ => False

theorem Outc.mono {P : Program} {Φ Ψ : Value → World → Prop} (h : ∀ x w, Φ x w → Ψ x w) {r : Result Next} (hr : Outc P Φ r) : Outc P Ψ r := by
  cases r with
  | ok n w =>
    cases n <;> simp only [Outc] at hr ⊢ <;> first
      | exact h _ _ hr
      | exact Calls.mono hr fun e w' ⟨x, h1, h2⟩ => ⟨x, h1, h _ _ h2⟩
      | exact hr.elim
  | halt x w => exact hr

/-- What is left behind: the value, and memory. -/
def Left (E : Env) (s : St) (w : World) (v : V) (s' : St) (x : Value) (w' : World) : Prop := ∃ E', VRel E' v x ∧ Step E s w E' s' w'

def CallSound (P : Program) (call : Nat → List A → St → Option (V × St)) : Prop :=
  ∀ f args s v s', call f args s = some (v, s') → ∀ E w (xs : Array Value), Rel E s w → GOk P E → P.globals.size ≤ s.nx → Fresh E s.nx s'.nx → All2 (ARel E) args xs.toList →
    Outc P (Left E s w v s') ((callFunc f xs).run P w)

def MethSound (P : Program) (cfg : Cfg) : Prop :=
  ∀ t m f, cfg.meth t m = some f → ∃ i me e, P.info? t = some i ∧ i.methods.find? (·.name == m) = some me ∧ me.path = #[] ∧ me.func = some (f, true) ∧ P.underlying t = some (.pointer e)

section
variable {P : Program} {E : Env} {nt : Nat} {tm : Tm} {a : Act} {s : St} {w : World}

theorem delete_sound (hr : Rel E s w) {t kt et : TypeId} {ty : TypeDesc} (hu : P.underlying t = some (.map kt et)) {ki : Bool} (hk : P.underlying kt = some ty) (hki : KindOk ki ty)
    {b : Nat} {k : C} {x y : Value} (hx : CRel E (.map b) x) (hy : CRel E k y) (hko : keyOk ki k = true) {l : List (C × A)} (hg : s.get b = some (.map l)) {r : Option A} (hf : mfind k l = some r) (tys : Array TypeId) (h0 : tys[0]? = some t) (rt : TypeId) :
    ∃ w', (Builtin.delete_ tys rt #[x, y]).run P w = .ok (.tuple #[]) w' ∧ Step E s w E (s.put b (.map (mdel k l))) w' := by
  obtain ⟨L, hL, es, clock, hh, hsh, hkd, ⟨l', hp, ha⟩, hn, hb⟩ := hr.obj b _ hg
  obtain ⟨L', hL', rfl⟩ := hx
  rw [hL] at hL'; cases hL'
  have hf' := mfind_perm hp hkd hko hf
  have hfn := findNow_sound hko hki hy ha 0 hf'
  have hks := keyed_del hko hkd hf
  cases r with
  | some u =>
    obtain ⟨j, en, h1, h2, h3, ⟨p, h4, h5⟩, _⟩ := hfn
    obtain ⟨l1, l2, hl, _, hdel, _⟩ := mfind_split hko hf
    have hkp : p = (k, u) := by
      have hpm : p ∈ l := hp.mem_iff.1 (List.mem_of_getElem? h4)
      rcases keyed_mem hkd (show (k, u) ∈ l by rw [hl]; simp) hpm with e | e
      · exact e.symm
      · simp only at e; rw [h5] at e; cases e
    subst hkp
    have hper := (perm_around (hl ▸ hp) h4 (k, u)).2
    have hes : (es.eraseIdxIfInBounds j).toList = es.toList.eraseIdx j := by
      unfold Array.eraseIdxIfInBounds
      split
      · simp
      · rename_i hge
        rw [List.eraseIdx_of_length_le (by rw [Array.length_toList]; omega)]
    have hmem : ∀ e, e ∈ (es.eraseIdxIfInBounds j).toList → e ∈ es.toList := fun e he => by rw [hes] at he; exact List.mem_of_mem_eraseIdx he
    obtain ⟨g1, g2⟩ := setMap_step (P := P) hr hg hL (es2 := es.eraseIdxIfInBounds j) (clock2 := clock) hks
      ⟨l'.eraseIdx j, by rw [hdel]; exact hper, by rw [hes]; exact all2_erase ha j⟩
      (by rw [hes]; exact hn.sublist ((List.eraseIdx_sublist _ _).map _)) (fun e he => hb e (hmem e he))
    refine ⟨_, ?_, g2⟩
    unfold Builtin.delete_
    simp only [h0, List.getElem?_toArray, List.getElem?_cons_zero, List.getElem?_cons_succ, Sem.run_bind, run_underlying hu, Result.andThen_ok, run_getObj_map hh, checkKey_run hko hk hki hy, findKey_run (w := w) hk h2]
    rw [Nat.zero_add, g1]
    rfl
  | none =>
    rw [mdel_none hf] at hks ⊢
    obtain ⟨g1, g2⟩ := setMap_step (P := P) hr hg hL (es2 := es) (clock2 := clock) hks ⟨l', hp, ha⟩ hn hb
    refine ⟨_, ?_, g2⟩
    unfold Builtin.delete_
    simp only [h0, List.getElem?_toArray, List.getElem?_cons_zero, List.getElem?_cons_succ, Sem.run_bind, run_underlying hu, Result.andThen_ok, run_getObj_map hh, checkKey_run hko hk hki hy, findKey_run (w := w) hk hfn.1]
    rw [g1]
    rfl

/-! ### Making memory -/
theorem all_range_get {α : Type} (n : Nat) (f : Nat → α) : ((Array.range n).map f).toList = (List.range n).map f := by simp

theorem rep_flat (z : List C) : ∀ n, (List.replicate n z).flatten = IOp.eff.rep z n
  | 0 => rfl
  | n + 1 => by rw [List.replicate_succ, List.flatten_cons, rep_flat z n]; rfl

theorem rep_length (z : List C) : ∀ n, (IOp.eff.rep z n).length = n * z.length
  | 0 => by simp [IOp.eff.rep]
  | n + 1 => by simp only [IOp.eff.rep, List.length_append, rep_length z n]; rw [Nat.add_mul]; omega

theorem rep_get (z : List C) : ∀ (n i : Nat), i < n * z.length → (IOp.eff.rep z n)[i]? = z[i % z.length]?
  | 0, i, h => by omega
  | n + 1, i, h => by
    simp only [IOp.eff.rep]
    by_cases hi : i < z.length
    · rw [List.getElem?_append_left hi, Nat.mod_eq_of_lt hi]
    · rw [List.getElem?_append_right (by omega), rep_get z n (i - z.length) (by rw [Nat.add_mul] at h; omega)]
      rw [Nat.mod_eq_sub_mod (a := i) (by omega)]

/-- The cells of a row of zeros, as the machine makes them. -/
theorem zeros_sound {z : List C} {zv : Array Value} (hz : All2 (CRel E) z zv.toList) (n : Nat) :
    All2 (CRel E) (IOp.eff.rep z n) ((Array.range (n * zv.size)).map (zv[· % zv.size]!)).toList := by
  have hl : z.length = zv.size := by simpa using hz.length
  refine All2.of_get (by rw [rep_length]; simp [hl]) fun i x y hx hy => ?_
  have hi : i < n * z.length := by have := (List.getElem?_eq_some_iff.1 hx).1; rwa [rep_length] at this
  rw [rep_get z n i hi] at hx
  obtain ⟨v, hv, hc⟩ := hz.get hx
  rw [Array.toList_map, Array.toList_range, List.getElem?_map, List.getElem?_range (by rw [← hl]; exact hi)] at hy
  simp only [Option.map_some, Option.some.injEq] at hy
  rw [hl, Array.getElem?_toList] at hv
  have hlt : i % zv.size < zv.size := (Array.getElem?_eq_some_iff.1 hv).1
  rw [getElem!_pos zv _ hlt] at hy
  rw [Array.getElem?_eq_getElem hlt] at hv
  cases hv
  rw [← hy]; exact hc

theorem zeroCells_eq (zero : Array Value) (n : Nat) : Builtin.zeroCells zero n = (Array.range (n * zero.size)).map (zero[· % zero.size]!) := rfl

end
end Go.AX

namespace Go.AX
open Go

section
variable {P : Program} {E : Env} {s : St} {w : World}

theorem drawn_self (w : World) : { w with drawn := w.drawn } = w := rfl

/-- Whether what is appended is a number of zeros. -/
def notNum (P : Program) (u : TypeId) : Prop := ∃ d, P.underlying u = some d ∧ ∀ k, d ≠ .int k

/-- How an append goes that has room. -/
theorem append_fits {t u e ty : TypeId} {i : TypeInfo} (hu : P.underlying t = some (.slice e)) (huu : notNum P u) (hi : P.info? e = some i) {base : Option Addr} {k c n : Nat} {y : Value} {ns : List Value}
    (hlen : (Builtin.lenOf y).run P w = .ok n w) (hnew : (Builtin.firstCells i.size n y).run P w = .ok ns.toArray w) (hfit : k + n ≤ c) {w' : World}
    (hst : match base with | some a => (storeCells (a.add (k * i.size)) ns).run P w = .ok () w' | none => w' = w) :
    (Builtin.append_ #[t, u] ty #[.slice base k c, y]).run P w = .ok (.slice base (k + n) c) w' := by
  obtain ⟨d, hd, hdi⟩ := huu
  have hsz : (sizeOf e).run P w = .ok i.size w := sizeT_run (by simp [sizeT, hi]) w
  unfold Builtin.append_
  simp only [List.getElem?_toArray, List.getElem?_cons_zero, List.getElem?_cons_succ, Sem.run_bind, run_underlying hu, Result.andThen_ok, hsz]
  simp only [run_underlying hd, Result.andThen_ok, Sem.run_pure]
  have hm : ((d matches .int _) : Bool) = false := by cases d <;> first | rfl | exact absurd rfl (hdi _)
  simp only [hm, Bool.false_eq_true, if_false, hlen, Result.andThen_ok, Bool.not_false, if_true, if_pos hfit, Sem.run_bind, hnew]
  cases base with
  | none => subst hst; simp
  | some a => simp [hst]

theorem append_grows {t u e ty : TypeId} {i : TypeInfo} {zv : Value} (hu : P.underlying t = some (.slice e)) (huu : notNum P u) (hi : P.info? e = some i) (hzv : i.zero = some zv) (hb : i.bytes ≠ 0)
    {base : Option Addr} {k c n : Nat} {y : Value} {old ns : List Value}
    (hlen : (Builtin.lenOf y).run P w = .ok n w) (hnew : ∀ q, (Builtin.firstCells i.size n y).run P { w with drawn := q } = .ok ns.toArray { w with drawn := q })
    (hold : ∀ q, (Builtin.firstCells i.size k (.slice base k c)).run P { w with drawn := q } = .ok old.toArray { w with drawn := q }) (hnf : ¬ k + n ≤ c) (hmax : (k + n) * i.bytes ≤ 1099511627776) :
    ∃ cap, k + n ≤ cap ∧ (Builtin.append_ #[t, u] ty #[.slice base k c, y]).run P w = .ok (.slice (some ⟨w.heap.size, 0, none⟩) (k + n) cap)
      { w with drawn := w.drawn + 1, heap := w.heap.push (.cells (old.toArray ++ ns.toArray ++ Builtin.zeroCells zv.cells (cap - (k + n))) e) } := by
  obtain ⟨d, hd, hdi⟩ := huu
  have hsz : ∀ w : World, (sizeOf e).run P w = .ok i.size w := sizeT_run (by simp [sizeT, hi])
  have hti : ∀ w : World, (typeInfo e).run P w = .ok i w := run_typeInfo' hi
  have hzr : ∀ w : World, (zeroValue e).run P w = .ok zv w := fun w => by simp [zeroValue, run_typeInfo' hi, hzv]
  have hge := growslice_fits (need := k + n) (old := c) (bytes := i.bytes) (by omega) (by omega)
  have hmx : ¬ (((k + n : Nat) : Int) > IntKind.i64.max) := by
    have h1 : IntKind.i64.max = 9223372036854775807 := rfl
    have h2 : k + n ≤ (k + n) * i.bytes := Nat.le_mul_of_pos_right _ (by omega)
    omega
  refine ⟨k + n + w.tape w.drawn (.appendCap (k + n) c e) % (2 ^ 63 - (k + n)), by omega, ?_⟩
  unfold Builtin.append_
  simp only [List.getElem?_toArray, List.getElem?_cons_zero, List.getElem?_cons_succ, Sem.run_bind, run_underlying hu, Result.andThen_ok, hsz]
  simp only [run_underlying hd, Result.andThen_ok, Sem.run_pure]
  have hm : ((d matches .int _) : Bool) = false := by cases d <;> first | rfl | exact absurd rfl (hdi _)
  simp only [hm, Bool.false_eq_true, if_false, hlen, Result.andThen_ok, Bool.not_false, if_true, if_neg hnf, Sem.run_bind]
  simp only [hti, Result.andThen_ok]
  rw [Sem.run_ite, if_neg (fun h => hmx h.1)]
  simp only [Sem.run_bind, hti, Result.andThen_ok]
  rw [Sem.run_ite, if_neg (by omega)]
  simp only [Sem.run_bind, run_choose, Question.forced, Bool.false_eq_true, if_false, Result.andThen_ok, hti, run_askRoom, hold, hnew, hzr, Sem.run_pure, newRow, run_newObj, Question.cut]

end
end Go.AX

namespace Go.AX
open Go

section
variable {P : Program} {E : Env} {s : St} {w : World}

theorem zeroT_zero {e : TypeId} {z : A} (h : zeroT P e = some z) : ∃ i zv, P.info? e = some i ∧ i.zero = some zv ∧ ∀ E, ARel E z zv := by
  unfold zeroT at h
  split at h
  · rename_i i hi
    split at h
    · rename_i v hv; exact ⟨i, v, hi, hv, fun E => cA_sound h⟩
    · cases h
  · cases h

theorem firstCells_old (hr : Rel E s w) {b o k m size : Nat} {d : C} {t : Sg} {f : Bool} (hg : s.get b = some (.cells m d t f)) {L : Loc} (hL : E.loc b = some L) {off : Nat} (hoff : 0 < k → off = o + L.sh) (hk : k = 0 ∨ o + k * size ≤ m) (c : Nat) :
    ∃ vs : List Value, All2 (CRel E) (tgetN d t o (k * size)) vs ∧ ∀ w' : World, w'.heap = w.heap → (Builtin.firstCells size k (.slice (some ⟨L.blk, off, none⟩) k c)).run P w' = .ok vs.toArray w' := by
  by_cases hk0 : k = 0
  · subst hk0
    refine ⟨[], by rw [Nat.zero_mul, List.eq_nil_of_length_eq_zero (tgetN_length d t 0 o)]; exact .nil, fun w' _ => by simp [Builtin.firstCells, loadCells, loadCellsFrom]⟩
  · have hle : o + k * size ≤ m := hk.resolve_left hk0
    have hln : s.loadN b o (k * size) = some (tgetN d t o (k * size)) := by
      unfold St.loadN; rw [hg]; simp only [forceL_eq]; rw [show Nat.add o (k * size) = o + k * size from rfl, ble_of hle]; rfl
    obtain ⟨L', hL', _, vs, hrun, hvs⟩ := loadN_sound' (P := P) hr hln
    rw [hL] at hL'; cases hL'
    refine ⟨vs, hvs, fun w' hw' => ?_⟩
    simp only [Builtin.firstCells]
    rw [hoff (Nat.pos_of_ne_zero hk0)]
    exact hrun w' hw'

/-- What is appended, or copied: its cells. -/
def Src (P : Program) (E : Env) (w : World) (size n : Nat) (l : List C) (y : Value) : Prop :=
  (∀ w' : World, (Builtin.lenOf y).run P w' = .ok n w') ∧ l.length = n * size ∧ ∀ m, m ≤ n → ∃ vs : List Value, All2 (CRel E) (l.take (m * size)) vs ∧ ∀ w' : World, w'.heap = w.heap → (Builtin.firstCells size m y).run P w' = .ok vs.toArray w'

theorem loadN_take {b o k j : Nat} {l : List C} (h : s.loadN b o k = some l) (hj : j ≤ k) : s.loadN b o j = some (l.take j) := by
  have key : ∀ (d : C) (t : Sg) (n : Nat), (bif Nat.ble (Nat.add o k) n then some (tgetN d t o k) else none) = some l → (bif Nat.ble (Nat.add o j) n then some (tgetN d t o j) else none) = some (l.take j) := by
    intro d t n h
    obtain ⟨hle, h⟩ := cond_some h
    have hle : o + k ≤ n := ble_true hle
    have h : tgetN d t o k = l := Option.some.inj h
    rw [show Nat.add o j = o + j from rfl, ble_of (by omega), cond_true, ← h]
    congr 1
    apply List.ext_getElem?
    intro i
    rw [List.getElem?_take]
    by_cases hi : i < j
    · rw [if_pos hi, tgetN_get d t j o i hi, tgetN_get d t k o i (by omega)]
    · rw [if_neg hi, List.getElem?_eq_none (by rw [tgetN_length]; omega)]
  unfold St.loadN at *
  simp only [forceL_eq] at *
  split at h
  · exact key _ _ _ h
  · cases h
  · split at h
    · exact key _ _ _ h
    · cases h

theorem srcV_sound (hr : Rel E s w) {size : Nat} {c : C} {n : Nat} {l : List C} (h : srcV size s c = some (n, l)) {y : Value} (hy : CRel E c y) : Src P E w size n l y := by
  cases c <;> simp only [srcV] at h <;> try (cases h; done)
  · cases h
    simp only [CRel] at hy
    subst hy
    exact ⟨fun w' => by simp [Builtin.lenOf], by simp, fun m hm => ⟨[], by simpa using .nil, fun w' _ => by simp [Builtin.firstCells]⟩⟩
  · rename_i b o k c z ex
    obtain ⟨L, off, c', hL, rfl, g1, g2, g3, g4, g5⟩ := hy
    cases hk : Nat.beq k 0
    · rw [hk] at h
      simp only [cond_false] at h
      split at h
      · rename_i r hlr
        cases h
        have hkp : 0 < n := Nat.pos_of_ne_zero (beq_false hk)
        refine ⟨fun w' => by simp [Builtin.lenOf], (loadN_sound' (P := P) hr hlr).choose_spec.2.1, fun q hq => ?_⟩
        have hqs : q * size ≤ n * size := Nat.mul_le_mul_right _ hq
        by_cases hq0 : q = 0
        · subst hq0
          exact ⟨[], by simpa using .nil, fun w' _ => by simp [Builtin.firstCells, loadCells, loadCellsFrom]⟩
        · obtain ⟨L', hL', _, vs, hrun, hvs⟩ := loadN_sound' (P := P) hr (loadN_take hlr hqs)
          rw [hL] at hL'; cases hL'
          refine ⟨vs, hvs, fun w' hw' => ?_⟩
          simp only [Builtin.firstCells]
          rw [g1 (by omega)]
          exact hrun w' hw'
      · cases h
    · rw [hk] at h
      have := beq_true hk
      subst this
      cases h
      exact ⟨fun w' => by simp [Builtin.lenOf], by simp, fun m hm => ⟨[], by simpa using .nil, fun w' _ => by
        obtain rfl : m = 0 := by omega
        simp [Builtin.firstCells, loadCells, loadCellsFrom]⟩⟩

theorem byteCells_length : ∀ (l : List Nat), (byteCells l).length = l.length
  | [] => rfl
  | _ :: l => by simp [byteCells, byteCells_length l]
theorem byteCells_take : ∀ (l : List Nat) (m : Nat), (byteCells l).take m = byteCells (l.take m)
  | [], m => by simp [byteCells]
  | _ :: l, 0 => rfl
  | _ :: l, m + 1 => by simp [byteCells, byteCells_take l m]
theorem byteCells_sound (bs : List UInt8) : All2 (CRel E) (byteCells (bs.map (·.toNat))) (bs.map fun b => .int .u8 b.toNat) := by
  induction bs with
  | nil => exact .nil
  | cons b bs ih => exact .cons rfl ih

theorem srcS_sound {l : List Nat} {y : Value} (hy : CRel E (.str l) y) : Src P E w 1 l.length (byteCells l) y := by
  obtain ⟨st, rfl, hs⟩ := hy
  refine ⟨fun w' => by simp [Builtin.lenOf, size_of_str hs], by rw [byteCells_length]; omega, fun m hm => ⟨(st.data.toList.take m).map fun b => .int .u8 b.toNat, ?_, fun w' _ => ?_⟩⟩
  · rw [Nat.mul_one, byteCells_take, ← hs, ← List.map_take]
    exact byteCells_sound _
  · simp only [Builtin.firstCells, Sem.run_pure]
    congr 1
    apply Array.ext'
    obtain ⟨⟨x⟩⟩ := st
    rw [show (ByteArray.mk ⟨x⟩ : ByteArray) = ByteArray.mk x.toArray from rfl, ByteArray.extract_mk]
    simp

/-- Something is forgotten. -/
theorem del_step (hr : Rel0 E s w) (b : Nat) : Step E s w E (s.del b) w := by
  have g : ∀ b' o, (s.del b).get b' = some o → s.get b' = some o := by
    intro b' o h
    rw [St.get_del] at h
    split at h
    · cases h
    · exact h
  exact ⟨⟨fun b' o hb' => hr.obj b' o (g _ _ hb'), fun b1 b2 o1 o2 L1 L2 h1 h2 => hr.inj b1 b2 o1 o2 L1 L2 (g _ _ h1) (g _ _ h2)⟩, Nat.le_refl _, fun _ _ => rfl, rfl,
    fun n ⟨b3, o3, L3, h3, e⟩ => .inr ⟨b3, o3, L3, g _ _ h3, e⟩, fun _ _ _ => rfl, Nat.le_refl _, rfl, rfl, rfl, rfl⟩

/-- A new row, with cells behind it of which nothing is known. -/
theorem newRow_ext {el : TypeId} {rest : Array Value} (hr : Rel0 E s w) (hf : E.loc s.nx = none) (l : List C) (vs : List Value) (h : All2 (CRel E) l vs) (str : Bool) :
    Step E s w (E.add s.nx ⟨w.heap.size, 0, vs.length + rest.size⟩) (s.new (.row l str)) { w with heap := w.heap.push (.cells (vs.toArray ++ rest) el) } := by
  have hle := Env.le_add (L := ⟨w.heap.size, 0, vs.length + rest.size⟩) hf
  refine new_step hr hf _ _ _ ⟨vs.toArray ++ rest, el, (0, 0), by simp, by simp, by rw [h.length]; simp, fun i hi => ?_, .inl rfl, fun _ => by simp⟩
  have hi' : i < l.length := hi
  have hv : i < vs.length := by rw [← h.length]; exact hi'
  obtain ⟨y, hy, hcy⟩ := h.get (List.getElem?_eq_getElem hi')
  refine ⟨y, ?_, ?_⟩
  · have e1 : (vs.toArray ++ rest)[i]? = vs[i]? := by rw [Array.getElem?_append_left (by simpa using hv)]; simp
    rw [Nat.add_zero, e1, hy]
  · rw [tget_setN, if_pos (by simpa using hi')]
    simp only [Nat.sub_zero, List.getD_eq_getElem?_getD, List.getElem?_eq_getElem hi', Option.getD_some]
    exact hcy.mono hle

/-- Cells are written that nothing here may know of. -/
theorem rawStore {blk off : Nat} {el : TypeId} {fr : Nat × Nat} : ∀ (ns : List Value) (i : Nat) {w : World} {cs : Array Value}, (∀ v ∈ ns, v.oneCell' = true) → w.heap[blk]? = some (.cells cs el fr) → off + i + ns.length ≤ cs.size →
    (∀ j, j < cs.size → ¬ (fr.1 ≤ j ∧ j < fr.2)) → ∃ w' cs', (storeCells ⟨blk, off, none⟩ ns i).run P w = .ok () w' ∧ w'.heap[blk]? = some (.cells cs' el fr) ∧ cs'.size = cs.size ∧
      (∀ j : Nat, cs'[j]? = if off + i ≤ j ∧ j < off + i + ns.length then ns[j - (off + i)]? else cs[j]?) ∧ (∀ m, m ≠ blk → w'.heap[m]? = w.heap[m]?) ∧ w'.heap.size = w.heap.size ∧ w'.os = w.os ∧ w'.output = w.output ∧ w'.tape = w.tape
  | [], i, w, cs, _, hh, _, _ => ⟨w, cs, by simp [storeCells], hh, rfl, fun j => by rw [if_neg (by simp only [List.length_nil]; omega)], fun _ _ => rfl, rfl, rfl, rfl, rfl⟩
  | v :: ns, i, w, cs, hone, hh, hle, hfr => by
    simp only [List.length_cons] at hle
    have hlt : off + i < cs.size := by omega
    have hcell : w.cell? ⟨blk, off + i, none⟩ = some cs[off + i] := by simp [World.cell?, hh, hlt]
    have hfz : w.frozen? ⟨blk, off + i, none⟩ = false := by
      have := hfr (off + i) hlt
      simp only [World.frozen?, hh]
      simp only [Bool.and_eq_false_iff, decide_eq_false_iff_not]
      omega
    have hheap : ∀ m, (w.setCell ⟨blk, off + i, none⟩ v).heap[m]? = if m = blk then some (.cells (cs.setIfInBounds (off + i) v) el fr) else w.heap[m]? := by
      intro m
      simp only [World.setCell, Array.getElem?_modify]
      by_cases hm : blk = m
      · subst hm; simp [hh]
      · rw [if_neg hm, if_neg (fun e => hm e.symm)]
    have hrun : (Go.store ⟨blk, off + i, none⟩ v).run P w = .ok () (w.setCell ⟨blk, off + i, none⟩ v) := by
      rw [run_store P w _ v .plain (hone v (List.mem_cons_self ..)), hcell]; simp [hfz]
    obtain ⟨w', cs', h1, h2, h3, h4, h5, h6, h7, h8, h9⟩ := rawStore (blk := blk) (off := off) ns (i + 1) (w := w.setCell ⟨blk, off + i, none⟩ v) (cs := cs.setIfInBounds (off + i) v) (fun x hx => hone x (List.mem_cons_of_mem _ hx)) (by rw [hheap, if_pos rfl])
      (by rw [Array.size_setIfInBounds]; omega) (fun j hj => hfr j (by simpa using hj))
    refine ⟨w', cs', ?_, h2, by rw [h3]; simp, fun j => ?_, fun m hm => ?_, by rw [h6]; simp [World.setCell], h7, h8, h9⟩
    · simp only [storeCells, Sem.run_bind, Addr.add_none, hrun, Result.andThen_ok]
      exact h1
    · rw [h4]
      by_cases hj : j = off + i
      · subst hj
        rw [if_neg (by omega), if_pos (by simp), Array.getElem?_setIfInBounds_self_of_lt hlt]
        simp
      · by_cases hr : off + (i + 1) ≤ j ∧ j < off + (i + 1) + ns.length
        · rw [if_pos hr, if_pos (by simp only [List.length_cons]; omega)]
          have : j - (off + i) = (j - (off + (i + 1))) + 1 := by omega
          rw [this]; simp
        · rw [if_neg hr, if_neg (by simp only [List.length_cons]; omega), Array.getElem?_setIfInBounds_ne (by omega)]
    · rw [h5 m hm, hheap, if_neg hm]

/-- An append that finds room of which nothing was known. -/
theorem inPlace_step (hr : Rel0 E s w) (hnx : E.loc s.nx = none) (hnn : ∀ b', (∃ o, s.get b' = some o) → b' ≠ s.nx) {b m : Nat} {d : C} {t : Sg} {f : Bool} (hg : s.get b = some (.cells m d t f)) {L : Loc} (hL : E.loc b = some L)
    {o off k size n : Nat} (hoff : 0 < k → off = o + L.sh) (hor : k = 0 ∨ o + k * size ≤ m) {l : List C} {ns : List Value} (hns : All2 (CRel E) l ns) (hl : l.length = n * size) (hroom : off + (k + n) * size ≤ L.room) :
    ∃ w', (storeCells ⟨L.blk, off + k * size, none⟩ ns).run P w = .ok () w' ∧ Step E s w (E.add s.nx ⟨L.blk, off, L.room⟩) ((s.del b).new (.row (tgetN d t o (k * size) ++ l) true)) w' := by
  have hle := Env.le_add (L := ⟨L.blk, off, L.room⟩) hnx
  obtain ⟨L', hL', cs, el, fr, hh, hs, hn, hc, hf0, hf2⟩ := hr.obj b _ hg
  rw [hL] at hL'; cases hL'
  have hf : ∀ i, i < L.room → ¬ (fr.1 ≤ i ∧ i < fr.2) := fun i hi => by rcases hf0 with h | h <;> omega
  have hnl : ns.length = n * size := by rw [← hns.length, hl]
  have hone : ∀ v ∈ ns, v.oneCell' = true := by
    intro v hv
    obtain ⟨j, hj⟩ := List.getElem?_of_mem hv
    have : j < l.length := by rw [hns.length]; exact (List.getElem?_eq_some_iff.1 hj).1
    obtain ⟨y, hy, hcy⟩ := hns.get (List.getElem?_eq_getElem this)
    rw [hj] at hy; cases hy
    exact hcy.one
  have hmul : (k + n) * size = k * size + n * size := Nat.add_mul ..
  obtain ⟨w', cs', h1, h2, h3, h4, h5, h6, h7, h8, h9⟩ := rawStore (P := P) (blk := L.blk) (off := off + k * size) ns 0 hone hh (by omega) (by rw [hs]; exact hf)
  have gdel : ∀ b' o', (s.del b).get b' = some o' → b' ≠ b ∧ s.get b' = some o' := by
    intro b' o' h
    rw [St.get_del] at h
    split at h
    · cases h
    · rename_i hne; exact ⟨fun e => hne e.symm, h⟩
  have gnew : ∀ b' o', ((s.del b).new (.row (tgetN d t o (k * size) ++ l) true)).get b' = some o' → (b' = s.nx ∧ o' = .row (tgetN d t o (k * size) ++ l) true) ∨ (b' ≠ s.nx ∧ b' ≠ b ∧ s.get b' = some o') := by
    intro b' o' h
    rw [St.get_new] at h
    split at h
    · rename_i e; cases h; exact .inl ⟨by simpa using e.symm, rfl⟩
    · rename_i hne
      obtain ⟨g1, g2⟩ := gdel b' o' h
      exact .inr ⟨fun e => hne (by simpa using e.symm), g1, g2⟩
  have eloc : ∀ b' L2, b' ≠ s.nx → (E.add s.nx ⟨L.blk, off, L.room⟩).loc b' = some L2 → E.loc b' = some L2 := by
    intro b' L2 hne h
    simp only [Env.add, if_neg hne] at h
    exact h
  refine ⟨w', h1, ⟨fun b' o' hb' => ?_, fun b1 b2 o1 o2 L1 L2 k1 k2 e1 e2 e3 => ?_⟩, by simp, fun b' hb' => ?_, rfl, fun q hq => ?_, fun q hq hl => ?_, by omega, h7, h8, h9, rfl⟩
  · rcases gnew b' o' hb' with ⟨rfl, rfl⟩ | ⟨g1, g2, g3⟩
    · refine ⟨⟨L.blk, off, L.room⟩, by simp [Env.add], cs', el, fr, h2, by rw [h3]; exact hs, ?_, fun i hi => ?_, hf0, fun h => by cases h⟩
      · simp only [List.length_append, tgetN_length]; omega
      · simp only [List.length_append, tgetN_length] at hi
        show ∃ x, cs'[i + off]? = some x ∧ _
        rw [tget_setN, if_pos (by simp only [List.length_append, tgetN_length]; omega), Nat.sub_zero, h4]
        by_cases hik : i < k * size
        · have hk0 : 0 < k := by
            rcases Nat.eq_zero_or_pos k with h | h
            · subst h; simp at hik
            · exact h
          have hoff := hoff hk0
          have hle' : o + k * size ≤ m := hor.resolve_left (by omega)
          obtain ⟨x, hx, hcx⟩ := hc (o + i) (by omega)
          refine ⟨x, ?_, ?_⟩
          · rw [if_neg (by omega)]
            rw [show i + off = o + i + L.sh by omega]
            exact hx
          · rw [List.getD_eq_getElem?_getD, List.getElem?_append_left (by rw [tgetN_length]; exact hik), tgetN_get _ _ _ _ _ hik]
            exact hcx.mono hle
        · have hli : i - k * size < l.length := by omega
          obtain ⟨y, hy, hcy⟩ := hns.get (List.getElem?_eq_getElem hli)
          refine ⟨y, ?_, ?_⟩
          · rw [if_pos (by rw [hnl]; constructor <;> omega)]
            rw [show i + off - (off + k * size + 0) = i - k * size by omega]
            exact hy
          · rw [List.getD_eq_getElem?_getD, List.getElem?_append_right (by rw [tgetN_length]; omega), tgetN_length, List.getElem?_eq_getElem hli]
            exact hcy.mono hle
    · obtain ⟨L2, hL2, ho2⟩ := hr.obj b' o' g3
      refine ⟨L2, hle.1 _ _ hL2, (ho2.mono hle).same (h5 _ fun e => ?_)⟩
      exact g2 (hr.inj b' b _ _ L2 L g3 hg hL2 hL e)
  · rcases gnew b1 o1 k1 with ⟨rfl, rfl⟩ | ⟨g1, g2, g3⟩
    · rcases gnew b2 o2 k2 with ⟨rfl, rfl⟩ | ⟨q1, q2, q3⟩
      · rfl
      · exfalso
        simp [Env.add] at e1
        subst e1
        exact q2 (hr.inj b2 b _ _ L2 L q3 hg (eloc _ _ q1 e2) hL e3.symm)
    · rcases gnew b2 o2 k2 with ⟨rfl, rfl⟩ | ⟨q1, q2, q3⟩
      · exfalso
        simp [Env.add] at e2
        subst e2
        exact g2 (hr.inj b1 b _ _ L1 L g3 hg (eloc _ _ g1 e1) hL e3)
      · exact hr.inj b1 b2 o1 o2 L1 L2 g3 q3 (eloc _ _ g1 e1) (eloc _ _ q1 e2) e3
  · simp only [Env.add]
    rw [if_neg]
    simp at hb'
    omega
  · obtain ⟨b3, o3, L3, k3, e3, e4⟩ := hq
    right
    rcases gnew b3 o3 k3 with ⟨rfl, rfl⟩ | ⟨g1, g2, g3⟩
    · simp [Env.add] at e3
      subst e3
      exact ⟨b, _, L, hg, hL, e4⟩
    · exact ⟨b3, o3, L3, g3, eloc _ _ g1 e3, e4⟩
  · refine h5 q fun e => ?_
    subst e
    exact hl ⟨b, _, L, hg, hL, rfl⟩

theorem appendTo_sound (hr : Rel E s w) {t u e ty : TypeId} {i : TypeInfo} {zv : Value} (hu : P.underlying t = some (.slice e)) (huu : notNum P u) (hi : P.info? e = some i) (hzv : i.zero = some zv) (hzs : zv.cells.size = i.size) (hb : i.bytes ≠ 0)
    {c : C} {n : Nat} {l : List C} {x y : Value} (hx : CRel E c x) (hsrc : Src P E w i.size n l y) {v : V} {s' : St} (h : appendTo i.size i.bytes n l s c = some (v, s')) (hf : Fresh E s.nx s'.nx) :
    ∃ x' w', (Builtin.append_ #[t, u] ty #[x, y]).run P w = .ok x' w' ∧ Left E s w v s' x' w' := by
  obtain ⟨hlen, hll, hcells⟩ := hsrc
  obtain ⟨ns, hns, hnew⟩ := hcells n (Nat.le_refl _)
  rw [← hll, List.take_length] at hns
  cases c <;> simp only [appendTo] at h <;> try (cases h; done)
  · -- a nil slice
    simp only [CRel] at hx
    subst hx
    cases hn : Nat.beq n 0
    · rw [hn] at h
      simp only [cond_false] at h
      obtain ⟨hmx, h⟩ := cond_some h
      cases h
      have hmx : n * i.bytes ≤ 1099511627776 := ble_true hmx
      have hnp := beq_false hn
      have hnx : E.loc s.nx = none := hf s.nx (Nat.le_refl _) (by simp)
      obtain ⟨cap, hcap, hrun⟩ := append_grows (P := P) (ty := ty) (k := 0) (c := 0) (base := none) (n := n) (y := y) (old := []) (ns := ns) hu huu hi hzv hb (hlen w) (fun q => hnew _ rfl) (fun q => by simp [Builtin.firstCells]) (by omega) (by rw [Nat.zero_add]; exact hmx)
      refine ⟨_, _, hrun, E.add s.nx ⟨w.heap.size, 0, ns.length + (cap - n) * zv.cells.size⟩, ?_, ?_⟩
      · have hnl : ns.length = n * i.size := by rw [← hns.length, hll]
        refine ⟨⟨w.heap.size, 0, ns.length + (cap - n) * zv.cells.size⟩, 0, cap, by simp [Env.add], by rw [Nat.zero_add], fun _ => by simp, Nat.le_refl _, by omega, fun h => (by cases h), fun _ => ?_⟩
        simp only [hzs, hnl, Nat.sub_mul]
        have : n * i.size ≤ cap * i.size := Nat.mul_le_mul_right _ (by omega)
        omega
      · have hst := newRow_ext (el := e) (rest := Builtin.zeroCells zv.cells (cap - (0 + n))) (Step.drawn hr (w.drawn + 1)).rel hnx l ns hns false
        have hsz : (Builtin.zeroCells zv.cells (cap - (0 + n))).size = (cap - n) * zv.cells.size := by simp [Builtin.zeroCells]
        rw [hsz] at hst
        have h2 := (Step.drawn hr (w.drawn + 1)).trans hst
        simpa using h2
    · rw [hn] at h
      cases h
      have := beq_true hn
      subst this
      exact ⟨_, w, append_fits (P := P) (ty := ty) (base := none) (k := 0) (c := 0) hu huu hi (hlen w) (hnew w rfl) (by omega) rfl, E, rfl, Step.refl hr⟩
  · rename_i b o k c z ex
    obtain ⟨L, off, c', hL, rfl, g1, g2, g3, g4, g5⟩ := hx
    cases hn : Nat.beq n 0
    · rw [hn] at h
      simp only [cond_false] at h
      obtain ⟨hz, h⟩ := cond_some h
      obtain rfl := beq_true hz
      have hnp := beq_false hn
      cases hfit : Nat.ble (Nat.add k n) c
      · -- no room that is known of
        rw [hfit] at h
        simp only [cond_false] at h
        obtain ⟨hmx, h⟩ := cond_some h
        have hmx : (k + n) * i.bytes ≤ 1099511627776 := ble_true hmx
        have hnfit : c < k + n := ble_false hfit
        split at h
        · rename_i m d tt f hg
          obtain ⟨hor, h⟩ := cond_some h
          cases h
          have hor' : k = 0 ∨ o + k * i.size ≤ m := by
            rw [Bool.or_eq_true] at hor
            rcases hor with h | h
            · exact .inl (beq_true h)
            · exact .inr (ble_true h)
          have hnx : E.loc s.nx = none := hf s.nx (Nat.le_refl _) (by cases ex <;> simp)
          obtain ⟨old, hold, hrunold⟩ := firstCells_old (P := P) hr hg hL (off := off) (fun hk => g1 (by omega)) hor' c'
          have hal := hold.append hns
          by_cases hroom : k + n ≤ c'
          · -- there is room all the same
            cases ex
            · have hroom2 : off + (k + n) * i.size ≤ L.room := by
                have h1 := g5 rfl
                have h2 : (k + n) * i.size ≤ c' * i.size := Nat.mul_le_mul_right _ hroom
                omega
              obtain ⟨w', hrun, hstep⟩ := inPlace_step (P := P) hr.toRel0 hnx (fun b' ⟨o', ho'⟩ e => by
                obtain ⟨L2, hL2, _⟩ := hr.obj b' o' ho'
                rw [e, hnx] at hL2; cases hL2) hg hL (fun hk => g1 (by omega)) hor' hns hll hroom2
              refine ⟨_, w', append_fits (P := P) (ty := ty) hu huu hi (hlen w) (hnew w rfl) hroom (by simp only; rw [Addr.add_none]; exact hrun), _, ?_, hstep⟩
              refine ⟨⟨L.blk, off, L.room⟩, off, c', by simp [Env.add], rfl, fun _ => by simp, Nat.le_refl _, hroom, fun h => (by cases h), fun _ => ?_⟩
              have h1 := g5 rfl
              exact h1
            · have := g4 rfl; omega
          · -- a new row
            obtain ⟨cap, hcap, hrun⟩ := append_grows (P := P) (ty := ty) (base := some ⟨L.blk, off, none⟩) hu huu hi hzv hb (hlen w) (fun q => hnew _ rfl) (fun q => hrunold _ rfl) hroom hmx
            have hpre : Step E s w E (bif ex then s else s.del b) { w with drawn := w.drawn + 1 } := by
              cases ex
              · exact (Step.drawn hr (w.drawn + 1)).trans (del_step (Step.drawn hr (w.drawn + 1)).rel b)
              · exact Step.drawn hr (w.drawn + 1)
            have hnx' : E.loc (bif ex then s else s.del b).nx = none := by cases ex <;> exact hnx
            have hst := newRow_ext (el := e) (rest := Builtin.zeroCells zv.cells (cap - (k + n))) hpre.rel hnx' _ _ hal (bif ex then false else true)
            have hsz : (Builtin.zeroCells zv.cells (cap - (k + n))).size = (cap - (k + n)) * zv.cells.size := by simp [Builtin.zeroCells]
            have hfull := hpre.trans hst
            have hnxe : (bif ex then s else s.del b).nx = s.nx := by cases ex <;> rfl
            refine ⟨_, _, hrun, _, ?_, by simpa using hfull⟩
            rw [hsz, hnxe]
            have hnl : (old ++ ns).length = (k + n) * i.size := by rw [← hal.length, List.length_append, tgetN_length, hll, Nat.add_mul]
            refine ⟨_, 0, cap, by simp [Env.add]; rfl, rfl, fun _ => by simp, Nat.le_refl _, by omega, fun h => (by cases h), fun _ => ?_⟩
            show 0 + cap * i.size ≤ old.length + ns.length + (cap - (k + n)) * zv.cells.size
            rw [← List.length_append, hzs, hnl, Nat.sub_mul]
            have : (k + n) * i.size ≤ cap * i.size := Nat.mul_le_mul_right _ (by omega)
            omega
        · cases h
      · -- there is room
        rw [hfit] at h
        simp only [cond_true] at h
        have hfit : k + n ≤ c := ble_true hfit
        split at h
        · rename_i s'' hst
          cases h
          have hoff := g1 (by omega)
          obtain ⟨w', hrun, hstep⟩ := storeN_sound (P := P) l ns (i := 0) hr.toRel0 (by simpa using hst) hns hL
          refine ⟨_, w', append_fits (P := P) (ty := ty) hu huu hi (hlen w) (hnew w rfl) (by omega) ?_, E, ?_, hstep⟩
          · simp only
            rw [Addr.add_none, hoff]
            have : o + L.sh + k * i.size = o + k * i.size + L.sh := by omega
            rw [this]
            exact hrun
          · exact ⟨L, off, c', hL, rfl, g1, by show k + n ≤ c; omega, g3, g4, g5⟩
        · cases h
    · rw [hn] at h
      cases h
      have := beq_true hn
      subst this
      refine ⟨_, w, append_fits (P := P) (ty := ty) (n := 0) hu huu hi (hlen w) (hnew w rfl) (by omega) ?_, E, ?_, Step.refl hr⟩
      · simp only
        have : ns = [] := by
          have := hns.length
          rw [hll, Nat.zero_mul] at this
          cases ns with | nil => rfl | cons _ _ => simp at this
        subst this
        simp [storeCells]
      · exact ⟨L, off, c', hL, by rw [Nat.add_zero], g1, g2, g3, g4, g5⟩

end
end Go.AX

namespace Go.AX
open Go

section
variable {P : Program} {E : Env} {nt : Nat} {tm : Tm} {a : Act} {s : St} {w : World}

theorem newRow_step' (hr : Rel E s w) (hf : E.loc s.nx = none) (l : List C) (cs : Array Value) (h : All2 (CRel E) l cs.toList) (el : TypeId) (str : Bool) :
    Step E s w (E.add s.nx ⟨w.heap.size, 0, cs.size⟩) (s.new (.row l str)) { w with heap := w.heap.push (.cells cs el) } := by
  have := newRow_step hr.toRel0 hf l cs.toList h el str
  simpa using this

theorem ptr_new (room : Nat) : VRel (E.add s.nx ⟨w.heap.size, 0, room⟩) (.a (.c (.ptr s.nx 0))) (.pointer (some ⟨w.heap.size, 0, none⟩)) :=
  ⟨⟨w.heap.size, 0, room⟩, by simp [Env.add], rfl⟩

theorem slice_new (room l c z : Nat) (hl : l ≤ c) : VRel (E.add s.nx ⟨w.heap.size, 0, room⟩) (.a (.c (.slice s.nx 0 l c z true))) (.slice (some ⟨w.heap.size, 0, none⟩) l c) :=
  ⟨⟨w.heap.size, 0, room⟩, 0, c, by simp [Env.add], rfl, fun _ => rfl, hl, Nat.le_refl _, fun _ => rfl, fun h => (by cases h)⟩

theorem allSame_spec : ∀ {l : List C} {z : C}, IOp.eff.allSame l = some z → ∀ c ∈ l, c = z
  | [], z, h => by simp [IOp.eff.allSame] at h
  | [y], z, h => by simp only [IOp.eff.allSame] at h; cases h; simp
  | y :: x :: l, z, h => by
    simp only [IOp.eff.allSame] at h
    split at h
    · rename_i q hq
      split at h
      · rename_i e _
        cases h
        have := allSame_spec hq
        intro c hc
        rcases List.mem_cons.1 hc with rfl | hc
        · rfl
        · rw [this c hc, e]
      · cases h
    · cases h

/-- A block all of whose cells hold one value. -/
theorem newSame_step (hr : Rel E s w) (hf : E.loc s.nx = none) (n : Nat) (z : C) (cs : Array Value) (hs : cs.size = n) (h : ∀ (i : Nat) (x : Value), cs[i]? = some x → CRel E z x) (el : TypeId) :
    Step E s w (E.add s.nx ⟨w.heap.size, 0, n⟩) (s.new (.cells n z .e false)) { w with heap := w.heap.push (.cells cs el) } := by
  have hle := Env.le_add (L := ⟨w.heap.size, 0, n⟩) hf
  refine new_step hr.toRel0 hf _ _ _ ⟨cs, el, (0, 0), by simp, hs, by simp, fun i hi => ?_, .inl rfl, fun _ => by simp⟩
  have hi' : i < cs.size := by omega
  refine ⟨cs[i], by simp [hi'], ?_⟩
  have : tget z .e i = z := by simp [tget]
  rw [this]
  exact (h i _ (Array.getElem?_eq_getElem hi')).mono hle

theorem wrap_i64 (n : Nat) (h : n ≤ 1099511627776) : IntKind.i64.wrap (Int.ofNat n) = n := by
  rw [← wrapF_eq]
  simp only [wrapF, wrapS]
  rw [blt_of (by omega)]
  rfl

theorem makeSlice_run {t e : TypeId} {i : TypeInfo} {zv : Value} (hu : P.underlying t = some (.slice e)) (hi : P.info? e = some i) (hzv : i.zero = some zv) (hzs : zv.cells.size = i.size) (hs0 : i.size ≠ 0) {kl kc : IntKind} {l c : Nat}
    (hb : i.bytes ≠ 0) (hlc : l ≤ c) (hmx : c * i.bytes ≤ 1099511627776) :
    (Instr.makeSlice t (.int kl (Int.ofNat l)) (.int kc (Int.ofNat c))).run P w = .ok (.slice (some ⟨w.heap.size, 0, none⟩) l c)
      { w with heap := w.heap.push (.cells ((Array.range (c * zv.cells.size)).map (zv.cells[· % zv.cells.size]!)) e) } := by
  have hcb : c ≤ c * i.bytes := Nat.le_mul_of_pos_right _ (by omega)
  have hc := wrap_i64 c (by omega)
  have hl := wrap_i64 l (by omega)
  have hbc : ¬ ((i.bytes : Int) * (c : Int) > 2 ^ 48) := by
    rw [← Int.natCast_mul, Nat.mul_comm]
    have h48 : (2 : Int) ^ 48 = 281474976710656 := rfl
    rw [h48]
    omega
  unfold Instr.makeSlice
  simp only [Sem.run_bind, run_underlying hu, Result.andThen_ok, asInt, asIntOf, Sem.run_pure, run_typeInfo' hi, hc, hl]
  rw [Sem.run_ite, if_neg]
  · simp only [Sem.run_bind, run_askRoom, Result.andThen_ok, sizeT_run (show sizeT P e = some i.size by simp [sizeT, hi]), Int.toNat_natCast]
    by_cases h0 : c * i.size = 0
    · have hc0 : c = 0 := by rcases Nat.mul_eq_zero.1 h0 with h | h; exact h; exact absurd h hs0
      subst hc0
      rw [if_pos (by simp)]
      simp only [Sem.run_pure, Result.andThen_ok, Sem.run_bind, newRow, run_newObj, Nat.zero_mul]
      have e0 : ∀ f : Nat → Value, (Array.range 0).map f = #[] := fun f => by simp
      rw [e0, e0]
    · rw [if_neg h0]
      simp [zeroValue, run_typeInfo' hi, hzv, newRow, hzs]
  · simp only [Bool.or_eq_true, decide_eq_true_eq, not_or]
    exact ⟨⟨⟨by omega, hbc⟩, by omega⟩, by omega⟩

set_option maxHeartbeats 1000000 in
/-- **The operations that make memory.** -/
theorem alloc_sound (cfg : Cfg) (call : Nat → List A → St → Option (V × St)) (hr : Rel E s w) (hG : GOk P E) (ht : TRel E nt tm a) {o : Oper} {iop : IOp} (hc : cOp P nt o.op = some iop) (hk : iop.kind = .alloc) {v : V} {s' : St}
    (hv : iop.eff cfg call tm s = some (v, s')) (hf : E.loc s.nx = none) :
    ∃ x w' room, (execOp a.eval o).run P w = .ok (.value x) w' ∧ VRel (E.add s.nx ⟨w.heap.size, 0, room⟩) v x ∧ Step E s w (E.add s.nx ⟨w.heap.size, 0, room⟩) s' w' := by
  have up : ∀ {m : Sem Value}, (∃ x w' room, m.run P w = .ok x w' ∧ VRel (E.add s.nx ⟨w.heap.size, 0, room⟩) v x ∧ Step E s w (E.add s.nx ⟨w.heap.size, 0, room⟩) s' w') →
      ∃ x w' room, (do pure (Next.value (← m)) : Sem Next).run P w = .ok (.value x) w' ∧ VRel (E.add s.nx ⟨w.heap.size, 0, room⟩) v x ∧ Step E s w (E.add s.nx ⟨w.heap.size, 0, room⟩) s' w' :=
    fun ⟨x, w', r, h1, h2⟩ => ⟨x, w', r, runv h1, h2⟩
  obtain ⟨dst, op, type, pos, after, guard⟩ := o
  simp only at hc
  cases op with
  | alloc e =>
    simp only [cOp] at hc
    split at hc
    · rename_i z hz
      cases hc
      simp only [IOp.eff] at hv
      cases hv
      obtain ⟨zv, hzr, hze⟩ := zeroT_run hz
      refine up ⟨.pointer (some ⟨w.heap.size, 0, none⟩), _, zv.cells.size, ?_, ptr_new _, newRow_step' hr hf _ _ (hze E).cells e false⟩
      simp [Instr.alloc, hzr, newVar, newRow]
    · cases hc
  | box e x =>
    obtain ⟨y, hy, rfl⟩ := map_eq_some' hc
    simp only [IOp.eff] at hv
    split at hv
    · rename_i b hb
      cases hv
      refine up ⟨.pointer (some ⟨w.heap.size, 0, none⟩), _, _, ?_, ptr_new _, newRow_step' hr hf _ _ (evA_sound hG ht hy hb).cells e false⟩
      simp [Instr.box, newVar, newRow]
    · cases hv
  | buildSlice t n ps =>
    simp only [cOp] at hc
    split at hc
    · rename_i e hu
      split at hc
      · rename_i z sz hz hsz
        obtain ⟨hcond, hc⟩ := cond_some hc
        rw [Bool.and_eq_true] at hcond
        have hzl : z.cells.length = sz := by simpa using hcond.1
        have hle : n * sz ≤ 16777216 := by simpa using hcond.2
        split at hc
        · rename_i l hl
          cases hc
          simp only [IOp.eff] at hv
          split at hv
          · rename_i l' hl'
            cases hv
            obtain ⟨zv, hzr, hze⟩ := zeroT_run hz
            have hzc := (hze E).cells
            have hzvs : zv.cells.size = sz := by rw [← hzl]; simpa using hzc.length.symm
            have hz0 := zeros_sound hzc n
            rw [rep_flat] at hl'
            obtain ⟨cells', h1, h2⟩ := fill_sound hG ht (fun i => some (i * sz, sz)) (fun i => some (i * sz, sz)) (fun i x hx => hx) hl hz0 hl'
            refine up ⟨.slice (some ⟨w.heap.size, 0, none⟩) n n, _, cells'.size, ?_, slice_new _ _ _ _ (Nat.le_refl _), newRow_step' hr hf _ _ h2 e false⟩
            have epl : (ps.map fun (i, x) => (i, a.eval x)).toList = ps.toList.map fun (i, x) => (i, a.eval x) := by simp
            unfold Instr.buildSlice
            simp only [Sem.run_bind, run_underlying hu, Result.andThen_ok, sizeT_run hsz]
            rw [Sem.run_ite, if_neg (by have : (2 : Nat) ^ 24 = 16777216 := rfl; omega)]
            by_cases h0 : n * sz = 0
            · have e1 : ((Array.range (n * zv.cells.size)).map (zv.cells[· % zv.cells.size]!)) = #[] := by rw [hzvs, h0]; simp
              rw [e1] at h1
              simp only [if_pos h0, Sem.run_bind, Sem.run_pure, Result.andThen_ok]
              rw [h0, epl]
              have e2 : ((Array.range 0).map fun i => (#[] : Array Value)[i % (#[] : Array Value).size]!) = #[] := by simp
              rw [e2, h1]
              simp [newRow]
            · rw [hzvs] at h1
              simp only [if_neg h0, Sem.run_bind, hzr, Sem.run_pure, Result.andThen_ok]
              rw [epl, hzvs, h1]
              simp [newRow]
          · cases hv
        · cases hc
      · cases hc
    · cases hc
  | makeMap t r =>
    cases r with
    | none =>
      simp only [cOp] at hc
      split at hc
      · rename_i kt e hu
        cases hc
        simp only [IOp.eff] at hv
        cases hv
        refine up ⟨.map (some w.heap.size), _, 0, ?_, ⟨⟨w.heap.size, 0, 0⟩, by simp [Env.add], rfl⟩, new_step hr.toRel0 hf (.map []) (.map #[] 0) 0 ⟨#[], 0, by simp, rfl, trivial, ⟨[], List.Perm.refl _, .nil⟩, by simp, by simp⟩⟩
        simp [Instr.makeMap]
      · cases hc
    | some r => simp [cOp] at hc
  | makeSlice t l c =>
    simp only [cOp] at hc
    split at hc
    · rename_i e hu
      split at hc
      · rename_i z i l' c' hz hi hl hcc
        obtain ⟨hcond, hc⟩ := cond_some hc
        simp only [Bool.and_eq_true, bne_iff_ne, ne_eq] at hcond
        obtain ⟨⟨hzl, hs0⟩, hb0⟩ := hcond
        have hzl : z.cells.length = i.size := by simpa using hzl
        cases hc
        simp only [IOp.eff] at hv
        split at hv
        · rename_i ln cn h1 h2
          obtain ⟨hcond, hv⟩ := cond_some hv
          rw [Bool.and_eq_true] at hcond
          have hle : ln ≤ cn := ble_true hcond.1
          have hmx : cn * i.bytes ≤ 1099511627776 := ble_true hcond.2
          obtain ⟨kl, e1⟩ := evI_sound hG ht hl h1
          obtain ⟨kc, e2⟩ := evI_sound hG ht hcc h2
          obtain ⟨i', zv, hi', hzv, hze⟩ := zeroT_zero hz
          rw [hi] at hi'; cases hi'
          have hzc := (hze E).cells
          have hzvs : zv.cells.size = i.size := by rw [← hzl]; simpa using hzc.length.symm
          have hrun := makeSlice_run (P := P) (w := w) (kl := kl) (kc := kc) hu hi hzv hzvs hs0 hb0 hle hmx
          rw [← e1, ← e2] at hrun
          have hz0 := zeros_sound hzc cn
          have hsame : ∀ z1, (∀ c ∈ z.cells, c = z1) → ∀ (j : Nat) (x : Value), ((Array.range (cn * zv.cells.size)).map (zv.cells[· % zv.cells.size]!))[j]? = some x → CRel E z1 x := by
            intro z1 hz1 j x hx
            have hlen := hz0.length
            simp only [Array.length_toList] at hlen
            have hj : j < (IOp.eff.rep z.cells cn).length := by rw [hlen]; exact (Array.getElem?_eq_some_iff.1 hx).1
            obtain ⟨y, hy, hcy⟩ := hz0.get (List.getElem?_eq_getElem hj)
            rw [Array.getElem?_toList, hx] at hy
            cases hy
            have hmem : (IOp.eff.rep z.cells cn)[j] ∈ z.cells := by
              have h3 := rep_get z.cells cn j (by rwa [rep_length] at hj)
              rw [List.getElem?_eq_getElem hj] at h3
              exact List.mem_of_getElem? h3.symm
            rw [← hz1 _ hmem]
            exact hcy
          have hsz : ((Array.range (cn * zv.cells.size)).map (zv.cells[· % zv.cells.size]!)).size = cn * z.cells.length := by simp [hzvs, hzl]
          split at hv
          · rename_i z1 hz1
            cases hv
            refine up ⟨_, _, cn, hrun, slice_new _ _ _ _ hle, newSame_step hr hf cn z1 _ (by rw [hsz, hz1]; simp) (hsame z1 (by rw [hz1]; simp)) e⟩
          · split at hv
            · rename_i z1 hz1
              cases hv
              exact up ⟨_, _, cn * z.cells.length, hrun, slice_new _ _ _ _ hle, newSame_step hr hf _ z1 _ hsz (hsame z1 (allSame_spec hz1)) e⟩
            · cases hv
              exact up ⟨_, _, _, hrun, slice_new _ _ _ _ hle, newRow_step' hr hf _ _ hz0 e false⟩
        · cases hv
      · cases hc
    · cases hc
  | move x => obtain ⟨y, hy, rfl⟩ := map_eq_some' hc; cases hk
  | assign x => obtain ⟨y, hy, rfl⟩ := map_eq_some' hc; cases hk
  | pick c x y => simp only [cOp] at hc; split at hc <;> cases hc; cases hk
  | build t ps =>
    simp only [cOp] at hc
    split at hc
    · split at hc
      · obtain ⟨_, hc⟩ := cond_some hc; cases hc; cases hk
      · cases hc
    · split at hc
      · split at hc <;> cases hc; cases hk
      · cases hc
    · cases hc
  | insert t m k x =>
    simp only [cOp] at hc
    split at hc
    · split at hc <;> cases hc <;> cases hk
    · cases hc
  | load t x => simp only [cOp] at hc; split at hc <;> cases hc <;> cases hk
  | store t x y => simp only [cOp] at hc; split at hc <;> cases hc; cases hk
  | ready g => simp [cOp] at hc
  | waits g => simp [cOp] at hc
  | nilCheck x => obtain ⟨y, hy, rfl⟩ := map_eq_some' hc; cases hk
  | binOp op t x y yt =>
    simp only [cOp] at hc
    split at hc
    · split at hc
      · split at hc <;> cases hc; cases hk
      · split at hc <;> cases hc; cases hk
      · cases hc; cases hk
    · cases hc
  | unOp op t x => simp only [cOp] at hc; split at hc <;> cases hc <;> cases hk
  | convert sr d x =>
    simp only [cOp] at hc
    split at hc
    · cases hc; cases hk
    · cases hc; cases hk
    · cases hc; cases hk
    · split at hc <;> cases hc; cases hk
    · split at hc <;> cases hc; cases hk
    · split at hc
      · obtain ⟨_, hc⟩ := cond_some hc; cases hc; cases hk
      · cases hc
    · cases hc
  | sliceToArrayPointer t x => simp [cOp] at hc
  | makeInterface t x => simp only [cOp] at hc; split at hc <;> cases hc; cases hk
  | makeFunc fn first captured =>
    cases fn with
    | func f =>
      simp only [cOp] at hc
      split at hc
      · cases hc; cases hk
      · split at hc <;> cases hc; cases hk
      · cases hc
    | _ => simp [cOp] at hc
  | makeChan t x => simp [cOp] at hc
  | slice t x lo hi mx =>
    simp only [cOp] at hc
    split at hc
    · split at hc
      · split at hc <;> cases hc; cases hk
      · split at hc <;> cases hc; cases hk
      · split at hc <;> cases hc; cases hk
      · split at hc
        · split at hc <;> cases hc; cases hk
        · cases hc
      · cases hc
    · cases hc
  | fieldAddr t x f =>
    simp only [cOp] at hc
    split at hc
    · split at hc
      · split at hc <;> cases hc; cases hk
      · cases hc
    · cases hc
  | field t x f =>
    simp only [cOp] at hc
    split at hc
    · split at hc
      · split at hc <;> cases hc <;> cases hk
      · cases hc
    · cases hc
  | indexAddr t x i =>
    simp only [cOp] at hc
    split at hc
    · split at hc <;> cases hc; cases hk
    · split at hc <;> cases hc; cases hk
    · cases hc
  | index t x i =>
    simp only [cOp] at hc
    split at hc
    · split at hc <;> cases hc <;> cases hk
    · cases hc; cases hk
    · cases hc
  | lookup t m k ok =>
    simp only [cOp] at hc
    split at hc
    · split at hc <;> cases hc <;> cases hk
    · cases hc
  | mapUpdate t m k x =>
    simp only [cOp] at hc
    split at hc
    · split at hc <;> cases hc <;> cases hk
    · cases hc
  | mapEntry t m k => simp [cOp] at hc
  | entryStore t m st x => simp [cOp] at hc
  | range t x => simp only [cOp] at hc; split at hc <;> cases hc; cases hk
  | next x b =>
    cases b
    · simp [cOp] at hc
    · obtain ⟨y, hy, rfl⟩ := map_eq_some' hc; cases hk
  | entry x => simp [cOp] at hc
  | typeAssert x t1 t2 ok => simp [cOp] at hc
  | extract x i => obtain ⟨y, hy, rfl⟩ := map_eq_some' hc; cases hk
  | call c =>
    exfalso
    simp only [cOp] at hc
    split at hc
    · unfold cBuiltin at hc
      (repeat' split at hc) <;> first
        | (cases hc; done)
        | (cases hc; cases hk; done)
        | (obtain ⟨_, hc⟩ := cond_some hc; cases hc; cases hk; done)
    · split at hc <;> cases hc; cases hk
    · split at hc <;> cases hc; cases hk
    · split at hc <;> cases hc; cases hk
  | go c => simp [cOp] at hc
  | defer c => simp [cOp] at hc
  | panic x => simp [cOp] at hc
  | send x y => simp [cOp] at hc
  | recv t x ok => simp [cOp] at hc
  | select cs b => simp [cOp] at hc

end
end Go.AX

namespace Go.AX
open Go

section
variable {P : Program} {E : Env} {nt : Nat} {tm : Tm} {a : Act} {s : St} {w : World}

/-- One block is written anew. -/
theorem put_step (hr : Rel E s w) {b : Nat} {o0 o : Obj} (hg : s.get b = some o0) {L : Loc} (hL : E.loc b = some L) {w' : World} (ho : ORel E w' L o) (hsame : ∀ m, m ≠ L.blk → w'.heap[m]? = w.heap[m]?) (hsz : w'.heap.size = w.heap.size)
    (h1 : w'.os = w.os) (h2 : w'.output = w.output) (h3 : w'.tape = w.tape) : Step E s w E (s.put b o) w' := by
  have g : ∀ b3 o3, (s.put b o).get b3 = some o3 → ∃ o4, s.get b3 = some o4 := by
    intro b3 o3 h3
    rw [St.get_put] at h3
    by_cases hb3 : b = b3
    · subst hb3; exact ⟨_, hg⟩
    · rw [if_neg hb3] at h3; exact ⟨_, h3⟩
  refine ⟨⟨fun b' o' hb' => ?_, fun b1 b2 o1 o2 L1 L2 k1 k2 e1 e2 e3 => ?_⟩, Nat.le_refl _, fun _ _ => rfl, rfl, fun m hm => ?_, fun m hm hl => ?_, by omega, h1, h2, h3, rfl⟩
  · rw [St.get_put] at hb'
    by_cases hbb : b = b'
    · subst hbb
      rw [if_pos rfl] at hb'
      cases hb'
      exact ⟨L, hL, ho⟩
    · rw [if_neg hbb] at hb'
      obtain ⟨L2, hL2, ho2⟩ := hr.obj b' o' hb'
      refine ⟨L2, hL2, ho2.same (hsame _ fun e => ?_)⟩
      exact hbb (hr.inj b b' _ _ L L2 hg hb' hL hL2 e.symm)
  · obtain ⟨o3, h3⟩ := g _ _ k1
    obtain ⟨o4, h4⟩ := g _ _ k2
    exact hr.inj b1 b2 o3 o4 L1 L2 h3 h4 e1 e2 e3
  · obtain ⟨b3, o3, L3, k3, e3, e4⟩ := hm
    obtain ⟨o4, h4⟩ := g _ _ k3
    exact .inr ⟨b3, o4, L3, h4, e3, e4⟩
  · refine hsame m fun e => ?_
    subst e
    exact hl ⟨b, _, L, hg, hL, rfl⟩

theorem freeze_heap (w : World) (blk off n : Nat) (hn : n ≠ 0) {c : Array Value} {el : TypeId} {fr : Nat × Nat} (h : w.heap[blk]? = some (.cells c el fr)) (m : Nat) :
    (w.freeze ⟨blk, off, none⟩ n).heap[m]? = if m = blk then some (.cells c el (if fr.1 == fr.2 then (off, off + n) else (min fr.1 off, max fr.2 (off + n)))) else w.heap[m]? := by
  obtain ⟨lo, hi⟩ := fr
  simp only [World.freeze, if_neg hn, Array.getElem?_modify]
  by_cases hm : blk = m
  · subst hm; simp [h]
  · rw [if_neg hm, if_neg (fun e => hm e.symm)]

theorem mark_run {blk : Nat} {off : Nat} {c : Array Value} {el : TypeId} {fr : Nat × Nat} (h : w.heap[blk]? = some (.cells c el fr)) :
    (markStringish ⟨blk, off, none⟩).run P w = .ok () (w.freeze ⟨blk, c.size, none⟩ 1) := by
  simp [markStringish, World.shape?, h]

theorem convert_mark {t e : TypeId} (h1 : P.underlying t = some (.slice e)) (he : P.underlying e = some (.int .u8)) {ad : Addr} {l c : Nat} {w' : World} (hm : (markStringish ad).run P w = .ok () w') :
    (convert t t (.slice (some ad) l c)).run P w = .ok (.slice (some ad) l c) w' := by
  simp [convert, run_underlying h1, run_underlying he, hm]

theorem convert_bytes {src dst e : TypeId} (hs : P.underlying src = some .string) (hd : P.underlying dst = some (.slice e)) (he : P.underlying e = some (.int .u8)) (x : ByteArray) :
    (convert src dst (.string x)).run P w = (Conv.stringToBytes e x).run P w := by
  simp [convert, run_underlying hs, run_underlying hd, run_underlying he]

theorem cvBytes_sound (hr : Rel E s w) (hf : E.loc s.nx = none) {e : TypeId} {st : ByteArray} {l : List Nat} (hs : st.data.toList.map (·.toNat) = l) :
    ∃ x w', (Conv.stringToBytes e st).run P w = .ok x w' ∧ Left E s w (.a (.c (.slice s.nx 0 l.length l.length 1 false))) (s.new (.row (byteCells l) true)) x w' := by
  have hsz := size_of_str hs
  obtain ⟨cap, hcap, hch⟩ : ∃ cap, st.size ≤ cap ∧ (choose (.appendCap st.size 0 e)).run P w = .ok cap { w with drawn := w.drawn + 1 } :=
    ⟨st.size + w.tape w.drawn (.appendCap st.size 0 e) % (2 ^ 63 - st.size), Nat.le_add_right _ _, by simp only [run_choose, Question.forced, Bool.false_eq_true, if_false, Question.cut]⟩
  let cs : Array Value := (st.data.map fun b => Value.int .u8 b.toNat) ++ Array.replicate (cap - st.size) (.int .u8 0)
  have hcs : cs.size = cap := by
    simp only [cs, Array.size_append, Array.size_map, Array.size_replicate]
    have : st.data.size = st.size := rfl
    omega
  let w1 : World := { w with drawn := w.drawn + 1, heap := w.heap.push (.cells cs e) }
  have hw1 : w1.heap[w.heap.size]? = some (.cells cs e (0, 0)) := by simp [w1]
  have hmk := mark_run (P := P) (off := 0) hw1
  have hle := Env.le_add (L := ⟨w.heap.size, 0, cap⟩) hf
  -- the same as a block that comes frozen behind its end
  have hheap : (w1.freeze ⟨w.heap.size, cs.size, none⟩ 1).heap = w.heap.push (.cells cs e (cs.size, cs.size + 1)) := by
    apply Array.ext_getElem?
    intro m
    rw [freeze_heap w1 _ _ 1 (by decide) hw1]
    by_cases hm : m = w.heap.size
    · subst hm; simp
    · rw [if_neg hm]
      simp only [w1, Array.getElem?_push]
      rw [if_neg (by omega), if_neg (by omega)]
  have hstep := new_step (Step.drawn hr (w.drawn + 1)).rel hf (.row (byteCells l) true) (.cells cs e (cs.size, cs.size + 1)) cap
    ⟨cs, e, (cs.size, cs.size + 1), by simp, hcs, by rw [byteCells_length, Nat.add_zero]; show l.length ≤ cap; omega, fun i hi => by
      have hi' : i < (byteCells l).length := hi
      have hil : i < st.data.toList.length := by rw [byteCells_length, ← hs, List.length_map] at hi'; exact hi'
      have hb := byteCells_sound (E := E) st.data.toList
      rw [hs] at hb
      obtain ⟨y, hy, hcy⟩ := hb.get (List.getElem?_eq_getElem hi')
      refine ⟨y, ?_, ?_⟩
      · simp only [Nat.add_zero, cs]
        rw [Array.getElem?_append_left (by simpa using hil)]
        rw [List.getElem?_map] at hy
        simpa using hy
      · rw [tget_setN, if_pos (by simpa using hi')]
        simp only [Nat.sub_zero, List.getD_eq_getElem?_getD, List.getElem?_eq_getElem hi', Option.getD_some]
        exact hcy.mono hle, .inr (by show cap ≤ cs.size; omega), fun h => (by cases h)⟩
  refine ⟨.slice (some ⟨w.heap.size, 0, none⟩) st.size cap, w1.freeze ⟨w.heap.size, cs.size, none⟩ 1, ?_, E.add s.nx ⟨w.heap.size, 0, cap⟩, ?_, ?_⟩
  · unfold Conv.stringToBytes
    simp only [Sem.run_bind, hch, Result.andThen_ok, newRow, run_newObj, Sem.run_pure]
    rw [show ({ heap := w.heap.push (Go.Obj.cells (Array.map (fun b => Value.int IntKind.u8 ↑b.toNat) st.data ++ Array.replicate (cap - st.size) (Value.int IntKind.u8 0)) e), tape := w.tape, drawn := w.drawn + 1, os := w.os, output := w.output } : World) = w1 from rfl, hmk]
    rfl
  · refine ⟨⟨w.heap.size, 0, cap⟩, 0, cap, by simp [Env.add], by rw [hsz], fun _ => rfl, Nat.le_refl _, by omega, fun h => (by cases h), fun _ => by simp⟩
  · have h2 := (Step.drawn hr (w.drawn + 1)).trans hstep
    have e : w1.freeze ⟨w.heap.size, cs.size, none⟩ 1 = { w with drawn := w.drawn + 1, heap := w.heap.push (.cells cs e (cs.size, cs.size + 1)) } := by
      rw [← hheap]
      rfl
    rw [e]
    exact h2

theorem copyTo_sound (hr : Rel E s w) {d o k c z : Nat} {ex : Bool} {x : Value} (hx : CRel E (.slice d o k c z ex) x) {size n : Nat} {l : List C} {y : Value} (hsrc : Src P E w size n l y) {q : Nat} (hq : q = Nat.min n k)
    {v : V} {s' : St} (h : copyTo size d o q l s = some (v, s')) {t u e ty : TypeId} (hu : P.underlying t = some (.slice e)) (hsz : sizeT P e = some size) :
    ∃ x' w', (Builtin.copy_ #[t, u] ty #[x, y]).run P w = .ok x' w' ∧ Left E s w v s' x' w' := by
  obtain ⟨L, off, c', hL, rfl, g1, g2, g3, g4, g5⟩ := hx
  obtain ⟨hlen, hll, hcells⟩ := hsrc
  obtain ⟨vs, hvs, hfc⟩ := hcells q (by rw [hq]; exact Nat.min_le_left _ _)
  have hqk : q ≤ k := by rw [hq]; exact Nat.min_le_right _ _
  unfold copyTo at h
  cases h0 : Nat.beq q 0
  · rw [h0] at h
    simp only [cond_false] at h
    have hq0 := beq_false h0
    split at h
    · rename_i s'' hst
      cases h
      obtain ⟨w', hrun, hstep⟩ := storeN_sound (P := P) _ vs (i := 0) hr.toRel0 (by simpa using hst) hvs hL
      refine ⟨goInt q, w', ?_, E, rfl, hstep⟩
      unfold Builtin.copy_
      simp only [List.getElem?_toArray, List.getElem?_cons_zero, List.getElem?_cons_succ, Sem.run_bind, run_underlying hu, Result.andThen_ok, hlen w, sizeT_run hsz, ← hq, hfc w rfl]
      rw [g1 (by omega)]
      simp [hrun]
    · cases h
  · rw [h0] at h
    have := beq_true h0
    subst this
    cases h
    have hv0 : vs = [] := by
      have := hvs.length
      rw [Nat.zero_mul] at this
      cases vs with | nil => rfl | cons _ _ => simp at this
    subst hv0
    refine ⟨goInt 0, w, ?_, E, rfl, Step.refl hr⟩
    unfold Builtin.copy_
    simp only [List.getElem?_toArray, List.getElem?_cons_zero, List.getElem?_cons_succ, Sem.run_bind, run_underlying hu, Result.andThen_ok, hlen w, sizeT_run hsz, ← hq, hfc w rfl]
    simp [storeCells]

theorem copyNil_sound (hr : Rel E s w) {size n : Nat} {l : List C} {y : Value} (hsrc : Src P E w size n l y) {t u e ty : TypeId} (hu : P.underlying t = some (.slice e)) (hsz : sizeT P e = some size) :
    ∃ x' w', (Builtin.copy_ #[t, u] ty #[.slice none 0 0, y]).run P w = .ok x' w' ∧ Left E s w (.a (.c (.int .i64 (.ofNat 0)))) s x' w' := by
  obtain ⟨hlen, hll, hcells⟩ := hsrc
  obtain ⟨vs, hvs, hfc⟩ := hcells 0 (Nat.zero_le _)
  refine ⟨goInt 0, w, ?_, E, rfl, Step.refl hr⟩
  unfold Builtin.copy_
  have hm : Nat.min n 0 = 0 := Nat.min_zero n
  simp only [List.getElem?_toArray, List.getElem?_cons_zero, List.getElem?_cons_succ, Sem.run_bind, run_underlying hu, Result.andThen_ok, hlen w, sizeT_run hsz, hm, hfc w rfl]
  simp

end
end Go.AX

namespace Go.AX
open Go

section
variable {P : Program} {E : Env} {nt : Nat} {tm : Tm} {a : Act} {s : St} {w : World}

theorem outv {m : Sem Value} {Φ : Value → World → Prop} (h : ∃ x w', m.run P w = .ok x w' ∧ Φ x w') : Outc P Φ ((do pure (Next.value (← m)) : Sem Next).run P w) := by
  obtain ⟨x, w', h1, h2⟩ := h
  rw [runv h1]
  exact h2
theorem outu {m : Sem Unit} {Φ : Value → World → Prop} (h : ∃ w', m.run P w = .ok () w' ∧ Φ undef w') : Outc P Φ ((do m; pure Next.skip : Sem Next).run P w) := by
  obtain ⟨w', h1, h2⟩ := h
  rw [Sem.run_bind, h1]
  exact h2

theorem bytes_get! {st : ByteArray} {l : List Nat} (hs : st.data.toList.map (·.toNat) = l) {p b : Nat} (h : l[p]? = some b) : (st.get! p).toNat = b := by
  subst hs
  rw [List.getElem?_map] at h
  obtain ⟨u, hu, rfl⟩ := map_eq_some' h
  obtain ⟨⟨x⟩⟩ := st
  have : (ByteArray.mk ⟨x⟩).get! p = u := by
    have hu' : x[p]? = some u := hu
    obtain ⟨hlt, he⟩ := List.getElem?_eq_some_iff.1 hu'
    show (Array.mk x)[p]! = u
    rw [getElem!_pos (Array.mk x) p hlt]
    exact he
  rw [this]

theorem decode_ascii {st : ByteArray} {p b : Nat} (h : (st.get! p).toNat = b) (hb : b < 128) : Utf8.decode st p = (b, 1) := by
  unfold Utf8.decode
  simp only [Nat.add_zero, h]
  rw [if_pos (show b < 0x80 from hb)]

theorem map_mupd (cfg : Cfg) (call : Nat → List A → St → Option (V × St)) (hr : Rel E s w) (hG : GOk P E) (ht : TRel E nt tm a) {t : TypeId} {m k x : Operand} {iop : IOp}
    (hc : (match P.underlying t with
    | some (.map kt _) => (match P.underlying kt, cOpd P nt m, cOpd P nt k, cOpd P nt x with
      | some (.int _), some m, some k, some v => some (IOp.mupd true m k v)
      | some .string, some m, some k, some v => some (.mupd false m k v)
      | _, _, _, _ => none)
    | _ => none) = some iop) {v : V} {s' : St} (hv : iop.eff cfg call tm s = some (v, s')) : ∃ w', (Instr.mapUpdate t (a.eval m) (a.eval k) (a.eval x)).run P w = .ok () w' ∧ Left E s w v s' undef w' := by
  split at hc
  · rename_i kt et hu
    split at hc
    · rename_i ik m' k' x' hk hm hkk hxx
      cases hc
      simp only [IOp.eff] at hv
      split at hv
      · rename_i b kc vc h1 h2 h3
        obtain ⟨hko, hv⟩ := cond_some hv
        split at hv
        · rename_i l hg
          split at hv
          · rename_i r hf
            cases hv
            obtain ⟨w', g1, g2⟩ := mupd_sound (P := P) hr hu hk (ki := true) rfl (evC_sound hG ht hm h1) (evC_sound hG ht hkk h2) (evA_sound hG ht hxx h3) hko hg hf
            exact ⟨w', g1, E, VRel.undef E, g2⟩
          · cases hv
        · cases hv
      · cases hv
    · rename_i m' k' x' hk hm hkk hxx
      cases hc
      simp only [IOp.eff] at hv
      split at hv
      · rename_i b kc vc h1 h2 h3
        obtain ⟨hko, hv⟩ := cond_some hv
        split at hv
        · rename_i l hg
          split at hv
          · rename_i r hf
            cases hv
            obtain ⟨w', g1, g2⟩ := mupd_sound (P := P) hr hu hk (ki := false) rfl (evC_sound hG ht hm h1) (evC_sound hG ht hkk h2) (evA_sound hG ht hxx h3) hko hg hf
            exact ⟨w', g1, E, VRel.undef E, g2⟩
          · cases hv
        · cases hv
      · cases hv
    · cases hc
  · cases hc

theorem callMethod_sound (cfg : Cfg) (hm : MethSound P cfg) {t f : Nat} {m : String} (h : cfg.meth t m = some f) (v : Value) (args : Array Value) : (callMethod (.iface t v) m args).run P w = (callFunc f (#[v] ++ args)).run P w := by
  obtain ⟨i, me, e, hi, hme, hpath, hfn, hu⟩ := hm t m f h
  have hd : ∃ q, P.types.size + Made.depth = q + 1 := by
    rcases Nat.eq_zero_or_pos (P.types.size + Made.depth) with h0 | h0
    · exfalso
      have h1 : Made.depth = 0 := by omega
      have h2 : Made.depth ≠ 0 := by decide
      exact h2 h1
    · exact ⟨P.types.size + Made.depth - 1, by omega⟩
  obtain ⟨q, hq⟩ := hd
  have hmeth : (method (q + 1) t v m).run P w = .ok (f, v) w := by
    simp only [method, Sem.run_bind, run_typeInfo' hi, Result.andThen_ok, hme, hpath, hfn, follow, Sem.run_pure, receiverAt, run_underlying hu, Place.get]
  simp only [callMethod, Sem.run_bind, run_program, Result.andThen_ok, hq, hmeth]

end
end Go.AX

namespace Go.AX
open Go

section
variable {P : Program} {E : Env} {nt : Nat} {tm : Tm} {a : Act} {s : St} {w : World}

theorem nx_lt_of_new {o : Obj} (h : Fresh E s.nx (s.new o).nx) : E.loc s.nx = none := h s.nx (Nat.le_refl _) (by simp)

theorem str_end {st : ByteArray} {l : List Nat} (hs : st.data.toList.map (·.toNat) = l) {p : Nat} (h : l[p]? = none) : ¬ p < st.size := by
  rw [size_of_str hs]
  have := List.getElem?_eq_none_iff.1 h
  omega
theorem str_in {st : ByteArray} {l : List Nat} (hs : st.data.toList.map (·.toNat) = l) {p b : Nat} (h : l[p]? = some b) : p < st.size := by
  rw [size_of_str hs]
  exact (List.getElem?_eq_some_iff.1 h).1

theorem append_zeros {t u e ty : TypeId} {i : TypeInfo} {zv : Value} {k : IntKind} (hu : P.underlying t = some (.slice e)) (huu : P.underlying u = some (.int k)) (hi : P.info? e = some i) (hzv : i.zero = some zv) (hb : i.bytes ≠ 0) (hs0 : i.size ≠ 0)
    {n : Nat} (hn : n ≠ 0) (hmax : n * i.bytes ≤ 1099511627776) {k2 : IntKind} :
    ∃ cap, n ≤ cap ∧ (Builtin.append_ #[t, u] ty #[.slice none 0 0, .int k2 (.ofNat n)]).run P w = .ok (.slice (some ⟨w.heap.size, 0, none⟩) n cap)
      { w with drawn := w.drawn + 1, heap := w.heap.push (.cells (Builtin.zeroCells zv.cells n ++ Builtin.zeroCells zv.cells (cap - n)) e) } := by
  have hsz : ∀ w : World, (sizeOf e).run P w = .ok i.size w := sizeT_run (by simp [sizeT, hi])
  have hti : ∀ w : World, (typeInfo e).run P w = .ok i w := run_typeInfo' hi
  have hzr : ∀ w : World, (zeroValue e).run P w = .ok zv w := fun w => by simp [zeroValue, run_typeInfo' hi, hzv]
  have hge := growslice_fits (need := 0 + n) (old := 0) (bytes := i.bytes) (by omega) (by rw [Nat.zero_add]; omega)
  have hnb : n ≤ n * i.bytes := Nat.le_mul_of_pos_right _ (by omega)
  have hwr : IntKind.i64.wrap (Int.ofNat n) = n := wrap_i64 n (by omega)
  have hmx : ¬ (((0 + n : Nat) : Int) > IntKind.i64.max) := by
    have h1 : IntKind.i64.max = 9223372036854775807 := rfl
    omega
  have hbc : ¬ ((n : Int) * (i.bytes : Int) > 2 ^ 48) := by
    rw [← Int.natCast_mul]
    have h48 : (2 : Int) ^ 48 = 281474976710656 := rfl
    rw [h48]
    omega
  have hns : ¬ n * i.size = 0 := by
    intro h
    rcases Nat.mul_eq_zero.1 h with h | h
    · exact hn h
    · exact hs0 h
  refine ⟨0 + n + w.tape w.drawn (.appendCap (0 + n) 0 e) % (2 ^ 63 - (0 + n)), by omega, ?_⟩
  unfold Builtin.append_
  simp only [List.getElem?_toArray, List.getElem?_cons_zero, List.getElem?_cons_succ, Sem.run_bind, run_underlying hu, Result.andThen_ok, hsz]
  simp only [run_underlying huu, Result.andThen_ok, Sem.run_pure, asInt, asIntOf, Sem.run_bind, if_true, hwr]
  rw [Sem.run_ite, if_neg (by omega)]
  simp only [Sem.run_pure, Result.andThen_ok, Sem.run_bind, hti]
  rw [Sem.run_ite, if_neg hbc]
  simp only [Sem.run_bind, Sem.run_pure, Result.andThen_ok, Int.toNat_natCast]
  rw [if_neg (show ¬ 0 + n ≤ 0 by omega)]
  simp only [Sem.run_bind, hti, Result.andThen_ok, Bool.not_true, Bool.false_eq_true, if_false]
  rw [Sem.run_ite, if_neg (fun h => hmx h.1)]
  simp only [Sem.run_bind, Sem.run_pure, hti, Result.andThen_ok]
  rw [Sem.run_ite, if_neg (by rw [Nat.zero_add]; rw [Nat.zero_add] at hge; omega)]
  simp only [Sem.run_bind, run_choose, Question.forced, Bool.false_eq_true, if_false, Result.andThen_ok, hti, run_askRoom, hzr, Sem.run_pure, newRow, run_newObj, Question.cut, if_neg hns, Builtin.firstCells]
  simp only [Nat.zero_add, Array.empty_append]

theorem appendZ_sound (hr : Rel E s w) {t u e ty : TypeId} {i : TypeInfo} {zv : Value} {k : IntKind} (hu : P.underlying t = some (.slice e)) (huu : P.underlying u = some (.int k)) (hi : P.info? e = some i) (hzv : i.zero = some zv) (hzs : zv.cells.size = i.size) (hs0 : i.size ≠ 0) (hb : i.bytes ≠ 0)
    {zl : List C} (hzl : All2 (CRel E) zl zv.cells.toList) {n : Nat} {k2 : IntKind} {v : V} {s' : St}
    (h : (bif Nat.beq n 0 then some (V.a (.c .nils), s) else bif Nat.ble (Nat.mul n i.bytes) 1099511627776 then some (V.a (.c (.slice s.nx 0 n n i.size false)), s.new (.row (IOp.eff.rep zl n))) else none) = some (v, s')) (hf : Fresh E s.nx s'.nx) :
    ∃ x' w', (Builtin.append_ #[t, u] ty #[.slice none 0 0, .int k2 (.ofNat n)]).run P w = .ok x' w' ∧ Left E s w v s' x' w' := by
  cases hn : Nat.beq n 0
  · rw [hn] at h
    simp only [cond_false] at h
    obtain ⟨hmx, h⟩ := cond_some h
    cases h
    have hmx : n * i.bytes ≤ 1099511627776 := ble_true hmx
    have hnp := beq_false hn
    have hnx : E.loc s.nx = none := hf s.nx (Nat.le_refl _) (by simp)
    obtain ⟨cap, hcap, hrun⟩ := append_zeros (P := P) (ty := ty) (w := w) (k2 := k2) hu huu hi hzv hb hs0 hnp hmx
    have hz0 := zeros_sound hzl n
    rw [← zeroCells_eq] at hz0
    have hzn : (Builtin.zeroCells zv.cells n).toList.length = n * zv.cells.size := by simp [Builtin.zeroCells]
    have hsz : (Builtin.zeroCells zv.cells (cap - n)).size = (cap - n) * zv.cells.size := by simp [Builtin.zeroCells]
    have hst := newRow_ext (el := e) (rest := Builtin.zeroCells zv.cells (cap - n)) (Step.drawn hr (w.drawn + 1)).rel hnx _ _ hz0 false
    rw [hsz, hzn, Array.toArray_toList] at hst
    refine ⟨_, _, hrun, E.add s.nx ⟨w.heap.size, 0, n * zv.cells.size + (cap - n) * zv.cells.size⟩, ?_, (Step.drawn hr (w.drawn + 1)).trans hst⟩
    refine ⟨⟨w.heap.size, 0, n * zv.cells.size + (cap - n) * zv.cells.size⟩, 0, cap, by simp [Env.add], rfl, fun _ => by simp, Nat.le_refl _, by omega, fun h => (by cases h), fun _ => ?_⟩
    rw [hzs, ← Nat.add_mul]
    have : cap = n + (cap - n) := by omega
    show 0 + cap * i.size ≤ (n + (cap - n)) * i.size
    rw [← this, Nat.zero_add]
    exact Nat.le_refl _
  · rw [hn] at h
    cases h
    have := beq_true hn
    subst this
    refine ⟨.slice none 0 0, w, ?_, E, rfl, Step.refl hr⟩
    have hsz : ∀ w : World, (sizeOf e).run P w = .ok i.size w := sizeT_run (by simp [sizeT, hi])
    have hti : ∀ w : World, (typeInfo e).run P w = .ok i w := run_typeInfo' hi
    have hwr : IntKind.i64.wrap (Int.ofNat 0) = 0 := rfl
    unfold Builtin.append_
    simp only [List.getElem?_toArray, List.getElem?_cons_zero, List.getElem?_cons_succ, Sem.run_bind, run_underlying hu, Result.andThen_ok, hsz]
    simp only [run_underlying huu, Result.andThen_ok, Sem.run_pure, asInt, asIntOf, Sem.run_bind, if_true, hwr]
    simp only [Int.lt_irrefl, if_false, Sem.run_bind, hti, Result.andThen_ok, Int.zero_mul]
    rw [Sem.run_ite, if_neg (by decide)]
    simp only [Sem.run_bind, Sem.run_pure, Result.andThen_ok, Int.toNat_zero, Nat.add_zero, Nat.le_refl, if_true, Bool.not_true, Bool.false_eq_true, if_false, Nat.zero_mul]


theorem bltin_sound (cfg : Cfg) (call : Nat → List A → St → Option (V × St)) (hr : Rel E s w) (hG : GOk P E) (ht : TRel E nt tm a) {b : Builtin} {c : Call} {iop : IOp} (hc : cBuiltin P nt b c = some iop) (hk : iop.kind = .effect) {v : V} {s' : St}
    (hv : iop.eff cfg call tm s = some (v, s')) (hf : Fresh E s.nx s'.nx) (type : TypeId) (consts : Array Bool) : Outc P (Left E s w v s') ((builtin b c.argTypes type consts (c.args.map a.eval)).run P w) := by
  unfold cBuiltin at hc
  split at hc
  · split at hc <;> first | (cases hc; cases hk; done) | (split at hc <;> cases hc; cases hk; done) | (cases hc; done)
  · split at hc <;> cases hc; cases hk
  · -- append
    rename_i x y t u hargs htys
    have ha : c.args = #[x, y] := Array.ext' (by simpa using hargs)
    have hty : c.argTypes = #[t, u] := Array.ext' (by simpa using htys)
    have hm : (Array.map a.eval #[x, y]) = #[a.eval x, a.eval y] := by simp
    rw [ha, hty, hm]
    split at hc
    · rename_i e e' hu hu'
      split at hc
      · rename_i i x' y' hi hx hy
        split at hc
        · rename_i z hz
          obtain ⟨hcond, hc⟩ := cond_some hc
          cases hc
          simp only [Bool.and_eq_true, bne_iff_ne, ne_eq] at hcond
          have hzl : z.cells.length = i.size := by simpa using hcond.1
          obtain ⟨i', zv, hi', hzv, hze⟩ := zeroT_zero hz
          rw [hi] at hi'; cases hi'
          have hzs : zv.cells.size = i.size := by rw [← hzl]; simpa using (hze E).cells.length.symm
          simp only [IOp.eff] at hv
          split at hv
          · rename_i ca cb h1 h2
            split at hv
            · rename_i n l hsrc
              simp only [builtin]
              exact outv (appendTo_sound (P := P) (ty := type) hr hu ⟨_, hu', fun k => by simp⟩ hi hzv hzs hcond.2 (evC_sound hG ht hx h1) (srcV_sound hr hsrc (evC_sound hG ht hy h2)) hv hf)
            · cases hv
          · cases hv
        · cases hc
      · cases hc
    · rename_i e hu hu'
      split at hc
      · rename_i i x' y' hi hx hy
        split at hc
        · rename_i z hz
          obtain ⟨hcond, hc⟩ := cond_some hc
          cases hc
          simp only [Bool.and_eq_true, beq_iff_eq] at hcond
          obtain ⟨⟨hzl, hs1⟩, hb1⟩ := hcond
          obtain ⟨i', zv, hi', hzv, hze⟩ := zeroT_zero hz
          rw [hi] at hi'; cases hi'
          have hzs : zv.cells.size = i.size := by rw [hs1, ← hzl]; simpa using (hze E).cells.length.symm
          simp only [IOp.eff] at hv
          split at hv
          · rename_i ca l h1 h2
            simp only [builtin]
            have hsrc := srcS_sound (P := P) (w := w) (evC_sound hG ht hy h2)
            exact outv (appendTo_sound (P := P) (ty := type) hr hu ⟨_, hu', fun k => by simp⟩ hi hzv hzs (by omega) (evC_sound hG ht hx h1) (by rw [hs1]; exact hsrc) (by rw [hs1, hb1]; exact hv) hf)
          · cases hv
        · cases hc
      · cases hc
    · rename_i e k2 hu hu'
      split at hc
      · rename_i i x' y' hi hx hy
        split at hc
        · rename_i z hz
          obtain ⟨hcond, hc⟩ := cond_some hc
          cases hc
          simp only [Bool.and_eq_true, bne_iff_ne, ne_eq, beq_iff_eq] at hcond
          obtain ⟨⟨hzl, hs0⟩, hb0⟩ := hcond
          obtain ⟨i', zv, hi', hzv, hze⟩ := zeroT_zero hz
          rw [hi] at hi'; cases hi'
          have hzs : zv.cells.size = i.size := by rw [← hzl]; simpa using (hze E).cells.length.symm
          simp only [IOp.eff] at hv
          split at hv
          · rename_i n h1 h2
            simp only [builtin]
            obtain ⟨kk, e2⟩ := evI_sound hG ht hy h2
            have e1 : a.eval x = .slice none 0 0 := evC_sound hG ht hx h1
            rw [e1, e2]
            exact outv (appendZ_sound (P := P) (ty := type) hr hu hu' hi hzv hzs hs0 hb0 (hze E).cells hv hf)
          · cases hv
        · cases hc
      · cases hc
    · cases hc
  · -- copy
    rename_i x y t u hargs htys
    have ha : c.args = #[x, y] := Array.ext' (by simpa using hargs)
    have hty : c.argTypes = #[t, u] := Array.ext' (by simpa using htys)
    have hm : (Array.map a.eval #[x, y]) = #[a.eval x, a.eval y] := by simp
    have hmin : ∀ n k : Nat, (bif Nat.ble n k then n else k) = Nat.min n k := by
      intro n k
      cases h : Nat.ble n k
      · have := ble_false h; rw [cond_false]; exact (Nat.min_eq_right (by omega)).symm
      · have := ble_true h; rw [cond_true]; exact (Nat.min_eq_left this).symm
    rw [ha, hty, hm]
    split at hc
    · rename_i e e' hu hu'
      split at hc
      · rename_i n x' y' hsz hx hy
        cases hc
        simp only [IOp.eff] at hv
        split at hv
        · rename_i cb h1 h2
          split at hv
          · rename_i r hsrc
            cases hv
            obtain ⟨n1, l1⟩ := r
            have e1 : a.eval x = .slice none 0 0 := evC_sound hG ht hx h1
            simp only [builtin]
            rw [e1]
            exact outv (copyNil_sound (P := P) (ty := type) hr (srcV_sound hr hsrc (evC_sound hG ht hy h2)) hu hsz)
          · cases hv
        · rename_i d o k c1 z ex cb h1 h2
          split at hv
          · rename_i n1 l1 hsrc
            simp only [builtin]
            exact outv (copyTo_sound (P := P) (ty := type) hr (evC_sound hG ht hx h1) (srcV_sound hr hsrc (evC_sound hG ht hy h2)) (hmin _ _) hv hu hsz)
          · cases hv
        · cases hv
      · cases hc
    · rename_i e hu hu'
      split at hc
      · rename_i x' y' hsz hx hy
        cases hc
        simp only [IOp.eff] at hv
        split at hv
        · rename_i d o k c1 z ex l h1 h2
          simp only [builtin]
          exact outv (copyTo_sound (P := P) (ty := type) hr (evC_sound hG ht hx h1) (srcS_sound (evC_sound hG ht hy h2)) (hmin _ _) hv hu hsz)
        · cases hv
      · cases hc
    · cases hc
  · -- delete
    rename_i m k t u hargs htys
    have ha : c.args = #[m, k] := Array.ext' (by simpa using hargs)
    have hty : c.argTypes = #[t, u] := Array.ext' (by simpa using htys)
    have hm : (Array.map a.eval #[m, k]) = #[a.eval m, a.eval k] := by simp
    rw [ha, hty, hm]
    split at hc
    · rename_i kt et m' k' hu hmm hkk
      have fin : ∀ (ki : Bool) (ty : TypeDesc), P.underlying kt = some ty → KindOk ki ty → iop = .delete ki m' k' → Outc P (Left E s w v s') ((builtin .delete #[t, u] type consts #[a.eval m, a.eval k]).run P w) := by
        intro ki ty hkt hki hiop
        subst hiop
        simp only [IOp.eff] at hv
        simp only [builtin]
        split at hv
        · rename_i kc h1 h2
          obtain ⟨hko, hv⟩ := cond_some hv
          cases hv
          have e1 : a.eval m = .map none := evC_sound hG ht hmm h1
          refine outv ⟨.tuple #[], w, ?_, E, ⟨[], rfl, .nil⟩, Step.refl hr⟩
          rw [e1]
          unfold Builtin.delete_
          simp only [List.getElem?_toArray, List.getElem?_cons_zero, List.getElem?_cons_succ, Sem.run_bind, run_underlying hu, Result.andThen_ok, checkKey_run hko hkt hki (evC_sound hG ht hkk h2), Sem.run_pure]
        · rename_i b kc h1 h2
          obtain ⟨hko, hv⟩ := cond_some hv
          split at hv
          · rename_i l hg
            split at hv
            · rename_i r hfd
              cases hv
              obtain ⟨w', g1, g2⟩ := delete_sound (P := P) hr hu hkt hki (evC_sound hG ht hmm h1) (evC_sound hG ht hkk h2) hko hg hfd #[t, u] rfl type
              exact outv ⟨.tuple #[], w', g1, E, ⟨[], rfl, .nil⟩, g2⟩
            · cases hv
          · cases hv
        · cases hv
      split at hc
      · rename_i ik hkt
        cases hc
        exact fin true _ hkt rfl rfl
      · rename_i hkt
        cases hc
        exact fin false _ hkt rfl rfl
      · cases hc
    · cases hc
  · -- clear
    rename_i x t hargs htys
    have ha : c.args = #[x] := Array.ext' (by simpa using hargs)
    have hty : c.argTypes = #[t] := Array.ext' (by simpa using htys)
    have hm : (Array.map a.eval #[x]) = #[a.eval x] := by simp
    rw [ha, hty, hm]
    split at hc
    · rename_i kt et x' hu hx
      cases hc
      simp only [IOp.eff] at hv
      simp only [builtin]
      split at hv
      · rename_i h1
        cases hv
        have e1 : a.eval x = .map none := evC_sound hG ht hx h1
        refine outv ⟨.tuple #[], w, ?_, E, ⟨[], rfl, .nil⟩, Step.refl hr⟩
        rw [e1]
        simp [Builtin.clear_, run_underlying hu]
      · rename_i b h1
        split at hv
        · rename_i l hg
          cases hv
          obtain ⟨L', hL', hxe⟩ := evC_sound hG ht hx h1
          obtain ⟨L, hL, es, clock, hh, hsh, hkd, _⟩ := hr.obj b _ hg
          rw [hL] at hL'; cases hL'
          obtain ⟨g1, g2⟩ := setMap_step (P := P) hr hg hL (l2 := []) (es2 := #[]) (clock2 := clock) trivial ⟨[], List.Perm.refl _, .nil⟩ (by simp) (by simp)
          refine outv ⟨.tuple #[], _, ?_, E, ⟨[], rfl, .nil⟩, g2⟩
          rw [hxe]
          unfold Builtin.clear_
          simp only [List.getElem?_toArray, List.getElem?_cons_zero, List.getElem?_cons_succ, Sem.run_bind, run_underlying hu, Result.andThen_ok, run_getObj_map hh, g1, Sem.run_pure]
        · cases hv
      · cases hv
    · rename_i e x' hu hx
      split at hc
      · rename_i z hz
        cases hc
        simp only [IOp.eff] at hv
        simp only [builtin]
        split at hv
        · rename_i h1
          cases hv
          have e1 : a.eval x = .slice none 0 0 := evC_sound hG ht hx h1
          refine outv ⟨.tuple #[], w, ?_, E, ⟨[], rfl, .nil⟩, Step.refl hr⟩
          rw [e1]
          simp [Builtin.clear_, run_underlying hu]
        · rename_i b o l c1 z1 ex h1
          obtain ⟨L, off, c', hL, hxe, g1, g2, _⟩ := evC_sound hG ht hx h1
          cases hl0 : Nat.beq l 0
          · rw [hl0] at hv
            simp only [cond_false] at hv
            have hlp := beq_false hl0
            split at hv
            · rename_i s'' hst
              cases hv
              obtain ⟨zv, hzr, hze⟩ := zeroT_run hz
              have hzz := zeros_sound (hze E).cells l
              obtain ⟨w', hrun, hstep⟩ := storeN_sound (P := P) _ _ (i := 0) hr.toRel0 (by simpa using hst) hzz hL
              refine outv ⟨.tuple #[], w', ?_, E, ⟨[], rfl, .nil⟩, hstep⟩
              rw [hxe, g1 (by omega)]
              obtain ⟨l', rfl⟩ : ∃ l', l = l' + 1 := ⟨l - 1, by omega⟩
              unfold Builtin.clear_
              simp only [List.getElem?_toArray, List.getElem?_cons_zero, List.getElem?_cons_succ, Sem.run_bind, run_underlying hu, Result.andThen_ok, hzr, zeroCells_eq, hrun, Sem.run_pure]
            · cases hv
          · rw [hl0] at hv
            have := beq_true hl0
            subst this
            cases hv
            refine outv ⟨.tuple #[], w, ?_, E, ⟨[], rfl, .nil⟩, Step.refl hr⟩
            rw [hxe]
            simp [Builtin.clear_, run_underlying hu]
        · cases hv
      · cases hc
    · cases hc
  · split at hc <;> cases hc; cases hk
  · split at hc <;> cases hc; cases hk
  · cases hc

end
end Go.AX

namespace Go.AX
open Go

section
variable {P : Program} {E : Env} {nt : Nat} {tm : Tm} {a : Act} {s : St} {w : World}

set_option maxHeartbeats 1000000 in
/-- **The operations that turn memory.** -/
theorem eff_sound (cfg : Cfg) (hms : MethSound P cfg) {call : Nat → List A → St → Option (V × St)} (hcs : CallSound P call) (hr : Rel E s w) (hG : GOk P E) (hn : P.globals.size ≤ s.nx) (ht : TRel E nt tm a) {o : Oper} {iop : IOp}
    (hc : cOp P nt o.op = some iop) (hk : iop.kind = .effect) {v : V} {s' : St} (hv : iop.eff cfg call tm s = some (v, s')) (hf : Fresh E s.nx s'.nx) : Outc P (Left E s w v s') ((execOp a.eval o).run P w) := by
  obtain ⟨dst, op, type, pos, after, guard⟩ := o
  simp only at hc
  cases op with
  | move x => obtain ⟨y, hy, rfl⟩ := map_eq_some' hc; cases hk
  | assign x => obtain ⟨y, hy, rfl⟩ := map_eq_some' hc; cases hk
  | pick c x y => simp only [cOp] at hc; split at hc <;> cases hc; cases hk
  | alloc e => simp only [cOp] at hc; split at hc <;> cases hc; cases hk
  | box e x => obtain ⟨y, hy, rfl⟩ := map_eq_some' hc; cases hk
  | build t ps =>
    simp only [cOp] at hc
    split at hc
    · split at hc
      · obtain ⟨_, hc⟩ := cond_some hc; cases hc; cases hk
      · cases hc
    · split at hc
      · split at hc <;> cases hc; cases hk
      · cases hc
    · cases hc
  | buildSlice t n ps =>
    simp only [cOp] at hc
    split at hc
    · split at hc
      · obtain ⟨_, hc⟩ := cond_some hc
        split at hc <;> cases hc
        cases hk
      · cases hc
    · cases hc
  | insert t m k x =>
    simp only [cOp] at hc
    exact outu (map_mupd cfg call hr hG ht hc hv)
  | load t x => simp only [cOp] at hc; split at hc <;> cases hc <;> cases hk
  | store t x y =>
    simp only [cOp] at hc
    split at hc
    · rename_i n x' y' hsz hx hy
      cases hc
      simp only [IOp.eff] at hv
      split at hv
      · rename_i b o vv h1 h2
        obtain ⟨hlen, hv⟩ := cond_some hv
        have hlen := beq_true hlen
        split at hv
        · rename_i s'' hst
          cases hv
          obtain ⟨L, hL, hxe⟩ := evC_sound hG ht hx h1
          have hcells := (evA_sound hG ht hy h2).cells
          obtain ⟨w', hrun, hstep⟩ := storeN_sound (P := P) _ _ (i := 0) hr.toRel0 (by simpa using hst) hcells hL
          refine outu ⟨w', ?_, E, VRel.undef E, hstep⟩
          have hcl : (a.eval y).cells.size = n := by rw [← hlen]; simpa using hcells.length.symm
          simp only [Instr.storeAt, hxe, Instr.sureAddr, storeVar, Sem.run_bind, Sem.run_pure, Result.andThen_ok, sizeT_run hsz]
          rw [Sem.run_ite, if_neg (by simp [hcl])]
          exact hrun
        · cases hv
      · cases hv
    · cases hc
  | ready g => simp [cOp] at hc
  | waits g => simp [cOp] at hc
  | nilCheck x => obtain ⟨y, hy, rfl⟩ := map_eq_some' hc; cases hk
  | binOp op t x y yt =>
    simp only [cOp] at hc
    split at hc
    · split at hc
      · split at hc <;> cases hc; cases hk
      · split at hc <;> cases hc; cases hk
      · cases hc; cases hk
    · cases hc
  | unOp op t x => simp only [cOp] at hc; split at hc <;> cases hc <;> cases hk
  | convert sr d x =>
    simp only [cOp] at hc
    split at hc
    · cases hc; cases hk
    · cases hc; cases hk
    · cases hc; cases hk
    · rename_i e x' h1 h2 hx
      split at hc
      · rename_i he hsz
        cases hc
        simp only [IOp.eff] at hv
        split at hv
        · rename_i l hl
          cases hv
          obtain ⟨st, hst, hs⟩ := evC_sound hG ht hx hl
          obtain ⟨y, w', g1, g2⟩ := cvBytes_sound (P := P) hr (nx_lt_of_new hf) (e := e) hs
          refine outv ⟨y, w', ?_, g2⟩
          rw [hst, convert_bytes h1 h2 he]
          exact g1
        · cases hv
      · cases hc
    · split at hc <;> cases hc; cases hk
    · rename_i e0 e x' h1 h2 hx
      split at hc
      · rename_i he
        obtain ⟨hsd, hc2⟩ := cond_some hc
        clear hc
        have hsd : sr = d := by simpa using hsd
        subst hsd
        cases hc2
        simp only [IOp.eff] at hv
        split at hv
        · rename_i b o l c z ex hl
          split at hv
          · rename_i n dd t f hg
            cases hv
            obtain ⟨L', off, c', hL', hxe, g1, g2, g3, g4, g5⟩ := evC_sound hG ht hx hl
            obtain ⟨L, hL, cs, el, fr, hh, hsz, hnn, hcc, hf0, hf2⟩ := hr.obj b _ hg
            obtain rfl : L = L' := by rw [hL] at hL'; exact Option.some.inj hL'
            have hmk := mark_run (P := P) (off := off) hh
            have hh' : ∀ m, (w.freeze ⟨L.blk, cs.size, none⟩ 1).heap[m]? = if m = L.blk then some (.cells cs el (if fr.1 == fr.2 then (cs.size, cs.size + 1) else (min fr.1 cs.size, max fr.2 (cs.size + 1)))) else w.heap[m]? := freeze_heap w L.blk cs.size 1 (by decide) hh
            have hstep := put_step hr hg hL (o := .cells n dd t true) (w' := w.freeze ⟨L.blk, cs.size, none⟩ 1)
              ⟨cs, el, _, by rw [hh', if_pos rfl], hsz, hnn, hcc, by
                right
                split
                · show L.room ≤ cs.size; omega
                · rename_i hne
                  have hne : fr.1 ≠ fr.2 := by simpa using hne
                  have := hf0.resolve_left hne
                  show L.room ≤ min fr.1 cs.size
                  omega, fun h => (by cases h)⟩ (fun m hm => by rw [hh', if_neg hm]) (by simp [World.freeze]) rfl rfl rfl
            refine outv ⟨a.eval x, _, ?_, E, ?_, hstep⟩
            · rw [hxe]
              exact convert_mark h1 (by rw [h1] at h2; cases h2; exact he) hmk
            · exact ⟨L, off, c', hL, hxe, g1, g2, g3, g4, g5⟩
          · cases hv
        · cases hv
      · cases hc
    · cases hc
  | sliceToArrayPointer t x => simp [cOp] at hc
  | makeInterface t x => simp only [cOp] at hc; split at hc <;> cases hc; cases hk
  | makeFunc fn first captured =>
    cases fn with
    | func f =>
      simp only [cOp] at hc
      split at hc
      · cases hc; cases hk
      · split at hc <;> cases hc; cases hk
      · cases hc
    | _ => simp [cOp] at hc
  | makeMap t r =>
    cases r with
    | none => simp only [cOp] at hc; split at hc <;> cases hc; cases hk
    | some r => simp [cOp] at hc
  | makeChan t x => simp [cOp] at hc
  | makeSlice t l c =>
    simp only [cOp] at hc
    split at hc
    · split at hc
      · obtain ⟨_, hc⟩ := cond_some hc; cases hc; cases hk
      · cases hc
    · cases hc
  | slice t x lo hi mx =>
    simp only [cOp] at hc
    split at hc
    · split at hc
      · split at hc <;> cases hc; cases hk
      · split at hc <;> cases hc; cases hk
      · split at hc <;> cases hc; cases hk
      · split at hc
        · split at hc <;> cases hc; cases hk
        · cases hc
      · cases hc
    · cases hc
  | fieldAddr t x f =>
    simp only [cOp] at hc
    split at hc
    · split at hc
      · split at hc <;> cases hc; cases hk
      · cases hc
    · cases hc
  | field t x f =>
    simp only [cOp] at hc
    split at hc
    · split at hc
      · split at hc <;> cases hc <;> cases hk
      · cases hc
    · cases hc
  | indexAddr t x i =>
    simp only [cOp] at hc
    split at hc
    · split at hc <;> cases hc; cases hk
    · split at hc <;> cases hc; cases hk
    · cases hc
  | index t x i =>
    simp only [cOp] at hc
    split at hc
    · split at hc <;> cases hc <;> cases hk
    · cases hc; cases hk
    · cases hc
  | lookup t m k ok =>
    simp only [cOp] at hc
    split at hc
    · split at hc <;> cases hc <;> cases hk
    · cases hc
  | mapUpdate t m k x =>
    simp only [cOp] at hc
    exact outu (map_mupd cfg call hr hG ht hc hv)
  | mapEntry t m k => simp [cOp] at hc
  | entryStore t m st x => simp [cOp] at hc
  | range t x =>
    simp only [cOp] at hc
    split at hc
    · rename_i x' hu hx
      cases hc
      simp only [IOp.eff] at hv
      split at hv
      · rename_i l hl
        cases hv
        obtain ⟨st, hst, hs⟩ := evC_sound hG ht hx hl
        refine outv ⟨.pointer (some ⟨w.heap.size, 0, none⟩), _, ?_, _, ptr_new (room := 0), new_step hr.toRel0 (nx_lt_of_new hf) (.siter l 0) (.stringIter st 0) 0 ⟨st, by simp, rfl, hs⟩⟩
        rw [hst]
        simp [Instr.range, run_underlying hu]
      · cases hv
    · cases hc
  | next x b =>
    cases b
    · simp [cOp] at hc
    · obtain ⟨y, hy, rfl⟩ := map_eq_some' hc
      simp only [IOp.eff] at hv
      split at hv
      · rename_i b hl
        split at hv
        · rename_i l p hg
          obtain ⟨L, hL, st, hh, hsh, hs⟩ := hr.obj b _ hg
          obtain ⟨L', hL', hxe⟩ := evC_sound hG ht hy hl
          obtain rfl : L = L' := by rw [hL] at hL'; exact Option.some.inj hL'
          rw [Nat.zero_add, hsh] at hxe
          have hget : (getObj L.blk).run P w = .ok (.stringIter st p) w := by simp [getObj, Sem.run, hh]
          split at hv
          · rename_i hp
            cases hv
            refine outv ⟨.tuple #[.bool false], w, ?_, E, ⟨[.bool false], rfl, .cons rfl .nil⟩, Step.refl hr⟩
            unfold Instr.next
            simp only [hxe, Sem.run_bind, hget, Result.andThen_ok]
            rw [Sem.run_ite, if_neg (str_end hs hp)]
            rfl
          · rename_i c hp
            obtain ⟨hlt, hv⟩ := cond_some hv
            cases hv
            have hlt := blt_true hlt
            have hdec := decode_ascii (bytes_get! hs hp) hlt
            have hlt2 : L.blk < w.heap.size := (Array.getElem?_eq_some_iff.1 hh).1
            have hset : (setObj L.blk (.stringIter st (p + 1))).run P w = .ok () { w with heap := w.heap.setIfInBounds L.blk (.stringIter st (p + 1)) } := by simp [setObj, Sem.run, hh]
            have hstep := put_step hr hg hL (o := .siter l (p + 1)) (w' := { w with heap := w.heap.setIfInBounds L.blk (.stringIter st (p + 1)) })
              ⟨st, by simp [hlt2], hsh, hs⟩ (fun m hm => by simp [Array.getElem?_setIfInBounds_ne (fun e => hm e.symm)]) (by simp) rfl rfl rfl
            refine outv ⟨.tuple #[.bool true, goInt p, .int .i32 c], _, ?_, E, ⟨[.bool true, goInt p, .int .i32 c], rfl, .cons rfl (.cons rfl (.cons rfl .nil))⟩, hstep⟩
            unfold Instr.next
            simp only [hxe, Sem.run_bind, hget, Result.andThen_ok]
            rw [Sem.run_ite, if_pos (str_in hs hp)]
            simp only [hdec, Sem.run_bind, hset, Result.andThen_ok, Sem.run_pure]
        · cases hv
      · cases hv
  | entry x => simp [cOp] at hc
  | typeAssert x t1 t2 ok => simp [cOp] at hc
  | extract x i => obtain ⟨y, hy, rfl⟩ := map_eq_some' hc; cases hk
  | call c =>
    simp only [cOp] at hc
    split at hc
    · rename_i b hcal
      have hexec : execOp a.eval ⟨dst, .call c, type, pos, after, guard⟩ = builtin b c.argTypes type (c.args.map fun | .const _ => true | _ => false) (c.args.map a.eval) := by
        simp only [execOp, resolve, hcal]
        rfl
      rw [hexec]
      exact bltin_sound cfg call hr hG ht hc hk hv hf type _
    · rename_i f hcal
      split at hc
      · rename_i l hl
        cases hc
        simp only [IOp.eff] at hv
        split at hv
        · rename_i ars hars
          have hexec : execOp a.eval ⟨dst, .call c, type, pos, after, guard⟩ = callFunc f (c.args.map a.eval) := by
            simp only [execOp, resolve, hcal]
            show invoke (.fn (.func f) #[]) (#[] ++ c.args.map a.eval) = _
            simp [invoke]
          rw [hexec]
          exact hcs f ars s v s' hv E w _ hr hG hn hf (by simpa using evAs_sound hG ht hl hars)
        · cases hv
      · cases hc
    · rename_i f hnf hcal
      split at hc
      · rename_i f' l hfo hl
        cases hc
        have hexec : ∀ g first cap, a.eval f = .func (.func g) first cap → execOp a.eval ⟨dst, .call c, type, pos, after, guard⟩ = callFunc g ((first ++ c.args.map a.eval) ++ cap) := by
          intro g first cap he
          simp only [execOp, resolve, hcal, he]
          rfl
        simp only [IOp.eff] at hv
        split at hv
        · rename_i g ars h1 h2
          rw [hexec g #[] #[] (evC_sound hG ht hfo h1)]
          exact hcs g ars s v s' hv E w _ hr hG hn hf (by simpa using evAs_sound hG ht hl h2)
        · rename_i g q ars h1 h2
          obtain ⟨z, hz, hxe⟩ := evC_sound hG ht hfo h1
          rw [hexec g #[] #[z] hxe]
          refine hcs g _ s v s' hv E w _ hr hG hn hf ?_
          simpa using (evAs_sound hG ht hl h2).append (All2.cons (R := ARel E) (a := A.c q) (b := z) hz .nil)
        · rename_i g q q' ars h1 h2
          obtain ⟨z, z', hz, hz', hxe⟩ := evC_sound hG ht hfo h1
          rw [hexec g #[] #[z, z'] hxe]
          refine hcs g _ s v s' hv E w _ hr hG hn hf ?_
          simpa using (evAs_sound hG ht hl h2).append (All2.cons (R := ARel E) (a := A.c q) (b := z) hz (All2.cons (R := ARel E) (a := A.c q') (b := z') hz' .nil))
        · rename_i g q ars h1 h2
          obtain ⟨z, hz, hxe⟩ := evC_sound hG ht hfo h1
          rw [hexec g #[z] #[] hxe]
          refine hcs g _ s v s' hv E w _ hr hG hn hf ?_
          simpa using All2.cons (R := ARel E) (a := A.c q) (b := z) hz (evAs_sound hG ht hl h2)
        · cases hv
      · cases hc
    · rename_i r m hcal
      split at hc
      · rename_i r' l hro hl
        cases hc
        simp only [IOp.eff] at hv
        split at hv
        · rename_i t q ars h1 h2
          split at hv
          · rename_i g hg
            obtain ⟨z, hz, hxe⟩ := evC_sound hG ht hro h1
            have hexec : (execOp a.eval ⟨dst, .call c, type, pos, after, guard⟩).run P w = (callFunc g (#[z] ++ c.args.map a.eval)).run P w := by
              have : execOp a.eval ⟨dst, .call c, type, pos, after, guard⟩ = callMethod (.iface t z) m (c.args.map a.eval) := by
                simp only [execOp, resolve, hcal, hxe]
                show invoke (.fn (.method m) #[]) (#[Value.iface t z] ++ c.args.map a.eval) = _
                have e0 : (#[Value.iface t z] ++ c.args.map a.eval)[0]? = some (Value.iface t z) := by rw [Array.getElem?_append_left (by simp)]; rfl
                have e1 : (#[Value.iface t z] ++ c.args.map a.eval).extract 1 (#[Value.iface t z] ++ c.args.map a.eval).size = c.args.map a.eval := by
                  apply Array.ext'
                  simp [List.take_of_length_le]
                simp only [invoke, e0, e1]
              rw [this]
              exact callMethod_sound cfg hms hg z _
            rw [hexec]
            refine hcs g _ s v s' hv E w _ hr hG hn hf ?_
            simpa using All2.cons (R := ARel E) (a := A.c q) (b := z) hz (evAs_sound hG ht hl h2)
          · cases hv
        · cases hv
      · cases hc
  | go c => simp [cOp] at hc
  | defer c => simp [cOp] at hc
  | panic x => simp [cOp] at hc
  | send x y => simp [cOp] at hc
  | recv t x ok => simp [cOp] at hc
  | select cs b => simp [cOp] at hc

end
end Go.AX

namespace Go.AX
open Go

def CallUp (call : Nat → List A → St → Option (V × St)) : Prop := ∀ f args s v s', call f args s = some (v, s') → s.nx ≤ s'.nx

theorem storeN_nx {s s' : St} {b o : Nat} {l : List C} (h : s.storeN b o l = some s') : s'.nx = s.nx := by
  unfold St.storeN at h
  split at h
  · obtain ⟨_, h⟩ := cond_some h; cases h; rfl
  · cases h
theorem copyTo_nx {size d o n : Nat} {l : List C} {s s' : St} {v : V} (h : copyTo size d o n l s = some (v, s')) : s.nx ≤ s'.nx := by
  unfold copyTo at h
  cases h0 : Nat.beq n 0
  · rw [h0] at h
    simp only [cond_false] at h
    split at h
    · rename_i hs; cases h; rw [storeN_nx hs]; exact Nat.le_refl _
    · cases h
  · rw [h0] at h; cases h; exact Nat.le_refl _
theorem appendTo_nx {size bytes n : Nat} {l : List C} {s s' : St} {c : C} {v : V} (h : appendTo size bytes n l s c = some (v, s')) : s.nx ≤ s'.nx := by
  cases c <;> simp only [appendTo] at h <;> try (cases h; done)
  · cases h0 : Nat.beq n 0
    · rw [h0] at h
      simp only [cond_false] at h
      obtain ⟨_, h⟩ := cond_some h
      cases h; simp
    · rw [h0] at h; cases h; exact Nat.le_refl _
  · rename_i b o k c z ex
    cases h0 : Nat.beq n 0
    · rw [h0] at h
      simp only [cond_false] at h
      obtain ⟨_, h⟩ := cond_some h
      cases h1 : Nat.ble (Nat.add k n) c
      · rw [h1] at h
        simp only [cond_false] at h
        obtain ⟨_, h⟩ := cond_some h
        split at h
        · obtain ⟨_, h⟩ := cond_some h
          cases h
          cases ex <;> simp
        · cases h
      · rw [h1] at h
        simp only [cond_true] at h
        split at h
        · rename_i hs; cases h; rw [storeN_nx hs]; exact Nat.le_refl _
        · cases h
    · rw [h0] at h; cases h; exact Nat.le_refl _

theorem zeros_nx {q r : Bool} {o : Obj} {v1 v2 v : V} {s s' : St} (h : (bif q then some (v1, s) else bif r then some (v2, s.new o) else none) = some (v, s')) : s.nx ≤ s'.nx := by
  cases q <;> cases r <;> cases h <;> simp

theorem eff_nx {cfg : Cfg} {call : Nat → List A → St → Option (V × St)} (hu : CallUp call) {tm : Tm} {s s' : St} {o : IOp} {v : V} (h : o.eff cfg call tm s = some (v, s')) : s.nx ≤ s'.nx := by
  cases o <;> simp only [IOp.eff] at h <;> first
    | (cases h; done)
    | (cases h; simp; done)
    | skip
  all_goals (repeat' split at h)
  all_goals first
    | (cases h; done)
    | (cases h; simp; done)
    | exact hu _ _ _ _ _ h
    | exact copyTo_nx h
    | exact appendTo_nx h
    | exact zeros_nx h
    | (obtain ⟨_, h⟩ := cond_some h; cases h; simp; done)
    | (cases h; rename_i hs; rw [storeN_nx hs]; exact Nat.le_refl _)
    | (obtain ⟨_, h⟩ := cond_some h; cases h; done)
    | (obtain ⟨_, h⟩ := cond_some h; cases h; rename_i hs; rw [storeN_nx hs]; exact Nat.le_refl _)
    | (rename_i hs
       have key : ∀ s2 : St, s2.nx = s.nx → ∀ q : Bool, (bif q then some (V.tup [], s) else some (V.tup [], s2)) = some (v, s') → s.nx ≤ s'.nx := fun s2 h2 q hq => by
         cases q <;> cases hq
         · rw [h2]; exact Nat.le_refl _
         · exact Nat.le_refl _
       exact key _ (storeN_nx hs) _ h)
end Go.AX

namespace Go.AX
open Go

theorem run_nx {cfg : Cfg} {call : Nat → List A → St → Option (V × St)} (hu : CallUp call) {tm : Tm} {s s' : St} {o : IOp} {v : V} (h : o.run cfg call tm s = some (v, s')) : s.nx ≤ s'.nx := by
  unfold IOp.run at h
  split at h
  · unfold same at h; split at h
    · cases h; exact Nat.le_refl _
    · cases h
  · unfold same at h; split at h
    · cases h; exact Nat.le_refl _
    · cases h
  · exact eff_nx hu h
theorem runOper_nx {cfg : Cfg} {call : Nat → List A → St → Option (V × St)} (hu : CallUp call) {tm tm' : Tm} {s s' : St} {o : IOper} (h : runOper cfg call o tm s = some (tm', s')) : s.nx ≤ s'.nx := by
  unfold runOper at h
  split at h
  · split at h
    · rename_i hr; cases h; exact run_nx hu hr
    · cases h
  · cases h; exact Nat.le_refl _
  · cases h
theorem runOps_nx {cfg : Cfg} {call : Nat → List A → St → Option (V × St)} (hu : CallUp call) : ∀ {l : List IOper} {tm tm' : Tm} {s s' : St}, runOps cfg call l tm s = some (tm', s') → s.nx ≤ s'.nx
  | [], _, _, _, _, h => by simp only [runOps] at h; cases h; exact Nat.le_refl _
  | o :: l, _, _, _, _, h => by
    simp only [runOps] at h
    split at h
    · rename_i ho; exact Nat.le_trans (runOper_nx hu ho) (runOps_nx hu h)
    · cases h

section
variable {P : Program} {E : Env} {nt : Nat} {tm : Tm} {a : Act} {s : St} {w : World}

/-- The state of a body, and of the machine. -/
structure Inv (P : Program) (nt : Nat) (E : Env) (s : St) (w : World) (tm : Tm) (a : Act) : Prop where
  rel : Rel E s w
  tr : TRel E nt tm a
  g : GOk P E
  n : P.globals.size ≤ s.nx

theorem GOk.step {E' : Env} {s' : St} {w' : World} (hG : GOk P E) (hn : P.globals.size ≤ s.nx) (h : Step E s w E' s' w') : GOk P E' := fun g hg => by
  obtain ⟨r, hr⟩ := hG g hg
  exact ⟨r, by rw [h.out g (.inl (by omega))]; exact hr⟩

theorem Fresh.rest {E' : Env} {s' s'' : St} {w' : World} (hf : Fresh E s.nx s''.nx) (h : Step E s w E' s' w') (hle : s'.nx ≤ s''.nx) : Fresh E s.nx s'.nx ∧ Fresh E' s'.nx s''.nx :=
  ⟨fun b h1 h2 => hf b h1 (by omega), fun b h1 h2 => by rw [h.out b (.inr h1)]; exact hf b (by have := h.nx; omega) h2⟩

theorem TRel.put (ht : TRel E nt tm a) {v : V} {x : Value} (hv : VRel E v x) {d : Option Tmp} {d' : Option Pos} (hd : (d = none ∧ d' = none) ∨ ∃ t, d = some t ∧ d' = some (.ofNat t) ∧ t < nt) : TRel E nt (putT tm d' v) (a.put d x) := by
  rcases hd with ⟨rfl, rfl⟩ | ⟨t, rfl, rfl, hlt⟩
  · exact ht
  · refine ⟨by simp [Act.put, ht.1], fun p u hp => ?_⟩
    simp only [putT] at hp
    rw [T.get_set] at hp
    by_cases hpt : Pos.ofNat t = p
    · subst hpt
      rw [if_pos rfl] at hp
      cases hp
      refine ⟨by simpa using hlt, ?_⟩
      simp only [Act.put, Pos.toNat_ofNat, Array.getD_eq_getD_getElem?]
      rw [Array.getElem?_setIfInBounds_self_of_lt (by rw [ht.1]; exact hlt)]
      exact hv
    · rw [if_neg hpt] at hp
      obtain ⟨h1, h2⟩ := ht.2 p u hp
      refine ⟨h1, ?_⟩
      have : t ≠ p.toNat := fun e => hpt (by rw [e, Pos.ofNat_toNat])
      simp only [Act.put, Array.getD_eq_getD_getElem?]
      rw [Array.getElem?_setIfInBounds_ne this]
      simpa [Array.getD_eq_getD_getElem?] using h2

theorem cOper_spec {ops : Array Oper} {o : Oper} {io : IOper} (h : cOper P nt ops o = some io) :
    (cOp P nt o.op = some io.op ∨ io.op = .bad) ∧ ((o.dst = none ∧ io.dst = none) ∨ ∃ t, o.dst = some t ∧ io.dst = some (.ofNat t) ∧ t < nt) ∧
    ((o.guard = none ∧ io.guard = none) ∨ ∃ j wt d, o.guard = some (j, wt) ∧ (ops[j]?).bind (·.dst) = some d ∧ d < nt ∧ io.guard = some (.ofNat d, wt)) := by
  unfold cOper at h
  simp only at h
  have hop : ∀ op, op = (match cOp P nt o.op with | some op => op | none => .bad) → cOp P nt o.op = some op ∨ op = .bad := by
    intro op e
    split at e
    · rename_i q hq; subst e; exact .inl hq
    · exact .inr e
  split at h
  · cases h
  · rename_i dst hdst
    have hd : (o.dst = none ∧ dst = none) ∨ ∃ t, o.dst = some t ∧ dst = some (.ofNat t) ∧ t < nt := by
      split at hdst
      · rename_i e; cases hdst; exact .inl ⟨e, rfl⟩
      · rename_i d e
        split at hdst
        · rename_i hlt; cases hdst; exact .inr ⟨d, e, rfl, hlt⟩
        · cases hdst
    split at h
    · rename_i hg
      cases h
      exact ⟨hop _ rfl, hd, .inl ⟨hg, rfl⟩⟩
    · rename_i j wt hg
      split at h
      · rename_i d hjd
        split at h
        · rename_i hlt
          cases h
          exact ⟨hop _ rfl, hd, .inr ⟨j, wt, d, hg, hjd, hlt, rfl⟩⟩
        · cases h
      · cases h

theorem wanted_sound (ht : TRel E nt tm a) {ops : Array Oper} {o : Oper} {g : Option (Pos × Bool)}
    (hg : (o.guard = none ∧ g = none) ∨ ∃ j wt d, o.guard = some (j, wt) ∧ (ops[j]?).bind (·.dst) = some d ∧ d < nt ∧ g = some (.ofNat d, wt)) {b : Bool} (h : wantedI tm g = some b) :
    Region.wanted o (yielded ops a.tmps) = b := by
  rcases hg with ⟨h1, rfl⟩ | ⟨j, wt, d, h1, h2, h3, rfl⟩
  · simp only [wantedI] at h; cases h
    simp [Region.wanted, h1]
  · have hy : ∀ v, tm.get (.ofNat d) = some v → VRel E v (a.tmps.getD d undef) := fun v hv => by have := (ht.2 _ v hv).2; rwa [Pos.toNat_ofNat] at this
    have hlt : d < a.tmps.size := by rw [ht.1]; exact h3
    have hgd : a.tmps[d]? = some (a.tmps.getD d undef) := by simp [Array.getD, hlt]
    simp only [wantedI] at h
    split at h
    · rename_i q hq
      have hv : a.tmps.getD d undef = .bool q := hy _ hq
      have : yielded ops a.tmps j = some q := by simp [yielded, h2, hgd, hv]
      simp only [Region.wanted, h1, this]
      cases q <;> cases wt <;> cases h <;> rfl
    · rename_i hq
      obtain ⟨vs, hv, hvs⟩ := hy _ hq
      cases hvs
      cases h
      have : yielded ops a.tmps j = none := by simp [yielded, h2, hgd, hv]
      simp [Region.wanted, h1, this]
    · cases h

/-- One operation, whatever it is. -/
theorem run_sound (cfg : Cfg) (hms : MethSound P cfg) {call : Nat → List A → St → Option (V × St)} (hcs : CallSound P call) (hi : Inv P nt E s w tm a) {o : Oper} {iop : IOp}
    (hc : cOp P nt o.op = some iop ∨ iop = .bad) {v : V} {s' : St} (hv : iop.run cfg call tm s = some (v, s')) (hf : Fresh E s.nx s'.nx) : Outc P (Left E s w v s') ((execOp a.eval o).run P w) := by
  rcases hc with hc | rfl
  · have hval : iop.kind = .pure ∨ iop.kind = .read → Outc P (Left E s w v s') ((execOp a.eval o).run P w) := by
      intro hk
      have hv' : same s (iop.val tm s) = some (v, s') := by
        unfold IOp.run at hv
        rcases hk with hk | hk <;> rw [hk] at hv <;> exact hv
      unfold same at hv'
      split at hv'
      · rename_i v' hvv
        cases hv'
        obtain ⟨x, h1, h2⟩ := val_sound hi.rel hi.g hi.tr hc hvv
        rw [h1]
        exact ⟨E, h2, Step.refl hi.rel⟩
      · cases hv'
    cases hk : iop.kind with
    | pure => exact hval (.inl hk)
    | read => exact hval (.inr hk)
    | alloc =>
      have hv' : iop.eff cfg call tm s = some (v, s') := by unfold IOp.run at hv; rw [hk] at hv; exact hv
      have hnx : s.nx < s'.nx := alloc_nx hk hv'
      obtain ⟨x, w', room, h1, h2, h3⟩ := alloc_sound cfg call hi.rel hi.g hi.tr hc hk hv' (hf s.nx (Nat.le_refl _) hnx)
      rw [h1]
      exact ⟨_, h2, h3⟩
    | effect =>
      have hv' : iop.eff cfg call tm s = some (v, s') := by unfold IOp.run at hv; rw [hk] at hv; exact hv
      exact eff_sound cfg hms hcs hi.rel hi.g hi.n hi.tr hc hk hv' hf
  · simp [IOp.run, IOp.kind, IOp.eff] at hv
where
  alloc_nx {cfg : Cfg} {call : Nat → List A → St → Option (V × St)} {iop : IOp} {tm : Tm} {s s' : St} {v : V} (hk : iop.kind = .alloc) (hv : iop.eff cfg call tm s = some (v, s')) : s.nx < s'.nx := by
    cases iop <;> simp only [IOp.kind] at hk <;> try (cases hk; done)
    all_goals simp only [IOp.eff] at hv
    · cases hv; simp
    · split at hv
      · cases hv; simp
      · cases hv
    · split at hv
      · cases hv; simp
      · cases hv
    · cases hv; simp
    · split at hv
      · obtain ⟨_, hv⟩ := cond_some hv
        split at hv
        · cases hv; simp
        · split at hv <;> cases hv <;> simp
      · cases hv
    · rename_i k x
      cases k <;> simp at hk

theorem upon_of_outc {o : Oper} {next : Act → World → Prop} {Q : Exit → Act → World → Prop} {Φ : Value → World → Prop} {r : Result Next} (h : Outc P Φ r) (hn : ∀ x w', Φ x w' → next (a.put o.dst x) w') : o.upon P a next Q r := by
  cases r with
  | ok n w' =>
    cases n <;> simp only [Outc] at h <;> simp only [Oper.upon]
    · exact hn _ _ h
    · exact hn _ _ h
    · refine Calls.mono h fun e w'' ⟨x, h1, h2⟩ => ?_
      subst h1
      exact hn _ _ h2
    all_goals exact h.elim
  | halt x w' => exact h.elim

/-- A run of operations, in the order of the text. -/
theorem ops_sound (cfg : Cfg) (hms : MethSound P cfg) {call : Nat → List A → St → Option (V × St)} (hcs : CallSound P call) (hup : CallUp call) {ops : Array Oper} {Q : Exit → Act → World → Prop} :
    ∀ {l : List Oper} {l' : List IOper} (i : Nat), (∀ j, l[j]? = ops[i + j]?) → cOpers P nt ops l = some l' → ∀ {E : Env} {s s' : St} {w : World} {tm tm' : Tm} {a : Act}, Inv P nt E s w tm a → runOps cfg call l' tm s = some (tm', s') → Fresh E s.nx s'.nx →
      (∀ E' a' w', Inv P nt E' s' w' tm' a' → Step E s w E' s' w' → a'.defers = a.defers → Q .normal a' w') → wpOps P ops Q (List.range' i l.length) a w
  | [], l', i, _, hc, E, s, s', w, tm, tm', a, hi, hrun, hf, hQ => by
    simp only [cOpers] at hc; cases hc
    simp only [runOps] at hrun; cases hrun
    exact hQ E a w hi (Step.refl hi.rel) rfl
  | o :: l, l', i, hl, hc, E, s, s', w, tm, tm', a, hi, hrun, hf, hQ => by
    unfold cOpers at hc
    split at hc
    · rename_i io r ho hr
      cases hc
      simp only [runOps] at hrun
      split at hrun
      · rename_i tm1 s1 h1
        have hoi : ops[i]? = some o := by have := hl 0; simpa using this.symm
        have hle := runOps_nx hup hrun
        obtain ⟨hop, hd, hg⟩ := cOper_spec ho
        simp only [List.length_cons, List.range'_succ, wpOps, hoi]
        have hl' : ∀ j, l[j]? = ops[i + 1 + j]? := fun j => by have := hl (j + 1); rw [show i + 1 + j = i + (j + 1) by omega]; simpa using this
        unfold runOper at h1
        split at h1
        · rename_i hw
          split at h1
          · rename_i v s1' hv
            cases h1
            rw [wanted_sound hi.tr hg hw, if_pos rfl]
            refine .inl ?_
            unfold Oper.wp
            have hf1 : Fresh E s.nx s1.nx := fun b h1 h2 => hf b h1 (by omega)
            refine upon_of_outc (run_sound cfg hms hcs hi hop hv hf1) fun x w' ⟨E', hx, hst⟩ => ?_
            have hfr := hf.rest hst hle
            have hle' := hst.le hfr.1
            have hi' : Inv P nt E' s1 w' (putT tm io.dst v) (a.put o.dst x) := ⟨hst.up hi.rel hle', (hi.tr.mono hle').put hx hd, hi.g.step hi.n hst, Nat.le_trans hi.n hst.nx⟩
            refine ops_sound cfg hms hcs hup (i + 1) hl' hr hi' hrun hfr.2 fun E'' a' w'' hi'' hst' hde => hQ E'' a' w'' hi'' (hst.trans hst') (hde.trans ?_)
            cases o.dst <;> rfl
          · cases h1
        · rename_i hw
          cases h1
          rw [wanted_sound hi.tr hg hw, if_neg (by simp)]
          have hi' : Inv P nt E s w (putT tm io.dst (.tup [])) (a.put o.dst undef) := ⟨hi.rel, hi.tr.put (VRel.undef E) hd, hi.g, hi.n⟩
          refine ops_sound cfg hms hcs hup (i + 1) hl' hr hi' hrun hf fun E'' a' w'' hi'' hst' hde => hQ E'' a' w'' hi'' hst' (hde.trans ?_)
          cases o.dst <;> rfl
        · cases h1
      · cases hrun
    · cases hc

end
end Go.AX

namespace Go.AX
open Go

section
variable {tm tm2 : Tm}
theorem evA_congr {x : Opd} (h : ev tm x = ev tm2 x) : evA tm x = evA tm2 x := by unfold evA; rw [h]
theorem evC_congr {x : Opd} (h : ev tm x = ev tm2 x) : evC tm x = evC tm2 x := by unfold evC; rw [h]
theorem evI_congr {x : Opd} (h : ev tm x = ev tm2 x) : evI tm x = evI tm2 x := by unfold evI; rw [h]
theorem evAs_congr : ∀ {l : List Opd}, (∀ x ∈ l, ev tm x = ev tm2 x) → evAs tm l = evAs tm2 l
  | [], _ => rfl
  | x :: l, h => by simp only [evAs]; rw [evA_congr (h x (by simp)), evAs_congr (l := l) fun y hy => h y (by simp [hy])]
theorem evCs_congr : ∀ {l : List Opd}, (∀ x ∈ l, ev tm x = ev tm2 x) → evCs tm l = evCs tm2 l
  | [], _ => rfl
  | x :: l, h => by simp only [evCs]; rw [evC_congr (h x (by simp)), evCs_congr (l := l) fun y hy => h y (by simp [hy])]
theorem fillParts_congr : ∀ {l : List (Nat × Nat × Opd)} {cs : List C}, (∀ x ∈ l.map (·.2.2), ev tm x = ev tm2 x) → fillParts tm cs l = fillParts tm2 cs l
  | [], _, _ => rfl
  | (o, n, x) :: l, cs, h => by
    simp only [fillParts]; rw [evA_congr (h x (by simp))]
    split
    · rw [fillParts_congr (l := l) fun y hy => h y (by simp at hy ⊢; exact .inr hy)]
    · rfl
theorem boundAt_congr {x : Option Opd} (h : ∀ y ∈ x.toList, ev tm y = ev tm2 y) (d n : Nat) : boundAt tm x d n = boundAt tm2 x d n := by
  cases x with
  | none => rfl
  | some y => unfold boundAt; simp only; rw [evI_congr (h y (by simp))]
theorem bounds_congr {a b : Nat} {lo hi mx : Option Opd} (h1 : ∀ y ∈ lo.toList, ev tm y = ev tm2 y) (h2 : ∀ y ∈ hi.toList, ev tm y = ev tm2 y) (h3 : ∀ y ∈ mx.toList, ev tm y = ev tm2 y) :
    bounds tm a b lo hi mx = bounds tm2 a b lo hi mx := by
  unfold bounds
  simp only [boundAt_congr h1, boundAt_congr h2, boundAt_congr h3]

theorem val_congr {o : IOp} {s : St} (h : ∀ x ∈ o.opds, ev tm x = ev tm2 x) : o.val tm s = o.val tm2 s := by
  cases o <;> simp only [IOp.opds, List.mem_cons, List.not_mem_nil, or_false, forall_eq_or_imp, forall_eq, List.mem_append] at h <;> simp only [IOp.val]
  case mov x => exact h
  case pick c a b => rw [evC_congr h.1, h.2.1, h.2.2]
  case build z ps => rw [fillParts_congr h]
  case mkfn f cs => rw [evCs_congr h]
  case slcS x lo hi =>
    rw [evC_congr h.1]
    simp only [bounds_congr (mx := none) (fun y hy => h.2 y (.inl hy)) (fun y hy => h.2 y (.inr hy)) (by simp)]
  case slcV n x lo hi mx =>
    rw [evC_congr h.1]
    simp only [bounds_congr (fun y hy => h.2 y (.inl (.inl hy))) (fun y hy => h.2 y (.inl (.inr hy))) (fun y hy => h.2 y (.inr hy))]
  case slcA n k x lo hi =>
    rw [evC_congr h.1]
    simp only [bounds_congr (mx := none) (fun y hy => h.2 y (.inl hy)) (fun y hy => h.2 y (.inr hy)) (by simp)]
  case min xs => rw [evCs_congr h]
  case max xs => rw [evCs_congr h]
  case ext x i => rw [h]
  all_goals first
    | rfl
    | rw [evC_congr h]
    | rw [evA_congr h]
    | rw [evA_congr h.1, evA_congr h.2]
    | rw [evC_congr h.1, evC_congr h.2]
    | rw [evC_congr h.1, evI_congr h.2]
    | rw [evA_congr h.1, evI_congr h.2]

theorem eff_congr {cfg : Cfg} {call : Nat → List A → St → Option (V × St)} {o : IOp} {s : St} (h : ∀ x ∈ o.opds, ev tm x = ev tm2 x) : o.eff cfg call tm s = o.eff cfg call tm2 s := by
  cases o <;> simp only [IOp.opds, List.mem_cons, List.not_mem_nil, or_false, forall_eq_or_imp, forall_eq, List.mem_append] at h <;> simp only [IOp.eff]
  case bslice n k z ps => rw [fillParts_congr h]
  case call f as => rw [evAs_congr h]
  case callv f as => rw [evC_congr h.1, evAs_congr h.2]
  case invoke r m as => rw [evC_congr h.1, evAs_congr h.2]
  case mupd => rw [evC_congr h.1, evC_congr h.2.1, evA_congr h.2.2]
  case appendZ => rw [evC_congr h.1, evI_congr h.2]
  all_goals first
    | rfl
    | rw [evC_congr h]
    | rw [evA_congr h]
    | rw [evC_congr h.1, evA_congr h.2]
    | rw [evC_congr h.1, evC_congr h.2]
    | rw [evI_congr h.1, evI_congr h.2]

theorem run_congr {cfg : Cfg} {call : Nat → List A → St → Option (V × St)} {o : IOp} {s : St} (h : ∀ x ∈ o.opds, ev tm x = ev tm2 x) : o.run cfg call tm s = o.run cfg call tm2 s := by
  unfold IOp.run
  rw [val_congr h, eff_congr h]

theorem val_pure {o : IOp} (hk : o.kind = .pure) (s s2 : St) : o.val tm s = o.val tm s2 := by
  cases o <;> first
    | rfl
    | (cases hk; done)
    | (rename_i k x; cases k <;> first | rfl | (cases hk; done))

theorem alloc_new {cfg : Cfg} {call : Nat → List A → St → Option (V × St)} {o : IOp} (hk : o.kind = .alloc) {s s' : St} {v : V} (h : o.eff cfg call tm s = some (v, s')) :
    ∃ x, s' = s.new x ∧ ∀ s2 : St, s2.nx = s.nx → o.eff cfg call tm s2 = some (v, s2.new x) := by
  cases o <;> simp only [IOp.kind] at hk <;> try (cases hk; done)
  all_goals simp only [IOp.eff] at h ⊢
  case len k x => cases k <;> simp at hk
  case alloc z => cases h; exact ⟨_, rfl, fun s2 h2 => by rw [h2]⟩
  case mkmap => cases h; exact ⟨_, rfl, fun s2 h2 => by rw [h2]⟩
  case box x =>
    split at h
    · rename_i he; cases h; exact ⟨_, rfl, fun s2 h2 => by simp only [he, h2]⟩
    · cases h
  case bslice n k z ps =>
    split at h
    · rename_i he; cases h; exact ⟨_, rfl, fun s2 h2 => by simp only [he, h2]⟩
    · cases h
  case mkslice b z l c =>
    split at h
    · rename_i hl hc
      obtain ⟨hb, h⟩ := cond_some h
      simp only [hl, hc, hb, cond_true]
      split at h
      · cases h; exact ⟨_, rfl, fun s2 h2 => by rw [h2]⟩
      · rename_i hz
        split at h
        · rename_i ha; cases h; exact ⟨_, rfl, fun s2 h2 => by simp only [ha, h2]⟩
        · rename_i ha; cases h; exact ⟨_, rfl, fun s2 h2 => by simp only [ha, h2]⟩
    · cases h
end
end Go.AX

namespace Go.AX
open Go

/-! ### Masks -/
theorem testBit_maskP : ∀ {l : List Pos} {p : Pos}, p ∈ l → (maskP l).testBit p.toNat = true
  | q :: l, p, h => by
    have e : maskP (q :: l) = 2 ^ q.toNat ||| maskP l := rfl
    rw [e, Nat.testBit_or]
    rcases List.mem_cons.1 h with rfl | h
    · simp [Nat.testBit_two_pow_self]
    · simp [testBit_maskP h]
theorem land_zero {a b i : Nat} (h : Nat.beq (Nat.land a b) 0 = true) (ha : a.testBit i = true) (hb : b.testBit i = true) : False := by
  have e : a &&& b = 0 := Nat.eq_of_beq_eq_true h
  have := congrArg (Nat.testBit · i) e
  simp only [Nat.testBit_and, ha, hb, Nat.zero_testBit] at this
  cases this
theorem land_sub {a b i : Nat} (h : Nat.beq (Nat.land a b) a = true) (ha : a.testBit i = true) : b.testBit i = true := by
  have e : a &&& b = a := Nat.eq_of_beq_eq_true h
  have := congrArg (Nat.testBit · i) e
  simp only [Nat.testBit_and, ha, Bool.true_and] at this
  exact this
theorem testBit_aft : ∀ {l : List Edge} {e : Edge}, e ∈ l → Region.binds .any e = true → (aftMask l).testBit e.on = true
  | f :: l, e, h, hb => by
    unfold aftMask
    rcases List.mem_cons.1 h with rfl | h
    · rw [hb, cond_true, show Nat.lor (Nat.pow 2 e.on) (aftMask l) = 2 ^ e.on ||| aftMask l from rfl, Nat.testBit_or]
      simp [Nat.testBit_two_pow_self]
    · have := testBit_aft h hb
      cases Region.binds .any f
      · simpa using this
      · rw [cond_true, show Nat.lor (Nat.pow 2 f.on) (aftMask l) = 2 ^ f.on ||| aftMask l from rfl, Nat.testBit_or, this]; simp

/-! ### What an operation waits for -/
def befStep (acc : Array Nat) (o : Oper) : Nat := o.after.foldl (fun s e => if Region.binds .any e then s ||| 2 ^ e.on ||| acc.getD e.on 0 else s) 0
theorem before_eq (ops : Array Oper) : Region.before ops = ops.toList.foldl (fun acc o => acc.push (befStep acc o)) #[] := by
  unfold Region.before
  rw [← Array.foldl_toList]
  first | done | rfl
theorem befFold (f : Nat → Edge → Nat) (q : Nat) (l : List Edge) (s : Nat) (g : Edge → Prop) (hf : ∀ s e, (f s e).testBit q = true → s.testBit q = true ∨ g e) :
    (l.foldl f s).testBit q = true → s.testBit q = true ∨ ∃ e ∈ l, g e := by
  induction l generalizing s with
  | nil => exact fun h => .inl h
  | cons e l ih =>
    intro h
    rcases ih _ h with h | ⟨e', he', hg⟩
    · rcases hf s e h with h | h
      · exact .inl h
      · exact .inr ⟨e, by simp, h⟩
    · exact .inr ⟨e', by simp [he'], hg⟩
theorem befStep_spec {acc : Array Nat} {o : Oper} {q : Nat} (h : (befStep acc o).testBit q = true) :
    ∃ e ∈ o.after, Region.binds .any e = true ∧ (e.on = q ∨ (acc.getD e.on 0).testBit q = true) := by
  unfold befStep at h
  rw [← Array.foldl_toList] at h
  have := befFold _ q _ 0 (fun e => Region.binds .any e = true ∧ (e.on = q ∨ (acc.getD e.on 0).testBit q = true)) (fun s e h => by
    split at h
    · rename_i hb
      rw [Nat.testBit_or, Nat.testBit_or] at h
      simp only [Bool.or_eq_true] at h
      rcases h with (h | h) | h
      · exact .inl h
      · refine .inr ⟨hb, .inl ?_⟩
        rw [Nat.testBit_two_pow] at h
        simpa using h
      · exact .inr ⟨hb, .inr h⟩
    · exact .inl h) h
  rcases this with h | ⟨e, he, h⟩
  · rw [Nat.zero_testBit] at h; cases h
  · exact ⟨e, by simpa using he, h⟩
def BefSpec (l : List Oper) (acc : Array Nat) : Prop :=
  acc.size = l.length ∧ ∀ r q, (acc.getD r 0).testBit q = true → ∃ o, l[r]? = some o ∧ ∃ e ∈ o.after, Region.binds .any e = true ∧ (e.on = q ∨ (acc.getD e.on 0).testBit q = true)
theorem befSpec_push {l : List Oper} {acc : Array Nat} (h : BefSpec l acc) (o : Oper) : BefSpec (l ++ [o]) (acc.push (befStep acc o)) := by
  have keep : ∀ (q j : Nat), (acc.getD j 0).testBit q = true → ((acc.push (befStep acc o)).getD j 0).testBit q = true := fun q j hj => by
    have hlt : j < acc.size := by
      rcases Nat.lt_or_ge j acc.size with h' | h'
      · exact h'
      · simp [Array.getD, Nat.not_lt.2 h'] at hj
    simpa [Array.getD_eq_getD_getElem?, Array.getElem?_push_lt hlt, hlt] using hj
  refine ⟨by simp [h.1], fun r q hr => ?_⟩
  rcases Nat.lt_trichotomy r acc.size with hlt | he | hgt
  · have : (acc.getD r 0).testBit q = true := by simpa [Array.getD_eq_getD_getElem?, Array.getElem?_push_lt hlt, hlt] using hr
    obtain ⟨o', ho', e, he, hb, hq⟩ := h.2 r q this
    refine ⟨o', ?_, e, he, hb, hq.imp id (keep q _)⟩
    rw [List.getElem?_append_left (by rw [← h.1]; exact hlt)]; exact ho'
  · subst he
    have : (befStep acc o).testBit q = true := by simpa [Array.getD_eq_getD_getElem?] using hr
    obtain ⟨e, he, hb, hq⟩ := befStep_spec this
    refine ⟨o, by rw [h.1]; simp, e, he, hb, hq.imp id (keep q _)⟩
  · have : (acc.push (befStep acc o)).getD r 0 = 0 := by
      rw [Array.getD_eq_getD_getElem?, Array.getElem?_eq_none (by simp; omega)]; rfl
    rw [this] at hr
    simp at hr
theorem befSpec_foldl : ∀ (l l0 : List Oper) (acc : Array Nat), BefSpec l0 acc → BefSpec (l0 ++ l) (l.foldl (fun acc o => acc.push (befStep acc o)) acc)
  | [], l0, acc, h => by simpa using h
  | o :: l, l0, acc, h => by
    have := befSpec_foldl l (l0 ++ [o]) _ (befSpec_push h o)
    simpa using this
theorem before_spec {ops : Array Oper} {r q : Nat} (h : ((Region.before ops).getD r 0).testBit q = true) :
    ∃ o, ops[r]? = some o ∧ ∃ e ∈ o.after, Region.binds .any e = true ∧ (e.on = q ∨ ((Region.before ops).getD e.on 0).testBit q = true) := by
  rw [before_eq] at *
  have := (befSpec_foldl ops.toList [] #[] ⟨rfl, fun r q h => by simp at h⟩).2 r q (by simpa using h)
  simpa using this

/-- All that waits has had what it waits for. -/
def Closed (ops : Array Oper) (listed : Array Bool) : Prop := ∀ r q, listed.getD r false = true → ((Region.before ops).getD r 0).testBit q = true → listed.getD q false = true
theorem ready_waits {ops : Array Oper} {listed : Array Bool} (hc : Closed ops listed) {i : Nat} (hi : i ∈ Region.ready .any ops listed) {q : Nat} (hq : ((Region.before ops).getD i 0).testBit q = true) : listed.getD q false = true := by
  obtain ⟨_, o, ho, ha⟩ := mem_ready.1 hi
  obtain ⟨o', ho', e, he, hb, h⟩ := before_spec hq
  rw [ho] at ho'; cases ho'
  have := ha e he hb
  rcases h with rfl | h
  · exact this
  · exact hc _ _ this h
theorem closed_step {ops : Array Oper} {listed : Array Bool} (hc : Closed ops listed) {i : Nat} (hi : i ∈ Region.ready .any ops listed) : Closed ops (listed.setIfInBounds i true) := by
  intro r q hr hq
  by_cases hri : i = r
  · subst hri; exact getD_set_true (ready_waits hc hi hq)
  · rw [getD_set_ne false hri] at hr
    exact getD_set_true (hc r q hr hq)

/-! ### The order -/
theorem goOk_spec {full : Nat} : ∀ {es : List Ent} {done : Nat}, goOk full es done = true →
    (∀ (i j : Nat) (x y : Ent), i < j → es[i]? = some x → es[j]? = some y → okPair x y = true) ∧
    (∀ (j : Nat) (y : Ent), es[j]? = some y → (∀ b, y.a.testBit b = true → done.testBit b = true ∨ ∃ (i : Nat) (x : Ent), i < j ∧ es[i]? = some x ∧ x.q = b) ∧ done.testBit y.q = false ∧ ∀ (i : Nat) (x : Ent), i < j → es[i]? = some x → x.q ≠ y.q) ∧
    (∀ b, full.testBit b = true → done.testBit b = true ∨ ∃ (k : Nat) (x : Ent), es[k]? = some x ∧ x.q = b)
  | [], done, h => by
    have : done = full := Nat.eq_of_beq_eq_true h
    exact ⟨fun i j x y _ hx => by simp at hx, fun j y hy => by simp at hy, fun b hb => .inl (this ▸ hb)⟩
  | z :: r, done, h => by
    simp only [goOk, Bool.and_eq_true, Bool.not_eq_true', List.all_eq_true] at h
    obtain ⟨⟨h1, h2⟩, h3, h4⟩ := h
    obtain ⟨g1, g2, g3⟩ := goOk_spec h4
    have hor : ∀ b, (Nat.lor done (Nat.pow 2 z.q)).testBit b = true → done.testBit b = true ∨ b = z.q := fun b hb => by
      rw [show Nat.lor done (Nat.pow 2 z.q) = done ||| 2 ^ z.q from rfl, Nat.testBit_or, Nat.testBit_two_pow] at hb
      simp only [Bool.or_eq_true, decide_eq_true_eq] at hb
      exact hb.imp id Eq.symm
    have hnor : ∀ b, (Nat.lor done (Nat.pow 2 z.q)).testBit b = false → done.testBit b = false ∧ b ≠ z.q := fun b hb => by
      rw [show Nat.lor done (Nat.pow 2 z.q) = done ||| 2 ^ z.q from rfl, Nat.testBit_or, Nat.testBit_two_pow] at hb
      simp only [Bool.or_eq_false_iff, decide_eq_false_iff_not] at hb
      exact ⟨hb.1, fun e => hb.2 e.symm⟩
    refine ⟨fun i j x y hij hx hy => ?_, fun j y hy => ?_, fun b hb => ?_⟩
    · cases j with
      | zero => omega
      | succ j =>
        cases i with
        | zero => simp at hx hy; subst hx; exact h3 y (List.mem_of_getElem? hy)
        | succ i => exact g1 i j x y (by omega) (by simpa using hx) (by simpa using hy)
    · cases j with
      | zero =>
        simp at hy; subst hy
        exact ⟨fun b hb => .inl (land_sub h1 hb), h2, fun i x hi => by omega⟩
      | succ j =>
        obtain ⟨k1, k2, k3⟩ := g2 j y (by simpa using hy)
        refine ⟨fun b hb => ?_, (hnor _ k2).1, fun i x hi hx => ?_⟩
        · rcases k1 b hb with h | ⟨i, x, hi, hx, hq⟩
          · rcases hor b h with h | h
            · exact .inl h
            · exact .inr ⟨0, z, by omega, by simp, h.symm⟩
          · exact .inr ⟨i + 1, x, by omega, by simpa using hx, hq⟩
        · cases i with
          | zero => simp at hx; subst hx; exact fun e => (hnor _ k2).2 e.symm
          | succ i => exact k3 i x (by omega) (by simpa using hx)
    · rcases g3 b hb with h | ⟨k, x, hk, hq⟩
      · rcases hor b h with h | h
        · exact .inl h
        · exact .inr ⟨0, z, by simp, h.symm⟩
      · exact .inr ⟨k + 1, x, by simpa using hk, hq⟩

theorem ents_spec {ops : Array Oper} {l : List IOper} {bf : Array Nat} : ∀ {c : List Nat} {es : List Ent}, ents ops l bf c = some es → ∀ {k : Nat} {x : Ent}, es[k]? = some x → ∃ q, entOf ops l bf q = some x
  | [], es, h, k, x, hx => by simp only [ents] at h; cases h; simp at hx
  | q :: c, es, h, k, x, hx => by
    simp only [ents] at h
    split at h
    · rename_i y r hy hr
      cases h
      cases k with
      | zero => simp at hx; subst hx; exact ⟨q, hy⟩
      | succ k => exact ents_spec hr (by simpa using hx)
    · cases h

theorem cOpers_spec {P : Program} {nt : Nat} {ops : Array Oper} : ∀ {l : List Oper} {l' : List IOper}, cOpers P nt ops l = some l' → ∀ {k : Nat} {o : Oper} {io : IOper}, l[k]? = some o → l'[k]? = some io → cOper P nt ops o = some io
  | [], l', h, k, o, io, ho, hio => by simp at ho
  | x :: l, l', h, k, o, io, ho, hio => by
    unfold cOpers at h
    split at h
    · rename_i a b ha hb
      cases h
      cases k with
      | zero => simp at ho hio; subst ho; subst hio; exact ha
      | succ k => exact cOpers_spec hb (by simpa using ho) (by simpa using hio)
    · cases h

/-- What a drawn region's text has to be for the order 'es' to serve. -/
structure DrawOk (P : Program) (nt : Nat) (ops : Array Oper) (es : List Ent) : Prop where
  ent : ∀ (k : Nat) (x : Ent), es[k]? = some x → ∃ o, ops[x.q]? = some o ∧ cOper P nt ops o = some x.io ∧ x.a = aftMask o.after.toList ∧ x.b = (Region.before ops).getD x.q 0 ∧ x.k = x.io.op.kind ∧ x.d = maskP x.io.dst.toList ∧ x.l = maskP x.io.looks
  pair : ∀ (i j : Nat) (x y : Ent), i < j → es[i]? = some x → es[j]? = some y → y.b.testBit x.q = true ∨
    ((∀ p, x.io.dst = some p → p ∉ y.io.looks ∧ y.io.dst ≠ some p) ∧ (∀ p, y.io.dst = some p → p ∉ x.io.looks) ∧ kindsOk x.io.op.kind y.io.op.kind = true)
  aft : ∀ (j : Nat) (y : Ent), es[j]? = some y → ∀ b, y.a.testBit b = true → ∃ (i : Nat) (x : Ent), i < j ∧ es[i]? = some x ∧ x.q = b
  inj : ∀ (i j : Nat) (x y : Ent), i < j → es[i]? = some x → es[j]? = some y → x.q ≠ y.q
  onto : ∀ q, q < ops.size → ∃ (k : Nat) (x : Ent), es[k]? = some x ∧ x.q = q

theorem cDraw_spec {P : Program} {nt : Nat} {ops : Array Oper} {l l' : List IOper} {ag : List (List Nat)} (hl : cOpers P nt ops ops.toList = some l) (h : cDraw ops l = some (.dreg l' ag)) :
    ∃ es, DrawOk P nt ops es ∧ l' = es.map (·.io) ∧ ag = againOf es := by
  unfold cDraw at h
  simp only at h
  split at h
  · rename_i es hes
    cases hok : and (goOk (Nat.pred (Nat.pow 2 ops.size)) es 0) (Nat.beq l.length ops.size)
    · rw [hok] at h; simp at h
    · rw [hok] at h
      simp only [cond_true, Option.some.injEq, ICode.dreg.injEq] at h
      simp only [Bool.and_eq_true] at hok
      obtain ⟨g1, g2, g3⟩ := goOk_spec hok.1
      have hent : ∀ (k : Nat) (x : Ent), es[k]? = some x → ∃ o, ops[x.q]? = some o ∧ cOper P nt ops o = some x.io ∧ x.a = aftMask o.after.toList ∧ x.b = (Region.before ops).getD x.q 0 ∧ x.k = x.io.op.kind ∧ x.d = maskP x.io.dst.toList ∧ x.l = maskP x.io.looks := fun k x hx => by
        obtain ⟨q, hq⟩ := ents_spec hes hx
        unfold entOf at hq
        split at hq
        · rename_i o io ho hio
          cases hq
          exact ⟨o, ho, cOpers_spec hl (by simpa using ho) hio, rfl, rfl, rfl, rfl, rfl⟩
        · cases hq
      refine ⟨es, ⟨hent, fun i j x y hij hx hy => ?_, fun j y hy b hb => ?_, fun i j x y hij hx hy => (g2 j y hy).2.2 i x hij hx, fun q hq => ?_⟩, h.1.symm, h.2.symm⟩
      · have := g1 i j x y hij hx hy
        obtain ⟨_, _, _, _, _, hk, hd, hl⟩ := hent i x hx
        obtain ⟨_, _, _, _, _, hk', hd', hl'⟩ := hent j y hy
        simp only [okPair, Bool.or_eq_true, Bool.and_eq_true] at this
        rcases this with h | ⟨⟨h1, h2⟩, h3⟩
        · exact .inl h
        · refine .inr ⟨fun p hp => ⟨fun hm => ?_, fun hm => ?_⟩, fun p hp hm => ?_, by rw [← hk, ← hk']; exact h3⟩
          · refine land_zero (i := p.toNat) h1 (by rw [hd, hp]; exact testBit_maskP (by simp)) ?_
            rw [show Nat.lor y.l y.d = y.l ||| y.d from rfl, Nat.testBit_or, hl', testBit_maskP hm]; rfl
          · refine land_zero (i := p.toNat) h1 (by rw [hd, hp]; exact testBit_maskP (by simp)) ?_
            rw [show Nat.lor y.l y.d = y.l ||| y.d from rfl, Nat.testBit_or, hd', hm, testBit_maskP (p := p) (by simp)]; simp
          · exact land_zero (i := p.toNat) h2 (by rw [hd', hp]; exact testBit_maskP (by simp)) (by rw [hl]; exact testBit_maskP hm)
      · rcases (g2 j y hy).1 b hb with h | h
        · simp at h
        · exact h
      · rcases g3 q (by
          rw [show Nat.pred (Nat.pow 2 ops.size) = 2 ^ ops.size - 1 from rfl, Nat.testBit_two_pow_sub_one]
          simpa using hq) with h | h
        · simp at h
        · exact h
  · cases h
end Go.AX

namespace Go.AX
open Go

theorem eqVV_spec {a b : V} (h : eqVV a b = true) : a = b := by
  have hCL : ∀ {x y : List C}, eqCL x y = true → x = y := by
    intro x
    induction x with
    | nil => intro y h; cases y with | nil => rfl | cons => simp [eqCL] at h
    | cons a x ih =>
      intro y h
      cases y with
      | nil => simp [eqCL] at h
      | cons b y =>
        simp only [eqCL] at h
        split at h
        · rename_i e _; rw [e, ih h]
        · cases h
  have hA : ∀ {x y : A}, eqAA x y = true → x = y := by
    intro x y h
    cases x <;> cases y <;> simp only [eqAA] at h
    · split at h
      · rename_i e _; rw [e]
      · cases h
    · cases h
    · cases h
    · rw [hCL h]
  have hAs : ∀ {x y : List A}, eqVV.eqAs x y = true → x = y := by
    intro x
    induction x with
    | nil => intro y h; cases y with | nil => rfl | cons => simp [eqVV.eqAs] at h
    | cons a x ih =>
      intro y h
      cases y with
      | nil => simp [eqVV.eqAs] at h
      | cons b y =>
        simp only [eqVV.eqAs, Bool.and_eq_true] at h
        rw [hA h.1, ih h.2]
  cases a <;> cases b <;> simp only [eqVV] at h
  · rw [hA h]
  · cases h
  · cases h
  · rw [hAs h]

abbrev Seen := List (Option (IOp × Tm × V))

theorem checkAgain_cons {s' : St} {seen : Seen} (j : Nat) (g : List Nat) : runD.checkAgain s' seen (j :: g) = (match seen[j]? with
      | some none => runD.checkAgain s' seen g
      | some (some (op, tm, v)) => (match op.val tm s' with | some w => and (eqVV v w) (runD.checkAgain s' seen g) | none => false)
      | none => false) := by rw [runD.checkAgain]; rfl
theorem checkAgain_spec {s' : St} {seen : Seen} {g : List Nat} (h : runD.checkAgain s' seen g = true) {i : Nat} {op : IOp} {tm : Tm} {v : V} (hi : i ∈ g) (hs : seen[i]? = some (some (op, tm, v))) : op.val tm s' = some v := by
  induction g with
  | nil => cases hi
  | cons j g ih =>
    rw [checkAgain_cons] at h
    rcases List.mem_cons.1 hi with rfl | hi
    · rw [hs] at h
      simp only at h
      split at h
      · rename_i u hu
        simp only [Bool.and_eq_true] at h
        rw [hu, eqVV_spec h.1]
      · cases h
    · refine ih ?_ hi
      split at h
      · exact h
      · split at h
        · simp only [Bool.and_eq_true] at h; exact h.2
        · cases h
      · cases h

/-- What a run of the order leaves, place by place. -/
structure Trace (cfg : Cfg) (call : Nat → List A → St → Option (V × St)) (l : List IOper) (gs : List (List Nat)) (seen : Seen) (fT : Nat → Tm) (fS : Nat → St) (fU : Nat → V) (fW : Nat → Bool) (all : Seen) : Prop where
  pre : ∃ t : Seen, all = seen ++ t
  want : ∀ (k : Nat) (o : IOper), l[k]? = some o → wantedI (fT k) o.guard = some (fW k)
  next : ∀ (k : Nat) (o : IOper), l[k]? = some o → fT (k + 1) = putT (fT k) o.dst (fU k)
  run : ∀ (k : Nat) (o : IOper), l[k]? = some o → fW k = true → o.op.run cfg call (fT k) (fS k) = some (fU k, fS (k + 1))
  chk : ∀ (k : Nat) (o : IOper) (g : List Nat), l[k]? = some o → fW k = true → gs[k]? = some g → runD.checkAgain (fS (k + 1)) (all.take (seen.length + k)) g = true
  off : ∀ (k : Nat) (o : IOper), l[k]? = some o → fW k = false → fU k = .tup [] ∧ fS (k + 1) = fS k
  ent : ∀ (k : Nat) (o : IOper), l[k]? = some o → all[seen.length + k]? = some (bif fW k then some (o.op, fT k, fU k) else none)

theorem runD_trace {cfg : Cfg} {call : Nat → List A → St → Option (V × St)} : ∀ {l : List IOper} {gs : List (List Nat)} {seen : Seen} {tm tm' : Tm} {s s' : St}, runD cfg call l gs seen tm s = some (tm', s') →
    ∃ fT fS fU fW all, Trace cfg call l gs seen fT fS fU fW all ∧ fT 0 = tm ∧ fS 0 = s ∧ fT l.length = tm' ∧ fS l.length = s'
  | [], gs, seen, tm, tm', s, s', h => by
    unfold runD at h
    cases h
    exact ⟨fun _ => tm, fun _ => s, fun _ => .tup [], fun _ => true, seen, ⟨⟨[], by simp⟩, by simp, by simp, by simp, by simp, by simp, by simp⟩, rfl, rfl, rfl, rfl⟩
  | o :: l, [], seen, tm, tm', s, s', h => by
    unfold runD at h; cases h
  | o :: l, g :: gs, seen, tm, tm', s, s', h => by
    unfold runD at h
    have build : ∀ {u : V} {b : Bool} {s1 : St}, wantedI tm o.guard = some b → (b = true → o.op.run cfg call tm s = some (u, s1) ∧ runD.checkAgain s1 seen g = true) → (b = false → u = .tup [] ∧ s1 = s) →
        runD cfg call l gs (seen ++ [bif b then some (o.op, tm, u) else none]) (putT tm o.dst u) s1 = some (tm', s') →
        ∃ fT fS fU fW all, Trace cfg call (o :: l) (g :: gs) seen fT fS fU fW all ∧ fT 0 = tm ∧ fS 0 = s ∧ fT (o :: l).length = tm' ∧ fS (o :: l).length = s' := by
      intro u b s1 hw hrun hoff hr
      obtain ⟨fT, fS, fU, fW, all, ht, hT, hS, hT', hS'⟩ := runD_trace hr
      have hall0 : all[seen.length]? = some (bif b then some (o.op, tm, u) else none) := by
        obtain ⟨t, ht'⟩ := ht.pre; rw [ht', List.append_assoc, List.getElem?_append_right (Nat.le_refl _), Nat.sub_self]; rfl
      have htake : all.take seen.length = seen := by
        obtain ⟨t, ht'⟩ := ht.pre; rw [ht']; simp
      have hlen : ∀ k, (seen ++ [bif b then some (o.op, tm, u) else none]).length + k = seen.length + (k + 1) := fun k => by simp; omega
      refine ⟨fun k => Nat.casesOn k tm fT, fun k => Nat.casesOn k s fS, fun k => Nat.casesOn k u fU, fun k => Nat.casesOn k b fW, all, ⟨?_, ?_, ?_, ?_, ?_, ?_, ?_⟩, rfl, rfl, hT', hS'⟩
      · obtain ⟨t, ht'⟩ := ht.pre
        exact ⟨(bif b then some (o.op, tm, u) else none) :: t, by rw [ht', List.append_assoc]; rfl⟩
      · intro k o' hk
        cases k with
        | zero => simp at hk; subst hk; exact hw
        | succ k => exact ht.want k o' (by simpa using hk)
      · intro k o' hk
        cases k with
        | zero => simp at hk; subst hk; exact hT
        | succ k => exact ht.next k o' (by simpa using hk)
      · intro k o' hk hb
        cases k with
        | zero => simp at hk; subst hk; show o.op.run cfg call tm s = some (u, fS 0); rw [hS]; exact (hrun hb).1
        | succ k => exact ht.run k o' (by simpa using hk) hb
      · intro k o' g' hk hb hg
        cases k with
        | zero => simp at hk hg; subst hk; subst hg; show runD.checkAgain (fS 0) (all.take (seen.length + 0)) g = true; rw [hS, Nat.add_zero, htake]; exact (hrun hb).2
        | succ k => have := ht.chk k o' g' (by simpa using hk) hb (by simpa using hg); rw [hlen] at this; exact this
      · intro k o' hk hb
        cases k with
        | zero => obtain ⟨h1, h2⟩ := hoff hb; exact ⟨h1, by show fS 0 = s; rw [hS, h2]⟩
        | succ k => exact ht.off k o' (by simpa using hk) hb
      · intro k o' hk
        cases k with
        | zero => simp at hk; subst hk; exact hall0
        | succ k => have := ht.ent k o' (by simpa using hk); rw [hlen] at this; exact this
    split at h
    · rename_i hw
      split at h
      · rename_i v s1 hv
        cases hc : runD.checkAgain s1 seen g
        · rw [hc] at h; cases h
        · rw [hc] at h
          exact build (b := true) hw (fun _ => ⟨hv, hc⟩) (fun h => by cases h) (by simpa using h)
      · cases h
    · rename_i hw
      exact build (b := false) (s1 := s) hw (fun h => by cases h) (fun _ => ⟨rfl, rfl⟩) (by simpa using h)
    · cases h

/-- A slot's value is that of the last that left it. -/
theorem trace_slot {cfg : Cfg} {call : Nat → List A → St → Option (V × St)} {l : List IOper} {gs : List (List Nat)} {seen all : Seen} {fT : Nat → Tm} {fS : Nat → St} {fU : Nat → V} {fW : Nat → Bool} (ht : Trace cfg call l gs seen fT fS fU fW all) {p : Pos} {v : V} :
    ∀ {k : Nat}, k ≤ l.length → (fT k).get p = some v →
      (∃ (j : Nat) (o : IOper), j < k ∧ l[j]? = some o ∧ o.dst = some p ∧ v = fU j ∧ ∀ (i : Nat) (o' : IOper), j < i → i < k → l[i]? = some o' → o'.dst ≠ some p) ∨
      ((∀ (i : Nat) (o' : IOper), i < k → l[i]? = some o' → o'.dst ≠ some p) ∧ (fT 0).get p = some v)
  | 0, _, h => .inr ⟨fun i _ hi => by omega, h⟩
  | k + 1, hk, h => by
    have hlt : k < l.length := hk
    have ho : l[k]? = some l[k] := by simp [hlt]
    rw [ht.next k _ ho] at h
    by_cases hd : l[k].dst = some p
    · rw [hd] at h
      simp only [putT] at h
      rw [T.get_set, if_pos rfl] at h
      cases h
      exact .inl ⟨k, _, by omega, ho, hd, rfl, fun i o' h1 h2 => by omega⟩
    · have h' : (fT k).get p = some v := by
        cases hdk : l[k].dst with
        | none => rw [hdk] at h; exact h
        | some q =>
          rw [hdk] at h
          simp only [putT] at h
          rw [T.get_set, if_neg (fun e => hd (by rw [hdk, e]))] at h
          exact h
      rcases trace_slot ht (by omega) h' with ⟨j, o, hj, h1, h2, h3, h4⟩ | ⟨h1, h2⟩
      · refine .inl ⟨j, o, by omega, h1, h2, h3, fun i o' hi hi' ho' => ?_⟩
        rcases Nat.lt_or_ge i k with h | h
        · exact h4 i o' hi h ho'
        · have : i = k := by omega
          subst this
          rw [ho] at ho'; cases ho'; exact hd
      · refine .inr ⟨fun i o' hi ho' => ?_, h2⟩
        rcases Nat.lt_or_ge i k with h | h
        · exact h1 i o' h ho'
        · have : i = k := by omega
          subst this
          rw [ho] at ho'; cases ho'; exact hd

theorem againOf_spec {es : List Ent} {i j : Nat} {x y : Ent} (hij : i < j) (hx : es[i]? = some x) (hy : es[j]? = some y) (hk : x.k = .read) (hk' : y.k = .effect) (hb : y.b.testBit x.q = false) :
    ∃ g, (againOf es)[j]? = some g ∧ i ∈ g := by
  unfold againOf
  refine ⟨_, by rw [List.getElem?_map, List.getElem?_zipIdx, hy]; rfl, ?_⟩
  simp only [hk', Nat.zero_add, List.mem_filter, List.mem_range]
  exact ⟨hij, by simp [hx, hk, hb]⟩
end Go.AX
