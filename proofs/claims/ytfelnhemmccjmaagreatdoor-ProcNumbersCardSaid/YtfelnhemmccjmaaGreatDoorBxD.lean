/- Part of a proof: a checked executor for the model, its proof of soundness, tables and kernel runs. No condition of its own. -/
import Derived.Test.YtfelnhemmccjmaaGreatDoorBxC
import Derived.Sort.Grow
import Derived.Shelf.SlIterI.Nil
import Derived.Shelf.SlIter.Nil
import Derived.Shelf.SortM.Plain
import Derived.Shelf.SortM.SortNone
import Derived.Below
set_option autoImplicit false
set_option linter.unusedSimpArgs false
set_option linter.unusedVariables false
namespace Go.AX
open Go

section
variable {P : Program}

theorem St.get_nx (s : St) (k b : Nat) : ({ s with nx := k } : St).get b = s.get b := rfl

/-- A run of operations with more behind them. -/
theorem ops_sound_more {nt : Nat} (cfg : Cfg) (hms : MethSound P cfg) {call : Nat → List A → St → Option (V × St)} (hcs : CallSound P call) (hup : CallUp call) {ops : Array Oper} {Q : Exit → Act → World → Prop} {more : List Nat} :
    ∀ {l : List Oper} {l' : List IOper} (i : Nat), (∀ j x, l[j]? = some x → ops[i + j]? = some x) → cOpers P nt ops l = some l' → ∀ {E : Env} {s s' : St} {w : World} {tm tm' : Tm} {a : Act}, Inv P nt E s w tm a → runOps cfg call l' tm s = some (tm', s') → Fresh E s.nx s'.nx →
      (∀ E' a' w', Inv P nt E' s' w' tm' a' → Step E s w E' s' w' → a'.defers = a.defers → wpOps P ops Q more a' w') → wpOps P ops Q (List.range' i l.length ++ more) a w
  | [], l', i, _, hc, E, s, s', w, tm, tm', a, hi, hrun, hf, hQ => by
    simp only [cOpers] at hc; cases hc
    simp only [runOps] at hrun; cases hrun
    exact hQ E a w hi (Step.refl hi.rel) rfl
  | o :: l, l', i, hl, hc, E, s, s', w, tm, tm', a, hi, hrun, hf, hQ => by
    unfold cOpers at hc
    split at hc
    · rename_i io r ho hr
      cases hc
      simp only [runOps] at hrun
      split at hrun
      · rename_i tm1 s1 h1
        have hoi : ops[i]? = some o := by have := hl 0 o rfl; simpa using this
        have hle := runOps_nx hup hrun
        obtain ⟨hop, hd, hg⟩ := cOper_spec ho
        simp only [List.length_cons, List.range'_succ, List.cons_append, wpOps, hoi]
        have hl' : ∀ j x, l[j]? = some x → ops[i + 1 + j]? = some x := fun j x hx => by have := hl (j + 1) x (by simpa using hx); rw [show i + 1 + j = i + (j + 1) by omega]; exact this
        unfold runOper at h1
        split at h1
        · rename_i hw
          split at h1
          · rename_i v s1' hv
            cases h1
            rw [wanted_sound hi.tr hg hw, if_pos rfl]
            refine .inl ?_
            unfold Oper.wp
            have hf1 : Fresh E s.nx s1.nx := fun b h1 h2 => hf b h1 (by omega)
            refine upon_of_outc (run_sound cfg hms hcs hi hop hv hf1) fun x w' ⟨E', hx, hst⟩ => ?_
            have hfr := hf.rest hst hle
            have hle' := hst.le hfr.1
            have hi' : Inv P nt E' s1 w' (putT tm io.dst v) (a.put o.dst x) := ⟨hst.up hi.rel hle', (hi.tr.mono hle').put hx hd, hi.g.step hi.n hst, Nat.le_trans hi.n hst.nx⟩
            refine ops_sound_more cfg hms hcs hup (i + 1) hl' hr hi' hrun hfr.2 fun E'' a' w'' hi'' hst' hde => hQ E'' a' w'' hi'' (hst.trans hst') (hde.trans ?_)
            cases o.dst <;> rfl
          · cases h1
        · rename_i hw
          cases h1
          rw [wanted_sound hi.tr hg hw, if_neg (by simp)]
          have hi' : Inv P nt E s w (putT tm io.dst (.tup [])) (a.put o.dst undef) := ⟨hi.rel, hi.tr.put (VRel.undef E) hd, hi.g, hi.n⟩
          refine ops_sound_more cfg hms hcs hup (i + 1) hl' hr hi' hrun hf fun E'' a' w'' hi'' hst' hde => hQ E'' a' w'' hi'' hst' (hde.trans ?_)
          cases o.dst <;> rfl
        · cases h1
      · cases hrun
    · cases hc

/-- Numbers that say nothing yet name nothing in memory. -/
theorem Fresh.none_at {E : Env} {s : St} {w : World} {lo hi q : Nat} (hr : Rel E s w) (hf : Fresh E lo hi) (h1 : lo ≤ q) (h2 : q < hi) : s.get q = none := by
  cases h : s.get q with
  | none => rfl
  | some o => obtain ⟨L, hL, _⟩ := hr.obj q o h; rw [hf q h1 h2] at hL; cases hL
theorem Rel.keyed {E : Env} {s : St} {w : World} (hr : Rel E s w) {b : Nat} {l : List (C × A)} (h : s.get b = some (.map l)) : keyedOk l := by
  obtain ⟨L, _, es, clock, _, _, hk, _⟩ := hr.obj b _ h
  exact hk

theorem range_fun (cfg : Cfg) (hms : MethSound P cfg) {call : Nat → List A → St → Option (V × St)} (hcs : CallSound P call) (hup : CallUp call) (hm : P.follows .mixedOrders = true) (n : Nat)
    {f : Nat} {F : Func} (hF : P.funcs[f]? = some F) (hname : (F.name == "runtime.NumGoroutine") = false) {fp : FunParts} (hfp : funParts P F = some fp)
    {args : List A} {s s' : St} {v : V} {E : Env} {w : World} {xs : Array Value} (hr : Rel E s w) (hG : GOk P E) (hn : P.globals.size ≤ s.nx) (hf : Fresh E s.nx s'.nx) (hx : All2 (ARel E) args xs.toList) (hsr : s'.r = s.r)
    {tm0 tm1 tm2 : Tm} {s1 s2 : St} {b : Nat} {l : List (C × A)} {nxF : Nat}
    (h0 : initTm ((List.range fp.np).map Pos.ofNat) args .e = some tm0) (h1 : exec cfg call n fp.pre tm0 s = some (.norm tm1 s1)) (h2 : runOps cfg call fp.ops tm1 s1 = some (tm2, s2))
    (h3 : evC tm2 fp.mp = some (.map b)) (h4 : s2.get b = some (.map l)) (hnF : s2.nx < nxF) (hnF' : nxF ≤ s'.nx)
    (K : List (C × A) → St → Tm → Prop) (U : List (C × A) → Nat → Prop) (Early : Tm → St → Prop)
    (hK0 : K [] { s2.del b with nx := Nat.succ s2.nx } (tm2.set (some (.a (.c (.ptr s2.nx 0)))) (.ofNat fp.rp.tI)))
    (hI : ∀ dl s tm, K dl s tm → tm.get (.ofNat fp.rp.tI) = some (.a (.c (.ptr s2.nx 0))))
    (hround : ∀ E0 : Env, (∀ q, s2.nx < q → q < nxF → E0.loc q = none) → RoundOk cfg call n P.globals.size E0 fp.rp l K U (fun q => s2.nx < q ∧ q < nxF) Early)
    (hU : ∀ dl q, U dl q → s2.nx < q ∧ q < nxF)
    (hend : ∀ dl s3 tm, dl.Perm l → K dl s3 tm → ∃ r lr, exec cfg call n fp.post (endT fp.rp tm) { s3.put b (.map l) with nx := nxF } = some r ∧ (r.ex = .normal ∨ r.ex = .ret) ∧ r.st.nx ≤ s'.nx ∧ ressOf r.tms r.st fp.ress = some lr ∧ v = resV lr ∧ StLe s' r.st)
    (hret : ∀ s3 tm, Early tm s3 → ∃ lr, ressOf tm ({ s3.put b (.map l) with nx := nxF } : St) fp.ress = some lr ∧ v = resV lr ∧ StLe s' { s3.put b (.map l) with nx := nxF }) :
    Outc P (Left E s w v s') ((callFunc f xs).run P w) := by
  obtain ⟨c, pre, post, o, lp, e, lo, ty, kt, vt, x, i, hbody, hflat, ho, he, hed, heg, hty, hx', hlo, hpre, hlp, hpost, hrs, hle, hnt⟩ := funParts_spec hfp
  rw [callFunc_enter hF hname hbody]
  show Calls P f xs w _
  have hinv : Inv P F.ntmps E s w tm0 { tmps := xs ++ Array.replicate (F.ntmps - xs.size) undef, defers := [] } := ⟨hr, initTm_sound hle h0 hx, hG, hn⟩
  refine calls_of_wp hF hbody (wp_flat ?_)
  rw [hflat]
  generalize hQ : bodyPost P F (fun e w' => ∃ x, e = .returned x ∧ Left E s w v s' x w') = Q
  have fin : ∀ {E' : Env} {sr : St} {w' : World} {tm : Tm} {a' : Act} {lr : List A} (ex : Exit), ex = .normal ∨ ex = .ret → Rel E' sr w' → TRel E' F.ntmps tm a' → Step E s w E' sr w' → a'.defers = [] → ressOf tm sr fp.ress = some lr → v = resV lr → StLe s' sr → sr.nx ≤ s'.nx → Q ex a' w' := by
    intro E' sr w' tm a' lr ex hex hrel htr hst hde hlr hv hless hnx
    obtain ⟨y, hy1, hy2⟩ := results_sound (P := P) hrel htr hrs hlr
    rw [← hQ]
    have : a'.defers = [] ∧ ∃ v', (results F a'.tmps).run P w' = .ok v' w' ∧ ∃ x, (Ending.returned v') = .returned x ∧ Left E s w v s' x w' := ⟨hde, y, hy1, y, rfl, E', by rw [hv]; exact hy2, hst.less hless hnx hsr⟩
    rcases hex with e | e <;> rw [e] <;> exact this
  -- the part ahead
  have hn1 : s.nx ≤ s1.nx := exec_nx (r := .norm tm1 s1) hup h1
  have hn2 : s1.nx ≤ s2.nx := runOps_nx hup h2
  have hwp : wpL P (Exit.then (wpL P Q (.region i o false :: lp :: post)) Q) pre { tmps := xs ++ Array.replicate (F.ntmps - xs.size) undef, defers := [] } w → wpL P Q (pre ++ .region i o false :: lp :: post) { tmps := xs ++ Array.replicate (F.ntmps - xs.size) undef, defers := [] } w := by
    intro h
    have back : ∀ {lc : List Code} {a : Act} {w : World}, wpL P (Exit.then (wpL P Q (.region i o false :: lp :: post)) Q) lc a w → wpL P Q (lc ++ .region i o false :: lp :: post) a w := by
      intro lc
      induction lc with
      | nil => intro a w h; exact h
      | cons c lc ih =>
        intro a w h
        refine wp_mono h fun ex a w h => ?_
        cases ex with
        | normal => exact ih h
        | _ => exact h
    exact back h
  refine hwp ?_
  refine cSeq_sound cfg hms hcs hup hm n hpre hinv (r := .norm tm1 s1) h1 (fun q h5 h6 => hf q h5 (by have : q < s1.nx := h6; omega)) fun E1 a1 w1 hi1 hst1 hde1 => ?_
  show wpL P Q (.region i o false :: lp :: post) a1 w1
  refine wp_region ?_
  have hsz : o.size = lo.length + 1 := by have := congrArg List.length ho; simpa using this
  have hf1 := hf.rest hst1 (show s1.nx ≤ s'.nx by omega)
  rw [hsz, List.range_succ, List.range_eq_range']
  refine ops_sound_more cfg hms hcs hup (l := lo) (l' := fp.ops) 0 (fun j x hx => by rw [← Array.getElem?_toList, ho, Nat.zero_add]; rw [List.getElem?_append_left (List.getElem?_eq_some_iff.1 hx).1]; exact hx) hlo hi1 h2 (fun q h5 h6 => hf1.2 q h5 (by omega)) fun E2 a2 w2 hi2 hst2 hde2 => ?_
  show wpOps P o (Exit.then (wpL P Q (lp :: post)) Q) [lo.length] a2 w2
  have hgl : o[lo.length]? = some e := by rw [← Array.getElem?_toList, ho]; simp
  have hst12 := hst1.trans hst2
  have hf2 : Fresh E2 s2.nx s'.nx := (hf1.2.rest hst2 (by omega)).2
  -- the map
  obtain ⟨L, hL, hxv⟩ := evC_sound hi2.g hi2.tr hx' h3
  obtain ⟨L', hL', es, clock, hheap, hsh, hkey, hents, hnd, hborn⟩ := hi2.rel.obj b _ h4
  rw [hL] at hL'; cases hL'
  have hblt : L.blk < w2.heap.size := (Array.getElem?_eq_some_iff.1 hheap).1
  have hrun := exec_range (P := P) (a := a2) (o := e) he (w := w2) (by rw [hxv]; exact range_any hty hheap)
  refine wpOps_one hgl heg hrun ?_
  rw [hed]
  show wpL P Q (lp :: post) _ _
  -- the state without the map, with the iterator's number
  have hfnx : E2.loc s2.nx = none := hf2 s2.nx (Nat.le_refl _) (by omega)
  have hleE := Env.le_add (L := ⟨w2.heap.size, 0, 0⟩) hfnx
  generalize hE0 : E2.add s2.nx ⟨w2.heap.size, 0, 0⟩ = E0 at hleE
  have hE0I : E0.loc s2.nx = some ⟨w2.heap.size, 0, 0⟩ := by rw [← hE0]; simp [Env.add]
  have hE0o : ∀ q, q ≠ s2.nx → E0.loc q = E2.loc q := fun q hq => by rw [← hE0]; simp [Env.add, hq]
  generalize hw3 : ({ w2 with heap := w2.heap.push (.mapIter (some L.blk) clock #[] clock) } : World) = w3
  have hold : ∀ m, m < w2.heap.size → w3.heap[m]? = w2.heap[m]? := fun m hm => by rw [← hw3]; show (w2.heap.push _)[m]? = _; rw [Array.getElem?_push, if_neg (by omega)]
  have hsz3 : w3.heap.size = w2.heap.size + 1 := by rw [← hw3]; simp
  have hnlast : w3.heap[w2.heap.size]? = some (.mapIter (some L.blk) clock #[] clock) := by rw [← hw3]; show (w2.heap.push _)[w2.heap.size]? = _; simp
  generalize hs0 : ({ s2.del b with nx := Nat.succ s2.nx } : St) = s0 at hK0
  have hs0g : ∀ q o', s0.get q = some o' → q ≠ b ∧ s2.get q = some o' := fun q o' h => by
    rw [← hs0, St.get_nx, St.get_del] at h
    split at h
    · cases h
    · rename_i hne; exact ⟨fun e => hne e.symm, h⟩
  have hs0n : ∀ q o', s0.get q = some o' → q ≠ s2.nx := fun q o' h e => by
    subst e
    obtain ⟨L1, hL1, _⟩ := hi2.rel.obj _ _ (hs0g _ _ h).2
    rw [hfnx] at hL1; cases hL1
  have hlive0 : ∀ m, Live E0 s0 m → Live E2 s2 m := fun m ⟨q, o', L1, h, e1, e2⟩ => ⟨q, o', L1, (hs0g q o' h).2, by rw [← hE0o q (hs0n q o' h)]; exact e1, e2⟩
  have hs0r : s0.r = s2.r := by rw [← hs0]; rfl
  have hrel0 : Rel E0 s0 w3 := by
    refine ⟨⟨fun q o' h => ?_, fun q q' o' o'' L1 L2 h h' e1 e2 e3 => ?_⟩, fun q x h => ?_⟩
    · obtain ⟨L1, hL1, ho1⟩ := hi2.rel.obj q o' (hs0g q o' h).2
      exact ⟨L1, hleE.1 q L1 hL1, (ho1.mono hleE).same (hold _ ho1.lt)⟩
    · rw [hE0o q (hs0n q o' h)] at e1
      rw [hE0o q' (hs0n q' o'' h')] at e2
      exact hi2.rel.inj q q' o' o'' L1 L2 (hs0g q o' h).2 (hs0g q' o'' h').2 e1 e2 e3
    · have h : s2.getR q = some x := by unfold St.getR at *; rw [← hs0r]; exact h
      obtain ⟨L1, hL1, hl1, hx1⟩ := hi2.rel.ro q x h
      exact ⟨L1, hleE.1 q L1 hL1, fun h2 => hl1 (hlive0 _ h2), (hx1.mono hleE).same (hold _ hx1.lt)⟩
  have hnr : ¬ Live E0 s0 w2.heap.size := fun h => by
    obtain ⟨q, o', L1, h1, e1, e2⟩ := hlive0 _ h
    obtain ⟨L2, hL2, ho2⟩ := hi2.rel.obj q o' h1
    rw [e1] at hL2; cases hL2
    have := ho2.lt
    omega
  have hnb : ¬ Live E0 s0 L.blk := fun ⟨q, o', L1, h1, e1, e2⟩ => by
    rw [hE0o q (hs0n q o' h1)] at e1
    exact (hs0g q o' h1).1 (hi2.rel.inj q b o' _ L1 L (hs0g q o' h1).2 h4 e1 hL e2)
  have htr0 : TRel E0 F.ntmps (tm2.set (some (.a (.c (.ptr s2.nx 0)))) (.ofNat fp.rp.tI)) (a2.put (some fp.rp.tI) (.pointer (some ⟨w2.heap.size, 0, none⟩))) := by
    obtain ⟨_, _, _, _, _, _, _, _, _, _, _, _, _, _, _, _, _, _, _, _, _, _, _, _, _, _, _, _, _, _, _, _, _, _, _, hIlt⟩ := rangeParts_spec hlp
    exact (hi2.tr.mono hleE).set (v := .a (.c (.ptr s2.nx 0))) ⟨_, hE0I, rfl⟩ hIlt
  have hg0 : GOk P E0 := fun g hg => by
    obtain ⟨r, hr⟩ := hi2.g g hg
    exact ⟨r, hleE.1 _ _ hr⟩
  have hi0 : Inv P F.ntmps E0 s0 w3 (tm2.set (some (.a (.c (.ptr s2.nx 0)))) (.ofNat fp.rp.tI)) (a2.put (some fp.rp.tI) (.pointer (some ⟨w2.heap.size, 0, none⟩))) :=
    ⟨hrel0, htr0, hg0, by rw [← hs0]; exact Nat.le_trans hi2.n (Nat.le_succ _)⟩
  have hit : ItOk w3 w2.heap.size L.blk es clock [] := by
    refine ⟨⟨clock, hnlast, Nat.le_refl _⟩, by rw [hold _ hblt]; exact hheap, hborn, hnd, ?_⟩
    have : leftOf es (List.map (fun x : MapEntry => x.born) []).toArray = es := by
      unfold leftOf
      exact Array.filter_eq_self.2 (fun x hx => by simp)
    rw [this]
    exact List.Perm.refl _
  have hents0 : ∃ l', l'.Perm l ∧ All2 (EntRel E0) l' es.toList := by
    obtain ⟨l', h5, h6⟩ := hents
    exact ⟨l', h5, h6.mono fun p e hpe => ⟨hpe.1.mono hleE, hpe.2.mono hleE⟩⟩
  have hfr0 : ∀ q, s2.nx < q → q < nxF → E0.loc q = none := fun q h5 h6 => by rw [hE0o q (by omega)]; exact hf2 q (by omega) (by omega)
  -- what the rounds leave, with the map again
  have again : ∀ {E' : Env} {s3 : St} {w' : World}, Rel E' s3 w' → Acc (fun q => s2.nx < q ∧ q < nxF) w2.heap.size E0 s0 w3 E' s3 w' → w'.heap[L.blk]? = some (.map es clock) → Step E2 s2 w2 E' { s3.put b (.map l) with nx := nxF } w' := by
    intro E' s3 w' hrel hacc hbk
    have hLb : E'.loc b = some L := hacc.le.1 _ _ (hleE.1 _ _ hL)
    have hnl : ¬ Live E' s3 L.blk := fun h => by
      rcases hacc.live _ h with h | h
      · omega
      · exact hnb h
    have hobj : ORel E' w' L (.map l) := by
      refine ⟨es, clock, hbk, hsh, hkey, ?_, hnd, hborn⟩
      obtain ⟨l', h5, h6⟩ := hents0
      exact ⟨l', h5, h6.mono fun p e hpe => ⟨hpe.1.mono hacc.le, hpe.2.mono hacc.le⟩⟩
    have hget : ∀ q o', ({ s3.put b (.map l) with nx := nxF } : St).get q = some o' → (q = b ∧ o' = .map l) ∨ (q ≠ b ∧ s3.get q = some o') := fun q o' h => by
      rw [St.get_nx, St.get_put] at h
      split at h
      · rename_i e; cases h; exact .inl ⟨e.symm, rfl⟩
      · rename_i e; exact .inr ⟨fun e' => e e'.symm, h⟩
    refine ⟨⟨fun q o' h => ?_, fun q q' o' o'' L1 L2 h h' e1 e2 e3 => ?_⟩, by show s2.nx ≤ nxF; omega, fun q hq => ?_, hacc.le.2.trans hleE.2, fun m hm => ?_, fun m hm hl => ?_, by have := hacc.size; omega, ?_, ?_, ?_, hacc.r.trans hs0r⟩
    · rcases hget q o' h with ⟨rfl, rfl⟩ | ⟨_, h⟩
      · exact ⟨L, hLb, hobj⟩
      · exact hrel.obj q o' h
    · rcases hget q o' h with ⟨rfl, rfl⟩ | ⟨h5, h6⟩ <;> rcases hget q' o'' h' with ⟨rfl, rfl⟩ | ⟨h7, h8⟩
      · rfl
      · rw [hLb] at e1; cases e1
        exact absurd ⟨q', o'', L2, h8, e2, e3.symm⟩ hnl
      · rw [hLb] at e2; cases e2
        exact absurd ⟨q, o', L1, h6, e1, e3⟩ hnl
      · exact hrel.inj q q' o' o'' L1 L2 h6 h8 e1 e2 e3
    · have hq : q < s2.nx ∨ nxF ≤ q := hq
      rw [hacc.out q (by omega), hE0o q (by omega)]
    · obtain ⟨q, o', L1, h, e1, e2⟩ := hm
      rcases hget q o' h with ⟨rfl, rfl⟩ | ⟨_, h⟩
      · rw [hLb] at e1; cases e1
        exact .inr ⟨q, _, L, h4, hL, e2⟩
      · rcases hacc.live m ⟨q, o', L1, h, e1, e2⟩ with h5 | h5
        · exact .inl (by omega)
        · exact .inr (hlive0 m h5)
    · rw [hacc.frame m (by omega) (fun h => hl (hlive0 m h)) (by omega), hold m hm]
    · rw [hacc.os, ← hw3]
    · rw [hacc.output, ← hw3]
    · rw [hacc.tape, ← hw3]
  have hde : a2.defers = [] := by rw [hde2, hde1]
  refine range_loop cfg hms hcs hup hm n hlp (E0 := E0) (s0 := s0) (w0 := w3) (r := w2.heap.size) (bm := L.blk) (bI := s2.nx) (es := es) (clock := clock) (by omega) (by omega) hnr hnb hit hE0I hents0 hI (hround E0 hfr0) hU hi0 hK0
    (fun dl E' s3 w' tm a' hdl hK hrel htr hacc hbk hdef => ?_) (fun E' s3 w' tm a' hE hrel htr hacc hbk hdef => ?_)
  · show wpL P Q post a' w'
    have hst := again hrel hacc hbk
    obtain ⟨r, lr, h5, h6, h7, h8, h9, h10⟩ := hend dl s3 tm hdl hK
    have hG' : GOk P E' := hi2.g.step hi2.n hst
    have hinv' : Inv P F.ntmps E' { s3.put b (.map l) with nx := nxF } w' (endT fp.rp tm) a' := ⟨hst.up hi2.rel (hleE.trans hacc.le), htr, hG', Nat.le_trans hi2.n hst.nx⟩
    have hfr : Fresh E' ({ s3.put b (.map l) with nx := nxF } : St).nx r.st.nx := fun q h11 h12 => by
      rw [hst.out q (.inr h11)]
      exact hf2 q (by have : nxF ≤ q := h11; omega) (by omega)
    refine cSeq_sound cfg hms hcs hup hm n hpost hinv' h5 hfr fun E4 a4 w4 hi4 hst4 hde4 => ?_
    exact fin _ h6 hi4.rel hi4.tr ((hst12.trans hst).trans hst4) (by rw [hde4, hdef, defers_put, hde]) h8 h9 h10 h7
  · have hst := again hrel hacc hbk
    obtain ⟨lr, h8, h9, h10⟩ := hret s3 tm hE
    exact fin .ret (.inr rfl) (hst.up hi2.rel (hleE.trans hacc.le)) htr (hst12.trans hst) (by rw [hdef, defers_put, hde]) h8 h9 h10 hnF'
end
end Go.AX

namespace Go.AX
open Go

theorem Pos.ofNat_inj_iff (a b : Nat) : (Pos.ofNat a = Pos.ofNat b) = (a = b) := propext ⟨Pos.ofNat_inj, fun e => by rw [e]⟩

/-! ### No code, no summaries: for bodies that call nothing -/
def cfg0 : Cfg := { code := fun _ => none, meth := fun _ _ => none, summ := fun _ => none }
def call0 : Nat → List A → St → Option (V × St) := fun _ _ _ => none
theorem meth0 {P : Program} : MethSound P cfg0 := fun t m f h => by cases h
theorem sound0 {P : Program} : CallSound P call0 := fun f args s v s' h => by cases h
theorem up0 : CallUp call0 := fun f args s v s' h => by cases h

theorem wrap_i64n {n : Nat} (h : n < 9223372036854775808) : wrapF .i64 (.ofNat n) = .ofNat n := by
  show (bif Nat.blt n 9223372036854775808 then Int.ofNat n else _) = _
  have : Nat.blt n 9223372036854775808 = true := Nat.ble_eq_true_of_le h
  rw [this]; rfl

theorem decEq_i64 : decEq IntKind.i64 IntKind.i64 = isTrue rfl := rfl

/-! ### (*Tree).Used -/
def usedParts : FunParts := ⟨23, 1,
 (.seq (.reg [⟨(some (.ofNat 2)), none, (.mov (.k (.c (.int .i64 0))))⟩])
 (.seq (.reg [⟨(some (.ofNat 3)), none, (.mov (.k (.c (.int .i64 0))))⟩])
 .skip)),
 [⟨(some (.ofNat 6)), none, (.mov (.t (.ofNat 0)))⟩, ⟨(some (.ofNat 7)), none, (.nchk (.t (.ofNat 6)))⟩, ⟨(some (.ofNat 8)), none, (.faddr 0 (.t (.ofNat 7)))⟩, ⟨(some (.ofNat 9)), none, (.load1 (.t (.ofNat 8)))⟩], (.t (.ofNat 9)),
 ⟨0, 10, 11, 12, 13, [⟨(some (.ofNat 14)), none, (.ext (.t (.ofNat 13)) 1)⟩, ⟨(some (.ofNat 5)), none, (.mov (.t (.ofNat 14)))⟩],
 (.seq (.reg [⟨(some (.ofNat 15)), none, (.mov (.t (.ofNat 3)))⟩, ⟨(some (.ofNat 16)), none, (.mov (.t (.ofNat 5)))⟩, ⟨(some (.ofNat 17)), none, (.nchk (.t (.ofNat 16)))⟩, ⟨(some (.ofNat 18)), none, (.faddr 2 (.t (.ofNat 17)))⟩, ⟨(some (.ofNat 19)), none, (.load1 (.t (.ofNat 18)))⟩, ⟨(some (.ofNat 20)), none, (.len .slice (.t (.ofNat 19)))⟩, ⟨(some (.ofNat 21)), none, (.bin .add .num (.t (.ofNat 15)) (.t (.ofNat 20)))⟩, ⟨(some (.ofNat 3)), none, (.mov (.t (.ofNat 21)))⟩])
 .skip)⟩,
 (.seq (.reg [⟨(some (.ofNat 22)), none, (.mov (.t (.ofNat 3)))⟩, ⟨(some (.ofNat 2)), none, (.mov (.t (.ofNat 22)))⟩])
 (.seq .ret
 .skip)),
 [.t (.ofNat 2)]⟩

def lenOf : C → Option Nat
  | .nils => some 0
  | .slice _ _ n _ _ _ => some n
  | _ => none
/-- What an entry brings in. -/
def usedOf (s : St) : C × A → Option Nat
  | (_, .c (.ptr b o)) => match s.load b (Nat.add o 2) with | some c => lenOf c | none => none
  | _ => none
def usedSum (s : St) : List (C × A) → Option Nat
  | [] => some 0
  | p :: l => match usedOf s p, usedSum s l with | some n, some m => some (Nat.add n m) | _, _ => none
theorem usedSum_perm (s : St) {l l' : List (C × A)} (h : l.Perm l') : usedSum s l = usedSum s l' := by
  induction h with
  | nil => rfl
  | cons p _ ih => simp only [usedSum, ih]
  | swap p q l =>
    simp only [usedSum]
    cases usedOf s p <;> cases usedOf s q <;> cases usedSum s l <;> simp
    omega
  | trans _ _ h1 h2 => rw [h1, h2]
theorem usedSum_append (s : St) : ∀ (l l' : List (C × A)), usedSum s (l ++ l') = (match usedSum s l, usedSum s l' with | some n, some m => some (n + m) | _, _ => none)
  | [], l' => by simp only [List.nil_append, usedSum]; cases usedSum s l' <;> simp
  | p :: l, l' => by
    simp only [List.cons_append, usedSum, usedSum_append s l l']
    cases usedOf s p <;> cases usedSum s l <;> cases usedSum s l' <;> simp
    omega
/-- (*Tree).Used. -/
def treeUsed2 (args : List A) (s : St) : Option (V × St) := match args with
  | [.c (.ptr b o)] => (match s.load b o with
    | some (.map m) => (match s.get m with
      | some (.map l) => (match usedSum s l with
        | some n => bif Nat.blt n 4611686018427387904 then some (.a (.c (.int .i64 (.ofNat n))), { s with nx := Nat.succ (Nat.succ s.nx) }) else none
        | none => none)
      | _ => none)
    | _ => none)
  | _ => none

theorem load_del {s : St} {m b o : Nat} {l : List (C × A)} (hm : s.get m = some (.map l)) {c : C} (h : s.load b o = some c) : (s.del m).load b o = some c := by
  unfold St.load at *
  rw [St.get_del]
  by_cases e : m = b
  · subst e; rw [hm] at h; cases h
  · rw [if_neg e]; exact h
theorem load_nx {s : St} {k b o : Nat} : ({ s with nx := k } : St).load b o = s.load b o := rfl

theorem used_sound {P : Program} (hm : P.follows .mixedOrders = true) {f : Nat} {F : Func} (hF : P.funcs[f]? = some F) (hname : (F.name == "runtime.NumGoroutine") = false) (hfp : funParts P F = some usedParts) : SummSound P f treeUsed2 := by
  intro args s v s' h
  unfold treeUsed2 at h
  split at h
  · rename_i b o
    split at h
    · rename_i m hload
      split at h
      · rename_i l hmap
        split at h
        · rename_i n hsum
          obtain ⟨hlt, h⟩ := cond_some h
          have hlt := blt_true' hlt
          cases h
          refine ⟨by show s.nx ≤ s.nx + 2; omega, fun E w xs hr hg hn hf hx => ?_⟩
          have hsum2 : ∀ dl k v rest, (dl ++ (k, v) :: rest).Perm l → ∃ x y z, usedSum s dl = some x ∧ usedOf s (k, v) = some y ∧ usedSum s rest = some z ∧ x + y + z = n := by
            intro dl k v rest hp
            have h1 := usedSum_perm s hp
            rw [hsum, usedSum_append] at h1
            simp only [usedSum] at h1
            cases h2 : usedSum s dl <;> cases h3 : usedOf s (k, v) <;> cases h4 : usedSum s rest <;> simp [h2, h3, h4] at h1
            exact ⟨_, _, _, rfl, rfl, rfl, by omega⟩
          have h1 : exec cfg0 call0 1 usedParts.pre ((T.e : Tm).set (some (.a (.c (.ptr b o)))) (.ofNat 0)) s = some (.norm ((((T.e : Tm).set (some (.a (.c (.ptr b o)))) (.ofNat 0)).set (some (.a (.c (.int .i64 0)))) (.ofNat 2)).set (some (.a (.c (.int .i64 0)))) (.ofNat 3)) s) := rfl
          obtain ⟨tm2, h2, h3, h4⟩ : ∃ tm2, runOps cfg0 call0 usedParts.ops ((((T.e : Tm).set (some (.a (.c (.ptr b o)))) (.ofNat 0)).set (some (.a (.c (.int .i64 0)))) (.ofNat 2)).set (some (.a (.c (.int .i64 0)))) (.ofNat 3)) s = some (tm2, s) ∧ evC tm2 usedParts.mp = some (.map m) ∧ tm2.get (.ofNat 3) = some (.a (.c (.int .i64 (.ofNat 0)))) := by
            apply Exists.intro
            refine And.intro ?_ (And.intro ?_ ?_)
            · simp [exec, runOps, runOper, wantedI, IOp.run, IOp.kind, same, IOp.val, IOp.eff, ev, evC, evA, evI, putT, one, T.get_set, Pos.ofNat_inj_iff, intBin, eqA, usedParts, hload]
              rfl
            · simp [exec, runOps, runOper, wantedI, IOp.run, IOp.kind, same, IOp.val, IOp.eff, ev, evC, evA, evI, putT, one, T.get_set, Pos.ofNat_inj_iff, intBin, eqA, usedParts]
            · simp [T.get_set, Pos.ofNat_inj_iff]
          refine range_fun cfg0 meth0 sound0 up0 hm 1 hF hname hfp hr hg hn hf hx rfl (s1 := s) (s2 := s) (b := m) (l := l) (nxF := s.nx + 1) rfl h1 h2 h3 hmap (by omega) (by show s.nx + 1 ≤ s.nx + 2; omega)
            (fun dl s3 tm => s3 = { s.del m with nx := Nat.succ s.nx } ∧ tm.get (.ofNat 10) = some (.a (.c (.ptr s.nx 0))) ∧ ∃ x, usedSum s dl = some x ∧ tm.get (.ofNat 3) = some (.a (.c (.int .i64 (.ofNat x))))) (fun _ _ => False) (fun _ _ => False) ?_ ?_ ?_ ?_ ?_ ?_
          · exact ⟨rfl, by simp [usedParts, T.get_set], 0, rfl, by simp [usedParts, T.get_set, Pos.ofNat_inj_iff, h4]⟩
          · rintro dl s3 tm ⟨_, h, _⟩; exact h
          · rintro E0 hE0 dl k v rest s3 tm hp ⟨rfl, hI, x, hx, h3⟩
            obtain ⟨x', y, z, hx', hy, hz, hxyz⟩ := hsum2 dl k v rest hp
            rw [hx] at hx'; cases hx'
            obtain ⟨b', o', c, rfl, hl, hc⟩ : ∃ b' o' c, v = .c (.ptr b' o') ∧ s.load b' (o' + 2) = some c ∧ lenOf c = some y := by
              unfold usedOf at hy
              split at hy
              · split at hy
                · rename_i heq _ c hc
                  cases heq
                  exact ⟨_, _, c, rfl, hc, hy⟩
                · cases hy
              · cases hy
            have hl2 : (s.del m).load b' (o' + 2) = some c := load_del hmap hl
            have hl3 : St.load { s.del m with nx := s.nx + 1 } b' (o' + 2) = some c := hl2
            have hwrap : wrapF .i64 (addI (.ofNat x) (.ofNat y)) = .ofNat (x + y) := by
              have : x + y < 9223372036854775808 := by omega
              exact wrap_i64n this
            have hwrap0 : y = 0 → wrapF .i64 (addI (.ofNat x) 0) = .ofNat x := fun e => by subst e; exact hwrap
            have hc2 : (c = .nils ∧ y = 0) ∨ ∃ a1 a2 a3 a4 a5, c = .slice a1 a2 y a3 a4 a5 := by
              cases c <;> simp [lenOf] at hc
              · exact .inl ⟨rfl, hc.symm⟩
              · subst hc; exact .inr ⟨_, _, _, _, _, rfl⟩
            have fin : ∀ tm' : Tm, tm'.get (.ofNat 10) = some (.a (.c (.ptr s.nx 0))) → tm'.get (.ofNat 3) = some (.a (.c (.int .i64 (.ofNat (x + y))))) → 
              (fun (dl : List (C × A)) (s3 : St) (tm : Tm) => s3 = { s.del m with nx := Nat.succ s.nx } ∧ tm.get (.ofNat 10) = some (.a (.c (.ptr s.nx 0))) ∧ ∃ x, usedSum s dl = some x ∧ tm.get (.ofNat 3) = some (.a (.c (.int .i64 (.ofNat x))))) (dl ++ [(k, .c (.ptr b' o'))]) { s.del m with nx := s.nx + 1 } tm' := by
              intro tm' h5 h6
              refine ⟨rfl, h5, x + y, ?_, h6⟩
              rw [usedSum_append, hx]
              simp [usedSum, hy]
            rcases hc2 with ⟨rfl, rfl⟩ | ⟨a1, a2, a3, a4, a5, rfl⟩
            all_goals
              refine ⟨s.nx + 1, ?_⟩
              apply Exists.intro
              apply Exists.intro
              apply Exists.intro
              refine And.intro (by omega) (And.intro ?_ (And.intro ?_ (And.intro ?_ (.inl ?_))))
              · simp [exec, runOps, runOper, wantedI, IOp.run, IOp.kind, same, IOp.val, IOp.eff, ev, evC, evA, evI, putT, one, T.get_set, Pos.ofNat_inj_iff, intBin, eqA, usedParts, bindT, h3]
                refine And.intro rfl rfl
              · simp [exec, runOps, runOper, wantedI, IOp.run, IOp.kind, same, IOp.val, IOp.eff, ev, evC, evA, evI, putT, one, T.get_set, Pos.ofNat_inj_iff, intBin, eqA, usedParts, bindT, h3, hl3, hwrap, hwrap0, decEq_i64, -Int.ofNat_eq_natCast]
                rfl
              · intro q h5 h6
                have h6 : q < s.nx + 1 := h6
                omega
              · refine ⟨_, _, rfl, fin _ ?_ ?_, ?_⟩
                · simp [T.get_set, Pos.ofNat_inj_iff, hI]
                · simp [T.get_set, Pos.ofNat_inj_iff]
                  try rfl
                · intro q h5
                  rcases h5 with h5 | ⟨h5, h6⟩
                  · exact h5
                  · have h6 : q < s.nx + 1 := h6
                    omega
          · intro dl q h; exact h.elim
          · rintro dl s3 tm hp ⟨rfl, hI, x, hx, h3⟩
            rw [usedSum_perm s hp, hsum] at hx; cases hx
            apply Exists.intro
            refine Exists.intro [.c (.int .i64 (.ofNat n))] (And.intro ?_ (And.intro ?_ (And.intro ?_ (And.intro ?_ (And.intro rfl ?_)))))
            · simp [exec, runOps, runOper, wantedI, IOp.run, IOp.kind, same, IOp.val, IOp.eff, ev, evC, evA, evI, putT, one, T.get_set, Pos.ofNat_inj_iff, intBin, eqA, usedParts, endT, h3]
              rfl
            · exact .inr rfl
            · show s.nx + 1 ≤ s.nx + 2
              omega
            · simp [ressOf, resOf, R.tms, R.st, usedParts, T.get_set, Pos.ofNat_inj_iff]
            · intro q o' hq
              have hq : s.get q = some o' := hq
              refine ⟨o', ?_, ObjLe.refl o'⟩
              show ((s.del m).put m (.map l)).get q = some o'
              rw [St.get_put, St.get_del]
              by_cases e : m = q
              · subst e; rw [if_pos rfl, ← hmap]; exact hq
              · rw [if_neg e, if_neg e]; exact hq
          · intro s3 tm h; exact h.elim
        · cases h
      · cases h
    · cases h
  · cases h
end Go.AX

namespace Go.AX
open Go

/-! ### (*Tree).Clone -/
def cloneParts (fc : Nat) : FunParts := ⟨52, 1,
 (.seq (.reg [⟨(some (.ofNat 2)), none, (.mov (.k (.c .nilp)))⟩])
 (.seq (.dreg [⟨(some (.ofNat 7)), none, (.mov (.t (.ofNat 0)))⟩, ⟨(some (.ofNat 8)), none, (.nchk (.t (.ofNat 7)))⟩, ⟨(some (.ofNat 9)), none, (.faddr 1 (.t (.ofNat 8)))⟩, ⟨(some (.ofNat 10)), none, (.load1 (.t (.ofNat 9)))⟩, ⟨(some (.ofNat 11)), none, (.mov (.t (.ofNat 0)))⟩, ⟨(some (.ofNat 12)), none, (.nchk (.t (.ofNat 11)))⟩, ⟨(some (.ofNat 13)), none, (.faddr 2 (.t (.ofNat 12)))⟩, ⟨(some (.ofNat 14)), none, (.load1 (.t (.ofNat 13)))⟩, ⟨(some (.ofNat 6)), none, .mkmap⟩, ⟨(some (.ofNat 15)), none, (.build [.nilm, (.int .i64 0), (.int .i64 0)] [(0, 1, (.t (.ofNat 6))), (1, 1, (.t (.ofNat 10))), (2, 1, (.t (.ofNat 14)))])⟩, ⟨(some (.ofNat 16)), none, (.box (.t (.ofNat 15)))⟩, ⟨(some (.ofNat 3)), none, (.mov (.t (.ofNat 16)))⟩] [[], [], [], [], [], [], [], [], [], [], [], []])
 .skip)),
 [⟨(some (.ofNat 17)), none, (.mov (.t (.ofNat 0)))⟩, ⟨(some (.ofNat 18)), none, (.nchk (.t (.ofNat 17)))⟩, ⟨(some (.ofNat 19)), none, (.faddr 0 (.t (.ofNat 18)))⟩, ⟨(some (.ofNat 20)), none, (.load1 (.t (.ofNat 19)))⟩], (.t (.ofNat 20)),
 ⟨0, 21, 22, 23, 24, [⟨(some (.ofNat 25)), none, (.ext (.t (.ofNat 24)) 0)⟩, ⟨(some (.ofNat 26)), none, (.ext (.t (.ofNat 24)) 1)⟩, ⟨(some (.ofNat 4)), none, (.mov (.t (.ofNat 25)))⟩, ⟨(some (.ofNat 5)), none, (.mov (.t (.ofNat 26)))⟩],
 (.seq (.dreg [⟨(some (.ofNat 27)), none, (.mov (.t (.ofNat 3)))⟩, ⟨(some (.ofNat 28)), none, (.nchk (.t (.ofNat 27)))⟩, ⟨(some (.ofNat 29)), none, (.faddr 0 (.t (.ofNat 28)))⟩, ⟨(some (.ofNat 30)), none, (.load1 (.t (.ofNat 29)))⟩, ⟨(some (.ofNat 31)), none, (.mov (.t (.ofNat 4)))⟩, ⟨(some (.ofNat 32)), none, (.mov (.t (.ofNat 5)))⟩, ⟨(some (.ofNat 33)), none, (.nchk (.t (.ofNat 32)))⟩, ⟨(some (.ofNat 34)), none, (.faddr 0 (.t (.ofNat 33)))⟩, ⟨(some (.ofNat 35)), none, (.load1 (.t (.ofNat 34)))⟩, ⟨(some (.ofNat 36)), none, (.mov (.t (.ofNat 5)))⟩, ⟨(some (.ofNat 37)), none, (.nchk (.t (.ofNat 36)))⟩, ⟨(some (.ofNat 38)), none, (.faddr 1 (.t (.ofNat 37)))⟩, ⟨(some (.ofNat 39)), none, (.load1 (.t (.ofNat 38)))⟩, ⟨(some (.ofNat 40)), none, (.mov (.t (.ofNat 5)))⟩, ⟨(some (.ofNat 41)), none, (.nchk (.t (.ofNat 40)))⟩, ⟨(some (.ofNat 42)), none, (.faddr 2 (.t (.ofNat 41)))⟩, ⟨(some (.ofNat 43)), none, (.load1 (.t (.ofNat 42)))⟩, ⟨(some (.ofNat 44)), none, (.mov (.t (.ofNat 5)))⟩, ⟨(some (.ofNat 45)), none, (.nchk (.t (.ofNat 44)))⟩, ⟨(some (.ofNat 46)), none, (.faddr 3 (.t (.ofNat 45)))⟩, ⟨(some (.ofNat 47)), none, (.load1 (.t (.ofNat 46)))⟩, ⟨(some (.ofNat 48)), none, (.call fc [(.t (.ofNat 47))])⟩, ⟨(some (.ofNat 49)), none, (.build [(.bool false), (.int .i64 0), .nils, .nilm] [(0, 1, (.t (.ofNat 35))), (1, 1, (.t (.ofNat 39))), (2, 1, (.t (.ofNat 43))), (3, 1, (.t (.ofNat 48)))])⟩, ⟨(some (.ofNat 50)), none, (.box (.t (.ofNat 49)))⟩, ⟨none, none, (.mupd true (.t (.ofNat 30)) (.t (.ofNat 31)) (.t (.ofNat 50)))⟩] [[], [], [], [], [], [], [], [], [], [], [], [], [], [], [], [], [], [], [], [], [], [3, 8, 12, 16], [], [], []])
 .skip)⟩,
 (.seq (.reg [⟨(some (.ofNat 51)), none, (.mov (.t (.ofNat 3)))⟩, ⟨(some (.ofNat 2)), none, (.mov (.t (.ofNat 51)))⟩])
 (.seq .ret
 .skip)),
 [.t (.ofNat 2)]⟩

/-- One node anew, from this number on. -/
def cloneEnt (m : Nat) (s : St) (p : C × A) (n : Nat) : Option (A × List (Nat × Obj) × Nat) := match p.2, keyOk true p.1 with
  | .c (.ptr b o), true => match s.loadH b o, s.loadH b (Nat.add o 1), s.loadH b (Nat.add o 2), s.loadH b (Nat.add o 3) with
    | some d, some ln, some da, some .nilm => some (.c (.ptr n 0), [(n, .row [d, ln, da, .nilm])], Nat.succ n)
    | some d, some ln, some da, some (.map kb) => bif Nat.beq kb m then none else (match s.get kb with
      | some (.map kl) => some (.c (.ptr (Nat.succ n) 0), [(n, .map kl), (Nat.succ n, .row [d, ln, da, .map n])], Nat.succ (Nat.succ n))
      | _ => none)
    | _, _, _, _ => none
  | _, _ => none
theorem cloneEnt_inv {m : Nat} {s : St} {k : C} {v a : A} {n e : Nat} {os : List (Nat × Obj)} (h : cloneEnt m s (k, v) n = some (a, os, e)) :
    keyOk true k = true ∧ ∃ b o d ln da, v = .c (.ptr b o) ∧ s.loadH b o = some d ∧ s.loadH b (o + 1) = some ln ∧ s.loadH b (o + 2) = some da ∧
    ((s.loadH b (o + 3) = some .nilm ∧ a = .c (.ptr n 0) ∧ os = [(n, .row [d, ln, da, .nilm])] ∧ e = n + 1) ∨
     ∃ kb kl, s.loadH b (o + 3) = some (.map kb) ∧ kb ≠ m ∧ s.get kb = some (.map kl) ∧ a = .c (.ptr (n + 1) 0) ∧ os = [(n, .map kl), (n + 1, .row [d, ln, da, .map n])] ∧ e = n + 2) := by
  unfold cloneEnt at h
  split at h
  · rename_i b o hk hv
    split at h
    · rename_i d ln da h0 h1 h2 h3
      cases h
      exact ⟨hv, b, o, d, ln, da, hk, h0, h1, h2, .inl ⟨h3, rfl, rfl, rfl⟩⟩
    · rename_i d ln da kb h0 h1 h2 h3
      cases hb : Nat.beq kb m <;> rw [hb] at h
      · rw [cond_false] at h
        split at h
        · rename_i kl hkl
          cases h
          exact ⟨hv, b, o, d, ln, da, hk, h0, h1, h2, .inr ⟨kb, kl, h3, beq_false' hb, hkl, rfl, rfl, rfl⟩⟩
        · cases h
      · cases h
    · cases h
  · cases h
def cloneEnts (m : Nat) (s : St) : List (C × A) → Nat → Option (List (C × A) × List (Nat × Obj) × Nat)
  | [], n => some ([], [], n)
  | p :: l, n => match cloneEnt m s p n with
    | some (a, os, n1) => (match cloneEnts m s l n1 with
      | some (r, os', n2) => some ((p.1, a) :: r, os ++ os', n2)
      | none => none)
    | none => none
/-- (*Tree).Clone. -/
def treeClone2 (args : List A) (s : St) : Option (V × St) := match args with
  | [.c (.ptr b o)] => (match s.loadH b o, s.loadH b (Nat.add o 1), s.loadH b (Nat.add o 2) with
    | some (.map m), some next, some quota => (match s.get m with
      | some (.map l) => (match cloneEnts m s l (Nat.add s.nx 3) with
        | some (r, os, n) => some (.a (.c (.ptr (Nat.succ s.nx) 0)), { s with h := addObjs os ((s.h.set (some (.map r)) (.ofNat s.nx)).set (some (.row [.map s.nx, next, quota])) (.ofNat (Nat.succ s.nx))), nx := n })
        | none => none)
      | _ => none)
    | _, _, _ => none)
  | _ => none

theorem keyEq_refl {k : C} (h : keyOk true k = true ∨ keyOk false k = true) : keyEq k k = some true := by
  cases k <;> simp [keyOk] at h
  · rename_i q n
    simp only [keyEq]
    have : decEq q q = isTrue rfl := by cases q <;> rfl
    rw [this]
    show some (eqI n n) = some true
    cases n <;> simp [eqI]
  · rename_i l
    simp only [keyEq]
    have : ∀ l : List Nat, eqL l l = true := by
      intro l; induction l with
      | nil => rfl
      | cons a l ih => simp [eqL, ih]
    rw [this]

/-- The number from which on an entry's node is laid. -/
def cloneNum (m : Nat) (s : St) : List (C × A) → Nat → C → Nat
  | [], n, _ => n
  | p :: l, n, k => match keyEq k p.1 with
    | some true => n
    | _ => match cloneEnt m s p n with
      | some (_, _, n1) => cloneNum m s l n1 k
      | none => n
def clA (m : Nat) (s : St) (l : List (C × A)) (n : Nat) (p : C × A) : A := match cloneEnt m s p (cloneNum m s l n p.1) with | some (a, _, _) => a | none => .c .nilp
def clO (m : Nat) (s : St) (l : List (C × A)) (n : Nat) (p : C × A) : List (Nat × Obj) := match cloneEnt m s p (cloneNum m s l n p.1) with | some (_, o, _) => o | none => []
def clE (m : Nat) (s : St) (l : List (C × A)) (n : Nat) (p : C × A) : Nat := match cloneEnt m s p (cloneNum m s l n p.1) with | some (_, _, e) => e | none => 0

theorem cloneEnt_spec {m : Nat} {s : St} {p : C × A} {n n' : Nat} {a : A} {os : List (Nat × Obj)} (h : cloneEnt m s p n = some (a, os, n')) :
    n < n' ∧ (∀ q o, (q, o) ∈ os → n ≤ q ∧ q < n') ∧ ∀ q o o', (q, o) ∈ os → (q, o') ∈ os → o = o' := by
  unfold cloneEnt at h
  split at h
  · split at h
    · cases h
      exact ⟨by omega, by intro q o hm; simp at hm; omega, by simp; intro q o o' _ h1 _ h2; rw [h1, h2]⟩
    · cases hb : Nat.beq _ m <;> rw [hb] at h
      · rw [cond_false] at h
        split at h
        · cases h
          refine ⟨by omega, ?_, ?_⟩
          · intro q o hm
            simp at hm
            omega
          · intro q o o' h1 h2
            simp at h1 h2
            rcases h1 with ⟨e, h1⟩ | ⟨e, h1⟩ <;> rcases h2 with ⟨e', h2⟩ | ⟨e', h2⟩
            · rw [h1, h2]
            · omega
            · omega
            · rw [h1, h2]
        · cases h
      · cases h
    · cases h
  · cases h

theorem clone_spec (m : Nat) (s : St) : ∀ {l : List (C × A)} {n n2 : Nat} {r : List (C × A)} {os : List (Nat × Obj)}, cloneEnts m s l n = some (r, os, n2) → keyedOk l →
    n ≤ n2 ∧ r = l.map (fun p => (p.1, clA m s l n p)) ∧ os = l.flatMap (clO m s l n) ∧ (∀ p ∈ l, cloneEnt m s p (cloneNum m s l n p.1) = some (clA m s l n p, clO m s l n p, clE m s l n p) ∧ n ≤ cloneNum m s l n p.1 ∧ clE m s l n p ≤ n2) ∧
    l.Pairwise (fun p q => clE m s l n p ≤ cloneNum m s l n q.1)
  | [], n, n2, r, os, h, _ => by
    simp only [cloneEnts] at h; cases h
    exact ⟨Nat.le_refl _, rfl, rfl, by simp, .nil⟩
  | p :: l, n, n2, r, os, h, hk => by
    simp only [cloneEnts] at h
    split at h
    · rename_i a os1 n1 h1
      split at h
      · rename_i r' os' n2' h2
        cases h
        have hk' := hk
        simp only [keyedOk] at hk'
        obtain ⟨hk1, hk2, hk3⟩ := hk'
        obtain ⟨i1, i2, i3, i4, i5⟩ := clone_spec m s h2 hk3
        obtain ⟨e1, _, _⟩ := cloneEnt_spec h1
        have hnum : cloneNum m s (p :: l) n p.1 = n := by simp only [cloneNum, keyEq_refl hk1]
        have hnumq : ∀ q ∈ l, cloneNum m s (p :: l) n q.1 = cloneNum m s l n1 q.1 := fun q hq => by
          simp only [cloneNum, (hk2 q hq).2, h1]
        have hA : clA m s (p :: l) n p = a := by simp only [clA, hnum, h1]
        have hO : clO m s (p :: l) n p = os1 := by simp only [clO, hnum, h1]
        have hE : clE m s (p :: l) n p = n1 := by simp only [clE, hnum, h1]
        have hAq : ∀ q ∈ l, clA m s (p :: l) n q = clA m s l n1 q := fun q hq => by simp only [clA, hnumq q hq]
        have hOq : ∀ q ∈ l, clO m s (p :: l) n q = clO m s l n1 q := fun q hq => by simp only [clO, hnumq q hq]
        have hEq : ∀ q ∈ l, clE m s (p :: l) n q = clE m s l n1 q := fun q hq => by simp only [clE, hnumq q hq]
        refine ⟨by omega, ?_, ?_, ?_, ?_⟩
        · rw [List.map_cons, hA, i2]
          congr 1
          exact List.map_congr_left fun q hq => by rw [hAq q hq]
        · rw [List.flatMap_cons, hO, i3]
          congr 1
          have : l.map (clO m s l n1) = l.map (clO m s (p :: l) n) := List.map_congr_left fun q hq => (hOq q hq).symm
          rw [List.flatMap_def, List.flatMap_def, this]
        · intro q hq
          rcases List.mem_cons.1 hq with rfl | hq
          · rw [hnum, hA, hO, hE]; exact ⟨h1, Nat.le_refl _, i1⟩
          · rw [hnumq q hq, hAq q hq, hOq q hq, hEq q hq]
            obtain ⟨j1, j2, j3⟩ := i4 q hq
            exact ⟨j1, by omega, j3⟩
        · refine List.pairwise_cons.2 ⟨fun q hq => ?_, ?_⟩
          · rw [hE, hnumq q hq]; exact (i4 q hq).2.1
          · refine i5.imp_of_mem fun {x y} hx hy h => ?_
            rw [hEq x hx, hnumq y hy]; exact h
      · cases h
    · cases h

theorem cloneEnts_le {m : Nat} {s : St} : ∀ {l : List (C × A)} {n n2 : Nat} {r : List (C × A)} {os : List (Nat × Obj)}, cloneEnts m s l n = some (r, os, n2) → n ≤ n2
  | [], n, n2, r, os, h => by simp only [cloneEnts] at h; cases h; exact Nat.le_refl _
  | p :: l, n, n2, r, os, h => by
    simp only [cloneEnts] at h
    split at h
    · rename_i h1
      split at h
      · rename_i h2
        cases h
        have := (cloneEnt_spec h1).1
        have := cloneEnts_le h2
        omega
      · cases h
    · cases h

/-- What lies at a number. -/
def objAt : List (Nat × Obj) → Nat → Option Obj
  | [], _ => none
  | (n, o) :: l, q => if n = q then some o else objAt l q
theorem objAt_mem : ∀ {l : List (Nat × Obj)} {q : Nat} {o : Obj}, objAt l q = some o → (q, o) ∈ l
  | (n, o') :: l, q, o, h => by
    simp only [objAt] at h
    split at h
    · rename_i e; cases h; rw [e]; simp
    · exact List.mem_cons_of_mem _ (objAt_mem h)
theorem objAt_append : ∀ (l m : List (Nat × Obj)) (q : Nat), objAt (l ++ m) q = (objAt l q).or (objAt m q)
  | [], m, q => by simp [objAt]
  | (n, o) :: l, m, q => by
    simp only [List.cons_append, objAt]
    split
    · simp
    · exact objAt_append l m q
theorem objAt_some : ∀ {l : List (Nat × Obj)} {q : Nat} {o : Obj}, (q, o) ∈ l → ∃ o', objAt l q = some o'
  | (n, o') :: l, q, o, h => by
    simp only [objAt]
    split
    · exact ⟨_, rfl⟩
    · rename_i hne
      rcases List.mem_cons.1 h with e | h
      · cases e; exact absurd rfl hne
      · exact objAt_some h
theorem objAt_none {l : List (Nat × Obj)} {q : Nat} (h : ∀ o, (q, o) ∉ l) : objAt l q = none := by
  cases hc : objAt l q with
  | none => rfl
  | some o => exact absurd (objAt_mem hc) (h o)

theorem eqVV_refl (v : V) : eqVV v v = true := by
  have hC : ∀ c : C, (match decEq c c with | isTrue _ => true | isFalse _ => false) = true := fun c => by
    split
    · rfl
    · rename_i h _; exact absurd rfl h
  have hL : ∀ l : List C, eqCL l l = true := by
    intro l; induction l with
    | nil => rfl
    | cons c l ih =>
      unfold eqCL
      split
      · exact ih
      · rename_i h _; exact absurd rfl h
  have hA : ∀ a : A, eqAA a a = true := by
    intro a; cases a with
    | c x =>
      have : ∃ h, decEq x x = isTrue h := by
        cases h : decEq x x with
        | isTrue h' => exact ⟨h', rfl⟩
        | isFalse h' => exact absurd rfl h'
      obtain ⟨h, e⟩ := this
      simp only [eqAA, e]
    | agg l => exact hL l
  cases v with
  | a x => exact hA x
  | tup l =>
    show eqVV.eqAs l l = true
    induction l with
    | nil => rfl
    | cons a l ih => simp only [eqVV.eqAs, hA, ih]; rfl

/-- One function by its summary. -/
def cfg1 (fc : Nat) (sm : List A → St → Option (V × St)) : Cfg := { code := fun _ => none, meth := fun _ _ => none, summ := fun f => bif Nat.beq f fc then some sm else none }
theorem cfg1_ok {P : Program} (hm : P.follows .mixedOrders = true) {fc : Nat} {sm : List A → St → Option (V × St)} (hs : SummSound P fc sm) : CfgOk P (cfg1 fc sm) := by
  refine ⟨hm, fun f fn h => ?_, fun t m f h => ?_, fun f sm' h => ?_⟩
  · cases h
  · cases h
  · simp only [cfg1] at h
    obtain ⟨hb, h⟩ := cond_some h
    cases h
    rw [Nat.eq_of_beq_eq_true hb]; exact hs
theorem callN_summ {fc : Nat} {sm : List A → St → Option (V × St)} {n : Nat} {args : List A} {s : St} : callN (cfg1 fc sm) (n + 1) fc args s = sm args s := by
  simp [callN, cfg1]

theorem load_put_ne {s : St} {b b' o : Nat} {ob : Obj} (h : b' ≠ b) : (s.put b ob).load b' o = s.load b' o := by
  unfold St.load; rw [St.get_put, if_neg (Ne.symm h)]; rfl
theorem load_new_ne {s : St} {b' o : Nat} {ob : Obj} (h : b' ≠ s.nx) : (s.new ob).load b' o = s.load b' o := by
  unfold St.load; rw [St.get_new, if_neg (Ne.symm h)]; rfl
theorem load_get {s s' : St} {b o : Nat} {c : C} (hc : s.loadH b o = some c) (h : s'.get b = s.get b) : s'.load b o = some c := by
  unfold St.loadH at hc
  unfold St.load
  rw [h]
  split at hc
  · rename_i hg; rw [hg]; exact hc
  · cases hc
theorem load_H {s : St} {b o : Nat} {c : C} (hc : s.loadH b o = some c) : s.load b o = some c := load_get hc rfl
theorem load_some {s : St} {b o : Nat} {c : C} (h : s.loadH b o = some c) : ∃ n d t f, s.get b = some (.cells n d t f) := by
  unfold St.loadH at h
  split at h
  · rename_i n d t f hg; exact ⟨n, d, t, f, hg⟩
  · cases h
theorem mfind_none' {k : C} : ∀ {l : List (C × A)}, (∀ p ∈ l, keyEq k p.1 = some false) → mfind k l = some none
  | [], _ => rfl
  | p :: l, h => by
    obtain ⟨c, v⟩ := p
    simp only [mfind, h (c, v) (by simp)]
    exact mfind_none' fun q hq => h q (List.mem_cons_of_mem _ hq)
theorem mset_append {k : C} {v : A} : ∀ {l : List (C × A)}, (∀ p ∈ l, keyEq k p.1 = some false) → mset k v l = l ++ [(k, v)]
  | [], _ => rfl
  | p :: l, h => by
    obtain ⟨c, u⟩ := p
    simp only [mset, h (c, u) (by simp)]
    rw [mset_append fun q hq => h q (List.mem_cons_of_mem _ hq)]
    rfl

theorem pairwise_mem {α : Type} {R : α → α → Prop} (hs : ∀ {x y}, R x y → R y x) : ∀ {l : List α}, l.Pairwise R → ∀ {x y : α}, x ∈ l → y ∈ l → x = y ∨ R x y
  | [], _, x, y, h, _ => by cases h
  | a :: l, hp, x, y, hx, hy => by
    obtain ⟨h1, h2⟩ := List.pairwise_cons.1 hp
    rcases List.mem_cons.1 hx with e | h3 <;> rcases List.mem_cons.1 hy with e' | h4
    · exact .inl (e.trans e'.symm)
    · rw [e]; exact .inr (h1 y h4)
    · rw [e']; exact .inr (hs (h1 x h3))
    · exact pairwise_mem hs h2 h3 h4

theorem ble_dec (a b : Nat) : Nat.ble a b = decide (a ≤ b) := by
  cases h : Nat.ble a b
  · have := ble_false' h; simp; omega
  · have := ble_true' h; simp; omega
theorem beq_dec (a b : Nat) : Nat.beq a b = decide (a = b) := by
  cases h : Nat.beq a b
  · have := beq_false' h; simp [this]
  · have := Nat.eq_of_beq_eq_true h; simp [this]
theorem blt_dec (a b : Nat) : Nat.blt a b = decide (a < b) := by
  cases h : Nat.blt a b
  · have := blt_false' h; simp; omega
  · have := blt_true' h; simp; omega

theorem Obj.row_load0 {s : St} {b : Nat} {x y z : C} (h : s.get b = some (.row [x, y, z])) : s.load b 0 = some x := by
  unfold St.load; rw [h]; rfl

theorem clone_sound {P : Program} (hm : P.follows .mixedOrders = true) {f fc : Nat} {F : Func} (hF : P.funcs[f]? = some F) (hname : (F.name == "runtime.NumGoroutine") = false) (hfp : funParts P F = some (cloneParts fc)) (hfc : SummSound P fc mapClone) : SummSound P f treeClone2 := by
  intro args s v s' h
  unfold treeClone2 at h
  split at h
  · rename_i b o
    split at h
    · rename_i m next quota hload0 hload1 hload2
      split at h
      · rename_i l hmap
        split at h
        · rename_i r os n2 hents
          cases h
          have hents' : cloneEnts m s l (s.nx + 3) = some (r, os, n2) := hents
          refine ⟨Nat.le_trans (Nat.le_add_right s.nx 3) (cloneEnts_le hents'), fun E w xs hr hg hn hf hx => ?_⟩
          have hkey := hr.keyed hmap
          obtain ⟨hle, hrr, hoo, hcell, hdis⟩ := clone_spec m s hents' hkey
          have hfr : ∀ q, s.nx ≤ q → q < n2 → s.get q = none := fun q h1 h2 => Fresh.none_at hr hf h1 h2
          have hoks := cfg1_ok hm hfc
          have hb : ∀ {q : Nat} {o' : Obj}, s.get q = some o' → q < s.nx ∨ n2 ≤ q := fun {q o'} h => by
            by_cases h1 : s.nx ≤ q ∧ q < n2
            · rw [hfr q h1.1 h1.2] at h; cases h
            · omega
          obtain ⟨nb, db, tb, fb, hgb⟩ := load_some hload0
          have hloadH0 := hload0
          have hload0 := load_H hload0
          have hload1 := load_H hload1
          have hload2 := load_H hload2
          have hbnx := hb hgb
          obtain ⟨tm1, h1, h13, h10⟩ : ∃ tm1, exec (cfg1 fc mapClone) (callN (cfg1 fc mapClone) 1) 1 (cloneParts fc).pre ((T.e : Tm).set (some (.a (.c (.ptr b o)))) (.ofNat 0)) s = some (.norm tm1 ((s.new (.map [])).new (.row [.map s.nx, next, quota]))) ∧ tm1.get (.ofNat 3) = some (.a (.c (.ptr (s.nx + 1) 0))) ∧ tm1.get (.ofNat 0) = some (.a (.c (.ptr b o))) := by
            apply Exists.intro
            refine And.intro ?_ (And.intro ?_ ?_)
            · simp [exec, runOps, runOper, wantedI, IOp.run, IOp.kind, same, IOp.val, IOp.eff, ev, evC, evA, evI, putT, one, T.get_set, Pos.ofNat_inj_iff, intBin, eqA, runD, runD.checkAgain, fillParts, splice, A.cells, eqVV_refl, evAs, decEq_i64, cloneParts, hload0, hload1, hload2]
              rfl
            · simp [T.get_set, Pos.ofNat_inj_iff]
            · simp [T.get_set, Pos.ofNat_inj_iff]
          generalize hs1 : (s.new (.map [])).new (.row [.map s.nx, next, quota]) = s1 at h1
          have hs1nx : s1.nx = s.nx + 2 := by rw [← hs1]; rfl
          have hs1g : ∀ q, s1.get q = if q = s.nx + 1 then some (.row [.map s.nx, next, quota]) else if q = s.nx then some (.map []) else s.get q := by
            intro q
            rw [← hs1, St.get_new, St.get_new]
            show (if s.nx + 1 = q then _ else if s.nx = q then _ else _) = _
            by_cases e1 : q = s.nx + 1
            · rw [if_pos (show s.nx + 1 = q by omega), if_pos e1]
            · rw [if_neg (show ¬ s.nx + 1 = q by omega), if_neg e1]
              by_cases e2 : q = s.nx
              · rw [if_pos (show s.nx = q by omega), if_pos e2]
              · rw [if_neg (show ¬ s.nx = q by omega), if_neg e2]
          have hpos : ∀ dl : List (C × A), (∀ p ∈ dl, p ∈ l) → ∀ q o', (q, o') ∈ dl.flatMap (clO m s l (s.nx + 3)) → ∃ p ∈ dl, (q, o') ∈ clO m s l (s.nx + 3) p ∧ cloneNum m s l (s.nx + 3) p.1 ≤ q ∧ q < clE m s l (s.nx + 3) p ∧ s.nx + 3 ≤ q ∧ q < n2 := by
            intro dl hdl q o' hq
            obtain ⟨p, hp, hq⟩ := List.mem_flatMap.1 hq
            obtain ⟨h5, h6, h7⟩ := hcell p (hdl p hp)
            obtain ⟨_, h8, _⟩ := cloneEnt_spec h5
            obtain ⟨h9, h10⟩ := h8 q o' hq
            exact ⟨p, hp, hq, h9, h10, by omega, by omega⟩
          have hnone : ∀ dl : List (C × A), (∀ p ∈ dl, p ∈ l) → ∀ q, (q < s.nx + 3 ∨ n2 ≤ q) → objAt (dl.flatMap (clO m s l (s.nx + 3))) q = none := by
            intro dl hdl q hq
            refine objAt_none fun o' h => ?_
            obtain ⟨_, _, _, _, _, h5, h6⟩ := hpos dl hdl q o' h
            omega
          have hmnx := hb hmap
          have hl1 : s1.load b o = some (.map m) := by
            refine load_get (s := s) hloadH0 ?_
            · rw [hs1g, if_neg (by omega), if_neg (by omega)]
          have hmap1 : s1.get m = some (.map l) := by rw [hs1g, if_neg (by omega), if_neg (by omega)]; exact hmap
          obtain ⟨tm2, h2, h3, h23⟩ : ∃ tm2, runOps (cfg1 fc mapClone) (callN (cfg1 fc mapClone) 1) (cloneParts fc).ops tm1 s1 = some (tm2, s1) ∧ evC tm2 (cloneParts fc).mp = some (.map m) ∧ tm2.get (.ofNat 3) = some (.a (.c (.ptr (s.nx + 1) 0))) := by
            apply Exists.intro
            refine And.intro ?_ (And.intro ?_ ?_)
            · simp [exec, runOps, runOper, wantedI, IOp.run, IOp.kind, same, IOp.val, IOp.eff, ev, evC, evA, evI, putT, one, T.get_set, Pos.ofNat_inj_iff, intBin, eqA, runD, runD.checkAgain, fillParts, splice, A.cells, eqVV_refl, evAs, decEq_i64, cloneParts, h10, hl1]
              rfl
            · simp [ev, evC, cloneParts, T.get_set, Pos.ofNat_inj_iff]
            · simp [T.get_set, Pos.ofNat_inj_iff, h13]
          refine range_fun (cfg1 fc mapClone) hoks.meth (callN_sound hoks 1) (callN_nx hoks.summ 1) hm 1 hF hname hfp hr hg hn hf hx rfl (nxF := n2) rfl h1 h2 h3 hmap1 (by omega) (Nat.le_refl n2)
            (fun dl s3 tm => tm.get (.ofNat 21) = some (.a (.c (.ptr s1.nx 0))) ∧ tm.get (.ofNat 3) = some (.a (.c (.ptr (s.nx + 1) 0))) ∧
              ∀ q, s3.get q = if q = m then none else if q = s.nx then some (.map (dl.map fun p => (p.1, clA m s l (s.nx + 3) p))) else if q = s.nx + 1 then some (.row [.map s.nx, next, quota]) else (objAt (dl.flatMap (clO m s l (s.nx + 3))) q).or (s.get q))
            (fun dl q => ∃ p ∈ dl, p ∈ l ∧ cloneNum m s l (s.nx + 3) p.1 ≤ q ∧ q < clE m s l (s.nx + 3) p) (fun _ _ => False) ?_ ?_ ?_ ?_ ?_ ?_
          · refine ⟨by simp [cloneParts, T.get_set], by simp [cloneParts, T.get_set, Pos.ofNat_inj_iff, h23], fun q => ?_⟩
            rw [St.get_nx, St.get_del, hs1g]
            by_cases e : q = m
            · rw [if_pos (show m = q by omega), if_pos e]
            · rw [if_neg (show ¬ m = q by omega), if_neg (show ¬ q = m by omega)]
              by_cases e1 : q = s.nx
              · rw [if_neg (show ¬ q = s.nx + 1 by omega), if_pos e1, if_pos e1]; rfl
              · rw [if_neg (show ¬ q = s.nx by omega), if_neg (show ¬ q = s.nx by omega)]; rfl
          · rintro dl s3 tm ⟨h, _⟩; exact h
          · rintro E0 hE0 dl k v rest s3 tm hp ⟨hI, hT3, hK⟩
            have hpl : ((k, v) : C × A) ∈ l := hp.mem_iff.1 (by simp)
            have hdl : ∀ q ∈ dl, q ∈ l := fun q hq => hp.mem_iff.1 (by simp [hq])
            obtain ⟨hc, hN, hEn⟩ := hcell (k, v) hpl
            simp only at hc hN
            have hkeyp := keyedOk_iff.1 (keyedOk_perm hp.symm hkey)
            have hkd : ∀ q ∈ dl, keyEq k q.1 = some false := fun q hq => ((List.pairwise_append.1 hkeyp.2).2.2 q hq (k, v) (by simp)).2
            have hkeys : ∀ q ∈ dl.map (fun p => (p.1, clA m s l (s.nx + 3) p)), keyEq k q.1 = some false := by
              intro q hq
              obtain ⟨q', hq', rfl⟩ := List.mem_map.1 hq
              exact hkd q' hq'
            have hdisj : ∀ q ∈ dl, clE m s l (s.nx + 3) q ≤ cloneNum m s l (s.nx + 3) k ∨ clE m s l (s.nx + 3) (k, v) ≤ cloneNum m s l (s.nx + 3) q.1 := by
              have h5 : l.Pairwise (fun p q => clE m s l (s.nx + 3) p ≤ cloneNum m s l (s.nx + 3) q.1 ∨ clE m s l (s.nx + 3) q ≤ cloneNum m s l (s.nx + 3) p.1) := hdis.imp fun h => .inl h
              have h6 := (hp.symm.pairwise_iff (fun {x y} h => h.symm)).1 h5
              exact fun q hq => (List.pairwise_append.1 h6).2.2 q hq (k, v) (by simp)
            have hold : ∀ q ob, s.get q = some ob → q ≠ m → s3.get q = some ob := by
              intro q ob hq hqm
              have := hb hq
              rw [hK, if_neg hqm, if_neg (by omega), if_neg (by omega), hnone dl hdl q (by omega), hq]; rfl
            have hfinal : ∀ (s' : St) (tm' : Tm), tm'.get (.ofNat 21) = some (.a (.c (.ptr s1.nx 0))) → tm'.get (.ofNat 3) = some (.a (.c (.ptr (s.nx + 1) 0))) →
                (∀ q, s'.get q = if q = s.nx then some (.map (dl.map (fun p => (p.1, clA m s l (s.nx + 3) p)) ++ [(k, clA m s l (s.nx + 3) (k, v))])) else (objAt (clO m s l (s.nx + 3) (k, v)) q).or (s3.get q)) →
                tm'.get (.ofNat 21) = some (.a (.c (.ptr s1.nx 0))) ∧ tm'.get (.ofNat 3) = some (.a (.c (.ptr (s.nx + 1) 0))) ∧
                ∀ q, s'.get q = if q = m then none else if q = s.nx then some (.map ((dl ++ [(k, v)]).map fun p => (p.1, clA m s l (s.nx + 3) p))) else if q = s.nx + 1 then some (.row [.map s.nx, next, quota]) else (objAt ((dl ++ [(k, v)]).flatMap (clO m s l (s.nx + 3))) q).or (s.get q) := by
              intro s' tm' h5 h6 h7
              refine ⟨h5, h6, fun q => ?_⟩
              obtain ⟨_, h8, _⟩ := cloneEnt_spec hc
              have hout : (q < s.nx + 3 ∨ n2 ≤ q) → objAt (clO m s l (s.nx + 3) (k, v)) q = none := fun h => objAt_none fun o'' ho => by
                have := h8 q o'' ho
                have := hN
                omega
              rw [h7]
              by_cases e1 : q = m
              · rw [if_neg (by omega), if_pos e1, hout (by omega), hK, if_pos e1]; rfl
              · rw [if_neg e1]
                by_cases e2 : q = s.nx
                · rw [if_pos e2, if_pos e2, List.map_append]; rfl
                · rw [if_neg e2, if_neg e2]
                  by_cases e3 : q = s.nx + 1
                  · rw [if_pos e3, hout (by omega), hK, if_neg e1, if_neg e2, if_pos e3]; rfl
                  · rw [if_neg e3, hK, if_neg e1, if_neg e2, if_neg e3, List.flatMap_append, objAt_append]
                    have : ([(k, v)] : List (C × A)).flatMap (clO m s l (s.nx + 3)) = clO m s l (s.nx + 3) (k, v) := by simp
                    rw [this]
                    cases hA : objAt (dl.flatMap (clO m s l (s.nx + 3))) q with
                    | none => cases objAt (clO m s l (s.nx + 3) (k, v)) q <;> rfl
                    | some oa =>
                      obtain ⟨p, hp1, hp2, hp3, hp4, _, _⟩ := hpos dl hdl q oa (objAt_mem hA)
                      have : objAt (clO m s l (s.nx + 3) (k, v)) q = none := objAt_none fun o'' ho => by
                        have h9 := h8 q o'' ho
                        have h10 := hdisj p hp1
                        omega
                      rw [this]; rfl
            have hUout : ∀ q, cloneNum m s l (s.nx + 3) k ≤ q → q < clE m s l (s.nx + 3) (k, v) → ¬ (∃ p ∈ dl, p ∈ l ∧ cloneNum m s l (s.nx + 3) p.1 ≤ q ∧ q < clE m s l (s.nx + 3) p) := by
              rintro q h5 h6 ⟨p, hp1, _, h7, h8⟩
              have := hdisj p hp1
              omega
            have hUin : ∀ q, (∃ p ∈ dl, p ∈ l ∧ cloneNum m s l (s.nx + 3) p.1 ≤ q ∧ q < clE m s l (s.nx + 3) p) ∨ (cloneNum m s l (s.nx + 3) k ≤ q ∧ q < clE m s l (s.nx + 3) (k, v)) → ∃ p ∈ dl ++ [(k, v)], p ∈ l ∧ cloneNum m s l (s.nx + 3) p.1 ≤ q ∧ q < clE m s l (s.nx + 3) p := by
              rintro q (⟨p, h5, h6⟩ | h5)
              · exact ⟨p, by simp [h5], h6⟩
              · exact ⟨(k, v), by simp, hpl, h5⟩
            have hTg : s3.get (s.nx + 1) = some (.row [.map s.nx, next, quota]) := by rw [hK, if_neg (by omega), if_neg (by omega), if_pos rfl]
            have hT := Obj.row_load0 hTg
            have hMg : s3.get s.nx = some (.map (dl.map fun p => (p.1, clA m s l (s.nx + 3) p))) := by rw [hK, if_neg (by omega), if_pos rfl]
            obtain ⟨hki, b', o', d, ln, da, hv', hl0, hl1, hl2, hcase⟩ := cloneEnt_inv hc
            obtain ⟨n', d', t', f', hgb'⟩ := load_some hl0
            have hb'm : b' ≠ m := fun e => by rw [e, hmap] at hgb'; cases hgb'
            have hld : ∀ i c, s.loadH b' i = some c → s3.load b' i = some c := fun i c h => by
              refine load_get (s := s) h ?_
              · rw [hold b' _ hgb' hb'm, hgb']
            have hb'n := hb hgb'
            generalize hNN : cloneNum m s l (s.nx + 3) k = N at *
            generalize hEE : clE m s l (s.nx + 3) (k, v) = e at *
            have hmf := mfind_none' hkeys
            have hms := mset_append (v := clA m s l (s.nx + 3) (k, v)) hkeys
            generalize hML : (dl.map fun p => (p.1, clA m s l (s.nx + 3) p)) = ML at *
            have a0 : St.load { s3 with nx := N } (s.nx + 1) 0 = some (.map s.nx) := hT
            have a1 : St.load { s3 with nx := N } b' o' = some d := hld _ _ hl0
            have a2 : St.load { s3 with nx := N } b' (o' + 1) = some ln := hld _ _ hl1
            have a3 : St.load { s3 with nx := N } b' (o' + 2) = some da := hld _ _ hl2
            subst hv'
            rcases hcase with ⟨h3', hA, hO, hE'⟩ | ⟨kb, kl, h3', hkbm, hkl, hA, hO, hE'⟩
            · have a4 : St.load { s3 with nx := N } b' (o' + 3) = some .nilm := hld _ _ h3'
              have aM : (St.new { s3 with nx := N } (.row [d, ln, da, .nilm])).get s.nx = some (.map ML) := by
                rw [St.get_new]
                show (if N = s.nx then _ else _) = _
                rw [if_neg (by omega)]; exact hMg
              rw [hA] at hms
              refine ⟨N, ?_⟩
              apply Exists.intro
              apply Exists.intro
              apply Exists.intro
              refine And.intro (by omega) (And.intro ?_ (And.intro ?_ (And.intro ?_ (.inl ?_))))
              · simp [exec, runOps, runOper, wantedI, IOp.run, IOp.kind, same, IOp.val, IOp.eff, ev, evC, evA, evI, putT, one, T.get_set, Pos.ofNat_inj_iff, intBin, eqA, runD, runD.checkAgain, fillParts, splice, A.cells, eqVV_refl, evAs, decEq_i64, cloneParts, bindT]
                refine And.intro rfl rfl
              · simp [exec, runOps, runOper, wantedI, IOp.run, IOp.kind, same, IOp.val, IOp.eff, ev, evC, evA, evI, putT, one, T.get_set, Pos.ofNat_inj_iff, intBin, eqA, runD, runD.checkAgain, fillParts, splice, A.cells, eqVV_refl, evAs, decEq_i64, ble_dec, beq_dec, blt_dec, cloneParts, bindT, hT3, a0, a1, a2, a3, a4, callN_summ, mapClone, aM, hki, hmf, hms]
                rfl
              · intro q h5 h6
                have h6 : q < N + 1 := h6
                exact ⟨hUout q h5 (by omega), hE0 q (by omega) (by omega)⟩
              · refine ⟨_, _, rfl, hfinal _ _ ?_ ?_ (fun q => ?_), ?_⟩
                · simp [T.get_set, Pos.ofNat_inj_iff, hI]
                · simp [T.get_set, Pos.ofNat_inj_iff, hT3]
                · rw [hA, hO, St.get_put]
                  by_cases e1 : q = s.nx
                  · rw [if_pos (show s.nx = q by omega), if_pos e1]
                  · rw [if_neg (show ¬ s.nx = q by omega), if_neg e1, St.get_new]
                    show (if N = q then _ else s3.get q) = ((if N = q then _ else none) : Option Obj).or _
                    by_cases e2 : N = q
                    · rw [if_pos e2, if_pos e2]; rfl
                    · rw [if_neg e2, if_neg e2]; rfl
                · intro q h5
                  refine hUin q (h5.imp id fun h => ⟨h.1, ?_⟩)
                  have h6 : q < N + 1 := h.2
                  omega
            · have a4 : St.load { s3 with nx := N } b' (o' + 3) = some (.map kb) := hld _ _ h3'
              have akl : St.get { s3 with nx := N } kb = some (.map kl) := hold kb _ hkl hkbm
              have hne : b' ≠ N := by omega
              have c0 : St.load (St.new { s3 with nx := N } (.map kl)) (s.nx + 1) 0 = some (.map s.nx) := by rw [load_new_ne (show s.nx + 1 ≠ N by omega)]; exact a0
              have c1 : St.load (St.new { s3 with nx := N } (.map kl)) b' o' = some d := by rw [load_new_ne hne]; exact a1
              have c2 : St.load (St.new { s3 with nx := N } (.map kl)) b' (o' + 1) = some ln := by rw [load_new_ne hne]; exact a2
              have c3 : St.load (St.new { s3 with nx := N } (.map kl)) b' (o' + 2) = some da := by rw [load_new_ne hne]; exact a3
              have c4 : St.load (St.new { s3 with nx := N } (.map kl)) b' (o' + 3) = some (.map kb) := by rw [load_new_ne hne]; exact a4
              have cn : (St.new { s3 with nx := N } (.map kl)).nx = N + 1 := rfl
              have aM : (St.new (St.new { s3 with nx := N } (.map kl)) (.row [d, ln, da, .map N])).get s.nx = some (.map ML) := by
                rw [St.get_new, St.get_new]
                show (if N + 1 = s.nx then _ else if N = s.nx then _ else _) = _
                rw [if_neg (by omega), if_neg (by omega)]; exact hMg
              rw [hA] at hms
              refine ⟨N, ?_⟩
              apply Exists.intro
              apply Exists.intro
              apply Exists.intro
              refine And.intro (by omega) (And.intro ?_ (And.intro ?_ (And.intro ?_ (.inl ?_))))
              · simp [exec, runOps, runOper, wantedI, IOp.run, IOp.kind, same, IOp.val, IOp.eff, ev, evC, evA, evI, putT, one, T.get_set, Pos.ofNat_inj_iff, intBin, eqA, runD, runD.checkAgain, fillParts, splice, A.cells, eqVV_refl, evAs, decEq_i64, ble_dec, beq_dec, blt_dec, cloneParts, bindT]
                refine And.intro rfl rfl
              · simp [exec, runOps, runOper, wantedI, IOp.run, IOp.kind, same, IOp.val, IOp.eff, ev, evC, evA, evI, putT, one, T.get_set, Pos.ofNat_inj_iff, intBin, eqA, runD, runD.checkAgain, fillParts, splice, A.cells, eqVV_refl, evAs, decEq_i64, ble_dec, beq_dec, blt_dec, cloneParts, bindT, hT3, a0, a1, a2, a3, a4, c0, c1, c2, c3, c4, akl, callN_summ, mapClone, aM, hki, hmf, hms]
                rfl
              · intro q h5 h6
                have h6 : q < N + 2 := h6
                exact ⟨hUout q h5 (by omega), hE0 q (by omega) (by omega)⟩
              · refine ⟨_, _, rfl, hfinal _ _ ?_ ?_ (fun q => ?_), ?_⟩
                · simp [T.get_set, Pos.ofNat_inj_iff, hI]
                · simp [T.get_set, Pos.ofNat_inj_iff, hT3]
                · rw [hA, hO, St.get_put]
                  by_cases e1 : q = s.nx
                  · rw [if_pos (show s.nx = q by omega), if_pos e1]
                  · rw [if_neg (show ¬ s.nx = q by omega), if_neg e1, St.get_new, St.get_new]
                    show (if N + 1 = q then _ else if N = q then _ else s3.get q) = ((if N = q then _ else if N + 1 = q then _ else none) : Option Obj).or _
                    by_cases e2 : N = q
                    · rw [if_neg (show ¬ N + 1 = q by omega), if_pos e2, if_pos e2]; rfl
                    · rw [if_neg e2, if_neg e2]
                      by_cases e3 : N + 1 = q
                      · rw [if_pos e3, if_pos e3]; rfl
                      · rw [if_neg e3, if_neg e3]; rfl
                · intro q h5
                  refine hUin q (h5.imp id fun h => ⟨h.1, ?_⟩)
                  have h6 : q < N + 2 := h.2
                  omega
          · rintro dl q ⟨p, hp, hpl, h5, h6⟩
            obtain ⟨_, h7, h8⟩ := hcell p hpl
            omega
          · rintro dl s3 tm hp ⟨hI, hT3, hK⟩
            have hdl : ∀ q ∈ dl, q ∈ l := fun q hq => hp.mem_iff.1 hq
            apply Exists.intro
            refine Exists.intro [.c (.ptr (s.nx + 1) 0)] (And.intro ?_ (And.intro ?_ (And.intro ?_ (And.intro ?_ (And.intro rfl ?_)))))
            · simp [exec, runOps, runOper, wantedI, IOp.run, IOp.kind, same, IOp.val, IOp.eff, ev, evC, evA, evI, putT, one, T.get_set, Pos.ofNat_inj_iff, intBin, eqA, runD, runD.checkAgain, fillParts, splice, A.cells, eqVV_refl, evAs, decEq_i64, ble_dec, beq_dec, blt_dec, cloneParts, endT, hT3]
              rfl
            · exact .inr rfl
            · exact Nat.le_refl n2
            · simp [ressOf, resOf, R.tms, R.st, cloneParts, T.get_set, Pos.ofNat_inj_iff]
            · intro q o' hq
              show ∃ o2, (s3.put m (.map l)).get q = some o2 ∧ ObjLe o' o2
              have hother : q ≠ m → (s3.put m (.map l)).get q = s3.get q := fun h => by rw [St.get_put, if_neg (Ne.symm h)]
              rcases addObjs_get (l := os) (show (addObjs os _).get (.ofNat q) = some o' from hq) with hq | hq
              · rw [hoo] at hq
                obtain ⟨p, hp1, hp2, hp3, hp4, h5, h6⟩ := hpos l (fun p h => h) q o' hq
                have hqm : q ≠ m := by omega
                have hmem : (q, o') ∈ dl.flatMap (clO m s l (s.nx + 3)) := List.mem_flatMap.2 ⟨p, hp.mem_iff.2 hp1, hp2⟩
                obtain ⟨o2, ho2⟩ := objAt_some hmem
                obtain ⟨p', hp1', hp2', hp3', hp4', _, _⟩ := hpos dl hdl q o2 (objAt_mem ho2)
                have hpp : p = p' := by
                  have h7 : l.Pairwise (fun p q => clE m s l (s.nx + 3) p ≤ cloneNum m s l (s.nx + 3) q.1 ∨ clE m s l (s.nx + 3) q ≤ cloneNum m s l (s.nx + 3) p.1) := hdis.imp fun h => .inl h
                  rcases pairwise_mem (fun {x y} h => h.symm) h7 hp1 (hdl p' hp1') with h | h
                  · exact h
                  · omega
                subst hpp
                have heq : o' = o2 := (cloneEnt_spec (hcell p hp1).1).2.2 q o' o2 hp2 hp2'
                refine ⟨o2, ?_, by rw [heq]; exact ObjLe.refl o2⟩
                rw [hother hqm, hK, if_neg hqm, if_neg (show ¬ q = s.nx by omega), if_neg (show ¬ q = s.nx + 1 by omega), ho2]; rfl
              · rw [T.get_set] at hq
                by_cases e1 : q = s.nx + 1
                · rw [if_pos (by rw [e1])] at hq
                  cases hq
                  refine ⟨_, ?_, ObjLe.refl _⟩
                  rw [hother (show q ≠ m by omega), hK, if_neg (show ¬ q = m by omega), if_neg (show ¬ q = s.nx by omega), if_pos e1]
                · rw [if_neg (fun h => e1 (Pos.ofNat_inj h).symm), T.get_set] at hq
                  by_cases e2 : q = s.nx
                  · rw [if_pos (by rw [e2])] at hq
                    cases hq
                    refine ⟨.map (dl.map fun p => (p.1, clA m s l (s.nx + 3) p)), ?_, ?_⟩
                    · rw [hother (show q ≠ m by omega), hK, if_neg (show ¬ q = m by omega), if_pos e2]
                    · show r.Perm _
                      rw [hrr]
                      exact (hp.map _).symm
                  · rw [if_neg (fun h => e2 (Pos.ofNat_inj h).symm)] at hq
                    have hq : s.get q = some o' := hq
                    by_cases e3 : q = m
                    · refine ⟨o', ?_, ObjLe.refl _⟩
                      rw [St.get_put, if_pos e3.symm, ← hmap, ← e3]; exact hq
                    · refine ⟨o', ?_, ObjLe.refl _⟩
                      have := hb hq
                      rw [hother e3, hK, if_neg e3, if_neg e2, if_neg e1, hnone dl hdl q (by omega)]
                      exact hq
          · intro s3 tm h; exact h.elim
        · cases h
      · cases h
    · cases h
  · cases h
end Go.AX

namespace Go.AX
open Go Go.Sort

theorem St.storeN_inv {s s' : St} {b o : Nat} {l : List C} (h : s.storeN b o l = some s') : ∃ n d t f, s.get b = some (.cells n d t f) ∧ o + l.length ≤ n ∧ s' = s.put b (.cells n d (tsetN t o l) f) := by
  unfold St.storeN at h
  split at h
  · rename_i n d t f hg
    obtain ⟨h1, h2⟩ := cond_some h
    cases h2
    exact ⟨n, d, t, f, hg, ble_true' h1, rfl⟩
  · cases h

/-- One block has turned. -/
theorem put_step' {E : Env} {s : St} {w w' : World} (hr : Rel E s w) {b : Nat} {o o' : Obj} {L : Loc} (hg : s.get b = some o) (hL : E.loc b = some L) (ho : ORel E w' L o')
    (hw : ∀ m, m < w.heap.size → m ≠ L.blk → w'.heap[m]? = w.heap[m]?) (hsz : w.heap.size ≤ w'.heap.size) (hos : w'.os = w.os) (hout : w'.output = w.output) (htp : w'.tape = w.tape) : Step E s w E (s.put b o') w' := by
  have key : ∀ q oq, (s.put b o').get q = some oq → (q = b ∧ oq = o') ∨ (q ≠ b ∧ s.get q = some oq) := fun q oq h => by
    rw [St.get_put] at h
    split at h
    · rename_i e; cases h; exact .inl ⟨e.symm, rfl⟩
    · rename_i e; exact .inr ⟨fun e' => e e'.symm, h⟩
  have key2 : ∀ q oq, (s.put b o').get q = some oq → ∃ o2, s.get q = some o2 := fun q oq h => by
    rcases key q oq h with ⟨rfl, _⟩ | ⟨_, h⟩
    · exact ⟨o, hg⟩
    · exact ⟨_, h⟩
  refine ⟨⟨fun q oq h => ?_, fun q q' oq oq' L1 L2 h h' e1 e2 e3 => ?_⟩, Nat.le_refl _, fun _ _ => rfl, rfl, fun m ⟨q, oq, L1, h, e1, e2⟩ => ?_, fun m hm hl => ?_, hsz, hos, hout, htp, rfl⟩
  · rcases key q oq h with ⟨rfl, rfl⟩ | ⟨hne, h⟩
    · exact ⟨L, hL, ho⟩
    · obtain ⟨L1, hL1, ho1⟩ := hr.obj q oq h
      refine ⟨L1, hL1, ho1.same (hw _ ho1.lt fun e => hne ?_)⟩
      exact hr.inj q b oq o L1 L h hg hL1 hL e
  · obtain ⟨o1, h1⟩ := key2 q oq h
    obtain ⟨o2, h2⟩ := key2 q' oq' h'
    exact hr.inj q q' o1 o2 L1 L2 h1 h2 e1 e2 e3
  · obtain ⟨o1, h1⟩ := key2 q oq h
    exact .inr ⟨q, o1, L1, h1, e1, e2⟩
  · refine hw m hm fun e => hl ?_
    exact ⟨b, o, L, hg, hL, e.symm⟩

/-! ### Sorting -/
theorem ltI_iff (a b : Int) : ltI a b = true ↔ a < b := by
  cases a with
  | ofNat a => cases b with
    | ofNat b =>
      show Nat.blt a b = true ↔ (a : Int) < (b : Int)
      rw [blt_dec]; simp
    | negSucc b => simp [ltI]; omega
  | negSucc a => cases b with
    | ofNat b => simp [ltI]; omega
    | negSucc b =>
      show Nat.blt b a = true ↔ _
      rw [blt_dec]; simp; omega
theorem insI_perm (x : Int) : ∀ l : List Int, (insI x l).Perm (x :: l)
  | [] => .refl _
  | y :: l => by
    unfold insI
    cases ltI y x
    · exact .refl _
    · exact ((insI_perm x l).cons y).trans (.swap _ _ _)
theorem sortI_perm : ∀ l : List Int, (sortI l).Perm l
  | [] => .refl _
  | x :: l => (insI_perm x (sortI l)).trans ((sortI_perm l).cons x)
theorem insI_sorted (x : Int) : ∀ l : List Int, l.Pairwise (· ≤ ·) → (insI x l).Pairwise (· ≤ ·)
  | [], _ => by simp [insI]
  | y :: l, h => by
    obtain ⟨h1, h2⟩ := List.pairwise_cons.1 h
    unfold insI
    cases hb : ltI y x
    · have hxy : x ≤ y := by
        have : ¬ y < x := fun h => by rw [(ltI_iff y x).2 h] at hb; cases hb
        omega
      rw [cond_false]
      refine List.pairwise_cons.2 ⟨fun z hz => ?_, h⟩
      rcases List.mem_cons.1 hz with rfl | hz
      · exact hxy
      · exact Int.le_trans hxy (h1 z hz)
    · have hyx := (ltI_iff y x).1 hb
      rw [cond_true]
      refine List.pairwise_cons.2 ⟨fun z hz => ?_, insI_sorted x l h2⟩
      rcases List.mem_cons.1 ((insI_perm x l).mem_iff.1 hz) with rfl | hz
      · omega
      · exact h1 z hz
theorem sortI_sorted : ∀ l : List Int, (sortI l).Pairwise (· ≤ ·)
  | [] => .nil
  | x :: l => insI_sorted x _ (sortI_sorted l)
theorem sortI_unique {l m : List Int} (h : l.Perm m) : sortI l = sortI m :=
  List.Perm.eq_of_pairwise (le := (· ≤ ·)) (fun a b _ _ h1 h2 => Int.le_antisymm h1 h2) (sortI_sorted l) (sortI_sorted m) ((sortI_perm l).trans (h.trans (sortI_perm m).symm))
theorem mergeSort_sortI (l : List Int) : l.mergeSort (fun x y => decide (x ≤ y)) = sortI l := by
  refine List.Perm.eq_of_pairwise (le := (· ≤ ·)) (fun a b _ _ h1 h2 => Int.le_antisymm h1 h2) ?_ (sortI_sorted l) ((List.mergeSort_perm l _).trans (sortI_perm l).symm)
  have := List.pairwise_mergeSort (le := fun x y : Int => decide (x ≤ y)) (fun a b c h1 h2 => by simp at *; omega) (fun a b => by simp; omega) l
  simpa using this

/-- Ints in a row. -/
def rowI : List C → Option (List Int)
  | [] => some []
  | .int .i64 n :: l => match rowI l with | some r => some (n :: r) | none => none
  | _ => none
theorem rowI_spec : ∀ {l : List C} {zs : List Int}, rowI l = some zs → l = cellsI zs
  | [], zs, h => by simp only [rowI] at h; cases h; rfl
  | c :: l, zs, h => by
    unfold rowI at h
    split at h
    · rename_i heq; cases heq
    · rename_i n l' heq
      simp only [List.cons.injEq] at heq
      obtain ⟨rfl, rfl⟩ := heq
      split at h
      · rename_i r hr
        cases h
        rw [rowI_spec hr]; rfl
      · cases h
    · cases h
theorem cellsI_length : ∀ l : List Int, (cellsI l).length = l.length
  | [] => rfl
  | _ :: l => by simp [cellsI, cellsI_length l]
theorem cellsI_get : ∀ (l : List Int) (i : Nat), (cellsI l)[i]? = l[i]?.map (C.int .i64)
  | [], i => by simp [cellsI]
  | n :: l, 0 => by simp [cellsI]
  | n :: l, i + 1 => by simpa [cellsI] using cellsI_get l i

/-- slices.Sort, ints. -/
def sortSI (args : List A) (s : St) : Option (V × St) := match args with
  | [.c .nils] => some (.tup [], s)
  | [.c (.slice b o n c z ex)] => bif Nat.beq n 0 then some (.tup [], s) else bif Nat.blt n 1099511627776 then (match s.loadN b o n with
    | some l => (match rowI l with
      | some zs => (match s.storeN b o (cellsI (sortI zs)) with | some s' => some (.tup [], s') | none => none)
      | none => none)
    | none => none) else none
  | _ => none

theorem sortSI_sound {P : Program} {f : Nat} {fn : Func} {c : Code} (hf : P.funcs[f]? = some fn) (hname : (fn.name == "runtime.NumGoroutine") = false) (hb : fn.body = some c)
    (h1 : ∀ (blk off cap : Nat) (zs : List Int) (w : World), Holds (Value.int .i64) w blk off zs.toArray → blk < w.heap.size → zs.length < 4611686018427387904 →
      Calls P f #[.slice (some ⟨blk, off, none⟩) zs.length cap] w fun e w' => e = .returned (.tuple #[]) ∧ ∃ n os, w' = grow (putRow (Value.int .i64) (Sort.ahead w n) blk off (zs.mergeSort fun x y => decide (x ≤ y)).toArray) os)
    (h0 : ∀ (p : Option Addr) (cap : Nat) (w : World), Calls P f #[.slice p 0 cap] w fun e w' => e = .returned (.tuple #[]) ∧ w' = w) : SummSound P f sortSI := by
  intro args s v s' h
  unfold sortSI at h
  split at h
  · cases h
    refine ⟨Nat.le_refl _, fun E w xs hr hg hn hfr hx => ?_⟩
    obtain ⟨x, rfl, hy⟩ := args1 hx
    have hy : x = .slice none 0 0 := hy
    subst hy
    exact calls_outc hf hname hb ((h0 none 0 w).mono fun e w' ⟨he, hw⟩ => ⟨_, he, E, ⟨[], rfl, .nil⟩, by rw [hw]; exact Step.refl hr⟩)
  · rename_i b o n cp z ex
    cases hn0 : Nat.beq n 0 <;> rw [hn0] at h
    · rw [cond_false] at h
      have hn0 := beq_false' hn0
      obtain ⟨hlt, h⟩ := cond_some h
      have hlt := blt_true' hlt
      split at h
      · rename_i l hl
        split at h
        · rename_i zs hzs
          split at h
          · rename_i s1 hst
            cases h
            obtain ⟨m, d, t, fz, hgb, hle, hs1⟩ := St.storeN_inv hst
            refine ⟨by rw [hs1]; exact Nat.le_refl _, fun E w xs hr hg hn hfr hx => ?_⟩
            obtain ⟨x, rfl, L, off, c', hL, rfl, g1, g2, g3, g4, g5⟩ := args1 hx
            have hoff := g1 (by omega)
            obtain ⟨L', hL', cs, el, fr, hh, hsz, hroom, hcells, hfr0, hfr2⟩ := hr.obj b _ hgb
            rw [hL] at hL'; cases hL'
            have hlen : l.length = n := by
              obtain ⟨_, _, h2, _⟩ := loadN_sound' (P := P) hr hl
              exact h2
            have hzl : zs.length = n := by rw [← hlen, rowI_spec hzs, cellsI_length]
            have hget : ∀ j, j < n → tget d t (o + j) = .int .i64 (zs.getD j 0) := by
              intro j hj
              have h2 : l = tgetN d t o n := by
                unfold St.loadN at hl
                rw [hgb] at hl
                obtain ⟨_, hl⟩ := cond_some hl
                rw [forceL_eq] at hl
                exact (Option.some.inj hl).symm
              have h3 := tgetN_get d t n o j hj
              rw [← h2, rowI_spec hzs, cellsI_get] at h3
              rw [List.getD_eq_getElem?_getD]
              cases h4 : zs[j]? with
              | none => rw [h4] at h3; cases h3
              | some q => rw [h4] at h3; simpa using h3.symm
            have hH : Holds (Value.int .i64) w L.blk off zs.toArray := by
              intro j hj
              have hj : j < n := by simpa [hzl] using hj
              have hjm : o + j < m := by rw [cellsI_length, (sortI_perm zs).length_eq] at hle; omega
              obtain ⟨y, hy, hcy⟩ := hcells (o + j) hjm
              rw [hget j hj] at hcy
              have hcy : y = .int .i64 (zs.getD j 0) := hcy
              have hidx : off + j = o + j + L.sh := by omega
              constructor
              · show w.cell? ⟨L.blk, off + j, none⟩ = _
                rw [hidx]
                have e1 : w.cell? ⟨L.blk, o + j + L.sh, none⟩ = some y := by simp [World.cell?, hh, hy]
                rw [e1, hcy]
                have : zs.toArray[j]! = zs.getD j 0 := by
                  rw [getElem!_pos zs.toArray j (by simp; omega)]
                  simp [List.getD_eq_getElem?_getD, List.getElem?_eq_getElem (show j < zs.length by omega)]
                rw [this]
              · simp only [World.frozen?, hh]
                simp only [Bool.and_eq_false_iff, decide_eq_false_iff_not]
                rcases hfr0 with h | h <;> omega
            have hblk : L.blk < w.heap.size := (Array.getElem?_eq_some_iff.1 hh).1
            have hc1 := h1 L.blk off c' zs w hH hblk (by omega)
            rw [hzl] at hc1
            refine calls_outc hf hname hb (hc1.mono fun e w' ⟨he, k, os, hw⟩ => ⟨_, he, E, ⟨[], rfl, .nil⟩, ?_⟩)
            rw [mergeSort_sortI] at hw
            have hsl : (sortI zs).length = n := by rw [(sortI_perm zs).length_eq, hzl]
            have hheap : ∀ q, q < w.heap.size → w'.heap[q]? = if L.blk = q then w.heap[q]?.map (onCells (putCells (Value.int .i64) off (sortI zs).toArray)) else w.heap[q]? := by
              intro q hq
              rw [hw, heap_grow_old _ _ (by simpa [putRow, mapBlock, Sort.ahead] using hq)]
              simp only [putRow, mapBlock, Sort.ahead, Array.getElem?_modify]
            rw [hs1]
            refine put_step' hr hgb hL ?_ (fun q hq hne => by rw [hheap q hq, if_neg (Ne.symm hne)]) (by rw [hw]; simp [putRow, mapBlock, Sort.ahead]) (by rw [hw]; rfl) (by rw [hw]; rfl) (by rw [hw]; rfl)
            refine ⟨putCells (Value.int .i64) off (sortI zs).toArray cs, el, fr, by rw [hheap _ hblk, if_pos rfl, hh]; rfl, by simp [putCells, hsz], hroom, fun i hi => ?_, hfr0, hfr2⟩
            obtain ⟨y, hy, hcy⟩ := hcells i hi
            rw [tget_setN, cellsI_length, hsl]
            simp only [putCells, Array.getElem?_mapIdx, hy, Option.map_some]
            by_cases hio : o ≤ i ∧ i < o + n
            · rw [if_pos hio, if_pos (by simp [hsl]; omega)]
              refine ⟨_, rfl, ?_⟩
              have hj : i - o < (sortI zs).length := by omega
              have e1 : (cellsI (sortI zs)).getD (i - o) d = .int .i64 ((sortI zs)[i - o]) := by
                rw [List.getD_eq_getElem?_getD, cellsI_get, List.getElem?_eq_getElem hj]; rfl
              have e2 : (sortI zs).toArray[i + L.sh - off]! = (sortI zs)[i - o] := by
                have : i + L.sh - off = i - o := by omega
                rw [this, getElem!_pos (sortI zs).toArray (i - o) (by simpa using hj)]
                simp
              rw [e1, e2]
              rfl
            · rw [if_neg hio, if_neg (by simp [hsl]; omega)]
              exact ⟨y, rfl, hcy⟩
          · cases h
        · cases h
      · cases h
    · cases h
      have hn0 := Nat.eq_of_beq_eq_true hn0
      subst hn0
      refine ⟨Nat.le_refl _, fun E w xs hr hg hn hfr hx => ?_⟩
      obtain ⟨x, rfl, L, off, c', hL, rfl, _⟩ := args1 hx
      exact calls_outc hf hname hb ((h0 _ c' w).mono fun e w' ⟨he, hw⟩ => ⟨_, he, E, ⟨[], rfl, .nil⟩, by rw [hw]; exact Step.refl hr⟩)
  · cases h
end Go.AX

namespace Go.AX
open Go

/-! ### (*Tree).Loose -/
def looseParts (fc : Nat) : FunParts := ⟨28, 1,
 (.seq (.reg [⟨(some (.ofNat 2)), none, (.mov (.k (.c .nils)))⟩])
 (.seq (.reg [⟨(some (.ofNat 3)), none, (.mov (.k (.c .nils)))⟩])
 .skip)),
 [⟨(some (.ofNat 6)), none, (.mov (.t (.ofNat 0)))⟩, ⟨(some (.ofNat 7)), none, (.nchk (.t (.ofNat 6)))⟩, ⟨(some (.ofNat 8)), none, (.faddr 0 (.t (.ofNat 7)))⟩, ⟨(some (.ofNat 9)), none, (.load1 (.t (.ofNat 8)))⟩], (.t (.ofNat 9)),
 ⟨0, 10, 11, 12, 13, [⟨(some (.ofNat 14)), none, (.ext (.t (.ofNat 13)) 0)⟩, ⟨(some (.ofNat 15)), none, (.ext (.t (.ofNat 13)) 1)⟩, ⟨(some (.ofNat 4)), none, (.mov (.t (.ofNat 14)))⟩, ⟨(some (.ofNat 5)), none, (.mov (.t (.ofNat 15)))⟩],
 (.seq (.reg [⟨(some (.ofNat 16)), none, (.mov (.t (.ofNat 5)))⟩, ⟨(some (.ofNat 17)), none, (.nchk (.t (.ofNat 16)))⟩, ⟨(some (.ofNat 18)), none, (.faddr 1 (.t (.ofNat 17)))⟩, ⟨(some (.ofNat 19)), none, (.load1 (.t (.ofNat 18)))⟩, ⟨(some (.ofNat 20)), none, (.bin .eql .num (.t (.ofNat 19)) (.k (.c (.int .i64 0))))⟩])
 (.seq (.cond (.t (.ofNat 20)) (.reg [⟨(some (.ofNat 21)), none, (.mov (.t (.ofNat 3)))⟩, ⟨(some (.ofNat 22)), none, (.mov (.t (.ofNat 4)))⟩, ⟨(some (.ofNat 23)), none, (.bslice 1 1 [(.int .i64 0)] [(0, 1, (.t (.ofNat 22)))])⟩, ⟨(some (.ofNat 24)), none, (.appendV 1 8 (.t (.ofNat 21)) (.t (.ofNat 23)))⟩, ⟨(some (.ofNat 3)), none, (.mov (.t (.ofNat 24)))⟩]) .skip)
 .skip))⟩,
 (.seq (.reg [⟨(some (.ofNat 25)), none, (.mov (.t (.ofNat 3)))⟩, ⟨(some (.ofNat 26)), none, (.call fc [(.t (.ofNat 25))])⟩])
 (.seq (.reg [⟨(some (.ofNat 27)), none, (.mov (.t (.ofNat 3)))⟩, ⟨(some (.ofNat 2)), none, (.mov (.t (.ofNat 27)))⟩])
 (.seq .ret
 .skip))),
 [.t (.ofNat 2)]⟩

/-- An entry's key, where its node stands nowhere. -/
def looseOf (s : St) (p : C × A) : Option (Option Int) := match p.1, p.2 with
  | .int .i64 k, .c (.ptr b o) => (match s.loadH b (Nat.add o 1) with
    | some (.int .i64 n) => some (bif eqI n 0 then some k else none)
    | _ => none)
  | _, _ => none
def looseL (s : St) : List (C × A) → Option (List Int)
  | [] => some []
  | p :: l => match looseOf s p with
    | some (some k) => (match looseL s l with | some r => some (k :: r) | none => none)
    | some none => looseL s l
    | none => none
/-- (*Tree).Loose. -/
def treeLoose2 (args : List A) (s : St) : Option (V × St) := match args with
  | [.c (.ptr b o)] => (match s.load b o with
    | some (.map m) => (match s.get m with
      | some (.map l) => (match looseL s l with
        | some [] => some (.a (.c .nils), { s with nx := Nat.succ s.nx })
        | some zs => bif Nat.blt zs.length 1000000 then
            some (.a (.c (.slice (Nat.add s.nx (Nat.mul 2 zs.length)) 0 zs.length zs.length 1 false)), { s with h := s.h.set (some (.row (cellsI (sortI zs)) true)) (.ofNat (Nat.add s.nx (Nat.mul 2 zs.length))), nx := Nat.succ (Nat.add s.nx (Nat.mul 2 zs.length)) }) else none
        | none => none)
      | _ => none)
    | _ => none)
  | _ => none

theorem looseL_append (s : St) : ∀ (l l' : List (C × A)), looseL s (l ++ l') = (match looseL s l, looseL s l' with | some n, some m => some (n ++ m) | _, _ => none)
  | [], l' => by simp only [List.nil_append, looseL]; cases looseL s l' <;> simp
  | p :: l, l' => by
    simp only [List.cons_append, looseL, looseL_append s l l']
    cases looseOf s p with
    | none => simp
    | some o => cases o <;> cases looseL s l <;> cases looseL s l' <;> simp
theorem looseL_perm (s : St) {l l' : List (C × A)} (h : l.Perm l') : ∀ {zs : List Int}, looseL s l = some zs → ∃ zs', looseL s l' = some zs' ∧ zs.Perm zs' := by
  induction h with
  | nil => intro zs h; exact ⟨zs, h, .refl _⟩
  | cons p _ ih =>
    intro zs h
    simp only [looseL] at h ⊢
    split at h
    · rename_i k hk
      split at h
      · rename_i r hr
        cases h
        obtain ⟨r', h1, h2⟩ := ih hr
        exact ⟨k :: r', by rw [h1], h2.cons k⟩
      · cases h
    · exact ih h
    · cases h
  | swap p q l =>
    intro zs h
    simp only [looseL] at h ⊢
    cases hp : looseOf s p with
    | none => rw [hp] at h; cases hq : looseOf s q with
      | none => rw [hq] at h; cases h
      | some oq => rw [hq] at h; cases oq <;> simp at h
    | some op =>
      rw [hp] at h
      cases hq : looseOf s q with
      | none => rw [hq] at h; cases h
      | some oq =>
        rw [hq] at h
        cases op <;> cases oq <;> cases hl : looseL s l <;> simp [hl] at h ⊢
        · rw [h]
        · rw [h]
        · rw [h]
        · rw [← h]; exact .swap _ _ _
  | trans _ _ h1 h2 =>
    intro zs h
    obtain ⟨z1, g1, g2⟩ := h1 h
    obtain ⟨z2, g3, g4⟩ := h2 g1
    exact ⟨z2, g3, g2.trans g4⟩

theorem row_tgetN (l : List C) : tgetN .nilp (tsetN .e 0 l) 0 l.length = l := by
  refine List.ext_getElem? fun i => ?_
  by_cases hi : i < l.length
  · rw [tgetN_get _ _ _ _ _ hi, tget_setN, if_pos (by omega)]
    simp [List.getD_eq_getElem?_getD, List.getElem?_eq_getElem hi]
  · rw [List.getElem?_eq_none (by rw [tgetN_length]; omega), List.getElem?_eq_none (by omega)]
theorem cellsI_append : ∀ (l m : List Int), cellsI (l ++ m) = cellsI l ++ cellsI m
  | [], m => rfl
  | n :: l, m => by simp [cellsI, cellsI_append l m]
theorem rowI_cellsI : ∀ l : List Int, rowI (cellsI l) = some l
  | [] => rfl
  | n :: l => by simp [cellsI, rowI, rowI_cellsI l]
theorem tsetN_again (v v' : List C) (h : v'.length = v.length) (h0 : v ≠ []) : tsetN (tsetN .e 0 v) 0 v' = tsetN .e 0 v' := by
  cases v with
  | nil => exact absurd rfl h0
  | cons c v => cases v' with
    | nil => simp at h
    | cons c' v' =>
      show tsetN (.n 0 (c :: v) .e) 0 (c' :: v') = _
      unfold tsetN
      simp [beq_dec, blt_dec, h]


theorem looseOf_inv {s : St} {k : C} {v : A} {q : Option Int} (h : looseOf s (k, v) = some q) : ∃ k' b' o' lk, k = .int .i64 k' ∧ v = .c (.ptr b' o') ∧ s.loadH b' (o' + 1) = some (.int .i64 lk) ∧ q = bif eqI lk 0 then some k' else none := by
  unfold looseOf at h
  split at h
  · rename_i h1 h2
    split at h
    · rename_i hl
      cases h
      exact ⟨_, _, _, _, h1, h2, hl, rfl⟩
    · cases h
  · cases h

theorem append_nil1 (s : St) (c : C) : appendTo 1 8 1 [c] s .nils = some (.a (.c (.slice s.nx 0 1 1 1 false)), s.new (.row [c])) := rfl
theorem append_more1 {s : St} {b : Nat} {v : List C} {f : Bool} (hg : s.get b = some (.row v f)) (hv : v ≠ []) (hl : v.length < 1000000) (c : C) :
    appendTo 1 8 1 [c] s (.slice b 0 v.length v.length 1 false) = some (.a (.c (.slice s.nx 0 (v.length + 1) (v.length + 1) 1 false)), (s.del b).new (.row (v ++ [c]) true)) := by
  have hg' : s.get b = some (.cells v.length .nilp (tsetN .e 0 v) f) := hg
  have e := row_tgetN v
  unfold appendTo
  simp only [beq_dec, ble_dec, hg']
  have h1 : ¬ v.length + 1 ≤ v.length := by omega
  have h2 : (v.length + 1) * 8 ≤ 1099511627776 := by omega
  simp [h1, h2, e]
theorem loadN_row1 (s : St) (c : C) : (s.new (.row [c])).loadN s.nx 0 1 = some [c] := by
  unfold St.loadN
  rw [St.get_new, if_pos rfl]
  rfl
theorem Obj.row_ne {l : List C} {f : Bool} {m : List (C × A)} : Obj.row l f ≠ .map m := by
  unfold Obj.row; exact fun h => by cases h

theorem loose_sound {P : Program} (hm : P.follows .mixedOrders = true) {f fc : Nat} {F : Func} (hF : P.funcs[f]? = some F) (hname : (F.name == "runtime.NumGoroutine") = false) (hfp : funParts P F = some (looseParts fc)) (hfc : SummSound P fc sortSI) : SummSound P f treeLoose2 := by
  have hoks := cfg1_ok hm hfc
  -- both answers at once: 'R' the number of the answer, 'fin' what lies there
  have main : ∀ (s : St) (b o m : Nat) (l : List (C × A)) (zs : List Int) (v : V) (s' : St), s.load b o = some (.map m) → s.get m = some (.map l) → looseL s l = some zs → zs.length < 1000000 →
      ((zs = [] ∧ v = .a (.c .nils) ∧ s' = { s with nx := Nat.succ s.nx }) ∨
       (zs ≠ [] ∧ v = .a (.c (.slice (s.nx + 2 * zs.length) 0 zs.length zs.length 1 false)) ∧ s' = { s with h := s.h.set (some (.row (cellsI (sortI zs)) true)) (.ofNat (s.nx + 2 * zs.length)), nx := s.nx + 2 * zs.length + 1 })) →
      ∀ E w (xs : Array Value), Rel E s w → GOk P E → P.globals.size ≤ s.nx → Fresh E s.nx s'.nx → All2 (ARel E) [.c (.ptr b o)] xs.toList → Outc P (Left E s w v s') ((callFunc f xs).run P w) := by
    intro s b o m l zs v s' hload hmap hzs hlen hcase E w xs hr hg hn hf hx
    have hs'nx : s'.nx = s.nx + 2 * zs.length + 1 := by
      rcases hcase with ⟨h1, _, h2⟩ | ⟨_, _, h2⟩
      · rw [h2, h1]; rfl
      · rw [h2]
    have hfr : ∀ q, s.nx ≤ q → q < s.nx + 2 * zs.length + 1 → s.get q = none := fun q h1 h2 => Fresh.none_at hr hf h1 (by rw [hs'nx]; exact h2)
    have hb : ∀ {q : Nat} {o' : Obj}, s.get q = some o' → q < s.nx ∨ s.nx + 2 * zs.length + 1 ≤ q := fun {q o'} h => by
      by_cases h1 : s.nx ≤ q ∧ q < s.nx + 2 * zs.length + 1
      · rw [hfr q h1.1 h1.2] at h; cases h
      · omega
    have hmnx := hb hmap
    have h1 : exec (cfg1 fc sortSI) (callN (cfg1 fc sortSI) 1) 1 (looseParts fc).pre ((T.e : Tm).set (some (.a (.c (.ptr b o)))) (.ofNat 0)) s = some (.norm ((((T.e : Tm).set (some (.a (.c (.ptr b o)))) (.ofNat 0)).set (some (.a (.c .nils))) (.ofNat 2)).set (some (.a (.c .nils))) (.ofNat 3)) s) := rfl
    obtain ⟨tm2, h2, h3, h23⟩ : ∃ tm2, runOps (cfg1 fc sortSI) (callN (cfg1 fc sortSI) 1) (looseParts fc).ops ((((T.e : Tm).set (some (.a (.c (.ptr b o)))) (.ofNat 0)).set (some (.a (.c .nils))) (.ofNat 2)).set (some (.a (.c .nils))) (.ofNat 3)) s = some (tm2, s) ∧ evC tm2 (looseParts fc).mp = some (.map m) ∧ tm2.get (.ofNat 3) = some (.a (.c .nils)) := by
      apply Exists.intro
      refine And.intro ?_ (And.intro ?_ ?_)
      · simp [exec, runOps, runOper, wantedI, IOp.run, IOp.kind, same, IOp.val, IOp.eff, ev, evC, evA, evI, putT, one, T.get_set, Pos.ofNat_inj_iff, intBin, eqA, runD, runD.checkAgain, fillParts, splice, A.cells, eqVV_refl, evAs, decEq_i64, ble_dec, beq_dec, blt_dec, looseParts, hload]
        rfl
      · simp [ev, evC, looseParts, T.get_set, Pos.ofNat_inj_iff]
      · simp [T.get_set, Pos.ofNat_inj_iff]
    refine range_fun (cfg1 fc sortSI) hoks.meth (callN_sound hoks 1) (callN_nx hoks.summ 1) hm 1 hF hname hfp hr hg hn hf hx (by rcases hcase with ⟨_, _, rfl⟩ | ⟨_, _, rfl⟩ <;> rfl) (nxF := s.nx + 2 * zs.length + 1) rfl h1 h2 h3 hmap (by omega) (by omega)
      (fun dl s3 tm => tm.get (.ofNat 10) = some (.a (.c (.ptr s.nx 0))) ∧ ∃ ys, looseL s dl = some ys ∧
        ((ys = [] ∧ tm.get (.ofNat 3) = some (.a (.c .nils))) ∨ (ys ≠ [] ∧ tm.get (.ofNat 3) = some (.a (.c (.slice (s.nx + 2 * ys.length) 0 ys.length ys.length 1 false))) ∧ ∃ f, s3.get (s.nx + 2 * ys.length) = some (.row (cellsI ys) f))) ∧
        ∀ q, (q ≤ s.nx ∨ s.nx + 2 * zs.length + 1 ≤ q) → s3.get q = if q = m then none else s.get q)
      (fun dl q => ∃ ys, looseL s dl = some ys ∧ s.nx + 1 ≤ q ∧ q < s.nx + 1 + 2 * ys.length ∧ ys.length ≤ zs.length) (fun _ _ => False) ?_ ?_ ?_ ?_ ?_ ?_
    · refine ⟨by simp [looseParts, T.get_set], [], rfl, .inl ⟨rfl, by simp [looseParts, T.get_set, Pos.ofNat_inj_iff, h23]⟩, fun q hq => ?_⟩
      rw [St.get_nx, St.get_del]
      by_cases e : q = m
      · rw [if_pos (show m = q by omega), if_pos e]
      · rw [if_neg (show ¬ m = q by omega), if_neg e]
    · rintro dl s3 tm ⟨h, _⟩; exact h
    · rintro E0 hE0 dl k v rest s3 tm hp ⟨hI, ys, hys, hyc, hold⟩
      obtain ⟨zs', hzs', hpz⟩ := looseL_perm s hp.symm hzs
      rw [looseL_append, hys] at hzs'
      have hrest : ∃ rs, looseL s ((k, v) :: rest) = some rs ∧ zs' = ys ++ rs := by
        cases hr2 : looseL s ((k, v) :: rest) with
        | none => rw [hr2] at hzs'; cases hzs'
        | some rs => rw [hr2] at hzs'; exact ⟨rs, rfl, (Option.some.inj hzs').symm⟩
      obtain ⟨rs, hrs, hzz⟩ := hrest
      have hlz : zs.length = ys.length + rs.length := by rw [hpz.length_eq, hzz, List.length_append]
      obtain ⟨lo, hlo⟩ : ∃ lo, looseOf s (k, v) = some lo := by
        simp only [looseL] at hrs
        cases h : looseOf s (k, v) with
        | none => rw [h] at hrs; cases hrs
        | some lo => exact ⟨lo, rfl⟩
      obtain ⟨k', b', o', lk, rfl, rfl, hlk, hlq⟩ := looseOf_inv hlo
      obtain ⟨n', d', t', f', hgb'⟩ := load_some hlk
      have hb'n := hb hgb'
      have hb'm : b' ≠ m := fun e => by rw [e, hmap] at hgb'; cases hgb'
      have hld : s3.load b' (o' + 1) = some (.int .i64 lk) := by
        refine load_get (s := s) hlk ?_
        · rw [hold b' (by omega), if_neg hb'm]
      have hyz : ys.length ≤ zs.length := by omega
      cases hlk0 : eqI lk 0 with
      | false =>
        rw [hlk0] at hlq
        have hlq : lo = none := hlq
        subst hlq
        have a0 : St.load { s3 with nx := s.nx + 1 } b' (o' + 1) = some (.int .i64 lk) := hld
        refine ⟨s.nx + 1, ?_⟩
        apply Exists.intro
        apply Exists.intro
        apply Exists.intro
        refine And.intro (by omega) (And.intro ?_ (And.intro ?_ (And.intro ?_ (.inl ?_))))
        · simp [exec, runOps, runOper, wantedI, IOp.run, IOp.kind, same, IOp.val, IOp.eff, ev, evC, evA, evI, putT, one, T.get_set, Pos.ofNat_inj_iff, intBin, eqA, runD, runD.checkAgain, fillParts, splice, A.cells, eqVV_refl, evAs, decEq_i64, ble_dec, beq_dec, blt_dec, looseParts, bindT]
          refine And.intro rfl rfl
        · simp [exec, runOps, runOper, wantedI, IOp.run, IOp.kind, same, IOp.val, IOp.eff, ev, evC, evA, evI, putT, one, T.get_set, Pos.ofNat_inj_iff, intBin, eqA, runD, runD.checkAgain, fillParts, splice, A.cells, eqVV_refl, evAs, decEq_i64, ble_dec, beq_dec, blt_dec, looseParts, bindT, a0, hlk0]
          rfl
        · intro q h5 h6
          have h6 : q < s.nx + 1 := h6
          omega
        · refine ⟨_, _, rfl, ⟨?_, ys, ?_, ?_, fun q hq => hold q hq⟩, ?_⟩
          · simp [T.get_set, Pos.ofNat_inj_iff, hI]
          · rw [looseL_append, hys]
            simp [looseL, hlo]
          · rcases hyc with ⟨h5, h6⟩ | ⟨h5, h6, f7, h7⟩
            · exact .inl ⟨h5, by simp [T.get_set, Pos.ofNat_inj_iff, h6]⟩
            · exact .inr ⟨h5, by simp [T.get_set, Pos.ofNat_inj_iff, h6], f7, h7⟩
          · rintro q (⟨ys', h5, h6⟩ | ⟨h5, h6⟩)
            · rw [hys] at h5; cases h5
              refine ⟨ys, ?_, h6⟩
              rw [looseL_append, hys]
              simp [looseL, hlo]
            · have h6 : q < s.nx + 1 := h6
              omega
      | true =>
        rw [hlk0] at hlq
        have hlq : lo = some k' := hlq
        subst hlq
        have hrl : 1 ≤ rs.length := by
          simp only [looseL, hlo] at hrs
          split at hrs
          · cases hrs; simp
          · cases hrs
        have hnew : looseL s (dl ++ [(.int .i64 k', .c (.ptr b' o'))]) = some (ys ++ [k']) := by
          rw [looseL_append, hys]
          simp [looseL, hlo]
        have a0 : St.load { s3 with nx := s.nx + 1 + 2 * ys.length } b' (o' + 1) = some (.int .i64 lk) := hld
        have a1 : (St.new { s3 with nx := s.nx + 1 + 2 * ys.length } (.row [.int .i64 k'])).loadN (s.nx + 1 + 2 * ys.length) 0 1 = some [.int .i64 k'] := loadN_row1 { s3 with nx := s.nx + 1 + 2 * ys.length } _
        have hU : ∀ q, (∃ ys', looseL s dl = some ys' ∧ s.nx + 1 ≤ q ∧ q < s.nx + 1 + 2 * ys'.length ∧ ys'.length ≤ zs.length) ∨ (s.nx + 1 + 2 * ys.length ≤ q ∧ q < s.nx + 1 + 2 * ys.length + 2) →
            ∃ ys', looseL s (dl ++ [(.int .i64 k', .c (.ptr b' o'))]) = some ys' ∧ s.nx + 1 ≤ q ∧ q < s.nx + 1 + 2 * ys'.length ∧ ys'.length ≤ zs.length := by
          rintro q (⟨ys', h5, h6, h7, h8⟩ | ⟨h5, h6⟩)
          · rw [hys] at h5; cases h5
            exact ⟨_, hnew, h6, by simp; omega, by simp; omega⟩
          · exact ⟨_, hnew, by omega, by simp; omega, by simp; omega⟩
        have hUo : ∀ q, s.nx + 1 + 2 * ys.length ≤ q → q < s.nx + 1 + 2 * ys.length + 2 → ¬ (∃ ys', looseL s dl = some ys' ∧ s.nx + 1 ≤ q ∧ q < s.nx + 1 + 2 * ys'.length ∧ ys'.length ≤ zs.length) := by
          rintro q h5 h6 ⟨ys', h7, h8, h9, _⟩
          rw [hys] at h7; cases h7
          omega
        have hlen2 : (ys ++ [k']).length = ys.length + 1 := by simp
        rcases hyc with ⟨h5, h6⟩ | ⟨h5, h6, f7, h7⟩
        · subst h5
          refine ⟨s.nx + 1 + 2 * 0, ?_⟩
          apply Exists.intro
          apply Exists.intro
          apply Exists.intro
          refine And.intro (by omega) (And.intro ?_ (And.intro ?_ (And.intro ?_ (.inl ?_))))
          · simp [exec, runOps, runOper, wantedI, IOp.run, IOp.kind, same, IOp.val, IOp.eff, ev, evC, evA, evI, putT, one, T.get_set, Pos.ofNat_inj_iff, intBin, eqA, runD, runD.checkAgain, fillParts, splice, A.cells, eqVV_refl, evAs, decEq_i64, ble_dec, beq_dec, blt_dec, looseParts, bindT]
            refine And.intro rfl rfl
          · simp only [List.length_nil, Nat.mul_zero, Nat.add_zero] at a0 a1
            simp [exec, runOps, runOper, wantedI, IOp.run, IOp.kind, same, IOp.val, IOp.eff, ev, evC, evA, evI, putT, one, T.get_set, Pos.ofNat_inj_iff, intBin, eqA, runD, runD.checkAgain, fillParts, splice, A.cells, eqVV_refl, evAs, decEq_i64, ble_dec, beq_dec, blt_dec, looseParts, bindT, a0, hlk0, h6, srcV, a1, append_nil1]
            rfl
          · intro q h8 h9
            have h9 : q < s.nx + 1 + 2 * 0 + 2 := h9
            exact ⟨hUo q h8 h9, hE0 q (by omega) (by omega)⟩
          · refine ⟨_, _, rfl, ⟨?_, _, hnew, .inr ⟨by simp, ?_, false, ?_⟩, fun q hq => ?_⟩, fun q hq => hU q hq⟩
            · simp [T.get_set, Pos.ofNat_inj_iff, hI]
            · simp [T.get_set, Pos.ofNat_inj_iff]
            · rw [St.get_new]
              show (if s.nx + 1 + 2 * 0 + 1 = s.nx + 2 * ([] ++ [k']).length then some (Obj.row [C.int .i64 k']) else _) = _
              rw [if_pos (by simp)]; rfl
            · rw [St.get_new, St.get_new]
              show (if s.nx + 1 + 2 * 0 + 1 = q then _ else if s.nx + 1 + 2 * 0 = q then _ else s3.get q) = _
              rw [if_neg (by omega), if_neg (by omega)]
              exact hold q hq
        · have hnx0 : s.nx + 2 * ys.length ≠ s.nx + 1 + 2 * ys.length := by omega
          have hlc := cellsI_length ys
          have h7' : (St.new { s3 with nx := s.nx + 1 + 2 * ys.length } (.row [.int .i64 k'])).get (s.nx + 2 * ys.length) = some (.row (cellsI ys) f7) := by
            rw [St.get_new]
            show (if s.nx + 1 + 2 * ys.length = s.nx + 2 * ys.length then _ else s3.get _) = _
            rw [if_neg (by omega)]; exact h7
          have hc0 : cellsI ys ≠ [] := fun e => by
            have := congrArg List.length e
            rw [hlc] at this
            exact h5 (List.eq_nil_of_length_eq_zero (by simpa using this))
          have a2 := append_more1 h7' hc0 (by rw [hlc]; omega) (.int .i64 k')
          rw [hlc] at a2
          have hcs : cellsI (ys ++ [k']) = cellsI ys ++ [.int .i64 k'] := cellsI_append ys [k']
          refine ⟨s.nx + 1 + 2 * ys.length, ?_⟩
          apply Exists.intro
          apply Exists.intro
          apply Exists.intro
          refine And.intro (by omega) (And.intro ?_ (And.intro ?_ (And.intro ?_ (.inl ?_))))
          · simp [exec, runOps, runOper, wantedI, IOp.run, IOp.kind, same, IOp.val, IOp.eff, ev, evC, evA, evI, putT, one, T.get_set, Pos.ofNat_inj_iff, intBin, eqA, runD, runD.checkAgain, fillParts, splice, A.cells, eqVV_refl, evAs, decEq_i64, ble_dec, beq_dec, blt_dec, looseParts, bindT]
            refine And.intro rfl rfl
          · simp [exec, runOps, runOper, wantedI, IOp.run, IOp.kind, same, IOp.val, IOp.eff, ev, evC, evA, evI, putT, one, T.get_set, Pos.ofNat_inj_iff, intBin, eqA, runD, runD.checkAgain, fillParts, splice, A.cells, eqVV_refl, evAs, decEq_i64, ble_dec, beq_dec, blt_dec, looseParts, bindT, a0, hlk0, h6, srcV, a1, a2]
            rfl
          · intro q h8 h9
            have h9 : q < s.nx + 1 + 2 * ys.length + 2 := h9
            exact ⟨hUo q h8 h9, hE0 q (by omega) (by omega)⟩
          · refine ⟨_, _, rfl, ⟨?_, _, hnew, .inr ⟨by simp, ?_, true, ?_⟩, fun q hq => ?_⟩, fun q hq => hU q hq⟩
            · simp [T.get_set, Pos.ofNat_inj_iff, hI]
            · simp [T.get_set, Pos.ofNat_inj_iff]
              show s.nx + 1 + 2 * ys.length + 1 = s.nx + 2 * (ys.length + 1)
              omega
            · rw [St.get_new]
              show (if s.nx + 1 + 2 * ys.length + 1 = s.nx + 2 * (ys ++ [k']).length then _ else _) = _
              rw [if_pos (by simp; omega), hcs]
            · rw [St.get_new, St.get_del, St.get_new]
              show (if s.nx + 1 + 2 * ys.length + 1 = q then _ else if s.nx + 2 * ys.length = q then _ else if s.nx + 1 + 2 * ys.length = q then _ else s3.get q) = _
              have : 1 ≤ ys.length := by cases ys with | nil => exact absurd rfl h5 | cons _ _ => simp
              rw [if_neg (by omega), if_neg (by omega), if_neg (by omega)]
              exact hold q hq
    · rintro dl q ⟨ys, hys, h5, h6, h7⟩
      show s.nx < q ∧ q < s.nx + 2 * zs.length + 1
      omega
    · rintro dl s3 tm hp ⟨hI, ys, hys, hyc, hold⟩
      obtain ⟨zs', hzs', hpz⟩ := looseL_perm s hp hys
      rw [hzs] at hzs'; cases hzs'
      have hyl : ys.length = zs.length := hpz.length_eq
      have hsort : sortI ys = sortI zs := sortI_unique hpz
      have hstep : ∀ s4 : St, (∀ q o', s'.get q = some o' → (q = s.nx + 2 * zs.length ∧ zs ≠ [] ∧ ∃ o2, s4.get q = some o2 ∧ ObjLe o' o2) ∨ ((q ≠ s.nx + 2 * zs.length ∨ zs = []) ∧ s4.get q = (s3.put m (.map l)).get q)) → StLe s' s4 := by
        intro s4 h q o' hq
        rcases h q o' hq with ⟨_, _, h6⟩ | ⟨h5, h6⟩
        · exact h6
        · refine ⟨o', ?_, ObjLe.refl o'⟩
          have hsq : s.get q = some o' := by
            rcases hcase with ⟨_, _, h7⟩ | ⟨h7, _, h8⟩
            · rw [h7] at hq; exact hq
            · rw [h8] at hq
              have hq : (s.h.set (some (.row (cellsI (sortI zs)) true)) (.ofNat (s.nx + 2 * zs.length))).get (.ofNat q) = some o' := hq
              rw [T.get_set, if_neg (fun e => ?_)] at hq
              · exact hq
              · have := Pos.ofNat_inj e
                rcases h5 with h5 | h5
                · omega
                · exact h7 h5
          have := hb hsq
          rw [h6, St.get_put]
          by_cases e : q = m
          · rw [if_pos e.symm, ← hmap, ← e]; exact hsq
          · rw [if_neg (Ne.symm e), hold q (by omega), if_neg e]; exact hsq
      rcases hyc with ⟨h5, h6⟩ | ⟨h5, h6, f7, h7⟩
      · subst h5
        have hz0 : zs = [] := List.eq_nil_of_length_eq_zero (by rw [← hyl]; rfl)
        have hv : v = .a (.c .nils) := by
          rcases hcase with ⟨_, h7, _⟩ | ⟨h7, _⟩
          · exact h7
          · exact absurd hz0 h7
        apply Exists.intro
        refine Exists.intro [.c .nils] (And.intro ?_ (And.intro ?_ (And.intro ?_ (And.intro ?_ (And.intro hv ?_)))))
        · simp [exec, runOps, runOper, wantedI, IOp.run, IOp.kind, same, IOp.val, IOp.eff, ev, evC, evA, evI, putT, one, T.get_set, Pos.ofNat_inj_iff, intBin, eqA, runD, runD.checkAgain, fillParts, splice, A.cells, eqVV_refl, evAs, decEq_i64, ble_dec, beq_dec, blt_dec, looseParts, endT, h6, callN_summ, sortSI]
          rfl
        · exact .inr rfl
        · rw [hs'nx]; exact Nat.le_refl _
        · simp [ressOf, resOf, R.tms, R.st, looseParts, T.get_set, Pos.ofNat_inj_iff]
        · refine hstep _ fun q o' hq => .inr ⟨.inr hz0, rfl⟩
      · have hz0 : zs ≠ [] := fun e => by rw [e] at hyl; exact h5 (List.eq_nil_of_length_eq_zero hyl)
        obtain ⟨hv, hs'⟩ : v = .a (.c (.slice (s.nx + 2 * zs.length) 0 zs.length zs.length 1 false)) ∧ s' = { s with h := s.h.set (some (.row (cellsI (sortI zs)) true)) (.ofNat (s.nx + 2 * zs.length)), nx := s.nx + 2 * zs.length + 1 } := by
          rcases hcase with ⟨h8, _⟩ | ⟨_, h8, h9⟩
          · exact absurd h8 hz0
          · exact ⟨h8, h9⟩
        rw [hyl] at h6 h7
        have hg4 : St.get { s3.put m (.map l) with nx := s.nx + 2 * zs.length + 1 } (s.nx + 2 * zs.length) = some (.row (cellsI ys) f7) := by
          rw [St.get_nx, St.get_put, if_neg (by omega)]; exact h7
        have hc0 : cellsI ys ≠ [] := fun e => by
          have := congrArg List.length e
          rw [cellsI_length] at this
          exact h5 (List.eq_nil_of_length_eq_zero (by simpa using this))
        have hload4 : St.loadN { s3.put m (.map l) with nx := s.nx + 2 * zs.length + 1 } (s.nx + 2 * zs.length) 0 zs.length = some (cellsI ys) := by
          unfold St.loadN
          rw [hg4]
          have h8 : zs.length = (cellsI ys).length := by rw [cellsI_length, hyl]
          show (bif Nat.ble (Nat.add 0 zs.length) (cellsI ys).length then forceL (tgetN .nilp (tsetN .e 0 (cellsI ys)) 0 zs.length) else none) = _
          rw [h8, row_tgetN, forceL_eq, ble_dec]
          simp
        have hstore4 : St.storeN { s3.put m (.map l) with nx := s.nx + 2 * zs.length + 1 } (s.nx + 2 * zs.length) 0 (cellsI (sortI ys)) = some (St.put { s3.put m (.map l) with nx := s.nx + 2 * zs.length + 1 } (s.nx + 2 * zs.length) (.row (cellsI (sortI zs)) f7)) := by
          unfold St.storeN
          rw [hg4]
          have h8 : (cellsI (sortI ys)).length = (cellsI ys).length := by rw [cellsI_length, cellsI_length, (sortI_perm ys).length_eq]
          show (bif Nat.ble (Nat.add 0 (cellsI (sortI ys)).length) (cellsI ys).length then some (St.put _ _ (.cells (cellsI ys).length .nilp (tsetN (tsetN .e 0 (cellsI ys)) 0 (cellsI (sortI ys))) f7)) else none) = _
          rw [tsetN_again _ _ h8 hc0, ble_dec, h8, hsort]
          have h9 : (cellsI ys).length = (cellsI (sortI zs)).length := by rw [← h8, hsort]
          simp [Obj.row, h9]
        have hsum : sortSI [.c (.slice (s.nx + 2 * zs.length) 0 zs.length zs.length 1 false)] { s3.put m (.map l) with nx := s.nx + 2 * zs.length + 1 } = some (.tup [], St.put { s3.put m (.map l) with nx := s.nx + 2 * zs.length + 1 } (s.nx + 2 * zs.length) (.row (cellsI (sortI zs)) f7)) := by
          have h8 : zs.length ≠ 0 := fun e => hz0 (List.eq_nil_of_length_eq_zero e)
          have h9 : zs.length < 1099511627776 := by omega
          simp [sortSI, beq_dec, blt_dec, h8, h9, hload4, rowI_cellsI, hstore4]
        apply Exists.intro
        refine Exists.intro [.c (.slice (s.nx + 2 * zs.length) 0 zs.length zs.length 1 false)] (And.intro ?_ (And.intro ?_ (And.intro ?_ (And.intro ?_ (And.intro hv ?_)))))
        · simp [exec, runOps, runOper, wantedI, IOp.run, IOp.kind, same, IOp.val, IOp.eff, ev, evC, evA, evI, putT, one, T.get_set, Pos.ofNat_inj_iff, intBin, eqA, runD, runD.checkAgain, fillParts, splice, A.cells, eqVV_refl, evAs, decEq_i64, ble_dec, beq_dec, blt_dec, looseParts, endT, h6, callN_summ, hsum]
          rfl
        · exact .inr rfl
        · rw [hs'nx]; exact Nat.le_refl _
        · simp [ressOf, resOf, R.tms, R.st, looseParts, T.get_set, Pos.ofNat_inj_iff]
        · refine hstep _ fun q o' hq => ?_
          by_cases e : q = s.nx + 2 * zs.length
          · refine .inl ⟨e, hz0, ?_⟩
            rw [hs'] at hq
            have hq : (s.h.set (some (.row (cellsI (sortI zs)) true)) (.ofNat (s.nx + 2 * zs.length))).get (.ofNat q) = some o' := hq
            rw [T.get_set, if_pos (by rw [e])] at hq
            cases hq
            refine ⟨.row (cellsI (sortI zs)) f7, ?_, ?_⟩
            · show (St.put _ _ _).get q = _
              rw [St.get_put, if_pos e.symm]
            · exact ⟨rfl, rfl, rfl, fun h => by cases h⟩
          · refine .inr ⟨.inl e, ?_⟩
            show (St.put _ _ _).get q = _
            rw [St.get_put, if_neg (Ne.symm e)]
            rfl
    · intro s3 tm h; exact h.elim
  intro args s v s' h
  unfold treeLoose2 at h
  split at h
  · rename_i b o
    split at h
    · rename_i m hload
      split at h
      · rename_i l hmap
        split at h
        · rename_i hz
          cases h
          exact ⟨by show s.nx ≤ s.nx + 1; omega, main s b o m l [] _ _ hload hmap hz (by simp) (.inl ⟨rfl, rfl, rfl⟩)⟩
        · rename_i zs hne hz
          obtain ⟨hlt, h⟩ := cond_some h
          cases h
          have hz0 : zs ≠ [] := fun e => by subst e; exact hne rfl
          exact ⟨by show s.nx ≤ s.nx + 2 * zs.length + 1; omega, main s b o m l zs _ _ hload hmap hz (blt_true' hlt) (.inr ⟨hz0, rfl, rfl⟩)⟩
        · cases h
      · cases h
    · cases h
  · cases h
end Go.AX

namespace Go.AX
open Go Go.Sort Go.RowKit Go.Maps Go.Shelf Go.Proofs
open Go.MapKept (Stamped)

/-! ### slices.Sorted(maps.Keys(m)) -/
/-- A key of the kind int. -/
def keyIs (k : IntKind) (v : Value) (x : Int) : Prop := v = .int k x ∧ (Lit.int k x).wf = true

/-- What the shelf tells of 'f', slices.Sorted, handed the closure 'g' of maps.Keys, keys ints. -/
def SortedI (P : Program) (f g : Nat) : Prop :=
  (∀ (Bm bm : Nat) (es : Array MapEntry) (clock : Nat) (w : World), Bm < w.heap.size → w.cell? ⟨Bm, 0, none⟩ = some (.map (some bm)) → w.heap[bm]? = some (.map es clock) → es.size ≤ 1000000 → Stamped es clock → (∀ e ∈ es.toList, ∃ x, keyIs .i64 e.key x) →
    Calls P f #[.func (.func g) #[] #[.pointer (some ⟨Bm, 0, none⟩)]] w fun e w' => ∃ (v : Value) (ss : List Int) (t : TypeId), e = .returned v ∧ (ss.map (Value.int .i64)).Perm (es.toList.map (·.key)) ∧
      w'.ownsRow w.heap.size t 1 v ss.length ((ss.mergeSort (fun x y => decide (x ≤ y))).map (Value.int .i64)) ∧ (v = .slice none 0 0 ↔ ss = []) ∧ Below w.heap.size w w') ∧
  (∀ (Bm : Nat) (w : World), Bm < w.heap.size → w.cell? ⟨Bm, 0, none⟩ = some (.map none) → Calls P f #[.func (.func g) #[] #[.pointer (some ⟨Bm, 0, none⟩)]] w fun e w' => e = .returned (.slice none 0 0) ∧ Below w.heap.size w w')

theorem intOf_keys {P : Program} {k : TypeId} (hk : P.underlying k = some (.int .i64)) {es : Array MapEntry} {clock : Nat} (hst : Stamped es clock) (hsz : es.size ≤ 1000000) (hkeys : ∀ e ∈ es.toList, ∃ x, keyIs .i64 e.key x) {w : World} {bm : Nat} (hb : w.heap[bm]? = some (.map es clock)) :
    ∃ (D : DataW Unit), w.ownsMap P k (fun _ => some (.nil, [])) bm es.size D ∧ ((intKeys D).map (Value.int .i64)).Perm (es.toList.map (·.key)) ∧ Maps.size D = es.size := by
  refine ⟨_, ⟨es, clock, hb, ⟨by exact Nat.le_trans hsz (by decide), hst, fun x hx => ?_⟩, Nat.le_refl _, rfl⟩, ?_, ?_⟩
  · obtain ⟨n, h1, h2⟩ := hkeys x hx
    refine ⟨(.int .i64 n, .nil), ?_⟩
    unfold WideElems.rd
    rw [h1, keyOf_int_mk hk h2]
    rfl
  · have hp := WideShapes.sorted_perm (es.toList.map (WideElems.rg P k (fun _ => some ((.nil : DataW Unit), []))))
    have h1 := (hp.map fun p => Value.int .i64 (intOf p.1))
    have h2 : (intKeys (.map ((es.toList.map (WideElems.rg P k (fun _ => some ((.nil : DataW Unit), [])))).foldr DataW.insert []))).map (Value.int .i64) = ((es.toList.map (WideElems.rg P k (fun _ => some ((.nil : DataW Unit), [])))).foldr DataW.insert []).map (fun p => Value.int .i64 (intOf p.1)) := by
      simp [intKeys, List.map_map, Function.comp_def]
    rw [h2]
    refine h1.trans ?_
    rw [List.map_map]
    refine (List.Perm.of_eq (List.map_congr_left fun e he => ?_))
    obtain ⟨n, h3, h4⟩ := hkeys e he
    have : WideElems.rd P k (fun _ => some ((.nil : DataW Unit), [])) e = some (.int .i64 n, .nil) := by
      unfold WideElems.rd
      rw [h3, keyOf_int_mk hk h4]
      rfl
    simp only [Function.comp]
    rw [WideElems.rg_of this, h3]
    rfl
  · show ((es.toList.map _).foldr DataW.insert []).length = es.size
    rw [(WideShapes.sorted_perm _).length_eq]; simp

/-- By the shelf. -/
theorem sortedI_of {P : Program} {ρ ρ' : Ren} (L6 : SlLaysZI.n6 P ρ) (L10 : SlLaysZI.n10 P ρ') (hs : AnyZI.SortsIn P ρ Fence.wide 5) (e9 : ∀ args w, (callFunc (ρ.f 9) args).run P w = .ok (.enter (ρ.f 9) args) w) (e10 : ∀ args w, (callFunc (ρ'.f 10) args).run P w = .ok (.enter (ρ'.f 10) args) w) :
    SortedI P (ρ.f 6) (ρ'.f 10) := by
  constructor
  · intro Bm bm es clock w hBm hcell hheap hsz hst hkeys
    obtain ⟨D, hown, hperm, hDs⟩ := intOf_keys (k := ρ'.t 26) L10.t26 hst hsz hkeys hheap
    have hseq : SeqGives Fence.wide 3 P (ρ'.f 10) #[.pointer (some ⟨Bm, 0, none⟩)] encZ (fun ss => ss.Perm (intKeys D)) (Maps.size D) w :=
      AnyZI.keys_gives L10 Fence.wide 3 trivial rfl (by omega) Bm bm es.size D w hBm hcell hown
    have cS := AnyZI.sorted_in L6 Fence.wide 6 trivial trivial trivial trivial rfl (by omega) hs e9 (ρ'.f 10) #[.pointer (some ⟨Bm, 0, none⟩)] trivial e10 _ _ (by rw [hDs]; exact Nat.le_trans hsz (by decide)) (by rw [hDs]; omega) _ hseq
    refine ((callsIn_wide (n := 6)).1 cS).mono ?_
    rintro e w' ⟨v, ss, rfl, hS, hrow, hnil, hb⟩
    exact ⟨v, ss, _, rfl, (hS.map _).trans hperm, hrow, hnil, hb⟩
  · intro Bm w hBm hcell
    have hseq : SeqGives Fence.wide 3 P (ρ'.f 10) #[.pointer (some ⟨Bm, 0, none⟩)] encZ (fun ss : List Int => ss = []) 0 w :=
      AnyZI.keys_gives_nil L10 Fence.wide 3 trivial rfl Bm w hBm hcell
    have cS := AnyZI.sorted_in L6 Fence.wide 6 trivial trivial trivial trivial rfl (by omega) hs e9 (ρ'.f 10) #[.pointer (some ⟨Bm, 0, none⟩)] trivial e10 _ 0 (Nat.zero_le _) (by omega) _ hseq
    refine ((callsIn_wide (n := 6)).1 cS).mono ?_
    rintro e w' ⟨v, ss, rfl, rfl, hrow, hnil, hb⟩
    exact ⟨by rw [hnil.2 rfl], hb⟩

def inI64 : Int → Bool
  | .ofNat m => Nat.blt m 9223372036854775808
  | .negSucc m => Nat.blt m 9223372036854775808
theorem inI64_wf {n : Int} (h : inI64 n = true) : (Lit.int .i64 n).wf = true := by
  have h1 : IntKind.i64.min = -9223372036854775808 := rfl
  have h2 : IntKind.i64.max = 9223372036854775807 := rfl
  cases n with
  | ofNat m =>
    have := blt_true' (show Nat.blt m 9223372036854775808 = true from h)
    simp only [Lit.wf, h1, h2, Bool.and_eq_true, decide_eq_true_eq]
    have : (Int.ofNat m) = (m : Int) := rfl
    omega
  | negSucc m =>
    have := blt_true' (show Nat.blt m 9223372036854775808 = true from h)
    simp only [Lit.wf, h1, h2, Bool.and_eq_true, decide_eq_true_eq]
    omega
def keysI2 : List (C × A) → Option (List Int)
  | [] => some []
  | (k, _) :: l => match k with
    | .int .i64 n => bif inI64 n then (match keysI2 l with | some r => some (n :: r) | none => none) else none
    | _ => none
def sortedI2 (fs : List Nat) (args : List A) (s : St) : Option (V × St) := match args with
  | [.c (.fn1 g (.ptr b o))] => bif and (Nat.beq o 0) (fs.any (Nat.beq g)) then (match s.get b with
    | some (.cells n d t false) => bif Nat.blt 0 n then (match tget d t 0 with
      | .nilm => some (.a (.c .nils), s)
      | .map bm => (match s.get bm with
        | some (.map l) => bif Nat.ble l.length 1000000 then (match keysI2 l with | some ks => newSlice (cellsI (sortI ks)) s | none => none) else none
        | _ => none)
      | _ => none) else none
    | _ => none) else none
  | _ => none

theorem keysI2_spec : ∀ {l : List (C × A)} {ks : List Int}, keysI2 l = some ks → l.map (·.1) = ks.map (C.int .i64) ∧ ∀ n ∈ ks, (Lit.int .i64 n).wf = true
  | [], ks, h => by simp only [keysI2] at h; cases h; exact ⟨rfl, by simp⟩
  | (k, v) :: l, ks, h => by
    simp only [keysI2] at h
    split at h
    · obtain ⟨hw, h⟩ := cond_some h
      split at h
      · rename_i r hr
        cases h
        obtain ⟨h1, h2⟩ := keysI2_spec hr
        refine ⟨by simp [h1], fun n hn => ?_⟩
        rcases List.mem_cons.1 hn with rfl | hn
        · exact inI64_wf hw
        · exact h2 n hn
      · cases h
    · cases h

theorem All2.perm_left {α β : Type} {R : α → β → Prop} {l l' : List α} {m : List β} (hp : l.Perm l') (h : All2 R l m) : ∃ m', m'.Perm m ∧ All2 R l' m' := by
  induction hp generalizing m with
  | nil => exact ⟨m, .refl _, h⟩
  | cons x _ ih =>
    cases h with
    | cons h1 h2 =>
      obtain ⟨m', p, q⟩ := ih h2
      exact ⟨_ :: m', p.cons _, .cons h1 q⟩
  | swap x y l =>
    cases h with
    | cons h1 h2 => cases h2 with
      | cons h3 h4 => exact ⟨_, .swap _ _ _, .cons h3 (.cons h1 h4)⟩
  | trans _ _ ih1 ih2 =>
    obtain ⟨m1, p1, q1⟩ := ih1 h
    obtain ⟨m2, p2, q2⟩ := ih2 q1
    exact ⟨m2, p2.trans p1, q2⟩
theorem All2.map_eq {α β γ : Type} {R : α → β → Prop} {f : α → γ} {g : β → γ} (hfg : ∀ a b, R a b → f a = g b) {l : List α} {m : List β} (h : All2 R l m) : l.map f = m.map g := by
  induction h with
  | nil => rfl
  | cons h1 _ ih => simp [hfg _ _ h1, ih]

/-- A new slice in new memory. -/
theorem newSlice_left {E : Env} {s : St} {w w' : World} (hr : Rel E s w) {l : List C} (hf : l = [] ∨ E.loc s.nx = none) {vs : List Value} (hl : All2 (CRel E) l vs) {t : TypeId} {v : Value} (hrow : w'.ownsRow w.heap.size t 1 v vs.length vs) (hnil : v = .slice none 0 0 ↔ vs = [])
    (hb : Below w.heap.size w w') {u : V} {s' : St} (h : newSlice l s = some (u, s')) : Left E s w u s' v w' := by
  have same : Step E s w E s w' := ⟨hr.toRel0.other fun m ⟨b, o, L, h1, h2, h3⟩ => by
      obtain ⟨L', hL', ho⟩ := hr.obj b o h1
      rw [h2] at hL'; cases hL'
      exact hb.block m (by rw [← h3]; exact ho.lt), Nat.le_refl _, fun _ _ => rfl, rfl, fun _ h => .inr h, fun m hm _ => hb.block m hm, hb.size, hb.os, hb.output, hb.tape, rfl⟩
  unfold newSlice at h
  split at h
  · cases h
    cases hl
    exact ⟨E, hnil.2 rfl, same⟩
  · rename_i hne
    cases h
    have hlen := hl.length
    rcases hrow.2 with ⟨h1, h2⟩ | ⟨g, cap, cur, h1, h2, h3, h4, h5, h6, h7⟩
    · exact absurd (List.eq_nil_of_length_eq_zero (by rw [hlen]; exact h2)) (by simpa using hne)
    · subst h1
      have hle := Env.le_add (L := ⟨g, 0, cap⟩) (hf.resolve_left (by simpa using hne))
      have hsz : cur.size = cap := by rw [h6, Nat.mul_one]
      refine ⟨E.add s.nx ⟨g, 0, cap⟩, ⟨⟨g, 0, cap⟩, 0, cap, by simp [Env.add], by rw [hlen], fun _ => rfl, Nat.le_refl _, by rw [hlen]; exact h4, fun h => (by cases h), fun _ => by show 0 + cap * 1 ≤ cap; omega⟩, ?_⟩
      have hgl : w.heap.size ≤ g := h2
      have hobj : ORel (E.add s.nx ⟨g, 0, cap⟩) w' ⟨g, 0, cap⟩ (.row l) := by
        refine ⟨cur, t, (0, 0), h3, hsz, by show l.length + 0 ≤ cap; rw [hlen]; omega, fun i hi => ?_, .inl rfl, fun _ => ⟨rfl, by simp⟩⟩
        have hi : i < l.length := hi
        obtain ⟨y, hy, hcy⟩ := hl.get (List.getElem?_eq_getElem hi)
        refine ⟨y, ?_, ?_⟩
        · rw [Nat.mul_one] at h7
          have : (cur.toList.take vs.length)[i]? = some y := by rw [h7]; exact hy
          rw [List.getElem?_take_of_lt (by rw [← hlen]; exact hi)] at this
          simpa using this
        · rw [tget_setN, if_pos (by omega)]
          simp only [Nat.sub_zero, List.getD_eq_getElem?_getD, List.getElem?_eq_getElem hi, Option.getD_some]
          exact hcy.mono hle
      have key : ∀ q oq, (s.new (.row l)).get q = some oq → (q = s.nx ∧ oq = .row l) ∨ (q ≠ s.nx ∧ s.get q = some oq) := fun q oq h => by
        rw [St.get_new] at h
        split at h
        · rename_i e; cases h; exact .inl ⟨e.symm, rfl⟩
        · rename_i e; exact .inr ⟨fun e' => e e'.symm, h⟩
      have eold : ∀ q, q ≠ s.nx → (E.add s.nx ⟨g, 0, cap⟩).loc q = E.loc q := fun q hq => by simp [Env.add, hq]
      have enew : (E.add s.nx ⟨g, 0, cap⟩).loc s.nx = some ⟨g, 0, cap⟩ := by simp [Env.add]
      have lt : ∀ q oq L, s.get q = some oq → E.loc q = some L → L.blk < w.heap.size := fun q oq L h1 h2 => by
        obtain ⟨L', hL', ho⟩ := hr.obj q oq h1
        rw [h2] at hL'; cases hL'
        exact ho.lt
      refine ⟨⟨fun q oq h => ?_, fun q q' oq oq' L L' h h' e e' eb => ?_⟩, by simp, fun q hq => ?_, rfl, fun m hm => ?_, fun m hm _ => hb.block m hm, hb.size, hb.os, hb.output, hb.tape, rfl⟩
      · rcases key q oq h with ⟨rfl, rfl⟩ | ⟨hne, h⟩
        · exact ⟨_, enew, hobj⟩
        · obtain ⟨L, hL, ho⟩ := same.rel.obj q oq h
          exact ⟨L, hle.1 _ _ hL, ho.mono hle⟩
      · rcases key q oq h with ⟨rfl, rfl⟩ | ⟨hne, h⟩ <;> rcases key q' oq' h' with ⟨rfl, rfl⟩ | ⟨hne', h'⟩
        · rfl
        · rw [enew] at e; cases e
          rw [eold q' hne'] at e'
          have := lt q' oq' L' h' e'
          have eb : g = L'.blk := eb
          omega
        · rw [enew] at e'; cases e'
          rw [eold q hne] at e
          have := lt q oq L h e
          have eb : L.blk = g := eb
          omega
        · rw [eold q hne] at e
          rw [eold q' hne'] at e'
          exact hr.inj q q' oq oq' L L' h h' e e' eb
      · refine eold q ?_
        have : q < s.nx ∨ s.nx + 1 ≤ q := hq
        omega
      · obtain ⟨q, oq, L, h, e, rfl⟩ := hm
        rcases key q oq h with ⟨rfl, rfl⟩ | ⟨hne, h⟩
        · rw [enew] at e; cases e
          exact .inl hgl
        · rw [eold q hne] at e
          exact .inr ⟨q, oq, L, h, e, rfl⟩

theorem newSlice_nx {l : List C} {s s' : St} {u : V} (h : newSlice l s = some (u, s')) : s.nx ≤ s'.nx ∧ (l ≠ [] → s'.nx = s.nx + 1) := by
  unfold newSlice at h
  split at h
  · cases h; exact ⟨Nat.le_refl _, fun h => absurd rfl h⟩
  · cases h; exact ⟨by simp, fun _ => rfl⟩

theorem born_stamped {es : Array MapEntry} {clock : Nat} (h1 : ∀ x ∈ es.toList, x.born < clock) (h2 : (es.toList.map (·.born)).Nodup) (h3 : (es.toList.map (·.key)).Nodup) : Stamped es clock := ⟨h1, h2, h3⟩

theorem sortedI2_sound {P : Program} {f : Nat} {fn : Func} {c : Code} (hf : P.funcs[f]? = some fn) (hname : (fn.name == "runtime.NumGoroutine") = false) (hb : fn.body = some c) {fs : List Nat} (hS : ∀ g ∈ fs, SortedI P f g) : SummSound P f (sortedI2 fs) := by
  intro args s v s' h
  unfold sortedI2 at h
  split at h
  · rename_i g b o
    obtain ⟨hcond, hx⟩ := cond_some h
    clear h
    have h := hx
    clear hx
    simp only [Bool.and_eq_true] at hcond
    obtain ⟨ho, hg⟩ := hcond
    have ho := Nat.eq_of_beq_eq_true ho
    subst ho
    have hgm : g ∈ fs := by
      obtain ⟨x, hx, hxe⟩ := List.any_eq_true.1 hg
      rw [Nat.eq_of_beq_eq_true hxe]; exact hx
    split at h
    · rename_i n d t hgb
      obtain ⟨hn, h⟩ := cond_some h
      have hn := blt_true' hn
      have start : ∀ {E : Env} {w : World} {xs : Array Value}, Rel E s w → All2 (ARel E) [.c (.fn1 g (.ptr b 0))] xs.toList → ∃ L y, E.loc b = some L ∧ xs = #[.func (.func g) #[] #[.pointer (some ⟨L.blk, 0, none⟩)]] ∧ L.blk < w.heap.size ∧ w.cell? ⟨L.blk, 0, none⟩ = some y ∧ CRel E (tget d t 0) y := by
        intro E w xs hr hx
        obtain ⟨x, rfl, y0, ⟨L, hL, rfl⟩, rfl⟩ := args1 hx
        obtain ⟨L', hL', cs, el, fr, hh, hsz, hroom, hcells, hfr0, hfr2⟩ := hr.obj b _ hgb
        rw [hL] at hL'; cases hL'
        have hsh := (hfr2 rfl).1
        obtain ⟨y, hy, hcy⟩ := hcells 0 hn
        rw [hsh] at hy
        refine ⟨L, y, hL, by rw [hsh], (Array.getElem?_eq_some_iff.1 hh).1, ?_, hcy⟩
        have hy : cs[0]? = some y := hy
        simp [World.cell?, hh, hy]
      split at h
      · rename_i hz
        cases h
        refine ⟨Nat.le_refl _, fun E w xs hr hgg hnn hfr hx => ?_⟩
        obtain ⟨L, y, hL, rfl, hlt, hcell, hcy⟩ := start hr hx
        rw [hz] at hcy
        have hcy : y = .map none := hcy
        subst hcy
        refine calls_outc hf hname hb (((hS g hgm).2 L.blk w hlt hcell).mono fun e w' ⟨he, hbl⟩ => ⟨_, he, E, rfl, ?_⟩)
        exact ⟨hr.toRel0.other fun m ⟨b, o, L, h1, h2, h3⟩ => by
          obtain ⟨L', hL', ho⟩ := hr.obj b o h1
          rw [h2] at hL'; cases hL'
          exact hbl.block m (by rw [← h3]; exact ho.lt), Nat.le_refl _, fun _ _ => rfl, rfl, fun _ h => .inr h, fun m hm _ => hbl.block m hm, hbl.size, hbl.os, hbl.output, hbl.tape, rfl⟩
      · rename_i bm hz
        split at h
        · rename_i l hl
          obtain ⟨hll, h⟩ := cond_some h
          have hll := ble_true' hll
          split at h
          · rename_i ks hks
            refine ⟨(newSlice_nx h).1, fun E w xs hr hgg hnn hfr hx => ?_⟩
            obtain ⟨L, y, hL, rfl, hlt, hcell, hcy⟩ := start hr hx
            rw [hz] at hcy
            obtain ⟨Lm, hLm, rfl⟩ := hcy
            obtain ⟨Lm', hLm', es, clock, hheap, hsh, hkey, ⟨l', hpl, hall⟩, hnd, hborn⟩ := hr.obj bm _ hl
            rw [hLm] at hLm'; cases hLm'
            obtain ⟨hk1, hk2⟩ := keysI2_spec hks
            -- the keys, in the order of memory
            have hkint : ∀ p ∈ l, ∃ n, p.1 = .int .i64 n ∧ (Lit.int .i64 n).wf = true := by
              intro p hp
              have : p.1 ∈ ks.map (C.int .i64) := by rw [← hk1]; exact List.mem_map.2 ⟨p, hp, rfl⟩
              obtain ⟨n, hn, e⟩ := List.mem_map.1 this
              exact ⟨n, e.symm, hk2 n hn⟩
            have hall2 : All2 (fun (p : C × A) (e : MapEntry) => ∃ n, p.1 = .int .i64 n ∧ e.key = .int .i64 n ∧ (Lit.int .i64 n).wf = true) l' es.toList := by
              have : ∀ p ∈ l', ∃ n, p.1 = .int .i64 n ∧ (Lit.int .i64 n).wf = true := fun p hp => hkint p (hpl.mem_iff.1 hp)
              clear hpl hheap hnd hborn
              generalize es.toList = m at hall
              induction hall with
              | nil => exact .nil
              | cons h1 _ ih =>
                obtain ⟨n, h2, h3⟩ := this _ (List.mem_cons_self ..)
                refine .cons ⟨n, h2, ?_, h3⟩ (ih fun p hp => this p (List.mem_cons_of_mem _ hp))
                have := h1.1
                rw [h2] at this
                exact this
            have hkeys : ∀ e ∈ es.toList, ∃ x, keyIs .i64 e.key x := by
              intro e he
              obtain ⟨p, _, _, n, _, h2, h3⟩ := mem_zip_right hall2 he
              subst_vars
              exact ⟨n, h2, h3⟩
            have hkp : (es.toList.map (·.key)).Perm (ks.map (Value.int .i64)) := by
              have e1 : es.toList.map (·.key) = l'.map (fun p => match p.1 with | .int _ n => Value.int .i64 n | _ => undef) := by
                refine (All2.map_eq (fun p e hpe => ?_) hall2).symm
                obtain ⟨n, h1, h2, _⟩ := hpe
                rw [h1, h2]
              have e2 : l.map (fun p => match p.1 with | .int _ n => Value.int .i64 n | _ => undef) = ks.map (Value.int .i64) := by
                have : l.map (fun p => match p.1 with | .int _ n => Value.int .i64 n | _ => undef) = (l.map (·.1)).map (fun k => match k with | .int _ n => Value.int .i64 n | _ => undef) := by rw [List.map_map]; rfl
                rw [this, hk1, List.map_map]
                rfl
              rw [e1, ← e2]
              exact hpl.map _
            have hsz : es.size ≤ 1000000 := by
              have h1 := hall2.length
              have h2 := hpl.length_eq
              have h3 : es.toList.length = es.size := Array.length_toList
              omega
            have hkn : (es.toList.map (·.key)).Nodup := by
              have hkl := keyedOk_iff.1 hkey
              refine hkp.nodup_iff.2 ?_
              have : (l.map (·.1)).Pairwise (fun a b => keyEq a b = some false) := List.pairwise_map.2 (hkl.2.imp fun h => h.1)
              rw [hk1] at this
              have h2 := List.pairwise_map.1 this
              refine List.pairwise_map.2 (h2.imp fun {a b} hab e => ?_)
              have e : a = b := by simpa using e
              subst e
              rw [keyEq_refl (.inl rfl)] at hab
              cases hab
            refine calls_outc hf hname hb (((hS g hgm).1 L.blk Lm.blk es clock w hlt hcell hheap hsz ⟨hborn, hnd, hkn⟩ hkeys).mono ?_)
            rintro e w' ⟨x, ss, ty, he, hp, hrow, hnil, hbl⟩
            refine ⟨x, he, ?_⟩
            have hpk : ss.Perm ks := by
              have h1 := hp.trans hkp
              have h2 := h1.map (fun v => match v with | Value.int _ n => n | _ => 0)
              rw [List.map_map, List.map_map] at h2
              have h3 : ∀ l : List Int, l.map ((fun v => match v with | Value.int _ n => n | _ => 0) ∘ Value.int .i64) = l := fun l => by
                induction l with
                | nil => rfl
                | cons a l ih => simp only [List.map_cons, ih]; rfl
              rw [h3, h3] at h2
              exact h2
            rw [mergeSort_sortI, sortI_unique hpk] at hrow
            have hlen : (sortI ks).length = ss.length := by rw [(sortI_perm ks).length_eq, hpk.length_eq]
            rw [← hlen] at hrow
            have hall3 : All2 (CRel E) (cellsI (sortI ks)) ((sortI ks).map (Value.int .i64)) := by
              generalize sortI ks = zs
              induction zs with
              | nil => exact .nil
              | cons z zs ih => exact .cons rfl ih
            have hloc : cellsI (sortI ks) = [] ∨ E.loc s.nx = none := by
              by_cases e : cellsI (sortI ks) = []
              · exact .inl e
              · exact .inr (hfr s.nx (Nat.le_refl _) (by rw [(newSlice_nx h).2 e]; omega))
            refine newSlice_left hr hloc hall3 (by rw [List.length_map]; exact hrow) ?_ hbl h
            · rw [hnil]
              constructor
              · intro e; subst e; rw [show ks = [] from List.Perm.eq_nil hpk.symm]; rfl
              · intro e
                have e1 : sortI ks = [] := by simpa using e
                rw [e1] at hlen
                exact List.eq_nil_of_length_eq_zero hlen.symm
          · cases h
        · cases h
      · cases h
    · cases h
  · cases h
end Go.AX

namespace Go.AX
open Go Go.Sort Go.RowKit Go.Maps Go.Shelf Go.Proofs
open Go.MapKept (Stamped)

theorem ltL_iff : ∀ (a b : List Nat), ltL a b = true ↔ a < b
  | _, [] => by simp [ltL]
  | [], b :: y => by simp [ltL]
  | a :: x, b :: y => by
    rw [ltL, List.cons_lt_cons_iff, ← ltL_iff x y]
    cases h1 : Nat.blt a b
    · have h1 := blt_false' h1
      cases h2 : Nat.beq a b
      · have h2 := beq_false' h2
        simp; omega
      · have h2 := Nat.eq_of_beq_eq_true h2
        subst h2; simp
    · have h1 := blt_true' h1
      simp [h1]
theorem insL_perm (x : List Nat) : ∀ l : List (List Nat), (insL x l).Perm (x :: l)
  | [] => .refl _
  | y :: l => by
    unfold insL
    cases ltL y x
    · exact .refl _
    · exact ((insL_perm x l).cons y).trans (.swap _ _ _)
theorem sortL_perm : ∀ l : List (List Nat), (sortL l).Perm l
  | [] => .refl _
  | x :: l => (insL_perm x (sortL l)).trans ((sortL_perm l).cons x)
theorem insL_sorted (x : List Nat) : ∀ l : List (List Nat), l.Pairwise (· ≤ ·) → (insL x l).Pairwise (· ≤ ·)
  | [], _ => by simp [insL]
  | y :: l, h => by
    obtain ⟨h1, h2⟩ := List.pairwise_cons.1 h
    unfold insL
    cases hb : ltL y x
    · have hxy : x ≤ y := by
        have : ¬ y < x := fun h => by rw [(ltL_iff y x).2 h] at hb; cases hb
        exact List.not_lt.1 this
      rw [cond_false]
      refine List.pairwise_cons.2 ⟨fun z hz => ?_, h⟩
      rcases List.mem_cons.1 hz with rfl | hz
      · exact hxy
      · exact List.le_trans hxy (h1 z hz)
    · have hyx := (ltL_iff y x).1 hb
      rw [cond_true]
      refine List.pairwise_cons.2 ⟨fun z hz => ?_, insL_sorted x l h2⟩
      rcases List.mem_cons.1 ((insL_perm x l).mem_iff.1 hz) with rfl | hz
      · exact List.le_of_lt hyx
      · exact h1 z hz
theorem sortL_sorted : ∀ l : List (List Nat), (sortL l).Pairwise (· ≤ ·)
  | [] => .nil
  | x :: l => insL_sorted x _ (sortL_sorted l)
theorem sortL_unique {l m : List (List Nat)} (h : l.Perm m) : sortL l = sortL m :=
  List.Perm.eq_of_pairwise (le := (· ≤ ·)) (fun _ _ _ _ h1 h2 => List.le_antisymm h1 h2) (sortL_sorted l) (sortL_sorted m) ((sortL_perm l).trans (h.trans (sortL_perm m).symm))

def natsOf (l : List UInt8) : List Nat := l.map (·.toNat)
theorem nats_lt : ∀ (a b : List UInt8), natsOf a < natsOf b ↔ a < b
  | _, [] => by simp [natsOf]
  | [], b :: y => by simp [natsOf]
  | a :: x, b :: y => by
    show a.toNat :: natsOf x < b.toNat :: natsOf y ↔ _
    rw [List.cons_lt_cons_iff, List.cons_lt_cons_iff, nats_lt x y]
    have h1 : a.toNat < b.toNat ↔ a < b := UInt8.lt_iff_toNat_lt.symm
    have h2 : a.toNat = b.toNat ↔ a = b := UInt8.toNat_inj
    rw [h1, h2]
theorem nats_le (a b : List UInt8) : natsOf a ≤ natsOf b ↔ a ≤ b := by
  rw [← List.not_lt, ← List.not_lt, nats_lt]
theorem mergeSort_sortL (l : List (List UInt8)) : (l.mergeSort (fun x y => decide (x ≤ y))).map natsOf = sortL (l.map natsOf) := by
  refine List.Perm.eq_of_pairwise (le := (· ≤ ·)) (fun _ _ _ _ h1 h2 => List.le_antisymm h1 h2) ?_ (sortL_sorted _) (((List.mergeSort_perm l _).map _).trans (sortL_perm _).symm)
  have := List.pairwise_mergeSort (le := fun x y : List UInt8 => decide (x ≤ y)) (fun a b c h1 h2 => by simp at *; exact List.le_trans h1 h2) (fun a b => by simp; exact List.le_total a b) l
  refine List.pairwise_map.2 (this.imp fun {a b} h => ?_)
  rw [nats_le]
  simpa using h

/-- What the shelf tells of 'f', slices.Sorted, handed the closure 'g' of maps.Keys, keys strings. -/
def SortedL (P : Program) (f g : Nat) : Prop :=
  (∀ (Bm bm : Nat) (es : Array MapEntry) (clock : Nat) (w : World), Bm < w.heap.size → w.cell? ⟨Bm, 0, none⟩ = some (.map (some bm)) → w.heap[bm]? = some (.map es clock) → es.size ≤ 1000000 → Stamped es clock → (∀ e ∈ es.toList, ∃ x : ByteArray, e.key = .string x ∧ x.size ≤ 1000000) →
    Calls P f #[.func (.func g) #[] #[.pointer (some ⟨Bm, 0, none⟩)]] w fun e w' => ∃ (v : Value) (ss : List (List UInt8)) (t : TypeId), e = .returned v ∧ (ss.map encStr).Perm (es.toList.map (·.key)) ∧
      w'.ownsRow w.heap.size t 1 v ss.length ((ss.mergeSort (fun x y => decide (x ≤ y))).map encStr) ∧ (v = .slice none 0 0 ↔ ss = []) ∧ Below w.heap.size w w') ∧
  (∀ (Bm : Nat) (w : World), Bm < w.heap.size → w.cell? ⟨Bm, 0, none⟩ = some (.map none) → Calls P f #[.func (.func g) #[] #[.pointer (some ⟨Bm, 0, none⟩)]] w fun e w' => e = .returned (.slice none 0 0) ∧ Below w.heap.size w w')

theorem str_of_keys {P : Program} {k : TypeId} (hk : P.underlying k = some .string) {es : Array MapEntry} {clock : Nat} (hst : Stamped es clock) (hsz : es.size ≤ 1000000) (hkeys : ∀ e ∈ es.toList, ∃ x : ByteArray, e.key = .string x ∧ x.size ≤ 1000000) {w : World} {bm : Nat} (hb : w.heap[bm]? = some (.map es clock)) :
    ∃ (D : DataW Unit), w.ownsMap P k (fun _ => some (.nil, [])) bm es.size D ∧ ((strKeys D).map encStr).Perm (es.toList.map (·.key)) ∧ Maps.size D = es.size := by
  have hmk : ∀ {x : ByteArray}, x.size ≤ 1000000 → keyOf P k (.string x) = some (.string x.data.toList) := fun h => WideMaps.keyOf_string_mk hk (Nat.le_trans h (by decide))
  refine ⟨_, ⟨es, clock, hb, ⟨Nat.le_trans hsz (by decide), hst, fun x hx => ?_⟩, Nat.le_refl _, rfl⟩, ?_, ?_⟩
  · obtain ⟨n, h1, h2⟩ := hkeys x hx
    refine ⟨(.string n.data.toList, .nil), ?_⟩
    unfold WideElems.rd
    rw [h1, hmk h2]
    rfl
  · have hp := WideShapes.sorted_perm (es.toList.map (WideElems.rg P k (fun _ => some ((.nil : DataW Unit), []))))
    have h1 := (hp.map fun p => encStr (strOf p.1))
    have h2 : (strKeys (.map ((es.toList.map (WideElems.rg P k (fun _ => some ((.nil : DataW Unit), [])))).foldr DataW.insert []))).map encStr = ((es.toList.map (WideElems.rg P k (fun _ => some ((.nil : DataW Unit), [])))).foldr DataW.insert []).map (fun p => encStr (strOf p.1)) := by
      simp [strKeys, List.map_map, Function.comp_def]
    rw [h2]
    refine h1.trans ?_
    rw [List.map_map]
    refine (List.Perm.of_eq (List.map_congr_left fun e he => ?_))
    obtain ⟨n, h3, h4⟩ := hkeys e he
    have : WideElems.rd P k (fun _ => some ((.nil : DataW Unit), [])) e = some (.string n.data.toList, .nil) := by
      unfold WideElems.rd
      rw [h3, hmk h4]
      rfl
    simp only [Function.comp]
    rw [WideElems.rg_of this, h3]
    rfl
  · show ((es.toList.map _).foldr DataW.insert []).length = es.size
    rw [(WideShapes.sorted_perm _).length_eq]; simp

/-- By the shelf. -/
theorem sortedL_of {P : Program} {ρ ρ' : Ren} (L6 : SlLaysZ.n6 P ρ) (L10 : SlLaysZ.n10 P ρ') (hs : AnyZ.SortsIn P ρ Fence.wide 5) (e9 : ∀ args w, (callFunc (ρ.f 9) args).run P w = .ok (.enter (ρ.f 9) args) w) (e10 : ∀ args w, (callFunc (ρ'.f 10) args).run P w = .ok (.enter (ρ'.f 10) args) w) :
    SortedL P (ρ.f 6) (ρ'.f 10) := by
  constructor
  · intro Bm bm es clock w hBm hcell hheap hsz hst hkeys
    obtain ⟨D, hown, hperm, hDs⟩ := str_of_keys (k := ρ'.t 26) L10.t26 hst hsz hkeys hheap
    have hseq : SeqGives Fence.wide 3 P (ρ'.f 10) #[.pointer (some ⟨Bm, 0, none⟩)] encStr (fun ss => ss.Perm (strKeys D)) (Maps.size D) w :=
      AnyZ.keys_gives L10 Fence.wide 3 trivial rfl (by omega) Bm bm es.size D w hBm hcell hown
    have cS := AnyZ.sorted_in L6 Fence.wide 6 trivial trivial trivial trivial rfl (by omega) hs e9 (ρ'.f 10) #[.pointer (some ⟨Bm, 0, none⟩)] trivial e10 _ _ (by rw [hDs]; exact Nat.le_trans hsz (by decide)) (by rw [hDs]; omega) _ hseq
    refine ((callsIn_wide (n := 6)).1 cS).mono ?_
    rintro e w' ⟨v, ss, rfl, hS, hrow, hnil, hb⟩
    exact ⟨v, ss, _, rfl, (hS.map _).trans hperm, hrow, hnil, hb⟩
  · intro Bm w hBm hcell
    have hseq : SeqGives Fence.wide 3 P (ρ'.f 10) #[.pointer (some ⟨Bm, 0, none⟩)] encStr (fun ss : List (List UInt8) => ss = []) 0 w :=
      AnyZ.keys_gives_nil L10 Fence.wide 3 trivial rfl Bm w hBm hcell
    have cS := AnyZ.sorted_in L6 Fence.wide 6 trivial trivial trivial trivial rfl (by omega) hs e9 (ρ'.f 10) #[.pointer (some ⟨Bm, 0, none⟩)] trivial e10 _ 0 (Nat.zero_le _) (by omega) _ hseq
    refine ((callsIn_wide (n := 6)).1 cS).mono ?_
    rintro e w' ⟨v, ss, rfl, rfl, hrow, hnil, hb⟩
    exact ⟨by rw [hnil.2 rfl], hb⟩

def keysL2 : List (C × A) → Option (List (List Nat))
  | [] => some []
  | (k, _) :: l => match k with
    | .str n => bif Nat.ble n.length 1000000 then (match keysL2 l with | some r => some (n :: r) | none => none) else none
    | _ => none
def sortedL2 (fs : List Nat) (args : List A) (s : St) : Option (V × St) := match args with
  | [.c (.fn1 g (.ptr b o))] => bif and (Nat.beq o 0) (fs.any (Nat.beq g)) then (match s.get b with
    | some (.cells n d t false) => bif Nat.blt 0 n then (match tget d t 0 with
      | .nilm => some (.a (.c .nils), s)
      | .map bm => (match s.get bm with
        | some (.map l) => bif Nat.ble l.length 1000000 then (match keysL2 l with | some ks => newSlice (cellsL (sortL ks)) s | none => none) else none
        | _ => none)
      | _ => none) else none
    | _ => none) else none
  | _ => none

theorem keysL2_spec : ∀ {l : List (C × A)} {ks : List (List Nat)}, keysL2 l = some ks → l.map (·.1) = ks.map C.str ∧ ∀ n ∈ ks, n.length ≤ 1000000
  | [], ks, h => by simp only [keysL2] at h; cases h; exact ⟨rfl, by simp⟩
  | (k, v) :: l, ks, h => by
    simp only [keysL2] at h
    split at h
    · obtain ⟨hw, h⟩ := cond_some h
      split at h
      · rename_i r hr
        cases h
        obtain ⟨h1, h2⟩ := keysL2_spec hr
        refine ⟨by simp [h1], fun n hn => ?_⟩
        rcases List.mem_cons.1 hn with rfl | hn
        · exact ble_true' hw
        · exact h2 n hn
      · cases h
    · cases h

def keyNats : Value → List Nat
  | .string s => natsOf s.data.toList
  | _ => []

theorem sortedL2_sound {P : Program} {f : Nat} {fn : Func} {c : Code} (hf : P.funcs[f]? = some fn) (hname : (fn.name == "runtime.NumGoroutine") = false) (hb : fn.body = some c) {fs : List Nat} (hS : ∀ g ∈ fs, SortedL P f g) : SummSound P f (sortedL2 fs) := by
  intro args s v s' h
  unfold sortedL2 at h
  split at h
  · rename_i g b o
    obtain ⟨hcond, hx⟩ := cond_some h
    clear h
    have h := hx
    clear hx
    simp only [Bool.and_eq_true] at hcond
    obtain ⟨ho, hg⟩ := hcond
    have ho := Nat.eq_of_beq_eq_true ho
    subst ho
    have hgm : g ∈ fs := by
      obtain ⟨x, hx, hxe⟩ := List.any_eq_true.1 hg
      rw [Nat.eq_of_beq_eq_true hxe]; exact hx
    split at h
    · rename_i n d t hgb
      obtain ⟨hn, h⟩ := cond_some h
      have hn := blt_true' hn
      have start : ∀ {E : Env} {w : World} {xs : Array Value}, Rel E s w → All2 (ARel E) [.c (.fn1 g (.ptr b 0))] xs.toList → ∃ L y, E.loc b = some L ∧ xs = #[.func (.func g) #[] #[.pointer (some ⟨L.blk, 0, none⟩)]] ∧ L.blk < w.heap.size ∧ w.cell? ⟨L.blk, 0, none⟩ = some y ∧ CRel E (tget d t 0) y := by
        intro E w xs hr hx
        obtain ⟨x, rfl, y0, ⟨L, hL, rfl⟩, rfl⟩ := args1 hx
        obtain ⟨L', hL', cs, el, fr, hh, hsz, hroom, hcells, hfr0, hfr2⟩ := hr.obj b _ hgb
        rw [hL] at hL'; cases hL'
        have hsh := (hfr2 rfl).1
        obtain ⟨y, hy, hcy⟩ := hcells 0 hn
        rw [hsh] at hy
        refine ⟨L, y, hL, by rw [hsh], (Array.getElem?_eq_some_iff.1 hh).1, ?_, hcy⟩
        have hy : cs[0]? = some y := hy
        simp [World.cell?, hh, hy]
      split at h
      · rename_i hz
        cases h
        refine ⟨Nat.le_refl _, fun E w xs hr hgg hnn hfr hx => ?_⟩
        obtain ⟨L, y, hL, rfl, hlt, hcell, hcy⟩ := start hr hx
        rw [hz] at hcy
        have hcy : y = .map none := hcy
        subst hcy
        refine calls_outc hf hname hb (((hS g hgm).2 L.blk w hlt hcell).mono fun e w' ⟨he, hbl⟩ => ⟨_, he, E, rfl, ?_⟩)
        exact ⟨hr.toRel0.other fun m ⟨b, o, L, h1, h2, h3⟩ => by
          obtain ⟨L', hL', ho⟩ := hr.obj b o h1
          rw [h2] at hL'; cases hL'
          exact hbl.block m (by rw [← h3]; exact ho.lt), Nat.le_refl _, fun _ _ => rfl, rfl, fun _ h => .inr h, fun m hm _ => hbl.block m hm, hbl.size, hbl.os, hbl.output, hbl.tape, rfl⟩
      · rename_i bm hz
        split at h
        · rename_i l hl
          obtain ⟨hll, h⟩ := cond_some h
          have hll := ble_true' hll
          split at h
          · rename_i ks hks
            refine ⟨(newSlice_nx h).1, fun E w xs hr hgg hnn hfr hx => ?_⟩
            obtain ⟨L, y, hL, rfl, hlt, hcell, hcy⟩ := start hr hx
            rw [hz] at hcy
            obtain ⟨Lm, hLm, rfl⟩ := hcy
            obtain ⟨Lm', hLm', es, clock, hheap, hsh, hkey, ⟨l', hpl, hall⟩, hnd, hborn⟩ := hr.obj bm _ hl
            rw [hLm] at hLm'; cases hLm'
            obtain ⟨hk1, hk2⟩ := keysL2_spec hks
            have hkint : ∀ p ∈ l, ∃ n, p.1 = .str n ∧ n.length ≤ 1000000 := by
              intro p hp
              have : p.1 ∈ ks.map C.str := by rw [← hk1]; exact List.mem_map.2 ⟨p, hp, rfl⟩
              obtain ⟨n, hn, e⟩ := List.mem_map.1 this
              exact ⟨n, e.symm, hk2 n hn⟩
            have hall2 : All2 (fun (p : C × A) (e : MapEntry) => ∃ n, p.1 = .str n ∧ ∃ x : ByteArray, e.key = .string x ∧ natsOf x.data.toList = n ∧ x.size ≤ 1000000) l' es.toList := by
              have : ∀ p ∈ l', ∃ n, p.1 = .str n ∧ n.length ≤ 1000000 := fun p hp => hkint p (hpl.mem_iff.1 hp)
              clear hpl hheap hnd hborn
              generalize es.toList = m at hall
              induction hall with
              | nil => exact .nil
              | cons h1 _ ih =>
                obtain ⟨n, h2, h3⟩ := this _ (List.mem_cons_self ..)
                have h4 := h1.1
                rw [h2] at h4
                obtain ⟨x, h5, h6⟩ := h4
                refine .cons ⟨n, h2, x, h5, h6, ?_⟩ (ih fun p hp => this p (List.mem_cons_of_mem _ hp))
                have : x.data.toList.length = n.length := by rw [← h6]; simp
                have h7 : x.size = x.data.toList.length := by rw [Array.length_toList]; rfl
                omega
            have hkeys : ∀ e ∈ es.toList, ∃ x : ByteArray, e.key = .string x ∧ x.size ≤ 1000000 := by
              intro e he
              obtain ⟨p, _, hpe, n, _, x, h2, _, h3⟩ := mem_zip_right hall2 he
              rw [← hpe]
              exact ⟨x, h2, h3⟩
            have hkp : (es.toList.map fun e => keyNats e.key).Perm ks := by
              have e1 : es.toList.map (fun e => keyNats e.key) = l'.map (fun p => match p.1 with | .str n => n | _ => []) := by
                refine (All2.map_eq (fun p e hpe => ?_) hall2).symm
                obtain ⟨n, h1, x, h2, h3, _⟩ := hpe
                rw [h1, h2]
                exact h3.symm
              have e2 : l.map (fun p => match p.1 with | .str n => n | _ => []) = ks := by
                have : l.map (fun p => match p.1 with | .str n => n | _ => []) = (l.map (·.1)).map (fun k => match k with | .str n => n | _ => []) := by rw [List.map_map]; rfl
                rw [this, hk1, List.map_map]
                exact (List.map_congr_left (fun a _ => rfl)).trans (List.map_id _)
              rw [e1, ← e2]
              exact hpl.map _
            have hsz : es.size ≤ 1000000 := by
              have h1 := hall2.length
              have h2 := hpl.length_eq
              have h3 : es.toList.length = es.size := Array.length_toList
              omega
            have hkn : (es.toList.map (·.key)).Nodup := by
              have hkl := keyedOk_iff.1 hkey
              have h0 : ks.Nodup := by
                have : (l.map (·.1)).Pairwise (fun a b => keyEq a b = some false) := List.pairwise_map.2 (hkl.2.imp fun h => h.1)
                rw [hk1] at this
                have h2 := List.pairwise_map.1 this
                refine h2.imp fun {a b} hab e => ?_
                subst e
                rw [keyEq_refl (.inr rfl)] at hab
                cases hab
              have h1 := hkp.nodup_iff.2 h0
              refine List.pairwise_map.2 ((List.pairwise_map.1 h1).imp fun {a b} hab e => hab ?_)
              rw [e]
            refine calls_outc hf hname hb (((hS g hgm).1 L.blk Lm.blk es clock w hlt hcell hheap hsz ⟨hborn, hnd, hkn⟩ hkeys).mono ?_)
            rintro e w' ⟨x, ss, ty, he, hp, hrow, hnil, hbl⟩
            refine ⟨x, he, ?_⟩
            have hpk : (ss.map natsOf).Perm ks := by
              have h1 := hp.map keyNats
              rw [List.map_map, List.map_map] at h1
              have h3 : ss.map (keyNats ∘ encStr) = ss.map natsOf := List.map_congr_left fun a _ => by simp [keyNats, encStr, Function.comp]
              rw [h3] at h1
              exact h1.trans hkp
            have hsort : (ss.mergeSort (fun x y => decide (x ≤ y))).map natsOf = sortL ks := by rw [mergeSort_sortL, sortL_unique hpk]
            have hlen : (ss.mergeSort (fun x y => decide (x ≤ y))).length = ss.length := (List.mergeSort_perm ss _).length_eq
            have hall3 : All2 (CRel E) (cellsL (sortL ks)) ((ss.mergeSort (fun x y => decide (x ≤ y))).map encStr) := by
              rw [← hsort]
              generalize ss.mergeSort (fun x y => decide (x ≤ y)) = zs
              induction zs with
              | nil => exact .nil
              | cons z zs ih => exact .cons ⟨_, rfl, by simp [natsOf]⟩ ih
            have hloc : cellsL (sortL ks) = [] ∨ E.loc s.nx = none := by
              by_cases e : cellsL (sortL ks) = []
              · exact .inl e
              · exact .inr (hfr s.nx (Nat.le_refl _) (by rw [(newSlice_nx h).2 e]; omega))
            refine newSlice_left hr hloc hall3 (by rw [List.length_map, hlen]; exact hrow) ?_ hbl h
            · rw [hnil]
              constructor
              · intro e; subst e; simp
              · intro e
                have e1 : (ss.mergeSort (fun x y => decide (x ≤ y))) = [] := by simpa using e
                rw [e1] at hlen
                exact List.eq_nil_of_length_eq_zero hlen.symm
          · cases h
        · cases h
      · cases h
    · cases h
  · cases h
end Go.AX

namespace Go.AX
open Go

/-- Is this answer, and what is kept, what a run left? -/
noncomputable def closedOk (G : Nat) (r : Option (V × St)) (v : V) (nx : Nat) (k : List (Nat × Go.AX.Obj)) : Bool := match r with
  | some (u, s) => and (eqVV u v) (and (Nat.beq s.nx nx) (and (Nat.ble G nx) (keepOk G s k)))
  | none => false
def yesQ : Option (V × St) → Bool
  | some (.a (.c (.bool true)), _) => true
  | _ => false
theorem yesQ_spec {r : Option (V × St)} (h : yesQ r = true) : ∃ s, r = some (.a (.c (.bool true)), s) := by
  unfold yesQ at h
  split at h
  · exact ⟨_, rfl⟩
  · cases h

theorem closed_of {P : Program} {cfg : Cfg} (hc : CfgOk P cfg) {G n f nx : Nat} {v : V} {keep : List (Nat × Go.AX.Obj)} (hG0 : P.globals.size ≤ G) (h : closedOk G (callQ cfg n f [] (St.zero G)) v nx keep = true) : SummSound P f (closedS G nx v keep) := by
  rw [callQ_eq] at h
  unfold closedOk at h
  split at h
  · rename_i u s hr
    simp only [Bool.and_eq_true] at h
    obtain ⟨h1, h2, h3, h4⟩ := h
    have e1 := eqVV_spec h1
    have e2 := Nat.eq_of_beq_eq_true h2
    subst e1; subst e2
    exact closed_sound hG0 (callN_sound hc n) hr (ble_true' h3) h4
  · cases h
theorem plain_of {P : Program} {cfg : Cfg} (hc : CfgOk P cfg) {n f : Nat} (h : yesQ (callQ cfg n f [] (St.zero P.globals.size)) = true) : SummSound P f (plainS true) := by
  rw [callQ_eq] at h
  obtain ⟨s, hs⟩ := yesQ_spec h
  exact plain_sound (callN_sound hc n) hs
end Go.AX

namespace Go.AX
open Go Go.RowKit

/-- Nothing is known but where the package variables lie. -/
def env0 (G : Nat) : Env := { loc := fun b => if b < G then some ⟨b, 0, 0⟩ else none, sym := fun _ => undef }
theorem rel0 (G : Nat) (w : World) : Rel (env0 G) (St.zero G) w := Rel.zero _ _ _
theorem live0 (G n : Nat) : ¬ Live (env0 G) (St.zero G) n := fun ⟨b, o, L, h, _⟩ => by
  have h0 : (St.zero G).get b = none := T.get_e _
  rw [h0] at h; cases h

/-- A law that a run from nothing answers. -/
theorem run_true {P : Program} {cfg : Cfg} (hc : CfgOk P cfg) {n f : Nat} {args : List A} (h : yesQ (callQ cfg n f args (St.zero P.globals.size)) = true) {xs : Array Value} (hx : All2 (ARel (env0 P.globals.size)) args xs.toList)
    {F : Func} {c : Code} (hF : P.funcs[f]? = some F) (hname : (F.name == "runtime.NumGoroutine") = false) (hb : F.body = some c) (w : World) :
    Calls P f xs w fun e w' => e = .returned (.bool true) ∧ Below w.heap.size w w' := by
  rw [callQ_eq] at h
  obtain ⟨s', hs⟩ := yesQ_spec h
  have := callN_sound hc n f args (St.zero P.globals.size) _ s' hs (env0 P.globals.size) w xs (rel0 _ w) (fun g hg => ⟨0, by simp [env0, hg]⟩) (Nat.le_refl _) (fun b h1 _ => by
    have h1 : P.globals.size ≤ b := h1
    simp only [env0]
    rw [if_neg (by omega)]) hx
  rw [callFunc_enter hF hname hb] at this
  refine Calls.mono this fun e w' ⟨x, he, E', hv, hst⟩ => ?_
  have hv : x = .bool true := hv
  subst hv
  exact ⟨he, hst.os, hst.tape, hst.output, hst.size, fun k hk => hst.frame k hk (live0 _ k)⟩

/-- An int, by its lowest bits. -/
theorem sym_low (E : Env) (a : Int) (b : Nat) {k : Nat} (hk : k = 2 ^ b + (a % ((2 ^ b : Nat) : Int)).toNat) : ARel E (.c (.sym k)) (.int .i64 a) := by
  have hpos : (0 : Int) < ((2 ^ b : Nat) : Int) := by
    have : 0 < 2 ^ b := Nat.pow_pos (by decide)
    omega
  have h1 := Int.emod_nonneg a (Int.ne_of_gt hpos)
  have h2 := Int.emod_lt_of_pos a hpos
  refine ⟨a, b, rfl, ?_, ?_, ?_⟩
  · rw [hk]; omega
  · rw [hk, Nat.pow_succ]; omega
  · rw [hk]
    have : ((2 ^ b + (a % ((2 ^ b : Nat) : Int)).toNat - 2 ^ b : Nat) : Int) = a % ((2 ^ b : Nat) : Int) := by
      rw [Nat.add_sub_cancel_left]; omega
    rw [this]
end Go.AX
