/- Part of a proof: a checked executor for the model, its proof of soundness, tables and kernel runs. No condition of its own. -/
import Derived.Test.YtfelnhemmccjmaaGreatDoorBxB
import Derived.Lib.Bytealg
import Derived.Laws.Externs
import Derived.Laws.IdiomRangeMap
set_option autoImplicit false
set_option linter.unusedSimpArgs false
set_option linter.unusedVariables false
namespace Go.AX
open Go

/-! ### Values of some slots alone -/
def restr (t : Tm) : List Pos → Tm
  | [] => .e
  | p :: l => (restr t l).set (t.get p) p
theorem restr_mem {t : Tm} : ∀ {l : List Pos} {p : Pos}, p ∈ l → (restr t l).get p = t.get p
  | q :: l, p, h => by
    simp only [restr]
    rw [T.get_set]
    by_cases e : q = p
    · rw [if_pos e, e]
    · rw [if_neg e]
      exact restr_mem ((List.mem_cons.1 h).resolve_left (fun h => e h.symm))
theorem restr_some {t : Tm} : ∀ {l : List Pos} {p : Pos} {v : V}, (restr t l).get p = some v → p ∈ l ∧ t.get p = some v
  | [], p, v, h => by simp [restr] at h
  | q :: l, p, v, h => by
    simp only [restr] at h
    rw [T.get_set] at h
    by_cases e : q = p
    · rw [if_pos e] at h; subst e; exact ⟨by simp, h⟩
    · rw [if_neg e] at h
      exact ⟨List.mem_cons_of_mem _ (restr_some h).1, (restr_some h).2⟩

theorem slotsL_mem : ∀ {l : List Opd} {p : Pos}, .t p ∈ l → p ∈ slotsL l
  | .t q :: l, p, h => by
    rcases List.mem_cons.1 h with h | h
    · cases h; simp [slotsL]
    · simp [slotsL, slotsL_mem h]
  | .k a :: l, p, h => by
    rcases List.mem_cons.1 h with h | h
    · cases h
    · simp [slotsL, slotsL_mem h]
theorem restr_ev {t : Tm} {o : IOper} {x : Opd} (hx : x ∈ o.op.opds) : ev (restr t o.looks) x = ev t x := by
  cases x with
  | k a => rfl
  | t p =>
    refine restr_mem ?_
    unfold IOper.looks
    split
    · exact List.mem_cons_of_mem _ (slotsL_mem hx)
    · exact slotsL_mem hx
theorem restr_wanted {t : Tm} {o : IOper} : wantedI (restr t o.looks) o.guard = wantedI t o.guard := by
  cases hg : o.guard with
  | none => rfl
  | some g =>
    obtain ⟨p, b⟩ := g
    have : (restr t o.looks).get p = t.get p := restr_mem (by simp [IOper.looks, hg])
    simp only [wantedI, this]

theorem cnt_lt {p q : Nat → Bool} {i : Nat} (hp : p i = true) (hq : q i = false) (h : ∀ j, q j = true → p j = true) : ∀ {l : List Nat}, i ∈ l → (l.filter q).length < (l.filter p).length := by
  have le : ∀ l : List Nat, (l.filter q).length ≤ (l.filter p).length := by
    intro l
    induction l with
    | nil => simp
    | cons x l ih =>
      simp only [List.filter_cons]
      cases hqx : q x
      · cases p x <;> simp <;> omega
      · rw [h x hqx]; simp; omega
  intro l hi
  induction l with
  | nil => cases hi
  | cons x l ih =>
    simp only [List.filter_cons]
    rcases List.mem_cons.1 hi with rfl | hi
    · rw [hp, hq]; simp; have := le l; omega
    · have := ih hi
      cases hqx : q x
      · cases p x <;> simp <;> omega
      · rw [h x hqx]; simp; omega

section
variable {P : Program} {nt : Nat} {cfg : Cfg} {call : Nat → List A → St → Option (V × St)} {ops : Array Oper} {es : List Ent} {fT : Nat → Tm} {fS : Nat → St} {fU : Nat → V} {fW : Nat → Bool} {all : Seen}

/-- Number k of the order is carried out, and is of this kind. -/
def IsK (es : List Ent) (fW : Nat → Bool) (K : Kind) (k : Nat) : Prop := ∃ x, es[k]? = some x ∧ x.io.op.kind = K ∧ fW k = true
def Dn (es : List Ent) (listed : Array Bool) (k : Nat) : Prop := ∃ x, es[k]? = some x ∧ listed.getD x.q false = true

theorem same_some {s s' : St} {v : V} : ∀ {r : Option V}, same s r = some (v, s') → r = some v ∧ s' = s
  | some u, h => by
    have : some (u, s) = some (v, s') := h
    simp only [Option.some.injEq, Prod.mk.injEq] at this
    exact ⟨by rw [this.1], this.2.symm⟩
  | none, h => by cases h
theorem tr_quiet (ht : Trace cfg call (es.map (·.io)) (againOf es) [] fT fS fU fW all) {k : Nat} {x : Ent} (hx : es[k]? = some x) (h1 : ¬ IsK es fW .effect k) (h2 : ¬ IsK es fW .alloc k) : fS (k + 1) = fS k := by
  have hl : (es.map (·.io))[k]? = some x.io := by simp [hx]
  cases hw : fW k
  · exact (ht.off k _ hl hw).2
  · have hr := ht.run k _ hl hw
    unfold IOp.run at hr
    cases hk : x.io.op.kind with
    | effect => exact absurd ⟨x, hx, hk, hw⟩ h1
    | alloc => exact absurd ⟨x, hx, hk, hw⟩ h2
    | pure => rw [hk] at hr; exact (same_some hr).2
    | read => rw [hk] at hr; exact (same_some hr).2
theorem tr_val (ht : Trace cfg call (es.map (·.io)) (againOf es) [] fT fS fU fW all) {k : Nat} {x : Ent} (hx : es[k]? = some x) (hw : fW k = true) (hk : x.io.op.kind = .pure ∨ x.io.op.kind = .read) : x.io.op.val (fT k) (fS k) = some (fU k) := by
  have hl : (es.map (·.io))[k]? = some x.io := by simp [hx]
  have hr := ht.run k _ hl hw
  unfold IOp.run at hr
  rcases hk with hk | hk <;> (rw [hk] at hr; exact (same_some hr).1)
theorem tr_eff (ht : Trace cfg call (es.map (·.io)) (againOf es) [] fT fS fU fW all) {k : Nat} {x : Ent} (hx : es[k]? = some x) (hw : fW k = true) (hk : x.io.op.kind = .alloc ∨ x.io.op.kind = .effect) : x.io.op.eff cfg call (fT k) (fS k) = some (fU k, fS (k + 1)) := by
  have hl : (es.map (·.io))[k]? = some x.io := by simp [hx]
  have hr := ht.run k _ hl hw
  unfold IOp.run at hr
  rcases hk with hk | hk <;> (rw [hk] at hr; exact hr)
theorem tr_alloc (ht : Trace cfg call (es.map (·.io)) (againOf es) [] fT fS fU fW all) {k : Nat} (h : IsK es fW .alloc k) : ∃ o, fS (k + 1) = (fS k).new o := by
  obtain ⟨x, hx, hk, hw⟩ := h
  obtain ⟨o, ho, _⟩ := alloc_new hk (tr_eff ht hx hw (.inl hk))
  exact ⟨o, ho⟩
theorem tr_nx1 (hup : CallUp call) (ht : Trace cfg call (es.map (·.io)) (againOf es) [] fT fS fU fW all) {k : Nat} (hk : k < es.length) : (fS k).nx ≤ (fS (k + 1)).nx := by
  have hx : es[k]? = some es[k] := by simp [hk]
  have hl : (es.map (·.io))[k]? = some es[k].io := by simp [hx]
  cases hw : fW k
  · rw [(ht.off k _ hl hw).2]; exact Nat.le_refl _
  · exact run_nx hup (ht.run k _ hl hw)
theorem tr_nx (hup : CallUp call) (ht : Trace cfg call (es.map (·.io)) (againOf es) [] fT fS fU fW all) {i : Nat} : ∀ {j : Nat}, i ≤ j → j ≤ es.length → (fS i).nx ≤ (fS j).nx
  | 0, h, _ => by rw [show i = 0 by omega]; exact Nat.le_refl _
  | j + 1, h, hj => by
    rcases Nat.lt_or_ge j i with h' | h'
    · rw [show i = j + 1 by omega]; exact Nat.le_refl _
    · exact Nat.le_trans (tr_nx hup ht h' (by omega)) (tr_nx1 hup ht (by omega))
theorem isK_lt {K : Kind} {k : Nat} (h : IsK es fW K k) : k < es.length := by
  obtain ⟨x, hx, _⟩ := h
  exact (List.getElem?_eq_some_iff.1 hx).1
theorem tr_nx_alloc (hup : CallUp call) (ht : Trace cfg call (es.map (·.io)) (againOf es) [] fT fS fU fW all) {i j : Nat} (h : IsK es fW .alloc i) (hij : i < j) (hj : j ≤ es.length) : (fS i).nx < (fS j).nx := by
  obtain ⟨o, ho⟩ := tr_alloc ht h
  have := tr_nx hup ht (i := i + 1) (j := j) (by omega) hj
  rw [ho] at this
  simp at this
  omega

/-- What is there, with these done: what the state behind the last effect holds; what has been made since. -/
def Here (es : List Ent) (fS : Nat → St) (fW : Nat → Bool) (listed : Array Bool) (e : Nat) (b : Nat) (o : Obj) : Prop :=
  (fS e).get b = some o ∨ ∃ j, e ≤ j ∧ Dn es listed j ∧ IsK es fW .alloc j ∧ b = (fS j).nx ∧ fS (j + 1) = (fS j).new o

def Slot (es : List Ent) (fT : Nat → Tm) (fU : Nat → V) (listed : Array Bool) (p : Pos) (v : V) : Prop :=
  (∃ (j : Nat) (x : Ent), es[j]? = some x ∧ listed.getD x.q false = true ∧ x.io.dst = some p ∧ v = fU j ∧ ∀ (i : Nat) (y : Ent), j < i → es[i]? = some y → listed.getD y.q false = true → y.io.dst ≠ some p) ∨
  ((∀ (i : Nat) (y : Ent), es[i]? = some y → listed.getD y.q false = true → y.io.dst ≠ some p) ∧ (fT 0).get p = some v)

structure DInv (nt : Nat) (ops : Array Oper) (es : List Ent) (fT : Nat → Tm) (fS : Nat → St) (fU : Nat → V) (fW : Nat → Bool) (E0 : Env) (w0 : World) (a0 : Act) (listed : Array Bool) (e : Nat) (E : Env) (w : World) (a : Act) : Prop where
  closed : Closed ops listed
  lsz : listed.size = ops.size
  asz : a.tmps.size = nt
  slot : ∀ p v, Slot es fT fU listed p v → p.toNat < nt ∧ VRel E v (a.tmps.getD p.toNat undef)
  dfr : a.defers = a0.defers
  ele : e ≤ es.length
  last : e = 0 ∨ ∃ d, e = d + 1 ∧ Dn es listed d ∧ IsK es fW .effect d
  effs : ∀ k, Dn es listed k → IsK es fW .effect k → k < e
  befe : ∀ k, k < e → IsK es fW .effect k ∨ IsK es fW .alloc k → Dn es listed k
  obj : ∀ b o, Here es fS fW listed e b o → ∃ L, E.loc b = some L ∧ ORel E w L o
  inj : ∀ b b' o o' L L', Here es fS fW listed e b o → Here es fS fW listed e b' o' → E.loc b = some L → E.loc b' = some L' → L.blk = L'.blk → b = b'
  locs : ∀ b, (fS e).nx ≤ b → b < (fS es.length).nx → E.loc b ≠ none → ∃ j, e ≤ j ∧ Dn es listed j ∧ IsK es fW .alloc j ∧ b = (fS j).nx
  none : ∀ b, (fS e).nx ≤ b → b < (fS es.length).nx → (fS e).get b = none
  out : ∀ b, b < (fS 0).nx ∨ (fS es.length).nx ≤ b → E.loc b = E0.loc b
  sym : E.sym = E0.sym
  live : ∀ b o L, Here es fS fW listed e b o → E.loc b = some L → w0.heap.size ≤ L.blk ∨ Live E0 (fS 0) L.blk
  frame : ∀ m, m < w0.heap.size → ¬ Live E0 (fS 0) m → w.heap[m]? = w0.heap[m]?
  size : w0.heap.size ≤ w.heap.size
  os : w.os = w0.os
  output : w.output = w0.output
  tape : w.tape = w0.tape
  re : (fS e).r = (fS 0).r
  ro : RoOk E0 (fS 0) w0
  fr : Fresh E0 (fS 0).nx (fS es.length).nx

variable {E0 E : Env} {w0 w : World} {a0 a : Act} {listed : Array Bool} {e : Nat}

theorem DInv.le (hi : DInv nt ops es fT fS fU fW E0 w0 a0 listed e E w a) : E0.Le E := by
  refine ⟨fun b L hb => ?_, hi.sym⟩
  by_cases h : (fS 0).nx ≤ b ∧ b < (fS es.length).nx
  · rw [hi.fr b h.1 h.2] at hb; cases hb
  · rw [hi.out b (by omega)]; exact hb
theorem DInv.mkRel (hi : DInv nt ops es fT fS fU fW E0 w0 a0 listed e E w a) {s : St} (hs : ∀ {b o}, s.get b = some o → Here es fS fW listed e b o) (hr : s.r = (fS 0).r) : Rel E s w := by
  refine ⟨⟨fun b o hb => hi.obj b o (hs hb), fun b b' o o' L L' hb hb' => hi.inj b b' o o' L L' (hs hb) (hs hb')⟩, fun b x hb => ?_⟩
  have hb : (fS 0).getR b = some x := by unfold St.getR at *; rw [← hr]; exact hb
  obtain ⟨L, hL, hl, hx⟩ := hi.ro b x hb
  refine ⟨L, hi.le.1 _ _ hL, fun ⟨b', o', L', h1, h2, h3⟩ => ?_, (hx.mono hi.le).same (hi.frame _ hx.lt hl)⟩
  rcases hi.live b' o' L' (hs h1) h2 with h4 | h4
  · have := hx.lt; omega
  · rw [h3] at h4; exact hl h4
theorem tr_r (ht : Trace cfg call (es.map (·.io)) (againOf es) [] fT fS fU fW all) : ∀ {k : Nat}, e ≤ k → k ≤ es.length → (∀ j, e ≤ j → j < k → ¬ IsK es fW .effect j) → (fS k).r = (fS e).r
  | 0, h, _, _ => by rw [show e = 0 by omega]
  | k + 1, h, hk, hn => by
    by_cases he : e = k + 1
    · rw [he]
    · rw [← tr_r ht (k := k) (by omega) (by omega) fun j h1 h2 => hn j h1 (by omega)]
      by_cases ha : IsK es fW .alloc k
      · obtain ⟨o, ho⟩ := tr_alloc ht ha
        rw [ho]; rfl
      · rw [tr_quiet ht (show es[k]? = some es[k] by simp [show k < es.length by omega]) (hn k (by omega) (by omega)) ha]

theorem dn_set (hD : DrawOk P nt ops es) {k : Nat} {x : Ent} (hx : es[k]? = some x) {j : Nat} (h : Dn es (listed.setIfInBounds x.q true) j) : Dn es listed j ∨ j = k := by
  obtain ⟨y, hy, h⟩ := h
  by_cases hq : x.q = y.q
  · refine .inr ?_
    rcases Nat.lt_trichotomy j k with h' | h' | h'
    · exact absurd hq.symm (hD.inj j k y x h' hy hx)
    · exact h'
    · exact absurd hq (hD.inj k j x y h' hx hy)
  · rw [getD_set_ne false hq] at h
    exact .inl ⟨y, hy, h⟩
theorem dn_mono {q : Nat} {j : Nat} (h : Dn es listed j) : Dn es (listed.setIfInBounds q true) j := by
  obtain ⟨y, hy, h⟩ := h
  exact ⟨y, hy, getD_set_true h⟩

/-- Number k may come up. -/
structure Up (ops : Array Oper) (es : List Ent) (listed : Array Bool) (k : Nat) (x : Ent) : Prop where
  ent : es[k]? = some x
  ready : x.q ∈ Region.ready .any ops listed
theorem Up.undone {k : Nat} {x : Ent} (h : Up ops es listed k x) : listed.getD x.q false = false := by
  have := (mem_ready.1 h.ready).1
  rcases Nat.lt_or_ge x.q listed.size with h' | h'
  · simpa [h'] using this
  · simp [Array.getElem?_eq_none h'] at this
theorem Up.not {k : Nat} {x : Ent} (h : Up ops es listed k x) : ¬ Dn es listed k := fun ⟨y, hy, hd⟩ => by
  rw [h.ent] at hy; cases hy; rw [h.undone] at hd; cases hd
theorem Up.lt {k : Nat} {x : Ent} (h : Up ops es listed k x) (hl : listed.size = ops.size) : x.q < listed.size := by
  have := (mem_ready.1 h.ready).1
  rcases Nat.lt_or_ge x.q listed.size with h' | h'
  · exact h'
  · simp [Array.getElem?_eq_none h'] at this
/-- What stands ahead of it and is not done is apart from it. -/
theorem Up.ahead (hD : DrawOk P nt ops es) (hc : Closed ops listed) {k : Nat} {x : Ent} (h : Up ops es listed k x) {i : Nat} {y : Ent} (hy : es[i]? = some y) (hik : i < k) : listed.getD y.q false = true ∨
    ((∀ p, y.io.dst = some p → p ∉ x.io.looks ∧ x.io.dst ≠ some p) ∧ (∀ p, x.io.dst = some p → p ∉ y.io.looks) ∧ kindsOk y.io.op.kind x.io.op.kind = true) := by
  rcases hD.pair i k y x hik hy h.ent with hb | hb
  · obtain ⟨o, ho, _, _, hbb, _⟩ := hD.ent k x h.ent
    rw [hbb] at hb
    exact .inl (ready_waits hc h.ready hb)
  · exact .inr hb
/-- What stands behind it and is done is apart from it. -/
theorem Up.behind (hD : DrawOk P nt ops es) (hc : Closed ops listed) {k : Nat} {x : Ent} (h : Up ops es listed k x) {i : Nat} {y : Ent} (hy : es[i]? = some y) (hik : k < i) (hd : listed.getD y.q false = true) :
    y.b.testBit x.q = false ∧ (∀ p, x.io.dst = some p → p ∉ y.io.looks ∧ y.io.dst ≠ some p) ∧ (∀ p, y.io.dst = some p → p ∉ x.io.looks) ∧ kindsOk x.io.op.kind y.io.op.kind = true := by
  have hn : y.b.testBit x.q = false := by
    cases hb : y.b.testBit x.q
    · rfl
    · obtain ⟨o, ho, _, _, hbb, _⟩ := hD.ent i y hy
      rw [hbb] at hb
      have := hc _ _ hd hb
      rw [h.undone] at this; cases this
  rcases hD.pair k i x y hik h.ent hy with hb | hb
  · rw [hn] at hb; cases hb
  · exact ⟨hn, hb⟩

theorem slot_step (hD : DrawOk P nt ops es) (hc : Closed ops listed) {k : Nat} {x : Ent} (h : Up ops es listed k x) (hl : listed.size = ops.size) {p : Pos} {v : V} (hs : Slot es fT fU (listed.setIfInBounds x.q true) p v) :
    (x.io.dst = some p ∧ v = fU k) ∨ (x.io.dst ≠ some p ∧ Slot es fT fU listed p v) := by
  have hxd : (listed.setIfInBounds x.q true).getD x.q false = true := by simp [h.lt hl]
  rcases hs with ⟨j, y, hy, hd, hp, hv, hn⟩ | ⟨hn, h0⟩
  · rcases dn_set hD h.ent ⟨y, hy, hd⟩ with ⟨y', hy', hd'⟩ | rfl
    · rw [hy] at hy'; cases hy'
      have hxp : x.io.dst ≠ some p := fun hxp => by
        rcases Nat.lt_trichotomy j k with h' | h' | h'
        · exact hn k x h' h.ent hxd hxp
        · subst h'; rw [h.ent] at hy; cases hy; rw [h.undone] at hd'; cases hd'
        · exact ((h.behind hD hc hy h' hd').2.1 p hxp).2 hp
      exact .inr ⟨hxp, .inl ⟨j, y, hy, hd', hp, hv, fun i z hi hz hdz => hn i z hi hz (getD_set_true hdz)⟩⟩
    · rw [h.ent] at hy; cases hy
      exact .inl ⟨hp, hv⟩
  · exact .inr ⟨hn k x h.ent hxd, .inr ⟨fun i y hy hd => hn i y hy (getD_set_true hd), h0⟩⟩

/-- The slots that it looks at. -/
theorem up_trel (hD : DrawOk P nt ops es) (ht : Trace cfg call (es.map (·.io)) (againOf es) [] fT fS fU fW all) (hi : DInv nt ops es fT fS fU fW E0 w0 a0 listed e E w a) {k : Nat} {x : Ent} (h : Up ops es listed k x) :
    TRel E nt (restr (fT k) x.io.looks) a := by
  refine ⟨hi.asz, fun p v hp => hi.slot p v ?_⟩
  obtain ⟨hm, hp⟩ := restr_some hp
  have hk : k ≤ (es.map (·.io)).length := by
    have := (List.getElem?_eq_some_iff.1 h.ent).1
    simp; omega
  have behind : ∀ (i : Nat) (y : Ent), k ≤ i → es[i]? = some y → listed.getD y.q false = true → y.io.dst ≠ some p := fun i y hki hy hd hdp => by
    rcases Nat.lt_or_ge k i with h' | h'
    · exact (h.behind hD hi.closed hy h' hd).2.2.1 p hdp hm
    · have : i = k := by omega
      subst this
      rw [h.ent] at hy; cases hy; rw [h.undone] at hd; cases hd
  rcases trace_slot ht hk hp with ⟨j, o, hj, ho, hdp, hv, hn⟩ | ⟨hn, h0⟩
  · obtain ⟨y, hy, rfl⟩ : ∃ y, es[j]? = some y ∧ y.io = o := by simpa [List.getElem?_map] using ho
    have hd : listed.getD y.q false = true := by
      rcases h.ahead hD hi.closed hy hj with h' | h'
      · exact h'
      · exact absurd hm (h'.1 p hdp).1
    refine .inl ⟨j, y, hy, hd, hdp, hv, fun i z hji hz hdz => ?_⟩
    rcases Nat.lt_or_ge i k with h' | h'
    · exact hn i z.io hji h' (by simp [hz])
    · exact behind i z h' hz hdz
  · refine .inr ⟨fun i z hz hdz => ?_, h0⟩
    rcases Nat.lt_or_ge i k with h' | h'
    · exact hn i z.io h' (by simp [hz])
    · exact behind i z h' hz hdz

theorem DInv.e_le (hD : DrawOk P nt ops es) (hi : DInv nt ops es fT fS fU fW E0 w0 a0 listed e E w a) {k : Nat} {x : Ent} (h : Up ops es listed k x) (hk : IsK es fW .effect k ∨ IsK es fW .alloc k) : e ≤ k := by
  rcases Nat.lt_or_ge k e with h' | h'
  · exact absurd (hi.befe k h' hk) h.not
  · exact h'

/-- The state ahead of number k is there, if nothing ahead of it is left to do that turns memory. -/
theorem absorb (ht : Trace cfg call (es.map (·.io)) (againOf es) [] fT fS fU fW all) : ∀ {k : Nat}, e ≤ k → k ≤ es.length → (∀ j, e ≤ j → j < k → ¬ IsK es fW .effect j) → (∀ j, e ≤ j → j < k → IsK es fW .alloc j → Dn es listed j) →
    ∀ {b : Nat} {o : Obj}, (fS k).get b = some o → (fS e).get b = some o ∨ ∃ j, e ≤ j ∧ j < k ∧ Dn es listed j ∧ IsK es fW .alloc j ∧ b = (fS j).nx ∧ fS (j + 1) = (fS j).new o
  | 0, hek, _, _, _, b, o, h => by
    have : e = 0 := by omega
    subst this; exact .inl h
  | k + 1, hek, hk, he, ha, b, o, h => by
    rcases Nat.lt_or_ge k e with h' | h'
    · have : e = k + 1 := by omega
      subst this; exact .inl h
    · have ih := absorb ht (k := k) h' (by omega) (fun j h1 h2 => he j h1 (by omega)) (fun j h1 h2 => ha j h1 (by omega)) (b := b) (o := o)
      have ih' : (fS k).get b = some o → (fS e).get b = some o ∨ ∃ j, e ≤ j ∧ j < k + 1 ∧ Dn es listed j ∧ IsK es fW .alloc j ∧ b = (fS j).nx ∧ fS (j + 1) = (fS j).new o := fun hg => by
        rcases ih hg with h1 | ⟨j, h1, h2, h3⟩
        · exact .inl h1
        · exact .inr ⟨j, h1, by omega, h3⟩
      have hx : es[k]? = some es[k] := by simp
      by_cases hal : IsK es fW .alloc k
      · obtain ⟨o', ho'⟩ := tr_alloc ht hal
        rw [ho', St.get_new] at h
        by_cases hb : (fS k).nx = b
        · rw [if_pos hb] at h; cases h
          exact .inr ⟨k, h', by omega, ha k h' (by omega) hal, hal, hb.symm, ho'⟩
        · rw [if_neg hb] at h; exact ih' h
      · rw [tr_quiet ht hx (he k h' (by omega)) hal] at h
        exact ih' h
end
end Go.AX

namespace Go.AX
open Go

section
variable {P : Program} {nt : Nat} {cfg : Cfg} {call : Nat → List A → St → Option (V × St)} {ops : Array Oper} {es : List Ent} {fT : Nat → Tm} {fS : Nat → St} {fU : Nat → V} {fW : Nat → Bool} {all : Seen}
variable {E0 E E' : Env} {w0 w w' : World} {a0 a : Act} {listed : Array Bool} {e : Nat}

theorem slot_put (hD : DrawOk P nt ops es) (hi : DInv nt ops es fT fS fU fW E0 w0 a0 listed e E w a) {k : Nat} {x : Ent} (h : Up ops es listed k x) {o : Oper}
    (hd : (o.dst = none ∧ x.io.dst = none) ∨ ∃ t, o.dst = some t ∧ x.io.dst = some (.ofNat t) ∧ t < nt) (hle : E.Le E') {u : Value} (hu : VRel E' (fU k) u) :
    ∀ p v, Slot es fT fU (listed.setIfInBounds x.q true) p v → p.toNat < nt ∧ VRel E' v ((a.put o.dst u).tmps.getD p.toNat undef) := by
  intro p v hs
  rcases slot_step hD hi.closed h hi.lsz hs with ⟨hp, rfl⟩ | ⟨hp, hs⟩
  · rcases hd with ⟨_, h2⟩ | ⟨t, h1, h2, h3⟩
    · rw [h2] at hp; cases hp
    · rw [h2] at hp; cases hp
      rw [h1]
      refine ⟨by simpa using h3, ?_⟩
      simp only [Act.put, Pos.toNat_ofNat, Array.getD_eq_getD_getElem?]
      rw [Array.getElem?_setIfInBounds_self_of_lt (by rw [hi.asz]; exact h3)]
      exact hu
  · obtain ⟨g1, g2⟩ := hi.slot p v hs
    refine ⟨g1, ?_⟩
    rcases hd with ⟨h1, _⟩ | ⟨t, h1, h2, h3⟩
    · rw [h1]; exact g2.mono hle
    · rw [h1]
      have : t ≠ p.toNat := fun e => hp (by rw [h2, e, Pos.ofNat_toNat])
      simp only [Act.put, Array.getD_eq_getD_getElem?]
      rw [Array.getElem?_setIfInBounds_ne this]
      have := g2.mono hle
      simpa [Array.getD_eq_getD_getElem?] using this

theorem put_asz (hz : a.tmps.size = nt) {d : Option Tmp} {u : Value} : (a.put d u).tmps.size = nt := by cases d <;> simp [Act.put, hz]
theorem put_dfr {d : Option Tmp} {u : Value} : (a.put d u).defers = a.defers := by cases d <;> rfl

theorem dn_self {k : Nat} {x : Ent} (h : Up ops es listed k x) (hl : listed.size = ops.size) : Dn es (listed.setIfInBounds x.q true) k := ⟨x, h.ent, by simp [h.lt hl]⟩

/-- An operation that turns no memory. -/
theorem quiet_step (hD : DrawOk P nt ops es) (hi : DInv nt ops es fT fS fU fW E0 w0 a0 listed e E w a) {k : Nat} {x : Ent} (h : Up ops es listed k x) {o : Oper}
    (hd : (o.dst = none ∧ x.io.dst = none) ∨ ∃ t, o.dst = some t ∧ x.io.dst = some (.ofNat t) ∧ t < nt) (h1 : ¬ IsK es fW .effect k) (h2 : ¬ IsK es fW .alloc k) {u : Value} (hu : VRel E (fU k) u) :
    DInv nt ops es fT fS fU fW E0 w0 a0 (listed.setIfInBounds x.q true) e E w (a.put o.dst u) := by
  have hH : ∀ {b o}, Here es fS fW (listed.setIfInBounds x.q true) e b o → Here es fS fW listed e b o := fun hb => by
    rcases hb with hb | ⟨j, g1, g2, g3, g4⟩
    · exact .inl hb
    · rcases dn_set hD h.ent g2 with g2 | rfl
      · exact .inr ⟨j, g1, g2, g3, g4⟩
      · exact absurd g3 h2
  refine {
    closed := closed_step hi.closed h.ready, lsz := by simp [hi.lsz], asz := put_asz hi.asz, slot := slot_put hD hi h hd (Env.Le.refl E) hu, dfr := put_dfr.trans hi.dfr, ele := hi.ele, last := ?_, effs := fun j hj hk => ?_,
    befe := fun j hj hk => dn_mono (hi.befe j hj hk), obj := fun b o hb => hi.obj b o (hH hb), inj := fun b b' o o' L L' hb hb' => hi.inj b b' o o' L L' (hH hb) (hH hb'), locs := fun b g1 g2 g3 => ?_, none := hi.none, out := hi.out, sym := hi.sym,
    live := fun b o L hb => hi.live b o L (hH hb), frame := hi.frame, size := hi.size, os := hi.os, output := hi.output, tape := hi.tape, re := hi.re, ro := hi.ro, fr := hi.fr }
  · rcases hi.last with g | ⟨d, g1, g2, g3⟩
    · exact .inl g
    · exact .inr ⟨d, g1, dn_mono g2, g3⟩
  · rcases dn_set hD h.ent hj with hj | rfl
    · exact hi.effs j hj hk
    · exact absurd hk h1
  · obtain ⟨j, q1, q2, q3⟩ := hi.locs b g1 g2 g3
    exact ⟨j, q1, dn_mono q2, q3⟩

theorem St.new_inj {s : St} {o o' : Obj} (h : s.new o = s.new o') : o = o' := by
  have := congrArg (fun t => t.get s.nx) h
  simp only [St.get_new, if_true, Option.some.injEq] at this
  exact this

/-- What makes new memory. -/
theorem alloc_step (hup : CallUp call) (hD : DrawOk P nt ops es) (ht : Trace cfg call (es.map (·.io)) (againOf es) [] fT fS fU fW all) (hi : DInv nt ops es fT fS fU fW E0 w0 a0 listed e E w a) {k : Nat} {x : Ent} (h : Up ops es listed k x) {o : Oper}
    (hd : (o.dst = none ∧ x.io.dst = none) ∨ ∃ t, o.dst = some t ∧ x.io.dst = some (.ofNat t) ∧ t < nt) (hc : cOp P nt o.op = some x.io.op) (hG : GOk P E) (hk : x.io.op.kind = .alloc) (hw : fW k = true) :
    ∃ y w1 E1, (execOp a.eval o).run P w = .ok (.value y) w1 ∧ DInv nt ops es fT fS fU fW E0 w0 a0 (listed.setIfInBounds x.q true) e E1 w1 (a.put o.dst y) := by
  have hK : IsK es fW .alloc k := ⟨x, h.ent, hk, hw⟩
  have hkn : k < es.length := isK_lt hK
  have hek : e ≤ k := hi.e_le hD h (.inr hK)
  have heff := tr_eff ht h.ent hw (.inl hk)
  rw [← eff_congr (fun y hy => restr_ev (t := fT k) (o := x.io) hy)] at heff
  obtain ⟨o', ho', hev⟩ := alloc_new hk heff
  have hev := hev (St.zero (fS k).nx) rfl
  have hg2 : ∀ b, St.get (St.zero (fS k).nx) b = none := fun b => T.get_e _
  have hr2 : Rel E (St.zero (fS k).nx) w := Rel.zero _ _ _
  have hn1 : (fS (k + 1)).nx = (fS k).nx + 1 := by rw [ho']; rfl
  have hlo : (fS e).nx ≤ (fS k).nx := tr_nx hup ht hek (by omega)
  have hlo0 : (fS 0).nx ≤ (fS k).nx := tr_nx hup ht (Nat.zero_le _) (by omega)
  have hhi : (fS k).nx < (fS es.length).nx := tr_nx_alloc hup ht hK hkn (Nat.le_refl _)
  have hfl : E.loc (fS k).nx = none := by
    cases hl : E.loc (fS k).nx with
    | none => rfl
    | some L =>
      obtain ⟨j, _, g2, g3, g4⟩ := hi.locs _ hlo hhi (by rw [hl]; simp)
      rcases Nat.lt_trichotomy j k with h' | h' | h'
      · have := tr_nx_alloc hup ht g3 h' (by omega); omega
      · subst h'; exact absurd g2 h.not
      · have := tr_nx_alloc hup ht hK h' (Nat.le_of_lt (isK_lt g3)); omega
  obtain ⟨y, w1, room, hrun, hv, hst⟩ := alloc_sound cfg call hr2 hG (up_trel hD ht hi h) hc hk hev hfl
  have hle : E.Le (E.add (fS k).nx ⟨w.heap.size, 0, room⟩) := Env.le_add hfl
  have hnew : (E.add (fS k).nx ⟨w.heap.size, 0, room⟩).loc (fS k).nx = some ⟨w.heap.size, 0, room⟩ := by simp [Env.add]
  have hold : ∀ b, b ≠ (fS k).nx → (E.add (fS k).nx ⟨w.heap.size, 0, room⟩).loc b = E.loc b := fun b hb => by simp [Env.add, hb]
  have hheap : ∀ m, m < w.heap.size → w1.heap[m]? = w.heap[m]? := fun m hm => hst.frame m hm fun ⟨b, o, L, hb, _⟩ => by rw [hg2] at hb; cases hb
  have hH : ∀ {b o}, Here es fS fW (listed.setIfInBounds x.q true) e b o → Here es fS fW listed e b o ∨ (b = (fS k).nx ∧ o = o') := fun hb => by
    rcases hb with hb | ⟨j, g1, g2, g3, g4, g5⟩
    · exact .inl (.inl hb)
    · rcases dn_set hD h.ent g2 with g2 | rfl
      · exact .inl (.inr ⟨j, g1, g2, g3, g4, g5⟩)
      · exact .inr ⟨g4, St.new_inj (g5.symm.trans ho')⟩
  have hne : ∀ {b o}, Here es fS fW listed e b o → b ≠ (fS k).nx := fun hb e => by
    obtain ⟨L, hL, _⟩ := hi.obj _ _ hb
    rw [e, hfl] at hL; cases hL
  refine ⟨y, w1, _, hrun, {
    closed := closed_step hi.closed h.ready, lsz := by simp [hi.lsz], asz := put_asz hi.asz, slot := slot_put hD hi h hd hle hv, dfr := put_dfr.trans hi.dfr, ele := hi.ele, last := ?_, effs := fun j hj hk' => ?_,
    befe := fun j hj hk => dn_mono (hi.befe j hj hk), obj := fun b o hb => ?_, inj := fun b b' o o' L L' hb hb' hL hL' hbk => ?_, locs := fun b g1 g2 g3 => ?_, none := hi.none, out := fun b hb => ?_, sym := hi.sym,
    live := fun b o L hb hL => ?_, frame := fun m hm hn => ?_, size := Nat.le_trans hi.size hst.size, os := hst.os.trans hi.os, output := hst.output.trans hi.output, tape := hst.tape.trans hi.tape, re := hi.re, ro := hi.ro, fr := hi.fr }⟩
  · rcases hi.last with g | ⟨d, g1, g2, g3⟩
    · exact .inl g
    · exact .inr ⟨d, g1, dn_mono g2, g3⟩
  · rcases dn_set hD h.ent hj with hj | rfl
    · exact hi.effs j hj hk'
    · obtain ⟨x', hx', hkx, _⟩ := hk'
      rw [h.ent] at hx'; cases hx'
      rw [hk] at hkx; cases hkx
  · rcases hH hb with hb | ⟨rfl, rfl⟩
    · obtain ⟨L, hL, ho⟩ := hi.obj b o hb
      exact ⟨L, hle.1 b L hL, (ho.mono hle).same (hheap _ ho.lt)⟩
    · exact hst.rel.obj _ _ (by rw [St.get_new, if_pos rfl])
  · rcases hH hb with hb | ⟨rfl, rfl⟩ <;> rcases hH hb' with hb' | ⟨rfl, rfl⟩
    · rw [hold _ (hne hb)] at hL
      rw [hold _ (hne hb')] at hL'
      exact hi.inj b b' o o' L L' hb hb' hL hL' hbk
    · rw [hold _ (hne hb)] at hL
      rw [hnew] at hL'; cases hL'
      obtain ⟨L2, hL2, ho⟩ := hi.obj _ _ hb
      rw [hL] at hL2; cases hL2
      have := ho.lt
      simp only at hbk
      omega
    · rw [hold _ (hne hb')] at hL'
      rw [hnew] at hL; cases hL
      obtain ⟨L2, hL2, ho⟩ := hi.obj _ _ hb'
      rw [hL'] at hL2; cases hL2
      have := ho.lt
      simp only at hbk
      omega
    · rfl
  · by_cases hb : b = (fS k).nx
    · exact ⟨k, hek, dn_self h hi.lsz, hK, hb⟩
    · rw [hold b hb] at g3
      obtain ⟨j, q1, q2, q3⟩ := hi.locs b g1 g2 g3
      exact ⟨j, q1, dn_mono q2, q3⟩
  · rw [hold b (by omega)]
    exact hi.out b hb
  · rcases hH hb with hb | ⟨rfl, rfl⟩
    · rw [hold _ (hne hb)] at hL
      exact hi.live b o L hb hL
    · rw [hnew] at hL; cases hL
      exact .inl hi.size
  · rw [hheap m (by have := hi.size; omega)]
    exact hi.frame m hm hn

/-- Before what turns memory, all is done that turns memory and stands ahead of it. -/
theorem up_ahead (hD : DrawOk P nt ops es) (hi : DInv nt ops es fT fS fU fW E0 w0 a0 listed e E w a) {k : Nat} {x : Ent} (h : Up ops es listed k x) (hk : x.io.op.kind = .effect ∨ x.io.op.kind = .read) {j : Nat} (hj : j < k) (hK : IsK es fW .effect j ∨ IsK es fW .alloc j) : Dn es listed j := by
  have : ∃ y, es[j]? = some y ∧ (y.io.op.kind = .effect ∨ y.io.op.kind = .alloc) := by
    rcases hK with ⟨y, hy, hk, _⟩ | ⟨y, hy, hk, _⟩
    · exact ⟨y, hy, .inl hk⟩
    · exact ⟨y, hy, .inr hk⟩
  obtain ⟨y, hy, hky⟩ := this
  rcases h.ahead hD hi.closed hy hj with g | ⟨_, _, g⟩
  · exact ⟨y, hy, g⟩
  · rcases hky with hky | hky <;> rcases hk with hk | hk <;> (rw [hky, hk] at g; simp [kindsOk] at g)

/-- What turns memory. -/
theorem effect_step (hup : CallUp call) (hD : DrawOk P nt ops es) (ht : Trace cfg call (es.map (·.io)) (againOf es) [] fT fS fU fW all) (hi : DInv nt ops es fT fS fU fW E0 w0 a0 listed e E w a) {k : Nat} {x : Ent} (h : Up ops es listed k x)
    (hk : x.io.op.kind = .effect) (hw : fW k = true) :
    Rel E (fS k) w ∧ Fresh E (fS k).nx (fS (k + 1)).nx ∧ ∀ {o : Oper} {E1 w1 y}, ((o.dst = none ∧ x.io.dst = none) ∨ ∃ t, o.dst = some t ∧ x.io.dst = some (.ofNat t) ∧ t < nt) → VRel E1 (fU k) y → Step E (fS k) w E1 (fS (k + 1)) w1 →
      DInv nt ops es fT fS fU fW E0 w0 a0 (listed.setIfInBounds x.q true) (k + 1) E1 w1 (a.put o.dst y) := by
  have hK : IsK es fW .effect k := ⟨x, h.ent, hk, hw⟩
  have hkn : k < es.length := isK_lt hK
  have hek : e ≤ k := hi.e_le hD h (.inl hK)
  have hlo : (fS e).nx ≤ (fS k).nx := tr_nx hup ht hek (by omega)
  have hlo0 : (fS 0).nx ≤ (fS k).nx := tr_nx hup ht (Nat.zero_le _) (by omega)
  have hk1 : (fS k).nx ≤ (fS (k + 1)).nx := tr_nx1 hup ht hkn
  have hhi : (fS (k + 1)).nx ≤ (fS es.length).nx := tr_nx hup ht (by omega) (Nat.le_refl _)
  have hab : ∀ {b : Nat} {o : Obj}, (fS k).get b = some o → (fS e).get b = some o ∨ ∃ j, e ≤ j ∧ j < k ∧ Dn es listed j ∧ IsK es fW .alloc j ∧ b = (fS j).nx ∧ fS (j + 1) = (fS j).new o :=
    fun hb => absorb ht hek (by omega) (fun j h1 h2 hj => by have := hi.effs j (up_ahead hD hi h (.inl hk) h2 (.inl hj)) hj; omega) (fun j h1 h2 hj => up_ahead hD hi h (.inl hk) h2 (.inr hj)) hb
  have hHk : ∀ {b : Nat} {o : Obj}, (fS k).get b = some o → Here es fS fW listed e b o := fun hb => by
    rcases hab hb with g | ⟨j, g1, g2, g3⟩
    · exact .inl g
    · exact .inr ⟨j, g1, g3⟩
  have nonek : ∀ {b : Nat}, (fS k).nx ≤ b → b < (fS es.length).nx → (fS k).get b = none := fun {b} h1 h2 => by
    cases hb : (fS k).get b with
    | none => rfl
    | some o =>
      rcases hab hb with g | ⟨j, g1, g2, g3, g4, g5, _⟩
      · rw [hi.none b (by omega) h2] at g; cases g
      · have := tr_nx_alloc hup ht g4 g2 (by omega); omega
  have hrk : (fS k).r = (fS 0).r := (tr_r ht hek (by omega) fun j h1 h2 hj => by have := hi.effs j (up_ahead hD hi h (.inl hk) h2 (.inl hj)) hj; omega).trans hi.re
  have hrel : Rel E (fS k) w := hi.mkRel hHk hrk
  have hfl : ∀ {b}, (fS k).nx ≤ b → b < (fS es.length).nx → E.loc b ≠ none → ∃ j o, k + 1 ≤ j ∧ Dn es listed j ∧ IsK es fW .alloc j ∧ b = (fS j).nx ∧ fS (j + 1) = (fS j).new o := fun {b} h1 h2 h3 => by
    obtain ⟨j, g1, g2, g3, g4⟩ := hi.locs b (by omega) h2 h3
    obtain ⟨o, ho⟩ := tr_alloc ht g3
    refine ⟨j, o, ?_, g2, g3, g4, ho⟩
    rcases Nat.lt_trichotomy j k with h' | h' | h'
    · have := tr_nx_alloc hup ht g3 h' (by omega); omega
    · subst h'; exact absurd g2 h.not
    · omega
  have hfresh : Fresh E (fS k).nx (fS (k + 1)).nx := fun b h1 h2 => by
    cases hl : E.loc b with
    | none => rfl
    | some L =>
      obtain ⟨j, o, g1, g2, g3, g4, _⟩ := hfl h1 (by omega) (by rw [hl]; simp)
      have := tr_nx hup ht g1 (Nat.le_of_lt (isK_lt g3)); omega
  refine ⟨hrel, hfresh, fun {o E1 w1 y} hd hv hst => ?_⟩
  have hle : E.Le E1 := hst.le hfresh
  -- the floating ones
  have flo : ∀ {b o}, Here es fS fW (listed.setIfInBounds x.q true) (k + 1) b o → (fS (k + 1)).get b = some o ∨ (Here es fS fW listed e b o ∧ (fS (k + 1)).nx ≤ b ∧ b < (fS es.length).nx) := fun hb => by
    rcases hb with hb | ⟨j, g1, g2, g3, g4, g5⟩
    · exact .inl hb
    · rcases dn_set hD h.ent g2 with g2 | rfl
      · refine .inr ⟨.inr ⟨j, by omega, g2, g3, g4, g5⟩, ?_, ?_⟩
        · have := tr_nx hup ht g1 (Nat.le_of_lt (isK_lt g3)); omega
        · have := tr_nx_alloc hup ht g3 (isK_lt g3) (Nat.le_refl _); omega
      · omega
  have nlive : ∀ {b o L}, Here es fS fW listed e b o → (fS (k + 1)).nx ≤ b → b < (fS es.length).nx → E.loc b = some L → ¬ Live E (fS k) L.blk := fun {b o L} hb h1 h2 hL ⟨b2, o2, L2, g1, g2, g3⟩ => by
    have := hi.inj b2 b o2 o L2 L (hHk g1) hb g2 hL g3
    subst this
    rw [nonek (by omega) h2] at g1; cases g1
  have hout : ∀ {b}, (fS (k + 1)).nx ≤ b → E1.loc b = E.loc b := fun h1 => hst.out _ (.inr h1)
  have nlive1 : ∀ {b o L b2 o2 L2}, Here es fS fW listed e b o → (fS (k + 1)).nx ≤ b → b < (fS es.length).nx → E.loc b = some L → (fS (k + 1)).get b2 = some o2 → E1.loc b2 = some L2 → L2.blk ≠ L.blk := fun {b o L b2 o2 L2} hb h1 h2 hL g1 g2 g3 => by
    obtain ⟨L', hL', ho⟩ := hi.obj b o hb
    rw [hL] at hL'; cases hL'
    rcases hst.live L2.blk ⟨b2, o2, L2, g1, g2, rfl⟩ with h' | h'
    · have := ho.lt; omega
    · rw [g3] at h'; exact nlive hb h1 h2 hL h'
  refine {
    closed := closed_step hi.closed h.ready, lsz := by simp [hi.lsz], asz := put_asz hi.asz, slot := slot_put hD hi h hd hle hv, dfr := put_dfr.trans hi.dfr, ele := hkn, last := .inr ⟨k, rfl, dn_self h hi.lsz, hK⟩, effs := fun j hj hk' => ?_,
    befe := fun j hj hk' => ?_, obj := fun b o hb => ?_, inj := fun b b' o o' L L' hb hb' hL hL' hbk => ?_, locs := fun b g1 g2 g3 => ?_, none := fun b g1 g2 => ?_, out := fun b hb => ?_, sym := hst.sym.trans hi.sym,
    live := fun b o L hb hL => ?_, frame := fun m hm hn => ?_, size := Nat.le_trans hi.size hst.size, os := hst.os.trans hi.os, output := hst.output.trans hi.output, tape := hst.tape.trans hi.tape, re := hst.r.trans hrk, ro := hi.ro, fr := hi.fr }
  · rcases dn_set hD h.ent hj with hj | rfl
    · have := hi.effs j hj hk'; omega
    · omega
  · rcases Nat.lt_or_ge j k with h' | h'
    · exact dn_mono (up_ahead hD hi h (.inl hk) h' hk')
    · have : j = k := by omega
      subst this; exact dn_self h hi.lsz
  · rcases flo hb with hb | ⟨hb, g1, g2⟩
    · exact hst.rel.obj b o hb
    · obtain ⟨L, hL, ho⟩ := hi.obj b o hb
      exact ⟨L, hle.1 b L hL, (ho.mono hle).same (hst.frame _ ho.lt (nlive hb g1 g2 hL))⟩
  · rcases flo hb with hb | ⟨hb, g1, g2⟩ <;> rcases flo hb' with hb' | ⟨hb', g1', g2'⟩
    · exact hst.rel.inj b b' o o' L L' hb hb' hL hL' hbk
    · rw [hout g1'] at hL'
      exact absurd hbk (nlive1 hb' g1' g2' hL' hb hL)
    · rw [hout g1] at hL
      exact absurd hbk.symm (nlive1 hb g1 g2 hL hb' hL')
    · rw [hout g1] at hL
      rw [hout g1'] at hL'
      exact hi.inj b b' o o' L L' hb hb' hL hL' hbk
  · rw [hout g1] at g3
    obtain ⟨j, o, q1, q2, q3, q4, q5⟩ := hfl (by omega) g2 g3
    exact ⟨j, q1, dn_mono q2, q3, q4⟩
  · cases hb : (fS (k + 1)).get b with
    | none => rfl
    | some o2 =>
      obtain ⟨L, hL, _⟩ := hst.rel.obj b o2 hb
      have hL1 := hL
      rw [hout g1] at hL1
      obtain ⟨j, o3, q1, q2, q3, q4, q5⟩ := hfl (by omega) g2 (by rw [hL1]; simp)
      exact absurd rfl (nlive1 (o := o3) (.inr ⟨j, by omega, q2, q3, q4, q5⟩) g1 g2 hL1 hb hL)
  · rw [hst.out b (by omega)]
    exact hi.out b hb
  · rcases flo hb with hb | ⟨hb, g1, g2⟩
    · rcases hst.live L.blk ⟨b, o, L, hb, hL, rfl⟩ with h' | ⟨b2, o2, L2, q1, q2, q3⟩
      · exact .inl (Nat.le_trans hi.size h')
      · rw [← q3]; exact hi.live b2 o2 L2 (hHk q1) q2
    · rw [hout g1] at hL
      exact hi.live b o L hb hL
  · rw [hst.frame m (by have := hi.size; omega) fun ⟨b2, o2, L2, q1, q2, q3⟩ => ?_]
    · exact hi.frame m hm hn
    · rcases hi.live b2 o2 L2 (hHk q1) q2 with h' | h'
      · omega
      · rw [q3] at h'; exact hn h'
end
end Go.AX

namespace Go.AX
open Go

section
variable {P : Program} {nt : Nat} {cfg : Cfg} {call : Nat → List A → St → Option (V × St)} {ops : Array Oper} {es : List Ent} {fT : Nat → Tm} {fS : Nat → St} {fU : Nat → V} {fW : Nat → Bool} {all : Seen}
variable {E0 E : Env} {w0 w : World} {a0 a : Act} {listed : Array Bool} {e : Nat}

theorem DInv.gok (hi : DInv nt ops es fT fS fU fW E0 w0 a0 listed e E w a) (hG : GOk P E0) (hn : P.globals.size ≤ (fS 0).nx) : GOk P E := fun g hg => by
  obtain ⟨r, hr⟩ := hG g hg
  exact ⟨r, by rw [hi.out g (.inl (by omega))]; exact hr⟩

/-- A read's value, at the world as it stands. -/
theorem read_val (hD : DrawOk P nt ops es) (ht : Trace cfg call (es.map (·.io)) (againOf es) [] fT fS fU fW all) (hi : DInv nt ops es fT fS fU fW E0 w0 a0 listed e E w a) {k : Nat} {x : Ent} (h : Up ops es listed k x)
    (hk : x.io.op.kind = .read) (hw : fW k = true) : ∃ s, Rel E s w ∧ x.io.op.val (fT k) s = some (fU k) := by
  have hkn : k < es.length := (List.getElem?_eq_some_iff.1 h.ent).1
  rcases Nat.lt_or_ge k e with hlt | hge
  · refine ⟨fS e, hi.mkRel .inl hi.re, ?_⟩
    rcases hi.last with h0 | ⟨d, rfl, ⟨y, hy, hd⟩, ⟨y', hy', hky, hwy⟩⟩
    · omega
    · rw [hy] at hy'; cases hy'
      have hne : k ≠ d := fun e => by subst e; rw [h.ent] at hy; cases hy; rw [h.undone] at hd; cases hd
      have hkd : k < d := by omega
      obtain ⟨hb, _⟩ := h.behind hD hi.closed hy hkd hd
      obtain ⟨_, _, _, _, _, hkx', _⟩ := hD.ent k x h.ent
      obtain ⟨_, _, _, _, _, hky', _⟩ := hD.ent d y hy
      obtain ⟨g, hg, hmem⟩ := againOf_spec hkd h.ent hy (hkx'.trans hk) (hky'.trans hky) hb
      have hc := ht.chk d y.io g (by simp [hy]) hwy hg
      refine checkAgain_spec hc hmem (op := x.io.op) (tm := fT k) (v := fU k) ?_
      have := ht.ent k x.io (by simp [h.ent])
      simp only [List.length_nil, Nat.zero_add] at this ⊢
      rw [List.getElem?_take_of_lt hkd, this, hw]
      rfl
  · refine ⟨fS k, ?_, tr_val ht h.ent hw (.inr hk)⟩
    have hab : ∀ {b : Nat} {o : Obj}, (fS k).get b = some o → Here es fS fW listed e b o := fun hb => by
      rcases absorb ht hge (by omega) (fun j h1 h2 hj => by have := hi.effs j (up_ahead hD hi h (.inr hk) h2 (.inl hj)) hj; omega) (fun j h1 h2 hj => up_ahead hD hi h (.inr hk) h2 (.inr hj)) hb with g | ⟨j, g1, g2, g3⟩
      · exact .inl g
      · exact .inr ⟨j, g1, g3⟩
    exact hi.mkRel hab ((tr_r ht hge (by omega) fun j h1 h2 hj => by have := hi.effs j (up_ahead hD hi h (.inr hk) h2 (.inl hj)) hj; omega).trans hi.re)

theorem wpOp_up (cfg : Cfg) (hms : MethSound P cfg) (hcs : CallSound P call) (hup : CallUp call) (hD : DrawOk P nt ops es) (ht : Trace cfg call (es.map (·.io)) (againOf es) [] fT fS fU fW all) (hG : GOk P E0) (hn : P.globals.size ≤ (fS 0).nx) {Q : Exit → Act → World → Prop} {K : Act → World → Prop}
    (hi : DInv nt ops es fT fS fU fW E0 w0 a0 listed e E w a) {k : Nat} {x : Ent} (h : Up ops es listed k x) (hK : ∀ e' E' w' a', DInv nt ops es fT fS fU fW E0 w0 a0 (listed.setIfInBounds x.q true) e' E' w' a' → K a' w') : wpOp P ops Q x.q K a w := by
  obtain ⟨o, ho, hco, _⟩ := hD.ent k x h.ent
  obtain ⟨hc, hd, hg⟩ := cOper_spec hco
  have hl : (es.map (·.io))[k]? = some x.io := by simp [h.ent]
  have htr := up_trel hD ht hi h
  have hGE := hi.gok hG hn
  have hwant := ht.want k _ hl
  rw [← restr_wanted] at hwant
  unfold wpOp
  simp only [ho]
  rw [wanted_sound htr hg hwant]
  have hbad : x.io.op.kind ≠ .effect → cOp P nt o.op = some x.io.op := fun hk => hc.resolve_right fun e => hk (by rw [e]; rfl)
  cases hw : fW k
  · rw [if_neg (by simp)]
    have hu := (ht.off k _ hl hw).1
    exact hK _ _ _ _ (quiet_step hD hi h hd (fun ⟨_, _, _, h⟩ => by rw [hw] at h; cases h) (fun ⟨_, _, _, h⟩ => by rw [hw] at h; cases h) (by rw [hu]; exact VRel.undef E))
  · rw [if_pos rfl]
    refine .inl ?_
    unfold Oper.wp
    have quiet : x.io.op.kind ≠ .effect → x.io.op.kind ≠ .alloc → ∀ {s : St}, Rel E s w → x.io.op.val (fT k) s = some (fU k) → o.upon P a K Q ((execOp a.eval o).run P w) := fun h1 h2 s hr hv => by
      rw [← val_congr (fun y hy => restr_ev (t := fT k) (o := x.io) hy)] at hv
      obtain ⟨y, hy, hvy⟩ := val_sound hr hGE htr (hbad h1) hv
      rw [hy]
      refine hK _ _ _ _ (quiet_step hD hi h hd (fun ⟨x', hx', hk', _⟩ => ?_) (fun ⟨x', hx', hk', _⟩ => ?_) hvy)
      · rw [h.ent] at hx'; cases hx'; exact h1 hk'
      · rw [h.ent] at hx'; cases hx'; exact h2 hk'
    cases hk : x.io.op.kind with
    | pure =>
      have hr2 : Rel E (St.zero 0) w := Rel.zero _ _ _
      refine quiet (by rw [hk]; simp) (by rw [hk]; simp) hr2 ?_
      rw [val_pure hk (St.zero 0) (fS k)]
      exact tr_val ht h.ent hw (.inl hk)
    | read =>
      obtain ⟨s, hr, hv⟩ := read_val hD ht hi h hk hw
      exact quiet (by rw [hk]; simp) (by rw [hk]; simp) hr hv
    | alloc =>
      obtain ⟨y, w1, E1, hrun, hi'⟩ := alloc_step hup hD ht hi h hd (hbad (by rw [hk]; simp)) hGE hk hw
      rw [hrun]
      exact hK _ _ _ _ hi'
    | effect =>
      obtain ⟨hr, hf, hst⟩ := effect_step hup hD ht hi h hk hw
      have hrun := ht.run k _ hl hw
      rw [← run_congr (fun y hy => restr_ev (t := fT k) (o := x.io) hy)] at hrun
      have hkn : k < es.length := (List.getElem?_eq_some_iff.1 h.ent).1
      have hinv : Inv P nt E (fS k) w (restr (fT k) x.io.looks) a := ⟨hr, htr, hGE, Nat.le_trans hn (tr_nx hup ht (Nat.zero_le _) (by omega))⟩
      refine upon_of_outc (run_sound cfg hms hcs hinv hc hrun hf) fun y w' ⟨E', hy, hs⟩ => ?_
      exact hK _ _ _ _ (hst hd hy hs)

/-- All has come up where nothing may. -/
theorem all_done (hD : DrawOk P nt ops es) (hl : listed.size = ops.size) (hr : Region.ready .any ops listed = []) {k : Nat} {x : Ent} (hx : es[k]? = some x) : listed.getD x.q false = true := by
  induction k using Nat.strongRecOn generalizing x with
  | _ k ih =>
    cases hd : listed.getD x.q false with
    | true => rfl
    | false =>
      obtain ⟨o, ho, _, ha, _⟩ := hD.ent k x hx
      have hlt : x.q < listed.size := by rw [hl]; exact (Array.getElem?_eq_some_iff.1 ho).1
      have : x.q ∈ Region.ready .any ops listed := by
        refine mem_ready.2 ⟨by simpa [hlt] using hd, o, ho, fun e he hb => ?_⟩
        obtain ⟨i, y, hi, hy, hq⟩ := hD.aft k x hx e.on (by rw [ha]; exact testBit_aft (by simpa using he) hb)
        rw [← hq]; exact ih i hi hy
      rw [hr] at this; cases this

theorem wpAny_draw (cfg : Cfg) (hms : MethSound P cfg) (hcs : CallSound P call) (hup : CallUp call) (hD : DrawOk P nt ops es) (ht : Trace cfg call (es.map (·.io)) (againOf es) [] fT fS fU fW all) (hG : GOk P E0) (hn : P.globals.size ≤ (fS 0).nx) {Q : Exit → Act → World → Prop}
    (hQ : ∀ E' a' w', Inv P nt E' (fS es.length) w' (fT es.length) a' → Step E0 (fS 0) w0 E' (fS es.length) w' → a'.defers = a0.defers → Q .normal a' w') :
    ∀ (fuel : Nat) {listed : Array Bool} {e : Nat} {E : Env} {w : World} {a : Act}, ((List.range ops.size).filter fun i => !listed.getD i false).length ≤ fuel → DInv nt ops es fT fS fU fW E0 w0 a0 listed e E w a → wpAny P .any ops Q fuel listed a w := by
  have fin : ∀ {listed : Array Bool} {e : Nat} {E : Env} {w : World} {a : Act}, DInv nt ops es fT fS fU fW E0 w0 a0 listed e E w a → Region.ready .any ops listed = [] → Q .normal a w := by
    intro listed e E w a hi hr
    have hall : ∀ {k : Nat} {x : Ent}, es[k]? = some x → listed.getD x.q false = true := fun hx => all_done hD hi.lsz hr hx
    have hdn : ∀ {K k}, IsK es fW K k → Dn es listed k := fun ⟨x, hx, _⟩ => ⟨x, hx, hall hx⟩
    have hab : ∀ {b : Nat} {o : Obj}, (fS es.length).get b = some o → Here es fS fW listed e b o := fun hb => by
      rcases absorb ht hi.ele (Nat.le_refl _) (fun j h1 h2 hj => by have := hi.effs j (hdn hj) hj; omega) (fun j h1 h2 hj => hdn hj) hb with g | ⟨j, g1, g2, g3⟩
      · exact .inl g
      · exact .inr ⟨j, g1, g3⟩
    have hrr : (fS es.length).r = (fS 0).r := (tr_r ht hi.ele (Nat.le_refl _) fun j h1 h2 hj => by have := hi.effs j (hdn hj) hj; omega).trans hi.re
    have hrel : Rel E (fS es.length) w := hi.mkRel hab hrr
    refine hQ E a w ⟨hrel, ⟨hi.asz, fun p v hp => hi.slot p v ?_⟩, hi.gok hG hn, Nat.le_trans hn (tr_nx hup ht (Nat.zero_le _) (Nat.le_refl _))⟩
      ⟨hrel.toRel0, tr_nx hup ht (Nat.zero_le _) (Nat.le_refl _), hi.out, hi.sym, fun n ⟨b, o, L, h1, h2, h3⟩ => h3 ▸ hi.live b o L (hab h1) h2, hi.frame, hi.size, hi.os, hi.output, hi.tape, hrr⟩ hi.dfr
    rcases trace_slot ht (by simp) hp with ⟨j, o, hj, ho, hdp, hv, hnn⟩ | ⟨hnn, h0⟩
    · obtain ⟨y, hy, rfl⟩ : ∃ y, es[j]? = some y ∧ y.io = o := by simpa [List.getElem?_map] using ho
      exact .inl ⟨j, y, hy, hall hy, hdp, hv, fun i z hji hz _ => hnn i z.io hji ((List.getElem?_eq_some_iff.1 hz).1) (by simp [hz])⟩
    · exact .inr ⟨fun i z hz _ => hnn i z.io ((List.getElem?_eq_some_iff.1 hz).1) (by simp [hz]), h0⟩
  have find : ∀ {listed : Array Bool} {i : Nat}, listed.size = ops.size → i ∈ Region.ready .any ops listed → ∃ (k : Nat) (x : Ent), Up ops es listed k x ∧ x.q = i ∧ i < ops.size ∧ listed.getD i false = false := by
    intro listed i hl hi
    obtain ⟨h0, o, ho, _⟩ := mem_ready.1 hi
    have hlt := (Array.getElem?_eq_some_iff.1 ho).1
    obtain ⟨k, x, hx, rfl⟩ := hD.onto i hlt
    exact ⟨k, x, ⟨hx, hi⟩, rfl, hlt, Up.undone ⟨hx, hi⟩⟩
  intro fuel
  induction fuel with
  | zero =>
    intro listed e E w a hf hi
    have hnil : Region.ready .any ops listed = [] := by
      cases hr : Region.ready .any ops listed with
      | nil => rfl
      | cons i l =>
        obtain ⟨k, x, hu, hq, hlt, hd⟩ := find hi.lsz (i := i) (by rw [hr]; simp)
        have : i ∈ (List.range ops.size).filter fun i => !listed.getD i false := List.mem_filter.2 ⟨by simpa using hlt, by rw [hd]; rfl⟩
        have h0 := List.eq_nil_of_length_eq_zero (Nat.le_zero.1 hf)
        rw [h0] at this
        cases this
    exact ⟨hnil, fin hi hnil⟩
  | succ fuel ih =>
    intro listed e E w a hf hi
    refine ⟨fin hi, fun i hri => ?_⟩
    obtain ⟨k, x, hu, rfl, hlt, hd⟩ := find hi.lsz hri
    refine wpOp_up cfg hms hcs hup hD ht hG hn hi hu fun e' E' w' a' hi' => ih ?_ hi'
    have hlt' : x.q < listed.size := by rw [hi.lsz]; exact hlt
    have := cnt_lt (p := fun i => !listed.getD i false) (q := fun i => !(listed.setIfInBounds x.q true).getD i false) (i := x.q) (by simp only [hd]; rfl) (by simp [hlt']) (fun j hj => ?_) (l := List.range ops.size) (by simpa using hlt)
    · omega
    · by_cases hq : x.q = j
      · show (!listed.getD j false) = true; rw [← hq, hd]; rfl
      · rw [getD_set_ne false hq] at hj; exact hj

/-- A region that draws its order. -/
theorem dreg_sound (cfg : Cfg) (hms : MethSound P cfg) (hcs : CallSound P call) (hup : CallUp call) (hm : P.follows .mixedOrders = true) {l l' : List IOper} {ag : List (List Nat)} (hl : cOpers P nt ops ops.toList = some l) (hd : cDraw ops l = some (.dreg l' ag))
    {id : Nat} {Q : Exit → Act → World → Prop} {E : Env} {s s' : St} {w : World} {tm tm' : Tm} {a : Act} (hi : Inv P nt E s w tm a) (hrun : runD cfg call l' ag [] tm s = some (tm', s')) (hf : Fresh E s.nx s'.nx)
    (hQ : ∀ E' a' w', Inv P nt E' s' w' tm' a' → Step E s w E' s' w' → a'.defers = a.defers → Q .normal a' w') : (Code.region id ops true).wp P Q a w := by
  obtain ⟨es, hD, rfl, rfl⟩ := cDraw_spec hl hd
  obtain ⟨fT, fS, fU, fW, all, ht, rfl, rfl, hT', hS'⟩ := runD_trace hrun
  rw [List.length_map] at hT' hS'
  subst hT'; subst hS'
  have hst0 : Step E (fS 0) w E (fS 0) { w with drawn := w.drawn + 1 } := Step.drawn hi.rel _
  refine wp_region_any hm (wpAny_draw cfg hms hcs hup hD ht (E0 := E) (w0 := { w with drawn := w.drawn + 1 }) (a0 := a) hi.g hi.n (fun E' a' w' h1 h2 h3 => hQ E' a' w' h1 (hst0.trans h2) h3) ops.size (e := 0) (E := E) ?_ ?_)
  · exact Nat.le_trans (List.length_filter_le _ _) (by simp)
  · have hnd : ∀ {k}, ¬ Dn es (Array.replicate ops.size false) k := fun ⟨x, hx, h⟩ => by
      simp only [Array.getD_eq_getD_getElem?, Array.getElem?_replicate] at h
      split at h <;> cases h
    have hnl : ∀ {q}, (Array.replicate ops.size false).getD q false = false := by
      intro q
      simp only [Array.getD_eq_getD_getElem?, Array.getElem?_replicate]
      split <;> rfl
    have hH : ∀ {b o}, Here es fS fW (Array.replicate ops.size false) 0 b o → (fS 0).get b = some o := fun hb => by
      rcases hb with hb | ⟨j, _, g, _⟩
      · exact hb
      · exact absurd g hnd
    have hr := hst0.rel
    refine {
      closed := fun r q h => by rw [hnl] at h; cases h
      lsz := by simp
      asz := hi.tr.1
      slot := fun p v hs => hi.tr.2 p v ?_
      dfr := rfl
      ele := Nat.zero_le _
      last := .inl rfl
      effs := fun k hk => absurd hk hnd
      befe := fun k hk => by omega
      obj := fun b o hb => hr.obj b o (hH hb)
      inj := fun b b' o o' L L' hb hb' => hr.inj b b' o o' L L' (hH hb) (hH hb')
      locs := fun b h1 h2 h3 => absurd (hf b h1 h2) h3
      none := fun b h1 h2 => ?_
      out := fun b _ => rfl
      sym := rfl
      live := fun b o L hb hL => .inr ⟨b, o, L, hH hb, hL, rfl⟩
      frame := fun m _ _ => rfl
      size := Nat.le_refl _
      os := rfl
      output := rfl
      tape := rfl
      re := rfl
      ro := hi.rel.drawn_ro _
      fr := hf }
    · rcases hs with ⟨j, x, _, h, _⟩ | ⟨_, h⟩
      · rw [hnl] at h; cases h
      · exact h
    · cases hb : (fS 0).get b with
      | none => rfl
      | some o =>
        obtain ⟨L, hL, _⟩ := hi.rel.obj b o hb
        rw [hf b h1 h2] at hL; cases hL
end
end Go.AX

namespace Go.AX
open Go

/-! ### Numbers of blocks only grow -/
def R.st : R → St
  | .norm _ s | .exit _ _ s | .ret _ s => s
def R.tms : R → Tm
  | .norm t _ | .exit _ t _ | .ret t _ => t
def R.ex : R → Exit
  | .norm _ _ => .normal
  | .exit i _ _ => .exit i
  | .ret _ _ => .ret

theorem runD_nx {cfg : Cfg} {call : Nat → List A → St → Option (V × St)} (hu : CallUp call) : ∀ {l : List IOper} {gs : List (List Nat)} {seen : Seen} {tm tm' : Tm} {s s' : St}, runD cfg call l gs seen tm s = some (tm', s') → s.nx ≤ s'.nx
  | [], gs, seen, tm, tm', s, s', h => by unfold runD at h; cases h; exact Nat.le_refl _
  | o :: l, [], seen, tm, tm', s, s', h => by unfold runD at h; cases h
  | o :: l, g :: gs, seen, tm, tm', s, s', h => by
    unfold runD at h
    split at h
    · split at h
      · rename_i hr
        obtain ⟨_, h⟩ := cond_some h
        exact Nat.le_trans (run_nx hu hr) (runD_nx hu h)
      · cases h
    · exact runD_nx hu h
    · cases h

theorem iter_nx {body : Tm → St → Option R} (hb : ∀ tm s r, body tm s = some r → s.nx ≤ r.st.nx) : ∀ {n : Nat} {tm : Tm} {s : St} {r : R}, iter body n tm s = some r → s.nx ≤ r.st.nx
  | 0, _, _, _, h => by cases h
  | n + 1, tm, s, r, h => by
    simp only [iter] at h
    split at h
    · rename_i tm' s' h1
      exact Nat.le_trans (hb _ _ _ h1) (iter_nx hb h)
    · exact hb _ _ _ h

theorem exec_nx {cfg : Cfg} {call : Nat → List A → St → Option (V × St)} (hu : CallUp call) {n : Nat} : ∀ {x : ICode} {tm : Tm} {s : St} {r : R}, exec cfg call n x tm s = some r → s.nx ≤ r.st.nx
  | .skip, tm, s, r, h => by simp only [exec] at h; cases h; exact Nat.le_refl _
  | .reg ops, tm, s, r, h => by
    simp only [exec] at h
    split at h
    · rename_i h1; cases h; exact runOps_nx hu h1
    · cases h
  | .dreg ops ag, tm, s, r, h => by
    simp only [exec] at h
    split at h
    · rename_i h1; cases h; exact runD_nx hu h1
    · cases h
  | .seq a b, tm, s, r, h => by
    simp only [exec] at h
    split at h
    · rename_i h1; exact Nat.le_trans (exec_nx hu h1) (exec_nx hu h)
    · exact exec_nx hu h
  | .cond c a b, tm, s, r, h => by
    simp only [exec] at h
    split at h
    · exact exec_nx hu h
    · exact exec_nx hu h
    · cases h
  | .block id b, tm, s, r, h => by
    simp only [exec] at h
    split at h
    · rename_i h1
      have := exec_nx hu h1
      cases hb : Nat.beq _ id <;> rw [hb] at h <;> cases h <;> exact this
    · exact exec_nx hu h
  | .loop b, tm, s, r, h => by
    simp only [exec] at h
    exact iter_nx (fun tm s r h => exec_nx (x := b) hu h) h
  | .exit id, tm, s, r, h => by simp only [exec] at h; cases h; exact Nat.le_refl _
  | .ret, tm, s, r, h => by simp only [exec] at h; cases h; exact Nat.le_refl _
  | .bad, tm, s, r, h => by simp only [exec] at h; cases h

/-! ### Code -/
section
variable {P : Program} {nt : Nat}

/-- 'c' does what 'x' says. -/
def Sim (P : Program) (nt : Nat) (c : Code) (ex : Tm → St → Option R) : Prop :=
  ∀ {Q : Exit → Act → World → Prop} {E : Env} {s : St} {w : World} {tm : Tm} {a : Act} {r : R}, Inv P nt E s w tm a → ex tm s = some r → Fresh E s.nx r.st.nx →
    (∀ E' a' w', Inv P nt E' r.st w' r.tms a' → Step E s w E' r.st w' → a'.defers = a.defers → Q r.ex a' w') → c.wp P Q a w

def LoopAt (P : Program) (c : Code) (Q : Exit → Act → World → Prop) (a : Act) (w : World) : Prop :=
  ∀ (b : Frame) (k : List Item) (cs : List Frame), ∃ e a' w', Q e a' w' ∧ Arrives P (lone (b.at a (.code c :: .inLoop c :: k)) cs w) b k cs e a' w'
theorem LoopAt.wp {c : Code} {Q : Exit → Act → World → Prop} {a : Act} {w : World} (h : LoopAt P c Q a w) : (Code.loop c).wp P Q a w := fun b k cs =>
  let ⟨e, a', w', hq, harr⟩ := h b k cs; ⟨e, a', w', hq, .of_steps (.one step_loop) harr⟩
theorem LoopAt.round {c : Code} {Q : Exit → Act → World → Prop} {a : Act} {w : World} (h : c.wp P (Exit.then (LoopAt P c Q) Q) a w) : LoopAt P c Q a w := by
  intro b k cs
  obtain ⟨e, a₁, w₁, hq, harr⟩ := h b (.inLoop c :: k) cs
  cases e with
  | normal =>
    obtain ⟨e₂, a₂, w₂, hq₂, harr₂⟩ := hq b k cs
    exact ⟨e₂, a₂, w₂, hq₂, .of_steps (Steps.trans harr (.one step_inLoop)) harr₂⟩
  | exit id => exact ⟨_, a₁, w₁, hq, .pass (x := .inLoop c) rfl (fun _ _ => .inl (by simp)) harr⟩
  | goto l => exact ⟨_, a₁, w₁, hq, .pass (x := .inLoop c) rfl (fun _ _ => .inl (by simp)) harr⟩
  | ret => exact ⟨_, a₁, w₁, hq, .pass (x := .inLoop c) rfl (fun _ _ => .inl (by simp)) harr⟩
  | panic ch => exact ⟨_, a₁, w₁, hq, .pass (x := .inLoop c) rfl (fun _ _ => .inl (by simp)) harr⟩
  | outgrown => exact ⟨_, a₁, w₁, hq, .pass (x := .inLoop c) rfl (fun _ _ => .inl (by simp)) harr⟩

theorem sim_seq {c d : Code} {f g h : Tm → St → Option R} (hf : Sim P nt c f) (hg : Sim P nt d g) (hn : ∀ tm s r, g tm s = some r → s.nx ≤ r.st.nx)
    (hh : ∀ tm s, h tm s = match f tm s with | some (.norm tm s) => g tm s | r => r) : Sim P nt (.seq c d) h := by
  intro Q E s w tm a r hi hr hfr hQ
  rw [hh] at hr
  cases h1 : f tm s with
  | none => rw [h1] at hr; cases hr
  | some q =>
    rw [h1] at hr
    have rest : ∀ (hqr : some q = some r) (hne : r.ex ≠ .normal), (Code.seq c d).wp P Q a w := fun hqr hne => by
      cases hqr
      refine wp_seq (hf hi h1 hfr fun E' a' w' h2 h3 h4 => ?_)
      have := hQ E' a' w' h2 h3 h4
      cases r with
      | norm => exact absurd rfl hne
      | exit => exact this
      | ret => exact this
    cases q with
    | norm tm1 s1 =>
      have hr' : g tm1 s1 = some r := hr
      have hle := hn _ _ _ hr'
      refine wp_seq (hf (r := .norm tm1 s1) hi h1 (fun b h2 h3 => hfr b h2 (Nat.lt_of_lt_of_le h3 hle)) fun E' a' w' h2 h3 h4 => ?_)
      have := hfr.rest h3 hle
      exact hg h2 hr' this.2 fun E'' a'' w'' h5 h6 h7 => hQ E'' a'' w'' h5 (h3.trans h6) (h7.trans h4)
    | exit i t s1 => exact rest hr (by cases hr; simp [R.ex])
    | ret t s1 => exact rest hr (by cases hr; simp [R.ex])

theorem sim_loop {c : Code} {f : Tm → St → Option R} (hf : Sim P nt c f) (hn : ∀ tm s r, f tm s = some r → s.nx ≤ r.st.nx) (n : Nat) : Sim P nt (.loop c) (iter f n) := by
  intro Q E s w tm a r hi hr hfr hQ
  refine LoopAt.wp ?_
  induction n generalizing E s w tm a with
  | zero => cases hr
  | succ n ih =>
    refine LoopAt.round ?_
    simp only [iter] at hr
    split at hr
    · rename_i tm1 s1 h1
      have hle := iter_nx hn hr
      refine hf (r := .norm tm1 s1) hi h1 (fun b h2 h3 => hfr b h2 (Nat.lt_of_lt_of_le h3 hle)) fun E' a' w' h2 h3 h4 => ?_
      have := hfr.rest h3 hle
      exact ih h2 hr this.2 fun E'' a'' w'' h5 h6 h7 => hQ E'' a'' w'' h5 (h3.trans h6) (h7.trans h4)
    · rename_i hne
      refine hf hi hr hfr fun E' a' w' h2 h3 h4 => ?_
      have := hQ E' a' w' h2 h3 h4
      cases r with
      | norm t s1 => exact absurd hr (hne t s1)
      | exit => exact this
      | ret => exact this

theorem cCode_sound (cfg : Cfg) (hms : MethSound P cfg) {call : Nat → List A → St → Option (V × St)} (hcs : CallSound P call) (hup : CallUp call) (hm : P.follows .mixedOrders = true) (n : Nat) :
    ∀ {c : Code} {x : ICode}, cCode P nt c = some x → Sim P nt c (exec cfg call n x) := by
  intro c
  have bad : ∀ {d : Code}, Sim P nt d (exec cfg call n .bad) := fun {d} Q E s w tm a r hi hr => by simp only [exec] at hr; cases hr
  induction c with
  | skip =>
    intro x hx; simp only [cCode] at hx; cases hx
    intro Q E s w tm a r hi hr hf hQ
    simp only [exec] at hr; cases hr
    exact wp_skip (hQ E a w hi (Step.refl hi.rel) rfl)
  | region id ops draw =>
    intro x hx
    simp only [cCode] at hx
    split at hx
    · cases hx
    · rename_i l hl
      cases draw with
      | false =>
        cases hx
        intro Q E s w tm a r hi hr hf hQ
        simp only [exec] at hr
        split at hr
        · rename_i tm' s' h1
          cases hr
          refine wp_region ?_
          have := ops_sound (Q := Q) cfg hms hcs hup (ops := ops) (l := ops.toList) 0 (fun j => by simp) hl hi h1 hf hQ
          rwa [Array.length_toList, ← List.range_eq_range'] at this
        · cases hr
      | true =>
        simp only at hx
        cases x with
        | dreg l' ag =>
          intro Q E s w tm a r hi hr hf hQ
          simp only [exec] at hr
          split at hr
          · rename_i tm' s' h1
            cases hr
            exact dreg_sound cfg hms hcs hup hm hl hx hi h1 hf hQ
          · cases hr
        | bad => exact bad
        | _ =>
          unfold cDraw at hx
          simp only at hx
          split at hx
          · cases hb : and (goOk (Nat.pred (Nat.pow 2 ops.size)) _ 0) (Nat.beq l.length ops.size) <;> rw [hb] at hx <;> cases hx
          · cases hx
  | seq c d ihc ihd =>
    intro x hx
    simp only [cCode] at hx
    split at hx
    · rename_i y z h1 h2
      cases hx
      exact sim_seq (ihc h1) (ihd h2) (fun tm s r h => exec_nx hup h) (fun tm s => by simp only [exec]; rfl)
    · cases hx
  | cond o c d ihc ihd =>
    intro x hx
    simp only [cCode] at hx
    split at hx
    · rename_i o' y z h1 h2 h3
      cases hx
      intro Q E s w tm a r hi hr hf hQ
      simp only [exec] at hr
      split at hr
      · rename_i hv
        exact wp_cond_true (evC_sound hi.g hi.tr h1 hv) (ihc h2 hi hr hf hQ)
      · rename_i hv
        exact wp_cond_false (evC_sound hi.g hi.tr h1 hv) (ihd h3 hi hr hf hQ)
      · cases hr
    · cases hx
  | block id c ih =>
    intro x hx
    simp only [cCode] at hx
    obtain ⟨y, hy, rfl⟩ := map_eq_some' hx
    intro Q E s w tm a r hi hr hf hQ
    simp only [exec] at hr
    refine wp_block ?_
    split at hr
    · rename_i j tm' s' h1
      refine ih hy (r := .exit j tm' s') hi h1 ?_ ?_
      · cases hb : Nat.beq j id <;> rw [hb] at hr <;> cases hr <;> exact hf
      · intro E' a' w' h2 h3 h4
        show Exit.inBlock id Q (.exit j) a' w'
        simp only [Exit.inBlock]
        cases hb : Nat.beq j id
        · rw [hb] at hr; cases hr
          rw [if_neg (by intro e; subst e; simp at hb)]
          exact hQ E' a' w' h2 h3 h4
        · rw [hb] at hr; cases hr
          rw [if_pos (Nat.eq_of_beq_eq_true hb)]
          exact hQ E' a' w' h2 h3 h4
    · rename_i hne
      refine ih hy hi hr hf fun E' a' w' h2 h3 h4 => ?_
      have := hQ E' a' w' h2 h3 h4
      cases r with
      | norm => exact this
      | exit i t s1 => exact absurd hr (hne i t s1)
      | ret => exact this
  | loop c ih =>
    intro x hx
    simp only [cCode] at hx
    obtain ⟨y, hy, rfl⟩ := map_eq_some' hx
    intro Q E s w tm a r hi hr hf hQ
    simp only [exec] at hr
    exact sim_loop (ih hy) (fun tm s r h => exec_nx hup h) n hi hr hf hQ
  | exit id =>
    intro x hx; simp only [cCode] at hx; cases hx
    intro Q E s w tm a r hi hr hf hQ
    simp only [exec] at hr; cases hr
    exact wp_exit (hQ E a w hi (Step.refl hi.rel) rfl)
  | ret =>
    intro x hx; simp only [cCode] at hx; cases hx
    intro Q E s w tm a r hi hr hf hQ
    simp only [exec] at hr; cases hr
    exact wp_ret (hQ E a w hi (Step.refl hi.rel) rfl)
  | _ => intro x hx; simp only [cCode] at hx; cases hx; exact bad
end
end Go.AX

namespace Go.AX
open Go

section
variable {P : Program} {nt : Nat} {E : Env} {s : St} {w : World}

theorem initTm_spec : ∀ {ps : List Pos} {ars : List A} {tm tm' : Tm} {i : Nat}, ps = (List.range' i ps.length).map Pos.ofNat → initTm ps ars tm = some tm' → ps.length = ars.length ∧ ∀ p v, tm'.get p = some v → (∃ j a, i ≤ j ∧ p = .ofNat j ∧ ars[j - i]? = some a ∧ v = .a a) ∨ tm.get p = some v
  | [], [], tm, tm', i, _, h => by simp only [initTm] at h; cases h; exact ⟨rfl, fun p v h => .inr h⟩
  | [], _ :: _, tm, tm', i, _, h => by simp [initTm] at h
  | _ :: _, [], tm, tm', i, _, h => by simp [initTm] at h
  | q :: ps, a :: ars, tm, tm', i, hp, h => by
    simp only [initTm] at h
    simp only [List.length_cons, List.range'_succ, List.map_cons, List.cons.injEq] at hp
    obtain ⟨h1, h2⟩ := initTm_spec (i := i + 1) hp.2 h
    refine ⟨by simp [h1], fun p v hv => ?_⟩
    rcases h2 p v hv with ⟨j, b, h3, h4, h5, h6⟩ | h3
    · refine .inl ⟨j, b, by omega, h4, ?_, h6⟩
      rw [show j - i = (j - (i + 1)) + 1 by omega]
      simpa using h5
    · rw [T.get_set] at h3
      by_cases e : q = p
      · rw [if_pos e] at h3; cases h3
        exact .inl ⟨i, a, Nat.le_refl _, by rw [← e, hp.1], by simp, rfl⟩
      · rw [if_neg e] at h3; exact .inr h3

theorem initTm_sound {np : Nat} (hnp : np ≤ nt) {ars : List A} {tm : Tm} (h : initTm ((List.range np).map Pos.ofNat) ars .e = some tm) {xs : Array Value} (hx : All2 (ARel E) ars xs.toList) :
    TRel E nt tm { tmps := xs ++ Array.replicate (nt - xs.size) undef, defers := [] } := by
  obtain ⟨h1, h2⟩ := initTm_spec (i := 0) (by simp [List.range_eq_range']) h
  have hsz : xs.size = np := by have := hx.length; simp at this h1; omega
  refine ⟨by simp; omega, fun p v hp => ?_⟩
  rcases h2 p v hp with ⟨j, a, _, rfl, h4, rfl⟩ | h3
  · obtain ⟨y, hy, hr⟩ := hx.get (i := j) (by simpa using h4)
    have hlt : j < xs.size := by simpa using (List.getElem?_eq_some_iff.1 hy).1
    refine ⟨by simp; omega, ?_⟩
    simp only [Pos.toNat_ofNat, Array.getD_eq_getD_getElem?]
    rw [Array.getElem?_append_left hlt, ← Array.getElem?_toList, hy]
    exact hr
  · simp at h3

def resG (tmps : Array Value) : ResultVar → Sem Value
  | .tmp t => pure (tmps.getD t undef)
  | .cell c t => do loadVar t (← asAddr (tmps.getD c undef))
theorem results_eq (fn : Func) (tmps : Array Value) : results fn tmps = (do
    let vs ← fn.results.mapM (resG tmps)
    pure (if h : vs.size = 1 then vs[0] else .tuple vs)) := by
  unfold results resG
  rfl

theorem ressOf_sound (hr : Rel E s w) {tm : Tm} {a : Act} (ht : TRel E nt tm a) : ∀ {rs : List ResultVar} {irs : List IRes} {l : List A}, cRess P nt rs = some irs → ressOf tm s irs = some l →
    ∃ vs, (rs.mapM (resG a.tmps)).run P w = .ok vs w ∧ All2 (ARel E) l vs
  | [], irs, l, hc, h => by
    simp only [cRess] at hc; cases hc
    simp only [ressOf] at h; cases h
    exact ⟨[], by simp, .nil⟩
  | x :: rs, irs, l, hc, h => by
    simp only [cRess] at hc
    split at hc
    · rename_i y ys hy hys
      cases hc
      simp only [ressOf] at h
      split at h
      · rename_i b hb
        split at h
        · rename_i l' hl'
          cases h
          obtain ⟨vs, h1, h2⟩ := ressOf_sound hr ht hys hl'
          have key : ∃ v, (resG a.tmps x).run P w = .ok v w ∧ ARel E b v := by
            cases x with
            | tmp t =>
              simp only [cRes] at hy
              split at hy <;> cases hy
              simp only [resOf] at hb
              split at hb
              · rename_i b' hg
                cases hb
                have := (ht.2 _ _ hg).2
                rw [Pos.toNat_ofNat] at this
                exact ⟨_, rfl, this⟩
              · cases hb
            | cell c t =>
              simp only [cRes] at hy
              split at hy
              · split at hy
                · rename_i n g1 g2
                  cases hy
                  simp only [resOf] at hb
                  split at hb
                  · rename_i bb oo hg
                    split at hb
                    · rename_i ll hll
                      cases hb
                      have := (ht.2 _ _ hg).2
                      rw [Pos.toNat_ofNat] at this
                      obtain ⟨L, hL, hx⟩ := this
                      obtain ⟨L', hL', _, us, hrun, hus⟩ := loadN_sound (P := P) hr hll
                      rw [hL] at hL'; cases hL'
                      exact ⟨.agg us.toArray, by simp [resG, hx, asAddr, loadVar, isAggT_run g1, sizeT_run g2, hrun], us, rfl, hus⟩
                    · cases hb
                  · cases hb
                · rename_i n g1 g2
                  cases hy
                  simp only [resOf] at hb
                  split at hb
                  · rename_i bb oo hg
                    split at hb
                    · rename_i cc hll
                      cases hb
                      have := (ht.2 _ _ hg).2
                      rw [Pos.toNat_ofNat] at this
                      obtain ⟨L, hL, hx⟩ := this
                      obtain ⟨L', hL', u, hcell, hcr⟩ := load_sound hr hll
                      rw [hL] at hL'; cases hL'
                      exact ⟨u, by simp [resG, hx, asAddr, loadVar, isAggT_run g1, hcell], hcr⟩
                    · cases hb
                  · cases hb
                · cases hy
              · cases hy
          obtain ⟨v, h3, h4⟩ := key
          refine ⟨v :: vs, ?_, .cons h4 h2⟩
          rw [List.mapM_cons, Sem.run_bind, h3]
          show Sem.run P (List.mapM (resG a.tmps) rs >>= fun l => pure (v :: l)) w = _
          rw [Sem.run_bind, h1]
          rfl
        · cases h
      · cases h
    · cases hc

theorem results_sound (hr : Rel E s w) {tm : Tm} {a : Act} (ht : TRel E nt tm a) {fn : Func} {irs : List IRes} {l : List A} (hc : cRess P nt fn.results.toList = some irs) (h : ressOf tm s irs = some l) :
    ∃ v, (results fn a.tmps).run P w = .ok v w ∧ VRel E (resV l) v := by
  obtain ⟨vs, h1, h2⟩ := ressOf_sound (P := P) hr ht hc h
  have hm : (results fn a.tmps).run P w = .ok (if h : vs.toArray.size = 1 then vs.toArray[0] else .tuple vs.toArray) w := by
    rw [results_eq]
    have e : fn.results = fn.results.toList.toArray := by simp
    rw [e, List.mapM_toArray, Sem.run_bind, Sem.run_map, h1]
    rfl
  refine ⟨_, hm, ?_⟩
  match l, vs, h2 with
  | [a1], [v1], .cons h3 .nil => exact h3
  | [], [], .nil => exact ⟨[], rfl, .nil⟩
  | a1 :: a2 :: l, v1 :: v2 :: vs, h3 => exact ⟨v1 :: v2 :: vs, rfl, h3⟩

/-- A summary that holds. -/
def SummSound (P : Program) (f : Nat) (sm : List A → St → Option (V × St)) : Prop :=
  ∀ args s v s', sm args s = some (v, s') → s.nx ≤ s'.nx ∧ ∀ E w (xs : Array Value), Rel E s w → GOk P E → P.globals.size ≤ s.nx → Fresh E s.nx s'.nx → All2 (ARel E) args xs.toList → Outc P (Left E s w v s') ((callFunc f xs).run P w)

/-- What a table of code must be. -/
structure CfgOk (P : Program) (cfg : Cfg) : Prop where
  mixed : P.follows .mixedOrders = true
  code : ∀ f fn, cfg.code f = some fn → ∃ F, P.funcs[f]? = some F ∧ cFunc P F = some fn ∧ (F.name == "runtime.NumGoroutine") = false
  meth : MethSound P cfg
  summ : ∀ f sm, cfg.summ f = some sm → SummSound P f sm

theorem callN_nx {cfg : Cfg} (hs : ∀ f sm, cfg.summ f = some sm → SummSound P f sm) : ∀ n, CallUp (callN cfg n)
  | 0 => fun f args s v s' h => by simp only [callN] at h; cases h
  | n + 1 => fun f args s v s' h => by
    simp only [callN] at h
    split at h
    · rename_i sm hsm; exact (hs f sm hsm args s v s' h).1
    · split at h
      · cases h
      · split at h
        · cases h
        · split at h
          · rename_i h1
            have := exec_nx (callN_nx hs n) h1
            split at h <;> cases h
            exact this
          · rename_i h1
            have := exec_nx (callN_nx hs n) h1
            split at h <;> cases h
            exact this
          · cases h

theorem callFunc_enter {f : Nat} {F : Func} (hF : P.funcs[f]? = some F) (hn : (F.name == "runtime.NumGoroutine") = false) {c : Code} (hb : F.body = some c) (xs : Array Value) (w : World) : (callFunc f xs).run P w = .ok (.enter f xs) w := by
  unfold callFunc
  rw [Sem.run_bind]
  simp [hF, hb]
  simpa using hn

theorem callN_sound {cfg : Cfg} (hc : CfgOk P cfg) : ∀ n, CallSound P (callN cfg n)
  | 0 => fun f args s v s' h => by simp only [callN] at h; cases h
  | n + 1 => fun f args s v s' h E w xs hr hG hn hf hx => by
    have hup := callN_nx hc.summ n
    simp only [callN] at h
    split at h
    · rename_i sm hsm; exact (hc.summ f sm hsm args s v s' h).2 E w xs hr hG hn hf hx
    · split at h
      · cases h
      · rename_i fn hfn
        obtain ⟨F, hF, hcf, hname⟩ := hc.code f fn hfn
        unfold cFunc at hcf
        simp only at hcf
        split at hcf
        · cases hcf
        · rename_i c hbody
          split at hcf
          · rename_i b rs hb hrs
            split at hcf
            · rename_i hle
              cases hcf
              rw [callFunc_enter hF hname hbody]
              show Calls P f xs w _
              split at h
              · cases h
              · rename_i tm htm
                have hinv : Inv P F.ntmps E s w tm { tmps := xs ++ Array.replicate (F.ntmps - xs.size) undef, defers := [] } := ⟨hr, initTm_sound hle htm hx, hG, hn⟩
                have go : ∀ {r : R}, exec cfg (callN cfg n) n b tm s = some r → r.ex = .normal ∨ r.ex = .ret → (match ressOf r.tms r.st rs with | some l => some (resV l, r.st) | none => none) = some (v, s') →
                    Calls P f xs w fun e w' => ∃ x, e = .returned x ∧ Left E s w v s' x w' := by
                  intro r hex hrx hres
                  split at hres
                  · rename_i l hl
                    cases hres
                    refine calls_of_wp hF hbody (cCode_sound cfg hc.meth (callN_sound hc n) hup hc.mixed n hb hinv hex hf fun E' a' w' h1 h2 h3 => ?_)
                    obtain ⟨x, hx1, hx2⟩ := results_sound (P := P) h1.rel h1.tr hrs hl
                    have : bodyPost P F (fun e w' => ∃ x, e = .returned x ∧ Left E s w (resV l) r.st x w') r.ex a' w' := by
                      rcases hrx with e | e <;> rw [e] <;> exact ⟨h3, x, hx1, x, rfl, E', hx2, h2⟩
                    exact this
                  · cases hres
                split at h
                · rename_i h1; exact go h1 (.inl rfl) h
                · rename_i h1; exact go h1 (.inr rfl) h
                · cases h
            · cases hcf
          · cases hcf
end
end Go.AX

namespace Go.AX
open Go

/-! ### Summaries: what library functions and ranges over maps compute -/
def insI (x : Int) : List Int → List Int
  | [] => [x]
  | y :: l => bif ltI y x then y :: insI x l else x :: y :: l
def sortI : List Int → List Int
  | [] => []
  | x :: l => insI x (sortI l)
def insL (x : List Nat) : List (List Nat) → List (List Nat)
  | [] => [x]
  | y :: l => bif ltL y x then y :: insL x l else x :: y :: l
def sortL : List (List Nat) → List (List Nat)
  | [] => []
  | x :: l => insL x (sortL l)
def keysI : List (C × A) → Option (List Int)
  | [] => some []
  | (.int .i64 n, _) :: l => match keysI l with | some r => some (n :: r) | none => none
  | _ => none
def keysL : List (C × A) → Option (List (List Nat))
  | [] => some []
  | (.str n, _) :: l => match keysL l with | some r => some (n :: r) | none => none
  | _ => none
def cellsI : List Int → List C
  | [] => []
  | n :: l => .int .i64 n :: cellsI l
def cellsL : List (List Nat) → List C
  | [] => []
  | n :: l => .str n :: cellsL l
/-- A new slice of these cells; nil where there are none. -/
def newSlice (l : List C) (s : St) : Option (V × St) := match l with
  | [] => some (.a (.c .nils), s)
  | l => some (.a (.c (.slice s.nx 0 l.length l.length 1 false)), s.new (.row l))
/-- slices.Sorted(maps.Keys(m)), ints; 'f': the closure that maps.Keys hands back. -/
def sortedI (fs : List Nat) (args : List A) (s : St) : Option (V × St) := match args with
  | [.c (.fn1 g (.ptr b o))] => bif fs.any (Nat.beq g) then (match s.load b o with
    | some m => (match getMap s m with
      | some l => (match keysI l with | some ks => newSlice (cellsI (sortI ks)) s | none => none)
      | none => none)
    | none => none) else none
  | _ => none
def sortedL (fs : List Nat) (args : List A) (s : St) : Option (V × St) := match args with
  | [.c (.fn1 g (.ptr b o))] => bif fs.any (Nat.beq g) then (match s.load b o with
    | some m => (match getMap s m with
      | some l => (match keysL l with | some ks => newSlice (cellsL (sortL ks)) s | none => none)
      | none => none)
    | none => none) else none
  | _ => none
/-- maps.Clone. -/
def mapClone (args : List A) (s : St) : Option (V × St) := match args with
  | [.c .nilm] => some (.a (.c .nilm), s)
  | [.c (.map b)] => (match s.get b with | some (.map l) => some (.a (.c (.map s.nx)), s.new (.map l)) | _ => none)
  | _ => none

/-- tree.Clone: each node anew, with its kids anew. -/
def cloneNodes : List (C × A) → St → Option (List (C × A) × St)
  | [], s => some ([], s)
  | (k, .c (.ptr b o)) :: l, s => match s.loadN b o 4 with
    | some [d, ln, data, kids] => (match kids with
      | .nilm => (match cloneNodes l (s.new (.row [d, ln, data, .nilm])) with
        | some (r, s') => some ((k, .c (.ptr s.nx 0)) :: r, s')
        | none => none)
      | .map kb => (match s.get kb with
        | some (.map kl) => (match cloneNodes l ((s.new (.map kl)).new (.row [d, ln, data, .map s.nx])) with
          | some (r, s') => some ((k, .c (.ptr (Nat.succ s.nx) 0)) :: r, s')
          | none => none)
        | _ => none)
      | _ => none)
    | _ => none
  | _, _ => none
def treeClone (args : List A) (s : St) : Option (V × St) := match args with
  | [.c (.ptr b o)] => (match s.loadN b o 3 with
    | some [nodes, next, quota] => (match getMap s nodes with
      | some l => (match cloneNodes l s with
        | some (r, s') => some (.a (.c (.ptr (Nat.succ s'.nx) 0)), (s'.new (.map r)).new (.row [.map s'.nx, next, quota]))
        | none => none)
      | none => none)
    | _ => none)
  | _ => none
def usedNodes (s : St) : List (C × A) → Option Nat
  | [] => some 0
  | (_, .c (.ptr b o)) :: l => match s.load b (Nat.add o 2) with
    | some .nils => usedNodes s l
    | some (.slice _ _ n _ _ _) => (match usedNodes s l with | some m => some (Nat.add n m) | none => none)
    | _ => none
  | _ => none
def treeUsed (args : List A) (s : St) : Option (V × St) := match args with
  | [.c (.ptr b o)] => (match s.load b o with
    | some nodes => (match getMap s nodes with
      | some l => (match usedNodes s l with | some n => some (.a (.c (.int .i64 (.ofNat n))), s) | none => none)
      | none => none)
    | none => none)
  | _ => none
def looseNodes (s : St) : List (C × A) → Option (List Int)
  | [] => some []
  | (.int .i64 k, .c (.ptr b o)) :: l => match s.load b (Nat.add o 1) with
    | some (.int .i64 n) => (match looseNodes s l with | some r => some (bif eqI n 0 then k :: r else r) | none => none)
    | _ => none
  | _ => none
def treeLoose (args : List A) (s : St) : Option (V × St) := match args with
  | [.c (.ptr b o)] => (match s.load b o with
    | some nodes => (match getMap s nodes with
      | some l => (match looseNodes s l with | some ks => newSlice (cellsI (sortI ks)) s | none => none)
      | none => none)
    | none => none)
  | _ => none
def cntB (b : Nat) : List Nat → Nat
  | [] => 0
  | x :: l => bif Nat.beq x b then Nat.succ (cntB b l) else cntB b l
def idxB (b : Nat) : List Nat → Nat → Option Nat
  | [], _ => none
  | x :: l, i => bif Nat.beq x b then some i else idxB b l (Nat.succ i)
def countS (args : List A) (s : St) : Option (V × St) := match args with
  | [.c (.str l), .c (.int .u8 (.ofNat b))] => bif Nat.blt b 256 then some (.a (.c (.int .i64 (.ofNat (cntB b l)))), s) else none
  | _ => none
def indexB (args : List A) (s : St) : Option (V × St) := match args with
  | [.c (.str l), .c (.int .u8 (.ofNat b))] => bif Nat.blt b 256 then some (.a (.c (.int .i64 (match idxB b l 0 with | some i => .ofNat i | none => .negSucc 0))), s) else none
  | _ => none
end Go.AX

namespace Go.AX
open Go

/-! ### The same, fast in the kernel: each operation its own small function, recursors alone -/
section
variable {α β γ : Type}
noncomputable def getQ (p : Pos) : T α → Option α := @Pos.rec (fun _ => T α → Option α) (fun t => @T.rec α (fun _ => Option α) none (fun _ v _ _ _ => v) t) (fun _ ih t => @T.rec α (fun _ => Option α) none (fun l _ _ _ _ => ih l) t) (fun _ ih t => @T.rec α (fun _ => Option α) none (fun _ _ r _ _ => ih r) t) p
noncomputable def setQ (v : Option α) (p : Pos) : T α → T α := @Pos.rec (fun _ => T α → T α) (fun t => @T.rec α (fun _ => T α) (.n .e v .e) (fun l _ r _ _ => .n l v r) t) (fun _ ih t => @T.rec α (fun _ => T α) (.n (ih .e) none .e) (fun l x r _ _ => .n (ih l) x r) t) (fun _ ih t => @T.rec α (fun _ => T α) (.n .e none (ih .e)) (fun l x r _ _ => .n l x (ih r)) t) p
theorem getQ_eq : ∀ (p : Pos) (t : T α), getQ p t = t.get p
  | .h, .e => rfl
  | .h, .n .. => rfl
  | .o p, .e => rfl
  | .i p, .e => rfl
  | .o p, .n l _ _ => getQ_eq p l
  | .i p, .n _ _ r => getQ_eq p r
theorem setQ_eq (v : Option α) : ∀ (p : Pos) (t : T α), setQ v p t = t.set v p
  | .h, .e => rfl
  | .h, .n .. => rfl
  | .o p, .e => congrArg (fun x => T.n x none .e) (setQ_eq v p .e)
  | .i p, .e => congrArg (fun x => T.n .e none x) (setQ_eq v p .e)
  | .o p, .n l y r => congrArg (fun x => T.n x y r) (setQ_eq v p l)
  | .i p, .n l y r => congrArg (fun x => T.n l y x) (setQ_eq v p r)
end
noncomputable def evQ (tm : Tm) (x : Opd) : Option V := @Opd.rec (fun _ => Option V) (fun p => getQ p tm) (fun a => some (.a a)) x
theorem evQ_eq (tm : Tm) (x : Opd) : evQ tm x = ev tm x := by cases x; exact getQ_eq _ _; rfl
noncomputable def evAQ (tm : Tm) (x : Opd) : Option A := @Option.rec V (fun _ => Option A) none (fun v => @V.rec (fun _ => Option A) (fun a => some a) (fun _ => none) v) (evQ tm x)
noncomputable def evCQ (tm : Tm) (x : Opd) : Option C := @Option.rec V (fun _ => Option C) none (fun v => @V.rec (fun _ => Option C) (fun a => @A.rec (fun _ => Option C) (fun c => some c) (fun _ => none) a) (fun _ => none) v) (evQ tm x)
noncomputable def evIQ (tm : Tm) (x : Opd) : Option Int := match evCQ tm x with | some (.int _ n) => some n | _ => none
theorem evAQ_eq (tm : Tm) (x : Opd) : evAQ tm x = evA tm x := by
  unfold evAQ evA; rw [evQ_eq]
  cases ev tm x with
  | none => rfl
  | some v => cases v <;> rfl
theorem evCQ_eq (tm : Tm) (x : Opd) : evCQ tm x = evC tm x := by
  unfold evCQ evC; rw [evQ_eq]
  cases ev tm x with
  | none => rfl
  | some v => cases v with
    | a a => cases a <;> rfl
    | tup l => rfl
theorem evIQ_eq (tm : Tm) (x : Opd) : evIQ tm x = evI tm x := by
  unfold evIQ evI; rw [evCQ_eq]; unfold evC
  cases ev tm x with
  | none => rfl
  | some v => cases v with
    | a a => cases a with
      | c c => cases c <;> rfl
      | agg l => rfl
    | tup l => rfl
noncomputable def evAsQ (tm : Tm) : List Opd → Option (List A)
  | [] => some []
  | x :: xs => match evAQ tm x with | some a => (match evAsQ tm xs with | some l => some (a :: l) | none => none) | none => none
theorem evAsQ_eq (tm : Tm) : ∀ l, evAsQ tm l = evAs tm l
  | [] => rfl
  | x :: l => by unfold evAsQ evAs; rw [evAQ_eq, evAsQ_eq tm l]; rfl
noncomputable def getS (s : St) (b : Nat) : Option Obj := getQ (.ofNat b) s.h
theorem getS_eq (s : St) (b : Nat) : getS s b = s.get b := getQ_eq _ _
noncomputable def putS (s : St) (b : Nat) (o : Obj) : St := { s with h := setQ (some o) (.ofNat b) s.h }
theorem putS_eq (s : St) (b : Nat) (o : Obj) : putS s b o = s.put b o := by unfold putS St.put; rw [setQ_eq]
noncomputable def newS (s : St) (o : Obj) : St := { s with h := setQ (some o) (.ofNat s.nx) s.h, nx := Nat.succ s.nx }
theorem newS_eq (s : St) (o : Obj) : newS s o = s.new o := by unfold newS St.new; rw [setQ_eq]
noncomputable def ldQ (s : St) (b o : Nat) : Option C := match getS s b with
  | some (.cells n d t _) => bif Nat.blt o n then some (tget d t o) else none
  | some _ => none
  | none => match s.getR b with
    | some x => bif Nat.blt o x.n then some (tget x.d x.t o) else none
    | none => none
theorem ldQ_eq (s : St) (b o : Nat) : ldQ s b o = s.load b o := by unfold ldQ St.load; rw [getS_eq]; rfl
noncomputable def ldNQ (s : St) (b o k : Nat) : Option (List C) := match getS s b with
  | some (.cells n d t _) => bif Nat.ble (Nat.add o k) n then forceL (tgetN d t o k) else none
  | some _ => none
  | none => match s.getR b with
    | some x => bif Nat.ble (Nat.add o k) x.n then forceL (tgetN x.d x.t o k) else none
    | none => none
theorem ldNQ_eq (s : St) (b o k : Nat) : ldNQ s b o k = s.loadN b o k := by unfold ldNQ St.loadN; rw [getS_eq]; rfl
noncomputable def stNQ (s : St) (b o : Nat) (l : List C) : Option St := match getS s b with
  | some (.cells n d t f) => bif Nat.ble (Nat.add o l.length) n then some (putS s b (.cells n d (tsetN t o l) f)) else none
  | _ => none
theorem stNQ_eq (s : St) (b o : Nat) (l : List C) : stNQ s b o l = s.storeN b o l := by unfold stNQ St.storeN; rw [getS_eq]; simp only [putS_eq]; rfl
noncomputable def getMapQ (s : St) : C → Option (List (C × A))
  | .nilm => some []
  | .map b => match getS s b with | some (.map l) => some l | _ => none
  | _ => none
theorem getMapQ_eq (s : St) (c : C) : getMapQ s c = getMap s c := by unfold getMapQ getMap; simp only [getS_eq]; rfl
abbrev CallT := Nat → List A → St → Option (V × St)

noncomputable def v_mov (x : Opd) (tm : Tm) (s : St) : Option V := evQ tm x
noncomputable def r_mov (x : Opd) (_ : Cfg) (_ : CallT) (tm : Tm) (s : St) : Option (V × St) := same s (v_mov x tm s)
noncomputable def v_pick (c : Opd) (a : Opd) (b : Opd) (tm : Tm) (s : St) : Option V := match evCQ tm c with | some (.bool true) => evQ tm a | some (.bool false) => evQ tm b | _ => none
noncomputable def r_pick (c : Opd) (a : Opd) (b : Opd) (_ : Cfg) (_ : CallT) (tm : Tm) (s : St) : Option (V × St) := same s (v_pick c a b tm s)
noncomputable def r_alloc (zero : List C) (cfg : Cfg) (call : CallT) (tm : Tm) (s : St) : Option (V × St) := some (.a (.c (.ptr s.nx 0)), newS s (.row zero))
noncomputable def r_box (x : Opd) (cfg : Cfg) (call : CallT) (tm : Tm) (s : St) : Option (V × St) := match evAQ tm x with | some a => some (.a (.c (.ptr s.nx 0)), newS s (.row a.cells)) | none => none
noncomputable def v_build (zero : List C) (parts : List (Nat × Nat × Opd)) (tm : Tm) (s : St) : Option V := match fillParts tm zero parts with | some l => some (.a (.agg l)) | none => none
noncomputable def r_build (zero : List C) (parts : List (Nat × Nat × Opd)) (_ : Cfg) (_ : CallT) (tm : Tm) (s : St) : Option (V × St) := same s (v_build zero parts tm s)
noncomputable def r_bslice (n : Nat) (z : Nat) (zero : List C) (parts : List (Nat × Nat × Opd)) (cfg : Cfg) (call : CallT) (tm : Tm) (s : St) : Option (V × St) := match fillParts tm zero parts with
    | some l => some (.a (.c (.slice s.nx 0 n n z true)), newS s (.row l))
    | none => none
noncomputable def v_load1 (x : Opd) (tm : Tm) (s : St) : Option V := match evCQ tm x with | some (.ptr b o) => (match ldQ s b o with | some c => one c | none => none) | _ => none
noncomputable def r_load1 (x : Opd) (_ : Cfg) (_ : CallT) (tm : Tm) (s : St) : Option (V × St) := same s (v_load1 x tm s)
noncomputable def v_loadN (n : Nat) (x : Opd) (tm : Tm) (s : St) : Option V := match evCQ tm x with | some (.ptr b o) => (match ldNQ s b o n with | some l => some (.a (.agg l)) | none => none) | _ => none
noncomputable def r_loadN (n : Nat) (x : Opd) (_ : Cfg) (_ : CallT) (tm : Tm) (s : St) : Option (V × St) := same s (v_loadN n x tm s)
noncomputable def r_store (n : Nat) (a : Opd) (v : Opd) (cfg : Cfg) (call : CallT) (tm : Tm) (s : St) : Option (V × St) := match evCQ tm a, evAQ tm v with
    | some (.ptr b o), some v => bif Nat.beq v.cells.length n then (match stNQ s b o v.cells with | some s' => some (.tup [], s') | none => none) else none
    | _, _ => none
noncomputable def v_nchk (x : Opd) (tm : Tm) (s : St) : Option V := match evCQ tm x with
    | some (.ptr b o) => one (.ptr b o)
    | some (.iface t v) => one (.iface t v)
    | some (.fn0 f) => one (.fn0 f)
    | some (.fn1 f c) => one (.fn1 f c)
    | some (.fn2 f c d) => one (.fn2 f c d)
    | some (.fnb f c) => one (.fnb f c)
    | _ => none
noncomputable def r_nchk (x : Opd) (_ : Cfg) (_ : CallT) (tm : Tm) (s : St) : Option (V × St) := same s (v_nchk x tm s)
noncomputable def v_bin (op : BinOp) (ek : EqK) (x : Opd) (y : Opd) (tm : Tm) (s : St) : Option V := match evAQ tm x, evAQ tm y with
    | some (.c (.int k a)), some (.c (.int l b)) => (match op with
      | .shl => (match shBin op k a b with | some c => one c | none => none)
      | .shr => (match shBin op k a b with | some c => one c | none => none)
      | _ => match decEq k l with | isTrue _ => (match intBin op k a b with | some c => one c | none => none) | isFalse _ => none)
    | some (.c (.str a)), some (.c (.str b)) => (match strBin op a b with | some c => one c | none => none)
    | some (.c (.sym k)), some (.c (.int .i64 (.ofNat c))) => symBin op k c
    | some a, some b => (match op with
      | .eql => (match eqA s ek a b with | some r => one (.bool r) | none => none)
      | .neq => (match eqA s ek a b with | some r => one (.bool (Bool.not r)) | none => none)
      | _ => none)
    | _, _ => none
noncomputable def r_bin (op : BinOp) (ek : EqK) (x : Opd) (y : Opd) (_ : Cfg) (_ : CallT) (tm : Tm) (s : St) : Option (V × St) := same s (v_bin op ek x y tm s)
noncomputable def v_not (x : Opd) (tm : Tm) (s : St) : Option V := match evCQ tm x with | some (.bool true) => one (.bool false) | some (.bool false) => one (.bool true) | _ => none
noncomputable def r_not (x : Opd) (_ : Cfg) (_ : CallT) (tm : Tm) (s : St) : Option (V × St) := same s (v_not x tm s)
noncomputable def v_neg (x : Opd) (tm : Tm) (s : St) : Option V := match evCQ tm x with | some (.int k n) => one (.int k (wrapF k (subI 0 n))) | _ => none
noncomputable def r_neg (x : Opd) (_ : Cfg) (_ : CallT) (tm : Tm) (s : St) : Option (V × St) := same s (v_neg x tm s)
noncomputable def v_compl (x : Opd) (tm : Tm) (s : St) : Option V := match evCQ tm x with | some (.int k n) => one (.int k (wrapF k (.ofNat (Nat.xor (toBits k n) (Nat.pred (fullK k)))))) | _ => none
noncomputable def r_compl (x : Opd) (_ : Cfg) (_ : CallT) (tm : Tm) (s : St) : Option (V × St) := same s (v_compl x tm s)
noncomputable def v_cvInt (k : IntKind) (x : Opd) (tm : Tm) (s : St) : Option V := match evCQ tm x with | some (.int _ n) => one (.int k (wrapF k n)) | _ => none
noncomputable def r_cvInt (k : IntKind) (x : Opd) (_ : Cfg) (_ : CallT) (tm : Tm) (s : St) : Option (V × St) := same s (v_cvInt k x tm s)
noncomputable def v_cvRune (x : Opd) (tm : Tm) (s : St) : Option V := match evCQ tm x with | some (.int _ (.ofNat n)) => (bif Nat.blt n 128 then one (.str [n]) else none) | _ => none
noncomputable def r_cvRune (x : Opd) (_ : Cfg) (_ : CallT) (tm : Tm) (s : St) : Option (V × St) := same s (v_cvRune x tm s)
noncomputable def v_cvSS (x : Opd) (tm : Tm) (s : St) : Option V := match evCQ tm x with | some (.str l) => one (.str l) | _ => none
noncomputable def r_cvSS (x : Opd) (_ : Cfg) (_ : CallT) (tm : Tm) (s : St) : Option (V × St) := same s (v_cvSS x tm s)
noncomputable def r_cvBytes (x : Opd) (cfg : Cfg) (call : CallT) (tm : Tm) (s : St) : Option (V × St) := match evCQ tm x with
    | some (.str l) => some (.a (.c (.slice s.nx 0 l.length l.length 1 false)), newS s (.row (byteCells l) true))
    | _ => none
noncomputable def v_cvStr (x : Opd) (tm : Tm) (s : St) : Option V := match evCQ tm x with
    | some .nils => one (.str [])
    | some (.slice b o l _ _ _) => bif Nat.beq l 0 then one (.str []) else (match ldNQ s b o l with | some cs => (match bytesOf cs with | some r => one (.str r) | none => none) | none => none)
    | _ => none
noncomputable def r_cvStr (x : Opd) (_ : Cfg) (_ : CallT) (tm : Tm) (s : St) : Option (V × St) := same s (v_cvStr x tm s)
noncomputable def v_mkif (t : Nat) (x : Opd) (tm : Tm) (s : St) : Option V := match evCQ tm x with | some c => one (.iface t c) | none => none
noncomputable def r_mkif (t : Nat) (x : Opd) (_ : Cfg) (_ : CallT) (tm : Tm) (s : St) : Option (V × St) := same s (v_mkif t x tm s)
noncomputable def v_mkfn (f : Nat) (cs : List Opd) (tm : Tm) (s : St) : Option V := match evCs tm cs with
    | some [] => one (.fn0 f)
    | some [c] => one (.fn1 f c)
    | some [c, d] => one (.fn2 f c d)
    | _ => none
noncomputable def r_mkfn (f : Nat) (cs : List Opd) (_ : Cfg) (_ : CallT) (tm : Tm) (s : St) : Option (V × St) := same s (v_mkfn f cs tm s)
noncomputable def r_mkmap  (cfg : Cfg) (call : CallT) (tm : Tm) (s : St) : Option (V × St) := some (.a (.c (.map s.nx)), newS s (.map []))
noncomputable def r_mkslice (bytes : Nat) (zero : List C) (l : Opd) (c : Opd) (cfg : Cfg) (call : CallT) (tm : Tm) (s : St) : Option (V × St) := match evIQ tm l, evIQ tm c with
    | some (.ofNat l), some (.ofNat c) => bif and (Nat.ble l c) (Nat.ble (Nat.mul c bytes) 1099511627776) then
        (match zero with
        | [z] => some (.a (.c (.slice s.nx 0 l c 1 true)), newS s (.cells c z .e false))
        | zs => (match IOp.eff.allSame zs with
          | some z => some (.a (.c (.slice s.nx 0 l c zs.length true)), newS s (.cells (Nat.mul c zs.length) z .e false))
          | none => some (.a (.c (.slice s.nx 0 l c zs.length true)), newS s (.row (IOp.eff.rep zs c)))))
      else none
    | _, _ => none
noncomputable def v_slcS (x : Opd) (lo : Option Opd) (hi : Option Opd) (tm : Tm) (s : St) : Option V := match evCQ tm x with
    | some (.str l) => (match bounds tm l.length l.length lo hi none with | some (a, b, _) => one (.str ((l.drop a).take (Nat.sub b a))) | none => none)
    | _ => none
noncomputable def r_slcS (x : Opd) (lo : Option Opd) (hi : Option Opd) (_ : Cfg) (_ : CallT) (tm : Tm) (s : St) : Option (V × St) := same s (v_slcS x lo hi tm s)
noncomputable def v_slcV (size : Nat) (x : Opd) (lo : Option Opd) (hi : Option Opd) (mx : Option Opd) (tm : Tm) (s : St) : Option V := match evCQ tm x with
    | some .nils => (match bounds tm 0 0 lo hi mx with | some (0, 0, 0) => one .nils | _ => none)
    | some (.slice b o l c z ex) => bif Nat.beq z size then (match bounds tm l c lo hi mx with
      | some (p, q, r) => one (.slice b (Nat.add o (Nat.mul p size)) (Nat.sub q p) (Nat.sub r p) z (match mx with | some _ => true | none => ex))
      | none => none) else none
    | _ => none
noncomputable def r_slcV (size : Nat) (x : Opd) (lo : Option Opd) (hi : Option Opd) (mx : Option Opd) (_ : Cfg) (_ : CallT) (tm : Tm) (s : St) : Option (V × St) := same s (v_slcV size x lo hi mx tm s)
noncomputable def v_slcA (n : Nat) (size : Nat) (x : Opd) (lo : Option Opd) (hi : Option Opd) (tm : Tm) (s : St) : Option V := match evCQ tm x with
    | some (.ptr b o) => (match bounds tm n n lo hi none with
      | some (p, q, r) => one (.slice b (Nat.add o (Nat.mul p size)) (Nat.sub q p) (Nat.sub r p) size true)
      | none => none)
    | _ => none
noncomputable def r_slcA (n : Nat) (size : Nat) (x : Opd) (lo : Option Opd) (hi : Option Opd) (_ : Cfg) (_ : CallT) (tm : Tm) (s : St) : Option (V × St) := same s (v_slcA n size x lo hi tm s)
noncomputable def v_faddr (off : Nat) (x : Opd) (tm : Tm) (s : St) : Option V := match evCQ tm x with | some (.ptr b o) => one (.ptr b (Nat.add o off)) | _ => none
noncomputable def r_faddr (off : Nat) (x : Opd) (_ : Cfg) (_ : CallT) (tm : Tm) (s : St) : Option (V × St) := same s (v_faddr off x tm s)
noncomputable def v_fld1 (off : Nat) (x : Opd) (tm : Tm) (s : St) : Option V := match evAQ tm x with | some (.agg l) => (match l[off]? with | some c => one c | none => none) | _ => none
noncomputable def r_fld1 (off : Nat) (x : Opd) (_ : Cfg) (_ : CallT) (tm : Tm) (s : St) : Option (V × St) := same s (v_fld1 off x tm s)
noncomputable def v_fldN (off : Nat) (n : Nat) (x : Opd) (tm : Tm) (s : St) : Option V := match evAQ tm x with | some (.agg l) => (bif Nat.ble (Nat.add off n) l.length then some (.a (.agg ((l.drop off).take n))) else none) | _ => none
noncomputable def r_fldN (off : Nat) (n : Nat) (x : Opd) (_ : Cfg) (_ : CallT) (tm : Tm) (s : St) : Option (V × St) := same s (v_fldN off n x tm s)
noncomputable def v_iaddrA (ln : Nat) (size : Nat) (x : Opd) (i : Opd) (tm : Tm) (s : St) : Option V := match evCQ tm x, evIQ tm i with
    | some (.ptr b o), some (.ofNat n) => bif Nat.blt n ln then one (.ptr b (Nat.add o (Nat.mul n size))) else none
    | _, _ => none
noncomputable def r_iaddrA (ln : Nat) (size : Nat) (x : Opd) (i : Opd) (_ : Cfg) (_ : CallT) (tm : Tm) (s : St) : Option (V × St) := same s (v_iaddrA ln size x i tm s)
noncomputable def v_iaddrV (size : Nat) (x : Opd) (i : Opd) (tm : Tm) (s : St) : Option V := match evCQ tm x, evIQ tm i with
    | some (.slice b o l _ _ _), some (.ofNat n) => bif Nat.blt n l then one (.ptr b (Nat.add o (Nat.mul n size))) else none
    | _, _ => none
noncomputable def r_iaddrV (size : Nat) (x : Opd) (i : Opd) (_ : Cfg) (_ : CallT) (tm : Tm) (s : St) : Option (V × St) := same s (v_iaddrV size x i tm s)
noncomputable def v_idxA1 (ln : Nat) (x : Opd) (i : Opd) (tm : Tm) (s : St) : Option V := match evAQ tm x, evIQ tm i with
    | some (.agg l), some (.ofNat n) => bif Nat.blt n ln then (match l[n]? with | some c => one c | none => none) else none
    | _, _ => none
noncomputable def r_idxA1 (ln : Nat) (x : Opd) (i : Opd) (_ : Cfg) (_ : CallT) (tm : Tm) (s : St) : Option (V × St) := same s (v_idxA1 ln x i tm s)
noncomputable def v_idxAN (ln : Nat) (size : Nat) (x : Opd) (i : Opd) (tm : Tm) (s : St) : Option V := match evAQ tm x, evIQ tm i with
    | some (.agg l), some (.ofNat n) => bif and (Nat.blt n ln) (Nat.ble (Nat.mul (Nat.succ n) size) l.length) then some (.a (.agg ((l.drop (Nat.mul n size)).take size))) else none
    | _, _ => none
noncomputable def r_idxAN (ln : Nat) (size : Nat) (x : Opd) (i : Opd) (_ : Cfg) (_ : CallT) (tm : Tm) (s : St) : Option (V × St) := same s (v_idxAN ln size x i tm s)
noncomputable def v_idxS (x : Opd) (i : Opd) (tm : Tm) (s : St) : Option V := match evCQ tm x, evIQ tm i with
    | some (.str l), some (.ofNat n) => (match l[n]? with | some b => one (.int .u8 (.ofNat b)) | none => none)
    | _, _ => none
noncomputable def r_idxS (x : Opd) (i : Opd) (_ : Cfg) (_ : CallT) (tm : Tm) (s : St) : Option (V × St) := same s (v_idxS x i tm s)
noncomputable def v_look (ki : Bool) (zero : A) (ok : Bool) (m : Opd) (k : Opd) (tm : Tm) (s : St) : Option V := match evCQ tm m, evCQ tm k with
    | some m, some k => bif keyOk ki k then (match getMapQ s m with
      | some l => (match mfind k l with
        | some (some v) => (match ok with | true => some (.tup [v, .c (.bool true)]) | false => some (.a v))
        | some none => (match ok with | true => some (.tup [zero, .c (.bool false)]) | false => some (.a zero))
        | none => none)
      | none => none) else none
    | _, _ => none
noncomputable def r_look (ki : Bool) (zero : A) (ok : Bool) (m : Opd) (k : Opd) (_ : Cfg) (_ : CallT) (tm : Tm) (s : St) : Option (V × St) := same s (v_look ki zero ok m k tm s)
noncomputable def r_mupd (ki : Bool) (m : Opd) (k : Opd) (v : Opd) (cfg : Cfg) (call : CallT) (tm : Tm) (s : St) : Option (V × St) := match evCQ tm m, evCQ tm k, evAQ tm v with
    | some (.map b), some k, some v => bif keyOk ki k then (match getS s b with
      | some (.map l) => (match mfind k l with | some _ => some (.tup [], putS s b (.map (mset k v l))) | none => none)
      | _ => none) else none
    | _, _, _ => none
noncomputable def r_rngS (x : Opd) (cfg : Cfg) (call : CallT) (tm : Tm) (s : St) : Option (V × St) := match evCQ tm x with
    | some (.str l) => some (.a (.c (.ptr s.nx 0)), newS s (.siter l 0))
    | _ => none
noncomputable def r_nextS (x : Opd) (cfg : Cfg) (call : CallT) (tm : Tm) (s : St) : Option (V × St) := match evCQ tm x with
    | some (.ptr b 0) => (match getS s b with
      | some (.siter l p) => (match l[p]? with
        | none => some (.tup [.c (.bool false)], s)
        | some c => bif Nat.blt c 128 then some (.tup [.c (.bool true), .c (.int .i64 (.ofNat p)), .c (.int .i32 (.ofNat c))], putS s b (.siter l (Nat.succ p))) else none)
      | _ => none)
    | _ => none
noncomputable def v_ext (x : Opd) (i : Nat) (tm : Tm) (s : St) : Option V := match evQ tm x with | some (.tup l) => (match l[i]? with | some a => some (.a a) | none => none) | _ => none
noncomputable def r_ext (x : Opd) (i : Nat) (_ : Cfg) (_ : CallT) (tm : Tm) (s : St) : Option (V × St) := same s (v_ext x i tm s)
noncomputable def r_call (f : Nat) (args : List Opd) (cfg : Cfg) (call : CallT) (tm : Tm) (s : St) : Option (V × St) := match evAsQ tm args with | some ars => call f ars s | none => none
noncomputable def r_callv (f : Opd) (args : List Opd) (cfg : Cfg) (call : CallT) (tm : Tm) (s : St) : Option (V × St) := match evCQ tm f, evAsQ tm args with
    | some (.fn0 f), some ars => call f ars s
    | some (.fn1 f c), some ars => call f (ars ++ [.c c]) s
    | some (.fn2 f c d), some ars => call f (ars ++ [.c c, .c d]) s
    | some (.fnb f c), some ars => call f (.c c :: ars) s
    | _, _ => none
noncomputable def r_invoke (r : Opd) (m : String) (args : List Opd) (cfg : Cfg) (call : CallT) (tm : Tm) (s : St) : Option (V × St) := match evCQ tm r, evAsQ tm args with
    | some (.iface t v), some ars => (match cfg.meth t m with | some f => call f (.c v :: ars) s | none => none)
    | _, _ => none
noncomputable def v_len (k : LenK) (x : Opd) (tm : Tm) (s : St) : Option V := match k with
    | .const n => one (.int .i64 (.ofNat n))
    | .str => (match evCQ tm x with | some (.str l) => one (.int .i64 (.ofNat l.length)) | _ => none)
    | .slice => (match evCQ tm x with | some .nils => one (.int .i64 (.ofNat 0)) | some (.slice _ _ l _ _ _) => one (.int .i64 (.ofNat l)) | _ => none)
    | .map => (match evCQ tm x with | some m => (match getMapQ s m with | some l => one (.int .i64 (.ofNat l.length)) | none => none) | none => none)
noncomputable def r_len (k : LenK) (x : Opd) (_ : Cfg) (_ : CallT) (tm : Tm) (s : St) : Option (V × St) := same s (v_len k x tm s)
noncomputable def v_cap (x : Opd) (tm : Tm) (s : St) : Option V := match evCQ tm x with | some .nils => one (.int .i64 (.ofNat 0)) | some (.slice _ _ _ c _ true) => one (.int .i64 (.ofNat c)) | _ => none
noncomputable def r_cap (x : Opd) (_ : Cfg) (_ : CallT) (tm : Tm) (s : St) : Option (V × St) := same s (v_cap x tm s)
noncomputable def r_appendV (size : Nat) (bytes : Nat) (a : Opd) (b : Opd) (cfg : Cfg) (call : CallT) (tm : Tm) (s : St) : Option (V × St) := match evCQ tm a, evCQ tm b with
    | some a, some b => (match srcV size s b with | some (n, l) => appendTo size bytes n l s a | none => none)
    | _, _ => none
noncomputable def r_appendS (a : Opd) (b : Opd) (cfg : Cfg) (call : CallT) (tm : Tm) (s : St) : Option (V × St) := match evCQ tm a, evCQ tm b with
    | some a, some (.str l) => appendTo 1 1 l.length (byteCells l) s a
    | _, _ => none
noncomputable def r_appendZ (size : Nat) (bytes : Nat) (zero : List C) (a : Opd) (n : Opd) (cfg : Cfg) (call : CallT) (tm : Tm) (s : St) : Option (V × St) := match evCQ tm a, evIQ tm n with
    | some .nils, some (.ofNat n) => bif Nat.beq n 0 then some (.a (.c .nils), s) else
        bif Nat.ble (Nat.mul n bytes) 1099511627776 then some (.a (.c (.slice s.nx 0 n n size false)), newS s (.row (IOp.eff.rep zero n))) else none
    | _, _ => none
noncomputable def r_copyV (size : Nat) (a : Opd) (b : Opd) (cfg : Cfg) (call : CallT) (tm : Tm) (s : St) : Option (V × St) := match evCQ tm a, evCQ tm b with
    | some .nils, some b => (match srcV size s b with | some _ => some (.a (.c (.int .i64 (.ofNat 0))), s) | none => none)
    | some (.slice d o k _ _ _), some b => (match srcV size s b with
      | some (n, l) => copyTo size d o (bif Nat.ble n k then n else k) l s
      | none => none)
    | _, _ => none
noncomputable def r_copyS (a : Opd) (b : Opd) (cfg : Cfg) (call : CallT) (tm : Tm) (s : St) : Option (V × St) := match evCQ tm a, evCQ tm b with
    | some (.slice d o k _ _ _), some (.str l) => copyTo 1 d o (bif Nat.ble l.length k then l.length else k) (byteCells l) s
    | _, _ => none
noncomputable def r_delete (ki : Bool) (m : Opd) (k : Opd) (cfg : Cfg) (call : CallT) (tm : Tm) (s : St) : Option (V × St) := match evCQ tm m, evCQ tm k with
    | some .nilm, some k => bif keyOk ki k then some (.tup [], s) else none
    | some (.map b), some k => bif keyOk ki k then (match getS s b with
      | some (.map l) => (match mfind k l with | some _ => some (.tup [], putS s b (.map (mdel k l))) | none => none)
      | _ => none) else none
    | _, _ => none
noncomputable def r_clearM (x : Opd) (cfg : Cfg) (call : CallT) (tm : Tm) (s : St) : Option (V × St) := match evCQ tm x with
    | some .nilm => some (.tup [], s)
    | some (.map b) => (match getS s b with | some (.map _) => some (.tup [], putS s b (.map [])) | _ => none)
    | _ => none
noncomputable def r_clearV (zero : List C) (x : Opd) (cfg : Cfg) (call : CallT) (tm : Tm) (s : St) : Option (V × St) := match evCQ tm x with
    | some .nils => some (.tup [], s)
    | some (.slice b o l _ _ _) => bif Nat.beq l 0 then some (.tup [], s) else (match stNQ s b o (IOp.eff.rep zero l) with | some s' => some (.tup [], s') | none => none)
    | _ => none
noncomputable def v_min (xs : List Opd) (tm : Tm) (s : St) : Option V := match evCs tm xs with
    | some (.int k a :: l) => (match IOp.val.intsOf l with | some r => one (.int k (foldI ltI a r)) | none => none)
    | _ => none
noncomputable def r_min (xs : List Opd) (_ : Cfg) (_ : CallT) (tm : Tm) (s : St) : Option (V × St) := same s (v_min xs tm s)
noncomputable def v_max (xs : List Opd) (tm : Tm) (s : St) : Option V := match evCs tm xs with
    | some (.int k a :: l) => (match IOp.val.intsOf l with | some r => one (.int k (foldI (fun x y => ltI y x) a r)) | none => none)
    | _ => none
noncomputable def r_max (xs : List Opd) (_ : Cfg) (_ : CallT) (tm : Tm) (s : St) : Option (V × St) := same s (v_max xs tm s)
noncomputable def r_cvMark (x : Opd) (cfg : Cfg) (call : CallT) (tm : Tm) (s : St) : Option (V × St) := match evCQ tm x with
    | some (.slice b o l c z ex) => (match getS s b with | some (.cells n d t _) => some (.a (.c (.slice b o l c z ex)), putS s b (.cells n d t true)) | _ => none)
    | _ => none
noncomputable def v_mkbd (f : Nat) (x : Opd) (tm : Tm) (s : St) : Option V := match evCQ tm x with | some c => one (.fnb f c) | none => none
noncomputable def r_mkbd (f : Nat) (x : Opd) (_ : Cfg) (_ : CallT) (tm : Tm) (s : St) : Option (V × St) := same s (v_mkbd f x tm s)
noncomputable def r_bad  (cfg : Cfg) (call : CallT) (tm : Tm) (s : St) : Option (V × St) := none
noncomputable def runQ : IOp → Cfg → CallT → Tm → St → Option (V × St) := @IOp.rec (fun _ => Cfg → CallT → Tm → St → Option (V × St)) r_mov r_pick r_alloc r_box r_build r_bslice r_load1 r_loadN r_store r_nchk r_bin r_not r_neg r_compl r_cvInt r_cvRune r_cvSS r_cvBytes r_cvStr r_mkif r_mkfn r_mkmap r_mkslice r_slcS r_slcV r_slcA r_faddr r_fld1 r_fldN r_iaddrA r_iaddrV r_idxA1 r_idxAN r_idxS r_look r_mupd r_rngS r_nextS r_ext r_call r_callv r_invoke r_len r_cap r_appendV r_appendS r_appendZ r_copyV r_copyS r_delete r_clearM r_clearV r_min r_max r_cvMark r_mkbd r_bad
theorem runQ_eq (o : IOp) (cfg : Cfg) (call : CallT) (tm : Tm) (s : St) : runQ o cfg call tm s = o.run cfg call tm s := by
  cases o
  case mov a0 =>
    show r_mov a0 cfg call tm s = _
    unfold r_mov v_mov
    try simp only [evQ_eq, evCQ_eq, evAQ_eq, evIQ_eq, evAsQ_eq, getS_eq, putS_eq, newS_eq, ldQ_eq, ldNQ_eq, stNQ_eq, getMapQ_eq]
    rfl
  case pick a0 a1 a2 =>
    show r_pick a0 a1 a2 cfg call tm s = _
    unfold r_pick v_pick
    try simp only [evQ_eq, evCQ_eq, evAQ_eq, evIQ_eq, evAsQ_eq, getS_eq, putS_eq, newS_eq, ldQ_eq, ldNQ_eq, stNQ_eq, getMapQ_eq]
    rfl
  case alloc a0 =>
    show r_alloc a0 cfg call tm s = _
    unfold r_alloc
    try simp only [evQ_eq, evCQ_eq, evAQ_eq, evIQ_eq, evAsQ_eq, getS_eq, putS_eq, newS_eq, ldQ_eq, ldNQ_eq, stNQ_eq, getMapQ_eq]
    rfl
  case box a0 =>
    show r_box a0 cfg call tm s = _
    unfold r_box
    try simp only [evQ_eq, evCQ_eq, evAQ_eq, evIQ_eq, evAsQ_eq, getS_eq, putS_eq, newS_eq, ldQ_eq, ldNQ_eq, stNQ_eq, getMapQ_eq]
    rfl
  case build a0 a1 =>
    show r_build a0 a1 cfg call tm s = _
    unfold r_build v_build
    try simp only [evQ_eq, evCQ_eq, evAQ_eq, evIQ_eq, evAsQ_eq, getS_eq, putS_eq, newS_eq, ldQ_eq, ldNQ_eq, stNQ_eq, getMapQ_eq]
    rfl
  case bslice a0 a1 a2 a3 =>
    show r_bslice a0 a1 a2 a3 cfg call tm s = _
    unfold r_bslice
    try simp only [evQ_eq, evCQ_eq, evAQ_eq, evIQ_eq, evAsQ_eq, getS_eq, putS_eq, newS_eq, ldQ_eq, ldNQ_eq, stNQ_eq, getMapQ_eq]
    rfl
  case load1 a0 =>
    show r_load1 a0 cfg call tm s = _
    unfold r_load1 v_load1
    try simp only [evQ_eq, evCQ_eq, evAQ_eq, evIQ_eq, evAsQ_eq, getS_eq, putS_eq, newS_eq, ldQ_eq, ldNQ_eq, stNQ_eq, getMapQ_eq]
    rfl
  case loadN a0 a1 =>
    show r_loadN a0 a1 cfg call tm s = _
    unfold r_loadN v_loadN
    try simp only [evQ_eq, evCQ_eq, evAQ_eq, evIQ_eq, evAsQ_eq, getS_eq, putS_eq, newS_eq, ldQ_eq, ldNQ_eq, stNQ_eq, getMapQ_eq]
    rfl
  case store a0 a1 a2 =>
    show r_store a0 a1 a2 cfg call tm s = _
    unfold r_store
    try simp only [evQ_eq, evCQ_eq, evAQ_eq, evIQ_eq, evAsQ_eq, getS_eq, putS_eq, newS_eq, ldQ_eq, ldNQ_eq, stNQ_eq, getMapQ_eq]
    rfl
  case nchk a0 =>
    show r_nchk a0 cfg call tm s = _
    unfold r_nchk v_nchk
    try simp only [evQ_eq, evCQ_eq, evAQ_eq, evIQ_eq, evAsQ_eq, getS_eq, putS_eq, newS_eq, ldQ_eq, ldNQ_eq, stNQ_eq, getMapQ_eq]
    rfl
  case bin a0 a1 a2 a3 =>
    show r_bin a0 a1 a2 a3 cfg call tm s = _
    unfold r_bin v_bin
    try simp only [evQ_eq, evCQ_eq, evAQ_eq, evIQ_eq, evAsQ_eq, getS_eq, putS_eq, newS_eq, ldQ_eq, ldNQ_eq, stNQ_eq, getMapQ_eq]
    rfl
  case not a0 =>
    show r_not a0 cfg call tm s = _
    unfold r_not v_not
    try simp only [evQ_eq, evCQ_eq, evAQ_eq, evIQ_eq, evAsQ_eq, getS_eq, putS_eq, newS_eq, ldQ_eq, ldNQ_eq, stNQ_eq, getMapQ_eq]
    rfl
  case neg a0 =>
    show r_neg a0 cfg call tm s = _
    unfold r_neg v_neg
    try simp only [evQ_eq, evCQ_eq, evAQ_eq, evIQ_eq, evAsQ_eq, getS_eq, putS_eq, newS_eq, ldQ_eq, ldNQ_eq, stNQ_eq, getMapQ_eq]
    rfl
  case compl a0 =>
    show r_compl a0 cfg call tm s = _
    unfold r_compl v_compl
    try simp only [evQ_eq, evCQ_eq, evAQ_eq, evIQ_eq, evAsQ_eq, getS_eq, putS_eq, newS_eq, ldQ_eq, ldNQ_eq, stNQ_eq, getMapQ_eq]
    rfl
  case cvInt a0 a1 =>
    show r_cvInt a0 a1 cfg call tm s = _
    unfold r_cvInt v_cvInt
    try simp only [evQ_eq, evCQ_eq, evAQ_eq, evIQ_eq, evAsQ_eq, getS_eq, putS_eq, newS_eq, ldQ_eq, ldNQ_eq, stNQ_eq, getMapQ_eq]
    rfl
  case cvRune a0 =>
    show r_cvRune a0 cfg call tm s = _
    unfold r_cvRune v_cvRune
    try simp only [evQ_eq, evCQ_eq, evAQ_eq, evIQ_eq, evAsQ_eq, getS_eq, putS_eq, newS_eq, ldQ_eq, ldNQ_eq, stNQ_eq, getMapQ_eq]
    rfl
  case cvSS a0 =>
    show r_cvSS a0 cfg call tm s = _
    unfold r_cvSS v_cvSS
    try simp only [evQ_eq, evCQ_eq, evAQ_eq, evIQ_eq, evAsQ_eq, getS_eq, putS_eq, newS_eq, ldQ_eq, ldNQ_eq, stNQ_eq, getMapQ_eq]
    rfl
  case cvBytes a0 =>
    show r_cvBytes a0 cfg call tm s = _
    unfold r_cvBytes
    try simp only [evQ_eq, evCQ_eq, evAQ_eq, evIQ_eq, evAsQ_eq, getS_eq, putS_eq, newS_eq, ldQ_eq, ldNQ_eq, stNQ_eq, getMapQ_eq]
    rfl
  case cvStr a0 =>
    show r_cvStr a0 cfg call tm s = _
    unfold r_cvStr v_cvStr
    try simp only [evQ_eq, evCQ_eq, evAQ_eq, evIQ_eq, evAsQ_eq, getS_eq, putS_eq, newS_eq, ldQ_eq, ldNQ_eq, stNQ_eq, getMapQ_eq]
    rfl
  case mkif a0 a1 =>
    show r_mkif a0 a1 cfg call tm s = _
    unfold r_mkif v_mkif
    try simp only [evQ_eq, evCQ_eq, evAQ_eq, evIQ_eq, evAsQ_eq, getS_eq, putS_eq, newS_eq, ldQ_eq, ldNQ_eq, stNQ_eq, getMapQ_eq]
    rfl
  case mkfn a0 a1 =>
    show r_mkfn a0 a1 cfg call tm s = _
    unfold r_mkfn v_mkfn
    try simp only [evQ_eq, evCQ_eq, evAQ_eq, evIQ_eq, evAsQ_eq, getS_eq, putS_eq, newS_eq, ldQ_eq, ldNQ_eq, stNQ_eq, getMapQ_eq]
    rfl
  case mkmap  =>
    show r_mkmap  cfg call tm s = _
    unfold r_mkmap
    try simp only [evQ_eq, evCQ_eq, evAQ_eq, evIQ_eq, evAsQ_eq, getS_eq, putS_eq, newS_eq, ldQ_eq, ldNQ_eq, stNQ_eq, getMapQ_eq]
    rfl
  case mkslice a0 a1 a2 a3 =>
    show r_mkslice a0 a1 a2 a3 cfg call tm s = _
    unfold r_mkslice
    try simp only [evQ_eq, evCQ_eq, evAQ_eq, evIQ_eq, evAsQ_eq, getS_eq, putS_eq, newS_eq, ldQ_eq, ldNQ_eq, stNQ_eq, getMapQ_eq]
    rfl
  case slcS a0 a1 a2 =>
    show r_slcS a0 a1 a2 cfg call tm s = _
    unfold r_slcS v_slcS
    try simp only [evQ_eq, evCQ_eq, evAQ_eq, evIQ_eq, evAsQ_eq, getS_eq, putS_eq, newS_eq, ldQ_eq, ldNQ_eq, stNQ_eq, getMapQ_eq]
    rfl
  case slcV a0 a1 a2 a3 a4 =>
    show r_slcV a0 a1 a2 a3 a4 cfg call tm s = _
    unfold r_slcV v_slcV
    try simp only [evQ_eq, evCQ_eq, evAQ_eq, evIQ_eq, evAsQ_eq, getS_eq, putS_eq, newS_eq, ldQ_eq, ldNQ_eq, stNQ_eq, getMapQ_eq]
    rfl
  case slcA a0 a1 a2 a3 a4 =>
    show r_slcA a0 a1 a2 a3 a4 cfg call tm s = _
    unfold r_slcA v_slcA
    try simp only [evQ_eq, evCQ_eq, evAQ_eq, evIQ_eq, evAsQ_eq, getS_eq, putS_eq, newS_eq, ldQ_eq, ldNQ_eq, stNQ_eq, getMapQ_eq]
    rfl
  case faddr a0 a1 =>
    show r_faddr a0 a1 cfg call tm s = _
    unfold r_faddr v_faddr
    try simp only [evQ_eq, evCQ_eq, evAQ_eq, evIQ_eq, evAsQ_eq, getS_eq, putS_eq, newS_eq, ldQ_eq, ldNQ_eq, stNQ_eq, getMapQ_eq]
    rfl
  case fld1 a0 a1 =>
    show r_fld1 a0 a1 cfg call tm s = _
    unfold r_fld1 v_fld1
    try simp only [evQ_eq, evCQ_eq, evAQ_eq, evIQ_eq, evAsQ_eq, getS_eq, putS_eq, newS_eq, ldQ_eq, ldNQ_eq, stNQ_eq, getMapQ_eq]
    rfl
  case fldN a0 a1 a2 =>
    show r_fldN a0 a1 a2 cfg call tm s = _
    unfold r_fldN v_fldN
    try simp only [evQ_eq, evCQ_eq, evAQ_eq, evIQ_eq, evAsQ_eq, getS_eq, putS_eq, newS_eq, ldQ_eq, ldNQ_eq, stNQ_eq, getMapQ_eq]
    rfl
  case iaddrA a0 a1 a2 a3 =>
    show r_iaddrA a0 a1 a2 a3 cfg call tm s = _
    unfold r_iaddrA v_iaddrA
    try simp only [evQ_eq, evCQ_eq, evAQ_eq, evIQ_eq, evAsQ_eq, getS_eq, putS_eq, newS_eq, ldQ_eq, ldNQ_eq, stNQ_eq, getMapQ_eq]
    rfl
  case iaddrV a0 a1 a2 =>
    show r_iaddrV a0 a1 a2 cfg call tm s = _
    unfold r_iaddrV v_iaddrV
    try simp only [evQ_eq, evCQ_eq, evAQ_eq, evIQ_eq, evAsQ_eq, getS_eq, putS_eq, newS_eq, ldQ_eq, ldNQ_eq, stNQ_eq, getMapQ_eq]
    rfl
  case idxA1 a0 a1 a2 =>
    show r_idxA1 a0 a1 a2 cfg call tm s = _
    unfold r_idxA1 v_idxA1
    try simp only [evQ_eq, evCQ_eq, evAQ_eq, evIQ_eq, evAsQ_eq, getS_eq, putS_eq, newS_eq, ldQ_eq, ldNQ_eq, stNQ_eq, getMapQ_eq]
    rfl
  case idxAN a0 a1 a2 a3 =>
    show r_idxAN a0 a1 a2 a3 cfg call tm s = _
    unfold r_idxAN v_idxAN
    try simp only [evQ_eq, evCQ_eq, evAQ_eq, evIQ_eq, evAsQ_eq, getS_eq, putS_eq, newS_eq, ldQ_eq, ldNQ_eq, stNQ_eq, getMapQ_eq]
    rfl
  case idxS a0 a1 =>
    show r_idxS a0 a1 cfg call tm s = _
    unfold r_idxS v_idxS
    try simp only [evQ_eq, evCQ_eq, evAQ_eq, evIQ_eq, evAsQ_eq, getS_eq, putS_eq, newS_eq, ldQ_eq, ldNQ_eq, stNQ_eq, getMapQ_eq]
    rfl
  case look a0 a1 a2 a3 a4 =>
    show r_look a0 a1 a2 a3 a4 cfg call tm s = _
    unfold r_look v_look
    try simp only [evQ_eq, evCQ_eq, evAQ_eq, evIQ_eq, evAsQ_eq, getS_eq, putS_eq, newS_eq, ldQ_eq, ldNQ_eq, stNQ_eq, getMapQ_eq]
    rfl
  case mupd a0 a1 a2 a3 =>
    show r_mupd a0 a1 a2 a3 cfg call tm s = _
    unfold r_mupd
    try simp only [evQ_eq, evCQ_eq, evAQ_eq, evIQ_eq, evAsQ_eq, getS_eq, putS_eq, newS_eq, ldQ_eq, ldNQ_eq, stNQ_eq, getMapQ_eq]
    rfl
  case rngS a0 =>
    show r_rngS a0 cfg call tm s = _
    unfold r_rngS
    try simp only [evQ_eq, evCQ_eq, evAQ_eq, evIQ_eq, evAsQ_eq, getS_eq, putS_eq, newS_eq, ldQ_eq, ldNQ_eq, stNQ_eq, getMapQ_eq]
    rfl
  case nextS a0 =>
    show r_nextS a0 cfg call tm s = _
    unfold r_nextS
    try simp only [evQ_eq, evCQ_eq, evAQ_eq, evIQ_eq, evAsQ_eq, getS_eq, putS_eq, newS_eq, ldQ_eq, ldNQ_eq, stNQ_eq, getMapQ_eq]
    rfl
  case ext a0 a1 =>
    show r_ext a0 a1 cfg call tm s = _
    unfold r_ext v_ext
    try simp only [evQ_eq, evCQ_eq, evAQ_eq, evIQ_eq, evAsQ_eq, getS_eq, putS_eq, newS_eq, ldQ_eq, ldNQ_eq, stNQ_eq, getMapQ_eq]
    rfl
  case call a0 a1 =>
    show r_call a0 a1 cfg call tm s = _
    unfold r_call
    try simp only [evQ_eq, evCQ_eq, evAQ_eq, evIQ_eq, evAsQ_eq, getS_eq, putS_eq, newS_eq, ldQ_eq, ldNQ_eq, stNQ_eq, getMapQ_eq]
    rfl
  case callv a0 a1 =>
    show r_callv a0 a1 cfg call tm s = _
    unfold r_callv
    try simp only [evQ_eq, evCQ_eq, evAQ_eq, evIQ_eq, evAsQ_eq, getS_eq, putS_eq, newS_eq, ldQ_eq, ldNQ_eq, stNQ_eq, getMapQ_eq]
    rfl
  case invoke a0 a1 a2 =>
    show r_invoke a0 a1 a2 cfg call tm s = _
    unfold r_invoke
    try simp only [evQ_eq, evCQ_eq, evAQ_eq, evIQ_eq, evAsQ_eq, getS_eq, putS_eq, newS_eq, ldQ_eq, ldNQ_eq, stNQ_eq, getMapQ_eq]
    rfl
  case len a0 a1 =>
    show r_len a0 a1 cfg call tm s = _
    unfold r_len v_len
    try simp only [evQ_eq, evCQ_eq, evAQ_eq, evIQ_eq, evAsQ_eq, getS_eq, putS_eq, newS_eq, ldQ_eq, ldNQ_eq, stNQ_eq, getMapQ_eq]
    cases a0 <;> rfl
  case cap a0 =>
    show r_cap a0 cfg call tm s = _
    unfold r_cap v_cap
    try simp only [evQ_eq, evCQ_eq, evAQ_eq, evIQ_eq, evAsQ_eq, getS_eq, putS_eq, newS_eq, ldQ_eq, ldNQ_eq, stNQ_eq, getMapQ_eq]
    rfl
  case appendV a0 a1 a2 a3 =>
    show r_appendV a0 a1 a2 a3 cfg call tm s = _
    unfold r_appendV
    try simp only [evQ_eq, evCQ_eq, evAQ_eq, evIQ_eq, evAsQ_eq, getS_eq, putS_eq, newS_eq, ldQ_eq, ldNQ_eq, stNQ_eq, getMapQ_eq]
    rfl
  case appendS a0 a1 =>
    show r_appendS a0 a1 cfg call tm s = _
    unfold r_appendS
    try simp only [evQ_eq, evCQ_eq, evAQ_eq, evIQ_eq, evAsQ_eq, getS_eq, putS_eq, newS_eq, ldQ_eq, ldNQ_eq, stNQ_eq, getMapQ_eq]
    rfl
  case appendZ a0 a1 a2 a3 a4 =>
    show r_appendZ a0 a1 a2 a3 a4 cfg call tm s = _
    unfold r_appendZ
    try simp only [evQ_eq, evCQ_eq, evAQ_eq, evIQ_eq, evAsQ_eq, getS_eq, putS_eq, newS_eq, ldQ_eq, ldNQ_eq, stNQ_eq, getMapQ_eq]
    rfl
  case copyV a0 a1 a2 =>
    show r_copyV a0 a1 a2 cfg call tm s = _
    unfold r_copyV
    try simp only [evQ_eq, evCQ_eq, evAQ_eq, evIQ_eq, evAsQ_eq, getS_eq, putS_eq, newS_eq, ldQ_eq, ldNQ_eq, stNQ_eq, getMapQ_eq]
    rfl
  case copyS a0 a1 =>
    show r_copyS a0 a1 cfg call tm s = _
    unfold r_copyS
    try simp only [evQ_eq, evCQ_eq, evAQ_eq, evIQ_eq, evAsQ_eq, getS_eq, putS_eq, newS_eq, ldQ_eq, ldNQ_eq, stNQ_eq, getMapQ_eq]
    rfl
  case delete a0 a1 a2 =>
    show r_delete a0 a1 a2 cfg call tm s = _
    unfold r_delete
    try simp only [evQ_eq, evCQ_eq, evAQ_eq, evIQ_eq, evAsQ_eq, getS_eq, putS_eq, newS_eq, ldQ_eq, ldNQ_eq, stNQ_eq, getMapQ_eq]
    rfl
  case clearM a0 =>
    show r_clearM a0 cfg call tm s = _
    unfold r_clearM
    try simp only [evQ_eq, evCQ_eq, evAQ_eq, evIQ_eq, evAsQ_eq, getS_eq, putS_eq, newS_eq, ldQ_eq, ldNQ_eq, stNQ_eq, getMapQ_eq]
    rfl
  case clearV a0 a1 =>
    show r_clearV a0 a1 cfg call tm s = _
    unfold r_clearV
    try simp only [evQ_eq, evCQ_eq, evAQ_eq, evIQ_eq, evAsQ_eq, getS_eq, putS_eq, newS_eq, ldQ_eq, ldNQ_eq, stNQ_eq, getMapQ_eq]
    rfl
  case min a0 =>
    show r_min a0 cfg call tm s = _
    unfold r_min v_min
    try simp only [evQ_eq, evCQ_eq, evAQ_eq, evIQ_eq, evAsQ_eq, getS_eq, putS_eq, newS_eq, ldQ_eq, ldNQ_eq, stNQ_eq, getMapQ_eq]
    rfl
  case max a0 =>
    show r_max a0 cfg call tm s = _
    unfold r_max v_max
    try simp only [evQ_eq, evCQ_eq, evAQ_eq, evIQ_eq, evAsQ_eq, getS_eq, putS_eq, newS_eq, ldQ_eq, ldNQ_eq, stNQ_eq, getMapQ_eq]
    rfl
  case cvMark a0 =>
    show r_cvMark a0 cfg call tm s = _
    unfold r_cvMark
    try simp only [evQ_eq, evCQ_eq, evAQ_eq, evIQ_eq, evAsQ_eq, getS_eq, putS_eq, newS_eq, ldQ_eq, ldNQ_eq, stNQ_eq, getMapQ_eq]
    rfl
  case mkbd a0 a1 =>
    show r_mkbd a0 a1 cfg call tm s = _
    unfold r_mkbd v_mkbd
    try simp only [evQ_eq, evCQ_eq, evAQ_eq, evIQ_eq, evAsQ_eq, getS_eq, putS_eq, newS_eq, ldQ_eq, ldNQ_eq, stNQ_eq, getMapQ_eq]
    rfl
  case bad  =>
    show r_bad  cfg call tm s = _
    unfold r_bad
    try simp only [evQ_eq, evCQ_eq, evAQ_eq, evIQ_eq, evAsQ_eq, getS_eq, putS_eq, newS_eq, ldQ_eq, ldNQ_eq, stNQ_eq, getMapQ_eq]
    rfl
end Go.AX

namespace Go.AX
open Go

section
variable {α β γ : Type}
noncomputable def bindQ (x : Option (α × β)) (k : α → β → Option γ) : Option γ := @Option.rec (α × β) (fun _ => Option γ) none (fun p => @Prod.rec α β (fun _ => Option γ) k p) x
theorem bindQ_eq (x : Option (α × β)) (k : α → β → Option γ) : bindQ x k = match x with | some (a, b) => k a b | none => none := by
  cases x with
  | none => rfl
  | some p => cases p; rfl
end
noncomputable def putQ (tm : Tm) (d : Option Pos) (v : V) : Tm := @Option.rec Pos (fun _ => Tm) tm (fun p => setQ (some v) p tm) d
theorem putQ_eq (tm : Tm) (d : Option Pos) (v : V) : putQ tm d v = putT tm d v := by
  cases d with
  | none => rfl
  | some p => exact setQ_eq _ _ _
noncomputable def operQ {γ : Type} (cfg : Cfg) (call : CallT) (o : IOper) (k : Tm → St → Option γ) (tm : Tm) (s : St) : Option γ :=
  @Option.rec (Pos × Bool) (fun _ => Option γ) (bindQ (runQ o.op cfg call tm s) fun v s' => k (putQ tm o.dst v) s')
    (fun _ => match wantedI tm o.guard with
      | some true => bindQ (runQ o.op cfg call tm s) fun v s' => k (putQ tm o.dst v) s'
      | some false => k (putQ tm o.dst (.tup [])) s
      | none => none) o.guard
theorem operQ_eq {γ : Type} (cfg : Cfg) (call : CallT) (o : IOper) (k : Tm → St → Option γ) (tm : Tm) (s : St) :
    operQ cfg call o k tm s = match runOper cfg call o tm s with | some (tm', s') => k tm' s' | none => none := by
  have hb : bindQ (runQ o.op cfg call tm s) (fun v s' => k (putQ tm o.dst v) s') = match (match o.op.run cfg call tm s with | some (v, s') => some (putT tm o.dst v, s') | none => none) with | some (tm', s') => k tm' s' | none => none := by
    rw [bindQ_eq, runQ_eq]
    cases o.op.run cfg call tm s with
    | none => rfl
    | some p => cases p; simp only [putQ_eq]
  unfold operQ runOper
  cases hg : o.guard with
  | none => simp only [wantedI]; exact hb
  | some g =>
    simp only
    cases hw : wantedI tm (some g) with
    | none => rfl
    | some b =>
      cases b
      · simp only [putQ_eq]
      · exact hb
noncomputable def opsQ {γ : Type} (cfg : Cfg) (call : CallT) (k : Tm → St → Option γ) (l : List IOper) : Tm → St → Option γ :=
  @List.rec IOper (fun _ => Tm → St → Option γ) k (fun o _ ih => operQ cfg call o ih) l
theorem opsQ_eq {γ : Type} (cfg : Cfg) (call : CallT) (k : Tm → St → Option γ) : ∀ (l : List IOper) (tm : Tm) (s : St), opsQ cfg call k l tm s = match runOps cfg call l tm s with | some (tm', s') => k tm' s' | none => none
  | [], tm, s => rfl
  | o :: l, tm, s => by
    show operQ cfg call o (opsQ cfg call k l) tm s = _
    rw [operQ_eq]
    simp only [runOps]
    cases runOper cfg call o tm s with
    | none => rfl
    | some p => cases p; exact opsQ_eq cfg call k l _ _
def runDQ (cfg : Cfg) (call : CallT) (run : IOp → Cfg → CallT → Tm → St → Option (V × St)) : List IOper → List (List Nat) → Seen → Tm → St → Option (Tm × St)
  | o :: l, g :: gs, seen, tm, s =>
    match wantedI tm o.guard with
    | some true => (match run o.op cfg call tm s with
      | some (v, s') => bif runD.checkAgain s' seen g then runDQ cfg call run l gs (seen ++ [some (o.op, tm, v)]) (putT tm o.dst v) s' else none
      | none => none)
    | some false => runDQ cfg call run l gs (seen ++ [none]) (putT tm o.dst (.tup [])) s
    | none => none
  | [], _, _, tm, s => some (tm, s)
  | _, [], _, _, _ => none
theorem runDQ_eq (cfg : Cfg) (call : CallT) : ∀ (l : List IOper) (gs : List (List Nat)) (seen : Seen) (tm : Tm) (s : St), runDQ cfg call runQ l gs seen tm s = runD cfg call l gs seen tm s
  | [], gs, seen, tm, s => by unfold runDQ runD; rfl
  | o :: l, [], seen, tm, s => by unfold runDQ runD; rfl
  | o :: l, g :: gs, seen, tm, s => by
    unfold runDQ runD
    rw [runQ_eq]
    cases wantedI tm o.guard with
    | none => rfl
    | some q =>
      cases q
      · exact runDQ_eq cfg call l gs _ _ _
      · simp only
        cases o.op.run cfg call tm s with
        | none => rfl
        | some p =>
          cases p with
          | mk v s' =>
            simp only
            rw [runDQ_eq cfg call l gs]
noncomputable def seqK (k : Tm → St → Option R) (x : Option R) : Option R := @Option.rec R (fun _ => Option R) none (fun r => @R.rec (fun _ => Option R) k (fun i tm s => some (.exit i tm s)) (fun tm s => some (.ret tm s)) r) x
noncomputable def blockK (id : Nat) (x : Option R) : Option R := @Option.rec R (fun _ => Option R) none (fun r => @R.rec (fun _ => Option R) (fun tm s => some (.norm tm s)) (fun i tm s => bif Nat.beq i id then some (.norm tm s) else some (.exit i tm s)) (fun tm s => some (.ret tm s)) r) x
noncomputable def iterQ (body : Tm → St → Option R) (n : Nat) : Tm → St → Option R :=
  @Nat.rec (fun _ => Tm → St → Option R) (fun _ _ => none) (fun _ ih tm s => seqK ih (body tm s)) n
theorem iterQ_eq (body : Tm → St → Option R) : ∀ (n : Nat) (tm : Tm) (s : St), iterQ body n tm s = iter body n tm s
  | 0, _, _ => rfl
  | n + 1, tm, s => by
    show seqK (iterQ body n) (body tm s) = _
    simp only [iter]
    cases body tm s with
    | none => rfl
    | some r =>
      cases r with
      | norm tm' s' => exact iterQ_eq body n tm' s'
      | exit => rfl
      | ret => rfl
noncomputable def condK (x y : Option R) (v : Option C) : Option R := match v with
  | some (.bool true) => x
  | some (.bool false) => y
  | _ => none
noncomputable def execQ (cfg : Cfg) (call : CallT) (n : Nat) (x : ICode) : Tm → St → Option R :=
  @ICode.rec (fun _ => Tm → St → Option R) (fun tm s => some (.norm tm s)) (fun ops => opsQ cfg call (fun tm s => some (.norm tm s)) ops)
    (fun ops ag tm s => bindQ (runDQ cfg call runQ ops ag [] tm s) fun tm s => some (.norm tm s))
    (fun _ _ a b tm s => seqK b (a tm s)) (fun c _ _ a b tm s => condK (a tm s) (b tm s) (evCQ tm c)) (fun id _ b tm s => blockK id (b tm s)) (fun _ b => iterQ b n)
    (fun id tm s => some (.exit id tm s)) (fun tm s => some (.ret tm s)) (fun _ _ => none) x
theorem execQ_eq (cfg : Cfg) (call : CallT) (n : Nat) : ∀ (x : ICode) (tm : Tm) (s : St), execQ cfg call n x tm s = exec cfg call n x tm s
  | .skip, tm, s => rfl
  | .reg ops, tm, s => by
    show opsQ cfg call (fun tm s => some (R.norm tm s)) ops tm s = _
    rw [opsQ_eq]; simp only [exec]
    cases runOps cfg call ops tm s with
    | none => rfl
    | some p => cases p; rfl
  | .dreg ops ag, tm, s => by
    show bindQ (runDQ cfg call runQ ops ag [] tm s) (fun tm s => some (R.norm tm s)) = _
    rw [bindQ_eq, runDQ_eq]; simp only [exec]
    cases runD cfg call ops ag [] tm s with
    | none => rfl
    | some p => cases p; rfl
  | .seq a b, tm, s => by
    show seqK (execQ cfg call n b) (execQ cfg call n a tm s) = _
    rw [execQ_eq cfg call n a]
    simp only [exec]
    cases exec cfg call n a tm s with
    | none => rfl
    | some r => cases r with
      | norm tm' s' => exact execQ_eq cfg call n b tm' s'
      | exit => rfl
      | ret => rfl
  | .cond c a b, tm, s => by
    show condK (execQ cfg call n a tm s) (execQ cfg call n b tm s) (evCQ tm c) = _
    rw [evCQ_eq, execQ_eq cfg call n a, execQ_eq cfg call n b]
    simp only [exec]
    cases evC tm c with
    | none => rfl
    | some q => cases q with
      | bool v => cases v <;> rfl
      | _ => rfl
  | .block id b, tm, s => by
    show blockK id (execQ cfg call n b tm s) = _
    rw [execQ_eq cfg call n b]
    simp only [exec]
    cases exec cfg call n b tm s with
    | none => rfl
    | some r => cases r <;> rfl
  | .loop b, tm, s => by
    show iterQ (execQ cfg call n b) n tm s = _
    rw [iterQ_eq]
    simp only [exec]
    congr 1
    funext tm s
    exact execQ_eq cfg call n b tm s
  | .exit id, tm, s => rfl
  | .ret, tm, s => rfl
  | .bad, tm, s => rfl
noncomputable def endK (rs : List IRes) (x : Option R) : Option (V × St) := @Option.rec R (fun _ => Option (V × St)) none (fun r => @R.rec (fun _ => Option (V × St)) (fun tm s => match ressOf tm s rs with | some l => some (resV l, s) | none => none) (fun _ _ _ => none) (fun tm s => match ressOf tm s rs with | some l => some (resV l, s) | none => none) r) x
noncomputable def callQ (cfg : Cfg) (n : Nat) : CallT :=
  @Nat.rec (fun _ => CallT) (fun _ _ _ => none) (fun n ih f args s => match cfg.summ f with
    | some sm => sm args s
    | none => match cfg.code f with
      | none => none
      | some fn => match initTm fn.params args .e with
        | none => none
        | some tm => endK fn.results (execQ cfg ih n fn.body tm s)) n
theorem callQ_eq (cfg : Cfg) : ∀ n, callQ cfg n = callN cfg n
  | 0 => rfl
  | n + 1 => by
    funext f args s
    show (match cfg.summ f with
      | some sm => sm args s
      | none => match cfg.code f with
        | none => none
        | some fn => match initTm fn.params args .e with
          | none => none
          | some tm => endK fn.results (execQ cfg (callQ cfg n) n fn.body tm s)) = _
    rw [callQ_eq cfg n]
    simp only [callN]
    cases cfg.summ f with
    | some sm => rfl
    | none =>
      simp only
      cases cfg.code f with
      | none => rfl
      | some fn =>
        simp only
        cases initTm fn.params args .e with
        | none => rfl
        | some tm =>
          simp only
          rw [execQ_eq]
          cases exec cfg (callN cfg n) n fn.body tm s with
          | none => rfl
          | some r => cases r <;> rfl
end Go.AX

namespace Go.AX
open Go

/-! ### A call without arguments, carried out from no memory at all -/
def eqCC (a b : C) : Bool := match decEq a b with | isTrue _ => true | isFalse _ => false
theorem eqCC_spec {a b : C} (h : eqCC a b = true) : a = b := by
  unfold eqCC at h
  split at h
  · assumption
  · cases h
theorem eqCL_spec : ∀ {x y : List C}, eqCL x y = true → x = y
  | [], [], _ => rfl
  | [], _ :: _, h => by simp [eqCL] at h
  | _ :: _, [], h => by simp [eqCL] at h
  | a :: x, b :: y, h => by
    simp only [eqCL] at h
    split at h
    · rename_i e _; rw [e, eqCL_spec h]
    · cases h
theorem eqAA_spec {x y : A} (h : eqAA x y = true) : x = y := by
  have : eqVV (.a x) (.a y) = true := h
  exact V.a.inj (eqVV_spec this)
def eqSg : Sg → Sg → Bool
  | .e, .e => true
  | .n g l r, .n g' l' r' => and (Nat.beq g g') (and (eqCL l l') (eqSg r r'))
  | _, _ => false
theorem eqSg_spec : ∀ {x y : Sg}, eqSg x y = true → x = y
  | .e, .e, _ => rfl
  | .e, .n .., h => by simp [eqSg] at h
  | .n .., .e, h => by simp [eqSg] at h
  | .n g l r, .n g' l' r', h => by
    simp only [eqSg, Bool.and_eq_true] at h
    rw [Nat.eq_of_beq_eq_true h.1, eqCL_spec h.2.1, eqSg_spec h.2.2]
def eqEnts : List (C × A) → List (C × A) → Bool
  | [], [] => true
  | (a, v) :: x, (b, u) :: y => and (eqCC a b) (and (eqAA v u) (eqEnts x y))
  | _, _ => false
theorem eqEnts_spec : ∀ {x y : List (C × A)}, eqEnts x y = true → x = y
  | [], [], _ => rfl
  | [], _ :: _, h => by simp [eqEnts] at h
  | _ :: _, [], h => by simp [eqEnts] at h
  | (a, v) :: x, (b, u) :: y, h => by
    simp only [eqEnts, Bool.and_eq_true] at h
    rw [eqCC_spec h.1, eqAA_spec h.2.1, eqEnts_spec h.2.2]
def eqObj : Obj → Obj → Bool
  | .cells n d t f, .cells n' d' t' f' => and (Nat.beq n n') (and (eqCC d d') (and (eqSg t t') (eqB f f')))
  | .map l, .map l' => eqEnts l l'
  | .siter l p, .siter l' p' => and (eqL l l') (Nat.beq p p')
  | _, _ => false
theorem eqL_spec : ∀ {x y : List Nat}, eqL x y = true → x = y
  | [], [], _ => rfl
  | [], _ :: _, h => by simp [eqL] at h
  | _ :: _, [], h => by simp [eqL] at h
  | a :: x, b :: y, h => by
    simp only [eqL] at h
    obtain ⟨h1, h2⟩ : Nat.beq a b = true ∧ eqL x y = true := by cases hb : Nat.beq a b <;> rw [hb] at h <;> simp_all
    rw [Nat.eq_of_beq_eq_true h1, eqL_spec h2]
theorem eqObj_spec {x y : Obj} (h : eqObj x y = true) : x = y := by
  cases x <;> cases y <;> simp only [eqObj, Bool.and_eq_true] at h <;> try (cases h; done)
  · obtain ⟨h1, h2, h3, h4⟩ := h
    rename_i f _ _ _ f'
    rw [Nat.eq_of_beq_eq_true h1, eqCC_spec h2, eqSg_spec h3]
    cases f <;> cases f' <;> simp [eqB] at h4 <;> rfl
  · rw [eqEnts_spec h]
  · rw [eqL_spec h.1, Nat.eq_of_beq_eq_true h.2]

/-- What is kept of the memory that a call made. -/
def keepOk (G : Nat) (s : St) : List (Nat × Obj) → Bool
  | [] => true
  | (b, o) :: l => and (Nat.ble G b) (and (Nat.blt b s.nx) (and (match s.get b with | some o' => eqObj o' o | none => false) (keepOk G s l)))
theorem keepOk_spec {G : Nat} {s : St} : ∀ {l : List (Nat × Obj)}, keepOk G s l = true → ∀ {b : Nat} {o : Obj}, (b, o) ∈ l → G ≤ b ∧ b < s.nx ∧ s.get b = some o
  | (b', o') :: l, h, b, o, hm => by
    simp only [keepOk, Bool.and_eq_true] at h
    obtain ⟨h1, h2, h3, h4⟩ := h
    rcases List.mem_cons.1 hm with e | hm
    · cases e
      refine ⟨ble_true' h1, blt_true' h2, ?_⟩
      split at h3
      · rename_i o2 ho2; rw [ho2, eqObj_spec h3]
      · cases h3
    · exact keepOk_spec h4 hm
def addObjs : List (Nat × Obj) → T Obj → T Obj
  | [], t => t
  | (b, o) :: l, t => addObjs l (t.set (some o) (.ofNat b))
theorem addObjs_get : ∀ {l : List (Nat × Obj)} {t : T Obj} {b : Nat} {o : Obj}, (addObjs l t).get (.ofNat b) = some o → (b, o) ∈ l ∨ t.get (.ofNat b) = some o
  | [], t, b, o, h => .inr h
  | (b', o') :: l, t, b, o, h => by
    rcases addObjs_get (l := l) h with h | h
    · exact .inl (List.mem_cons_of_mem _ h)
    · rw [T.get_set] at h
      split at h
      · rename_i e
        cases h
        rw [Pos.ofNat_inj e]
        exact .inl (by simp)
      · exact .inr h

/-- The summary of a call without arguments: at a state in which nothing has been made; what it made that is kept. -/
def closedS (G nx : Nat) (v : V) (keep : List (Nat × Obj)) (args : List A) (s : St) : Option (V × St) := match args with
  | [] => bif Nat.beq s.nx G then some (v, { s with h := addObjs keep s.h, nx := nx }) else none
  | _ => none

theorem closed_sound {P : Program} {G : Nat} (hG0 : P.globals.size ≤ G) {call : Nat → List A → St → Option (V × St)} (hcs : CallSound P call) {f : Nat} {v : V} {s1 : St} (hrun : call f [] (St.zero G) = some (v, s1)) (hnx : G ≤ s1.nx)
    {keep : List (Nat × Obj)} (hk : keepOk G s1 keep = true) : SummSound P f (closedS G s1.nx v keep) := by
  intro args s v' s' h
  unfold closedS at h
  split at h
  · obtain ⟨hb, h⟩ := cond_some h
    have hG : s.nx = G := Nat.eq_of_beq_eq_true hb
    cases h
    refine ⟨by rw [hG]; exact hnx, fun E w xs hr hg hn hf hx => ?_⟩
    simp only at hf
    rw [hG] at hf
    have hE0 : ∀ b, (St.zero G).get b = none := fun b => T.get_e _
    have hr0 : Rel { loc := fun b => if b < G then E.loc b else none, sym := E.sym } (St.zero G) w := Rel.zero _ _ _
    have hg0 : GOk P { loc := fun b => if b < G then E.loc b else none, sym := E.sym } := fun g hlt => by
      obtain ⟨r, hr⟩ := hg g hlt
      exact ⟨r, by simp only [if_pos (Nat.lt_of_lt_of_le hlt hG0)]; exact hr⟩
    have := hcs f [] (St.zero G) v s1 hrun _ w xs hr0 hg0 hG0 (fun b h1 _ => by simp only [if_neg (Nat.not_lt.2 h1)]) (by cases hl : xs.toList with
      | nil => exact .nil
      | cons y l => rw [hl] at hx; cases hx)
    refine Outc.mono (fun x w1 ⟨E1, hv, hst⟩ => ?_) this
    have hloc1 : ∀ b, b < G ∨ s1.nx ≤ b → E1.loc b = if b < G then E.loc b else none := fun b hb => hst.out b hb
    have hsym : E1.sym = E.sym := hst.sym
    have hle1 : E1.Le { loc := fun b => if G ≤ b ∧ b < s1.nx then E1.loc b else E.loc b, sym := E.sym } := by
      refine ⟨fun b L hL => ?_, hsym.symm⟩
      simp only
      by_cases hb : G ≤ b ∧ b < s1.nx
      · rw [if_pos hb]; exact hL
      · rw [if_neg hb]
        rw [hloc1 b (by omega)] at hL
        split at hL
        · exact hL
        · cases hL
    have hle : E.Le { loc := fun b => if G ≤ b ∧ b < s1.nx then E1.loc b else E.loc b, sym := E.sym } := by
      refine ⟨fun b L hL => ?_, rfl⟩
      simp only
      rw [if_neg fun hb => by rw [hf b hb.1 hb.2] at hL; cases hL]
      exact hL
    have nol : ∀ m, ¬ Live { loc := fun b => if b < G then E.loc b else none, sym := E.sym } (St.zero G) m := fun m ⟨b, o, L, h, _⟩ => by rw [hE0] at h; cases h
    have hheap : ∀ m, m < w.heap.size → w1.heap[m]? = w.heap[m]? := fun m hm => hst.frame m hm (nol m)
    have part : ∀ {b o}, St.get { s with h := addObjs keep s.h, nx := s1.nx } b = some o → (G ≤ b ∧ b < s1.nx ∧ s1.get b = some o) ∨ (s.get b = some o ∧ ¬ (G ≤ b ∧ b < s1.nx)) := fun {b o} h => by
      rcases addObjs_get (l := keep) h with h | h
      · exact .inl (keepOk_spec hk h)
      · refine .inr ⟨h, fun hb => ?_⟩
        obtain ⟨L, hL, _⟩ := hr.obj b o h
        rw [hf b hb.1 hb.2] at hL; cases hL
    have newb : ∀ {b o L}, s1.get b = some o → E1.loc b = some L → w.heap.size ≤ L.blk := fun {b o L} h hL => by
      rcases hst.live L.blk ⟨b, o, L, h, hL, rfl⟩ with h | h
      · exact h
      · exact absurd h (nol _)
    have oldb : ∀ {b o L}, s.get b = some o → E.loc b = some L → L.blk < w.heap.size := fun {b o L} h hL => by
      obtain ⟨L', hL', ho⟩ := hr.obj b o h
      rw [hL] at hL'; cases hL'
      exact ho.lt
    refine ⟨_, hv.mono hle1, ⟨⟨fun b o h => ?_, fun b b' o o' L L' h h' hL hL' hbk => ?_⟩, by show s.nx ≤ s1.nx; rw [hG]; exact hnx, fun b hb => ?_, rfl, fun m hm => ?_, fun m hm _ => hheap m hm, hst.size, hst.os, hst.output, hst.tape, rfl⟩⟩
    · rcases part h with ⟨h1, h2, h3⟩ | ⟨h1, h2⟩
      · obtain ⟨L, hL, ho⟩ := hst.rel.obj b o h3
        exact ⟨L, hle1.1 b L hL, ho.mono hle1⟩
      · obtain ⟨L, hL, ho⟩ := hr.obj b o h1
        exact ⟨L, hle.1 b L hL, (ho.mono hle).same (hheap _ ho.lt)⟩
    · simp only at hL hL'
      rcases part h with ⟨h1, h2, h3⟩ | ⟨h1, h2⟩ <;> rcases part h' with ⟨h1', h2', h3'⟩ | ⟨h1', h2'⟩
      · rw [if_pos ⟨h1, h2⟩] at hL
        rw [if_pos ⟨h1', h2'⟩] at hL'
        exact hst.rel.inj b b' o o' L L' h3 h3' hL hL' hbk
      · rw [if_pos ⟨h1, h2⟩] at hL
        rw [if_neg h2'] at hL'
        have := newb h3 hL
        have := oldb h1' hL'
        omega
      · rw [if_neg h2] at hL
        rw [if_pos ⟨h1', h2'⟩] at hL'
        have := newb h3' hL'
        have := oldb h1 hL
        omega
      · rw [if_neg h2] at hL
        rw [if_neg h2'] at hL'
        exact hr.inj b b' o o' L L' h1 h1' hL hL' hbk
    · simp only at hb ⊢
      rw [if_neg (by omega)]
    · obtain ⟨b, o, L, h, hL, rfl⟩ := hm
      simp only at hL
      rcases part h with ⟨h1, h2, h3⟩ | ⟨h1, h2⟩
      · rw [if_pos ⟨h1, h2⟩] at hL
        exact .inl (newb h3 hL)
      · rw [if_neg h2] at hL
        exact .inr ⟨b, o, L, h1, hL, rfl⟩
  · cases h

/-- The summary of a call without arguments that answers a bool: nothing that it made is kept, whatever the state. -/
def plainS (b : Bool) (args : List A) (s : St) : Option (V × St) := match args with
  | [] => some (.a (.c (.bool b)), s)
  | _ => none

theorem plain_sound {P : Program} {call : Nat → List A → St → Option (V × St)} (hcs : CallSound P call) {f : Nat} {b : Bool} {s1 : St} (hrun : call f [] (St.zero P.globals.size) = some (.a (.c (.bool b)), s1)) : SummSound P f (plainS b) := by
  intro args s v' s' h
  unfold plainS at h
  split at h
  · cases h
    refine ⟨Nat.le_refl _, fun E w xs hr hg hn hf hx => ?_⟩
    have hE0 : ∀ b, (St.zero P.globals.size).get b = none := fun b => T.get_e _
    have hr0 : Rel { loc := fun b => if b < P.globals.size then E.loc b else none, sym := E.sym } (St.zero P.globals.size) w := Rel.zero _ _ _
    have hg0 : GOk P { loc := fun b => if b < P.globals.size then E.loc b else none, sym := E.sym } := fun g hlt => by
      obtain ⟨r, hr⟩ := hg g hlt
      exact ⟨r, by simp only [if_pos hlt]; exact hr⟩
    have := hcs f [] (St.zero P.globals.size) _ s1 hrun _ w xs hr0 hg0 (Nat.le_refl _) (fun b h1 _ => by simp only [if_neg (Nat.not_lt.2 h1)]) (by cases hl : xs.toList with
      | nil => exact .nil
      | cons y l => rw [hl] at hx; cases hx)
    refine Outc.mono (fun x w1 ⟨E1, hv, hst⟩ => ?_) this
    have nol : ∀ m, ¬ Live { loc := fun b => if b < P.globals.size then E.loc b else none, sym := E.sym } (St.zero P.globals.size) m := fun m ⟨b, o, L, h, _⟩ => by rw [hE0] at h; cases h
    have hheap : ∀ m, m < w.heap.size → w1.heap[m]? = w.heap[m]? := fun m hm => hst.frame m hm (nol m)
    refine ⟨E, hv, ⟨⟨fun b o h => ?_, hr.inj⟩, Nat.le_refl _, fun _ _ => rfl, rfl, fun m hm => .inr hm, fun m hm _ => hheap m hm, hst.size, hst.os, hst.output, hst.tape, rfl⟩⟩
    obtain ⟨L, hL, ho⟩ := hr.obj b o h
    exact ⟨L, hL, ho.same (hheap _ ho.lt)⟩
  · cases h
end Go.AX

namespace Go.AX
open Go

/-- Each entry of a table is as said. -/
def AllT {α : Type} : T α → (Pos → α → Prop) → Prop
  | .e, _ => True
  | .n l v r, Q => AllT l (fun p => Q (.o p)) ∧ (∀ a, v = some a → Q .h a) ∧ AllT r (fun p => Q (.i p))
theorem AllT.get {α : Type} : ∀ {p : Pos} {t : T α} {Q : Pos → α → Prop}, AllT t Q → ∀ {a : α}, t.get p = some a → Q p a
  | p, .e, Q, _, a, h => by simp at h
  | .h, .n l v r, Q, hq, a, h => hq.2.1 a h
  | .o p, .n l v r, Q, hq, a, h => AllT.get hq.1 (p := p) h
  | .i p, .n l v r, Q, hq, a, h => AllT.get hq.2.2 (p := p) h
theorem none_all {α : Type} {Q : α → Prop} : ∀ a, (none : Option α) = some a → Q a := fun _ h => by cases h
theorem some_all {α : Type} {Q : α → Prop} {b : α} (h : Q b) : ∀ a, some b = some a → Q a := fun a e => by cases e; exact h
/-- What an entry of the table of code must be. -/
def FOk (P : Program) (f : Nat) (fn : IFunc) : Prop := ∃ F, P.funcs[f]? = some F ∧ cFunc P F = some fn ∧ (F.name == "runtime.NumGoroutine") = false
theorem code_of {P : Program} {t : T IFunc} (h : AllT t fun p fn => FOk P p.toNat fn) (f : Nat) (fn : IFunc) (hf : t.get (.ofNat f) = some fn) : FOk P f fn := by
  have := h.get hf
  rwa [Pos.toNat_ofNat] at this
theorem summ_of {P : Program} {t : T (List A → St → Option (V × St))} (h : AllT t fun p sm => SummSound P p.toNat sm) (f : Nat) (sm : List A → St → Option (V × St)) (hf : t.get (.ofNat f) = some sm) : SummSound P f sm := by
  have := h.get hf
  rwa [Pos.toNat_ofNat] at this

/-! ### Methods by a list -/
def methL : List (Nat × String × Nat) → Nat → String → Option Nat
  | [], _, _ => none
  | (t', m', f) :: l, t, m => bif Nat.beq t t' then (match decEq m m' with | isTrue _ => some f | isFalse _ => methL l t m) else methL l t m
def methIs (P : Program) (t : Nat) (m : String) (f : Nat) : Bool := match P.info? t with
  | some i => (match i.methods.find? (·.name == m) with
    | some me => me.path.isEmpty && me.func == some (f, true)
    | none => false) && (match P.underlying t with | some (.pointer _) => true | _ => false)
  | none => false
theorem methIs_spec {P : Program} {t : Nat} {m : String} {f : Nat} (h : methIs P t m f = true) : ∃ i me e, P.info? t = some i ∧ i.methods.find? (·.name == m) = some me ∧ me.path = #[] ∧ me.func = some (f, true) ∧ P.underlying t = some (.pointer e) := by
  unfold methIs at h
  split at h
  · rename_i i hi
    simp only [Bool.and_eq_true] at h
    obtain ⟨h1, h2⟩ := h
    split at h1
    · rename_i me hme
      simp only [Bool.and_eq_true, beq_iff_eq] at h1
      split at h2
      · rename_i e he
        exact ⟨i, me, e, hi, hme, by simpa using h1.1, h1.2, he⟩
      · cases h2
    · cases h1
  · cases h
theorem methL_spec {P : Program} : ∀ {l : List (Nat × String × Nat)}, l.all (fun e => methIs P e.1 e.2.1 e.2.2) = true → ∀ {t : Nat} {m : String} {f : Nat}, methL l t m = some f → methIs P t m f = true
  | [], _, t, m, f, h => by simp [methL] at h
  | (t', m', f') :: l, ha, t, m, f, h => by
    simp only [List.all_cons, Bool.and_eq_true] at ha
    simp only [methL] at h
    cases hb : Nat.beq t t'
    · rw [hb] at h
      exact methL_spec ha.2 h
    · rw [hb] at h
      have ht := Nat.eq_of_beq_eq_true hb
      subst ht
      rw [cond_true] at h
      split at h
      · rename_i e _
        cases h
        rw [e]; exact ha.1
      · exact methL_spec ha.2 h
theorem methL_ok {P : Program} {cfg : Cfg} {l : List (Nat × String × Nat)} (ha : l.all (fun e => methIs P e.1 e.2.1 e.2.2) = true) (h : cfg.meth = methL l) : MethSound P cfg := by
  intro t m f hf
  rw [h] at hf
  exact methIs_spec (methL_spec ha hf)
end Go.AX

namespace Go.AX
open Go

theorem u8_eq {x : UInt8} {b : Nat} (hb : b < 256) : (x == b.toUInt8) = Nat.beq x.toNat b := by
  have e : b.toUInt8.toNat = b := by
    show b % 256 = b
    omega
  cases h : Nat.beq x.toNat b
  · have := beq_false' h
    rw [beq_eq_false_iff_ne]
    intro he
    rw [he, e] at this
    exact this rfl
  · have := Nat.eq_of_beq_eq_true h
    rw [beq_iff_eq]
    exact UInt8.toNat_inj.1 (by rw [this, e])

theorem cntB_eq {b : Nat} (hb : b < 256) : ∀ (l : List UInt8), cntB b (l.map (·.toNat)) = l.count b.toUInt8
  | [] => rfl
  | x :: l => by
    rw [List.map_cons, cntB, List.count_cons, cntB_eq hb l, u8_eq hb]
    cases Nat.beq x.toNat b <;> rfl
theorem idxB_eq {b : Nat} (hb : b < 256) : ∀ (l : List UInt8) (i : Nat), idxB b (l.map (·.toNat)) i = (if Lib.indexByte l b.toUInt8 = -1 then none else some (i + (Lib.indexByte l b.toUInt8).toNat))
  | [], i => rfl
  | x :: l, i => by
    rw [List.map_cons, idxB, Lib.indexByte, u8_eq hb]
    cases Nat.beq x.toNat b
    · rw [cond_false, idxB_eq hb l]
      have := Lib.indexByte_ge l b.toUInt8
      simp only [Bool.false_eq_true, if_false, beq_iff_eq]
      by_cases h : Lib.indexByte l b.toUInt8 = -1
      · simp [h]
      · rw [if_neg h, if_neg h, if_neg (by omega)]
        congr 1
        show i + 1 + _ = _
        omega
    · simp

theorem extern_outc {P : Program} {f : Nat} {fn : Func} {e : Array Value → Sem Value} (hf : P.funcs[f]? = some fn) (hname : (fn.name == "runtime.NumGoroutine") = false) (hb : fn.body.isNone = true) (hn : Extern.findNext fn = none) (he : Extern.find fn = some e)
    {xs : Array Value} {w w' : World} {v : Value} (hr : (e xs).run P w = .ok v w') {Φ : Value → World → Prop} (h : Φ v w') : Outc P Φ ((callFunc f xs).run P w) := by
  rw [run_callFunc_extern hf hname hb hn he, hr]
  exact h

theorem args2 {E : Env} {a b : A} {xs : Array Value} (h : All2 (ARel E) [a, b] xs.toList) : ∃ x y, xs = #[x, y] ∧ ARel E a x ∧ ARel E b y := by
  obtain ⟨l⟩ := xs
  cases h with
  | cons h1 h2 => cases h2 with
    | cons h3 h4 => cases h4; exact ⟨_, _, rfl, h1, h3⟩
theorem args1 {E : Env} {a : A} {xs : Array Value} (h : All2 (ARel E) [a] xs.toList) : ∃ x, xs = #[x] ∧ ARel E a x := by
  obtain ⟨l⟩ := xs
  cases h with
  | cons h1 h2 => cases h2; exact ⟨_, rfl, h1⟩

theorem countS_sound {P : Program} {f : Nat} {fn : Func} (hf : P.funcs[f]? = some fn) (hname : (fn.name == "runtime.NumGoroutine") = false) (hb : fn.body.isNone = true) (hn : Extern.findNext fn = none) (he : Extern.find fn = some Extern.BytealgCount.count) : SummSound P f countS := by
  intro args s v s' h
  unfold countS at h
  split at h
  · rename_i l b
    obtain ⟨hlt, h⟩ := cond_some h
    cases h
    refine ⟨Nat.le_refl _, fun E w xs hr hg hnn hfr hx => ?_⟩
    obtain ⟨x, y, rfl, ⟨st, rfl, hst⟩, h2⟩ := args2 hx
    have h2 : y = .int .u8 (.ofNat b) := h2
    subst h2
    refine extern_outc hf hname hb hn he (Lib.run_countString st _ w) ⟨E, ?_, Step.refl hr⟩
    show CRel E (.int .i64 (.ofNat (cntB b l))) _
    rw [← hst, cntB_eq (blt_true' hlt)]
    rfl
  · cases h
theorem indexB_sound {P : Program} {f : Nat} {fn : Func} (hf : P.funcs[f]? = some fn) (hname : (fn.name == "runtime.NumGoroutine") = false) (hb : fn.body.isNone = true) (hn : Extern.findNext fn = none) (he : Extern.find fn = some Extern.BytealgIndexByte.indexByte) : SummSound P f indexB := by
  intro args s v s' h
  unfold indexB at h
  split at h
  · rename_i l b
    obtain ⟨hlt, h⟩ := cond_some h
    cases h
    refine ⟨Nat.le_refl _, fun E w xs hr hg hnn hfr hx => ?_⟩
    obtain ⟨x, y, rfl, ⟨st, rfl, hst⟩, h2⟩ := args2 hx
    have h2 : y = .int .u8 (.ofNat b) := h2
    subst h2
    refine extern_outc hf hname hb hn he (Lib.run_indexByteString st _ w) ⟨E, ?_, Step.refl hr⟩
    show CRel E (.int .i64 _) _
    have hge := Lib.indexByte_ge st.data.toList b.toUInt8
    rw [← hst, idxB_eq (blt_true' hlt)]
    show Value.int .i64 (Lib.indexByte st.data.toList b.toUInt8) = _
    by_cases h : Lib.indexByte st.data.toList b.toUInt8 = -1
    · rw [if_pos h, h]; rfl
    · rw [if_neg h]
      congr 1
      show _ = ((0 + (Lib.indexByte st.data.toList b.toUInt8).toNat : Nat) : Int)
      omega
  · cases h

theorem calls_outc {P : Program} {f : Nat} {fn : Func} {c : Code} (hf : P.funcs[f]? = some fn) (hname : (fn.name == "runtime.NumGoroutine") = false) (hb : fn.body = some c) {xs : Array Value} {w : World} {Φ : Value → World → Prop}
    (h : Calls P f xs w fun e w' => ∃ x, e = .returned x ∧ Φ x w') : Outc P Φ ((callFunc f xs).run P w) := by
  rw [callFunc_enter hf hname hb]
  exact h

/-- maps.Clone, by the shelf's two contracts. -/
theorem mapClone_sound {P : Program} {f : Nat} {fn : Func} {c : Code} (hf : P.funcs[f]? = some fn) (hname : (fn.name == "runtime.NumGoroutine") = false) (hb : fn.body = some c)
    (h1 : ∀ (b : Nat) (es : Array MapEntry) (clock : Nat) (w : World), w.heap[b]? = some (.map es clock) → Calls P f #[.map (some b)] w fun e w' => e = .returned (.map (some w.heap.size)) ∧ w' = w.alloc (.map es clock))
    (h0 : ∀ w : World, Calls P f #[.map none] w fun e w' => e = .returned (.map none) ∧ w' = w) : SummSound P f mapClone := by
  intro args s v s' h
  unfold mapClone at h
  split at h
  · cases h
    refine ⟨Nat.le_refl _, fun E w xs hr hg hn hfr hx => ?_⟩
    obtain ⟨x, rfl, hy⟩ := args1 hx
    have hy : x = .map none := hy
    subst hy
    exact calls_outc hf hname hb ((h0 w).mono fun e w' ⟨he, hw⟩ => ⟨_, he, E, rfl, by rw [hw]; exact Step.refl hr⟩)
  · split at h
    · rename_i b _ l hl
      cases h
      refine ⟨by simp, fun E w xs hr hg hn hfr hx => ?_⟩
      obtain ⟨x, rfl, hy⟩ := args1 hx
      obtain ⟨L, hL, rfl⟩ := hy
      obtain ⟨L', hL', es, clock, hh, hsh, hk, hperm, hnd, hlt⟩ := hr.obj b _ hl
      rw [hL] at hL'; cases hL'
      have hfl : E.loc s.nx = none := hfr s.nx (Nat.le_refl _) (by simp)
      have hle := Env.le_add (L := ⟨w.heap.size, 0, 0⟩) hfl
      refine calls_outc hf hname hb ((h1 L.blk es clock w hh).mono fun e w' ⟨he, hw⟩ => ⟨_, he, E.add s.nx ⟨w.heap.size, 0, 0⟩, ?_, ?_⟩)
      · exact ⟨⟨w.heap.size, 0, 0⟩, by simp [Env.add], rfl⟩
      · rw [hw]
        refine new_step hr.toRel0 hfl (.map l) (.map es clock) 0 ⟨es, clock, by simp, rfl, hk, ?_, hnd, hlt⟩
        obtain ⟨l', hp, ha⟩ := hperm
        exact ⟨l', hp, ha.mono fun _ _ hh => ⟨hh.1.mono hle, hh.2.mono hle⟩⟩
    · cases h
  · cases h
end Go.AX

namespace Go.AX
open Go

/-- 'next' at an iterator that lies anywhere, over a map that is as it was when the loop began. -/
theorem next_any {P : Program} {w : World} (ty : TypeId) {r bm since c0 : Nat} {seen : Array Nat} {es : Array MapEntry} {clock : Nat} (hi : w.heap[r]? = some (.mapIter (some bm) since seen c0)) (hb : w.heap[bm]? = some (.map es clock))
    (hold : ∀ x ∈ es.toList, x.born < since) (hsc : since ≤ c0) :
    ((leftOf es seen).size = 0 ∧ (Instr.next (.pointer (some ⟨r, 0, none⟩)) false ty).run P w = .ok (.tuple #[.bool false]) w) ∨
    ∃ e ∈ (leftOf es seen).toList, ∃ k : Nat, (Instr.next (.pointer (some ⟨r, 0, none⟩)) false ty).run P w = .ok (.tuple #[.bool true, e.key, e.val]) { w with drawn := k, heap := w.heap.setIfInBounds r (.mapIter (some bm) since (seen.push e.born) clock) } := by
  simp only [Instr.next, getObj, Sem.run_bind, Sem.run, hi, hb, Result.andThen, next_test_false seen es since c0 hold hsc, Bool.false_eq_true, if_false]
  unfold leftOf
  have hmem : ∀ x ∈ (Array.filter (fun e => !seen.contains e.born) es).toList, x.born < since := fun x hx => hold x (by simp at hx ⊢; exact hx.1)
  generalize Array.filter (fun e => !seen.contains e.born) es = L at hmem ⊢
  have e1 : L.filter (fun x => decide (x.born < since)) = L := Array.filter_eq_self.2 (fun x hx => by simpa using hmem x (by simpa using hx))
  have e2 : L.filter (fun x => decide (x.born ≥ since)) = #[] := by
    rw [Array.filter_eq_empty_iff]
    intro x hx
    have := hmem x (by simpa using hx)
    simp
    omega
  simp only [e1, e2, Array.append_empty]
  by_cases h0 : L.size = 0
  · left
    have : L = #[] := Array.eq_empty_of_size_eq_zero h0
    subst this
    refine ⟨rfl, ?_⟩
    simp [choose, Sem.run, Question.forced]
  · right
    have hne : L.isEmpty = false := by simp [Array.isEmpty, h0]
    simp only [hne, Bool.false_eq_true, if_false, Array.empty_append, Array.size_map]
    have hch : ∃ (j k : Nat), j < L.size ∧ (choose (Question.mapNext L.size)).run P w = .ok j { w with drawn := k } := by
      by_cases hf : L.size ≤ 1
      · exact ⟨0, w.drawn, by omega, by simp [choose, Sem.run, Question.forced, hf]⟩
      · exact ⟨_, w.drawn + 1, Nat.mod_lt _ (by omega), by
          simp only [choose, Sem.run, Question.forced, decide_eq_true_eq, hf, if_false, Question.cut]
          rfl⟩
    obtain ⟨j, k, hj, hrun⟩ := hch
    refine ⟨L[j], by simp, k, ?_⟩
    have hset : ∀ o', (setObj r o').run P { w with drawn := k } = .ok () { w with drawn := k, heap := w.heap.setIfInBounds r o' } := fun o' => by
      simp only [setObj, Sem.run, hi]
    simp only [hrun, Array.getElem?_map, Array.getElem?_eq_getElem hj, Option.map_some, Sem.run_bind, hset, Result.andThen]
    rfl

theorem entry_any {P : Program} {w : World} {r bm since : Nat} {seen : Array Nat} {es : Array MapEntry} {clock : Nat} {e : MapEntry} (hi : w.heap[r]? = some (.mapIter (some bm) since (seen.push e.born) clock)) (hb : w.heap[bm]? = some (.map es clock))
    (he : e ∈ es.toList) (hn : (es.toList.map (·.born)).Nodup) : (Instr.entry (.pointer (some ⟨r, 0, none⟩))).run P w = .ok (.tuple #[e.key, e.val]) w := by
  have hf : es.find? (·.born == e.born) = some e := by rw [← Array.find?_toList]; exact find_born e es.toList hn he
  simp only [Instr.entry, getObj, Sem.run_bind, Sem.run, hi, hb, Result.andThen, Array.back?_push, bne_self_eq_false, Bool.false_eq_true, if_false, hf]
  rfl

theorem range_any {P : Program} {w : World} {t k e : TypeId} (ht : P.underlying t = some (.map k e)) {bm : Nat} {es : Array MapEntry} {clock : Nat} (hb : w.heap[bm]? = some (.map es clock)) :
    (Instr.range t (.map (some bm))).run P w = .ok (.pointer (some ⟨w.heap.size, 0, none⟩)) { w with heap := w.heap.push (.mapIter (some bm) clock #[] clock) } :=
  run_range_map w t k e bm es clock ht hb
end Go.AX

namespace Go.AX
open Go

/-! ### Codes in a row -/
section
variable {P : Program} {nt : Nat}

def flatC : Code → List Code
  | .seq a b => flatC a ++ flatC b
  | c => [c]

/-- What codes in a row do. -/
def wpL (P : Program) (Q : Exit → Act → World → Prop) : List Code → Act → World → Prop
  | [], a, w => Q .normal a w
  | c :: l, a, w => c.wp P (Exit.then (wpL P Q l) Q) a w

theorem wpL_mono {Q Q' : Exit → Act → World → Prop} (hq : ∀ e a w, Q e a w → Q' e a w) : ∀ {l : List Code} {a : Act} {w : World}, wpL P Q l a w → wpL P Q' l a w
  | [], a, w, h => hq _ _ _ h
  | c :: l, a, w, h => wp_mono h fun e a w h => by
    cases e with
    | normal => exact wpL_mono (l := l) hq h
    | _ => exact hq _ _ _ h

theorem wpL_append {Q : Exit → Act → World → Prop} {m : List Code} : ∀ {l : List Code} {a : Act} {w : World}, wpL P Q (l ++ m) a w → wpL P (Exit.then (wpL P Q m) Q) l a w
  | [], a, w, h => h
  | c :: l, a, w, h => wp_mono h fun e a w h => by
    cases e with
    | normal => exact wpL_append (l := l) h
    | _ => exact h

theorem wp_flat : ∀ {c : Code} {Q : Exit → Act → World → Prop} {a : Act} {w : World}, wpL P Q (flatC c) a w → c.wp P Q a w
  | .seq x y, Q, a, w, h => by
    refine wp_seq (wp_flat (c := x) (wpL_mono (fun e a w h => ?_) (wpL_append (l := flatC x) (m := flatC y) h)))
    cases e with
    | normal => exact wp_flat (c := y) h
    | _ => exact h
  | .skip, Q, a, w, h | .region .., Q, a, w, h | .cond .., Q, a, w, h | .block .., Q, a, w, h | .loop _, Q, a, w, h | .rangeFunc .., Q, a, w, h | .exit _, Q, a, w, h | .scope _, Q, a, w, h
  | .label _, Q, a, w, h | .goto _, Q, a, w, h | .ret, Q, a, w, h | .refuse _, Q, a, w, h => by
    refine wp_mono (show Code.wp P _ (Exit.then (wpL P Q []) Q) a w from h) fun e a w h => ?_
    cases e <;> exact h

/-- Codes in a row, compiled. -/
def cSeq (P : Program) (nt : Nat) : List Code → Option ICode
  | [] => some .skip
  | c :: l => match cCode P nt c, cSeq P nt l with | some x, some y => some (.seq x y) | _, _ => none

theorem cSeq_sound (cfg : Cfg) (hms : MethSound P cfg) {call : Nat → List A → St → Option (V × St)} (hcs : CallSound P call) (hup : CallUp call) (hm : P.follows .mixedOrders = true) (n : Nat) {Q : Exit → Act → World → Prop} :
    ∀ {l : List Code} {x : ICode}, cSeq P nt l = some x → ∀ {E : Env} {s : St} {w : World} {tm : Tm} {a : Act} {r : R}, Inv P nt E s w tm a → exec cfg call n x tm s = some r → Fresh E s.nx r.st.nx →
    (∀ E' a' w', Inv P nt E' r.st w' r.tms a' → Step E s w E' r.st w' → a'.defers = a.defers → Q r.ex a' w') → wpL P Q l a w
  | [], x, hx, E, s, w, tm, a, r, hi, hr, hf, hQ => by
    simp only [cSeq] at hx; cases hx
    simp only [exec] at hr; cases hr
    exact hQ E a w hi (Step.refl hi.rel) rfl
  | c :: l, x, hx, E, s, w, tm, a, r, hi, hr, hf, hQ => by
    simp only [cSeq] at hx
    split at hx
    · rename_i y z h1 h2
      cases hx
      simp only [exec] at hr
      split at hr
      · rename_i tm1 s1 h3
        have hle := exec_nx hup hr
        refine cCode_sound (nt := nt) cfg hms hcs hup hm n h1 (r := .norm tm1 s1) hi h3 (fun b h4 h5 => hf b h4 (Nat.lt_of_lt_of_le h5 hle)) fun E' a' w' h6 h7 h8 => ?_
        have := hf.rest h7 hle
        exact cSeq_sound cfg hms hcs hup hm n h2 h6 hr this.2 fun E'' a'' w'' h9 h10 h11 => hQ E'' a'' w'' h9 (h7.trans h10) (h11.trans h8)
      · rename_i hne
        refine cCode_sound (nt := nt) cfg hms hcs hup hm n h1 hi hr hf fun E' a' w' h6 h7 h8 => ?_
        have := hQ E' a' w' h6 h7 h8
        cases r with
        | norm t s1 => exact absurd hr (hne t s1)
        | exit => exact this
        | ret => exact this
    · cases hx

/-! ### The rounds of a range over a map -/
/-- What one asks of the text of a loop: the slots of the iterator, of 'next' and of its test, of the entry; what the round does with the entry; the body. -/
structure RangeParts where
  blk : Nat
  tI : Tmp
  tN : Tmp
  tO : Tmp
  tE : Tmp
  ents : List IOper
  body : ICode
  deriving Inhabited

def plainOper (o : Oper) (d : Tmp) : Bool := match o.dst, o.guard with
  | some e, none => e == d
  | _, _ => false

def rangeParts (P : Program) (nt : Nat) : Code → Option RangeParts
  | .block B (.loop c) => match flatC c with
    | [.region _ o3 false, .cond (.tmp tO) .skip (.exit B'), .block _ x] => match o3.toList, flatC x with
      | [n1, n2], .region _ o4 false :: rest => match n1.op, n2.op, o4.toList with
        | .next (.tmp tI) false, .extract (.tmp tN) 0, e1 :: l => match e1.op, e1.dst, cOpers P nt o4 l, cSeq P nt rest with
          | .entry (.tmp tI'), some tE, some l', some y =>
            bif B' == B && tI' == tI && plainOper n1 tN && plainOper n2 tO && plainOper e1 tE && tN != tO && tI != tN && tI != tO && tI != tE && Nat.blt tN nt && Nat.blt tO nt && Nat.blt tE nt && Nat.blt tI nt
            then some ⟨B, tI, tN, tO, tE, l', y⟩ else none
          | _, _, _, _ => none
        | _, _, _ => none
      | _, _ => none
    | _ => none
  | _ => none


/-! ### The iterator -/
/-- The iterator in block r goes over the map in block bm, which is as it was when the loop began; these entries have come. -/
structure ItOk (w : World) (r bm : Nat) (es : Array MapEntry) (clock : Nat) (done : List MapEntry) : Prop where
  it : ∃ c0, w.heap[r]? = some (.mapIter (some bm) clock (done.map (·.born)).toArray c0) ∧ clock ≤ c0
  map : w.heap[bm]? = some (.map es clock)
  born : ∀ x ∈ es.toList, x.born < clock
  nodup : (es.toList.map (·.born)).Nodup
  perm : (done ++ (leftOf es (done.map (·.born)).toArray).toList).Perm es.toList

theorem leftOf_step {es : Array MapEntry} {done : List MapEntry} {e : MapEntry} (hn : (es.toList.map (·.born)).Nodup) (he : e ∈ (leftOf es (done.map (·.born)).toArray).toList) :
    (e :: (leftOf es ((done ++ [e]).map (·.born)).toArray).toList).Perm (leftOf es (done.map (·.born)).toArray).toList := by
  unfold leftOf at *
  simp only [Array.toList_filter] at *
  have hc : ∀ (d : List MapEntry) (x : MapEntry), ((d.map (·.born)).toArray).contains x.born = (d.map (·.born)).contains x.born := fun d x => by simp
  simp only [hc] at *
  generalize es.toList = l at *
  have key : ∀ (l : List MapEntry), (l.map (·.born)).Nodup → e ∈ l.filter (fun x => !(done.map (·.born)).contains x.born) →
      (e :: l.filter (fun x => !((done ++ [e]).map (·.born)).contains x.born)).Perm (l.filter (fun x => !(done.map (·.born)).contains x.born)) := by
    intro l
    induction l with
    | nil => intro _ h; simp at h
    | cons y l ih =>
      intro hn h
      have hn' : y.born ∉ l.map (·.born) ∧ (l.map (·.born)).Nodup := List.nodup_cons.1 hn
      have hcon : ∀ x : MapEntry, ((done ++ [e]).map (·.born)).contains x.born = ((done.map (·.born)).contains x.born || x.born == e.born) := fun x => by
        rw [List.map_append, Bool.eq_iff_iff]
        simp only [List.contains_iff_mem, List.mem_append, Bool.or_eq_true, beq_iff_eq, List.map_cons, List.map_nil, List.mem_singleton]
      by_cases hy : (done.map (·.born)).contains y.born = true
      · rw [List.filter_cons_of_neg (by rw [hy]; exact Bool.false_ne_true)] at h
        rw [List.filter_cons_of_neg (by rw [hcon, hy]; exact Bool.false_ne_true), List.filter_cons_of_neg (by rw [hy]; exact Bool.false_ne_true)]
        exact ih hn'.2 h
      · have hy : (done.map (·.born)).contains y.born = false := Bool.eq_false_iff.2 hy
        rw [List.filter_cons_of_pos (by rw [hy]; rfl)] at h
        rcases List.mem_cons.1 h with rfl | h'
        · rw [List.filter_cons_of_neg (by rw [hcon, beq_self_eq_true, Bool.or_true]; exact Bool.false_ne_true), List.filter_cons_of_pos (by rw [hy]; rfl)]
          refine List.Perm.cons _ ?_
          have : l.filter (fun x => !((done ++ [e]).map (·.born)).contains x.born) = l.filter (fun x => !(done.map (·.born)).contains x.born) := by
            refine List.filter_congr fun x hx => ?_
            rw [hcon]
            have : (x.born == e.born) = false := by
              rw [beq_eq_false_iff_ne]
              intro e'
              exact hn'.1 (List.mem_map.2 ⟨x, hx, e'⟩)
            rw [this, Bool.or_false]
          rw [this]
        · have hne : (y.born == e.born) = false := by
            rw [beq_eq_false_iff_ne]
            intro e'
            exact hn'.1 (List.mem_map.2 ⟨e, (List.mem_filter.1 h').1, e'.symm⟩)
          rw [List.filter_cons_of_pos (by rw [hcon, hy, hne]; rfl), List.filter_cons_of_pos (by rw [hy]; rfl)]
          exact (List.Perm.swap _ _ _).trans ((ih hn'.2 h').cons y)
  exact key l hn he

/-- What 'next' does. -/
theorem ItOk.next {w : World} {r bm : Nat} {es : Array MapEntry} {clock : Nat} {done : List MapEntry} (h : ItOk w r bm es clock done) (hne : r ≠ bm) (ty : TypeId) :
    (done.Perm es.toList ∧ (Instr.next (.pointer (some ⟨r, 0, none⟩)) false ty).run P w = .ok (.tuple #[.bool false]) w) ∨
    ∃ e, e ∈ es.toList ∧ ((done ++ [e]) ++ (leftOf es ((done ++ [e]).map (·.born)).toArray).toList).Perm es.toList ∧ ∃ k : Nat, ∃ w', w' = ({ w with drawn := k, heap := w.heap.setIfInBounds r (.mapIter (some bm) clock ((done ++ [e]).map (·.born)).toArray clock) } : World) ∧
      (Instr.next (.pointer (some ⟨r, 0, none⟩)) false ty).run P w = .ok (.tuple #[.bool true, e.key, e.val]) w' ∧ ItOk w' r bm es clock (done ++ [e]) := by
  obtain ⟨c0, hi, hc⟩ := h.it
  rcases next_any (P := P) ty hi h.map h.born hc with ⟨h0, hr⟩ | ⟨e, he, k, hr⟩
  · refine .inl ⟨?_, hr⟩
    have : (leftOf es (done.map (·.born)).toArray).toList = [] := by simpa using Array.eq_empty_of_size_eq_zero h0
    have hp := h.perm
    rwa [this, List.append_nil] at hp
  · have hst := leftOf_step h.nodup he
    have hp : ((done ++ [e]) ++ (leftOf es ((done ++ [e]).map (·.born)).toArray).toList).Perm es.toList := by
      rw [List.append_assoc]
      exact (List.Perm.append_left done hst).trans h.perm
    have hmem : e ∈ es.toList := hp.mem_iff.1 (by simp)
    have hseen : ((done.map (·.born)).toArray.push e.born) = ((done ++ [e]).map (·.born)).toArray := by simp
    rw [hseen] at hr
    have hlt : r < w.heap.size := (Array.getElem?_eq_some_iff.1 hi).1
    refine .inr ⟨e, hmem, hp, k, _, rfl, hr, ⟨clock, ?_, Nat.le_refl _⟩, ?_, h.born, h.nodup, hp⟩
    · show (w.heap.setIfInBounds r _)[r]? = _
      rw [Array.getElem?_setIfInBounds_self_of_lt hlt]
    · show (w.heap.setIfInBounds r _)[bm]? = _
      rw [Array.getElem?_setIfInBounds_ne hne]
      exact h.map
end
end Go.AX

namespace Go.AX
open Go

section
variable {P : Program} {nt : Nat}

/-- What the rounds have left, since the loop began: 'U' the numbers that came up; 'r' the iterator's block. -/
structure Acc (U : Nat → Prop) (r : Nat) (E0 : Env) (s0 : St) (w0 : World) (E : Env) (s : St) (w : World) : Prop where
  le : E0.Le E
  out : ∀ b, ¬ U b → E.loc b = E0.loc b
  live : ∀ n, Live E s n → w0.heap.size ≤ n ∨ Live E0 s0 n
  frame : ∀ n, n < w0.heap.size → ¬ Live E0 s0 n → n ≠ r → w.heap[n]? = w0.heap[n]?
  size : w0.heap.size ≤ w.heap.size
  os : w.os = w0.os
  output : w.output = w0.output
  tape : w.tape = w0.tape
  r : s.r = s0.r

theorem live_nx {E : Env} {s : St} {k n : Nat} : Live E { s with nx := k } n ↔ Live E s n := Iff.rfl
theorem Rel.nx {E : Env} {s : St} {w : World} (h : Rel E s w) (k : Nat) : Rel E { s with nx := k } w := ⟨⟨h.obj, h.inj⟩, h.ro⟩

theorem Acc.refl {U : Nat → Prop} {r : Nat} {E : Env} {s : St} {w : World} : Acc U r E s w E s w :=
  ⟨.refl E, fun _ _ => rfl, fun _ h => .inr h, fun _ _ _ _ => rfl, Nat.le_refl _, rfl, rfl, rfl, rfl⟩

theorem Acc.step {U U' : Nat → Prop} {r k : Nat} {E0 E E' : Env} {s0 s s' : St} {w0 w w' : World} (h : Acc U r E0 s0 w0 E s w) (h' : Step E { s with nx := k } w E' s' w')
    (hf : ∀ b, k ≤ b → b < s'.nx → E0.loc b = none) (hU : ∀ b, U b ∨ (k ≤ b ∧ b < s'.nx) → U' b) : Acc U' r E0 s0 w0 E' s' w' := by
  refine ⟨⟨fun b L hb => ?_, h'.sym.trans h.le.2⟩, fun b hb => ?_, fun n hn => ?_, fun n hn hl hr => ?_, Nat.le_trans h.size h'.size, h'.os.trans h.os, h'.output.trans h.output, h'.tape.trans h.tape, h'.r.trans h.r⟩
  · rw [h'.out b ?_]
    · exact h.le.1 b L hb
    · by_cases hr : k ≤ b ∧ b < s'.nx
      · rw [hf b hr.1 hr.2] at hb; cases hb
      · show b < k ∨ s'.nx ≤ b
        omega
  · have h1 : ¬ U b := fun e => hb (hU b (.inl e))
    have h2 : ¬ (k ≤ b ∧ b < s'.nx) := fun e => hb (hU b (.inr e))
    rw [h'.out b (show b < k ∨ s'.nx ≤ b by omega), h.out b h1]
  · rcases h'.live n hn with h1 | h1
    · exact .inl (Nat.le_trans h.size h1)
    · exact h.live n (live_nx.1 h1)
  · rw [← h.frame n hn hl hr]
    refine h'.frame n (Nat.lt_of_lt_of_le hn h.size) fun hl' => ?_
    rcases h.live n (live_nx.1 hl') with h2 | h2
    · omega
    · exact hl h2

theorem rangeParts_spec {c : Code} {pt : RangeParts} (h : rangeParts P nt c = some pt) :
    ∃ (i3 i4 B2 : Nat) (n1 n2 e1 : Oper) (o3 o4 : Array Oper) (x : Code) (l : List Oper) (rest : List Code) (b : Code),
      c = .block pt.blk (.loop b) ∧ flatC b = [.region i3 o3 false, .cond (.tmp pt.tO) .skip (.exit pt.blk), .block B2 x] ∧ o3.toList = [n1, n2] ∧ flatC x = .region i4 o4 false :: rest ∧
      n1.op = .next (.tmp pt.tI) false ∧ n1.dst = some pt.tN ∧ n1.guard = none ∧ n2.op = .extract (.tmp pt.tN) 0 ∧ n2.dst = some pt.tO ∧ n2.guard = none ∧
      o4.toList = e1 :: l ∧ e1.op = .entry (.tmp pt.tI) ∧ e1.dst = some pt.tE ∧ e1.guard = none ∧ cOpers P nt o4 l = some pt.ents ∧ cSeq P nt rest = some pt.body ∧
      pt.tN ≠ pt.tO ∧ pt.tI ≠ pt.tN ∧ pt.tI ≠ pt.tO ∧ pt.tI ≠ pt.tE ∧ pt.tN < nt ∧ pt.tO < nt ∧ pt.tE < nt ∧ pt.tI < nt := by
  have hpl : ∀ {o : Oper} {d : Tmp}, plainOper o d = true → o.dst = some d ∧ o.guard = none := by
    intro o d h
    unfold plainOper at h
    split at h
    · rename_i e h1 h2; simp only [beq_iff_eq] at h; subst h; exact ⟨h1, h2⟩
    · cases h
  unfold rangeParts at h
  split at h
  · rename_i B b
    split at h
    · rename_i i3 o3 tO B' B2 x hfl
      split at h
      · rename_i n1 n2 i4 o4 rest ho3 hx
        split at h
        · rename_i tI tN e1 l hn1 hn2 ho4
          split at h
          · rename_i tI' tE l' y he1 hed hl' hy
            obtain ⟨hb, h⟩ := cond_some h
            cases h
            simp only [Bool.and_eq_true, beq_iff_eq, bne_iff_ne, ne_eq] at hb
            obtain ⟨⟨⟨⟨⟨⟨⟨⟨⟨⟨⟨⟨h1, h2⟩, h3⟩, h4⟩, h5⟩, h6⟩, h7⟩, h8⟩, h9⟩, h10⟩, h11⟩, h12⟩, h13⟩ := hb
            subst h1; subst h2
            exact ⟨i3, i4, B2, n1, n2, e1, o3, o4, x, l, rest, b, rfl, hfl, ho3, hx, hn1, (hpl h3).1, (hpl h3).2, hn2, (hpl h4).1, (hpl h4).2, ho4, he1, (hpl h5).1, (hpl h5).2, hl', hy, h6, h7, h8, h9, blt_true' h10, blt_true' h11, blt_true' h12, blt_true' h13⟩
          · cases h
        · cases h
      · cases h
    · cases h
  · cases h

/-- The slots behind 'next' and the entry. -/
def bindT (pt : RangeParts) (tm : Tm) (k : C) (v : A) : Tm :=
  ((tm.set (some (.tup [.c (.bool true), .c k, v])) (.ofNat pt.tN)).set (some (.a (.c (.bool true)))) (.ofNat pt.tO)).set (some (.tup [.c k, v])) (.ofNat pt.tE)
/-- The slots where nothing is left. -/
def endT (pt : RangeParts) (tm : Tm) : Tm :=
  (tm.set (some (.tup [.c (.bool false)])) (.ofNat pt.tN)).set (some (.a (.c (.bool false)))) (.ofNat pt.tO)

theorem TRel.set {E : Env} {tm : Tm} {a : Act} (ht : TRel E nt tm a) {v : V} {x : Value} (hv : VRel E v x) {t : Nat} (hlt : t < nt) : TRel E nt (tm.set (some v) (.ofNat t)) (a.put (some t) x) :=
  TRel.put (d := some t) (d' := some (.ofNat t)) ht hv (.inr ⟨t, rfl, rfl, hlt⟩)

theorem getD_put_ne {a : Act} {t u : Nat} {x : Value} (h : t ≠ u) : (a.put (some t) x).tmps.getD u undef = a.tmps.getD u undef := by
  simp only [Act.put, Array.getD_eq_getD_getElem?]
  rw [Array.getElem?_setIfInBounds_ne h]
theorem getD_put_eq {a : Act} {t : Nat} {x : Value} (h : t < a.tmps.size) : (a.put (some t) x).tmps.getD t undef = x := by
  simp only [Act.put, Array.getD_eq_getD_getElem?]
  rw [Array.getElem?_setIfInBounds_self_of_lt h]
  rfl
theorem size_put {a : Act} {t : Option Tmp} {x : Value} : (a.put t x).tmps.size = a.tmps.size := by cases t <;> simp [Act.put]
theorem defers_put {a : Act} {t : Option Tmp} {x : Value} : (a.put t x).defers = a.defers := by cases t <;> rfl

/-- One plain operation. -/
theorem wpOps_one {ops : Array Oper} {i : Nat} {o : Oper} {l : List Nat} {Q : Exit → Act → World → Prop} {a : Act} {w w' : World} {v : Value} (ho : ops[i]? = some o) (hg : o.guard = none)
    (hr : (execOp a.eval o).run P w = .ok (.value v) w') (h : wpOps P ops Q l (a.put o.dst v) w') : wpOps P ops Q (i :: l) a w := by
  simp only [wpOps, ho]
  have : Region.wanted o (yielded ops a.tmps) = true := by simp [Region.wanted, hg]
  rw [this, if_pos rfl]
  refine .inl ?_
  unfold Oper.wp
  rw [hr]
  exact h

theorem exec_next {a : Act} {o : Oper} {t : Tmp} (h : o.op = .next (.tmp t) false) {w w' : World} {v : Value} (hr : (Instr.next (a.tmps.getD t undef) false o.type).run P w = .ok v w') : (execOp a.eval o).run P w = .ok (.value v) w' := by
  unfold execOp
  simp only [h]
  show ((Instr.next (a.tmps.getD t undef) false o.type) >>= fun x => pure (Next.value x)).run P w = _
  rw [Sem.run_bind, hr]; rfl
theorem exec_entry {a : Act} {o : Oper} {t : Tmp} (h : o.op = .entry (.tmp t)) {w w' : World} {v : Value} (hr : (Instr.entry (a.tmps.getD t undef)).run P w = .ok v w') : (execOp a.eval o).run P w = .ok (.value v) w' := by
  unfold execOp
  simp only [h]
  show ((Instr.entry (a.tmps.getD t undef)) >>= fun x => pure (Next.value x)).run P w = _
  rw [Sem.run_bind, hr]; rfl
theorem exec_extract {a : Act} {o : Oper} {t : Tmp} {i : Nat} (h : o.op = .extract (.tmp t) i) {w w' : World} {v : Value} (hr : (Instr.extract (a.tmps.getD t undef) i).run P w = .ok v w') : (execOp a.eval o).run P w = .ok (.value v) w' := by
  unfold execOp
  simp only [h]
  show ((Instr.extract (a.tmps.getD t undef) i) >>= fun x => pure (Next.value x)).run P w = _
  rw [Sem.run_bind, hr]; rfl
theorem exec_range {a : Act} {o : Oper} {ty : TypeId} {x : Operand} (h : o.op = .range ty x) {w w' : World} {v : Value} (hr : (Instr.range ty (a.eval x)).run P w = .ok v w') : (execOp a.eval o).run P w = .ok (.value v) w' := by
  unfold execOp
  simp only [h]
  show ((Instr.range ty (a.eval x)) >>= fun x => pure (Next.value x)).run P w = _
  rw [Sem.run_bind, hr]; rfl
theorem run_extract0 {w : World} {x : Value} {xs : List Value} : (Instr.extract (.tuple (x :: xs).toArray) 0).run P w = .ok x w := rfl
end
end Go.AX

namespace Go.AX
open Go

section
variable {P : Program} {nt : Nat}

theorem Rel0.other {E : Env} {s : St} {w w' : World} (h : Rel0 E s w) (hw : ∀ n, Live E s n → w'.heap[n]? = w.heap[n]?) : Rel0 E s w' :=
  ⟨fun b o hb => let ⟨L, hL, ho⟩ := h.obj b o hb; ⟨L, hL, ho.same (hw _ ⟨b, o, L, hb, hL, rfl⟩)⟩, h.inj⟩
theorem Rel.other {E : Env} {s : St} {w w' : World} (h : Rel E s w) (hw : ∀ n, Live E s n → w'.heap[n]? = w.heap[n]?) (hro : ∀ (n : Nat) c el fr, w.heap[n]? = some (Go.Obj.cells c el fr) → w'.heap[n]? = w.heap[n]?) : Rel E s w' :=
  ⟨⟨fun b o hb => let ⟨L, hL, ho⟩ := h.obj b o hb; ⟨L, hL, ho.same (hw _ ⟨b, o, L, hb, hL, rfl⟩)⟩, h.inj⟩, fun b x hb => let ⟨L, hL, hl, hx⟩ := h.ro b x hb; ⟨L, hL, hl, hx.same (by obtain ⟨c, el, fr, h1, _⟩ := hx; exact hro _ c el fr h1)⟩⟩

theorem mem_zip_right {α β : Type} {R : α → β → Prop} {l : List α} {m : List β} (h : All2 R l m) {y : β} (hy : y ∈ m) : ∃ p ∈ l.zip m, p.2 = y ∧ R p.1 p.2 := by
  induction h with
  | nil => cases hy
  | cons h1 _ ih =>
    rcases List.mem_cons.1 hy with rfl | h2
    · exact ⟨_, List.mem_cons_self .., rfl, h1⟩
    · obtain ⟨p, hp, h3⟩ := ih h2
      exact ⟨p, List.mem_cons_of_mem _ hp, h3⟩
theorem zip_rel {α β : Type} {R : α → β → Prop} {l : List α} {m : List β} (h : All2 R l m) : ∀ p ∈ l.zip m, R p.1 p.2 := by
  induction h with
  | nil => intro p hp; simp at hp
  | cons h1 _ ih =>
    intro p hp
    rcases List.mem_cons.1 hp with rfl | h2
    · exact h1
    · exact ih p h2
theorem zip_fst {α β : Type} {R : α → β → Prop} {l : List α} {m : List β} (h : All2 R l m) : (l.zip m).map (·.1) = l := by
  induction h with
  | nil => rfl
  | cons _ _ ih => simp [ih]
theorem zip_snd {α β : Type} {R : α → β → Prop} {l : List α} {m : List β} (h : All2 R l m) : (l.zip m).map (·.2) = m := by
  induction h with
  | nil => rfl
  | cons _ _ ih => simp [ih]

/-- What one round does, by the executor: 'dl': the entries so far; 'k, v': this one. -/
def RoundOk (cfg : Cfg) (call : Nat → List A → St → Option (V × St)) (n G : Nat) (E0 : Env) (pt : RangeParts) (l : List (C × A)) (F : List (C × A) → St → Tm → Prop) (U : List (C × A) → Nat → Prop) (W : Nat → Prop) (Early : Tm → St → Prop) : Prop :=
  ∀ dl k v rest s tm, (dl ++ (k, v) :: rest).Perm l → F dl s tm → ∃ nx' tm1 s1 r, G ≤ nx' ∧ runOps cfg call pt.ents (bindT pt tm k v) { s with nx := nx' } = some (tm1, s1) ∧ exec cfg call n pt.body tm1 s1 = some r ∧
    (∀ b, nx' ≤ b → b < r.st.nx → ¬ U dl b ∧ E0.loc b = none) ∧
    ((∃ tm' s', r = .norm tm' s' ∧ F (dl ++ [(k, v)]) s' tm' ∧ ∀ b, U dl b ∨ (nx' ≤ b ∧ b < s'.nx) → U (dl ++ [(k, v)]) b) ∨
     (∃ tm' s', r = .ret tm' s' ∧ Early tm' s' ∧ ∀ b, U dl b ∨ (nx' ≤ b ∧ b < s'.nx) → W b))

theorem range_loop (cfg : Cfg) (hms : MethSound P cfg) {call : Nat → List A → St → Option (V × St)} (hcs : CallSound P call) (hup : CallUp call) (hm : P.follows .mixedOrders = true) (n : Nat)
    {c : Code} {pt : RangeParts} (hp : rangeParts P nt c = some pt) {E0 : Env} {s0 : St} {w0 : World} {r bm bI : Nat} {es : Array MapEntry} {clock rI : Nat}
    (hne : r ≠ bm) (hr0 : r < w0.heap.size) (hnr : ¬ Live E0 s0 r) (hnb : ¬ Live E0 s0 bm) (hit : ItOk w0 r bm es clock []) (hI0 : E0.loc bI = some ⟨r, 0, rI⟩)
    {l : List (C × A)} (hl : ∃ l', l'.Perm l ∧ All2 (EntRel E0) l' es.toList) {F : List (C × A) → St → Tm → Prop} {U : List (C × A) → Nat → Prop} {W : Nat → Prop} {Early : Tm → St → Prop}
    (hI : ∀ dl s tm, F dl s tm → tm.get (.ofNat pt.tI) = some (.a (.c (.ptr bI 0)))) (hround : RoundOk cfg call n P.globals.size E0 pt l F U W Early) (hUW : ∀ dl b, U dl b → W b)
    {tm0 : Tm} {a0 : Act} (hi0 : Inv P nt E0 s0 w0 tm0 a0) (hF0 : F [] s0 tm0)
    {Q : Exit → Act → World → Prop}
    (hend : ∀ dl E' s' w' tm a', dl.Perm l → F dl s' tm → Rel E' s' w' → TRel E' nt (endT pt tm) a' → Acc W r E0 s0 w0 E' s' w' → w'.heap[bm]? = some (.map es clock) → a'.defers = a0.defers → Q .normal a' w')
    (hret : ∀ E' s' w' tm a', Early tm s' → Rel E' s' w' → TRel E' nt tm a' → Acc W r E0 s0 w0 E' s' w' → w'.heap[bm]? = some (.map es clock) → a'.defers = a0.defers → Q .ret a' w') :
    c.wp P Q a0 w0 := by
  obtain ⟨i3, i4, B2, n1, n2, e1, o3, o4, x, lo, rest, b, rfl, hfb, ho3, hfx, hn1, hn1d, hn1g, hn2, hn2d, hn2g, ho4, he1, he1d, he1g, hlo, hrest, hNO, hIN, hIO, hIE, hNlt, hOlt, hElt, hIlt⟩ := rangeParts_spec hp
  obtain ⟨l0, hperm0, hall0⟩ := hl
  have hz : ((l0.zip es.toList).map (·.2)) = es.toList := zip_snd hall0
  have hz1 : ((l0.zip es.toList).map (·.1)) = l0 := zip_fst hall0
  have hrel0 := zip_rel hall0
  have hmem0 : ∀ e ∈ es.toList, ∃ p ∈ l0.zip es.toList, p.2 = e := fun e he => let ⟨p, h1, h2, _⟩ := mem_zip_right hall0 he; ⟨p, h1, h2⟩
  generalize hZ : l0.zip es.toList = Z at hz hz1 hrel0 hmem0
  have hbm0 : bm < w0.heap.size := (Array.getElem?_eq_some_iff.1 hit.map).1
  refine wp_block (LoopAt.wp ?_)
  have main : ∀ (m : Nat) (dp restp : List ((C × A) × MapEntry)) (E : Env) (s : St) (w : World) (tm : Tm) (a : Act), restp.length = m → (dp ++ restp).Perm Z → F (dp.map (·.1)) s tm → Rel E s w → TRel E nt tm a → GOk P E →
      Acc (U (dp.map (·.1))) r E0 s0 w0 E s w → a.defers = a0.defers → ItOk w r bm es clock (dp.map (·.2)) → LoopAt P b (Exit.inBlock pt.blk Q) a w := by
    intro m
    induction m with
    | zero =>
      intro dp restp E s w tm a hm0 hpz hF hrel htr hg hacc hde hok
      have hrp : restp = [] := List.eq_nil_of_length_eq_zero hm0
      subst hrp
      rw [List.append_nil] at hpz
      refine LoopAt.round (wp_flat ?_)
      rw [hfb]
      have hsz : o3.size = 2 := by have := congrArg List.length ho3; simpa using this
      have ha0 : a.tmps.getD pt.tI undef = .pointer (some ⟨r, 0, none⟩) := by
        obtain ⟨_, h2⟩ := htr.2 _ _ (hI _ _ _ hF)
        rw [Pos.toNat_ofNat] at h2
        obtain ⟨L, hL, hx⟩ := h2
        rw [hacc.le.1 _ _ hI0] at hL; cases hL
        simpa using hx
      have hg0 : o3[0]? = some n1 := by rw [← Array.getElem?_toList, ho3]; rfl
      have hg1 : o3[1]? = some n2 := by rw [← Array.getElem?_toList, ho3]; rfl
      refine wp_region ?_
      rw [hsz]
      show wpOps P o3 _ [0, 1] a w
      rcases hok.next (P := P) hne n1.type with ⟨hdp, hrun⟩ | ⟨e, he, hpe, k, w', hw', hrun, hok'⟩
      · have hrun' := exec_next (P := P) (a := a) (o := n1) hn1 (by rw [ha0]; exact hrun)
        refine wpOps_one hg0 hn1g hrun' ?_
        rw [hn1d]
        have htr1 := htr.set (v := .tup [.c (.bool false)]) (x := .tuple #[.bool false]) ⟨[.bool false], rfl, .cons rfl .nil⟩ hNlt
        have hx2 : (a.put (some pt.tN) (.tuple #[.bool false])).tmps.getD pt.tN undef = .tuple #[.bool false] := getD_put_eq (by rw [htr.1]; exact hNlt)
        have hrun2 := exec_extract (P := P) (a := a.put (some pt.tN) (.tuple #[.bool false])) (o := n2) hn2 (w := w) (w' := w) (v := .bool false) (by rw [hx2]; rfl)
        refine wpOps_one hg1 hn2g hrun2 ?_
        rw [hn2d]
        have htr2 := htr1.set (v := .a (.c (.bool false))) (x := .bool false) rfl hOlt
        show wpL P _ _ _ _
        refine wp_cond_false ?_ (wp_exit ?_)
        · show ((a.put (some pt.tN) (.tuple #[.bool false])).put (some pt.tO) (.bool false)).tmps.getD pt.tO undef = _
          exact getD_put_eq (by rw [size_put, htr.1]; exact hOlt)
        · show Exit.inBlock pt.blk Q (.exit pt.blk) _ _
          simp only [Exit.inBlock, if_true]
          refine hend (dp.map (·.1)) E s w tm _ ?_ hF hrel htr2 ⟨hacc.le, fun b hb => hacc.out b (fun h => hb (hUW _ _ h)), hacc.live, hacc.frame, hacc.size, hacc.os, hacc.output, hacc.tape, hacc.r⟩ hok.map ?_
          · have := hpz.map (·.1)
            rw [hz1] at this
            exact this.trans hperm0
          · rw [defers_put, defers_put]; exact hde
      · -- nothing can be left
        exfalso
        have h1 := hpe.length_eq
        have h2 := hpz.length_eq
        have h3 : Z.length = es.toList.length := by rw [← hz, List.length_map]
        simp only [List.length_append, List.length_map, List.length_cons, List.length_nil] at h1 h2 h3
        omega
    | succ m ih =>
      intro dp restp E s w tm a hm0 hpz hF hrel htr hg hacc hde hok
      refine LoopAt.round (wp_flat ?_)
      rw [hfb]
      have hsz : o3.size = 2 := by have := congrArg List.length ho3; simpa using this
      have ha0 : a.tmps.getD pt.tI undef = .pointer (some ⟨r, 0, none⟩) := by
        obtain ⟨_, h2⟩ := htr.2 _ _ (hI _ _ _ hF)
        rw [Pos.toNat_ofNat] at h2
        obtain ⟨L, hL, hx⟩ := h2
        rw [hacc.le.1 _ _ hI0] at hL; cases hL
        simpa using hx
      have hg0 : o3[0]? = some n1 := by rw [← Array.getElem?_toList, ho3]; rfl
      have hg1 : o3[1]? = some n2 := by rw [← Array.getElem?_toList, ho3]; rfl
      refine wp_region ?_
      rw [hsz]
      show wpOps P o3 _ [0, 1] a w
      rcases hok.next (P := P) hne n1.type with ⟨hdp, hrun⟩ | ⟨e, he, hpe, k, w', hw', hrun, hok'⟩
      · -- something is left
        exfalso
        have h1 := hdp.length_eq
        have h2 := hpz.length_eq
        have h3 : Z.length = es.toList.length := by rw [← hz, List.length_map]
        simp only [List.length_append, List.length_map] at h1 h2 h3
        omega
      · -- the pair of this entry
        obtain ⟨p, hpZ, rfl⟩ := hmem0 e he
        have hnd : ((dp.map (·.2) ++ [p.2]).map (·.born)).Nodup := by
          have h1 := (hpe.map (·.born)).nodup_iff.2 hok.nodup
          rw [List.map_append] at h1
          exact (List.nodup_append.1 h1).1
        have hpd : p ∉ dp := by
          intro hpd
          rw [List.map_append] at hnd
          exact (List.nodup_append.1 hnd).2.2 p.2.born (List.mem_map.2 ⟨p.2, List.mem_map.2 ⟨p, hpd, rfl⟩, rfl⟩) p.2.born (by simp) rfl
        have hpr : p ∈ restp := by
          rcases List.mem_append.1 (hpz.mem_iff.2 hpZ) with h | h
          · exact absurd h hpd
          · exact h
        obtain ⟨ra, rb, rfl⟩ := List.append_of_mem hpr
        have hpz' : ((dp ++ [p]) ++ (ra ++ rb)).Perm Z := by
          refine List.Perm.trans ?_ hpz
          rw [List.append_assoc]
          exact List.Perm.append_left dp (show (p :: (ra ++ rb)).Perm (ra ++ p :: rb) from List.perm_middle.symm)
        have hlen : (ra ++ rb).length = m := by simp at hm0 ⊢; omega
        have hrun' := exec_next (P := P) (a := a) (o := n1) hn1 (by rw [ha0]; exact hrun)
        refine wpOps_one hg0 hn1g hrun' ?_
        rw [hn1d]
        obtain ⟨hk0, hv0⟩ := hrel0 p hpZ
        have hkE : CRel E p.1.1 p.2.key := hk0.mono hacc.le
        have hvE : ARel E p.1.2 p.2.val := hv0.mono hacc.le
        have htr1 := htr.set (v := .tup [.c (.bool true), .c p.1.1, p.1.2]) (x := .tuple #[.bool true, p.2.key, p.2.val]) ⟨[.bool true, p.2.key, p.2.val], rfl, .cons rfl (.cons hkE (.cons hvE .nil))⟩ hNlt
        have hx2 : (a.put (some pt.tN) (.tuple #[.bool true, p.2.key, p.2.val])).tmps.getD pt.tN undef = .tuple #[.bool true, p.2.key, p.2.val] := getD_put_eq (by rw [htr.1]; exact hNlt)
        have hrun2 := exec_extract (P := P) (a := a.put (some pt.tN) (.tuple #[.bool true, p.2.key, p.2.val])) (o := n2) hn2 (w := w') (w' := w') (v := .bool true) (by rw [hx2]; rfl)
        refine wpOps_one hg1 hn2g hrun2 ?_
        rw [hn2d]
        have htr2 := htr1.set (v := .a (.c (.bool true))) (x := .bool true) rfl hOlt
        show wpL P _ _ _ _
        refine wp_cond_true ?_ (wp_skip ?_)
        · show ((a.put (some pt.tN) (.tuple #[.bool true, p.2.key, p.2.val])).put (some pt.tO) (.bool true)).tmps.getD pt.tO undef = _
          exact getD_put_eq (by rw [size_put, htr.1]; exact hOlt)
        show wpL P _ [.block B2 x] _ _
        refine wp_block (wp_flat ?_)
        rw [hfx]
        refine wp_region ?_
        have hsz4 : o4.size = lo.length + 1 := by have := congrArg List.length ho4; simpa using this
        rw [hsz4, List.range_eq_range', List.range'_succ]
        have hg40 : o4[0]? = some e1 := by rw [← Array.getElem?_toList, ho4]; rfl
        generalize ha2 : (a.put (some pt.tN) (.tuple #[.bool true, p.2.key, p.2.val])).put (some pt.tO) (.bool true) = a2 at htr2
        have ha2I : a2.tmps.getD pt.tI undef = .pointer (some ⟨r, 0, none⟩) := by
          rw [← ha2, getD_put_ne hIO.symm, getD_put_ne hIN.symm, ha0]
        have hborn : (dp.map (·.2) ++ [p.2]).map (·.born) = (dp.map (·.2)).map (·.born) ++ [p.2.born] := by simp
        have hent : (Instr.entry (a2.tmps.getD pt.tI undef)).run P w' = .ok (.tuple #[p.2.key, p.2.val]) w' := by
          rw [ha2I]
          have hlt : r < w.heap.size := Nat.lt_of_lt_of_le hr0 hacc.size
          refine entry_any (P := P) (since := clock) (seen := ((dp.map (·.2)).map (·.born)).toArray) (clock := clock) ?_ hok'.map he hok.nodup
          rw [hw']
          show (w.heap.setIfInBounds r _)[r]? = _
          rw [Array.getElem?_setIfInBounds_self_of_lt hlt, hborn]
          simp
        refine wpOps_one hg40 he1g (exec_entry (P := P) (a := a2) he1 hent) ?_
        rw [he1d]
        have htr3 := htr2.set (v := .tup [.c p.1.1, p.1.2]) (x := .tuple #[p.2.key, p.2.val]) ⟨[p.2.key, p.2.val], rfl, .cons hkE (.cons hvE .nil)⟩ hElt
        -- the world has turned at the iterator alone
        have hlive : ∀ q, Live E s q → q ≠ r := fun q hq e => by
          subst e
          rcases hacc.live _ hq with h | h
          · omega
          · exact hnr h
        have hheap : ∀ q, q ≠ r → w'.heap[q]? = w.heap[q]? := fun q hq => by
          rw [hw']
          show (w.heap.setIfInBounds r _)[q]? = _
          rw [Array.getElem?_setIfInBounds_ne (Ne.symm hq)]
        have hrel' : Rel E s w' := hrel.other (fun q hq => hheap q (hlive q hq)) fun q c el fr hq => hheap q fun e => by
          obtain ⟨c0, hc0, _⟩ := hok.it
          rw [e, hc0] at hq; cases hq
        have hsize' : w'.heap.size = w.heap.size := by rw [hw']; simp
        have hacc' : Acc (U (dp.map (·.1))) r E0 s0 w0 E s w' := ⟨hacc.le, hacc.out, hacc.live, fun q hq hlq hqr => by rw [hheap q hqr]; exact hacc.frame q hq hlq hqr, by rw [hsize']; exact hacc.size, by rw [hw']; exact hacc.os, by rw [hw']; exact hacc.output, by rw [hw']; exact hacc.tape, hacc.r⟩
        have hpl : (dp.map (·.1) ++ (p.1.1, p.1.2) :: (ra ++ rb).map (·.1)).Perm l := by
          have := hpz'.map (·.1)
          rw [hz1] at this
          refine List.Perm.trans ?_ (this.trans hperm0)
          rw [List.append_assoc, List.map_append (l₁ := dp)]
          exact List.Perm.refl _
        obtain ⟨nx', tm1, s1, rr, hG, hops, hexec, hfresh, hcase⟩ := hround (dp.map (·.1)) p.1.1 p.1.2 ((ra ++ rb).map (·.1)) s tm hpl hF
        have hle1 : nx' ≤ s1.nx := runOps_nx hup hops
        have hle2 : s1.nx ≤ rr.st.nx := exec_nx hup hexec
        have hEfresh : ∀ q, nx' ≤ q → q < rr.st.nx → E.loc q = none := fun q h1 h2 => by
          obtain ⟨h3, h4⟩ := hfresh q h1 h2
          rw [hacc.out q h3]; exact h4
        have hinv : Inv P nt E { s with nx := nx' } w' (bindT pt tm p.1.1 p.1.2) (a2.put (some pt.tE) (.tuple #[p.2.key, p.2.val])) := ⟨hrel'.nx nx', htr3, hg, hG⟩
        refine ops_sound cfg hms hcs hup (l := lo) (l' := pt.ents) 1 (fun j => by rw [← Array.getElem?_toList, ho4, Nat.add_comm]; rfl) hlo hinv hops (fun q h1 h2 => hEfresh q h1 (by omega)) fun E1 a1 w1 hi1 hst1 hde1 => ?_
        show wpL P _ rest a1 w1
        have hfr1 : Fresh E1 s1.nx rr.st.nx := fun q h1 h2 => by
          rw [hst1.out q (.inr h1)]
          exact hEfresh q (by omega) h2
        refine cSeq_sound cfg hms hcs hup hm n hrest hi1 hexec hfr1 fun E2 a3 w3 hi3 hst3 hde3 => ?_
        have hst : Step E { s with nx := nx' } w' E2 rr.st w3 := hst1.trans hst3
        have hdef : a3.defers = a0.defers := by
          rw [hde3, hde1, defers_put, ← ha2, defers_put, defers_put, hde]
        -- the iterator and the map stand
        have hnl : ∀ q, ¬ Live E0 s0 q → q < w0.heap.size → ¬ Live E { s with nx := nx' } q := fun q h1 h2 h3 => by
          rcases hacc.live q (live_nx.1 h3) with h | h
          · omega
          · exact h1 h
        have hsz' : w0.heap.size ≤ w'.heap.size := by rw [hsize']; exact hacc.size
        have hr3 : w3.heap[r]? = w'.heap[r]? := hst.frame r (by omega) (hnl r hnr hr0)
        have hb3 : w3.heap[bm]? = w'.heap[bm]? := hst.frame bm (by omega) (hnl bm hnb hbm0)
        rcases hcase with ⟨tm', s', rfl, hF', hU'⟩ | ⟨tm', s', rfl, hE', hW'⟩
        · show LoopAt P b (Exit.inBlock pt.blk Q) a3 w3
          have hokk : ItOk w3 r bm es clock ((dp ++ [p]).map (·.2)) := by
            rw [List.map_append]
            exact ⟨by rw [hr3]; exact hok'.it, by rw [hb3]; exact hok'.map, hok'.born, hok'.nodup, hok'.perm⟩
          have hFF : F ((dp ++ [p]).map (·.1)) s' tm' := by rw [List.map_append]; exact hF'
          refine ih (dp ++ [p]) (ra ++ rb) E2 s' w3 tm' a3 hlen hpz' hFF hi3.rel hi3.tr hi3.g ?_ hdef hokk
          rw [List.map_append]
          exact hacc'.step hst (fun q h1 h2 => (hfresh q h1 h2).2) hU'
        · show Q .ret a3 w3
          exact hret E2 s' w3 tm' a3 hE' hi3.rel hi3.tr (hacc'.step hst (fun q h1 h2 => (hfresh q h1 h2).2) hW') (by rw [hb3]; exact hok'.map) hdef
  have hperm : ([] ++ Z : List ((C × A) × MapEntry)).Perm Z := List.Perm.refl _
  exact main Z.length [] Z E0 s0 w0 tm0 a0 rfl hperm hF0 hi0.rel hi0.tr hi0.g .refl rfl hit
end
end Go.AX

namespace Go.AX
open Go

section
variable {P : Program} {nt : Nat}

/-! ### A state that says less, or the same of maps in another order -/
def ObjLe : Obj → Obj → Prop
  | .map l, .map l' => l.Perm l'
  | .cells n d t f, .cells n' d' t' f' => n = n' ∧ d = d' ∧ t = t' ∧ (f = false → f' = false)
  | o, o' => o = o'
def StLe (s' s : St) : Prop := ∀ b o, s'.get b = some o → ∃ o2, s.get b = some o2 ∧ ObjLe o o2
theorem ObjLe.refl (o : Obj) : ObjLe o o := by cases o <;> simp [ObjLe]
theorem StLe.refl (s : St) : StLe s s := fun b o h => ⟨o, h, ObjLe.refl o⟩

theorem keyedOk_iff : ∀ {l : List (C × A)}, keyedOk l ↔ (∀ p ∈ l, keyOk true p.1 = true ∨ keyOk false p.1 = true) ∧ l.Pairwise (fun p q => keyEq p.1 q.1 = some false ∧ keyEq q.1 p.1 = some false)
  | [] => by simp [keyedOk]
  | (k, v) :: l => by
    rw [keyedOk, keyedOk_iff (l := l), List.pairwise_cons]
    simp only [List.mem_cons, forall_eq_or_imp]
    constructor
    · rintro ⟨h1, h2, h3, h4⟩; exact ⟨⟨h1, h3⟩, h2, h4⟩
    · rintro ⟨⟨h1, h3⟩, h2, h4⟩; exact ⟨h1, h2, h3, h4⟩
theorem keyedOk_perm {l l' : List (C × A)} (h : l.Perm l') (hk : keyedOk l) : keyedOk l' := by
  rw [keyedOk_iff] at *
  refine ⟨fun p hp => hk.1 p (h.mem_iff.2 hp), (h.pairwise_iff ?_).1 hk.2⟩
  intro a b ⟨h1, h2⟩
  exact ⟨h2, h1⟩

theorem ORel.objLe {E : Env} {w : World} {L : Loc} {o o' : Obj} (h : ORel E w L o') (hl : ObjLe o o') : ORel E w L o := by
  cases o <;> cases o' <;> simp only [ObjLe] at hl <;> try (cases hl; done)
  · obtain ⟨rfl, rfl, rfl, hf⟩ := hl
    obtain ⟨c, el, fr, h1, h2, h3, h4, h5, h6⟩ := h
    exact ⟨c, el, fr, h1, h2, h3, h4, h5, fun e => h6 (hf e)⟩
  · obtain ⟨es, clock, h1, h2, h3, ⟨l', hp, ha⟩, h4⟩ := h
    exact ⟨es, clock, h1, h2, keyedOk_perm hl.symm h3, ⟨l', hp.trans hl.symm, ha⟩, h4⟩
  · cases hl; exact h
theorem Rel0.stLe {E : Env} {w : World} {s s' : St} (h : Rel0 E s w) (hl : StLe s' s) : Rel0 E s' w := by
  refine ⟨fun b o hb => ?_, fun b b' o o' L L' hb hb' hL hL' he => ?_⟩
  · obtain ⟨o2, h1, h2⟩ := hl b o hb
    obtain ⟨L, hL, ho⟩ := h.obj b o2 h1
    exact ⟨L, hL, ho.objLe h2⟩
  · obtain ⟨o2, h1, _⟩ := hl b o hb
    obtain ⟨o2', h1', _⟩ := hl b' o' hb'
    exact h.inj b b' o2 o2' L L' h1 h1' hL hL' he
theorem Live.stLe {E : Env} {s s' : St} (hl : StLe s' s) {n : Nat} : Live E s' n → Live E s n := fun ⟨b, o, L, h1, h2, h3⟩ => let ⟨o2, h4, _⟩ := hl b o h1; ⟨b, o2, L, h4, h2, h3⟩
theorem Step.less {E E' : Env} {s s1 s' : St} {w w' : World} (h : Step E s w E' s1 w') (hl : StLe s' s1) (hn : s1.nx ≤ s'.nx) (hr : s'.r = s.r) : Step E s w E' s' w' :=
  ⟨h.rel.stLe hl, Nat.le_trans h.nx hn, fun b hb => h.out b (by omega), h.sym, fun n hn => h.live n (Live.stLe hl hn), h.frame, h.size, h.os, h.output, h.tape, hr⟩

/-! ### A function with one range over a map -/
structure FunParts where
  nt : Nat
  np : Nat
  pre : ICode
  ops : List IOper
  mp : Opd
  rp : RangeParts
  post : ICode
  ress : List IRes
  deriving Inhabited

/-- The region whose last operation begins a range, the loop behind it. -/
def findRange : List Code → Option (List Code × Array Oper × Code × List Code)
  | .region i o false :: c :: post => match o.back? with
    | some e => match e.op with
      | .range _ _ => some ([], o, c, post)
      | _ => match findRange (c :: post) with | some (a, b, c, d) => some (.region i o false :: a, b, c, d) | none => none
    | none => none
  | c :: l => match findRange l with | some (a, b, d, e) => some (c :: a, b, d, e) | none => none
  | [] => none
theorem findRange_spec : ∀ {l pre post : List Code} {o : Array Oper} {c : Code}, findRange l = some (pre, o, c, post) → ∃ i, l = pre ++ .region i o false :: c :: post := by
  intro l
  induction l with
  | nil => intro pre post o c h; simp [findRange] at h
  | cons x l ih =>
    intro pre post o c h
    have step : (match findRange l with | some (a, b, d, e) => some (x :: a, b, d, e) | none => none) = some (pre, o, c, post) → ∃ i, x :: l = pre ++ .region i o false :: c :: post := by
      intro h
      split at h
      · rename_i a b d e hl
        cases h
        obtain ⟨i, hi⟩ := ih hl
        exact ⟨i, by rw [hi]; rfl⟩
      · cases h
    unfold findRange at h
    split at h
    · rename_i i o' c' post' heq
      simp only [List.cons.injEq] at heq
      obtain ⟨rfl, rfl⟩ := heq
      split at h
      · split at h
        · cases h; exact ⟨i, rfl⟩
        · exact step h
      · cases h
    · rename_i c' l' _ heq
      simp only [List.cons.injEq] at heq
      obtain ⟨rfl, rfl⟩ := heq
      exact step h
    · cases h

def funParts (P : Program) (F : Func) : Option FunParts := match F.body with
  | none => none
  | some c => match findRange (flatC c) with
    | none => none
    | some (pre, o, lp, post) => match o.toList.reverse with
      | [] => none
      | e :: rl => match e.op, e.dst, e.guard with
        | .range ty x, some tI, none => match P.underlying ty, cOpd P F.ntmps x, cOpers P F.ntmps o rl.reverse, cSeq P F.ntmps pre, rangeParts P F.ntmps lp, cSeq P F.ntmps post, cRess P F.ntmps F.results.toList with
          | some (.map _ _), some mp, some l2, some preI, some rp, some postI, some rs => bif rp.tI == tI && Nat.ble F.params.size F.ntmps && Nat.beq F.nfree 0 then some ⟨F.ntmps, F.params.size, preI, l2, mp, rp, postI, rs⟩ else none
          | _, _, _, _, _, _, _ => none
        | _, _, _ => none
theorem funParts_spec {F : Func} {fp : FunParts} (h : funParts P F = some fp) :
    ∃ (c : Code) (pre post : List Code) (o : Array Oper) (lp : Code) (e : Oper) (l : List Oper) (ty k v : TypeId) (x : Operand) (i : Nat),
      F.body = some c ∧ flatC c = pre ++ .region i o false :: lp :: post ∧ o.toList = l ++ [e] ∧ e.op = .range ty x ∧ e.dst = some fp.rp.tI ∧ e.guard = none ∧ P.underlying ty = some (.map k v) ∧ cOpd P F.ntmps x = some fp.mp ∧
      cOpers P F.ntmps o l = some fp.ops ∧ cSeq P F.ntmps pre = some fp.pre ∧ rangeParts P F.ntmps lp = some fp.rp ∧ cSeq P F.ntmps post = some fp.post ∧ cRess P F.ntmps F.results.toList = some fp.ress ∧ fp.np ≤ F.ntmps ∧ fp.nt = F.ntmps := by
  unfold funParts at h
  split at h
  · cases h
  · rename_i c hb
    split at h
    · cases h
    · rename_i pre o lp post hfr
      obtain ⟨i, hi⟩ := findRange_spec hfr
      split at h
      · cases h
      · rename_i e rl hrev
        have ho : o.toList = rl.reverse ++ [e] := by have := congrArg List.reverse hrev; simpa using this
        split at h
        · rename_i ty x tI he hd hg
          split at h
          · rename_i k v mp l2 preI rp postI rs h1 h2 h3 h4 h5 h6 h7
            obtain ⟨hb2, h⟩ := cond_some h
            cases h
            simp only [Bool.and_eq_true, beq_iff_eq] at hb2
            obtain ⟨⟨h8, h9⟩, _⟩ := hb2
            subst h8
            exact ⟨c, pre, post, o, lp, e, rl.reverse, ty, k, v, x, i, hb, hi, ho, he, hd, hg, h1, h2, h3, h4, h5, h6, h7, ble_true' h9, rfl⟩
          · cases h
        · cases h
end
end Go.AX
