import PyProof.Rows.All
import Wide.All
import OpenK.AllK
import Wide.FinOn
import HandS.ForMost
import HandS.Zip
import HandS.Walk
import HandS.Deep
import HandS.DictComp
import HandS.TupLen
import HandS.SlotsOwn
import HandS.IsInst
import HandS.Conv
import HandS.Style
import KE.SortData
import PyProof.Transfer
import KE.GoesEnum
import KE.GoesMore
import KE.GoesZip
import KE.KDictKeyed
import KE.KDictDisplayH
import KE.RegKIsAll
import PySem.Challenge.RW_oneanswer_k40_whole_trades_fall_apart
section
set_option autoImplicit false
set_option linter.all false
namespace K40
/-! ### lists -/
theorem sorted_ext {α : Type} {lt : α → α → Prop} (irr : ∀ a, ¬ lt a a) (tr : ∀ a b c, lt a b → lt b c → lt a c) :
    ∀ {l m : List α}, l.Pairwise lt → m.Pairwise lt → (∀ c, c ∈ l ↔ c ∈ m) → l = m
  | [], [], _, _, _ => rfl
  | [], b :: m, _, _, h => absurd ((h b).mpr List.mem_cons_self) List.not_mem_nil
  | a :: l, [], _, _, h => absurd ((h a).mp List.mem_cons_self) List.not_mem_nil
  | a :: l, b :: m, hl, hm, h => by
    rw [List.pairwise_cons] at hl hm
    have e : a = b := by
      rcases List.mem_cons.mp ((h a).mp List.mem_cons_self) with e | e
      · exact e
      · rcases List.mem_cons.mp ((h b).mpr List.mem_cons_self) with q | q
        · exact q.symm
        · exact absurd (tr _ _ _ (hm.1 a e) (hl.1 b q)) (irr b)
    subst e
    have e2 : l = m := sorted_ext irr tr hl.2 hm.2 fun c => by
      constructor
      · intro hc
        rcases List.mem_cons.mp ((h c).mp (List.mem_cons_of_mem _ hc)) with e | e
        · subst e
          exact absurd (hl.1 c hc) (irr c)
        · exact e
      · intro hc
        rcases List.mem_cons.mp ((h c).mpr (List.mem_cons_of_mem _ hc)) with e | e
        · subst e
          exact absurd (hm.1 c hc) (irr c)
        · exact e
    rw [e2]
/-- a list of different items, told one to one into m -/
theorem len_le_of_inj {α β : Type} [DecidableEq β] (f : α → β) : ∀ {l : List α} {m : List β}, l.Nodup → (∀ a ∈ l, f a ∈ m) → (∀ a ∈ l, ∀ b ∈ l, f a = f b → a = b) → l.length ≤ m.length
  | [], _, _, _, _ => Nat.zero_le _
  | a :: l, m, hn, hm, hi => by
    rw [List.nodup_cons] at hn
    have h1 : f a ∈ m := hm a List.mem_cons_self
    have h2 : l.length ≤ (m.erase (f a)).length := len_le_of_inj f hn.2 (fun b hb => by
      have hb2 := hm b (List.mem_cons_of_mem _ hb)
      have hne : f b ≠ f a := fun e => hn.1 (by
        have e3 := hi b (List.mem_cons_of_mem _ hb) a List.mem_cons_self e
        rw [← e3]
        exact hb)
      exact (List.mem_erase_of_ne hne).mpr hb2) fun b hb c hc => hi b (List.mem_cons_of_mem _ hb) c (List.mem_cons_of_mem _ hc)
    rw [List.length_erase_of_mem h1] at h2
    have h3 : 0 < m.length := List.length_pos_of_mem h1
    rw [List.length_cons]
    omega
/-- one to one on 0 .. n-1 is onto -/
theorem onto_of_inj {n : Nat} {f : Nat → Nat} (hr : ∀ i, i < n → f i < n) (hi : ∀ i j, i < n → j < n → f i = f j → i = j) {y : Nat} (hy : y < n) : ∃ i, i < n ∧ f i = y := by
  apply Classical.byContradiction
  intro h
  have h1 : (List.range n).length ≤ ((List.range n).erase y).length := len_le_of_inj f List.nodup_range (fun a ha => by
    have ha' := List.mem_range.mp ha
    exact (List.mem_erase_of_ne fun e => h ⟨a, ha', e⟩).mpr (List.mem_range.mpr (hr a ha'))) fun a ha b hb => hi a b (List.mem_range.mp ha) (List.mem_range.mp hb)
  rw [List.length_erase_of_mem (List.mem_range.mpr hy), List.length_range] at h1
  omega
theorem perm_of_mem {α : Type} [DecidableEq α] {l m : List α} (hl : l.Nodup) (hm : m.Nodup) (h : ∀ c, c ∈ l ↔ c ∈ m) : l.Perm m :=
  (List.perm_ext_iff_of_nodup hl hm).mpr h
/-- two lists in order with the same items are one -/
theorem perm_sorted_eq {α : Type} {le : α → α → Prop} (anti : ∀ a b, le a b → le b a → a = b) : ∀ {l m : List α}, l.Perm m → l.Pairwise le → m.Pairwise le → l = m
  | [], m, hp, _, _ => by rw [List.nil_perm.mp hp]
  | a :: l, [], hp, _, _ => absurd hp.symm (by intro q; exact absurd (List.nil_perm.mp q) (by simp))
  | a :: l, b :: m, hp, hl, hm => by
    have hl' := List.pairwise_cons.mp hl
    have hm' := List.pairwise_cons.mp hm
    have e : a = b := by
      rcases List.mem_cons.mp (hp.subset List.mem_cons_self) with e | e
      · exact e
      · rcases List.mem_cons.mp (hp.symm.subset List.mem_cons_self) with q | q
        · exact q.symm
        · exact anti _ _ (hl'.1 b q) (hm'.1 a e)
    subst e
    rw [perm_sorted_eq anti ((List.perm_cons a).mp hp) hl'.2 hm'.2]

/-! ### cells, trades -/
abbrev Cell := Int × Int × Int
abbrev Trade := List Cell × List Cell
def pr (k : Nat) (c : Cell) : Int × Int := match k with
  | 0 => (c.1, c.2.1)
  | 1 => (c.1, c.2.2)
  | _ => (c.2.1, c.2.2)
def cLt (a b : Cell) : Bool := decide (a.1 < b.1 ∨ (a.1 = b.1 ∧ (a.2.1 < b.2.1 ∨ (a.2.1 = b.2.1 ∧ a.2.2 < b.2.2))))
theorem cLt_irr (a : Cell) : ¬ cLt a a = true := by
  intro h
  have := of_decide_eq_true h
  omega
theorem cell_ext {a b : Cell} (h1 : a.1 = b.1) (h2 : a.2.1 = b.2.1) (h3 : a.2.2 = b.2.2) : a = b := Prod.ext h1 (Prod.ext h2 h3)
theorem cLt_trans (a b c : Cell) (h : cLt a b = true) (g : cLt b c = true) : cLt a c = true := by
  have h := of_decide_eq_true h
  have g := of_decide_eq_true g
  exact decide_eq_true (by omega)
abbrev Asc (l : List Cell) : Prop := l.Pairwise fun a b => cLt a b = true
theorem asc_ext {l m : List Cell} (hl : Asc l) (hm : Asc m) (h : ∀ c, c ∈ l ↔ c ∈ m) : l = m := sorted_ext cLt_irr cLt_trans hl hm h
theorem Asc.nodup {l : List Cell} (h : Asc l) : l.Nodup := h.imp fun {a b} q e => by
  subst e
  exact cLt_irr a q
def InR (n : Int) (c : Cell) : Prop := (0 ≤ c.1 ∧ c.1 < n) ∧ (0 ≤ c.2.1 ∧ c.2.1 < n) ∧ (0 ≤ c.2.2 ∧ c.2.2 < n)
theorem pr_two {k j : Nat} {a b : Cell} (h : pr k a = pr k b) (g : pr j a = pr j b) (ne : pr k ≠ pr j) : a = b := by
  match k, j with
  | 0, 0 => exact absurd rfl ne
  | 1, 1 => exact absurd rfl ne
  | _ + 2, _ + 2 => exact absurd rfl ne
  | 0, 1 => simp only [pr, Prod.mk.injEq] at h g; exact cell_ext h.1 h.2 g.2
  | 1, 0 => simp only [pr, Prod.mk.injEq] at h g; exact cell_ext g.1 g.2 h.2
  | 0, _ + 2 => simp only [pr, Prod.mk.injEq] at h g; exact cell_ext h.1 h.2 g.2
  | _ + 2, 0 => simp only [pr, Prod.mk.injEq] at h g; exact cell_ext g.1 g.2 h.2
  | 1, _ + 2 => simp only [pr, Prod.mk.injEq] at h g; exact cell_ext h.1 g.1 h.2
  | _ + 2, 1 => simp only [pr, Prod.mk.injEq] at h g; exact cell_ext g.1 h.1 g.2

def sd (T : Trade) (b : Bool) : List Cell := cond b T.1 T.2
def turn (T : Trade) : Trade := (T.2, T.1)
theorem sd_turn (T : Trade) (b : Bool) : sd (turn T) b = sd T (!b) := by cases b <;> rfl
theorem turn_turn (T : Trade) : turn (turn T) = T := rfl
structure IsTrade (n : Int) (T : Trade) : Prop where
  asc : ∀ b, Asc (sd T b)
  rng : ∀ b, ∀ c ∈ sd T b, InR n c
  inj : ∀ b k, ∀ a ∈ sd T b, ∀ c ∈ sd T b, pr k a = pr k c → a = c
  to : ∀ b k, ∀ a ∈ sd T b, ∃ c, c ∈ sd T (!b) ∧ pr k a = pr k c
  dis : ∀ b, ∀ c ∈ sd T b, c ∉ sd T (!b)
  ne : T.1 ≠ []
theorem IsTrade.turn {n : Int} {T : Trade} (h : IsTrade n T) : IsTrade n (turn T) where
  asc := fun b => by rw [sd_turn]; exact h.asc _
  rng := fun b => by rw [sd_turn]; exact h.rng _
  inj := fun b k => by rw [sd_turn]; exact h.inj _ k
  to := fun b k => by rw [sd_turn, sd_turn]; exact h.to _ k
  dis := fun b => by rw [sd_turn, sd_turn]; exact h.dis _
  ne := by
    intro e
    have e2 : T.2 = [] := e
    cases hT : T.1 with
    | nil => exact h.ne hT
    | cons a l =>
      obtain ⟨c, hc, _⟩ := h.to true 0 a (by show a ∈ T.1; rw [hT]; exact List.mem_cons_self)
      have hc : c ∈ T.2 := hc
      rw [e2] at hc
      exact absurd hc List.not_mem_nil

/-! ### the graph -/
abbrev Vx := Bool × Cell
def Mem (T : Trade) (v : Vx) : Prop := v.2 ∈ sd T v.1
def Adj (u v : Vx) : Prop := v.1 = !u.1 ∧ ∃ k, pr k u.2 = pr k v.2
theorem Adj.symm {u v : Vx} (h : Adj u v) : Adj v u := ⟨by rw [h.1, Bool.not_not], let ⟨k, e⟩ := h.2; ⟨k, e.symm⟩⟩
inductive Reach (T : Trade) : Vx → Vx → Prop
  | refl {u : Vx} : Mem T u → Reach T u u
  | step {u v w : Vx} : Reach T u v → Adj v w → Mem T w → Reach T u w
section
variable {T : Trade} {u v w : Vx}
theorem Reach.src (h : Reach T u v) : Mem T u := by
  induction h with
  | refl h => exact h
  | step _ _ _ ih => exact ih
theorem Reach.tgt (h : Reach T u v) : Mem T v := by
  cases h with
  | refl h => exact h
  | step _ _ h => exact h
theorem Reach.trans (h : Reach T u v) (g : Reach T v w) : Reach T u w := by
  induction g with
  | refl _ => exact h
  | step _ a m ih => exact .step ih a m
theorem Reach.symm (h : Reach T u v) : Reach T v u := by
  induction h with
  | refl h => exact .refl h
  | step h a m ih => exact (Reach.step (.refl m) a.symm h.tgt).trans ih
end
/-- p is a component of T -/
structure IsPart (T p : Trade) : Prop where
  asc : ∀ b, Asc (sd p b)
  of : ∃ u, Mem T u ∧ ∀ v, Mem p v ↔ Reach T u v
section
variable {T p q : Trade} {u v w : Vx}
theorem IsPart.mem (h : IsPart T p) (m : Mem p v) : Mem T v := by
  obtain ⟨u, _, hu⟩ := h.of
  exact ((hu v).mp m).tgt
theorem IsPart.from (h : IsPart T p) (m : Mem p u) : ∀ v, Mem p v ↔ Reach T u v := by
  obtain ⟨w, _, hw⟩ := h.of
  have r := (hw u).mp m
  exact fun v => ⟨fun q => r.symm.trans ((hw v).mp q), fun q => (hw v).mpr (r.trans q)⟩
theorem IsPart.closed (h : IsPart T p) (m : Mem p u) (a : Adj u v) (hv : Mem T v) : Mem p v :=
  (h.from m v).mpr (.step (.refl (h.mem m)) a hv)
theorem part_ext (hp : ∀ b, Asc (sd p b)) (hq : ∀ b, Asc (sd q b)) (h : ∀ v, Mem p v ↔ Mem q v) : p = q := by
  have e1 : p.1 = q.1 := asc_ext (hp true) (hq true) fun c => h (true, c)
  have e2 : p.2 = q.2 := asc_ext (hp false) (hq false) fun c => h (false, c)
  exact Prod.ext e1 e2
/-- two parts with a common vertex are one -/
theorem part_eq (hp : IsPart T p) (hq : IsPart T q) (m : Mem p u) (m' : Mem q u) : p = q :=
  part_ext hp.asc hq.asc fun v => (hp.from m v).trans (hq.from m' v).symm
end
structure IsParts (le : Trade → Trade → Bool) (T : Trade) (ps : List Trade) : Prop where
  sorted : ps.Pairwise fun a b => le a b = true
  nodup : ps.Nodup
  part : ∀ p ∈ ps, IsPart T p
  cover : ∀ v, Mem T v → ∃ p ∈ ps, Mem p v
section
variable {le : Trade → Trade → Bool} {T p : Trade} {ps qs : List Trade} {n : Int}
theorem parts_mem (h : IsParts le T ps) (hp : IsPart T p) : p ∈ ps := by
  obtain ⟨u, mu, hu⟩ := hp.of
  obtain ⟨q, hq, mq⟩ := h.cover u mu
  have e := part_eq hp (h.part q hq) ((hu u).mpr (.refl mu)) mq
  rw [e]
  exact hq
theorem parts_unique (anti : ∀ a b, le a b = true → le b a = true → a = b) (h : IsParts le T ps) (g : IsParts le T qs) : ps = qs :=
  perm_sorted_eq anti (perm_of_mem h.nodup g.nodup fun p => ⟨fun m => parts_mem g (h.part p m), fun m => parts_mem h (g.part p m)⟩) h.sorted g.sorted
theorem part_trade (hT : IsTrade n T) (hp : IsPart T p) : IsTrade n p where
  asc := hp.asc
  rng := fun b c m => hT.rng b c (hp.mem (v := (b, c)) m)
  inj := fun b k a ma c mc => hT.inj b k a (hp.mem (v := (b, a)) ma) c (hp.mem (v := (b, c)) mc)
  to := fun b k a ma => by
    obtain ⟨c, mc, e⟩ := hT.to b k a (hp.mem (v := (b, a)) ma)
    exact ⟨c, hp.closed (u := (b, a)) (v := (!b, c)) ma ⟨rfl, k, e⟩ mc, e⟩
  dis := fun b c m m' => hT.dis b c (hp.mem (v := (b, c)) m) (hp.mem (v := (!b, c)) m')
  ne := by
    obtain ⟨⟨b, c⟩, mu, hu⟩ := hp.of
    have m := (hu (b, c)).mpr (.refl mu)
    intro e
    cases b with
    | true =>
      have m : c ∈ p.1 := m
      rw [e] at m
      exact absurd m List.not_mem_nil
    | false =>
      obtain ⟨a, ma, q⟩ := hT.to false 0 c mu
      have m2 : a ∈ p.1 := hp.closed (u := (false, c)) (v := (true, a)) m ⟨rfl, 0, q⟩ ma
      rw [e] at m2
      exact absurd m2 List.not_mem_nil
/-- reach within a joined trade J whose vertices are closed in T -/
theorem reach_in {T J : Trade} (sub : ∀ v, Mem J v → Mem T v) (cl : ∀ u v, Mem J u → Adj u v → Mem T v → Mem J v) {u v : Vx} (mu : Mem J u) : Reach T u v ↔ Reach J u v := by
  constructor
  · intro h
    induction h with
    | refl _ => exact .refl mu
    | step _ a m ih => exact .step ih a (cl _ _ ih.tgt a m)
  · intro h
    induction h with
    | refl _ => exact .refl (sub _ mu)
    | step _ a m ih => exact .step ih a (sub _ m)
theorem part_in {T J p : Trade} (sub : ∀ v, Mem J v → Mem T v) (cl : ∀ u v, Mem J u → Adj u v → Mem T v → Mem J v) (hp : IsPart T p) (pj : ∀ v, Mem p v → Mem J v) : IsPart J p := by
  obtain ⟨u, mu, hu⟩ := hp.of
  have m := pj u ((hu u).mpr (.refl mu))
  exact ⟨hp.asc, u, m, fun v => (hu v).trans (reach_in sub cl m)⟩
theorem part_self (hp : IsPart T p) : IsParts le p [p] where
  sorted := List.pairwise_singleton _ _
  nodup := by simp
  part := fun q hq => by
    have e : q = p := by simpa using hq
    subst e
    exact part_in (fun v => hp.mem) (fun u v m a hv => hp.closed m a hv) hp fun v m => m
  cover := fun v m => ⟨p, List.mem_singleton_self p, m⟩
theorem turn_mem {T : Trade} {v : Vx} : Mem (turn T) v ↔ Mem T (!v.1, v.2) := by
  show v.2 ∈ sd (turn T) v.1 ↔ v.2 ∈ sd T (!v.1)
  rw [sd_turn]
theorem turn_reach {T : Trade} {u v : Vx} (h : Reach T u v) : Reach (turn T) (!u.1, u.2) (!v.1, v.2) := by
  induction h with
  | refl h => exact .refl (turn_mem.mpr (by simpa using h))
  | step _ a m ih => exact .step ih ⟨by rw [a.1], a.2⟩ (turn_mem.mpr (by simpa using m))
theorem part_turn (hp : IsPart T p) : IsPart (turn T) (turn p) where
  asc := fun b => by rw [sd_turn]; exact hp.asc _
  of := by
    obtain ⟨u, mu, hu⟩ := hp.of
    refine ⟨(!u.1, u.2), turn_mem.mpr (by simpa using mu), fun v => ?_⟩
    rw [turn_mem, hu]
    constructor
    · intro h
      have := turn_reach h
      simpa using this
    · intro h
      have := turn_reach h
      rw [turn_turn] at this
      simpa using this
theorem parts_turn (h : IsParts le T ps) {qs : List Trade} (hq : qs.Perm (ps.map turn)) (hs : qs.Pairwise fun a b => le a b = true) : IsParts le (turn T) qs where
  sorted := hs
  nodup := hq.nodup_iff.mpr (by
    have q := h.nodup
    exact List.Pairwise.map turn (fun a b ne e => ne (by
      have := congrArg turn e
      rwa [turn_turn, turn_turn] at this)) q)
  part := fun q m => by
    obtain ⟨p, mp, rfl⟩ := List.mem_map.mp (hq.mem_iff.mp m)
    exact part_turn (h.part p mp)
  cover := fun v m => by
    obtain ⟨p, mp, mv⟩ := h.cover _ (turn_mem.mp m)
    exact ⟨turn p, hq.mem_iff.mpr (List.mem_map.mpr ⟨p, mp, rfl⟩), turn_mem.mpr mv⟩
/-- some of the parts, joined -/
structure IsJoin (J : Trade) (qs : List Trade) : Prop where
  asc : ∀ b, Asc (sd J b)
  mem : ∀ v, Mem J v ↔ ∃ q ∈ qs, Mem q v
theorem join_sub {J : Trade} (h : ∀ p ∈ qs, IsPart T p) (hJ : IsJoin J qs) (v : Vx) (m : Mem J v) : Mem T v := by
  obtain ⟨q, hq, mq⟩ := (hJ.mem v).mp m
  exact (h q hq).mem mq
theorem join_cl {J : Trade} (h : ∀ p ∈ qs, IsPart T p) (hJ : IsJoin J qs) (u v : Vx) (m : Mem J u) (a : Adj u v) (hv : Mem T v) : Mem J v := by
  obtain ⟨q, hq, mq⟩ := (hJ.mem u).mp m
  exact (hJ.mem v).mpr ⟨q, hq, (h q hq).closed mq a hv⟩
theorem join_trade {J : Trade} (hT : IsTrade n T) (h : ∀ p ∈ qs, IsPart T p) (hJ : IsJoin J qs) (ne : qs ≠ []) : IsTrade n J where
  asc := hJ.asc
  rng := fun b c m => hT.rng b c (join_sub h hJ (b, c) m)
  inj := fun b k a ma c mc => hT.inj b k a (join_sub h hJ (b, a) ma) c (join_sub h hJ (b, c) mc)
  to := fun b k a ma => by
    obtain ⟨c, mc, e⟩ := hT.to b k a (join_sub h hJ (b, a) ma)
    exact ⟨c, join_cl h hJ (b, a) (!b, c) ma ⟨rfl, k, e⟩ mc, e⟩
  dis := fun b c m m' => hT.dis b c (join_sub h hJ (b, c) m) (join_sub h hJ (!b, c) m')
  ne := by
    cases qs with
    | nil => exact absurd rfl ne
    | cons q r =>
      have q1 := (part_trade hT (h q List.mem_cons_self)).ne
      cases hq : q.1 with
      | nil => exact absurd hq q1
      | cons a l =>
        intro e
        have m : Mem J (true, a) := (hJ.mem (true, a)).mpr ⟨q, List.mem_cons_self, by show a ∈ q.1; rw [hq]; exact List.mem_cons_self⟩
        have m : a ∈ J.1 := m
        rw [e] at m
        exact absurd m List.not_mem_nil
theorem join_parts {J : Trade} {rs : List Trade} (h : ∀ p ∈ qs, IsPart T p) (hJ : IsJoin J qs) (hn : qs.Nodup) (hr : rs.Perm qs) (hs : rs.Pairwise fun a b => le a b = true) : IsParts le J rs where
  sorted := hs
  nodup := hr.nodup_iff.mpr hn
  part := fun p m => by
    have m' := hr.mem_iff.mp m
    exact part_in (join_sub h hJ) (join_cl h hJ) (h p m') fun v mv => (hJ.mem v).mpr ⟨p, m', mv⟩
  cover := fun v m => by
    obtain ⟨q, hq, mq⟩ := (hJ.mem v).mp m
    exact ⟨q, hr.mem_iff.mpr hq, mq⟩
end

/-! ### how many cells -/
section
variable {n : Int} {T : Trade}
theorem mate_row (hT : IsTrade n T) {a : Cell} (ha : a ∈ T.1) : ∃ b ∈ T.1, b.1 = a.1 ∧ b.2.1 ≠ a.2.1 := by
  obtain ⟨c, mc, e⟩ := hT.to true 0 a ha
  obtain ⟨b, mb, e2⟩ := hT.to false 1 c mc
  simp only [pr, Prod.mk.injEq] at e e2
  refine ⟨b, mb, by rw [← e2.1, ← e.1], fun q => ?_⟩
  have eab : a = b := hT.inj true 0 a ha b mb (by simp only [pr, Prod.mk.injEq]; exact ⟨by rw [e.1, e2.1], q.symm⟩)
  subst eab
  exact hT.dis true a ha (by
    have : c = a := cell_ext e.1.symm e.2.symm e2.2
    rw [this] at mc
    exact mc)
theorem mate_col (hT : IsTrade n T) {a : Cell} (ha : a ∈ T.1) : ∃ b ∈ T.1, b.2.1 = a.2.1 ∧ b.1 ≠ a.1 := by
  obtain ⟨c, mc, e⟩ := hT.to true 0 a ha
  obtain ⟨b, mb, e2⟩ := hT.to false 2 c mc
  simp only [pr, Prod.mk.injEq] at e e2
  refine ⟨b, mb, by rw [← e2.1, ← e.2], fun q => ?_⟩
  have eab : a = b := hT.inj true 0 a ha b mb (by simp only [pr, Prod.mk.injEq]; exact ⟨q.symm, by rw [e.2, e2.1]⟩)
  subst eab
  exact hT.dis true a ha (by
    have : c = a := cell_ext e.1.symm e.2.symm e2.2
    rw [this] at mc
    exact mc)
theorem sub_len {l m : List Cell} (hl : l.Nodup) (h : ∀ a ∈ l, a ∈ m) : l.length ≤ m.length := len_le_of_inj id hl h fun _ _ _ _ e => e
theorem trade_len (hT : IsTrade n T) : 4 ≤ T.1.length ∧ T.1.length ≠ 5 := by
  cases hA : T.1 with
  | nil => exact absurd hA hT.ne
  | cons a l =>
  rw [← hA]
  have ma : a ∈ T.1 := by rw [hA]; exact List.mem_cons_self
  have nd : T.1.Nodup := (hT.asc true).nodup
  obtain ⟨b, mb, b1, b2⟩ := mate_row hT ma
  obtain ⟨d, md, d1, d2⟩ := mate_col hT ma
  obtain ⟨e, me, e1, e2⟩ := mate_row hT md
  have ne {x y : Cell} (h : x.1 ≠ y.1 ∨ x.2.1 ≠ y.2.1) : x ≠ y := fun q => by
    subst q
    rcases h with h | h <;> exact h rfl
  have h4 : 4 ≤ T.1.length := by
    refine sub_len (l := [a, b, d, e]) ?_ (fun x hx => ?_)
    · simp only [List.nodup_cons, List.mem_cons, List.not_mem_nil, or_false, not_or, not_false_eq_true, List.nodup_nil, and_true]
      exact ⟨⟨ne (.inr b2.symm), ne (.inl d2.symm), ne (.inl (by rw [e1]; exact d2.symm))⟩, ⟨ne (.inl (by rw [b1]; exact d2.symm)), ne (.inl (by rw [b1, e1]; exact d2.symm))⟩, ne (.inr e2.symm)⟩
    · simp only [List.mem_cons, List.not_mem_nil, or_false] at hx
      rcases hx with rfl | rfl | rfl | rfl <;> assumption
  refine ⟨h4, fun h5 => ?_⟩
  -- no cell in a third row
  have two : ∀ x ∈ T.1, x.1 = a.1 ∨ x.1 = d.1 := fun x mx => by
    apply Classical.byContradiction
    intro h
    rw [not_or] at h
    obtain ⟨y, my, y1, y2⟩ := mate_row hT mx
    have : 6 ≤ T.1.length := by
      refine sub_len (l := [a, b, d, e, x, y]) ?_ (fun z hz => ?_)
      · simp only [List.nodup_cons, List.mem_cons, List.not_mem_nil, or_false, not_or, not_false_eq_true, List.nodup_nil, and_true]
        refine ⟨⟨ne (.inr b2.symm), ne (.inl d2.symm), ne (.inl (by rw [e1]; exact d2.symm)), ne (.inl (Ne.symm h.1)), ne (.inl (by rw [y1]; exact Ne.symm h.1))⟩, ⟨ne (.inl (by rw [b1]; exact d2.symm)), ne (.inl (by rw [b1, e1]; exact d2.symm)), ne (.inl (by rw [b1]; exact Ne.symm h.1)), ne (.inl (by rw [b1, y1]; exact Ne.symm h.1))⟩, ⟨ne (.inr e2.symm), ne (.inl (Ne.symm h.2)), ne (.inl (by rw [y1]; exact Ne.symm h.2))⟩, ⟨ne (.inl (by rw [e1]; exact Ne.symm h.2)), ne (.inl (by rw [e1, y1]; exact Ne.symm h.2))⟩, ne (.inr y2.symm)⟩
      · simp only [List.mem_cons, List.not_mem_nil, or_false] at hz
        rcases hz with rfl | rfl | rfl | rfl | rfl | rfl <;> assumption
    omega
  -- as many cells in both rows
  let R := T.1.filter fun x => decide (x.1 = a.1)
  let O := T.1.filter fun x => decide (x.1 = d.1)
  have inR : ∀ x, x ∈ R ↔ x ∈ T.1 ∧ x.1 = a.1 := fun x => by simp [R]
  have inO : ∀ x, x ∈ O ↔ x ∈ T.1 ∧ x.1 = d.1 := fun x => by simp [O]
  have cnt : R.length + O.length = T.1.length := by
    have q : O = T.1.filter fun x => !decide (x.1 = a.1) := List.filter_congr fun x mx => by
      rcases two x mx with q | q
      · rw [q, decide_eq_true rfl, decide_eq_false (Ne.symm d2)]
        rfl
      · rw [q, decide_eq_true rfl, decide_eq_false d2]
        rfl
    rw [q]
    have := List.length_eq_countP_add_countP (fun x : Cell => decide (x.1 = a.1)) (l := T.1)
    rw [List.countP_eq_length_filter, List.countP_eq_length_filter] at this
    rw [this]
    show (T.1.filter _).length + _ = (T.1.filter _).length + _
    congr 2
    apply List.filter_congr
    intro x _
    by_cases e : x.1 = a.1 <;> simp [e]
  have col : ∀ {X Y : Int}, X ≠ Y → (∀ x ∈ T.1, x.1 = X ∨ x.1 = Y) → (T.1.filter fun x => decide (x.1 = X)).length ≤ (T.1.filter fun x => decide (x.1 = Y)).length := fun {X Y} hXY hall => by
    have h1 : ((T.1.filter fun x => decide (x.1 = X)).map fun x => x.2.1).length ≤ ((T.1.filter fun x => decide (x.1 = Y)).map fun x => x.2.1).length := by
      refine len_le_of_inj id ?_ (fun z hz => ?_) fun _ _ _ _ e => e
      · refine List.Pairwise.map _ (S := fun x y => x ≠ y) (R := fun x y : Cell => x ≠ y ∧ x ∈ T.1 ∧ y ∈ T.1 ∧ x.1 = y.1) (fun x y ⟨h, hx, hy, e⟩ q => h (hT.inj true 0 x hx y hy (by simp only [pr, Prod.mk.injEq]; exact ⟨e, q⟩))) ?_
        have nf : (T.1.filter fun x => decide (x.1 = X)).Nodup := nd.filter _
        refine List.Pairwise.imp_of_mem (fun {x y} hx hy h => ?_) nf
        have hx := List.mem_filter.mp hx
        have hy := List.mem_filter.mp hy
        exact ⟨h, hx.1, hy.1, (of_decide_eq_true hx.2).trans (of_decide_eq_true hy.2).symm⟩
      · obtain ⟨x, hx, rfl⟩ := List.mem_map.mp hz
        have hx := List.mem_filter.mp hx
        obtain ⟨y, my, y1, y2⟩ := mate_col hT hx.1
        refine List.mem_map.mpr ⟨y, List.mem_filter.mpr ⟨my, decide_eq_true ?_⟩, y1⟩
        rcases hall y my with q | q
        · exact absurd (q.trans (of_decide_eq_true hx.2).symm) y2
        · exact q
    simpa using h1
  have c1 := col (X := a.1) (Y := d.1) (Ne.symm d2) two
  have c2 := col (X := d.1) (Y := a.1) d2 fun x mx => (two x mx).symm
  have c3 : R.length = O.length := Nat.le_antisymm c1 c2
  omega
end
end K40
end

section
set_option autoImplicit false
set_option linter.all false
namespace K40
/-- 0, 1, .. -/
def rgI (n : Nat) : List Int := (List.range n).map fun (i : Nat) => (i : Int)
theorem mem_rgI {n : Nat} {x : Int} : x ∈ rgI n ↔ 0 ≤ x ∧ x < n := by
  unfold rgI
  rw [List.mem_map]
  constructor
  · rintro ⟨i, hi, rfl⟩
    have := List.mem_range.mp hi
    omega
  · intro h
    exact ⟨x.toNat, List.mem_range.mpr (by omega), by omega⟩
theorem rgI_len (n : Nat) : (rgI n).length = n := by simp [rgI]
theorem rgI_nodup (n : Nat) : (rgI n).Nodup := by
  unfold rgI
  exact List.Pairwise.map (fun (i : Nat) => (i : Int)) (fun a b ne e => ne (by omega)) List.nodup_range
/-- a renaming, as a row of whole numbers -/
def IsRen (n : Nat) (ns : List Int) : Prop := ns.Perm (rgI n)
theorem IsRen.len {n : Nat} {ns : List Int} (h : IsRen n ns) : ns.length = n := by rw [h.length_eq, rgI_len]
theorem IsRen.mem {n : Nat} {ns : List Int} (h : IsRen n ns) {x : Int} (m : x ∈ ns) : 0 ≤ x ∧ x < n := mem_rgI.mp (h.mem_iff.mp m)
theorem isRen_of {n : Nat} {ns : List Int} (hl : ns.length = n) (hr : ∀ x ∈ ns, 0 ≤ x ∧ x < (n : Int)) (hn : ns.Nodup) : IsRen n ns := by
  refine perm_of_mem hn (rgI_nodup n) fun c => ⟨fun m => mem_rgI.mpr (hr c m), fun m => ?_⟩
  apply Classical.byContradiction
  intro h
  have q := len_le_of_inj (fun x : Int => x) (m := (rgI n).erase c) hn (fun a ha => (List.mem_erase_of_ne fun (e : a = c) => h (by rw [← e]; exact ha)).mpr (mem_rgI.mpr (hr a ha))) fun a _ b _ e => e
  rw [List.length_erase_of_mem m, rgI_len, hl] at q
  have := List.length_pos_of_mem m
  rw [rgI_len] at this
  omega

/-! ### Latin squares -/
def gn (R : List (List Int)) (i j : Nat) : Int := (R.getD i []).getD j 0
structure Lat (n : Nat) (R : List (List Int)) : Prop where
  len : R.length = n
  row : ∀ r ∈ R, r.length = n
  rng : ∀ i j, i < n → j < n → 0 ≤ gn R i j ∧ gn R i j < n
  rinj : ∀ i j j', i < n → j < n → j' < n → gn R i j = gn R i j' → j = j'
  cinj : ∀ i i' j, i < n → i' < n → j < n → gn R i j = gn R i' j → i = i'
/-- rows of one length -/
structure Shp (n : Nat) (R : List (List Int)) : Prop where
  len : R.length = n
  row : ∀ r ∈ R, r.length = n
theorem Lat.shp {n : Nat} {R : List (List Int)} (h : Lat n R) : Shp n R := ⟨h.len, h.row⟩
section
variable {n : Nat} {R : List (List Int)} {i j : Nat}
theorem getD_at {α : Type} {l : List α} {i : Nat} {d : α} (h : i < l.length) : l.getD i d = l[i] := by simp [h]
theorem Shp.at_row (h : Shp n R) (hi : i < n) : ∃ r, R[i]? = some r ∧ r ∈ R ∧ R.getD i [] = r ∧ r.length = n := by
  have hl : i < R.length := by rw [h.len]; exact hi
  exact ⟨R[i], by simp [hl], List.getElem_mem hl, by simp [hl], h.row _ (List.getElem_mem hl)⟩
theorem Shp.at (h : Shp n R) (hi : i < n) (hj : j < n) : ∃ r, R[i]? = some r ∧ r ∈ R ∧ r[j]? = some (gn R i j) := by
  obtain ⟨r, e1, m, e2, hl⟩ := h.at_row hi
  refine ⟨r, e1, m, ?_⟩
  unfold gn
  rw [e2]
  have : j < r.length := by omega
  simp [this]
theorem Shp.ext {S : List (List Int)} (h : Shp n R) (g : Shp n S) (e : ∀ i j, i < n → j < n → gn R i j = gn S i j) : R = S := by
  refine List.ext_getElem? fun i => ?_
  by_cases hi : i < n
  · obtain ⟨r, e1, m, e2, hl⟩ := h.at_row hi
    obtain ⟨r', e1', m', e2', hl'⟩ := g.at_row hi
    rw [e1, e1']
    congr 1
    refine List.ext_getElem? fun j => ?_
    by_cases hj : j < n
    · obtain ⟨_, q1, _, q2⟩ := h.at hi hj
      obtain ⟨_, q1', _, q2'⟩ := g.at hi hj
      rw [e1] at q1
      rw [e1'] at q1'
      cases q1
      cases q1'
      rw [q2, q2', e i j hi hj]
    · rw [List.getElem?_eq_none (by omega), List.getElem?_eq_none (by omega)]
  · rw [List.getElem?_eq_none (by rw [h.len]; omega), List.getElem?_eq_none (by rw [g.len]; omega)]
theorem nodup_of_inj {α : Type} {l : List α} (h : ∀ i j (hi : i < l.length) (hj : j < l.length), l[i] = l[j] → i = j) : l.Nodup := by
  refine List.pairwise_iff_getElem.mpr fun i j hi hj lt e => ?_
  have := h i j hi hj e
  omega
theorem Lat.row_ren (h : Lat n R) {r : List Int} (m : r ∈ R) : IsRen n r := by
  obtain ⟨i, hi, e⟩ := List.getElem_of_mem m
  have hi' : i < n := by rw [← h.len]; exact hi
  have hr : r.length = n := h.row r m
  have key : ∀ j (hj : j < r.length), r[j] = gn R i j := fun j hj => by
    unfold gn
    rw [getD_at hi, e, getD_at hj]
  refine isRen_of hr (fun x mx => ?_) (nodup_of_inj fun a b ha hb q => ?_)
  · obtain ⟨j, hj, ej⟩ := List.getElem_of_mem mx
    rw [key j hj] at ej
    rw [← ej]
    exact h.rng i j hi' (by omega)
  · rw [key a ha, key b hb] at q
    exact h.rinj i a b hi' (by omega) (by omega) q
/-- rows and columns turned -/
def trp (R : List (List Int)) : List (List Int) := (List.range R.length).map fun j => R.map fun r => r.getD j 0
theorem trp_shp (h : Shp n R) : Shp n (trp R) where
  len := by unfold trp; rw [List.length_map, List.length_range, h.len]
  row := fun r m => by
    unfold trp at m
    obtain ⟨j, _, rfl⟩ := List.mem_map.mp m
    rw [List.length_map, h.len]
theorem gn_trp (h : Shp n R) (hi : i < n) (hj : j < n) : gn (trp R) i j = gn R j i := by
  unfold gn trp
  have hl : i < R.length := by rw [h.len]; exact hi
  have hl2 : j < R.length := by rw [h.len]; exact hj
  simp [hl, hl2]
theorem Lat.trp (h : Lat n R) : Lat n (trp R) where
  len := (trp_shp h.shp).len
  row := (trp_shp h.shp).row
  rng := fun i j hi hj => by rw [gn_trp h.shp hi hj]; exact h.rng j i hj hi
  rinj := fun i j j' hi hj hj' e => by
    rw [gn_trp h.shp hi hj, gn_trp h.shp hi hj'] at e
    exact h.cinj j j' i hj hj' hi e
  cinj := fun i i' j hi hi' hj e => by
    rw [gn_trp h.shp hi hj, gn_trp h.shp hi' hj] at e
    exact h.rinj j i i' hj hi hi' e
theorem trp_trp (h : Shp n R) : K40.trp (K40.trp R) = R :=
  (trp_shp (trp_shp h)).ext h fun i j hi hj => by rw [gn_trp (trp_shp h) hi hj, gn_trp h hj hi]
end
end K40
end

section
set_option autoImplicit false
set_option linter.all false
namespace K40
/-! ### the walk of least_from -/
def upF (F : Bool → List Cell) (b : Bool) (c : Cell) : Bool → List Cell := fun x => if x = b then F x ++ [c] else F x
theorem upF_same {F : Bool → List Cell} {b : Bool} {c : Cell} : upF F b c b = F b ++ [c] := if_pos rfl
theorem upF_ne {F : Bool → List Cell} {b x : Bool} {c : Cell} (h : x ≠ b) : upF F b c x = F x := if_neg h
theorem mem_upF {F : Bool → List Cell} {b x : Bool} {c d : Cell} : d ∈ upF F b c x ↔ d ∈ F x ∨ (x = b ∧ d = c) := by
  by_cases h : x = b
  · subst h
    rw [upF_same, List.mem_append, List.mem_singleton]
    simp
  · rw [upF_ne h]
    simp [h]
structure Dfs (T : Trade) (s : Cell) (F : Bool → List Cell) (W : List Vx) (E : Vx → Prop) : Prop where
  nd : ∀ b, (F b).Nodup
  st : s ∈ F true
  rc : ∀ b, ∀ c ∈ F b, Reach T (true, s) (b, c)
  sub : ∀ v ∈ W, v.2 ∈ F v.1
  cl : ∀ b, ∀ c ∈ F b, (b, c) ∈ W ∨ E (b, c) ∨ ∀ w, Adj (b, c) w → Mem T w → w.2 ∈ F w.1
def noV : Vx → Prop := fun _ => False
section
variable {T : Trade} {s c : Cell} {F : Bool → List Cell} {W : List Vx} {E : Vx → Prop} {u v : Vx} {n : Int}
theorem dfs_start (h : Mem T (true, s)) : Dfs T s (fun b => cond b [s] []) [(true, s)] noV where
  nd := fun b => by cases b <;> simp
  st := List.mem_singleton_self s
  rc := fun b c m => by
    cases b with
    | true =>
      rw [List.mem_singleton.mp m]
      exact .refl h
    | false => exact absurd m List.not_mem_nil
  sub := fun v m => by
    rw [List.mem_singleton.mp m]
    exact List.mem_singleton_self s
  cl := fun b c m => by
    cases b with
    | true =>
      rw [List.mem_singleton.mp m]
      exact .inl (List.mem_singleton_self _)
    | false => exact absurd m List.not_mem_nil
theorem dfs_pop (h : Dfs T s F (W ++ [u]) noV) : Dfs T s F W (fun v => v = u) where
  nd := h.nd
  st := h.st
  rc := h.rc
  sub := fun v m => h.sub v (List.mem_append_left _ m)
  cl := fun b c m => by
    rcases h.cl b c m with q | q | q
    · rcases List.mem_append.mp q with q | q
      · exact .inl q
      · exact .inr (.inl (List.mem_singleton.mp q))
    · exact q.elim
    · exact .inr (.inr q)
theorem dfs_add (h : Dfs T s F W E) {b : Bool} (hn : c ∉ F b) (hr : Reach T (true, s) (b, c)) : Dfs T s (upF F b c) (W ++ [(b, c)]) E where
  nd := fun x => by
    by_cases e : x = b
    · subst e
      rw [upF_same]
      exact List.nodup_append.mpr ⟨h.nd x, by simp, fun a ma d md => by
        rw [List.mem_singleton.mp md]
        exact fun e => hn (by rw [← e]; exact ma)⟩
    · rw [upF_ne e]
      exact h.nd x
  st := mem_upF.mpr (.inl h.st)
  rc := fun x d m => by
    rcases mem_upF.mp m with m | ⟨rfl, rfl⟩
    · exact h.rc x d m
    · exact hr
  sub := fun v m => by
    rcases List.mem_append.mp m with m | m
    · exact mem_upF.mpr (.inl (h.sub v m))
    · rw [List.mem_singleton.mp m]
      exact mem_upF.mpr (.inr ⟨rfl, rfl⟩)
  cl := fun x d m => by
    rcases mem_upF.mp m with m | ⟨rfl, rfl⟩
    · rcases h.cl x d m with q | q | q
      · exact .inl (List.mem_append_left _ q)
      · exact .inr (.inl q)
      · exact .inr (.inr fun w a mw => mem_upF.mpr (.inl (q w a mw)))
    · exact .inl (List.mem_append_right _ (List.mem_singleton_self _))
theorem pr_two_le (k : Nat) (c d : Cell) (h : pr k c = pr k d) : ∃ j, j < 3 ∧ pr j c = pr j d := by
  match k, h with
  | 0, h => exact ⟨0, by omega, h⟩
  | 1, h => exact ⟨1, by omega, h⟩
  | _ + 2, h => exact ⟨2, by omega, h⟩
/-- behind the three beside it -/
theorem dfs_shut (hT : IsTrade n T) (h : Dfs T s F W (fun v => v = u)) (hf : ∀ k, k < 3 → ∃ c, c ∈ F (!u.1) ∧ c ∈ sd T (!u.1) ∧ pr k u.2 = pr k c) : Dfs T s F W noV where
  nd := h.nd
  st := h.st
  rc := h.rc
  sub := h.sub
  cl := fun b c m => by
    rcases h.cl b c m with q | q | q
    · exact .inl q
    · refine .inr (.inr fun w a mw => ?_)
      rw [q] at a
      obtain ⟨e1, k, e2⟩ := a
      obtain ⟨j, hj, e3⟩ := pr_two_le k _ _ e2
      obtain ⟨d, m1, m2, e4⟩ := hf j hj
      have mw : w.2 ∈ sd T w.1 := mw
      rw [e1] at mw ⊢
      have e5 := hT.inj _ j w.2 mw d m2 (by rw [← e3, e4])
      rw [e5]
      exact m1
    · exact .inr (.inr q)
theorem dfs_len (h : Dfs T s F W E) (b : Bool) : (F b).length ≤ (sd T b).length :=
  len_le_of_inj (fun c => c) (h.nd b) (fun c m => (h.rc b c m).tgt) fun _ _ _ _ e => e
def meas (T : Trade) (F : Bool → List Cell) (W : List Vx) : Nat := 2 * ((T.1.length + T.2.length) - ((F true).length + (F false).length)) + W.length
theorem upF_len {b : Bool} : (upF F b c true).length + (upF F b c false).length = (F true).length + (F false).length + 1 := by
  cases b with
  | true => rw [upF_same, upF_ne (by decide), List.length_append, List.length_singleton]; omega
  | false => rw [upF_same, upF_ne (by decide), List.length_append, List.length_singleton]; omega
theorem meas_add (h : Dfs T s (upF F u.1 u.2) (W ++ [u]) E) : meas T (upF F u.1 u.2) (W ++ [u]) + 1 ≤ meas T F W := by
  have h1 : _ ≤ T.1.length := dfs_len h true
  have h2 : _ ≤ T.2.length := dfs_len h false
  have h3 := upF_len (F := F) (c := u.2) (b := u.1)
  unfold meas
  rw [List.length_append, List.length_singleton]
  omega
theorem meas_pop : meas T F W + 1 = meas T F (W ++ [u]) := by
  unfold meas
  rw [List.length_append, List.length_singleton]
  omega
theorem dfs_part (h : Dfs T s F [] noV) {p : Trade} (ha : ∀ b, Asc (sd p b)) (hm : ∀ b c, c ∈ sd p b ↔ c ∈ F b) : IsPart T p ∧ s ∈ p.1 := by
  have rs : Reach T (true, s) (true, s) := h.rc true s h.st
  refine ⟨⟨ha, (true, s), rs.tgt, fun v => ⟨fun m => h.rc v.1 v.2 ((hm _ _).mp m), fun r => ?_⟩⟩, (hm true s).mpr h.st⟩
  have key : ∀ u v, Reach T u v → u = (true, s) → v.2 ∈ F v.1 := fun u v r => by
    induction r with
    | refl _ => intro e; subst e; exact h.st
    | step _ a m ih =>
      rename_i x w _
      intro e
      rcases h.cl x.1 x.2 (ih e) with q | q | q
      · exact absurd q List.not_mem_nil
      · exact q.elim
      · exact q w a m
  exact (hm v.1 v.2).mpr (key _ v r rfl)
end

/-! ### the walk of least_trades -/
structure Seen (T : Trade) (i : Nat) (ps : List Trade) (S : List Cell) : Prop where
  nd : ps.Nodup
  part : ∀ p ∈ ps, IsPart T p
  seen : ∀ c, c ∈ S ↔ ∃ p ∈ ps, c ∈ p.1
  done : ∀ c ∈ T.1.take i, c ∈ S
section
variable {T p : Trade} {i : Nat} {ps : List Trade} {S S' : List Cell} {c : Cell} {n : Int}
theorem seen_start : Seen T 0 [] [] := ⟨List.nodup_nil, fun _ m => absurd m List.not_mem_nil, fun c => by simp, fun c m => absurd m (by simp)⟩
theorem seen_skip (h : Seen T i ps S) (e : T.1[i]? = some c) (m : c ∈ S) : Seen T (i + 1) ps S where
  nd := h.nd
  part := h.part
  seen := h.seen
  done := fun d md => by
    rw [List.take_add_one, e] at md
    rcases List.mem_append.mp md with q | q
    · exact h.done d q
    · rw [show d = c by simpa using q]
      exact m
theorem seen_new (h : Seen T i ps S) (e : T.1[i]? = some c) (nm : c ∉ S) (hp : IsPart T p) (mc : c ∈ p.1) (hS : ∀ d, d ∈ S' ↔ d ∈ S ∨ d ∈ p.1) : Seen T (i + 1) (ps ++ [p]) S' where
  nd := List.nodup_append.mpr ⟨h.nd, by simp, fun a ma b mb => by
    rw [List.mem_singleton.mp mb]
    exact fun e => nm ((h.seen c).mpr ⟨a, ma, by rw [e]; exact mc⟩)⟩
  part := fun q m => by
    rcases List.mem_append.mp m with m | m
    · exact h.part q m
    · rw [List.mem_singleton.mp m]; exact hp
  seen := fun d => by
    rw [hS, h.seen]
    constructor
    · rintro (⟨q, mq, md⟩ | md)
      · exact ⟨q, List.mem_append_left _ mq, md⟩
      · exact ⟨p, List.mem_append_right _ (List.mem_singleton_self p), md⟩
    · rintro ⟨q, mq, md⟩
      rcases List.mem_append.mp mq with mq | mq
      · exact .inl ⟨q, mq, md⟩
      · rw [List.mem_singleton.mp mq] at md
        exact .inr md
  done := fun d md => by
    rw [List.take_add_one, e] at md
    refine (hS d).mpr ?_
    rcases List.mem_append.mp md with q | q
    · exact .inl (h.done d q)
    · rw [show d = c by simpa using q]
      exact .inr mc
theorem seen_end (hT : IsTrade n T) (h : Seen T i ps S) (hi : T.1.length ≤ i) {le : Trade → Trade → Bool} {qs : List Trade} (hq : qs.Perm ps) (hs : qs.Pairwise fun a b => le a b = true) : IsParts le T qs where
  sorted := hs
  nodup := hq.nodup_iff.mpr h.nd
  part := fun q m => h.part q (hq.mem_iff.mp m)
  cover := fun v m => by
    have base : ∀ c ∈ T.1, ∃ p ∈ qs, c ∈ p.1 := fun c mc => by
      have := h.done c (by rw [List.take_of_length_le hi]; exact mc)
      obtain ⟨p, mp, mc⟩ := (h.seen c).mp this
      exact ⟨p, hq.mem_iff.mpr mp, mc⟩
    obtain ⟨b, c⟩ := v
    cases b with
    | true => exact base c m
    | false =>
      obtain ⟨d, md, e⟩ := hT.to false 0 c m
      obtain ⟨p, mp, mdp⟩ := base d md
      exact ⟨p, mp, (h.part p (hq.mem_iff.mp mp)).closed (u := (true, d)) (v := (false, c)) mdp ⟨rfl, 0, e.symm⟩ m⟩
end
end K40
end

section
set_option autoImplicit false
set_option linter.all false
namespace K40
/-! ### cells of a square -/
def rowC (R : List (List Int)) (n i : Nat) : List Cell := (List.range n).map fun (j : Nat) => ((i : Int), ((j : Int), gn R i j))
def upC (R : List (List Int)) (n : Nat) : Nat → List Cell
  | 0 => []
  | i + 1 => upC R n i ++ rowC R n i
theorem upC_len (R : List (List Int)) (n : Nat) : ∀ i, (upC R n i).length = i * n
  | 0 => by simp [upC]
  | i + 1 => by rw [upC, List.length_append, upC_len R n i, rowC, List.length_map, List.length_range, Nat.succ_mul]
def allC (R : List (List Int)) : List Cell := upC R R.length R.length
def atC (R : List (List Int)) (c : Cell) : Int := gn R c.1.toNat c.2.1.toNat
theorem mem_upC {R : List (List Int)} {n : Nat} {c : Cell} : ∀ {m : Nat}, c ∈ upC R n m ↔ ∃ i j : Nat, i < m ∧ j < n ∧ c = ((i : Int), ((j : Int), gn R i j))
  | 0 => by simp [upC]
  | m + 1 => by
    rw [upC, List.mem_append, mem_upC]
    constructor
    · rintro (⟨i, j, hi, hj, e⟩ | h)
      · exact ⟨i, j, by omega, hj, e⟩
      · obtain ⟨j, hj, e⟩ := List.mem_map.mp h
        exact ⟨m, j, by omega, List.mem_range.mp hj, e.symm⟩
    · rintro ⟨i, j, hi, hj, e⟩
      by_cases h : i = m
      · subst h
        exact .inr (List.mem_map.mpr ⟨j, List.mem_range.mpr hj, e.symm⟩)
      · exact .inl ⟨i, j, by omega, hj, e⟩
theorem rowC_asc (R : List (List Int)) (n i : Nat) : Asc (rowC R n i) := by
  unfold rowC Asc
  rw [List.pairwise_map]
  refine List.pairwise_lt_range.imp fun {a b} h => ?_
  refine decide_eq_true ?_
  show (i : Int) < i ∨ ((i : Int) = i ∧ ((a : Int) < b ∨ _))
  right
  exact ⟨rfl, .inl (by omega)⟩
theorem upC_asc (R : List (List Int)) (n : Nat) : ∀ m, Asc (upC R n m)
  | 0 => List.Pairwise.nil
  | m + 1 => by
    rw [upC]
    refine List.pairwise_append.mpr ⟨upC_asc R n m, rowC_asc R n m, fun a ma b mb => ?_⟩
    obtain ⟨i, j, hi, hj, rfl⟩ := mem_upC.mp ma
    obtain ⟨k, hk, rfl⟩ := List.mem_map.mp mb
    refine decide_eq_true (.inl ?_)
    show (i : Int) < m
    omega
/-- where one square is apart from another -/
def apart (R S : List (List Int)) : List Cell := (allC R).filter fun c => !decide (atC S c = c.2.2)
def diffT (R S : List (List Int)) : Trade := (apart R S, apart S R)
section
variable {n : Nat} {R S M : List (List Int)}
theorem apart_asc : Asc (apart R S) := (upC_asc R R.length R.length).filter _
theorem mem_apart (h : R.length = n) {c : Cell} : c ∈ apart R S ↔ ∃ i j : Nat, i < n ∧ j < n ∧ c = ((i : Int), ((j : Int), gn R i j)) ∧ gn S i j ≠ gn R i j := by
  unfold apart
  rw [List.mem_filter]
  unfold allC
  rw [h, mem_upC]
  constructor
  · rintro ⟨⟨i, j, hi, hj, rfl⟩, e⟩
    refine ⟨i, j, hi, hj, rfl, fun z => ?_⟩
    have e : (!decide (gn S i j = gn R i j)) = true := e
    rw [decide_eq_true z] at e
    cases e
  · rintro ⟨i, j, hi, hj, rfl, e⟩
    refine ⟨⟨i, j, hi, hj, rfl⟩, ?_⟩
    show (!decide (gn S i j = gn R i j)) = true
    rw [decide_eq_false e]
    rfl
theorem Lat.row_surj (h : Lat n R) {i : Nat} (hi : i < n) {s : Int} (hs : 0 ≤ s ∧ s < n) : ∃ j, j < n ∧ gn R i j = s := by
  obtain ⟨r, e1, m, e2, hl⟩ := h.shp.at_row hi
  have q := (h.row_ren m).mem_iff.mpr (mem_rgI.mpr hs)
  obtain ⟨j, hj, e⟩ := List.getElem_of_mem q
  refine ⟨j, by omega, ?_⟩
  unfold gn
  rw [e2, getD_at hj, e]
theorem Lat.col_surj (h : Lat n R) {j : Nat} (hj : j < n) {s : Int} (hs : 0 ≤ s ∧ s < n) : ∃ i, i < n ∧ gn R i j = s := by
  obtain ⟨i, hi, e⟩ := h.trp.row_surj hj hs
  exact ⟨i, hi, by rw [← gn_trp h.shp hj hi]; exact e⟩
theorem prI {i j i' j' : Nat} {s s' : Int} : (pr 0 ((i : Int), ((j : Int), s)) = pr 0 ((i' : Int), ((j' : Int), s')) ↔ i = i' ∧ j = j') ∧ (pr 1 ((i : Int), ((j : Int), s)) = pr 1 ((i' : Int), ((j' : Int), s')) ↔ i = i' ∧ s = s') ∧
    ∀ k, pr (k + 2) ((i : Int), ((j : Int), s)) = pr (k + 2) ((i' : Int), ((j' : Int), s')) ↔ j = j' ∧ s = s' := by
  refine ⟨?_, ?_, fun k => ?_⟩ <;> · simp only [pr, Prod.mk.injEq]; omega
theorem apart_inj (h : Lat n R) (k : Nat) : ∀ a ∈ apart R S, ∀ c ∈ apart R S, pr k a = pr k c → a = c := fun a ma c mc e => by
  obtain ⟨i, j, hi, hj, rfl, _⟩ := (mem_apart h.len).mp ma
  obtain ⟨i', j', hi', hj', rfl, _⟩ := (mem_apart h.len).mp mc
  match k with
  | 0 =>
    obtain ⟨rfl, rfl⟩ := prI.1.mp e
    rfl
  | 1 =>
    obtain ⟨rfl, e2⟩ := prI.2.1.mp e
    have := h.rinj i j j' hi hj hj' e2
    subst this
    rfl
  | k + 2 =>
    obtain ⟨rfl, e2⟩ := (prI.2.2 k).mp e
    have := h.cinj i i' j hi hi' hj e2
    subst this
    rfl
theorem apart_to (h : Lat n R) (g : Lat n S) (k : Nat) : ∀ a ∈ apart R S, ∃ c, c ∈ apart S R ∧ pr k a = pr k c := fun a ma => by
  obtain ⟨i, j, hi, hj, rfl, ne⟩ := (mem_apart h.len).mp ma
  match k with
  | 0 => exact ⟨((i : Int), ((j : Int), gn S i j)), (mem_apart g.len).mpr ⟨i, j, hi, hj, rfl, fun e => ne e.symm⟩, rfl⟩
  | 1 =>
    obtain ⟨j', hj', e⟩ := g.row_surj hi (h.rng i j hi hj)
    refine ⟨((i : Int), ((j' : Int), gn S i j')), (mem_apart g.len).mpr ⟨i, j', hi, hj', rfl, fun e2 => ?_⟩, prI.2.1.mpr ⟨rfl, e.symm⟩⟩
    have := h.rinj i j' j hi hj' hj (e2.trans e)
    subst this
    exact ne e
  | k + 2 =>
    obtain ⟨i', hi', e⟩ := g.col_surj hj (h.rng i j hi hj)
    refine ⟨((i' : Int), ((j : Int), gn S i' j)), (mem_apart g.len).mpr ⟨i', j, hi', hj, rfl, fun e2 => ?_⟩, (prI.2.2 k).mpr ⟨rfl, e.symm⟩⟩
    have := h.cinj i' i j hi' hi hj (e2.trans e)
    subst this
    exact ne e
theorem apart_rng (h : Lat n R) : ∀ c ∈ apart R S, InR n c := fun c m => by
  obtain ⟨i, j, hi, hj, rfl, _⟩ := (mem_apart h.len).mp m
  have := h.rng i j hi hj
  refine ⟨⟨?_, ?_⟩, ⟨?_, ?_⟩, this⟩
  · show (0 : Int) ≤ i; omega
  · show (i : Int) < n; omega
  · show (0 : Int) ≤ j; omega
  · show (j : Int) < n; omega
theorem apart_dis (h : Lat n R) (g : Lat n S) : ∀ c ∈ apart R S, c ∉ apart S R := fun c m m' => by
  obtain ⟨i, j, hi, hj, rfl, ne⟩ := (mem_apart h.len).mp m
  obtain ⟨i', j', _, _, e, _⟩ := (mem_apart g.len).mp m'
  simp only [Prod.mk.injEq] at e
  obtain ⟨e1, e2, e3⟩ := e
  have h1 : i = i' := by omega
  have h2 : j = j' := by omega
  subst h1 h2
  exact ne e3.symm
theorem apart_ne (h : Lat n R) (g : Lat n S) (ne : R ≠ S) : apart R S ≠ [] := fun e => ne (h.shp.ext g.shp fun i j hi hj => by
  apply Classical.byContradiction
  intro q
  have := (mem_apart (S := S) h.len).mpr ⟨i, j, hi, hj, rfl, fun z => q z.symm⟩
  rw [e] at this
  exact List.not_mem_nil this)
theorem diff_trade (h : Lat n R) (g : Lat n S) (ne : R ≠ S) : IsTrade n (diffT R S) where
  asc := fun b => by cases b <;> exact apart_asc
  rng := fun b => by
    cases b with
    | true => exact apart_rng h
    | false => exact apart_rng g
  inj := fun b k => by
    cases b with
    | true => exact apart_inj h k
    | false => exact apart_inj g k
  to := fun b k => by
    cases b with
    | true => exact apart_to h g k
    | false => exact apart_to g h k
  dis := fun b => by
    cases b with
    | true => exact apart_dis h g
    | false => exact apart_dis g h
  ne := apart_ne h g ne

/-! ### squares switched -/
def setC (R : List (List Int)) (c : Cell) : List (List Int) := R.set c.1.toNat ((R.getD c.1.toNat []).set c.2.1.toNat c.2.2)
def rowsWith (R : List (List Int)) (cs : List Cell) : List (List Int) := cs.foldl setC R
theorem setC_shp (h : Shp n R) {c : Cell} (hc : c.1.toNat < n) : Shp n (setC R c) where
  len := by unfold setC; rw [List.length_set, h.len]
  row := fun r m => by
    unfold setC at m
    rcases List.mem_or_eq_of_mem_set m with m | rfl
    · exact h.row r m
    · rw [List.length_set]
      obtain ⟨r, _, m, e, hl⟩ := h.at_row hc
      rw [e]
      exact hl
theorem gn_setC (h : Shp n R) {c : Cell} {i j : Nat} (hc : c.1.toNat < n) (hd : c.2.1.toNat < n) (hi : i < n) (hj : j < n) : gn (setC R c) i j = if i = c.1.toNat ∧ j = c.2.1.toNat then c.2.2 else gn R i j := by
  obtain ⟨r, e1, m, e2, hl⟩ := h.at_row hc
  unfold gn setC
  rw [e2]
  by_cases h1 : i = c.1.toNat
  · subst h1
    have hlen : c.1.toNat < R.length := by rw [h.len]; exact hi
    have e3 : (R.set c.1.toNat (r.set c.2.1.toNat c.2.2)).getD c.1.toNat [] = r.set c.2.1.toNat c.2.2 := by simp [hlen]
    rw [e3]
    by_cases h2 : j = c.2.1.toNat
    · subst h2
      rw [if_pos ⟨rfl, rfl⟩]
      have : c.2.1.toNat < r.length := by omega
      simp [this]
    · rw [if_neg fun z => h2 z.2, e2, List.getD_eq_getElem?_getD, List.getElem?_set_ne (Ne.symm h2), List.getD_eq_getElem?_getD]
  · rw [if_neg fun z => h1 z.1, List.getD_eq_getElem?_getD (l := R.set _ _), List.getElem?_set_ne (Ne.symm h1), ← List.getD_eq_getElem?_getD]
def InN (n : Nat) (c : Cell) : Prop := c.1.toNat < n ∧ c.2.1.toNat < n
theorem rw_shp : ∀ {cs : List Cell} {R : List (List Int)}, Shp n R → (∀ c ∈ cs, InN n c) → Shp n (rowsWith R cs)
  | [], _, h, _ => h
  | c :: cs, R, h, hc => rw_shp (cs := cs) (R := setC R c) (setC_shp h (hc c List.mem_cons_self).1) fun d m => hc d (List.mem_cons_of_mem _ m)
theorem rw_out {i j : Nat} (hi : i < n) (hj : j < n) : ∀ {cs : List Cell} {R : List (List Int)}, Shp n R → (∀ c ∈ cs, InN n c) → (∀ c ∈ cs, ¬ (i = c.1.toNat ∧ j = c.2.1.toNat)) → gn (rowsWith R cs) i j = gn R i j
  | [], _, _, _, _ => rfl
  | c :: cs, R, h, hc, hn => by
    have q := hc c List.mem_cons_self
    show gn (rowsWith (setC R c) cs) i j = _
    rw [rw_out hi hj (setC_shp h q.1) (fun d m => hc d (List.mem_cons_of_mem _ m)) (fun d m => hn d (List.mem_cons_of_mem _ m)), gn_setC h q.1 q.2 hi hj, if_neg (hn c List.mem_cons_self)]
theorem rw_in {c : Cell} : ∀ {cs : List Cell} {R : List (List Int)}, Shp n R → (∀ c ∈ cs, InN n c) → c ∈ cs → (∀ d ∈ cs, c.1.toNat = d.1.toNat ∧ c.2.1.toNat = d.2.1.toNat → d = c) → gn (rowsWith R cs) c.1.toNat c.2.1.toNat = c.2.2
  | [], _, _, _, m, _ => absurd m List.not_mem_nil
  | d :: cs, R, h, hc, m, hi => by
    have q := hc d List.mem_cons_self
    have qc := hc c m
    have hcs := fun d m => hc d (List.mem_cons_of_mem _ m)
    show gn (rowsWith (setC R d) cs) _ _ = _
    by_cases mc : c ∈ cs
    · exact rw_in (setC_shp h q.1) hcs mc fun d m => hi d (List.mem_cons_of_mem _ m)
    · have e : c = d := by
        rcases List.mem_cons.mp m with e | e
        · exact e
        · exact absurd e mc
      subst e
      rw [rw_out qc.1 qc.2 (setC_shp h q.1) hcs (fun d md z => mc (by rw [← hi d (List.mem_cons_of_mem _ md) z]; exact md)), gn_setC h q.1 q.2 qc.1 qc.2, if_pos ⟨rfl, rfl⟩]
theorem inr_inN {c : Cell} (h : InR n c) : InN n c := ⟨by have := h.1; omega, by have := h.2.1; omega⟩
theorem inr_nat {c : Cell} (h : InR n c) : ∃ i j : Nat, i < n ∧ j < n ∧ c = ((i : Int), ((j : Int), c.2.2)) :=
  ⟨c.1.toNat, c.2.1.toNat, (inr_inN h).1, (inr_inN h).2, cell_ext (by have := h.1; show c.1 = (c.1.toNat : Int); omega) (by have := h.2.1; show c.2.1 = (c.2.1.toNat : Int); omega) rfl⟩
/-- a trade's put cells in a square -/
theorem sw_put {T : Trade} (h : Shp n R) (hT : IsTrade n T) {i j : Nat} {s : Int} (m : ((i : Int), ((j : Int), s)) ∈ T.2) : gn (rowsWith R T.2) i j = s := by
  have q := rw_in (c := ((i : Int), ((j : Int), s))) h (fun c m => inr_inN (hT.rng false c m)) m (fun d md z => by
    obtain ⟨a, b, ha, hb, e⟩ := inr_nat (hT.rng false d md)
    refine hT.inj false 0 d md _ m ?_
    rw [e] at z ⊢
    have z1 : ((i : Int)).toNat = ((a : Int)).toNat := z.1
    have z2 : ((j : Int)).toNat = ((b : Int)).toNat := z.2
    exact prI.1.mpr ⟨by omega, by omega⟩)
  exact q
theorem sw_keep {T : Trade} (h : Shp n R) (hT : IsTrade n T) {i j : Nat} (hi : i < n) (hj : j < n) (nm : ∀ s, ((i : Int), ((j : Int), s)) ∉ T.2) : gn (rowsWith R T.2) i j = gn R i j :=
  rw_out hi hj h (fun c m => inr_inN (hT.rng false c m)) fun c m z => by
    obtain ⟨a, b, ha, hb, e⟩ := inr_nat (hT.rng false c m)
    rw [e] at z
    have z1 : i = ((a : Int)).toNat := z.1
    have z2 : j = ((b : Int)).toNat := z.2
    have e1 : i = a := by omega
    have e2 : j = b := by omega
    subst e1 e2
    exact nm c.2.2 (by rw [← e]; exact m)
theorem trade_pos {T : Trade} (hT : IsTrade n T) (b : Bool) {i j : Nat} {s : Int} (m : ((i : Int), ((j : Int), s)) ∈ sd T b) : ∃ s', ((i : Int), ((j : Int), s')) ∈ sd T (!b) := by
  obtain ⟨c, mc, e⟩ := hT.to b 0 _ m
  obtain ⟨a, d, _, _, ec⟩ := inr_nat (hT.rng (!b) c mc)
  rw [ec] at e
  obtain ⟨rfl, rfl⟩ := prI.1.mp e
  exact ⟨c.2.2, by rw [← ec]; exact mc⟩
theorem sw_lat {T : Trade} (h : Lat n R) (hT : IsTrade n T) (hw : ∀ c ∈ T.1, atC R c = c.2.2) : Lat n (rowsWith R T.2) := by
  have hw' : ∀ (i j : Nat) (s : Int), ((i : Int), ((j : Int), s)) ∈ T.1 → gn R i j = s := fun i j s m => hw _ m
  have cases' : ∀ i j, i < n → j < n → (∃ s, ((i : Int), ((j : Int), s)) ∈ T.2 ∧ gn (rowsWith R T.2) i j = s) ∨ ((∀ s, ((i : Int), ((j : Int), s)) ∉ T.2) ∧ gn (rowsWith R T.2) i j = gn R i j) := fun i j hi hj => by
    by_cases q : ∃ s, ((i : Int), ((j : Int), s)) ∈ T.2
    · obtain ⟨s, m⟩ := q
      exact .inl ⟨s, m, sw_put h.shp hT m⟩
    · exact .inr ⟨fun s m => q ⟨s, m⟩, sw_keep h.shp hT hi hj fun s m => q ⟨s, m⟩⟩
  have shp := rw_shp h.shp (cs := T.2) fun c m => inr_inN (hT.rng false c m)
  -- a sign put at (i, j) is nowhere uncovered in its row, its column
  have rowOut : ∀ i j j', i < n → j < n → j' < n → ∀ s, ((i : Int), ((j : Int), s)) ∈ T.2 → (∀ s, ((i : Int), ((j' : Int), s)) ∉ T.2) → gn R i j' ≠ s := fun i j j' hi hj hj' s m nm e => by
    obtain ⟨c, mc, ec⟩ := hT.to false 1 _ m
    obtain ⟨x, y, hx, hy, e2⟩ := inr_nat (hT.rng true c mc)
    rw [e2] at ec
    obtain ⟨rfl, e3⟩ := prI.2.1.mp ec
    have mc' : ((i : Int), ((y : Int), s)) ∈ T.1 := by rw [e3, ← e2]; exact mc
    have e4 := hw' i y s mc'
    have e5 := h.rinj i y j' hi hy hj' (e4.trans e.symm)
    subst e5
    obtain ⟨s', ms⟩ := trade_pos hT true mc'
    exact nm s' ms
  have colOut : ∀ i i' j, i < n → i' < n → j < n → ∀ s, ((i : Int), ((j : Int), s)) ∈ T.2 → (∀ s, ((i' : Int), ((j : Int), s)) ∉ T.2) → gn R i' j ≠ s := fun i i' j hi hi' hj s m nm e => by
    obtain ⟨c, mc, ec⟩ := hT.to false 2 _ m
    obtain ⟨x, y, hx, hy, e2⟩ := inr_nat (hT.rng true c mc)
    rw [e2] at ec
    obtain ⟨rfl, e3⟩ := (prI.2.2 0).mp ec
    have mc' : ((x : Int), ((j : Int), s)) ∈ T.1 := by rw [e3, ← e2]; exact mc
    have e4 := hw' x j s mc'
    have e5 := h.cinj x i' j hx hi' hj (e4.trans e.symm)
    subst e5
    obtain ⟨s', ms⟩ := trade_pos hT true mc'
    exact nm s' ms
  refine ⟨shp.len, shp.row, fun i j hi hj => ?_, fun i j j' hi hj hj' e => ?_, fun i i' j hi hi' hj e => ?_⟩
  · rcases cases' i j hi hj with ⟨s, m, e⟩ | ⟨_, e⟩
    · rw [e]
      exact (hT.rng false _ m).2.2
    · rw [e]
      exact h.rng i j hi hj
  · rcases cases' i j hi hj with ⟨s, m, e1⟩ | ⟨q1, e1⟩
    · rcases cases' i j' hi hj' with ⟨s', m', e2⟩ | ⟨q2, e2⟩
      · have es : s = s' := by rw [← e1, ← e2, e]
        have := hT.inj false 1 _ m _ m' (prI.2.1.mpr ⟨rfl, es⟩)
        simp only [Prod.mk.injEq] at this
        omega
      · exact absurd (by rw [← e2, ← e, e1]) (rowOut i j j' hi hj hj' s m q2)
    · rcases cases' i j' hi hj' with ⟨s', m', e2⟩ | ⟨q2, e2⟩
      · exact absurd (by rw [← e1, e, e2]) (rowOut i j' j hi hj' hj s' m' q1)
      · exact h.rinj i j j' hi hj hj' (by rw [← e1, ← e2, e])
  · rcases cases' i j hi hj with ⟨s, m, e1⟩ | ⟨q1, e1⟩
    · rcases cases' i' j hi' hj with ⟨s', m', e2⟩ | ⟨q2, e2⟩
      · have es : s = s' := by rw [← e1, ← e2, e]
        have := hT.inj false 2 _ m _ m' ((prI.2.2 0).mpr ⟨rfl, es⟩)
        simp only [Prod.mk.injEq] at this
        omega
      · exact absurd (by rw [← e2, ← e, e1]) (colOut i i' j hi hi' hj s m q2)
    · rcases cases' i' j hi' hj with ⟨s', m', e2⟩ | ⟨q2, e2⟩
      · exact absurd (by rw [← e1, e, e2]) (colOut i' i j hi' hi hj s' m' q1)
      · exact h.cinj i i' j hi hi' hj (by rw [← e1, ← e2, e])
end

/-! ### the walk from one square to another -/
/-- some of the parts are switched -/
structure Mid (n : Nat) (R S M : List (List Int)) (done : List Trade) : Prop where
  lat : Lat n M
  yes : ∀ i j, i < n → j < n → (∃ q ∈ done, ∃ s, ((i : Int), ((j : Int), s)) ∈ q.1) → gn M i j = gn S i j
  no : ∀ i j, i < n → j < n → (∀ q ∈ done, ∀ s, ((i : Int), ((j : Int), s)) ∉ q.1) → gn M i j = gn R i j
section
variable {n : Nat} {R S M : List (List Int)} {done : List Trade} {q : Trade} {le : Trade → Trade → Bool} {ps : List Trade}
theorem mid_start (h : Lat n R) : Mid n R S R [] := ⟨h, fun _ _ _ _ ⟨_, m, _⟩ => absurd m List.not_mem_nil, fun _ _ _ _ _ => rfl⟩
theorem part_cell1 (h : Lat n R) (hq : IsPart (diffT R S) q) {i j : Nat} {s : Int} (m : ((i : Int), ((j : Int), s)) ∈ q.1) : i < n ∧ j < n ∧ gn R i j = s ∧ gn S i j ≠ gn R i j := by
  have mT : ((i : Int), ((j : Int), s)) ∈ apart R S := hq.mem (v := (true, _)) m
  obtain ⟨a, b, ha, hb, e, ne⟩ := (mem_apart h.len).mp mT
  simp only [Prod.mk.injEq] at e
  have e1 : i = a := by omega
  have e2 : j = b := by omega
  subst e1 e2
  exact ⟨ha, hb, e.2.2.symm, ne⟩
theorem part_cell2 (g : Lat n S) (hq : IsPart (diffT R S) q) {i j : Nat} {s : Int} (m : ((i : Int), ((j : Int), s)) ∈ q.2) : i < n ∧ j < n ∧ gn S i j = s ∧ gn R i j ≠ gn S i j := by
  have mT : ((i : Int), ((j : Int), s)) ∈ apart S R := hq.mem (v := (false, _)) m
  obtain ⟨a, b, ha, hb, e, ne⟩ := (mem_apart g.len).mp mT
  simp only [Prod.mk.injEq] at e
  have e1 : i = a := by omega
  have e2 : j = b := by omega
  subst e1 e2
  exact ⟨ha, hb, e.2.2.symm, ne⟩
/-- an unlike part is elsewhere -/
theorem part_apart (h : Lat n R) (hq : IsPart (diffT R S) q) {p : Trade} (hp : IsPart (diffT R S) p) (ne : p ≠ q) {i j : Nat} {s s' : Int} (m : ((i : Int), ((j : Int), s)) ∈ q.1) : ((i : Int), ((j : Int), s')) ∉ p.1 := fun m' => by
  have e1 := (part_cell1 h hq m).2.2.1
  have e2 := (part_cell1 h hp m').2.2.1
  have es : s = s' := by rw [← e1, e2]
  subst es
  exact ne (part_eq hp hq (u := (true, _)) m' m)
theorem mid_within (h : Lat n R) (hM : Mid n R S M done) (hd : ∀ p ∈ done, IsPart (diffT R S) p) (hq : IsPart (diffT R S) q) (nq : q ∉ done) : ∀ c ∈ q.1, atC M c = c.2.2 := fun c m => by
  have mT : c ∈ apart R S := hq.mem (v := (true, c)) m
  obtain ⟨i, j, hi, hj, rfl, ne⟩ := (mem_apart h.len).mp mT
  show gn M i j = gn R i j
  exact hM.no i j hi hj fun p mp s => part_apart h hq (hd p mp) (fun e => nq (by rw [← e]; exact mp)) m
theorem mid_step (h : Lat n R) (g : Lat n S) (ne : R ≠ S) (hM : Mid n R S M done) (hd : ∀ p ∈ done, IsPart (diffT R S) p) (hq : IsPart (diffT R S) q) (nq : q ∉ done) : Mid n R S (rowsWith M q.2) (done ++ [q]) := by
  have hqT : IsTrade n q := part_trade (diff_trade h g ne) hq
  have w := mid_within h hM hd hq nq
  refine ⟨sw_lat hM.lat hqT w, fun i j hi hj ⟨p, mp, s, ms⟩ => ?_, fun i j hi hj hn => ?_⟩
  · by_cases q2 : ∃ s, ((i : Int), ((j : Int), s)) ∈ q.2
    · obtain ⟨s2, m2⟩ := q2
      rw [sw_put hM.lat.shp hqT m2, (part_cell2 g hq m2).2.2.1]
    · rw [sw_keep hM.lat.shp hqT hi hj fun s m => q2 ⟨s, m⟩]
      rcases List.mem_append.mp mp with mp | mp
      · exact hM.yes i j hi hj ⟨p, mp, s, ms⟩
      · rw [List.mem_singleton.mp mp] at ms
        exact absurd (trade_pos hqT true ms) q2
  · have n2 : ∀ s, ((i : Int), ((j : Int), s)) ∉ q.2 := fun s m => by
      obtain ⟨s', m'⟩ := trade_pos hqT false m
      exact hn q (List.mem_append_right _ (List.mem_singleton_self q)) s' m'
    rw [sw_keep hM.lat.shp hqT hi hj n2]
    exact hM.no i j hi hj fun p mp => hn p (List.mem_append_left _ mp)
theorem mid_diff (h : Lat n R) (g : Lat n S) (ne : R ≠ S) (hM : Mid n R S M done) (hd : ∀ p ∈ done, IsPart (diffT R S) p) (hq : IsPart (diffT R S) q) (nq : q ∉ done) : diffT M (rowsWith M q.2) = q := by
  have hqT : IsTrade n q := part_trade (diff_trade h g ne) hq
  have w := mid_within h hM hd hq nq
  have hM' := mid_step h g ne hM hd hq nq
  have val1 : ∀ (i j : Nat) s, ((i : Int), ((j : Int), s)) ∈ q.1 → gn M i j = s := fun i j s m => w _ m
  have e1 : apart M (rowsWith M q.2) = q.1 := asc_ext apart_asc (hq.asc true) fun c => by
    rw [mem_apart hM.lat.len]
    constructor
    · rintro ⟨i, j, hi, hj, rfl, d⟩
      by_cases q2 : ∃ s, ((i : Int), ((j : Int), s)) ∈ q.2
      · obtain ⟨s2, m2⟩ := q2
        obtain ⟨s1, m1⟩ := trade_pos hqT false m2
        rw [val1 i j s1 m1]
        exact m1
      · exact absurd (sw_keep hM.lat.shp hqT hi hj fun s m => q2 ⟨s, m⟩) d
    · intro m
      obtain ⟨i, j, hi, hj, e⟩ := inr_nat (hqT.rng true c m)
      rw [e] at m ⊢
      obtain ⟨s2, m2⟩ := trade_pos hqT true m
      refine ⟨i, j, hi, hj, by rw [val1 i j _ m], ?_⟩
      rw [sw_put hM.lat.shp hqT m2, val1 i j _ m]
      have f1 := part_cell1 h hq m
      have f2 := part_cell2 g hq m2
      rw [← f1.2.2.1, ← f2.2.2.1]
      exact f1.2.2.2
  have e2 : apart (rowsWith M q.2) M = q.2 := asc_ext apart_asc (hq.asc false) fun c => by
    rw [mem_apart hM'.lat.len]
    constructor
    · rintro ⟨i, j, hi, hj, rfl, d⟩
      by_cases q2 : ∃ s, ((i : Int), ((j : Int), s)) ∈ q.2
      · obtain ⟨s2, m2⟩ := q2
        rw [sw_put hM.lat.shp hqT m2]
        exact m2
      · exact absurd (sw_keep hM.lat.shp hqT hi hj fun s m => q2 ⟨s, m⟩).symm d
    · intro m
      obtain ⟨i, j, hi, hj, e⟩ := inr_nat (hqT.rng false c m)
      rw [e] at m ⊢
      obtain ⟨s1, m1⟩ := trade_pos hqT false m
      refine ⟨i, j, hi, hj, by rw [sw_put hM.lat.shp hqT m], ?_⟩
      rw [sw_put hM.lat.shp hqT m, val1 i j _ m1]
      have f1 := part_cell1 h hq m1
      have f2 := part_cell2 g hq m
      rw [← f1.2.2.1, ← f2.2.2.1]
      exact fun z => f1.2.2.2 z.symm
  exact Prod.ext e1 e2
/-- while a part is left the square is not the other -/
theorem mid_other (h : Lat n R) (g : Lat n S) (ne : R ≠ S) (hM : Mid n R S M done) (hd : ∀ p ∈ done, IsPart (diffT R S) p) (hq : IsPart (diffT R S) q) (nq : q ∉ done) : M ≠ S := fun e => by
  have hqT : IsTrade n q := part_trade (diff_trade h g ne) hq
  cases hq1 : q.1 with
  | nil => exact hqT.ne hq1
  | cons c l =>
    have m : c ∈ q.1 := by rw [hq1]; exact List.mem_cons_self
    obtain ⟨i, j, hi, hj, ec⟩ := inr_nat (hqT.rng true c m)
    rw [ec] at m
    have f := part_cell1 h hq m
    have := mid_within h hM hd hq nq _ m
    have e3 : gn M i j = c.2.2 := this
    rw [e] at e3
    exact f.2.2.2 (by rw [e3, f.2.2.1])
theorem mid_end (h : Lat n R) (g : Lat n S) (ne : R ≠ S) (hM : Mid n R S M done) (hp : IsParts le (diffT R S) ps) (hd : ∀ p ∈ ps, p ∈ done) : M = S := by
  refine hM.lat.shp.ext g.shp fun i j hi hj => ?_
  by_cases e : gn S i j = gn R i j
  · by_cases q : ∃ q ∈ done, ∃ s, ((i : Int), ((j : Int), s)) ∈ q.1
    · exact hM.yes i j hi hj q
    · rw [hM.no i j hi hj fun p mp s m => q ⟨p, mp, s, m⟩, e]
  · have m : ((i : Int), ((j : Int), gn R i j)) ∈ apart R S := (mem_apart h.len).mpr ⟨i, j, hi, hj, rfl, e⟩
    obtain ⟨p, mp, mc⟩ := hp.cover (true, _) m
    exact hM.yes i j hi hj ⟨p, hd p mp, _, mc⟩
end
end K40
end

section
set_option autoImplicit false
set_option linter.all false
namespace K40
/-! ### the law's own walk over the parts -/
structure Pout (T : Trade) (ps : List Trade) (L : List Vx) : Prop where
  nd : L.Nodup
  memL : ∀ v ∈ L, Mem T v
  cov : ∀ v, Mem T v → v ∈ L ∨ ∃ p ∈ ps, Mem p v
  dis : ∀ v ∈ L, ∀ p ∈ ps, ¬ Mem p v
  part : ∀ p ∈ ps, IsPart T p
  pn : ps.Nodup
structure Pin (T : Trade) (ps : List Trade) (s : Vx) (L O W : List Vx) : Prop where
  nd : (O ++ W ++ L).Nodup
  memL : ∀ v ∈ L, Mem T v
  rc : ∀ v, v ∈ O ∨ v ∈ W → Reach T s v
  cov : ∀ v, Mem T v → v ∈ O ∨ v ∈ W ∨ v ∈ L ∨ ∃ p ∈ ps, Mem p v
  dis : ∀ v, v ∈ O ∨ v ∈ W ∨ v ∈ L → ∀ p ∈ ps, ¬ Mem p v
  part : ∀ p ∈ ps, IsPart T p
  shut : ∀ v ∈ O, ∀ w, Adj v w → Mem T w → w ∈ O ∨ w ∈ W
  st : s ∈ O ∨ s ∈ W
  pn : ps.Nodup
def vxs (T : Trade) : List Vx := T.1.map (fun c => (true, c)) ++ T.2.map fun c => (false, c)
theorem mem_vxs {T : Trade} {v : Vx} : v ∈ vxs T ↔ Mem T v := by
  obtain ⟨b, c⟩ := v
  unfold vxs Mem
  rw [List.mem_append, List.mem_map, List.mem_map]
  cases b with
  | true =>
    constructor
    · rintro (⟨d, m, e⟩ | ⟨d, m, e⟩)
      · rw [← (Prod.mk.inj e).2]
        exact m
      · exact absurd (Prod.mk.inj e).1 (by decide)
    · exact fun m => .inl ⟨c, m, rfl⟩
  | false =>
    constructor
    · rintro (⟨d, m, e⟩ | ⟨d, m, e⟩)
      · exact absurd (Prod.mk.inj e).1 (by decide)
      · rw [← (Prod.mk.inj e).2]
        exact m
    · exact fun m => .inr ⟨c, m, rfl⟩
section
variable {T p : Trade} {ps qs : List Trade} {s h : Vx} {L O W : List Vx} {n : Int}
theorem pout_start (hT : IsTrade n T) : Pout T [] (vxs T) where
  nd := by
    unfold vxs
    refine List.nodup_append.mpr ⟨?_, ?_, fun a ma b mb e => ?_⟩
    · exact List.Pairwise.map _ (fun a b ne e => ne (Prod.mk.inj e).2) (hT.asc true).nodup
    · exact List.Pairwise.map _ (fun a b ne e => ne (Prod.mk.inj e).2) (hT.asc false).nodup
    · obtain ⟨_, _, rfl⟩ := List.mem_map.mp ma
      obtain ⟨_, _, rfl⟩ := List.mem_map.mp mb
      exact absurd (Prod.mk.inj e).1 (by decide)
  memL := fun v m => mem_vxs.mp m
  cov := fun v m => .inl (mem_vxs.mpr m)
  dis := fun _ _ _ m => absurd m List.not_mem_nil
  part := fun _ m => absurd m List.not_mem_nil
  pn := List.nodup_nil
theorem pin_start (h : Pout T ps (L ++ [s])) : Pin T ps s L [] [s] where
  nd := by
    have q := h.nd
    exact (List.perm_append_comm (l₁ := L) (l₂ := [s])).nodup_iff.mp q
  memL := fun v m => h.memL v (List.mem_append_left _ m)
  rc := fun v m => by
    rcases m with m | m
    · exact absurd m List.not_mem_nil
    · rw [List.mem_singleton.mp m]
      exact .refl (h.memL s (List.mem_append_right _ (List.mem_singleton_self s)))
  cov := fun v m => by
    rcases h.cov v m with q | q
    · rcases List.mem_append.mp q with q | q
      · exact .inr (.inr (.inl q))
      · exact .inr (.inl q)
    · exact .inr (.inr (.inr q))
  dis := fun v m => by
    rcases m with m | m | m
    · exact absurd m List.not_mem_nil
    · exact h.dis v (List.mem_append_right _ m)
    · exact h.dis v (List.mem_append_left _ m)
  part := h.part
  shut := fun _ m => absurd m List.not_mem_nil
  st := .inr (List.mem_singleton_self s)
  pn := h.pn
theorem pin_turn (q : Pin T ps s L O (W ++ [h])) (adj : Vx → Bool) (ha : ∀ v ∈ L, adj v = true ↔ Adj h v) : Pin T ps s (L.filter fun v => !adj v) (O ++ [h]) (W ++ L.filter adj) where
  nd := by
    have e : ((O ++ [h]) ++ (W ++ L.filter adj) ++ L.filter fun v => !adj v).Perm (O ++ (W ++ [h]) ++ L) := by
      have p1 : (L.filter adj ++ L.filter fun v => !adj v).Perm L := List.filter_append_perm adj L
      have p2 : ((O ++ [h]) ++ (W ++ L.filter adj) ++ L.filter fun v => !adj v).Perm ((O ++ [h]) ++ W ++ L) := by
        rw [List.append_assoc, List.append_assoc W, ← List.append_assoc (O ++ [h])]
        exact List.Perm.append_left _ p1
      refine p2.trans (List.Perm.append_right _ ?_)
      rw [List.append_assoc]
      exact List.Perm.append_left _ List.perm_append_comm
    exact e.nodup_iff.mpr q.nd
  memL := fun v m => q.memL v (List.mem_filter.mp m).1
  rc := fun v m => by
    have rh : Reach T s h := q.rc h (.inr (List.mem_append_right _ (List.mem_singleton_self h)))
    rcases m with m | m
    · rcases List.mem_append.mp m with m | m
      · exact q.rc v (.inl m)
      · rw [List.mem_singleton.mp m]
        exact rh
    · rcases List.mem_append.mp m with m | m
      · exact q.rc v (.inr (List.mem_append_left _ m))
      · obtain ⟨m1, m2⟩ := List.mem_filter.mp m
        exact .step rh ((ha v m1).mp m2) (q.memL v m1)
  cov := fun v m => by
    rcases q.cov v m with z | z | z | z
    · exact .inl (List.mem_append_left _ z)
    · rcases List.mem_append.mp z with z | z
      · exact .inr (.inl (List.mem_append_left _ z))
      · exact .inl (List.mem_append_right _ z)
    · cases e : adj v with
      | true => exact .inr (.inl (List.mem_append_right _ (List.mem_filter.mpr ⟨z, e⟩)))
      | false => exact .inr (.inr (.inl (List.mem_filter.mpr ⟨z, by rw [e]; rfl⟩)))
    · exact .inr (.inr (.inr z))
  dis := fun v m => by
    refine q.dis v ?_
    rcases m with m | m | m
    · rcases List.mem_append.mp m with m | m
      · exact .inl m
      · exact .inr (.inl (List.mem_append_right _ m))
    · rcases List.mem_append.mp m with m | m
      · exact .inr (.inl (List.mem_append_left _ m))
      · exact .inr (.inr (List.mem_filter.mp m).1)
    · exact .inr (.inr (List.mem_filter.mp m).1)
  part := q.part
  shut := fun v m w a mw => by
    rcases List.mem_append.mp m with m | m
    · rcases q.shut v m w a mw with z | z
      · exact .inl (List.mem_append_left _ z)
      · rcases List.mem_append.mp z with z | z
        · exact .inr (List.mem_append_left _ z)
        · exact .inl (List.mem_append_right _ z)
    · rw [List.mem_singleton.mp m] at a
      rcases q.cov w mw with z | z | z | ⟨p, mp, z⟩
      · exact .inl (List.mem_append_left _ z)
      · rcases List.mem_append.mp z with z | z
        · exact .inr (List.mem_append_left _ z)
        · exact .inl (List.mem_append_right _ z)
      · exact .inr (List.mem_append_right _ (List.mem_filter.mpr ⟨z, (ha w z).mpr a⟩))
      · have mh : h ∈ W ++ [h] := List.mem_append_right _ (List.mem_singleton_self h)
        have mhT : Mem T h := (q.rc h (.inr mh)).tgt
        exact absurd ((q.part p mp).closed z a.symm mhT) (q.dis h (.inr (.inl mh)) p mp)
  st := by
    rcases q.st with z | z
    · exact .inl (List.mem_append_left _ z)
    · rcases List.mem_append.mp z with z | z
      · exact .inr (List.mem_append_left _ z)
      · exact .inl (List.mem_append_right _ z)
  pn := q.pn
theorem pin_end (q : Pin T ps s L O []) (ha : ∀ b, Asc (sd p b)) (hm : ∀ b c, c ∈ sd p b ↔ (b, c) ∈ O) : Pout T (ps ++ [p]) L := by
  have so : s ∈ O := by
    rcases q.st with z | z
    · exact z
    · exact absurd z List.not_mem_nil
  have key : ∀ u v, Reach T u v → u = s → v ∈ O := fun u v r => by
    induction r with
    | refl _ => intro e; rw [e]; exact so
    | step _ a m ih =>
      intro e
      rcases q.shut _ (ih e) _ a m with z | z
      · exact z
      · exact absurd z List.not_mem_nil
  have hp : IsPart T p := ⟨ha, s, (q.rc s (.inl so)).tgt, fun v => ⟨fun m => q.rc v (.inl ((hm v.1 v.2).mp m)), fun r => (hm v.1 v.2).mpr (key _ v r rfl)⟩⟩
  have nd := q.nd
  rw [List.append_nil] at nd
  have nd2 := List.nodup_append.mp nd
  refine ⟨nd2.2.1, q.memL, fun v m => ?_, fun v m r mr => ?_, fun r mr => ?_, ?_⟩
  · rcases q.cov v m with z | z | z | ⟨r, mr, z⟩
    · exact .inr ⟨p, List.mem_append_right _ (List.mem_singleton_self p), (hm v.1 v.2).mpr z⟩
    · exact absurd z List.not_mem_nil
    · exact .inl z
    · exact .inr ⟨r, List.mem_append_left _ mr, z⟩
  · rcases List.mem_append.mp mr with mr | mr
    · exact q.dis v (.inr (.inr m)) r mr
    · rw [List.mem_singleton.mp mr]
      intro z
      exact nd2.2.2 v ((hm v.1 v.2).mp z) v m rfl
  · rcases List.mem_append.mp mr with mr | mr
    · exact q.part r mr
    · rw [List.mem_singleton.mp mr]
      exact hp
  · refine List.nodup_append.mpr ⟨q.pn, by simp, fun a ma b mb e => ?_⟩
    rw [List.mem_singleton.mp mb] at e
    have : Mem p s := (hm s.1 s.2).mpr so
    rw [← e] at this
    exact q.dis s (.inl so) a ma this
theorem pout_end (q : Pout T ps []) {le : Trade → Trade → Bool} (hq : qs.Perm ps) (hs : qs.Pairwise fun a b => le a b = true) : IsParts le T qs where
  sorted := hs
  nodup := hq.nodup_iff.mpr q.pn
  part := fun p m => q.part p (hq.mem_iff.mp m)
  cover := fun v m => by
    rcases q.cov v m with z | ⟨p, mp, z⟩
    · exact absurd z List.not_mem_nil
    · exact ⟨p, hq.mem_iff.mpr mp, z⟩
end
end K40
end

section
set_option Elab.async false
set_option linter.all false
set_option maxRecDepth 100000
namespace K40
open PySem PySem.Spec PyProof.Rows L2

/-! ### data that are tracked -/
mutual
inductive Dx (H : Hp) : V → PyData → Prop
  | non : Dx H .non .none
  | bl (b : Bool) : Dx H (.bl b) (.bool b)
  | int (i : Int) : Dx H (.int i) (.int i)
  | lst {a : Addr} {xs : List V} {ds : List PyData} : H a = some (.lst xs) → DxA H xs ds → Dx H (.ref a) (.list ds)
  | tup {a : Addr} {xs : List V} {ds : List PyData} : H a = some (.tup xs) → DxA H xs ds → Dx H (.ref a) (.tuple ds)
  /-- a table: an instance with four slots of the class at C, its order, its rows -/
  | tab {a C dx : Addr} {h p r : V} {n : Int} {d : PyData} : SlX.Slt H a C dx [some h, some (.int n), some p, some r] → Dx H r d → Dx H (.ref a) (.dict [(.int (C : Nat), .int n), (.none, d)])
inductive DxA (H : Hp) : List V → List PyData → Prop
  | nil : DxA H [] []
  | cons {v : V} {vs : List V} {d : PyData} {ds : List PyData} : Dx H v d → DxA H vs ds → DxA H (v :: vs) (d :: ds)
end
/-- no list within -/
def TSame (H H' : Hp) : Prop := ∀ a xs, H a = some (.tup xs) → H' a = some (.tup xs)
theorem Same.t {H H' : Hp} (h : Same H H') : TSame H H' := fun a xs e => h a _ e
mutual
def noL : PyData → Bool
  | .list _ => false
  | .dict _ => false
  | .tuple ds => noLA ds
  | _ => true
def noLA : List PyData → Bool
  | [] => true
  | d :: ds => noL d && noLA ds
end
theorem slt_mono {H H' : Hp} {a C dx : Addr} {vs : List (Option V)} (s : Same H H') (h : SlX.Slt H a C dx vs) : SlX.Slt H' a C dx vs := by
  rcases h with ⟨h1, h2⟩ | ⟨h1, h2⟩
  · exact .inl ⟨s _ _ h1, h2⟩
  · exact .inr ⟨s _ _ h1, s _ _ h2⟩
mutual
def pure' : PyData → Bool
  | .int _ => true
  | .list ds => pureA ds
  | .tuple ds => pureA ds
  | _ => false
def pureA : List PyData → Bool
  | [] => true
  | d :: ds => pure' d && pureA ds
end
theorem Dx.mono {H H' : Hp} (s : Same H H') (d : PyData) (v : V) (h : Dx H v d) : Dx H' v d :=
  Dx.rec (motive_1 := fun v d _ => Dx H' v d) (motive_2 := fun vs ds _ => DxA H' vs ds) .non .bl .int (fun h _ ih => .lst (s _ _ h) ih) (fun h _ ih => .tup (s _ _ h) ih) (fun h _ ih => .tab (slt_mono s h) ih) .nil (fun _ _ i j => .cons i j) h
theorem DxA.mono {H H' : Hp} (s : Same H H') (ds : List PyData) (vs : List V) (h : DxA H vs ds) : DxA H' vs ds :=
  DxA.rec (motive_1 := fun v d _ => Dx H' v d) (motive_2 := fun vs ds _ => DxA H' vs ds) .non .bl .int (fun h _ ih => .lst (s _ _ h) ih) (fun h _ ih => .tup (s _ _ h) ih) (fun h _ ih => .tab (slt_mono s h) ih) .nil (fun _ _ i j => .cons i j) h
theorem noLA_cons {d : PyData} {ds : List PyData} (h : noLA (d :: ds) = true) : noL d = true ∧ noLA ds = true := by rwa [noLA, Bool.and_eq_true] at h
theorem pureA_cons {d : PyData} {ds : List PyData} (h : pureA (d :: ds) = true) : pure' d = true ∧ pureA ds = true := by rwa [pureA, Bool.and_eq_true] at h
theorem Dx.tmono {H H' : Hp} (s : TSame H H') (d : PyData) (v : V) (e : noL d = true) (h : Dx H v d) : Dx H' v d :=
  Dx.rec (motive_1 := fun v d _ => noL d = true → Dx H' v d) (motive_2 := fun vs ds _ => noLA ds = true → DxA H' vs ds) (fun _ => .non) (fun b _ => .bl b) (fun i _ => .int i) (fun _ _ _ e => by simp [noL] at e) (fun h _ ih e => .tup (s _ _ h) (ih (by simpa [noL] using e)))
    (fun _ _ _ e => by simp [noL] at e) (fun _ => .nil) (fun _ _ i j e => .cons (i (noLA_cons e).1) (j (noLA_cons e).2)) h e
theorem DxA.tmono {H H' : Hp} (s : TSame H H') (ds : List PyData) (vs : List V) (e : noLA ds = true) (h : DxA H vs ds) : DxA H' vs ds :=
  DxA.rec (motive_1 := fun v d _ => noL d = true → Dx H' v d) (motive_2 := fun vs ds _ => noLA ds = true → DxA H' vs ds) (fun _ => .non) (fun b _ => .bl b) (fun i _ => .int i) (fun _ _ _ e => by simp [noL] at e) (fun h _ ih e => .tup (s _ _ h) (ih (by simpa [noL] using e)))
    (fun _ _ _ e => by simp [noL] at e) (fun _ => .nil) (fun _ _ i j e => .cons (i (noLA_cons e).1) (j (noLA_cons e).2)) h e
theorem Dx.dp {K : PySem.W.Frag} {H : Hp} (d : PyData) (v : V) (e : pure' d = true) (h : Dx H v d) : Dp K H v d :=
  Dx.rec (motive_1 := fun v d _ => pure' d = true → Dp K H v d) (motive_2 := fun vs ds _ => pureA ds = true → DpAll K H vs ds) (fun e => by simp [pure'] at e) (fun b _ => .bl b) (fun i _ => .int i) (fun h _ ih e => .lst (.of h) (ih (by simpa [pure'] using e))) (fun h _ ih e => .tup (.of h) (ih (by simpa [pure'] using e)))
    (fun _ _ _ e => by simp [pure'] at e) (fun _ => .nil) (fun _ _ i j e => .cons (i (pureA_cons e).1) (j (pureA_cons e).2)) h e
theorem DxA.dp {K : PySem.W.Frag} {H : Hp} (ds : List PyData) (vs : List V) (e : pureA ds = true) (h : DxA H vs ds) : DpAll K H vs ds :=
  DxA.rec (motive_1 := fun v d _ => pure' d = true → Dp K H v d) (motive_2 := fun vs ds _ => pureA ds = true → DpAll K H vs ds) (fun e => by simp [pure'] at e) (fun b _ => .bl b) (fun i _ => .int i) (fun h _ ih e => .lst (.of h) (ih (by simpa [pure'] using e))) (fun h _ ih e => .tup (.of h) (ih (by simpa [pure'] using e)))
    (fun _ _ _ e => by simp [pure'] at e) (fun _ => .nil) (fun _ _ i j e => .cons (i (pureA_cons e).1) (j (pureA_cons e).2)) h e
section
variable {H : Hp} {v : V} {xs ys : List V} {ds es : List PyData}
theorem DxA.length : ∀ {xs : List V} {ds : List PyData}, DxA H xs ds → xs.length = ds.length
  | _, _, .nil => rfl
  | _, _, .cons _ r => by rw [List.length_cons, List.length_cons, r.length]
theorem DxA.get : ∀ {xs : List V} {ds : List PyData} {i : Nat} {x : V}, DxA H xs ds → xs[i]? = some x → ∃ d, ds[i]? = some d ∧ Dx H x d
  | _, _, _, _, .nil, e => by simp at e
  | _, _, 0, _, .cons h _, e => by simp at e; subst e; exact ⟨_, rfl, h⟩
  | _, _, i + 1, x, .cons _ r, e => DxA.get (i := i) r (by simpa using e)
theorem DxA.getd : ∀ {xs : List V} {ds : List PyData} {i : Nat} {d : PyData}, DxA H xs ds → ds[i]? = some d → ∃ x, xs[i]? = some x ∧ Dx H x d
  | _, _, _, _, .nil, e => by simp at e
  | _, _, 0, _, .cons h _, e => by simp at e; subst e; exact ⟨_, rfl, h⟩
  | _, _, i + 1, x, .cons _ r, e => DxA.getd (i := i) r (by simpa using e)
theorem DxA.append : ∀ {xs ys : List V} {ds es : List PyData}, DxA H xs ds → DxA H ys es → DxA H (xs ++ ys) (ds ++ es)
  | _, _, _, _, .nil, s => s
  | _, _, _, _, .cons h r, s => .cons h (r.append s)
theorem DxA.one {d : PyData} (h : Dx H v d) : DxA H [v] [d] := .cons h .nil
theorem DxA.snoc {d : PyData} (r : DxA H xs ds) (h : Dx H v d) : DxA H (xs ++ [v]) (ds ++ [d]) := r.append (.one h)
theorem DxA.take : ∀ {xs : List V} {ds : List PyData} (n : Nat), DxA H xs ds → DxA H (xs.take n) (ds.take n)
  | _, _, 0, _ => .nil
  | _, _, _ + 1, .nil => .nil
  | _, _, n + 1, .cons h r => .cons h (r.take n)
theorem DxA.drop : ∀ {xs : List V} {ds : List PyData} (n : Nat), DxA H xs ds → DxA H (xs.drop n) (ds.drop n)
  | _, _, 0, r => r
  | _, _, _ + 1, .nil => .nil
  | _, _, n + 1, .cons _ r => r.drop n
theorem DxA.eraseIdx : ∀ {xs : List V} {ds : List PyData} (n : Nat), DxA H xs ds → DxA H (xs.eraseIdx n) (ds.eraseIdx n)
  | _, _, _, .nil => .nil
  | _, _, 0, .cons _ r => r
  | _, _, n + 1, .cons h r => .cons h (r.eraseIdx n)
theorem DxA.ints : ∀ ns : List Int, DxA H (ns.map V.int) (ns.map PyData.int)
  | [] => .nil
  | n :: ns => .cons (.int n) (DxA.ints ns)
theorem DxA.of_ints : ∀ {xs : List V} {ns : List Int}, DxA H xs (ns.map PyData.int) → xs = ns.map V.int
  | _, [], .nil => rfl
  | _, n :: ns, .cons (.int _) r => by rw [DxA.of_ints r]; rfl
theorem Dx.tupE {ds : List PyData} (h : Dx H v (.tuple ds)) : ∃ a xs, v = .ref a ∧ H a = some (.tup xs) ∧ DxA H xs ds := by
  cases h with
  | tup h r => exact ⟨_, _, rfl, h, r⟩
theorem Dx.lstE {ds : List PyData} (h : Dx H v (.list ds)) : ∃ a xs, v = .ref a ∧ H a = some (.lst xs) ∧ DxA H xs ds := by
  cases h with
  | lst h r => exact ⟨_, _, rfl, h, r⟩
theorem Dx.intE {i : Int} (h : Dx H v (.int i)) : v = .int i := by cases h; rfl
theorem Dx.nonE (h : Dx H v .none) : v = .non := by cases h; rfl
theorem Dx.tabE {C : Addr} {n : Int} {d : PyData} (h : Dx H v (.dict [(.int (C : Nat), .int n), (.none, d)])) : ∃ (a dx : Addr) (u p r : V), v = .ref a ∧ SlX.Slt H a C dx [some u, some (.int n), some p, some r] ∧ Dx H r d := by
  generalize hC : ((C : Nat) : Int) = Ci at h
  cases h with
  | @tab a C' dx u p r _ _ h r' =>
    have e : C = C' := Int.ofNat.inj hC
    subst e
    exact ⟨_, _, _, _, _, rfl, h, r'⟩
theorem Dx.blE {b : Bool} (h : Dx H v (.bool b)) : v = .bl b := by cases h; rfl
theorem DxA.mem {x : V} (r : DxA H xs ds) (m : x ∈ xs) : ∃ d ∈ ds, Dx H x d := by
  obtain ⟨i, hi, e⟩ := List.getElem_of_mem m
  obtain ⟨d, e2, h⟩ := r.get (i := i) (x := x) (by rw [← e]; simp [hi])
  exact ⟨d, List.mem_of_getElem? e2, h⟩
end

/-! ### whole numbers, nested -/
mutual
theorem eqv_pure : ∀ (d e : PyData), pure' d = true → pure' e = true → (PyData.eqv d e = true ↔ d = e)
  | .int i, e, _, h => by
    cases e <;> simp [pure'] at h <;> simp [PyData.eqv]
  | .list ds, e, g, h => by
    cases e with
    | list es => simp only [PyData.eqv, PyData.list.injEq]; exact eqv_pureA ds es (by simpa [pure'] using g) (by simpa [pure'] using h)
    | _ => first | (simp [pure'] at h; done) | simp [PyData.eqv]
  | .tuple ds, e, g, h => by
    cases e with
    | tuple es => simp only [PyData.eqv, PyData.tuple.injEq]; exact eqv_pureA ds es (by simpa [pure'] using g) (by simpa [pure'] using h)
    | _ => first | (simp [pure'] at h; done) | simp [PyData.eqv]
  | .none, _, g, _ => by simp [pure'] at g
  | .bool _, _, g, _ => by simp [pure'] at g
  | .str _, _, g, _ => by simp [pure'] at g
  | .dict _, _, g, _ => by simp [pure'] at g
theorem eqv_pureA : ∀ (ds es : List PyData), pureA ds = true → pureA es = true → (PyData.eqvAll ds es = true ↔ ds = es)
  | [], [], _, _ => by simp [PyData.eqvAll]
  | [], _ :: _, _, _ => by simp [PyData.eqvAll]
  | _ :: _, [], _, _ => by simp [PyData.eqvAll]
  | d :: ds, e :: es, g, h => by
    rw [pureA, Bool.and_eq_true] at g h
    simp only [PyData.eqvAll, Bool.and_eq_true, List.cons.injEq]
    rw [eqv_pure d e g.1 h.1, eqv_pureA ds es g.2 h.2]
end
theorem eqv_dec [DecidableEq PyData] {d e : PyData} (g : pure' d = true) (h : pure' e = true) : PyData.eqv d e = decide (d = e) := by
  by_cases q : d = e
  · rw [decide_eq_true q]; exact (eqv_pure d e g h).mpr q
  · rw [decide_eq_false q]
    cases z : PyData.eqv d e with
    | false => rfl
    | true => exact absurd ((eqv_pure d e g h).mp z) q
theorem eqv_true {d e : PyData} (g : pure' d = true) (h : d = e) : PyData.eqv d e = true := by
  subst h
  exact (eqv_pure d d g g).mpr rfl
theorem eqv_false {d e : PyData} (g : pure' d = true) (h : pure' e = true) (n : d ≠ e) : PyData.eqv d e = false := by
  cases z : PyData.eqv d e with
  | false => rfl
  | true => exact absurd ((eqv_pure d e g h).mp z) n
mutual
theorem canLay_pure : ∀ d : PyData, pure' d = true → d.canLay0 = true
  | .int _, _ => by simp [PyData.canLay0]
  | .list ds, g => by rw [PyData.canLay0]; exact canLay_pureA ds (by simpa [pure'] using g)
  | .tuple ds, g => by rw [PyData.canLay0]; exact canLay_pureA ds (by simpa [pure'] using g)
  | .none, g => by simp [pure'] at g
  | .bool _, g => by simp [pure'] at g
  | .str _, g => by simp [pure'] at g
  | .dict _, g => by simp [pure'] at g
theorem canLay_pureA : ∀ ds : List PyData, pureA ds = true → PyData.canLayAll0 ds = true
  | [], _ => by simp [PyData.canLayAll0]
  | d :: ds, g => by
    rw [pureA, Bool.and_eq_true] at g
    rw [PyData.canLayAll0, canLay_pure d g.1, canLay_pureA ds g.2]
    rfl
end
theorem shaped_of {d : PyData} (g : pure' d = true) (h : d.depth ≤ 64) : SeqAt.shaped d = true := by
  show (d.canLay0 && decide (d.depth ≤ 64)) = true
  rw [canLay_pure d g, decide_eq_true h]
  rfl
theorem pureA_map {α : Type} {f : α → PyData} (h : ∀ a, pure' (f a) = true) : ∀ l : List α, pureA (l.map f) = true
  | [] => rfl
  | a :: l => by rw [List.map_cons, pureA, h a, pureA_map h l]; rfl
theorem noLA_map {α : Type} {f : α → PyData} (h : ∀ a, noL (f a) = true) : ∀ l : List α, noLA (l.map f) = true
  | [] => rfl
  | a :: l => by rw [List.map_cons, noLA, h a, noLA_map h l]; rfl
theorem depthA_map {α : Type} {f : α → PyData} {n : Nat} (h : ∀ a, (f a).depth ≤ n) : ∀ l : List α, PyData.depthAll (l.map f) ≤ n
  | [] => by simp [PyData.depthAll]
  | a :: l => by
    rw [List.map_cons, PyData.depthAll]
    have h1 := h a
    have h2 := depthA_map h l
    omega
theorem alikeAll_map {α : Type} {f : α → PyData} (h : ∀ a b, PySem.W.alike (f a) (f b) = true) : ∀ l m : List α, PySem.W.alikeAll (l.map f) (m.map f) = true
  | [], _ => by simp [PySem.W.alikeAll]
  | _ :: _, [] => by simp [PySem.W.alikeAll]
  | a :: l, b :: m => by
    rw [List.map_cons, List.map_cons, PySem.W.alikeAll, h a b, alikeAll_map h l m]
    rfl

/-! ### the law's own data -/
def eC (c : Cell) : PyData := .tuple [.int c.1, .int c.2.1, .int c.2.2]
def eS (cs : List Cell) : PyData := .tuple (cs.map eC)
def eT (T : Trade) : PyData := .tuple [eS T.1, eS T.2]
def eP (p : Int × Int) : PyData := .tuple [.int p.1, .int p.2]
def eRt (r : List Int) : PyData := .tuple (r.map .int)
def eRl (r : List Int) : PyData := .list (r.map .int)
theorem eC_pure (c : Cell) : pure' (eC c) = true := by simp [eC, pure', pureA]
theorem eC_noL (c : Cell) : noL (eC c) = true := by simp [eC, noL, noLA]
theorem eC_depth (c : Cell) : (eC c).depth ≤ 1 := by simp [eC, PyData.depth, PyData.depthAll]
theorem eC_inj {a b : Cell} (h : eC a = eC b) : a = b := by
  simp only [eC, PyData.tuple.injEq, List.cons.injEq, PyData.int.injEq, and_true] at h
  exact cell_ext h.1 h.2.1 h.2.2
theorem eC_alike (a b : Cell) : PySem.W.alike (eC a) (eC b) = true := by simp [eC, PySem.W.alike, PySem.W.alikeAll]
theorem eP_pure (c : Int × Int) : pure' (eP c) = true := by simp [eP, pure', pureA]
theorem eP_noL (c : Int × Int) : noL (eP c) = true := by simp [eP, noL, noLA]
theorem eP_depth (c : Int × Int) : (eP c).depth ≤ 1 := by simp [eP, PyData.depth, PyData.depthAll]
theorem eP_alike (a b : Int × Int) : PySem.W.alike (eP a) (eP b) = true := by simp [eP, PySem.W.alike, PySem.W.alikeAll]
theorem map_inj {α β : Type} {f : α → β} (h : ∀ a b, f a = f b → a = b) : ∀ {l m : List α}, l.map f = m.map f → l = m
  | [], [], _ => rfl
  | [], _ :: _, e => by simp at e
  | _ :: _, [], e => by simp at e
  | a :: l, b :: m, e => by
    simp only [List.map_cons, List.cons.injEq] at e
    rw [h a b e.1, map_inj h e.2]
theorem eS_pure (c : List Cell) : pure' (eS c) = true := by rw [eS, pure']; exact pureA_map eC_pure c
theorem eS_noL (c : List Cell) : noL (eS c) = true := by rw [eS, noL]; exact noLA_map eC_noL c
theorem eS_depth (c : List Cell) : (eS c).depth ≤ 2 := by
  rw [eS, PyData.depth]
  have := depthA_map eC_depth c
  omega
theorem eS_inj {a b : List Cell} (h : eS a = eS b) : a = b := by
  simp only [eS, PyData.tuple.injEq] at h
  exact map_inj (fun _ _ => eC_inj) h
theorem eS_alike (a b : List Cell) : PySem.W.alike (eS a) (eS b) = true := by
  rw [eS, eS, PySem.W.alike]
  exact alikeAll_map eC_alike a b
theorem eT_pure (T : Trade) : pure' (eT T) = true := by simp [eT, pure', pureA, eS_pure]
theorem eT_noL (T : Trade) : noL (eT T) = true := by simp [eT, noL, noLA, eS_noL]
theorem eT_depth (T : Trade) : (eT T).depth ≤ 3 := by
  have h1 := eS_depth T.1
  have h2 := eS_depth T.2
  simp only [eT, PyData.depth, PyData.depthAll]
  omega
theorem eT_inj {a b : Trade} (h : eT a = eT b) : a = b := by
  simp only [eT, PyData.tuple.injEq, List.cons.injEq, and_true] at h
  exact Prod.ext (eS_inj h.1) (eS_inj h.2)
theorem eT_alike (a b : Trade) : PySem.W.alike (eT a) (eT b) = true := by simp [eT, PySem.W.alike, PySem.W.alikeAll, eS_alike]

/-! ### the order of sorted -/
abbrev dLe : PyData → PyData → Bool := PySem.W.dataLe false (fun d => d)
theorem dLe_total (d e : PyData) : dLe d e = true ∨ dLe e d = true := (PySem.W.sortLe_total _ false _).total d e
theorem dLe_trans (a b c : PyData) (h : dLe a b = true) (g : dLe b c = true) : dLe a c = true := (PySem.W.sortLe_total _ false _).trans a b c h g
theorem dLe_eq (a b : PyData) : dLe a b = !PySem.W.dataLt b a := rfl
/-! ### tables -/
def eRows (R : List (List Int)) : PyData := .tuple (R.map eRt)
def eTab (C : Addr) (R : List (List Int)) : PyData := .dict [(.int (C : Nat), .int (R.length : Int)), (.none, eRows R)]
end K40
end

section
set_option Elab.async false
set_option linter.all false
set_option maxRecDepth 100000
set_option maxHeartbeats 2000000
namespace K40
open PySem PySem.Spec PyProof.Rows L2

/-! ### enumerate(tuple) -/
theorem meets_enumerate_newT (l : Addr) (items : Array Value) :
    Meets (Builtin.«enumerate.__new__» ⟨[.type "enumerate", .ref l], []⟩) (fun _ R s => s.heap.IsTuple l items ∧
      R (.ok (.ret (.ref (s.heap.push { cls := .type "tuple_iterator", data := .fields #[.ref l, .int 0 0] }).objs.size)))
        { s with heap := (s.heap.push { cls := .type "tuple_iterator", data := .fields #[.ref l, .int 0 0] }).push { cls := .type "enumerate", data := .fields #[.none, .bool false, .ref s.heap.objs.size, rawInt 0, .none, .none] } }) :=
  .of_wp fun prog w A R s h => by
    obtain ⟨hp, g, d, tk, os⟩ := s; obtain ⟨hl, h⟩ := h
    have hsub := sub_enumerate
    have hL : Heap.IsTuple (Shared.heap ⟨hp, g, d, tk, os⟩) l items := hl
    obtain ⟨o, ho, _⟩ := id hL
    wp_walk using AutoSeq1.wpAny_loadPart' ho
    refine wpAny_stack_any fun st => wpAny_pure ?_
    split
    · rename_i c _ _ _ _ _
      cases (c == Value.type "enumerate")
      · wp_walk using AutoSeq1.wpAny_loadPart' ho, wpAny_pyIter_tuple hL
        exact ⟨_, rfl, h⟩
      · wp_walk using AutoSeq1.wpAny_loadPart' ho, wpAny_pyIter_tuple hL
        exact ⟨_, rfl, h⟩
    · wp_walk using AutoSeq1.wpAny_loadPart' ho, wpAny_pyIter_tuple hL
      exact ⟨_, rfl, h⟩
theorem call_enumerate_tuple {prog : Program} {w : World} {A : Around} {E : Value → Shared → Prop} {s : Shared} {l : Addr} {items : Array Value} {Q : Value → Shared → Prop} (hL : s.heap.IsTuple l items)
    (h : ∀ h', IsEnum h' (s.heap.objs.size + 1) s.heap.objs.size 0 .none → h'.IsTupleIter s.heap.objs.size l 0 → h'.objs.size = s.heap.objs.size + 2 →
      (∀ b o, s.heap.get? b = some o → h'.get? b = some o) → Q (.ref (s.heap.objs.size + 1)) { s with heap := h' }) :
    wpAny (model prog w) A (call (.type "enumerate") [.ref l]) Q E s := by
  refine callType_new F.called_enumerate (by decide) (F.typeCall_enumerate_1 _) (F.newCall_enumerate_1 _) (fun obj => F.args_object_init_2 obj _) F.entry_enumerate_new
    (meets_enumerate_newT l items) ⟨hL, ?_⟩
  have hz : (s.heap.push { cls := .type "tuple_iterator", data := .fields #[.ref l, .int 0 0] }).objs.size = s.heap.objs.size + 1 := Heap.size_push ..
  show _ ∧ _
  rw [hz]
  have he : IsEnum ((s.heap.push { cls := .type "tuple_iterator", data := .fields #[.ref l, .int 0 0] }).push
      { cls := .type "enumerate", data := .fields #[.none, .bool false, .ref s.heap.objs.size, rawInt 0, .none, .none] }) (s.heap.objs.size + 1) s.heap.objs.size 0 .none := by
    have := Heap.get?_push_size (s.heap.push { cls := .type "tuple_iterator", data := .fields #[.ref l, .int 0 0] })
      (o := { cls := .type "enumerate", data := .fields #[.none, .bool false, .ref s.heap.objs.size, rawInt 0, .none, .none] }) rfl
    rw [hz] at this; exact this
  refine ⟨⟨_, he, rfl⟩, h _ he ⟨_, Heap.get?_push_of_some _ (Heap.get?_push_size _ rfl), rfl, rfl⟩ (by rw [Heap.size_push, hz]) fun b o x => Heap.get?_push_of_some _ (Heap.get?_push_of_some _ x)⟩
/-- the tuple at a, each item in a new pair -/
def IteT (K : PySem.W.Frag) (a : Addr) : It :=
  ⟨fun i H => ∃ (xs : List V) (x : V), SqT K H a xs ∧ xs[i]? = some x, fun i H v H' => ∃ T x, v = .ref T ∧ H T = none ∧ H' = upd H T (.tup [.int (i : Nat), x]) ∧ ∀ xs, SqT K H a xs → xs[i]? = some x, fun i H => ∃ xs : List V, SqT K H a xs ∧ xs.length = i⟩
theorem turn_enumT {P : Program} {w : World} {K : PySem.W.Frag} {elts : List Expr} {kk : Nat} {tpos : Pos} (a e it : Addr) :
    Turn P w K (.Tuple elts kk tpos) (IteT K a) [e, it] e (fun i h => (∃ old, IsEnum h e it ((i : Nat) : Int) old) ∧ h.IsTupleIter it a i ∧ e ≠ it ∧ a ≠ it ∧ e ≠ a) where
  mem := by simp
  obj := fun i h st b hb => by
    obtain ⟨⟨old, he⟩, ⟨o, ho, hc, hd⟩, _⟩ := st
    have e' : b = e ∨ b = it := by simpa using hb
    rcases e' with z | z
    · rw [z]; exact ⟨_, he, fun v q => nomatch q⟩
    · rw [z]; exact ⟨o, ho, fun v q => by rw [hd] at q; cases q⟩
  keep := fun i h h' st k => let ⟨⟨old, he⟩, hi, hne⟩ := st; ⟨⟨old, k e (by simp) _ he⟩, hi.at fun o q => k it (by simp) o q, hne⟩
  item := by
    intro X hP hw hK hc i pins s σ H E I hf st hg
    subst hP hw hK
    obtain ⟨⟨old, he⟩, hit, hne, hai, hea⟩ := st
    obtain ⟨xs, x, hq, hx⟩ := hg
    obtain ⟨its, rv, p, hz⟩ := I.tuple hq
    obtain ⟨u, hu, ru⟩ := rv.get hx
    have hel : e < s.heap.objs.size := Heap.lt_size he
    have hil : it < s.heap.objs.size := by obtain ⟨_, q, _⟩ := hit; exact Heap.lt_size q
    have hlt : i < its.toArray.size := by
      have := (List.getElem?_eq_some_iff.mp hu).1
      simpa using this
    refine wpAny_pyNext_enum_itemD (Draws.tuple (A := X.A.in1) (I.ok.hd hc) it a hai its.toArray) he ⟨hit, (show s.heap.IsTuple a its.toArray from p)⟩ hlt hne (by simp; exact ⟨hne, hea⟩) fun u' h' tk hP' ho st' hT hsz hk => ?_
    have eu : u' = u := by
      have q1 : its.toArray[i]? = some u := by simpa using hu
      exact Option.some.inj (hP'.symm.trans q1)
    subst eu
    refine ⟨_, rfl, wpAny_letOwnedTupleGo_enum (s := { s with heap := h', toks := tk + 1 }) ho fun h'' he' sb => ?_⟩
    have hT2 : h''.get? s.heap.objs.size = some { cls := .type "tuple", data := .seq #[.int i tk, u'] } := (sb.2 _ (Nat.ne_of_gt hel)).trans hT
    have new : ObjOk X.prog X.w (upd H s.heap.objs.size (.tup [.int (i : Nat), x])) h'' s.heap.objs.size (.tup [.int (i : Nat), x]) :=
      ⟨by show 2 ≤ sizeLine; decide, [.int i tk, u'], .cons ⟨_, rfl⟩ (.cons ru .nil), ⟨_, hT2, rfl, _, rfl⟩⟩
    have I1 : Inv X pins σ (upd H s.heap.objs.size (.tup [.int (i : Nat), x])) { s with heap := h'', toks := tk + 1 } :=
      I.turnedNew (ch := [e, it]) (fun b ob hb q => (sb.2 b (fun z => hb (by simp [z]))).trans (hk b ob (fun z => hb (by simp [z])) (fun z => hb (by simp [z])) q)) hf (Nat.le_refl _) new
    refine ⟨.ref s.heap.objs.size, _, I1, rfl, ⟨_, x, rfl, I.hok.fresh (Nat.le_refl _), rfl, fun ys hy => by rw [I.tuple_inj hy hq]; exact hx⟩, ⟨⟨u', ?_⟩, st'.1.at fun o q => (sb.2 it (Ne.symm hne)).trans q, hne, hai, hea⟩, fun b hb => ?_⟩
    · have e1 : ((i + 1 : Nat) : Int) = (i : Int) + 1 := by omega
      rw [e1]; exact he'
    · have hb' : b < s.heap.objs.size := by
        have e' : b = e ∨ b = it := by simpa using hb
        rcases e' with z | z
        · rw [z]; exact hel
        · rw [z]; exact hil
      rw [upd_ne (Nat.ne_of_lt hb')]
      exact (hf b hb).1
  done := by
    intro X hP hw hK hc i pins s σ H E I hf st hg
    subst hP hw hK
    obtain ⟨⟨old, he⟩, hit, hne, hai, hea⟩ := st
    obtain ⟨xs, hq, hx⟩ := hg
    obtain ⟨its, rv, p, hz⟩ := I.tuple hq
    obtain ⟨f0, f1, f2, f3, f4, f5⟩ := hf it (by simp)
    have hl := rv.length
    have hn : its.toArray.size = i := by simp; omega
    exact wpAny_pyNext_enum_endD (Draws.tuple (A := X.A.in1) (I.ok.hd hc) it a hai its.toArray) he ⟨by rw [hn]; exact hit, (show s.heap.IsTuple a its.toArray from p)⟩ fun h' eb => ⟨rfl, I.turned (t' := s.toks) (fun b o hb q => eb b o hb q) f0 f1 f3 f4 f5⟩
  self := fun A i s Q E st h => let ⟨⟨_, he⟩, _⟩ := st; wpAny_pyIter_enum he h
def iEnumT (K : PySem.W.Frag) (ta : TA) : TI := fun σ H R => ta σ H fun vs H1 => ∃ a xs, vs = [.ref a] ∧ SqT K H1 a xs ∧ R (IteT K a) H1
theorem pi_enumT {X : Cx} {e : Expr} {ta : TA} {p pos tpos : Pos} {elts : List Expr} {kk : Nat} (hg : Gl X "enumerate") (hm : X.mg "enumerate" = none) (ha : PA X [e] ta) (hs : starEach [e] X.env = [(false, eval e X.env)] := by rfl) :
    PI X (.Tuple elts kk tpos) (.Call (.Name "enumerate" p) [e] [] pos) (iEnumT X.K ta) := by
  refine ⟨fun pins s σ H R I h => ?_⟩
  refine Call_ (ld_blt I hg hm boot_enumerate (PyProof.Rows.callWith_type1 (thn (ha.run pos pins s σ H _ I h) fun us s1 ⟨vs, H1, I1, r1, q1⟩ => ?_) hs rfl))
  obtain ⟨a, xs, ex, hq, q⟩ := q1
  subst ex
  cases r1 with
  | cons r rr =>
    cases rr
    cases r
    obtain ⟨its, rv, p', hz⟩ := I1.tuple hq
    have hal : a < s1.heap.objs.size := by obtain ⟨_, q, _⟩ := id p'; exact Heap.lt_size q
    refine call_enumerate_tuple (show s1.heap.IsTuple a its.toArray from p') fun h' he hit hsz hk => wpAny_pyIter_enum he ?_
    have I2 : Inv X pins σ H1 { s1 with heap := h' } := I1.kept (t' := s1.toks) hk
    refine ⟨s1.heap.objs.size + 1, [s1.heap.objs.size + 1, s1.heap.objs.size], _, _, H1, rfl, I2, turn_enumT a (s1.heap.objs.size + 1) s1.heap.objs.size, ⟨⟨.none, he⟩, hit, Nat.succ_ne_self _, Nat.ne_of_lt hal, Nat.ne_of_gt (Nat.lt_succ_of_lt hal)⟩, fun b hb => ?_, q⟩
    have e' : b = s1.heap.objs.size + 1 ∨ b = s1.heap.objs.size := by simpa using hb
    have hle : s1.heap.objs.size ≤ b := by
      rcases e' with z | z
      · rw [z]; exact Nat.le_add_right _ _
      · rw [z]; exact Nat.le_refl _
    exact I1.fpOk hle (I1.hok.fresh hle)
theorem walk_enumT {K : PySem.W.Frag} {a : Addr} {xs : List V} : Walk (IteT K a) xs.length (fun H => SqT K H a xs) (YPair (fun i => some (.int (i : Nat))) (fun i => xs[i]?)) := by
  refine ⟨fun i _ hi q => ⟨xs, xs[i], q, by simp [hi]⟩, fun _ q => ⟨xs, q, rfl⟩, fun i H v H' _ q y => ?_⟩
  obtain ⟨T, x, h1, h2, h3, h4⟩ := y
  exact ⟨T, .int (i : Nat), x, h1, h2, h3, rfl, h4 xs q⟩

/-! ### zip of two tuples, as a walk -/
theorem walk_zipT {K : PySem.W.Frag} {a b : Addr} {xs ys : List V} {n : Nat} (hn : n = min xs.length ys.length) : Walk (RZ.ItzT K a b) n (fun H => SqT K H a xs ∧ SqT K H b ys) (YPair (fun i => xs[i]?) (fun i => ys[i]?)) := by
  subst hn
  refine ⟨fun i _ hi q => ?_, fun _ q => ⟨xs, ys, q.1, q.2, by omega⟩, fun i H v H' _ q y => ?_⟩
  · have h1 : i < xs.length := by omega
    have h2 : i < ys.length := by omega
    exact ⟨xs, ys, xs[i], ys[i], q.1, q.2, by simp [h1], by simp [h2]⟩
  · obtain ⟨T, x, z, h1, h2, h3, h4, h5⟩ := y
    exact ⟨T, x, z, h1, h2, h3, h4 xs q.1, h5 ys q.2⟩

/-! ### zip(list, tuple) -/
def ItzM (K : PySem.W.Frag) (a b : Addr) : It :=
  ⟨fun i H => ∃ (xs ys : List V) (x y : V), SqL K H a xs ∧ SqT K H b ys ∧ xs[i]? = some x ∧ ys[i]? = some y,
    fun i H v H' => ∃ T x y, v = .ref T ∧ H T = none ∧ H' = upd H T (.tup [x, y]) ∧ (∀ xs, SqL K H a xs → xs[i]? = some x) ∧ ∀ ys, SqT K H b ys → ys[i]? = some y,
    fun i H => ∃ xs ys : List V, SqL K H a xs ∧ SqT K H b ys ∧ (xs.length = i ∧ ys.length = i)⟩
structure MSep (z TI TO i1 i2 a b : Addr) : Prop where
  TIz : TI ≠ z
  TOz : TO ≠ z
  TITO : TI ≠ TO
  TIi1 : TI ≠ i1
  TIi2 : TI ≠ i2
  zi1 : z ≠ i1
  zi2 : z ≠ i2
  TOi1 : TO ≠ i1
  TOi2 : TO ≠ i2
  i12 : i1 ≠ i2
  az : a ≠ z
  aTO : a ≠ TO
  ai1 : a ≠ i1
  ai2 : a ≠ i2
  bz : b ≠ z
  bTO : b ≠ TO
  bi1 : b ≠ i1
  bi2 : b ≠ i2
theorem MSep.sep {z TI TO i1 i2 a b : Addr} (D : MSep z TI TO i1 i2 a b) : ZipSep2 z TI TO i1 i2 [i1, a] [i2, b] where
  TIz := D.TIz
  TOz := D.TOz
  TITO := D.TITO
  TIi1 := D.TIi1
  mem1 := by simp
  zf1 := by simp; exact ⟨D.zi1, Ne.symm D.az⟩
  Tf1 := by simp; exact ⟨D.TOi1, Ne.symm D.aTO⟩
  TIi2 := D.TIi2
  mem2 := by simp
  zf2 := by simp; exact ⟨D.zi2, Ne.symm D.bz⟩
  Tf2 := by simp; exact ⟨D.TOi2, Ne.symm D.bTO⟩
  sep1_2 := by simp; exact ⟨D.i12, Ne.symm D.bi1⟩
  sep2_1 := by simp; exact ⟨Ne.symm D.i12, Ne.symm D.ai2⟩
theorem msep_at (n a b : Nat) (la : a < n) (lb : b < n) : MSep (n + 4) (n + 2) (n + 3) n (n + 1) a b := by
  constructor <;> first | (show (_ : Nat) ≠ _; omega)
theorem turn_zipM {P : Program} {w : World} {K : PySem.W.Frag} {elts : List Expr} {kk : Nat} {tpos : Pos} {a b z TI TO i1 i2 : Addr} (D : MSep z TI TO i1 i2 a b) :
    Turn P w K (.Tuple elts kk tpos) (ItzM K a b) [z, TI, TO, i1, i2] z (fun i h => IsZip h z TI TO .none ∧ IsTupOf2 h TI (.ref i1) (.ref i2) ∧ (∃ x y, IsTupOf2 h TO x y) ∧ h.IsListIter i1 a i ∧ h.IsTupleIter i2 b i) where
  mem := by simp
  obj := fun i h st c hc => by
    obtain ⟨hz, hTI, ⟨x, y, hTO⟩, ⟨o1, e1, _, d1⟩, ⟨o2, e2, _, d2⟩⟩ := st
    have e' : c = z ∨ c = TI ∨ c = TO ∨ c = i1 ∨ c = i2 := by simpa using hc
    rcases e' with q | q | q | q | q
    · rw [q]; exact ⟨_, hz, fun v q => nomatch q⟩
    · rw [q]; exact ⟨_, hTI, fun v q => nomatch q⟩
    · rw [q]; exact ⟨_, hTO, fun v q => nomatch q⟩
    · rw [q]; exact ⟨o1, e1, fun v q => by rw [d1] at q; cases q⟩
    · rw [q]; exact ⟨o2, e2, fun v q => by rw [d2] at q; cases q⟩
  keep := fun i h h' st k => by
    obtain ⟨hz, hTI, ⟨x, y, hTO⟩, h1, h2⟩ := st
    exact ⟨k z (by simp) _ hz, k TI (by simp) _ hTI, ⟨x, y, k TO (by simp) _ hTO⟩, h1.at fun o q => k i1 (by simp) o q, h2.at fun o q => k i2 (by simp) o q⟩
  item := by
    intro X hP hw hK hc i pins s σ H E I hf st hg
    subst hP hw hK
    obtain ⟨hz, hTI, ⟨x0, y0, hTO⟩, h1, h2⟩ := st
    obtain ⟨xs, ys, x, y, hqx, hqy, hx, hy⟩ := hg
    obtain ⟨its, rv, p, _⟩ := I.list hqx
    obtain ⟨its2, rv2, p2, _⟩ := I.tuple hqy
    obtain ⟨u, hu, ru⟩ := rv.get hx
    obtain ⟨u2, hu2, ru2⟩ := rv2.get hy
    have hzl : z < s.heap.objs.size := Heap.lt_size hz
    have hlt1 : i < its.toArray.size := by
      have := (List.getElem?_eq_some_iff.mp hu).1
      simpa using this
    have hlt2 : i < its2.toArray.size := by
      have := (List.getElem?_eq_some_iff.mp hu2).1
      simpa using this
    refine wpAny_pyNext_zipD2_item D.sep (Draws.list (A := X.A.in1) (I.ok.hd hc) i1 a D.ai1 its.toArray) (Draws.tuple (A := X.A.in1) (I.ok.hd hc) i2 b D.bi2 its2.toArray) hz hTI hTO ⟨h1, p.isList⟩ ⟨h2, (show s.heap.IsTuple b its2.toArray from p2)⟩ hlt1 hlt2 fun v1 v2 h' tk e1 e2 z' TO' st1 st2 hT hsz hk => ?_
    have eu : v1 = u := by
      have q1 : its.toArray[i]? = some u := by simpa using hu
      exact Option.some.inj (e1.symm.trans q1)
    have eu2 : v2 = u2 := by
      have q1 : its2.toArray[i]? = some u2 := by simpa using hu2
      exact Option.some.inj (e2.symm.trans q1)
    subst eu eu2
    refine ⟨_, rfl, wpAny_letOwnedTupleGo_zip (s := { s with heap := h', toks := tk }) z' fun h'' z'' sb => ?_⟩
    have hT2 : h''.get? s.heap.objs.size = some { cls := .type "tuple", data := .seq #[v1, v2] } := (sb.2 _ (Nat.ne_of_gt hzl)).trans hT
    have new : ObjOk X.prog X.w (upd H s.heap.objs.size (.tup [x, y])) h'' s.heap.objs.size (.tup [x, y]) :=
      ⟨by show 2 ≤ sizeLine; decide, [v1, v2], .cons ru (.cons ru2 .nil), ⟨_, hT2, rfl, _, rfl⟩⟩
    have I1 : Inv X pins σ (upd H s.heap.objs.size (.tup [x, y])) { s with heap := h'', toks := tk } :=
      I.turnedNew (t' := tk) (ch := [z, TI, TO, i1, i2]) (fun c o hb q => (sb.2 c (fun q' => hb (by simp [q']))).trans (hk c o (fun q' => hb (by simp [q'])) (fun q' => hb (by simp [q'])) (fun q' => hb (by simp [q'])) (fun q' => hb (by simp [q'])) q)) hf (Nat.le_refl _) new
    refine ⟨.ref s.heap.objs.size, _, I1, rfl, ⟨_, x, y, rfl, I.hok.fresh (Nat.le_refl _), rfl, fun l hl => by rw [I.list_inj hl hqx]; exact hx, fun l hl => by rw [I.tuple_inj hl hqy]; exact hy⟩, ⟨z'', ?_, ⟨v1, v2, ?_⟩, ?_, ?_⟩, fun c hcm => ?_⟩
    · exact (sb.2 _ D.TIz).trans (hk _ _ D.TIz D.TITO D.TIi1 D.TIi2 hTI)
    · exact (sb.2 _ D.TOz).trans TO'
    · exact st1.1.at fun o q => (sb.2 _ (Ne.symm D.zi1)).trans q
    · exact st2.1.at fun o q => (sb.2 _ (Ne.symm D.zi2)).trans q
    · have hlt : c < s.heap.objs.size := by
        have e' : c = z ∨ c = TI ∨ c = TO ∨ c = i1 ∨ c = i2 := by simpa using hcm
        rcases e' with q | q | q | q | q
        · rw [q]; exact hzl
        · rw [q]; exact Heap.lt_size hTI
        · rw [q]; exact Heap.lt_size hTO
        · rw [q]; obtain ⟨_, e1, _⟩ := h1; exact Heap.lt_size e1
        · rw [q]; obtain ⟨_, e2, _⟩ := h2; exact Heap.lt_size e2
      rw [upd_ne (Nat.ne_of_lt hlt)]
      exact (hf c hcm).1
  done := by
    intro X hP hw hK hc i pins s σ H E I hf st hg
    subst hP hw hK
    obtain ⟨hz, hTI, ⟨x0, y0, hTO⟩, h1, h2⟩ := st
    obtain ⟨xs, ys, hqx, hqy, l1', l2'⟩ := hg
    obtain ⟨its, rv, p, _⟩ := I.list hqx
    obtain ⟨its2, rv2, p2, _⟩ := I.tuple hqy
    have l1 := rv.length
    have l2 := rv2.length
    exact wpAny_pyNext_zipD2_end D.sep (Draws.list (A := X.A.in1) (I.ok.hd hc) i1 a D.ai1 its.toArray) (Draws.tuple (A := X.A.in1) (I.ok.hd hc) i2 b D.bi2 its2.toArray) hz hTI hTO ⟨h1, p.isList⟩ ⟨h2, (show s.heap.IsTuple b its2.toArray from p2)⟩ (by simp; omega) (by simp; omega) (by simp; omega)
      fun h' tk hk => ⟨rfl, I.turnedL (t' := tk) (ch := [z, TI, TO, i1, i2]) (fun c o hb q => hk c o (fun q' => hb (by simp [q'])) (fun q' => hb (by simp [q'])) (fun q' => hb (by simp [q'])) (fun q' => hb (by simp [q'])) q) hf⟩
  self := fun A i s Q E st h => wpAny_pyIter_zip st.1 h
def iZipM (K : PySem.W.Frag) (ta : TA) : TI := fun σ H R => ta σ H fun vs H1 => ∃ a b xs ys, vs = [.ref a, .ref b] ∧ SqL K H1 a xs ∧ SqT K H1 b ys ∧ R (ItzM K a b) H1
theorem pi_zipM {X : Cx} {e e2 : Expr} {ta : TA} {p pos tpos : Pos} {elts : List Expr} {kk : Nat} (hg : Gl X "zip") (hm : X.mg "zip" = none) (ha : PA X [e, e2] ta)
    (hs : starEach [e, e2] X.env = (false, eval e X.env) :: starEach [e2] X.env := by rfl) (hpl : (backTo pos (starEach [e2] X.env)).any (·.1) = false := by rfl) :
    PI X (.Tuple elts kk tpos) (.Call (.Name "zip" p) [e, e2] [] pos) (iZipM X.K ta) := by
  refine ⟨fun pins s σ H R I h => ?_⟩
  refine Call_ (ld_blt I hg hm PyProof.Rows.boot_zip (PyProof.Rows.callWith_type1 (thn (ha.run pos pins s σ H _ I h) fun us s1 ⟨vs, H1, I1, r1, q1⟩ => ?_) hs hpl))
  obtain ⟨a, b, xs, ys, ex, hqx, hqy, q⟩ := q1
  subst ex
  cases r1 with
  | cons r rr =>
    cases rr with
    | cons r' rr =>
      cases rr
      cases r
      cases r'
      have fresh5 : ∀ c, c ∈ [s1.heap.objs.size + 4, s1.heap.objs.size + 2, s1.heap.objs.size + 3, s1.heap.objs.size, s1.heap.objs.size + 1] → FpOk X pins H1 c := fun c hcm => by
        have e' : c = s1.heap.objs.size + 4 ∨ c = s1.heap.objs.size + 2 ∨ c = s1.heap.objs.size + 3 ∨ c = s1.heap.objs.size ∨ c = s1.heap.objs.size + 1 := by simpa using hcm
        have hle : s1.heap.objs.size ≤ c := by
          rcases e' with z | z | z | z | z
          · rw [z]; exact Nat.le_add_right _ _
          · rw [z]; exact Nat.le_add_right _ _
          · rw [z]; exact Nat.le_add_right _ _
          · rw [z]; exact Nat.le_refl _
          · rw [z]; exact Nat.le_add_right _ _
        exact I1.fpOk hle (I1.hok.fresh hle)
      obtain ⟨its, rv, p1, _⟩ := I1.list hqx
      obtain ⟨its2, rv2, p2, _⟩ := I1.tuple hqy
      have la : a < s1.heap.objs.size := p1.lt
      have lb : b < s1.heap.objs.size := by obtain ⟨_, q, _⟩ := id p2; exact Heap.lt_size q
      refine zip_begins2 (begins_list a its.toArray) (begins_tuple b its2.toArray) p1.isList (show s1.heap.IsTuple b its2.toArray from p2) fun h' hz hTI hTO h1 h2 hsz hk => wpAny_pyIter_zip hz ?_
      have I2 : Inv X pins σ H1 { s1 with heap := h' } := I1.kept (t' := s1.toks) hk
      refine ⟨s1.heap.objs.size + 4, [s1.heap.objs.size + 4, s1.heap.objs.size + 2, s1.heap.objs.size + 3, s1.heap.objs.size, s1.heap.objs.size + 1], _, _, H1, rfl, I2,
        turn_zipM (a := a) (b := b) (z := s1.heap.objs.size + 4) (TI := s1.heap.objs.size + 2) (TO := s1.heap.objs.size + 3) (i1 := s1.heap.objs.size) (i2 := s1.heap.objs.size + 1) ?_, ⟨hz, hTI, ⟨_, _, hTO⟩, ⟨_, h1, rfl, rfl⟩, ⟨_, h2, rfl, rfl⟩⟩, fresh5, q⟩
      exact msep_at _ _ _ la lb
theorem walk_zipM {K : PySem.W.Frag} {a b : Addr} {xs ys : List V} {n : Nat} (h1 : xs.length = n) (h2 : ys.length = n) : Walk (ItzM K a b) n (fun H => SqL K H a xs ∧ SqT K H b ys) (YPair (fun i => xs[i]?) (fun i => ys[i]?)) := by
  subst h1
  refine ⟨fun i _ hi q => ?_, fun _ q => ⟨xs, ys, q.1, q.2, rfl, h2⟩, fun i H v H' _ q y => ?_⟩
  · have h3 : i < ys.length := by omega
    exact ⟨xs, ys, xs[i], ys[i], q.1, q.2, by simp [hi], by simp [h3]⟩
  · obtain ⟨T, x, z, h1, h2, h3, h4, h5⟩ := y
    exact ⟨T, x, z, h1, h2, h3, h4 xs q.1, h5 ys q.2⟩
end K40
end

section
set_option Elab.async false
set_option linter.all false
set_option maxRecDepth 100000
set_option maxHeartbeats 2000000
namespace K40
open PySem PySem.Spec PyProof.Rows L2

/-! ### powers of great numbers -/
def CPowB (i j : Int) : Prop := 0 ≤ j ∧ (Builtin.Int.intBits i : Int) * j ≤ 2 ^ 27
theorem op_powB {X : Cx} : OpR X (binaryOp .Pow) (rI CPowB fun i j => .int (i ^ j.toNat)) := opI fun _ _ _ _ _ _ _ hc q => pow_int hc.1 hc.2 q

/-! ### the order of sorted, for pure data -/
open PySem.W in
theorem toks_inj {d e : PyData} (ha : alike d e = true) (h : keyToks d = keyToks e) : PyData.eqv d e = true := by
  cases z : PyData.eqv d e with
  | true => rfl
  | false =>
    have q := (toks_eqv d e ha).2 z [.inl 0] [.inl 1]
    rw [h, lex_pre] at q
    have e1 : PyProof.Rows.lexLt itemOrd [Sum.inl 0] [Sum.inl 1] = true := by decide
    have e2 : PyProof.Rows.lexLt itemOrd (keyToks e) (keyToks e) = false := (listOrd itemOrd).irrefl (keyToks e)
    rw [e1, e2] at q
    cases q
theorem dLe_anti {d e : PyData} (ha : PySem.W.alike d e = true) (hd : pure' d = true) (he : pure' e = true) (h : dLe d e = true) (g : dLe e d = true) : d = e := by
  refine (eqv_pure d e hd he).mp (toks_inj ha ?_)
  refine (listOrd itemOrd).total _ _ ?_ ?_
  · show PySem.W.dataLt d e = false
    have q : (!PySem.W.dataLt d e) = true := g
    simpa using q
  · show PySem.W.dataLt e d = false
    have q : (!PySem.W.dataLt e d) = true := h
    simpa using q
def tLe (a b : Trade) : Bool := dLe (eT a) (eT b)
theorem tLe_anti (a b : Trade) (h : tLe a b = true) (g : tLe b a = true) : a = b := eT_inj (dLe_anti (eT_alike a b) (eT_pure a) (eT_pure b) h g)
def cLe (a b : Cell) : Bool := dLe (eC a) (eC b)
theorem cLe_anti (a b : Cell) (h : cLe a b = true) (g : cLe b a = true) : a = b := eC_inj (dLe_anti (eC_alike a b) (eC_pure a) (eC_pure b) h g)
theorem eP_inj {a b : Int × Int} (h : eP a = eP b) : a = b := by
  simp only [eP, PyData.tuple.injEq, List.cons.injEq, PyData.int.injEq, and_true] at h
  exact Prod.ext h.1 h.2
/-- sorted of a map: the sorted of what is told -/
theorem merge_map {α : Type} (f : α → PyData) (l : List α) : (l.map f).mergeSort dLe = (l.mergeSort fun a b => dLe (f a) (f b)).map f :=
  (PySem.W.sort_maps (r := fun a b => dLe (f a) (f b)) (s := dLe) f (fun _ _ _ _ => rfl)).symm
theorem merge_pair {α : Type} (f : α → PyData) (l : List α) : (l.mergeSort fun a b => dLe (f a) (f b)).Pairwise fun a b => dLe (f a) (f b) = true :=
  PySem.W.sort_pairwise ⟨fun a b c => dLe_trans (f a) (f b) (f c), fun a b => dLe_total (f a) (f b)⟩ l
theorem cLe_lt (a b : Cell) : cLe a b = !cLt b a := by
  obtain ⟨a1, a2, a3⟩ := a
  obtain ⟨b1, b2, b3⟩ := b
  show (!PySem.W.dataLt (eC (b1, b2, b3)) (eC (a1, a2, a3))) = !cLt (b1, b2, b3) (a1, a2, a3)
  congr 1
  have h : ∀ x y x' y' z z' : Int, PySem.W.dataLt (.tuple [.int x, .int y, .int z]) (.tuple [.int x', .int y', .int z']) = decide (x < x' ∨ (x = x' ∧ (y < y' ∨ (y = y' ∧ z < z')))) := by
    intro x y x' y' z z'
    rw [PySem.W.dataLt_tuple, PySem.W.dataLt_cons rfl, PySem.W.dataLt_cons rfl, PySem.W.dataLt_cons rfl, PySem.W.dataLt_int, PySem.W.dataLt_int, PySem.W.dataLt_int]
    simp only [PyData.eqv, beq_iff_eq]
    have e0 : PyProof.Rows.lexLt itemOrd (PySem.W.keyToksAll []) (PySem.W.keyToksAll []) = false := (listOrd itemOrd).irrefl (PySem.W.keyToksAll [])
    rw [e0]
    by_cases h1 : x = x'
    · subst h1
      rw [if_pos rfl]
      by_cases h2 : y = y'
      · subst h2
        rw [if_pos rfl]
        by_cases h3 : z = z'
        · subst h3
          rw [if_pos rfl]
          symm
          apply decide_eq_false
          omega
        · rw [if_neg h3]
          apply decide_eq_decide.mpr
          omega
      · rw [if_neg h2]
        apply decide_eq_decide.mpr
        omega
    · rw [if_neg h1]
      apply decide_eq_decide.mpr
      omega
  exact h b1 b2 a1 a2 b3 a3
/-- different cells in order are ascending -/
theorem asc_of {l : List Cell} (h : l.Pairwise fun a b => cLe a b = true) (n : l.Nodup) : Asc l := by
  refine List.Pairwise.imp₂ (fun a b q ne => ?_) h n
  show cLt a b = true
  apply Classical.byContradiction
  intro z
  have z' : cLt a b = false := by simpa using z
  exact ne (cLe_anti a b q (by rw [cLe_lt, z']; rfl))
theorem sort_cells (l : List Cell) (n : l.Nodup) : ∃ m : List Cell, (l.map eC).mergeSort dLe = m.map eC ∧ Asc m ∧ ∀ c, c ∈ m ↔ c ∈ l := by
  refine ⟨l.mergeSort cLe, merge_map eC l, asc_of (merge_pair eC l) ?_, fun c => (List.mergeSort_perm l cLe).mem_iff⟩
  exact (List.mergeSort_perm l cLe).nodup_iff.mpr n
theorem sort_trades (l : List Trade) : ∃ m : List Trade, (l.map eT).mergeSort dLe = m.map eT ∧ m.Perm l ∧ m.Pairwise fun a b => tLe a b = true :=
  ⟨l.mergeSort tLe, merge_map eT l, List.mergeSort_perm l tLe, merge_pair eT l⟩
theorem sort_one {l m : List PyData} (h : l.Perm m) (hp : ∀ d ∈ l, pure' d = true) (ha : ∀ d ∈ l, ∀ e ∈ l, PySem.W.alike d e = true) : l.mergeSort dLe = m.mergeSort dLe := by
  have T : PySem.W.TotalLe dLe := ⟨dLe_trans, dLe_total⟩
  have p1 := PySem.W.sort_pairwise T l
  have p2 := PySem.W.sort_pairwise T m
  have q1 := List.mergeSort_perm l dLe
  have q2 := List.mergeSort_perm m dLe
  have pp : (l.mergeSort dLe).Perm (m.mergeSort dLe) := q1.trans (h.trans q2.symm)
  -- antisymmetry on the items
  let le : PyData → PyData → Prop := fun a b => dLe a b = true ∧ a ∈ l ∧ b ∈ l
  refine perm_sorted_eq (le := le) (fun a b h g => dLe_anti (ha a h.2.1 b h.2.2) (hp a h.2.1) (hp b h.2.2) h.1 g.1) pp ?_ ?_
  · exact List.Pairwise.imp_of_mem (fun {a b} ma mb q => ⟨q, q1.mem_iff.mp ma, q1.mem_iff.mp mb⟩) p1
  · exact List.Pairwise.imp_of_mem (fun {a b} ma mb q => ⟨q, h.mem_iff.mpr (q2.mem_iff.mp ma), h.mem_iff.mpr (q2.mem_iff.mp mb)⟩) p2

/-! ### sorted -/
theorem each_of {H : Hp} : ∀ {xs : List V} {us : List Value} {ds : List PyData}, Vals xs us → DxA H xs ds → PySem.W.EachIs (fun u d => ∃ x, RelV x u ∧ Dx H x d) us ds
  | _, _, _, .nil, .nil => .nil
  | _, _, _, .cons r t, .cons h q => .cons ⟨_, r, h⟩ (each_of t q)
theorem of_each {H : Hp} : ∀ {us : List Value} {ds : List PyData}, PySem.W.EachIs (fun u d => ∃ x, RelV x u ∧ Dx H x d) us ds → ∃ xs, Vals xs us ∧ DxA H xs ds
  | _, _, .nil => ⟨[], .nil, .nil⟩
  | _, _, .cons ⟨x, r, h⟩ t => by
    obtain ⟨xs, q1, q2⟩ := of_each t
    exact ⟨x :: xs, .cons r q1, .cons h q2⟩
section
variable {X : Cx}
/-- sorted(v), where v collects to vs -/
theorem sorted_from {pins : List (Addr × Obj)} {s : Shared} {σ : L2.St} {H : Hp} {v : Value} {vs : List Value} {xs : List V} {ds : List PyData} {Q : VK} (I : Inv X pins σ H s)
    (hcol : ∀ R : List Value → Shared → Prop, (∀ h' tk, (∀ b o, s.heap.get? b = some o → h'.get? b = some o) → R vs { s with heap := h', toks := tk }) → wpAny (model X.prog X.w) X.A.in1 (collect v) R X.xe s)
    (rv : Vals xs vs) (hx : DxA H xs ds) (hpu : pureA ds = true) (hal : PySem.W.AllAlike ds) (hk : PySem.W.Sortable ds) (hL : ds.length ≤ sizeLine) (hu : X.A.units + 64 < cLine) (hdep : ∀ d ∈ ds, d.depth ≤ 60)
    (h : ∀ ys p, DxA H ys (ds.mergeSort dLe) → H p = none → Q (.ref p) (upd H p (.lst ys))) :
    wpAny (model X.prog X.w) X.A (call (.builtin "sorted") [v]) (EP X pins σ Q) X.xe s := by
  have hlen : vs.length = ds.length := by rw [← rv.length, hx.length]
  refine Calls.call_function_entry PyProof.Rows.kind_sorted PyProof.Rows.plain_sorted PyProof.Rows.entry_sorted (PyProof.Rows.args_sorted1 _) ?_
  unfold Builtin.«sorted»
  refine wpAny_bind (m := checkCount "sorted" 1 1 _) (wpAny_pure ?_)
  refine wpAny_bind (hcol _ fun h' tk hk' => ?_)
  have I1 : Inv X pins σ H { s with heap := h', toks := tk } := I.kept hk'
  refine wpAny_bind (wpAny_newList ?_ (by rw [hlen]; exact hL))
  have hoL : (h'.push (seqObj "list" vs.toArray 0)).get? h'.objs.size = some (seqObj "list" vs.toArray 0) := Heap.get?_push_size _ rfl
  show wpAny _ _ _ _ _ { s with heap := h'.push (seqObj "list" vs.toArray 0), toks := tk }
  obtain ⟨as, hr⟩ := Dp.readsAll I1 ds xs vs (hx.dp ds xs hpu) rv
  have her : PySem.W.EachIs (fun v b => ∃ as, Reads h' v b as) vs (ds.map fun d => d) → PySem.W.EachIs (fun v b => ∃ as, Reads (h'.push (seqObj "list" vs.toArray 0)) v b as ∧ h'.objs.size ∉ as) vs ds := fun q => by
    rw [List.map_id'] at q
    refine q.mono fun u d ⟨as, r⟩ => ⟨as, PyProof.Rows.Reads.keeps (fun b o e => Heap.get?_push_of_some _ e) r, fun m => ?_⟩
    obtain ⟨o, e⟩ := PyProof.On.reads_mem_get r _ m
    exact absurd (Heap.lt_size e) (Nat.lt_irrefl _)
  have e0 : PySem.W.EachIs (fun v b => ∃ as, Reads h' v b as) vs (ds.map fun d => d) := by
    have z := PySem.W.readsAll_each (h := h') (fun d : PyData => d) (vs := vs) (bs := ds) (as := as) (by rw [List.map_id']; exact hr)
    rw [List.map_id']
    exact z
  refine wpAny_bind (wpAny_holding (PySem.W.list_sort_data (A := X.A.in1) (s := { s with heap := h'.push (seqObj "list" vs.toArray 0), toks := tk }) (enc := fun d => d) hoL (each_of rv hx) (her e0) (by rw [List.map_id']; exact hal) (by rw [List.map_id']; exact hk) hL (fun d m => ?_) fun out ho hout => ?_))
  · have h1 := hdep d m
    show X.A.in1.units + 1 + d.depth < cLine
    have h2 : X.A.in1.units = X.A.units + 1 := rfl
    omega
  · obtain ⟨ys, ry, hy⟩ := of_each hout
    obtain ⟨ep, he'⟩ := PyProof.Rows.sortedHeap_at (vs := vs) (out := out.toArray) hoL
    have hz : ys.length ≤ sizeLine := by
      rw [ry.length, ho]
      exact hL
    refine wpAny_pure ⟨_, rfl, .ref h'.objs.size, upd H h'.objs.size (.lst ys), I1.laid (t' := tk) (fun b u e => ?_) (Nat.le_refl _)
      (show ObjOk X.prog X.w _ _ _ (.lst ys) from ⟨hz, out, ep, ry, he'⟩), rfl, h ys _ hy (I1.hok.fresh (Nat.le_refl _))⟩
    have hb : b < h'.objs.size := Heap.lt_size e
    rw [PyProof.Rows.sortedHeap_old (Nat.ne_of_lt hb) (by rw [size_push']; exact Nat.lt_succ_of_lt hb)]
    exact Heap.get?_push_of_some _ e
/-- sorted(xs), xs a list or a tuple of data -/
def rSortD (K : PySem.W.Frag) : List V → Hp → VK → Prop := fun vs H Q => ∃ (a : Addr) (xs : List V) (ds : List PyData), vs = [.ref a] ∧ (SqL K H a xs ∨ SqT K H a xs) ∧ DxA H xs ds ∧ pureA ds = true ∧ PySem.W.AllAlike ds ∧ PySem.W.Sortable ds ∧ (∀ d ∈ ds, d.depth ≤ 60) ∧
  ∀ ys p, DxA H ys (ds.mergeSort dLe) → H p = none → Q (.ref p) (upd H p (.lst ys))
theorem cr_sortedD (hu : X.A.units + 64 < cLine) : CallR X (.builtin "sorted") (rSortD X.K) := by
  intro pins s σ H vs us Q I r h
  obtain ⟨a, xs, ds, rfl, hs, hx, hpu, hal, hk, hdep, q⟩ := h
  obtain ⟨u, rfl, ru⟩ := r.one
  cases (show u = Value.ref a from ru)
  rcases hs with hs | hs
  · obtain ⟨its, rv, p, hz⟩ := I.list hs
    obtain ⟨o, n, ho, hc, hd, hdt⟩ := p
    refine sorted_from I (vs := its) (fun R hR => ?_) rv hx hpu hal hk (by rw [← hx.length]; exact hz) hu hdep q
    exact wpAny_collect_seq a (.inl rfl) ho hc hdt (fun h' k => by simpa using hR h' s.toks k) (by simpa [← rv.length] using hz)
  · obtain ⟨its, rv, p, hz⟩ := I.tuple hs
    obtain ⟨o, ho, hc, n, hdt⟩ := p
    refine sorted_from I (vs := its) (fun R hR => ?_) rv hx hpu hal hk (by rw [← hx.length]; exact hz) hu hdep q
    exact wpAny_collect_seq a (.inr rfl) ho hc hdt (fun h' k => by simpa using hR h' s.toks k) (by simpa [← rv.length] using hz)
def eK (k : List Key) : PyData := .tuple (k.map fun | .inl i => .int i | .inr x => .str x)
/-- sorted(d), d a dict whose keys are tuples of whole numbers, told by their list -/
def rSortDT : List V → Hp → VK → Prop := fun vs H Q => ∃ (a : Addr) (kvs : List (List Key × V)) (ns : List (List Int)), vs = [.ref a] ∧ H a = some (.dT kvs) ∧ kvs.map (·.1) = ns.map (fun n => n.map Sum.inl) ∧ (∀ n ∈ ns, ∀ m ∈ ns, n.length = m.length ∧ n ≠ []) ∧
  ∀ ys p, DxA H ys ((ns.map fun n => PyData.tuple (n.map PyData.int)).mergeSort dLe) → H p = none → Q (.ref p) (upd H p (.lst ys))
theorem alike_ints : ∀ n m : List Int, PySem.W.alikeAll (n.map PyData.int) (m.map PyData.int) = true := PySem.W.alike_ints
theorem keys_dx {H : Hp} : ∀ {kvs : List (List Key × V)} {xs : List (List Key × Addr × Value)} {ns : List (List Int)}, KT H kvs xs → kvs.map (·.1) = ns.map (fun n => n.map Sum.inl) → DxA H (xs.map fun x => V.ref x.2.1) (ns.map fun n => PyData.tuple (n.map PyData.int))
  | _, _, ns, .nil, e => by
    cases ns with
    | nil => exact .nil
    | cons n ns => cases e
  | _, _, ns, .cons (a := p) (b := q) h t, e => by
    cases ns with
    | nil => cases e
    | cons n ns =>
      simp only [List.map_cons, List.cons.injEq] at e
      refine .cons ?_ (keys_dx t e.2)
      have h2 := h.2.1
      rw [e.1] at h2
      refine .tup h2 ?_
      have q : (n.map Sum.inl).map kV = n.map V.int := by rw [List.map_map]; rfl
      rw [q]
      exact DxA.ints n
theorem cr_sortedDT (hcalm : X.calm = true) (hu : X.A.units + 64 < cLine) : CallR X (.builtin "sorted") rSortDT := by
  intro pins s σ H vs us Q I r h
  obtain ⟨d, kvs, ns, rfl, hd, hks, hn, q⟩ := h
  obtain ⟨u, rfl, ru⟩ := r.one
  cases (show u = Value.ref d from ru)
  obtain ⟨z, hs, ks, pr, o, es, ep, ho, hx, hdt, he, hnd⟩ := (show ObjOk X.prog X.w H s.heap d (.dT kvs) from I.hok d _ hd)
  have l1 : es.size = ks.length := size_of_entries he
  have l2 : kvs.length = ks.length := Paired.length pr
  have l3 : kvs.length = ns.length := by
    have e := congrArg List.length hks
    rw [List.length_map, List.length_map] at e
    exact e
  refine sorted_from I (vs := ks.map fun x => Value.ref x.2.1) (xs := ks.map fun x => V.ref x.2.1) (fun R hR => ?_) ?_ (keys_dx pr hks) (pureA_map (fun n => by rw [pure']; exact pureA_map (fun _ => rfl) n) ns) ?_ ?_ (by rw [List.length_map]; omega) hu ?_ q
  · refine PySem.W.kdu_collect (A := X.A.in1) (kdl_raw hs hx hdt) (I.ok.hd hcalm) ho (by omega) fun h' tk acc hk it => ?_
    have ea : acc.toList = ks.map fun x => Value.ref x.2.1 := by
      have hl : acc.toList.length = ks.length := by rw [Array.length_toList, it.1]; exact l1
      apply List.ext_getElem?
      intro j
      rw [List.getElem?_map]
      cases hj : acc.toList[j]? with
      | none =>
        have h1 := List.getElem?_eq_none_iff.mp hj
        rw [List.getElem?_eq_none (by omega)]
        all_goals rfl
      | some v =>
        obtain ⟨en, hen, hv⟩ := it.2 j v (by rw [← Array.getElem?_toList]; exact hj)
        have qe := entry_at he j
        rw [hen] at qe
        cases hb : ks[j]? with
        | none =>
          rw [hb] at qe
          exact nomatch (show some en = none from qe)
        | some b =>
          rw [hb] at qe
          have e2 : en = entryOfKey (tupleKind (mixKind X.prog X.w)) b := Option.some.inj qe
          rw [hv, e2]
          all_goals rfl
    rw [ea]
    exact hR h' tk hk
  · have : ∀ l : List (List Key × Addr × Value), Vals (l.map fun x => V.ref x.2.1) (l.map fun x => Value.ref x.2.1) := fun l => by
      induction l with
      | nil => exact .nil
      | cons a l ih => exact .cons rfl ih
    exact this ks
  · intro a ma b mb
    obtain ⟨n, _, rfl⟩ := List.mem_map.mp ma
    obtain ⟨m, _, rfl⟩ := List.mem_map.mp mb
    rw [PySem.W.alike]
    exact alike_ints n m
  · refine .inl fun a ma => ?_
    obtain ⟨n, mn, rfl⟩ := List.mem_map.mp ma
    cases n with
    | nil => exact absurd rfl (hn [] mn [] mn).2
    | cons i n => exact ⟨_, _, rfl⟩
  · intro a ma
    obtain ⟨n, _, rfl⟩ := List.mem_map.mp ma
    rw [PyData.depth, PySem.W.depth_ints]
    omega
end
end K40
end

section
set_option Elab.async false
set_option linter.all false
set_option maxRecDepth 100000
set_option maxHeartbeats 2000000
namespace K40
open PySem PySem.Spec PyProof.Rows L2
section
variable {X : Cx}
/-! ### x in t, t a tuple of data -/
def rInT (K : PySem.W.Frag) : R2 := fun x y H Q => ∃ d ds, Dp K H x d ∧ Dp K H y (.tuple ds) ∧ SeqAt.shaped d = true ∧ SeqAt.shaped (.tuple ds) = true ∧ Q (.bl (ds.any fun z => PyData.eqv z d)) H
theorem op_inT (hu : X.A.units + 65 < cLine) : OpR X (compareOp .In) (rInT X.K) := by
  intro pins s σ H x y v u Q I rx ry ⟨d, ds, hd, he, sd, se, q⟩
  obtain ⟨as, r1⟩ := Dp.reads I d x v hd rx
  obtain ⟨bs, r2⟩ := Dp.reads I (.tuple ds) y u he ry
  exact SeqAt.in_tuple_reads r2 r1 (by simpa [PyData.canLay0] using SeqAt.canLay_of_shaped se) (SeqAt.canLay_of_shaped sd) (room_in_shaped sd hu) ⟨.bl _, H, I, rfl, q⟩

/-! ### dict comprehensions, the keys of either kind -/
theorem dictSet_put {A : Around} {pins : List (Addr × Obj)} {σ : L2.St} {H H' : Hp} {s : Shared} {E : Value → Shared → Prop} {a : Addr} {y v : V} {u r : Value} {Q : Unit → Shared → Prop} (hu : A.units + 1 < cLine) (I : Inv X pins σ H s) (g : DPut H a y v H') (ry : RelV y u) (rv : RelV v r)
    (h : ∀ s', Inv X pins σ H' s' → Q () s') : wpAny (model X.prog X.w) A (dictSet a u r) Q E s := by
  rcases g with ⟨kvs, k, e, rfl, l, rfl⟩ | ⟨kvs, k, b, e, rfl, eb, l, rfl⟩
  · obtain ⟨_, hd, vs, rel, dd⟩ := dk_of I.hok e
    have lv : vs.length = kvs.length := rel.length.symm
    refine wpAny_dictSet_pairs (hsz := by omega) (kV_is ry) dd fun h' dd' sb => h _ (d_write I (by rw [e]; trivial) sb ?_ (dk_new ?_ hd (rel.put k rv) dd'))
    · obtain ⟨q, _, _, hq, _⟩ := dd'
      exact ⟨q, hq⟩
    · have := length_putK kvs k v
      omega
  · cases (show u = Value.ref b from ry)
    obtain ⟨_, hd, xs, rel, dd⟩ := dt_of I.hok e
    have lv : kvs.length = xs.length := Paired.length rel
    refine wpAny_dictSet_heap (hsz := by omega) (show A.units < cLine by omega) (key_of I.hok eb) dd fun h' dd' sb => h _ ?_
    obtain ⟨q, es, ep, hq, h2, h3, h4, _, h5⟩ := dd'
    refine d_write I (by rw [e]; trivial) sb ⟨q, hq⟩ ⟨?_, hd, _, (rel.put k eb rv).keeps fun c ys ec => ?_, q, es, ep, hq, h2, h3, h4, h5⟩
    · have := length_putK kvs k v
      omega
    · exact (upd_ne (ne_of ec e (fun z => nomatch z))).trans ec
/-- {k: v for target in iter if ..}: o0 the empty dict of either kind -/
def tDg (o0 : HO) (wi : TI) (g : TG) (tt : TT) (tk tv : TE) (vs : List Nat) : TE := fun σ H Q => wi σ H fun J H1 => ∀ D, H1 D = none → ∃ W : Nat → Nat → Hp → Prop, (∃ m, W 0 m (upd H1 D o0)) ∧ ∀ i m H, W i m H →
  (J.stop i H ∧ Q (.ref D) H) ∨ (J.go i H ∧ ∃ Nx : Hp → Prop, (∀ H', Nx H' → ∃ m', m' < m ∧ W (i + 1) m' H') ∧ ∀ x H', J.yld i H x H' → g x (wipe σ vs) H' fun σ2 H2 => wipe σ2 vs = wipe σ vs ∧ tt σ2 H2 fun b H3 =>
    if b = true then tk σ2 H3 fun y H4 => tv σ2 H4 fun z H5 => ∃ H6, DPut H5 D y z H6 ∧ Nx H6 else Nx H3)
theorem pe_dg {o0 : HO} {kx vx tg iter : Expr} {ifs : List Expr} {scope : Scope} {own : List (Str × Nat)} {pos : Pos} {wi : TI} {g : TG} {tt : TT} {tk tv : TE} (h0 : o0 = .dK [] ∨ o0 = .dT []) (hu : X.A.units + 1 < cLine) (hc : X.calm = true) (hN : X.N.Nodup) (hi : PI X tg iter wi) (ok : BlkOk X.N X.env.scope scope own)
    (hg : ∀ (s : Shared) (H : Hp) (C : Addr) (cl : List (Str × Addr)) (fp : List Addr), PG (X.blk s H scope (compEnvC scope cl C X.env) fp) tg g) (ht : ∀ (s : Shared) (H : Hp) (C : Addr) (cl : List (Str × Addr)) (fp : List Addr), PTs (X.blk s H scope (compEnvC scope cl C X.env) fp) ifs tt)
    (hk : ∀ (s : Shared) (H : Hp) (C : Addr) (cl : List (Str × Addr)) (fp : List Addr), PE (X.blk s H scope (compEnvC scope cl C X.env) fp) kx tk)
    (he : ∀ (s : Shared) (H : Hp) (C : Addr) (cl : List (Str × Addr)) (fp : List Addr), PE (X.blk s H scope (compEnvC scope cl C X.env) fp) vx tv) (hs : ∀ x, foldedSetIterable iter X.env x = pure x := by intro _; rfl) :
    PE X (.DictComp kx vx [⟨tg, iter, ifs, 0⟩] scope pos) (tDg o0 wi g tt tk tv (own.map (·.2))) := by
  refine ⟨fun pins s σ H Q I hw => ?_⟩
  rw [arm_eval_DictComp]
  have fr : ∀ y ∈ scope.names, y.2 = .free → ∃ c, X.env.cells.lookup y.1 = some c := fun y hy e => (ok.free y hy e).elim (fun k => I.ok.has _ (.inl k)) fun k => I.ok.has _ (.inr k)
  refine wpAny_comprehension_free (use := none) rfl hs (closure_ok fr) ok.kind (fun y hy e => by rw [ok.uniq y hy, e]) (thn (hi.run pins s σ H _ I hw) fun _ _ z => thn z fun itv s2 z2 => ?_)
  obtain ⟨it, fp, tn, J, H2, rfl, I2, T, st2, f2, q⟩ := z2
  refine wpAny_newObj_type (newEnv_comp ?_)
  have D0 : H2 s2.heap.objs.size = none := I2.hok.fresh (Nat.le_refl _)
  obtain ⟨W, ⟨m0, w0⟩, turn⟩ := q _ D0
  generalize hsA : ({ s2 with heap := s2.heap.push { cls := .type "dict", data := .dict #[] } } : Shared) = sA
  have hA : sA.heap = s2.heap.push { cls := .type "dict", data := .dict #[] } := by rw [← hsA]
  have IA : Inv X pins σ (upd H2 s2.heap.objs.size o0) sA := by
    rw [← hsA]
    refine I2.laid (t' := s2.toks) (fun _ _ e => Heap.get?_push_of_some _ e) (Nat.le_refl _) ?_
    rcases h0 with rfl | rfl
    · exact dk_empty s2.heap I2.big
    · exact dt_empty s2.heap I2.big
  have old : ∀ b ∈ fp, b < s2.heap.objs.size := fun b hb => by
    obtain ⟨o, e, _⟩ := T.obj _ _ st2 b hb
    exact Heap.lt_size e
  generalize hHA : upd H2 s2.heap.objs.size o0 = HA at IA w0
  have okA : ∀ b ∈ fp, FpOk X pins HA b ∧ b < sA.heap.objs.size := fun b hb => by
    have hlt := old b hb
    refine ⟨⟨?_, (f2 b hb).2⟩, by rw [hA, Heap.size_push]; exact Nat.lt_succ_of_lt hlt⟩
    rw [← hHA, upd_ne (Nat.ne_of_lt hlt)]
    exact (f2 b hb).1
  have stA : tn 0 sA.heap := T.keep _ _ _ st2 fun b _ o e => by rw [hA]; exact Heap.get?_push_of_some _ e
  have IB := block_start IA ok hN okA
  have gA := hg sA HA sA.heap.objs.size (cellsFrom (sA.heap.objs.size + 1) scope.names (cloFrom X.env.cells scope.names [])) fp
  have tA := ht sA HA sA.heap.objs.size (cellsFrom (sA.heap.objs.size + 1) scope.names (cloFrom X.env.cells scope.names [])) fp
  have kA := hk sA HA sA.heap.objs.size (cellsFrom (sA.heap.objs.size + 1) scope.names (cloFrom X.env.cells scope.names [])) fp
  have vA := he sA HA sA.heap.objs.size (cellsFrom (sA.heap.objs.size + 1) scope.names (cloFrom X.env.cells scope.names [])) fp
  show codeAny _ _ (.compStart (.DictComp kx vx [⟨tg, iter, ifs, 0⟩] scope pos) 0 (.ref it) (.ref s2.heap.objs.size) (compEnvC scope (cellsFrom (sA.heap.objs.size + 1) scope.names (cloFrom X.env.cells scope.names [])) sA.heap.objs.size X.env))
    (compPost (model X.prog X.w) X.A X.xe none (EP X pins σ Q) (.ref s2.heap.objs.size) sA.heap.objs.size) { sA with heap := pushCells (sA.heap.push { cls := .type "dict", data := .dict #[] }) scope.names }
  generalize hce : compEnvC scope (cellsFrom (sA.heap.objs.size + 1) scope.names (cloFrom X.env.cells scope.names [])) sA.heap.objs.size X.env = ce at IB gA tA kA vA ⊢
  have cL : ce.locals = sA.heap.objs.size := by rw [← hce]; rfl
  generalize hsB : ({ sA with heap := pushCells (sA.heap.push { cls := .type "dict", data := .dict #[] }) scope.names } : Shared) = sB at IB ⊢
  have stB : tn 0 sB.heap := T.keep _ _ _ stA fun b _ o e => by rw [← hsB]; exact pushCells_keeps _ _ _ _ (Heap.get?_push_of_some _ e)
  have live : ∀ {σ' : L2.St} {H' : Hp} {s' : Shared}, Inv (X.blk sA HA scope ce fp) [] σ' H' s' → (∀ b ∈ fp, H' b = none) → ∀ b ∈ fp, FpOk (X.blk sA HA scope ce fp) [] H' b := fun I' hn b hb =>
    ⟨hn b hb, (I'.ok.exf b hb).1, I'.ok.exfs b hb, .inl hb, fun x c e => (I'.ok.exf b hb).2 x c e, fun p hp => absurd (show p ∈ ([] : List (Addr × Obj)) ++ [] from hp) (by simp)⟩
  have loop : codeAny (model X.prog X.w) X.A (.compLoop (.DictComp kx vx [⟨tg, iter, ifs, 0⟩] scope pos) 0 (.ref it) (.ref s2.heap.objs.size) ce) (compPost (model X.prog X.w) X.A X.xe none (EP X pins σ Q) (.ref s2.heap.objs.size) sA.heap.objs.size) sB := ?_
  · exact codeAny_compStart_dict loop (T.self X.A 0 _ _ _ stB loop)
  refine compLoop_anyD (fun n s' => ∃ i H', Inv (X.blk sA HA scope ce fp) [] (wipe σ (own.map (·.2))) H' s' ∧ tn i s'.heap ∧ (∀ b ∈ fp, H' b = none) ∧ W i n H') ?_ m0 ⟨0, HA, IB, stB, fun b hb => (okA b hb).1.1, w0⟩
  rintro n s5 ⟨i, H5, I5, st5, n5, w5⟩
  rcases turn i n H5 w5 with ⟨stop, qq⟩ | ⟨go, Nx, hNx, step⟩
  · refine thnF (T.done (X.blk sA HA scope ce fp) rfl rfl rfl hc i [] s5 _ H5 (fun _ _ => False) I5 (live I5 n5) st5 stop) fun r s6 ⟨hr, I6⟩ => ?_
    subst hr
    have I7 : Inv X pins σ H5 s6 := IA.call' (ch := fp) I6.os I6.base I6.hok I6.bare fun b hb => ⟨(okA b hb).1.2.2.2.1, (okA b hb).1.2.1, (okA b hb).1.2.2.2.2.1, (okA b hb).1.2.2.2.2.2⟩
    have nC : H5 sA.heap.objs.size = none := by
      rw [← cL]
      exact I6.free
    obtain ⟨m, hn, _⟩ := I6.loc
    have hn : s6.heap.Ns ce.locals m := hn
    rw [cL] at hn
    obtain ⟨f0, f1, f2, f3, f4, f5⟩ := IA.fpOk (Nat.le_refl _) nC
    exact ⟨m, hn, fun h'' sb => ⟨.ref s2.heap.objs.size, H5, I7.turned (t' := s6.toks) (fun b o hb e => (sb.2 b hb).trans e) f0 f1 f3 f4 f5, rfl, qq⟩⟩
  · refine thnF (T.item (X.blk sA HA scope ce fp) rfl rfl rfl hc i [] s5 _ H5 (fun _ _ => False) I5 (live I5 n5) st5 go) fun r s6 ⟨u, hr, z6⟩ => ?_
    subst hr
    refine thnF z6 fun _ s7 ⟨x, H7, I7, r7, y7, st7, n7⟩ => ?_
    refine thnF (gA.run _ s7 _ H7 x u _ (I7.pinned (live I7 n7) (T.obj _ _ st7)) r7 (step x H7 y7)) fun _ s8 ⟨σ8, H8, I8, hw8, q8⟩ => ?_
    refine thnF (tA.run _ s8 σ8 H8 _ I8 q8) fun b s9 ⟨H9, I9, q9⟩ => ?_
    have fin : ∀ {s' : Shared} {H' : Hp}, Inv (X.blk sA HA scope ce fp) ([] ++ pinsAt fp s7.heap) σ8 H' s' → Nx H' → ∃ m, m < n ∧ ∃ i H', Inv (X.blk sA HA scope ce fp) [] (wipe σ (own.map (·.2))) H' s' ∧ tn i s'.heap ∧ (∀ b ∈ fp, H' b = none) ∧ W i m H' := fun {s' H'} I' nx => by
      obtain ⟨m', hm, w'⟩ := hNx H' nx
      have pin : ∀ b ∈ fp, ∀ o, s7.heap.get? b = some o → s'.heap.get? b = some o ∧ H' b = none := fun b hb o e =>
        (fun z => ⟨z.1, z.2.1⟩) (I'.pin (b, o) (List.mem_append_right _ (List.mem_append_right _ (mem_pinsAt hb e))))
      refine ⟨m', hm, i + 1, H', (I'.unpinned (pins := [])).weak (by rw [← hw8, wipe_length]) (fun j v e => ?_), T.keep _ _ _ st7 fun b hb o e => (pin b hb o e).1, fun b hb => ?_, w'⟩
      · rw [← hw8] at e
        exact (wipe_some e).1
      · obtain ⟨o, e, _⟩ := T.obj _ _ st7 b hb
        exact (pin b hb o e).2
    cases b with
    | false =>
      rw [if_neg Bool.false_ne_true] at q9 ⊢
      exact fin I9 q9
    | true =>
      rw [if_pos rfl] at q9 ⊢
      refine thnF (kA.run _ s9 σ8 H9 _ I9 q9) fun z s10 ⟨yk, H10, I10, r10, q10⟩ => ?_
      refine thnF (vA.run _ s10 σ8 H10 _ I10 q10) fun z2 s11 ⟨yv, H11, I11, r11, H12, put, nx⟩ => ?_
      exact dictSet_put (X := X.blk sA HA scope ce fp) hu I11 put r10 r11 fun s12 I12 => fin I12 nx
/-- over any walk -/
theorem dg_it {J : It} {n : Nat} {G : Hp → Prop} {Y : Nat → Hp → V → Hp → Prop} (w : Walk J n G Y) {o0 : HO} {g : TG} {tt : TT} {tk tv : TE} {vs : List Nat} {σ : L2.St} {H1 : Hp} {D : Addr} {Qd : Hp → Prop} (Pv : Nat → Hp → Prop) (h0 : Pv 0 (upd H1 D o0)) (hG : ∀ i H, i ≤ n → Pv i H → G H)
    (hs : ∀ i x H H', i < n → Pv i H → Y i H x H' → g x (wipe σ vs) H' fun σ2 H2 => wipe σ2 vs = wipe σ vs ∧ tt σ2 H2 fun b H3 =>
      if b = true then tk σ2 H3 fun y H4 => tv σ2 H4 fun z H5 => ∃ H6, DPut H5 D y z H6 ∧ Pv (i + 1) H6 else Pv (i + 1) H3) (hd : ∀ H, Pv n H → Qd H) :
    ∃ W : Nat → Nat → Hp → Prop, (∃ m, W 0 m (upd H1 D o0)) ∧ ∀ i m H, W i m H →
      (J.stop i H ∧ Qd H) ∨ (J.go i H ∧ ∃ Nx : Hp → Prop, (∀ H', Nx H' → ∃ m', m' < m ∧ W (i + 1) m' H') ∧ ∀ x H', J.yld i H x H' → g x (wipe σ vs) H' fun σ2 H2 => wipe σ2 vs = wipe σ vs ∧ tt σ2 H2 fun b H3 =>
        if b = true then tk σ2 H3 fun y H4 => tv σ2 H4 fun z H5 => ∃ H6, DPut H5 D y z H6 ∧ Nx H6 else Nx H3) := by
  refine ⟨fun i m H => m + i = n ∧ Pv i H, ⟨n, rfl, h0⟩, fun i m H ⟨e, p⟩ => ?_⟩
  have q := hG i H (by omega) p
  cases m with
  | zero =>
    have e2 : i = n := by omega
    subst e2
    exact .inl ⟨w.stops H q, hd H p⟩
  | succ m => exact .inr ⟨w.goes i H (by omega) q, Pv (i + 1), fun H' p' => ⟨m, Nat.lt_succ_self m, by omega, p'⟩, fun x H' y => hs i x H H' (by omega) p (w.yields i H x H' (by omega) q y)⟩

/-! ### {k: v}, k a tuple -/
def tDisp1 (tk tv : TE) : TE := fun σ H Q => ∀ p, H p = none → tk σ (upd H p (.dT [])) fun y H2 => tv σ H2 fun z H3 => ∃ b k, y = .ref b ∧ H3 b = some (.tup (k.map kV)) ∧ H3 p = some (.dT []) ∧ Q (.ref p) (upd H3 p (.dT [(k, z)]))
theorem pe_disp1 {pos : Pos} {ke ve : Expr} {tk tv : TE} (hu : X.A.units + 1 < cLine) (hk : PE X ke tk) (hv : PE X ve tv) : PE X (.Dict [some ke] [ve] pos) (tDisp1 tk tv) := by
  refine ⟨fun pins s σ H Q I h => ?_⟩
  have n0 := I.hok.fresh (Nat.le_refl s.heap.objs.size)
  have I1 := I.laid (a := s.heap.objs.size) (o := .dT []) (h' := s.heap.push { cls := .type "dict", data := .dict #[] }) (t' := s.toks) (fun _ _ q => Heap.get?_push_of_some _ q) (Nat.le_refl _) (dt_empty s.heap I.big)
  rw [arm_eval_Dict]
  rw [show (evalEachOpt [some ke] X.env).zip ((evalEach [ve] X.env).map fun (v : Sem Value) => (do let x ← v; standAt pos; pure x : Sem Value)) = [((eval ke X.env), (do let x ← eval ve X.env; standAt pos; pure x : Sem Value))].map fun p => (some p.1, p.2) from rfl, dictDisplay_pairs _ (by simp) (by show 1 < 17; decide)]
  refine wpAny_bind (wpAny_standAt (wpAny_bind (wpAny_subDictH (knd := tupleKind (mixKind X.prog X.w)) (Q := fun d s' => wpAny (model X.prog X.w) X.A (pure (Value.ref d)) (EP X pins σ Q) X.xe s') (show X.A.units < cLine by omega) (by show 1 ≤ 15; decide) ?_)))
  refine (show wpAny (model X.prog X.w) X.A (evalPairs (pairTrees [some ke] [ve] X.env pos)) _ X.xe _ from ?_)
  refine pairTrees_cons_walk (thn (hk.run pins _ σ _ _ I1 (h _ n0)) fun u s1 ⟨y, H1, J1, ry, q1⟩ => thn (hv.run pins s1 σ H1 _ J1 q1) fun w2 s2 ⟨z, H2, J2, rz, b, k, ey, eb, ep, q2⟩ => pairTrees_nil_walk ?_)
  subst ey
  cases (show u = Value.ref b from ry)
  obtain ⟨_, hd, xs, rel, dd⟩ := dt_of J2.hok ep
  cases rel
  refine ⟨[(k, b, w2)], ⟨rfl, rfl, key_of J2.hok eb, trivial⟩, dd, fun h' tk hm sb => wpAny_pure ?_⟩
  have rel : KT H2 [(k, z)] [(k, b, w2)] := .cons ⟨rfl, eb, rz⟩ .nil
  obtain ⟨q, es, ep', hq, h2, h3, h4, h5, h6⟩ := (show h'.DictOfH (tupleKind (mixKind X.prog X.w)) s.heap.objs.size [(k, b, w2)] from hm)
  refine ⟨.ref s.heap.objs.size, _, d_write (ob := .dT [(k, z)]) J2 (by rw [ep]; trivial) sb ⟨q, hq⟩ ⟨by show 1 ≤ sizeLine; decide, hd, _, rel.keeps fun c ys ec => ?_, q, es, ep', hq, h2, h3, h4, h6⟩, rfl, q2⟩
  exact (upd_ne (ne_of ec ep (fun z => nomatch z))).trans ec

/-! ### d.update(e), both with keys that are tuples -/
def mergeT (kvs more : List (List Key × V)) : List (List Key × V) := more.foldl (fun acc kv => putK acc kv.1 kv.2) kvs
theorem KT.merge {H : Hp} : ∀ {more : List (List Key × V)} {rs : List (List Key × Addr × Value)} {kvs : List (List Key × V)} {vs : List (List Key × Addr × Value)}, KT H more rs → KT H kvs vs → KT H (mergeT kvs more) (storedAllH vs rs)
  | _, _, _, _, .nil, q => q
  | _, _, _, _, .cons (a := p) (b := q) (l₁ := ps) (l₂ := qs) h t, r0 => by
    have e := r0.put p.1 h.2.1 h.2.2
    have e2 := KT.merge t e
    rw [h.1] at e2
    show KT H (mergeT (putK _ p.1 p.2) ps) (storedAllH _ qs)
    rw [h.1]
    exact e2
theorem length_mergeT : ∀ (more kvs : List (List Key × V)), (mergeT kvs more).length ≤ kvs.length + more.length
  | [], kvs => Nat.le_refl _
  | p :: r, kvs => by
    have h1 := length_mergeT r (putK kvs p.1 p.2)
    have h2 := length_putK kvs p.1 p.2
    show (mergeT (putK kvs p.1 p.2) r).length ≤ _
    rw [List.length_cons]
    omega
def rUpdT : V → List V → Hp → VK → Prop := fun x xs H Q => ∃ (a b : Addr) (kvs more : List (List Key × V)), x = .ref a ∧ xs = [.ref b] ∧ a ≠ b ∧ H a = some (.dT kvs) ∧ H b = some (.dT more) ∧ kvs.length + more.length ≤ sizeLine ∧
  (∀ (P : Program) (w : World), kvs ≠ [] ∨ (more.map fun p => tupleKeyHash (mixKind P w) p.1).Nodup) ∧ Q .non (upd H a (.dT (mergeT kvs more)))
theorem mt_updT (hu : X.A.units + 1 < cLine) : MtR X "dict.update" rUpdT := by
  intro pins s σ H x xs v us Q I rx rxs ⟨a, b, kvs, more, ex, exs, ne, ha, hb, hz, hh, q⟩
  subst ex exs
  obtain ⟨u, rfl, ru⟩ := rxs.one
  cases (show v = Value.ref a from rx)
  cases (show u = Value.ref b from ru)
  obtain ⟨_, hda, ya, ra, da⟩ := dt_of I.hok ha
  obtain ⟨_, hdb, yb, rb, db⟩ := dt_of I.hok hb
  have la : kvs.length = ya.length := Paired.length ra
  have lb : more.length = yb.length := Paired.length rb
  have keys : ∀ {H : Hp} {l : List (List Key × V)} {m : List (List Key × Addr × Value)}, KT H l m → l.map (fun p => tupleKeyHash (mixKind X.prog X.w) p.1) = m.map fun p => tupleKeyHash (mixKind X.prog X.w) p.1 := fun {H l m} r => by
    induction r with
    | nil => rfl
    | cons h t ih => rw [List.map_cons, List.map_cons, ih, h.1]
  refine PySem.call_update_dictH (knd := tupleKind (mixKind X.prog X.w)) (tupleKind_room_in1 hu) ne hdb da db ?_ (by omega) fun h' da' db' sb => ?_
  · rcases hh X.prog X.w with z | z
    · refine .inl fun e => z ?_
      subst e
      cases ra
      rfl
    · refine .inr ⟨keyed_apart tupleKind_stays db, ?_⟩
      have e := keys rb
      rw [e] at z
      exact z
  · obtain ⟨o, es, ep, hq, h2, h3, h4, _, h5⟩ := da'
    have z := length_mergeT more kvs
    refine ⟨.non, _, d_write (ob := .dT (mergeT kvs more)) I (by rw [ha]; trivial) sb ⟨o, hq⟩ ⟨by omega, hda, _, (KT.merge rb ra).keeps fun c ys ec => ?_, o, es, ep, hq, h2, h3, h4, h5⟩, rfl, q⟩
    exact (upd_ne (ne_of ec ha (fun z => nomatch z))).trans ec
end
end K40
end

section
set_option Elab.async false
set_option linter.all false
set_option maxRecDepth 100000
set_option maxHeartbeats 2000000
namespace K40
open PySem PySem.Spec PyProof.Rows L2

/-! ### what an expression evaluates to: data, all that stood stands -/
theorem same_new {H : Hp} {p : Addr} {o : HO} (h : H p = none) : Same H (upd H p o) := fun b x e => by
  rw [upd_ne (ne_of_none e h)]
  exact e
theorem same_mut {H H' : Hp} {p : Addr} {o : HO} (s : Same H H') (h : H p = none) : Same H (upd H' p o) := fun b x e => by
  rw [upd_ne (ne_of_none e h)]
  exact s b x e
theorem tsame_mut {H : Hp} {p : Addr} {o u : HO} (h : H p = some u) (hu : ∀ xs, u ≠ .tup xs) : TSame H (upd H p o) := fun a xs e => by
  rw [upd_ne (ne_of e h fun z => hu xs z.symm)]
  exact e
theorem TSame.trans {H H1 H2 : Hp} (a : TSame H H1) (b : TSame H1 H2) : TSame H H2 := fun c xs h => b c xs (a c xs h)

def EvP (te : TE) (σ : L2.St) (H : Hp) (P : V → Hp → Prop) : Prop := ∀ H1, Same H H1 → ∀ Q : VK, (∀ v H2, Same H1 H2 → P v H2 → Q v H2) → te σ H1 Q
abbrev EvD (te : TE) (σ : L2.St) (H : Hp) (d : PyData) : Prop := EvP te σ H fun v H2 => Dx H2 v d
def EvA (ta : TA) (σ : L2.St) (H : Hp) (ds : List PyData) : Prop := ∀ H1, Same H H1 → ∀ Q : List V → Hp → Prop, (∀ vs H2, Same H1 H2 → DxA H2 vs ds → Q vs H2) → ta σ H1 Q
def EvT (tt : TT) (σ : L2.St) (H : Hp) (b : Bool) : Prop := ∀ H1, Same H H1 → ∀ Q : Bool → Hp → Prop, (∀ H2, Same H1 H2 → Q b H2) → tt σ H1 Q
section
variable {K : PySem.W.Frag} {σ : L2.St} {H H' : Hp} {ta tb tc te : TE} {t u : TT} {v : V} {d e : PyData} {ds : List PyData} {r r' : R2} {P P' : V → Hp → Prop}
theorem EvP.mono (s : Same H H') (h : EvP te σ H P) : EvP te σ H' P := fun H1 a => h H1 (s.trans a)
theorem EvP.imp (h : EvP te σ H P) (hp : ∀ v H2, P v H2 → P' v H2) : EvP te σ H P' := fun H1 a Q q => h H1 a Q fun v H2 s p => q v H2 s (hp v H2 p)
theorem EvT.mono {b : Bool} (s : Same H H') (h : EvT t σ H b) : EvT t σ H' b := fun H1 a => h H1 (s.trans a)
theorem EvA.mono {ta : TA} (s : Same H H') (h : EvA ta σ H ds) : EvA ta σ H' ds := fun H1 a => h H1 (s.trans a)
theorem EvP.at (h : EvP te σ H P) {Q : VK} (q : ∀ v H2, Same H H2 → P v H2 → Q v H2) : te σ H Q := h H (Same.refl H) Q q
theorem EvT.at {b : Bool} (h : EvT t σ H b) {Q : Bool → Hp → Prop} (q : ∀ H2, Same H H2 → Q b H2) : t σ H Q := h H (Same.refl H) Q q
theorem EvA.at {ta : TA} (h : EvA ta σ H ds) {Q : List V → Hp → Prop} (q : ∀ vs H2, Same H H2 → DxA H2 vs ds → Q vs H2) : ta σ H Q := h H (Same.refl H) Q q
/-! expressions -/
theorem evd_var {i : Nat} (h : σ[i]? = some (some v)) (hd : Dx H v d) : EvD (tVar i) σ H d := fun H1 s Q q => ⟨v, h, q v H1 (Same.refl _) (hd.mono s d v)⟩
theorem evp_var {i : Nat} (h : σ[i]? = some (some v)) (hd : ∀ H1, Same H H1 → P v H1) : EvP (tVar i) σ H P := fun H1 s Q q => ⟨v, h, q v H1 (Same.refl _) (hd H1 s)⟩
theorem evd_int {i : Int} : EvD (tC (.int i)) σ H (.int i) := fun H1 _ Q q => q _ H1 (Same.refl _) (.int i)
theorem evd_bl {b : Bool} : EvD (tC (.bl b)) σ H (.bool b) := fun H1 _ Q q => q _ H1 (Same.refl _) (.bl b)
theorem evd_I0 {g : Int → Int → V} {i j : Int} (ha : EvD ta σ H (.int i)) (hb : EvD tb σ H (.int j)) (hg : ∀ H, Dx H (g i j) d) : EvD (tOp (rI0 g) ta tb) σ H d := fun H1 s Q q =>
  ha H1 s _ fun x H2 s2 hx => hb H2 (s.trans s2) _ fun y H3 s3 hy => ⟨i, j, hx.intE, hy.intE, q _ H3 (s2.trans s3) (hg H3)⟩
theorem evd_I {C : Int → Int → Prop} {g : Int → Int → V} {i j : Int} (ha : EvD ta σ H (.int i)) (hb : EvD tb σ H (.int j)) (hc : C i j) (hg : ∀ H, Dx H (g i j) d) : EvD (tOp (rI C g) ta tb) σ H d := fun H1 s Q q =>
  ha H1 s _ fun x H2 s2 hx => hb H2 (s.trans s2) _ fun y H3 s3 hy => ⟨i, j, hx.intE, hy.intE, hc, q _ H3 (s2.trans s3) (hg H3)⟩
theorem evd_eqI {i j : Int} {b : Bool} (ha : EvD ta σ H (.int i)) (hb : EvD tb σ H (.int j)) (h : decide (i = j) = b) : EvD (tOp rEq ta tb) σ H (.bool b) := fun H1 s Q q =>
  ha H1 s _ fun x H2 s2 hx => hb H2 (s.trans s2) _ fun y H3 s3 hy => by
    rw [hx.intE, hy.intE]
    refine ⟨rfl, ?_⟩
    rw [dec_int, show (i == j) = decide (i = j) from Bool.beq_eq_decide_eq i j, h]
    exact q _ H3 (s2.trans s3) (.bl b)
theorem evd_neI {i j : Int} {b : Bool} (ha : EvD ta σ H (.int i)) (hb : EvD tb σ H (.int j)) (h : (!decide (i = j)) = b) : EvD (tOp rNe ta tb) σ H (.bool b) := fun H1 s Q q =>
  ha H1 s _ fun x H2 s2 hx => hb H2 (s.trans s2) _ fun y H3 s3 hy => by
    rw [hx.intE, hy.intE]
    refine ⟨rfl, ?_⟩
    rw [dec_int, show (i == j) = decide (i = j) from Bool.beq_eq_decide_eq i j, h]
    exact q _ H3 (s2.trans s3) (.bl b)
theorem evd_neB {a c b : Bool} (ha : EvD ta σ H (.bool a)) (hb : EvD tb σ H (.bool c)) (h : (!decide (a = c)) = b) : EvD (tOp rNe ta tb) σ H (.bool b) := fun H1 s Q q =>
  ha H1 s _ fun x H2 s2 hx => hb H2 (s.trans s2) _ fun y H3 s3 hy => by
    rw [hx.blE, hy.blE]
    refine ⟨rfl, ?_⟩
    rw [dec_bl, show (a == c) = decide (a = c) from Bool.beq_eq_decide_eq a c, h]
    exact q _ H3 (s2.trans s3) (.bl b)
theorem evd_eqD {b : Bool} (ha : EvD ta σ H d) (hb : EvD tb σ H e) (pd : pure' d = true) (pe : pure' e = true) (hd : d.depth ≤ 64) (he : e.depth ≤ 64) (h : PyData.eqv d e = b) : EvD (tOp (rEqD K) ta tb) σ H (.bool b) := fun H1 s Q q =>
  ha H1 s _ fun x H2 s2 hx => hb H2 (s.trans s2) _ fun y H3 s3 hy => ⟨d, e, (hx.mono s3 d x).dp d x pd, hy.dp e y pe, shaped_of pd hd, shaped_of pe he, by rw [h]; exact q _ H3 (s2.trans s3) (.bl b)⟩
theorem evd_neD {b : Bool} (ha : EvD ta σ H d) (hb : EvD tb σ H e) (pd : pure' d = true) (pe : pure' e = true) (hd : d.depth ≤ 64) (he : e.depth ≤ 64) (h : (!PyData.eqv d e) = b) : EvD (tOp (rNeD K) ta tb) σ H (.bool b) := fun H1 s Q q =>
  ha H1 s _ fun x H2 s2 hx => hb H2 (s.trans s2) _ fun y H3 s3 hy => ⟨d, e, (hx.mono s3 d x).dp d x pd, hy.dp e y pe, shaped_of pd hd, shaped_of pe he, by rw [h]; exact q _ H3 (s2.trans s3) (.bl b)⟩
theorem evd_inT {b : Bool} (ha : EvD ta σ H d) (hb : EvD tb σ H (.tuple ds)) (pd : pure' d = true) (pe : pureA ds = true) (hd : d.depth ≤ 64) (he : PyData.depth (.tuple ds) ≤ 64) (h : (ds.any fun z => PyData.eqv z d) = b) : EvD (tOp (rInT K) ta tb) σ H (.bool b) := fun H1 s Q q =>
  ha H1 s _ fun x H2 s2 hx => hb H2 (s.trans s2) _ fun y H3 s3 hy => ⟨d, ds, (hx.mono s3 d x).dp d x pd, hy.dp (.tuple ds) y (by rw [pure']; exact pe), shaped_of pd hd, shaped_of (by rw [pure']; exact pe) he, by rw [h]; exact q _ H3 (s2.trans s3) (.bl b)⟩
theorem evd_notInL {b : Bool} (ha : EvD ta σ H d) (hb : EvD tb σ H (.list ds)) (pd : pure' d = true) (pe : pureA ds = true) (hd : d.depth ≤ 64) (he : PyData.depth (.list ds) ≤ 64) (h : (!ds.any fun z => PyData.eqv z d) = b) : EvD (tOp (rNotInD K) ta tb) σ H (.bool b) := fun H1 s Q q =>
  ha H1 s _ fun x H2 s2 hx => hb H2 (s.trans s2) _ fun y H3 s3 hy => ⟨d, ds, (hx.mono s3 d x).dp d x pd, hy.dp (.list ds) y (by rw [pure']; exact pe), shaped_of pd hd, shaped_of (by rw [pure']; exact pe) he, by rw [h]; exact q _ H3 (s2.trans s3) (.bl b)⟩
theorem evd_ixL {k : Nat} (ha : EvD ta σ H (.list ds)) (hb : EvD tb σ H (.int (k : Int))) (h : ds[k]? = some d) : EvD (tOp (rIxL K) ta tb) σ H d := fun H1 s Q q =>
  ha H1 s _ fun x H2 s2 hx => hb H2 (s.trans s2) _ fun y H3 s3 hy => by
    obtain ⟨a, xs, rfl, h1, h2⟩ := (hx.mono s3 _ x).lstE
    obtain ⟨z, e1, e2⟩ := h2.getd h
    exact ⟨a, xs, (k : Int), z, rfl, hy.intE, .of h1, atI_nat e1, q z H3 (s2.trans s3) e2⟩
theorem evd_ixT {k : Nat} (ha : EvD ta σ H (.tuple ds)) (hb : EvD tb σ H (.int (k : Int))) (h : ds[k]? = some d) : EvD (tOp (rIxT K) ta tb) σ H d := fun H1 s Q q =>
  ha H1 s _ fun x H2 s2 hx => hb H2 (s.trans s2) _ fun y H3 s3 hy => by
    obtain ⟨a, xs, rfl, h1, h2⟩ := (hx.mono s3 _ x).tupE
    obtain ⟨z, e1, e2⟩ := h2.getd h
    exact ⟨a, xs, (k : Int), z, rfl, hy.intE, .of h1, atI_nat e1, q z H3 (s2.trans s3) e2⟩
theorem eva_nil : EvA tNil σ H [] := fun H1 _ Q q => q [] H1 (Same.refl _) .nil
theorem eva_cons {tr : TA} (h : EvD ta σ H d) (hr : EvA tr σ H ds) : EvA (tCons ta tr) σ H (d :: ds) := fun H1 s Q q =>
  h H1 s _ fun x H2 s2 hx => hr H2 (s.trans s2) _ fun xs H3 s3 hxs => q _ H3 (s2.trans s3) (.cons (hx.mono s3 d x) hxs)
theorem evd_tup {tr : TA} (h : EvA tr σ H ds) (hl : ds.length ≤ sizeLine) : EvD (tTup tr) σ H (.tuple ds) := fun H1 s Q q =>
  h H1 s _ fun xs H2 s2 hx => ⟨by rw [hx.length]; exact hl, fun p hp => q _ _ (s2.trans (same_new hp)) (.tup upd_same (hx.mono (same_new hp) ds xs))⟩
theorem evd_lst {tr : TA} (h : EvA tr σ H ds) (hl : ds.length ≤ sizeLine) : EvD (tLst tr) σ H (.list ds) := fun H1 s Q q =>
  h H1 s _ fun xs H2 s2 hx => ⟨by rw [hx.length]; exact hl, fun p hp => q _ _ (s2.trans (same_new hp)) (.lst upd_same (hx.mono (same_new hp) ds xs))⟩
/-- a built-in, by its rule on data -/
theorem evd_cb {rr : List V → Hp → VK → Prop} {tr : TA} (h : EvA tr σ H ds) (hr : ∀ H1 vs (Q : VK), DxA H1 vs ds → (∀ v H2, Same H1 H2 → Dx H2 v d → Q v H2) → rr vs H1 Q) : EvD (tCB rr tr) σ H d := fun H1 s Q q =>
  h H1 s _ fun vs H2 s2 hv => hr H2 vs Q hv fun v H3 s3 hd => q v H3 (s2.trans s3) hd
theorem DxA.oneE {vs : List V} (h : DxA H vs [d]) : ∃ x, vs = [x] ∧ Dx H x d := by
  cases h with
  | cons h t => cases t; exact ⟨_, rfl, h⟩
theorem DxA.twoE {vs : List V} (h : DxA H vs [d, e]) : ∃ x y, vs = [x, y] ∧ Dx H x d ∧ Dx H y e := by
  cases h with
  | cons h t =>
    obtain ⟨y, rfl, hy⟩ := DxA.oneE t
    exact ⟨_, _, rfl, h, hy⟩
/-- len of a list, a tuple -/
def rLenS (K : PySem.W.Frag) : List V → Hp → VK → Prop := fun xs H Q => ∃ p ys, xs = [.ref p] ∧ (SqL K H p ys ∨ SqT K H p ys) ∧ Q (.int ys.length) H
theorem evd_lenT (h : EvD ta σ H (.tuple ds)) : EvD (tCB (rLenS K) (tCons ta tNil)) σ H (.int (ds.length : Int)) := evd_cb (eva_cons h eva_nil) fun H1 vs Q hv q => by
  obtain ⟨x, rfl, hx⟩ := hv.oneE
  obtain ⟨a, xs, rfl, h1, h2⟩ := hx.tupE
  refine ⟨a, xs, rfl, .inr (.of h1), ?_⟩
  rw [h2.length]
  exact q _ H1 (Same.refl _) (.int _)
theorem evd_lenL (h : EvD ta σ H (.list ds)) : EvD (tCB (rLenS K) (tCons ta tNil)) σ H (.int (ds.length : Int)) := evd_cb (eva_cons h eva_nil) fun H1 vs Q hv q => by
  obtain ⟨x, rfl, hx⟩ := hv.oneE
  obtain ⟨a, xs, rfl, h1, h2⟩ := hx.lstE
  refine ⟨a, xs, rfl, .inl (.of h1), ?_⟩
  rw [h2.length]
  exact q _ H1 (Same.refl _) (.int _)
def rTupOf (K : PySem.W.Frag) : List V → Hp → VK → Prop := fun xs H Q => ∃ p ys, xs = [.ref p] ∧ ((SqL K H p ys ∧ ∀ l, H l = none → Q (.ref l) (upd H l (.tup ys))) ∨ (SqT K H p ys ∧ Q (.ref p) H))
theorem evd_tupOf (h : EvD ta σ H (.list ds)) : EvD (tCB (rTupOf K) (tCons ta tNil)) σ H (.tuple ds) := evd_cb (eva_cons h eva_nil) fun H1 vs Q hv q => by
  obtain ⟨x, rfl, hx⟩ := hv.oneE
  obtain ⟨a, xs, rfl, h1, h2⟩ := hx.lstE
  exact ⟨a, xs, rfl, .inl ⟨.of h1, fun l hl => q _ _ (same_new hl) (.tup upd_same (h2.mono (same_new hl) ds xs))⟩⟩
def rLstOf (K : PySem.W.Frag) : List V → Hp → VK → Prop := fun xs H Q => ∃ p ys, xs = [.ref p] ∧ (SqL K H p ys ∨ SqT K H p ys) ∧ ∀ l, H l = none → Q (.ref l) (upd H l (.lst ys))
theorem evd_lstOfT (h : EvD ta σ H (.tuple ds)) : EvD (tCB (rLstOf K) (tCons ta tNil)) σ H (.list ds) := evd_cb (eva_cons h eva_nil) fun H1 vs Q hv q => by
  obtain ⟨x, rfl, hx⟩ := hv.oneE
  obtain ⟨a, xs, rfl, h1, h2⟩ := hx.tupE
  exact ⟨a, xs, rfl, .inr (.of h1), fun l hl => q _ _ (same_new hl) (.lst upd_same (h2.mono (same_new hl) ds xs))⟩
theorem evd_lstOfL (h : EvD ta σ H (.list ds)) : EvD (tCB (rLstOf K) (tCons ta tNil)) σ H (.list ds) := evd_cb (eva_cons h eva_nil) fun H1 vs Q hv q => by
  obtain ⟨x, rfl, hx⟩ := hv.oneE
  obtain ⟨a, xs, rfl, h1, h2⟩ := hx.lstE
  exact ⟨a, xs, rfl, .inl (.of h1), fun l hl => q _ _ (same_new hl) (.lst upd_same (h2.mono (same_new hl) ds xs))⟩
theorem DxA.bools : ∀ {xs : List V} {bs : List Bool}, DxA H xs (bs.map PyData.bool) → xs = bs.map V.bl
  | _, [], .nil => rfl
  | _, b :: bs, .cons (.bl _) r => by rw [DxA.bools r]; rfl
theorem evd_all {bs : List Bool} {b : Bool} (h : EvD ta σ H (.list (bs.map PyData.bool))) (hb : bs.all id = b) : EvD (tCB (rAll K) (tCons ta tNil)) σ H (.bool b) := evd_cb (eva_cons h eva_nil) fun H1 vs Q hv q => by
  obtain ⟨x, rfl, hx⟩ := hv.oneE
  obtain ⟨a, xs, rfl, h1, h2⟩ := hx.lstE
  rw [h2.bools] at h1
  exact ⟨a, bs, rfl, .of h1, by rw [hb]; exact q _ H1 (Same.refl _) (.bl b)⟩
theorem evd_any {bs : List Bool} {b : Bool} (h : EvD ta σ H (.list (bs.map PyData.bool))) (hb : bs.any id = b) : EvD (tCB (rAny K) (tCons ta tNil)) σ H (.bool b) := evd_cb (eva_cons h eva_nil) fun H1 vs Q hv q => by
  obtain ⟨x, rfl, hx⟩ := hv.oneE
  obtain ⟨a, xs, rfl, h1, h2⟩ := hx.lstE
  rw [h2.bools] at h1
  exact ⟨a, bs, rfl, .of h1, by rw [hb]; exact q _ H1 (Same.refl _) (.bl b)⟩
theorem evd_sorted {a : PyData} (h : EvD ta σ H a) (ha : a = .list ds ∨ a = .tuple ds) (hpu : pureA ds = true) (hal : PySem.W.AllAlike ds) (hk : PySem.W.Sortable ds) (hdep : ∀ d ∈ ds, d.depth ≤ 60) : EvD (tCB (rSortD K) (tCons ta tNil)) σ H (.list (ds.mergeSort dLe)) :=
  evd_cb (eva_cons h eva_nil) fun H1 vs Q hv q => by
    obtain ⟨x, rfl, hx⟩ := hv.oneE
    rcases ha with rfl | rfl
    · obtain ⟨a, xs, rfl, h1, h2⟩ := hx.lstE
      exact ⟨a, xs, ds, rfl, .inl (.of h1), h2, hpu, hal, hk, hdep, fun ys p hy hp => q _ _ (same_new hp) (.lst upd_same (hy.mono (same_new hp) _ ys))⟩
    · obtain ⟨a, xs, rfl, h1, h2⟩ := hx.tupE
      exact ⟨a, xs, ds, rfl, .inr (.of h1), h2, hpu, hal, hk, hdep, fun ys p hy hp => q _ _ (same_new hp) (.lst upd_same (hy.mono (same_new hp) _ ys))⟩
/-! promises on data -/
def spD (pre : List PyData → Prop) (post : List PyData → PyData → Prop) : Sp := fun vs H Q _ => ∃ ds, DxA H vs ds ∧ pre ds ∧ ∀ v H' d, post ds d → Same H H' → Dx H' v d → Q v H'
theorem evp_call {pre : List PyData → Prop} {post : List PyData → PyData → Prop} {E : XK} {tr : TA} (h : EvA tr σ H ds) (hp : pre ds) : EvP (tCall (spD pre post) [] E tr) σ H fun v H2 => ∃ d, post ds d ∧ Dx H2 v d := fun H1 s Q q =>
  h H1 s _ fun vs H2 s2 hv => ⟨ds, by rw [List.append_nil]; exact hv, hp, fun v H3 d pd s3 hd => q v H3 (s2.trans s3) ⟨d, pd, hd⟩⟩
theorem evd_call {pre : List PyData → Prop} {post : List PyData → PyData → Prop} {E : XK} {tr : TA} (h : EvA tr σ H ds) (hp : pre ds) (hq : ∀ e, post ds e → e = d) : EvD (tCall (spD pre post) [] E tr) σ H d :=
  (evp_call h hp).imp fun v H2 ⟨e, pe, he⟩ => by
    have z := hq e pe
    subst z
    exact he
/-! tests and the like -/
theorem evt_test {b : Bool} (h : EvD te σ H (.bool b)) : EvT (tTest te) σ H b := fun H1 s Q q => h H1 s _ fun v H2 s2 hv => ⟨b, hv.blE, q H2 s2⟩
theorem evt_B {b : Bool} (h : EvD te σ H (.bool b)) : EvT (tB te) σ H b := fun H1 s Q q => h H1 s _ fun v H2 s2 hv => ⟨b, hv.blE, q H2 s2⟩
theorem evt_not {b : Bool} (h : EvT t σ H b) : EvT (tNot t) σ H (!b) := fun H1 s Q q => h H1 s _ fun H2 s2 => q H2 s2
theorem evt_notT (h : EvT t σ H true) : EvT (tNot t) σ H false := evt_not h
theorem evt_notF (h : EvT t σ H false) : EvT (tNot t) σ H true := evt_not h
theorem evt_andT {b : Bool} (h1 : EvT t σ H true) (h2 : EvT u σ H b) : EvT (tAnd t u) σ H b := fun H1 s Q q => h1 H1 s _ fun H2 s2 => iteT (h2 H2 (s.trans s2) Q fun H3 s3 => q H3 (s2.trans s3))
theorem evt_andF (h1 : EvT t σ H false) : EvT (tAnd t u) σ H false := fun H1 s Q q => h1 H1 s _ fun H2 s2 => iteF (q H2 s2)
theorem evt_orF {b : Bool} (h1 : EvT t σ H false) (h2 : EvT u σ H b) : EvT (tOr t u) σ H b := fun H1 s Q q => h1 H1 s _ fun H2 s2 => iteF (h2 H2 (s.trans s2) Q fun H3 s3 => q H3 (s2.trans s3))
theorem evt_orT (h1 : EvT t σ H true) : EvT (tOr t u) σ H true := fun H1 s Q q => h1 H1 s _ fun H2 s2 => iteT (q H2 s2)
theorem evd_andT (h1 : EvD ta σ H (.bool true)) (h2 : EvD tb σ H d) : EvD (tAndV ta tb) σ H d := fun H1 s Q q => h1 H1 s _ fun v H2 s2 hv => ⟨true, hv.blE, iteT (h2 H2 (s.trans s2) Q fun w H3 s3 hw => q w H3 (s2.trans s3) hw)⟩
theorem evd_andF (h1 : EvD ta σ H (.bool false)) : EvD (tAndV ta tb) σ H (.bool false) := fun H1 s Q q => h1 H1 s _ fun v H2 s2 hv => ⟨false, hv.blE, iteF (q _ H2 s2 (.bl _))⟩
theorem evd_notV {b : Bool} (h1 : EvD ta σ H (.bool b)) : EvD (tNotV ta) σ H (.bool (!b)) := fun H1 s Q q => h1 H1 s _ fun v H2 s2 hv => ⟨b, hv.blE, q _ H2 s2 (.bl _)⟩
theorem evp_ifT (h : EvT t σ H true) (h1 : EvP ta σ H P) : EvP (tIf t ta tb) σ H P := fun H1 s Q q => h H1 s _ fun H2 s2 => iteT (h1 H2 (s.trans s2) Q fun w H3 s3 hw => q w H3 (s2.trans s3) hw)
theorem evp_ifF (h : EvT t σ H false) (h1 : EvP tb σ H P) : EvP (tIf t ta tb) σ H P := fun H1 s Q q => h H1 s _ fun H2 s2 => iteF (h1 H2 (s.trans s2) Q fun w H3 s3 hw => q w H3 (s2.trans s3) hw)
theorem evp_if {b : Bool} (h : EvT t σ H b) (h1 : b = true → EvP ta σ H P) (h2 : b = false → EvP tb σ H P) : EvP (tIf t ta tb) σ H P := by
  cases b with
  | true => exact evp_ifT h (h1 rfl)
  | false => exact evp_ifF h (h2 rfl)
/-- a <= b <= c, both true -/
theorem evd_chain {g g' : Int → Int → Bool} {i j k : Int} (ha : EvD ta σ H (.int i)) (hb : EvD tb σ H (.int j)) (hc : EvD tc σ H (.int k)) (h1 : g i j = true) (h2 : g' j k = true) : EvD (tChain (rI0 fun i j => .bl (g i j)) (rI0 fun i j => .bl (g' i j)) ta tb tc) σ H (.bool true) := fun H1 s Q q =>
  ha H1 s _ fun x H2 s2 hx => hb H2 (s.trans s2) _ fun y H3 s3 hy => ⟨i, j, hx.intE, hy.intE, true, congrArg V.bl h1, iteT (hc H3 ((s.trans s2).trans s3) _ fun z H4 s4 hz => ⟨j, k, hy.intE, hz.intE, by show Q (.bl (g' j k)) H4; rw [h2]; exact q _ H4 ((s2.trans s3).trans s4) (.bl true)⟩)⟩
end

/-! ### what is walked: data, one after another -/
def Src (wi : TI) (σ : L2.St) (H : Hp) (ds : List PyData) : Prop := ∀ H1, Same H H1 → ∀ R : It → Hp → Prop,
  (∀ J H2 G Y, Same H1 H2 → Walk J ds.length G Y → (∀ H3, Same H2 H3 → G H3) → (∀ i H3 x H4, Same H2 H3 → i < ds.length → Y i H3 x H4 → Same H3 H4 ∧ ∃ d, ds[i]? = some d ∧ Dx H4 x d) → R J H2) → wi σ H1 R
section
variable {K : PySem.W.Frag} {σ : L2.St} {H H' : Hp} {tl : TE} {ds es : List PyData} {ta : TA}
theorem Src.mono {wi : TI} (s : Same H H') (h : Src wi σ H ds) : Src wi σ H' ds := fun H1 a => h H1 (s.trans a)
theorem src_list (h : EvD tl σ H (.list ds)) : Src (iList K tl) σ H ds := fun H1 s R q => h H1 s _ fun v H2 s2 hv => by
  obtain ⟨a, xs, rfl, h1, h2⟩ := hv.lstE
  refine ⟨a, rfl, ⟨xs, .of h1⟩, q _ H2 (fun H => H a = some (.lst xs)) (YAt xs) s2 ?_ (fun H3 s3 => s3 _ _ h1) fun i H3 x H4 s3 hi y => ?_⟩
  · rw [← h2.length]
    exact walk_list.mono (fun H e => .of e) fun _ _ _ _ _ _ y => y
  · obtain ⟨rfl, e⟩ := y
    obtain ⟨d, e1, e2⟩ := h2.get e
    exact ⟨Same.refl _, d, e1, e2.mono s3 d x⟩
theorem src_tup (h : EvD tl σ H (.tuple ds)) : Src (iTup K tl) σ H ds := fun H1 s R q => h H1 s _ fun v H2 s2 hv => by
  obtain ⟨a, xs, rfl, h1, h2⟩ := hv.tupE
  refine ⟨a, rfl, ⟨xs, .of h1⟩, q _ H2 (fun H => H a = some (.tup xs)) (YAt xs) s2 ?_ (fun H3 s3 => s3 _ _ h1) fun i H3 x H4 s3 hi y => ?_⟩
  · rw [← h2.length]
    exact walk_tup.mono (fun H e => .of e) fun _ _ _ _ _ _ y => y
  · obtain ⟨rfl, e⟩ := y
    obtain ⟨d, e1, e2⟩ := h2.get e
    exact ⟨Same.refl _, d, e1, e2.mono s3 d x⟩
theorem src_rng {n : Nat} (h : EvA ta σ H [.int (n : Int)]) (hn : n ≤ 1000000) : Src (iRng1 ta) σ H ((List.range n).map fun (i : Nat) => PyData.int (i : Int)) := fun H1 s R q => h H1 s _ fun vs H2 s2 hv => by
  obtain ⟨x, rfl, hx⟩ := hv.oneE
  refine ⟨n, by rw [hx.intE], by omega, by omega, ?_⟩
  have e : ((n : Int)).toNat = n := Int.toNat_natCast n
  rw [e]
  refine q _ H2 (fun _ => True) (YFn fun i => .int (0 + i)) s2 ?_ (fun _ _ => trivial) fun i H3 x H4 s3 hi y => ?_
  · rw [List.length_map, List.length_range]
    exact walk_range
  · obtain ⟨rfl, rfl⟩ := y
    rw [List.length_map, List.length_range] at hi
    refine ⟨Same.refl _, .int (i : Int), by simp [hi], ?_⟩
    show Dx H4 (V.int (0 + (i : Int))) _
    rw [Int.zero_add]
    exact .int _
theorem src_enumT (h : EvA ta σ H [.tuple ds]) : Src (iEnumT K ta) σ H ((List.range ds.length).zipWith (fun (i : Nat) d => PyData.tuple [.int (i : Int), d]) ds) := fun H1 s R q => h H1 s _ fun vs H2 s2 hv => by
  obtain ⟨x, rfl, hx⟩ := hv.oneE
  obtain ⟨a, xs, rfl, h1, h2⟩ := hx.tupE
  have hl : ((List.range ds.length).zipWith (fun (i : Nat) d => PyData.tuple [.int (i : Int), d]) ds).length = xs.length := by simp [h2.length]
  refine ⟨a, xs, rfl, .of h1, q _ H2 (fun H => H a = some (.tup xs)) _ s2 (by rw [hl]; exact (walk_enumT (K := K)).mono (fun H e => .of e) fun _ _ _ _ _ _ y => y) (fun H3 s3 => s3 _ _ h1) fun i H3 x H4 s3 hi y => ?_⟩
  rw [hl] at hi
  obtain ⟨T, x1, x2, rfl, nT, rfl, e1, e2⟩ := y
  obtain ⟨d, e3, e4⟩ := h2.get e2
  have z : x1 = .int (i : Int) := (Option.some.inj e1).symm
  subst z
  refine ⟨same_new nT, .tuple [.int (i : Int), d], ?_, .tup upd_same (.cons (.int _) (.one ((e4.mono s3 d x2).mono (same_new nT) d x2)))⟩
  have hi2 : i < ds.length := by rw [← h2.length]; exact hi
  rw [List.getElem?_zipWith, e3, List.getElem?_range hi2]
theorem src_zipT (h : EvA ta σ H [.tuple ds, .tuple es]) : Src (RZ.iZipA K ta) σ H (List.zipWith (fun d e => PyData.tuple [d, e]) ds es) := fun H1 s R q => h H1 s _ fun vs H2 s2 hv => by
  obtain ⟨x, y, rfl, hx, hy⟩ := hv.twoE
  obtain ⟨a, xs, rfl, h1, h2⟩ := hx.tupE
  obtain ⟨b, ys, rfl, g1, g2⟩ := hy.tupE
  have hl : (List.zipWith (fun d e => PyData.tuple [d, e]) ds es).length = min xs.length ys.length := by simp [h2.length, g2.length]
  refine ⟨a, b, xs, ys, rfl, .inr ⟨.of h1, .of g1, q _ H2 (fun H => H a = some (.tup xs) ∧ H b = some (.tup ys)) _ s2 ((walk_zipT (K := K) hl).mono (fun H e => ⟨.of e.1, .of e.2⟩) fun _ _ _ _ _ _ y => y) (fun H3 s3 => ⟨s3 _ _ h1, s3 _ _ g1⟩) fun i H3 x H4 s3 hi y => ?_⟩⟩
  obtain ⟨T, x1, x2, rfl, nT, rfl, e1, e2⟩ := y
  obtain ⟨d, e3, e4⟩ := h2.get e1
  obtain ⟨d', e5, e6⟩ := g2.get e2
  refine ⟨same_new nT, .tuple [d, d'], ?_, .tup upd_same (.cons ((e4.mono s3 d x1).mono (same_new nT) d x1) (.one ((e6.mono s3 d' x2).mono (same_new nT) d' x2)))⟩
  rw [List.getElem?_zipWith, e3, e5]
theorem src_zipL (h : EvA ta σ H [.list ds, .list es]) : Src (RZ.iZipA K ta) σ H (List.zipWith (fun d e => PyData.tuple [d, e]) ds es) := fun H1 s R q => h H1 s _ fun vs H2 s2 hv => by
  obtain ⟨x, y, rfl, hx, hy⟩ := hv.twoE
  obtain ⟨a, xs, rfl, h1, h2⟩ := hx.lstE
  obtain ⟨b, ys, rfl, g1, g2⟩ := hy.lstE
  have hl : (List.zipWith (fun d e => PyData.tuple [d, e]) ds es).length = min xs.length ys.length := by simp [h2.length, g2.length]
  refine ⟨a, b, xs, ys, rfl, .inl ⟨.of h1, .of g1, q _ H2 (fun H => H a = some (.lst xs) ∧ H b = some (.lst ys)) _ s2 ((walk_zip (K := K) hl).mono (fun H e => ⟨.of e.1, .of e.2⟩) fun _ _ _ _ _ _ y => y) (fun H3 s3 => ⟨s3 _ _ h1, s3 _ _ g1⟩) fun i H3 x H4 s3 hi y => ?_⟩⟩
  obtain ⟨T, x1, x2, rfl, nT, rfl, e1, e2⟩ := y
  obtain ⟨d, e3, e4⟩ := h2.get e1
  obtain ⟨d', e5, e6⟩ := g2.get e2
  refine ⟨same_new nT, .tuple [d, d'], ?_, .tup upd_same (.cons ((e4.mono s3 d x1).mono (same_new nT) d x1) (.one ((e6.mono s3 d' x2).mono (same_new nT) d' x2)))⟩
  rw [List.getElem?_zipWith, e3, e5]
/-- [e for target in what is walked if ..], the items without lists -/
theorem evd_lcIf {α : Type} {l : List α} {enc : α → PyData} {wi : TI} {g : TG} {tt : TT} {te : TE} {vs : List Nat} (hw : Src wi σ H (l.map enc)) (p : α → Bool) (f : α → PyData) (hl : l.length < sizeLine)
    (hb : ∀ (i : Nat) d x H', l[i]? = some d → Same H H' → Dx H' x (enc d) → g x (wipe σ vs) H' fun σ2 H2 => wipe σ2 vs = wipe σ vs ∧ Same H' H2 ∧ EvT tt σ2 H2 (p d) ∧ (p d = true → EvD te σ2 H2 (f d) ∧ noL (f d) = true)) (hg : ∀ x (σ : L2.St) H (Q Q' : L2.St → Hp → Prop), (∀ σ H, Q σ H → Q' σ H) → g x σ H Q → g x σ H Q') :
    EvD (tLc wi g tt te vs) σ H (.list ((l.filter p).map f)) := fun H1 s Q q => hw H1 s _ fun J H2 G Y s2 w hG hY D nD => by
  have sH2 : Same H H2 := s.trans s2
  rw [List.length_map] at w hY
  refine lc_it w (fun i Hc => Same H2 Hc ∧ ∃ acc, Hc D = some (.lst acc) ∧ DxA Hc acc (((l.take i).filter p).map f) ∧ noLA (((l.take i).filter p).map f) = true) ⟨same_new nD, [], upd_same, .nil, rfl⟩ (fun i Hc _ z => hG Hc z.1) (fun i x Hc Hx hi z y => ?_) fun Hc z => ?_
  · obtain ⟨z1, acc, zD, za, zn⟩ := z
    obtain ⟨s3, d0, ed0, hx⟩ := hY i Hc x Hx z1 hi y
    rw [List.getElem?_map] at ed0
    obtain ⟨d, ed, rfl⟩ := Option.map_eq_some_iff.mp ed0
    have tk : l.take (i + 1) = l.take i ++ [d] := by
      rw [List.take_add_one, ed]
      rfl
    refine hg _ _ _ _ _ (fun σ2 H3 z => ?_) (hb i d x Hx ed ((sH2.trans z1).trans s3) hx)
    obtain ⟨e1, s4, ht, he⟩ := z
    refine ⟨e1, ht.at fun H4 s5 => ?_⟩
    have s35 : Same Hc H4 := (s3.trans s4).trans s5
    cases hp : p d with
    | true =>
      refine iteT ?_
      obtain ⟨he, hn⟩ := he hp
      have e2 : ((l.take (i + 1)).filter p).map f = ((l.take i).filter p).map f ++ [f d] := by rw [tk]; simp [hp]
      refine (he.mono s5).at fun y H5 s6 hy => ⟨acc, s6 _ _ (s35 _ _ zD), ?_, ?_⟩
      · rw [za.length, List.length_map]
        have := List.length_filter_le p (l.take i)
        have := List.length_take_le i l
        omega
      · have aD : H5 D = some (.lst acc) := s6 _ _ (s35 _ _ zD)
        have tm : TSame H5 (upd H5 D (.lst (acc ++ [y]))) := tsame_mut aD fun _ z => nomatch z
        rw [e2]
        refine ⟨same_mut ((z1.trans s35).trans s6) nD, acc ++ [y], upd_same, .snoc ((za.mono (s35.trans s6) _ acc).tmono tm _ acc zn) (hy.tmono tm _ y hn), ?_⟩
        have : ∀ (l : List PyData), noLA l = true → noLA (l ++ [f d]) = true := fun l => by
          induction l with
          | nil => intro _; simp [noLA, hn]
          | cons a l ih => intro h; rw [noLA, Bool.and_eq_true] at h; rw [List.cons_append, noLA, h.1, ih h.2]; rfl
        exact this _ zn
    | false =>
      refine iteF ?_
      have e2 : ((l.take (i + 1)).filter p).map f = ((l.take i).filter p).map f := by rw [tk]; simp [hp]
      rw [e2]
      exact ⟨z1.trans s35, acc, s35 _ _ zD, za.mono s35 _ acc, zn⟩
  · obtain ⟨z1, acc, zD, za, _⟩ := z
    rw [List.take_length] at za
    exact q _ Hc (s2.trans z1) (.lst zD za)
theorem evt_yes : EvT tYes σ H true := fun H1 _ Q q => q H1 (Same.refl _)
theorem evd_lcM {α : Type} {l : List α} {enc : α → PyData} {wi : TI} {g : TG} {te : TE} {vs : List Nat} (hw : Src wi σ H (l.map enc)) (f : α → PyData) (hl : l.length < sizeLine)
    (hb : ∀ (i : Nat) d x H', l[i]? = some d → Same H H' → Dx H' x (enc d) → g x (wipe σ vs) H' fun σ2 H2 => wipe σ2 vs = wipe σ vs ∧ Same H' H2 ∧ EvD te σ2 H2 (f d) ∧ noL (f d) = true) (hg : ∀ x (σ : L2.St) H (Q Q' : L2.St → Hp → Prop), (∀ σ H, Q σ H → Q' σ H) → g x σ H Q → g x σ H Q') :
    EvD (tLc wi g tYes te vs) σ H (.list (l.map f)) := by
  have z := evd_lcIf (p := fun _ => true) (tt := tYes) (te := te) (vs := vs) hw f hl (fun i d x H' e s hx => hg _ _ _ _ _ (fun σ2 H2 z => ⟨z.1, z.2.1, evt_yes, fun _ => z.2.2⟩) (hb i d x H' e s hx)) hg
  rwa [show l.filter (fun _ => true) = l from List.filter_eq_self.mpr fun _ _ => rfl] at z
theorem evd_lc {wi : TI} {g : TG} {te : TE} {vs : List Nat} (hw : Src wi σ H ds) (f : PyData → PyData) (hl : ds.length < sizeLine)
    (hb : ∀ (i : Nat) d x H', ds[i]? = some d → Same H H' → Dx H' x d → g x (wipe σ vs) H' fun σ2 H2 => wipe σ2 vs = wipe σ vs ∧ Same H' H2 ∧ EvD te σ2 H2 (f d) ∧ noL (f d) = true) (hg : ∀ x (σ : L2.St) H (Q Q' : L2.St → Hp → Prop), (∀ σ H, Q σ H → Q' σ H) → g x σ H Q → g x σ H Q') :
    EvD (tLc wi g tYes te vs) σ H (.list (ds.map f)) := evd_lcM (enc := fun d => d) (by rw [List.map_id']; exact hw) f hl hb hg
theorem gm_name {j : Nat} : ∀ x (σ : L2.St) H (Q Q' : L2.St → Hp → Prop), (∀ σ H, Q σ H → Q' σ H) → gName j x σ H Q → gName j x σ H Q' := fun _ _ _ _ _ h q => h _ _ q
theorem gm_tup1 {n : Nat} {t : TGs} (ht : ∀ xs (σ : L2.St) H (Q Q' : L2.St → Hp → Prop), (∀ σ H, Q σ H → Q' σ H) → t xs σ H Q → t xs σ H Q') : ∀ x (σ : L2.St) H (Q Q' : L2.St → Hp → Prop), (∀ σ H, Q σ H → Q' σ H) → gTup K n t x σ H Q → gTup K n t x σ H Q' := fun x σ H Q Q' h q => by
  obtain ⟨a, xs, e, hs, hn, z⟩ := q
  exact ⟨a, xs, e, hs, hn, ht _ _ _ _ _ h z⟩
theorem gm_nil : ∀ xs (σ : L2.St) H (Q Q' : L2.St → Hp → Prop), (∀ σ H, Q σ H → Q' σ H) → gNil xs σ H Q → gNil xs σ H Q' := fun _ _ _ _ _ h q => ⟨q.1, h _ _ q.2⟩
theorem gm_cons {t : TG} {u : TGs} (h1 : ∀ x (σ : L2.St) H (Q Q' : L2.St → Hp → Prop), (∀ σ H, Q σ H → Q' σ H) → t x σ H Q → t x σ H Q') (h2 : ∀ xs (σ : L2.St) H (Q Q' : L2.St → Hp → Prop), (∀ σ H, Q σ H → Q' σ H) → u xs σ H Q → u xs σ H Q') :
    ∀ xs (σ : L2.St) H (Q Q' : L2.St → Hp → Prop), (∀ σ H, Q σ H → Q' σ H) → gCons t u xs σ H Q → gCons t u xs σ H Q' := fun xs σ H Q Q' h q => by
  obtain ⟨v, r, e, z⟩ := q
  exact ⟨v, r, e, h1 _ _ _ _ _ (fun σ H z => h2 _ _ _ _ _ h z) z⟩
end

/-! ### loops over tuples: what is walked stands whatever else changes -/
def SrcT (wi : TI) (σ : L2.St) (H : Hp) (ds : List PyData) : Prop := ∀ H1, Same H H1 → ∀ R : It → Hp → Prop,
  (∀ J H2 G Y, Same H1 H2 → Walk J ds.length G Y → (∀ H3, TSame H2 H3 → G H3) → (∀ i H3 x H4, TSame H2 H3 → i < ds.length → Y i H3 x H4 → Same H3 H4 ∧ ∃ d, ds[i]? = some d ∧ Dx H4 x d) → R J H2) → wi σ H1 R
section
variable {K : PySem.W.Frag} {σ : L2.St} {H H' : Hp} {tl : TE} {ds es : List PyData} {ta : TA}
theorem noLA_get {ds : List PyData} (h : noLA ds = true) : ∀ {i : Nat} {d : PyData}, ds[i]? = some d → noL d = true := by
  induction ds with
  | nil => intro i d e; simp at e
  | cons a ds ih =>
    rw [noLA, Bool.and_eq_true] at h
    intro i d e
    cases i with
    | zero => simp at e; subst e; exact h.1
    | succ i => exact ih h.2 (by simpa using e)
theorem srcT_tup (h : EvD tl σ H (.tuple ds)) (hn : noLA ds = true) : SrcT (iTup K tl) σ H ds := fun H1 s R q => h H1 s _ fun v H2 s2 hv => by
  obtain ⟨a, xs, rfl, h1, h2⟩ := hv.tupE
  refine ⟨a, rfl, ⟨xs, .of h1⟩, q _ H2 (fun H => H a = some (.tup xs)) (YAt xs) s2 ?_ (fun H3 s3 => s3 _ _ h1) fun i H3 x H4 s3 hi y => ?_⟩
  · rw [← h2.length]
    exact walk_tup.mono (fun H e => .of e) fun _ _ _ _ _ _ y => y
  · obtain ⟨rfl, e⟩ := y
    obtain ⟨d, e1, e2⟩ := h2.get e
    exact ⟨Same.refl _, d, e1, e2.tmono s3 d x (noLA_get hn e1)⟩
theorem srcT_rng {n : Nat} (h : EvA ta σ H [.int (n : Int)]) (hn : n ≤ 1000000) : SrcT (iRng1 ta) σ H ((List.range n).map fun (i : Nat) => PyData.int (i : Int)) := fun H1 s R q => h H1 s _ fun vs H2 s2 hv => by
  obtain ⟨x, rfl, hx⟩ := hv.oneE
  refine ⟨n, by rw [hx.intE], by omega, by omega, ?_⟩
  have e : ((n : Int)).toNat = n := Int.toNat_natCast n
  rw [e]
  refine q _ H2 (fun _ => True) (YFn fun i => .int (0 + i)) s2 ?_ (fun _ _ => trivial) fun i H3 x H4 s3 hi y => ?_
  · rw [List.length_map, List.length_range]
    exact walk_range
  · obtain ⟨rfl, rfl⟩ := y
    rw [List.length_map, List.length_range] at hi
    refine ⟨Same.refl _, .int (i : Int), by simp [hi], ?_⟩
    show Dx H4 (V.int (0 + (i : Int))) _
    rw [Int.zero_add]
    exact .int _
theorem srcT_enumT (h : EvA ta σ H [.tuple ds]) (hn : noLA ds = true) : SrcT (iEnumT K ta) σ H ((List.range ds.length).zipWith (fun (i : Nat) d => PyData.tuple [.int (i : Int), d]) ds) := fun H1 s R q => h H1 s _ fun vs H2 s2 hv => by
  obtain ⟨x, rfl, hx⟩ := hv.oneE
  obtain ⟨a, xs, rfl, h1, h2⟩ := hx.tupE
  have hl : ((List.range ds.length).zipWith (fun (i : Nat) d => PyData.tuple [.int (i : Int), d]) ds).length = xs.length := by simp [h2.length]
  refine ⟨a, xs, rfl, .of h1, q _ H2 (fun H => H a = some (.tup xs)) _ s2 (by rw [hl]; exact (walk_enumT (K := K)).mono (fun H e => .of e) fun _ _ _ _ _ _ y => y) (fun H3 s3 => s3 _ _ h1) fun i H3 x H4 s3 hi y => ?_⟩
  rw [hl] at hi
  obtain ⟨T, x1, x2, rfl, nT, rfl, e1, e2⟩ := y
  obtain ⟨d, e3, e4⟩ := h2.get e2
  have z : x1 = .int (i : Int) := (Option.some.inj e1).symm
  subst z
  refine ⟨same_new nT, .tuple [.int (i : Int), d], ?_, .tup upd_same (.cons (.int _) (.one ((e4.tmono s3 d x2 (noLA_get hn e3)).mono (same_new nT) d x2)))⟩
  have hi2 : i < ds.length := by rw [← h2.length]; exact hi
  rw [List.getElem?_zipWith, e3, List.getElem?_range hi2]
/-- a for over it -/
theorem sd_forT {wi : TI} {g : TG} {tb : TS} {D : Ends} (hw : SrcT wi σ H ds) (Pv : Nat → L2.St → Hp → Prop) (h0 : ∀ H1, Same H H1 → Pv 0 σ H1)
    (hs : ∀ (i : Nat) d x σ' H' Hc (N : L2.St → Hp → Prop), ds[i]? = some d → Pv i σ' Hc → Same Hc H' → Dx H' x d → (∀ σ3 H3, Pv (i + 1) σ3 H3 → TSame H' H3 → N σ3 H3) → g x σ' H' fun σ2 H2 => tb { D with nx := N, ct := N, bk := D.nx } σ2 H2)
    (hd : ∀ σ' H', Pv ds.length σ' H' → D.nx σ' H') : tFor wi g tb D σ H := hw H (Same.refl H) _ fun J H2 G Y s2 w hG hY => by
  refine for_it w (fun i σ' Hc => TSame H2 Hc ∧ Pv i σ' Hc) ⟨fun _ _ e => e, h0 H2 s2⟩ (fun i σ' Hc _ z => hG Hc z.1) (fun i x σ' Hc Hx hi z y => ?_) fun σ' Hc z => hd _ _ z.2
  obtain ⟨s3, d, ed, hx⟩ := hY i Hc x Hx z.1 hi y
  exact hs i d x σ' Hx Hc _ ed z.2 s3 hx fun σ4 H4 p t => ⟨(z.1.trans (Same.t s3)).trans t, p⟩
end

/-! ### statements -/
section
variable {σ : L2.St} {H : Hp} {te : TE} {t : TT} {tu tw tz : TS} {D : Ends} {P : V → Hp → Prop} {b : Bool}
theorem sd_ret (h : EvP te σ H P) (q : ∀ v H2, Same H H2 → P v H2 → D.rt v H2) : tRet te D σ H := h.at q
theorem sd_asg {i : Nat} (h : EvP te σ H P) (q : ∀ v H2, Same H H2 → P v H2 → D.nx (σ.set i (some v)) H2) : tAsg te (gName i) D σ H := h.at q
theorem sd_drop (h : EvP te σ H P) (q : ∀ v H2, Same H H2 → P v H2 → D.nx σ H2) : tDrop te D σ H := h.at q
theorem sd_if (h : EvT t σ H b) (h1 : b = true → ∀ H2, Same H H2 → tu D σ H2) (h2 : b = false → ∀ H2, Same H H2 → tw D σ H2) : tIfS t tu tw D σ H := h.at fun H2 s => by
  cases b with
  | true => exact iteT (h1 rfl H2 s)
  | false => exact iteF (h2 rfl H2 s)
theorem sd_ifT (h : EvT t σ H true) (h1 : ∀ H2, Same H H2 → tu D σ H2) : tIfS t tu tw D σ H := h.at fun H2 s => iteT (h1 H2 s)
theorem sd_ifF (h : EvT t σ H false) (h1 : ∀ H2, Same H H2 → tw D σ H2) : tIfS t tu tw D σ H := h.at fun H2 s => iteF (h1 H2 s)
end
end K40
end

section
set_option Elab.async false
set_option linter.all false
set_option maxRecDepth 100000
set_option maxHeartbeats 2000000
namespace K40
open PySem PySem.Spec PyProof.Rows L2

/-! ### a heap without some addresses -/
def hide (X : List Addr) (H : Hp) : Hp := fun a => if a ∈ X then none else H a
theorem hide_in {X : List Addr} {H : Hp} {a : Addr} (h : a ∈ X) : hide X H a = none := if_pos h
theorem hide_out {X : List Addr} {H : Hp} {a : Addr} (h : a ∉ X) : hide X H a = H a := if_neg h
theorem hide_of {X : List Addr} {H : Hp} {a : Addr} {o : HO} (h : hide X H a = some o) : a ∉ X ∧ H a = some o := by
  by_cases m : a ∈ X
  · rw [hide_in m] at h
    cases h
  · rw [hide_out m] at h
    exact ⟨m, h⟩
theorem hide_same (X : List Addr) (H : Hp) : Same (hide X H) H := fun _ _ h => (hide_of h).2
theorem hide_mono {X : List Addr} {H H' : Hp} (s : Same H H') : Same (hide X H) (hide X H') := fun a o h => by
  obtain ⟨m, e⟩ := hide_of h
  rw [hide_out m]
  exact s a o e
theorem hide_upd {X : List Addr} {H : Hp} {a : Addr} {o : HO} (h : a ∈ X) : hide X (upd H a o) = hide X H := by
  funext b
  by_cases m : b ∈ X
  · rw [hide_in m, hide_in m]
  · rw [hide_out m, hide_out m, upd_ne (fun e => m (by rw [e]; exact h))]
/-- from elder addresses alone -/
theorem hide_new {X : List Addr} {H H' : Hp} (h : ∀ a ∈ X, H a = none) (s : Same H H') : Same H (hide X H') := fun a o e => by
  have m : a ∉ X := fun m => by
    rw [h a m] at e
    cases e
  rw [hide_out m]
  exact s a o e
/-- what is new since H -/
def fresh (H1 H2 : Hp) : Hp := fun a => match H1 a with
  | none => H2 a
  | some _ => none
theorem fresh_of {H1 H2 : Hp} {a : Addr} {o : HO} (h : fresh H1 H2 a = some o) : H1 a = none ∧ H2 a = some o := by
  unfold fresh at h
  cases e : H1 a with
  | none => rw [e] at h; exact ⟨rfl, h⟩
  | some _ => rw [e] at h; cases h
theorem fresh_at {H1 H2 : Hp} {a : Addr} {o : HO} (h : H1 a = none) (g : H2 a = some o) : fresh H1 H2 a = some o := by
  unfold fresh
  rw [h]
  exact g
theorem fresh_same (H1 H2 : Hp) : Same (fresh H1 H2) H2 := fun _ _ h => (fresh_of h).2
theorem fresh_hide {X : List Addr} {H1 H2 : Hp} (h : ∀ a ∈ X, H1 a ≠ none) : Same (fresh H1 H2) (hide X H2) := fun a o e => by
  obtain ⟨e1, e2⟩ := fresh_of e
  rw [hide_out fun m => h a m e1]
  exact e2
theorem same_none {H H1 : Hp} (s : Same H H1) {a : Addr} (h : H1 a = none) : H a = none := by
  cases e : H a with
  | none => rfl
  | some o => rw [s a o e] at h; cases h
theorem fresh_mono {H H1 H2 H3 : Hp} (s : Same H H1) (t : Same H2 H3) : Same (fresh H1 H2) (fresh H H3) := fun a o e => by
  obtain ⟨e1, e2⟩ := fresh_of e
  exact fresh_at (same_none s e1) (t _ _ e2)
theorem same_some {H H1 : Hp} (s : Same H H1) {a : Addr} (h : H a ≠ none) : H1 a ≠ none := fun e => h (same_none s e)

/-! ### targets -/
section
variable {K : PySem.W.Frag} {σ : L2.St} {H : Hp} {x : V} {d e f : PyData} {Q : L2.St → Hp → Prop} {i j k : Nat}
theorem DxA.tri {vs : List V} (h : DxA H vs [d, e, f]) : ∃ x y z, vs = [x, y, z] ∧ Dx H x d ∧ Dx H y e ∧ Dx H z f := by
  cases h with
  | cons h t =>
    obtain ⟨y, z, rfl, hy, hz⟩ := DxA.twoE t
    exact ⟨_, _, _, rfl, h, hy, hz⟩
theorem gt2 (h : Dx H x (.tuple [d, e])) (q : ∀ y z, Dx H y d → Dx H z e → Q ((σ.set i (some y)).set j (some z)) H) : gTup K 2 (gCons (gName i) (gCons (gName j) gNil)) x σ H Q := by
  obtain ⟨a, xs, rfl, h1, h2⟩ := h.tupE
  obtain ⟨y, z, rfl, hy, hz⟩ := h2.twoE
  exact ⟨a, _, rfl, .of h1, rfl, y, [z], rfl, z, [], rfl, rfl, q y z hy hz⟩
theorem gt3 (h : Dx H x (.tuple [d, e, f])) (q : ∀ y z w, Dx H y d → Dx H z e → Dx H w f → Q (((σ.set i (some y)).set j (some z)).set k (some w)) H) : gTup K 3 (gCons (gName i) (gCons (gName j) (gCons (gName k) gNil))) x σ H Q := by
  obtain ⟨a, xs, rfl, h1, h2⟩ := h.tupE
  obtain ⟨y, z, w, rfl, hy, hz, hw⟩ := h2.tri
  exact ⟨a, _, rfl, .of h1, rfl, y, [z, w], rfl, z, [w], rfl, w, [], rfl, rfl, q y z w hy hz hw⟩
end

/-! ### new data -/
def EvN (te : TE) (σ : L2.St) (H : Hp) (d : PyData) : Prop := ∀ H1, Same H H1 → ∀ Q : VK, (∀ v H2, Same H1 H2 → Dx (fresh H1 H2) v d → Q v H2) → te σ H1 Q
section
variable {K : PySem.W.Frag} {σ : L2.St} {H H' : Hp} {te ta : TE} {d : PyData} {ds : List PyData}
theorem EvN.mono (s : Same H H') (h : EvN te σ H d) : EvN te σ H' d := fun H1 a => h H1 (s.trans a)
theorem EvN.ev (h : EvN te σ H d) : EvD te σ H d := fun H1 s Q q => h H1 s Q fun v H2 s2 hv => q v H2 s2 (hv.mono (fresh_same _ _) d v)
theorem evn_int {i : Int} (h : EvD te σ H (.int i)) : EvN te σ H (.int i) := fun H1 s Q q => h H1 s Q fun v H2 s2 hv => q v H2 s2 (by rw [hv.intE]; exact .int i)
theorem DxA.intsAny {H H' : Hp} {xs : List V} {ns : List Int} (h : DxA H xs (ns.map PyData.int)) : DxA H' xs (ns.map PyData.int) := by
  rw [h.of_ints]
  exact DxA.ints ns
theorem evn_lstOfL {ns : List Int} (h : EvD te σ H (.list (ns.map PyData.int))) : EvN (tCB (rLstOf K) (tCons te tNil)) σ H (.list (ns.map PyData.int)) := fun H1 s Q q =>
  h H1 s _ fun v H2 s2 hv => by
    obtain ⟨a, xs, rfl, h1, h2⟩ := hv.lstE
    exact ⟨a, xs, rfl, .inl (.of h1), fun l hl => q _ _ (s2.trans (same_new hl)) (.lst (fresh_at (same_none s2 hl) upd_same) h2.intsAny)⟩
theorem evn_lstOfT {ns : List Int} (h : EvD te σ H (.tuple (ns.map PyData.int))) : EvN (tCB (rLstOf K) (tCons te tNil)) σ H (.list (ns.map PyData.int)) := fun H1 s Q q =>
  h H1 s _ fun v H2 s2 hv => by
    obtain ⟨a, xs, rfl, h1, h2⟩ := hv.tupE
    exact ⟨a, xs, rfl, .inr (.of h1), fun l hl => q _ _ (s2.trans (same_new hl)) (.lst (fresh_at (same_none s2 hl) upd_same) h2.intsAny)⟩
/-- [e for target in what is walked], each item new -/
theorem evn_lc {α : Type} {l : List α} {enc : α → PyData} {wi : TI} {g : TG} {te : TE} {vs : List Nat} (hw : Src wi σ H (l.map enc)) (f : α → PyData) (hl : l.length < sizeLine)
    (hb : ∀ (i : Nat) d x H', l[i]? = some d → Same H H' → Dx H' x (enc d) → g x (wipe σ vs) H' fun σ2 H2 => wipe σ2 vs = wipe σ vs ∧ Same H' H2 ∧ EvN te σ2 H2 (f d)) (hg : ∀ x (σ : L2.St) H (Q Q' : L2.St → Hp → Prop), (∀ σ H, Q σ H → Q' σ H) → g x σ H Q → g x σ H Q') :
    EvN (tLc wi g tYes te vs) σ H (.list (l.map f)) := fun H1 s Q q => hw H1 s _ fun J H2 G Y s2 w hG hY D nD => by
  have sH2 : Same H H2 := s.trans s2
  rw [List.length_map] at w hY
  refine lc_it w (fun i Hc => Same H2 Hc ∧ ∃ acc, Hc D = some (.lst acc) ∧ DxA (hide [D] (fresh H1 Hc)) acc ((l.take i).map f)) ⟨same_new nD, [], upd_same, .nil⟩ (fun i Hc _ z => hG Hc z.1) (fun i x Hc Hx hi z y => ?_) fun Hc z => ?_
  · obtain ⟨z1, acc, zD, za⟩ := z
    obtain ⟨s3, d0, ed0, hx⟩ := hY i Hc x Hx z1 hi y
    rw [List.getElem?_map] at ed0
    obtain ⟨d, ed, rfl⟩ := Option.map_eq_some_iff.mp ed0
    have tk : l.take (i + 1) = l.take i ++ [d] := by
      rw [List.take_add_one, ed]
      rfl
    refine hg _ _ _ _ _ (fun σ2 H3 z => ?_) (hb i d x Hx ed ((sH2.trans z1).trans s3) hx)
    obtain ⟨e1, s4, he⟩ := z
    refine ⟨e1, evt_yes.at (σ := σ2) (H := H3) fun H4 s45 => ?_⟩
    have s34 : Same Hc H4 := s3.trans (s4.trans s45)
    refine iteT ?_
    refine he H4 s45 _ fun y H5 s6 hy => ⟨acc, s6 _ _ (s34 _ _ zD), ?_, ?_⟩
    · rw [za.length, List.length_map]
      have := List.length_take_le i l
      omega
    · have s35 : Same Hc H5 := s34.trans s6
      have aD : H5 D = some (.lst acc) := s35 _ _ zD
      refine ⟨same_mut (z1.trans s35) nD, acc ++ [y], upd_same, ?_⟩
      have k1 : Same (hide [D] (fresh H1 Hc)) (hide [D] (fresh H1 (upd H5 D (.lst (acc ++ [y]))))) := fun a o e => by
        obtain ⟨m, e⟩ := hide_of e
        obtain ⟨e1, e2⟩ := fresh_of e
        rw [hide_out m]
        refine fresh_at e1 ?_
        rw [upd_ne fun z => m (by rw [z]; exact List.mem_singleton_self _)]
        exact s35 _ _ e2
      have k2 : Same (fresh H4 H5) (hide [D] (fresh H1 (upd H5 D (.lst (acc ++ [y]))))) := fun a o e => by
        obtain ⟨e1, e2⟩ := fresh_of e
        have ne : a ≠ D := fun z => by
          rw [z, s34 _ _ zD] at e1
          cases e1
        rw [hide_out (by simpa using ne)]
        refine fresh_at (same_none ((s2.trans z1).trans s34) e1) ?_
        rw [upd_ne ne]
        exact e2
      rw [tk, List.map_append]
      exact .snoc (za.mono k1 _ acc) (hy.mono k2 _ y)
  · obtain ⟨z1, acc, zD, za⟩ := z
    rw [List.take_length] at za
    refine q _ Hc (s2.trans z1) (.lst (fresh_at (same_none s2 nD) zD) (za.mono (hide_same _ _) _ acc))
/-! promises on new data -/
def spN (pre : List PyData → Prop) (post : List PyData → PyData → Prop) : Sp := fun vs H Q _ => ∃ ds, DxA H vs ds ∧ pre ds ∧ ∀ v H' d, post ds d → Same H H' → Dx (fresh H H') v d → Q v H'
theorem evn_call {pre : List PyData → Prop} {post : List PyData → PyData → Prop} {E : XK} {tr : TA} (h : EvA tr σ H ds) (hp : pre ds) (hq : ∀ e, post ds e → e = d) : EvN (tCall (spN pre post) [] E tr) σ H d := fun H1 s Q q =>
  h H1 s _ fun vs H2 s2 hv => ⟨ds, by rw [List.append_nil]; exact hv, hp, fun v H3 e pe s3 he => q v H3 (s2.trans s3) (by
    have z := hq e pe
    subst z
    exact he.mono (fresh_mono s2 (Same.refl _)) _ v)⟩
theorem spN_len {pre : List PyData → Prop} {post : List PyData → PyData → Prop} {n : Nat} (h : ∀ ds, pre ds → ds.length = n) (vs : List V) (H : Hp) (Q : VK) (E : XK) (q : spN pre post vs H Q E) : vs.length = n := by
  obtain ⟨ds, hv, hp, _⟩ := q
  rw [hv.length, h ds hp]
end
end K40
end

section
set_option Elab.async false
set_option linter.all false
set_option maxRecDepth 100000
set_option maxHeartbeats 4000000
namespace K40
open PySem PySem.Spec PyProof.Rows L2

/-! ### the text by places -/
def topS (i : Nat) : Stmt := PySem.Challenge.pw_oneanswer_k40_whole_trades_fall_apart.main.body.getD i (.Pass ⟨0, 0, 0, 0⟩)
abbrev s_is_whole : Stmt := topS 9
abbrev n_is_whole : List Str := ["value"]
theorem sc_is_whole : FnScope n_is_whole ["value"] (defScope s_is_whole) := ⟨rfl, rfl, rfl, by decide +kernel, rfl, by decide +kernel, by decide +kernel⟩
abbrev s_is_within : Stmt := topS 10
abbrev n_is_within : List Str := ["value", "least", "most"]
theorem sc_is_within : FnScope n_is_within ["value", "least", "most"] (defScope s_is_within) := ⟨rfl, rfl, rfl, by decide +kernel, rfl, by decide +kernel, by decide +kernel⟩
abbrev s_require_within : Stmt := topS 12
abbrev n_require_within : List Str := ["value", "least", "most"]
theorem sc_require_within : FnScope n_require_within ["value", "least", "most"] (defScope s_require_within) := ⟨rfl, rfl, rfl, by decide +kernel, rfl, by decide +kernel, by decide +kernel⟩
abbrev s_require_order : Stmt := topS 13
abbrev n_require_order : List Str := ["value"]
theorem sc_require_order : FnScope n_require_order ["value"] (defScope s_require_order) := ⟨rfl, rfl, rfl, by decide +kernel, rfl, by decide +kernel, by decide +kernel⟩
abbrev s_is_renaming_of : Stmt := topS 14
abbrev n_is_renaming_of : List Str := ["order", "value", "sign"]
theorem sc_is_renaming_of : FnScope n_is_renaming_of ["order", "value"] (defScope s_is_renaming_of) := ⟨rfl, rfl, rfl, by decide +kernel, rfl, by decide +kernel, by decide +kernel⟩
abbrev s_is_renaming : Stmt := topS 15
abbrev n_is_renaming : List Str := ["value"]
theorem sc_is_renaming : FnScope n_is_renaming ["value"] (defScope s_is_renaming) := ⟨rfl, rfl, rfl, by decide +kernel, rfl, by decide +kernel, by decide +kernel⟩
abbrev s_turned_back : Stmt := topS 16
abbrev n_turned_back : List Str := ["one", "found", "sign", "image"]
theorem sc_turned_back : FnScope n_turned_back ["one"] (defScope s_turned_back) := ⟨rfl, rfl, rfl, by decide +kernel, rfl, by decide +kernel, by decide +kernel⟩
abbrev s_Made_init : Stmt := inClass (topS 19) 1
abbrev n_Made_init : List Str := ["self", "rows"]
theorem sc_Made_init : FnScope n_Made_init ["self", "rows"] (defScope s_Made_init) := ⟨rfl, rfl, rfl, by decide +kernel, rfl, by decide +kernel, by decide +kernel⟩
abbrev s_are_rows : Stmt := topS 20
abbrev n_are_rows : List Str := ["value", "column", "row"]
theorem sc_are_rows : FnScope n_are_rows ["value"] (defScope s_are_rows) := ⟨rfl, rfl, rfl, by decide +kernel, rfl, by decide +kernel, by decide +kernel⟩
abbrev s_transposed : Stmt := topS 21
abbrev n_transposed : List Str := ["rows", "at", "row"]
theorem sc_transposed : FnScope n_transposed ["rows"] (defScope s_transposed) := ⟨rfl, rfl, rfl, by decide +kernel, rfl, by decide +kernel, by decide +kernel⟩
abbrev s_columns_of : Stmt := topS 22
abbrev n_columns_of : List Str := ["rows", "row"]
theorem sc_columns_of : FnScope n_columns_of ["rows"] (defScope s_columns_of) := ⟨rfl, rfl, rfl, by decide +kernel, rfl, by decide +kernel, by decide +kernel⟩
abbrev s_rows_of_signs : Stmt := topS 23
abbrev n_rows_of_signs : List Str := ["rows", "column"]
theorem sc_rows_of_signs : FnScope n_rows_of_signs ["rows"] (defScope s_rows_of_signs) := ⟨rfl, rfl, rfl, by decide +kernel, rfl, by decide +kernel, by decide +kernel⟩
abbrev s_rows_told : Stmt := topS 24
abbrev n_rows_told : List Str := ["rows"]
theorem sc_rows_told : FnScope n_rows_told ["rows"] (defScope s_rows_told) := ⟨rfl, rfl, rfl, by decide +kernel, rfl, by decide +kernel, by decide +kernel⟩
abbrev s_is_triple : Stmt := topS 25
abbrev n_is_triple : List Str := ["order", "value", "one"]
theorem sc_is_triple : FnScope n_is_triple ["order", "value"] (defScope s_is_triple) := ⟨rfl, rfl, rfl, by decide +kernel, rfl, by decide +kernel, by decide +kernel⟩
abbrev s_Table_init : Stmt := inClass (topS 26) 1
abbrev n_Table_init : List Str := ["self", "rows"]
theorem sc_Table_init : FnScope n_Table_init ["self", "rows"] (defScope s_Table_init) := ⟨rfl, rfl, rfl, by decide +kernel, rfl, by decide +kernel, by decide +kernel⟩
abbrev s_Table_cells : Stmt := inClass (topS 26) 6
abbrev n_Table_cells : List Str := ["self", "found", "row", "signs", "column", "sign"]
theorem sc_Table_cells : FnScope n_Table_cells ["self"] (defScope s_Table_cells) := ⟨rfl, rfl, rfl, by decide +kernel, rfl, by decide +kernel, by decide +kernel⟩
abbrev s_Table_eq : Stmt := inClass (topS 26) 14
abbrev n_Table_eq : List Str := ["self", "other"]
theorem sc_Table_eq : FnScope n_Table_eq ["self", "other"] (defScope s_Table_eq) := ⟨rfl, rfl, rfl, by decide +kernel, rfl, by decide +kernel, by decide +kernel⟩
abbrev s_table_with : Stmt := topS 27
abbrev n_table_with : List Str := ["rows"]
theorem sc_table_with : FnScope n_table_with ["rows"] (defScope s_table_with) := ⟨rfl, rfl, rfl, by decide +kernel, rfl, by decide +kernel, by decide +kernel⟩
abbrev s_require_table : Stmt := topS 28
abbrev n_require_table : List Str := ["value"]
theorem sc_require_table : FnScope n_require_table ["value"] (defScope s_require_table) := ⟨rfl, rfl, rfl, by decide +kernel, rfl, by decide +kernel, by decide +kernel⟩
abbrev s_require_two_tables : Stmt := topS 29
abbrev n_require_two_tables : List Str := ["one", "other"]
theorem sc_require_two_tables : FnScope n_require_two_tables ["one", "other"] (defScope s_require_two_tables) := ⟨rfl, rfl, rfl, by decide +kernel, rfl, by decide +kernel, by decide +kernel⟩
abbrev s_are_cells : Stmt := topS 32
abbrev n_are_cells : List Str := ["order", "value", "cell", "later"]
theorem sc_are_cells : FnScope n_are_cells ["order", "value"] (defScope s_are_cells) := ⟨rfl, rfl, rfl, by decide +kernel, rfl, by decide +kernel, by decide +kernel⟩
abbrev s_cells_by : Stmt := topS 33
abbrev n_cells_by : List Str := ["cells", "first", "second", "cell"]
theorem sc_cells_by : FnScope n_cells_by ["cells", "first", "second"] (defScope s_cells_by) := ⟨rfl, rfl, rfl, by decide +kernel, rfl, by decide +kernel, by decide +kernel⟩
abbrev s_is_partial_of : Stmt := topS 34
abbrev n_is_partial_of : List Str := ["order", "value", "first", "second"]
theorem sc_is_partial_of : FnScope n_is_partial_of ["order", "value"] (defScope s_is_partial_of) := ⟨rfl, rfl, rfl, by decide +kernel, rfl, by decide +kernel, by decide +kernel⟩
abbrev s_is_trade_of : Stmt := topS 35
abbrev n_is_trade_of : List Str := ["order", "value", "taken", "put", "one", "two", "cell", "cells"]
theorem sc_is_trade_of : FnScope n_is_trade_of ["order", "value"] (defScope s_is_trade_of) := ⟨rfl, rfl, rfl, by decide +kernel, rfl, by decide +kernel, by decide +kernel⟩
abbrev s_require_trade : Stmt := topS 36
abbrev n_require_trade : List Str := ["order", "value"]
theorem sc_require_trade : FnScope n_require_trade ["order", "value"] (defScope s_require_trade) := ⟨rfl, rfl, rfl, by decide +kernel, rfl, by decide +kernel, by decide +kernel⟩
abbrev s_Sides_init : Stmt := inClass (topS 37) 1
abbrev n_Sides_init : List Str := ["self", "trade", "taken", "put", "first", "second"]
theorem sc_Sides_init : FnScope n_Sides_init ["self", "trade"] (defScope s_Sides_init) := ⟨rfl, rfl, rfl, by decide +kernel, rfl, by decide +kernel, by decide +kernel⟩
abbrev s_Sides_beside : Stmt := inClass (topS 37) 2
abbrev n_Sides_beside : List Str := ["self", "cell", "is_taken", "tables", "table", "first", "second"]
theorem sc_Sides_beside : FnScope n_Sides_beside ["self", "cell", "is_taken"] (defScope s_Sides_beside) := ⟨rfl, rfl, rfl, by decide +kernel, rfl, by decide +kernel, by decide +kernel⟩
abbrev s_Sides_least_from : Stmt := inClass (topS 37) 3
abbrev n_Sides_least_from : List Str := ["self", "start", "found", "waits", "cell", "is_taken", "other"]
theorem sc_Sides_least_from : FnScope n_Sides_least_from ["self", "start"] (defScope s_Sides_least_from) := ⟨rfl, rfl, rfl, by decide +kernel, rfl, by decide +kernel, by decide +kernel⟩
abbrev s_least_trades : Stmt := topS 38
abbrev n_least_trades : List Str := ["trade", "sides", "found", "seen", "cell", "other"]
theorem sc_least_trades : FnScope n_least_trades ["trade"] (defScope s_least_trades) := ⟨rfl, rfl, rfl, by decide +kernel, rfl, by decide +kernel, by decide +kernel⟩
abbrev s_is_trade : Stmt := topS 39
abbrev n_is_trade : List Str := ["order", "value"]
theorem sc_is_trade : FnScope n_is_trade ["order", "value"] (defScope s_is_trade) := ⟨rfl, rfl, rfl, by decide +kernel, rfl, by decide +kernel, by decide +kernel⟩
abbrev s_is_least_trade : Stmt := topS 40
abbrev n_is_least_trade : List Str := ["order", "value"]
theorem sc_is_least_trade : FnScope n_is_least_trade ["order", "value"] (defScope s_is_least_trade) := ⟨rfl, rfl, rfl, by decide +kernel, rfl, by decide +kernel, by decide +kernel⟩
abbrev s_turned : Stmt := topS 41
abbrev n_turned : List Str := ["order", "trade"]
theorem sc_turned : FnScope n_turned ["order", "trade"] (defScope s_turned) := ⟨rfl, rfl, rfl, by decide +kernel, rfl, by decide +kernel, by decide +kernel⟩
abbrev s_falling : Stmt := topS 42
abbrev n_falling : List Str := ["order", "trade"]
theorem sc_falling : FnScope n_falling ["order", "trade"] (defScope s_falling) := ⟨rfl, rfl, rfl, by decide +kernel, rfl, by decide +kernel, by decide +kernel⟩
abbrev s_cells_apart : Stmt := topS 43
abbrev n_cells_apart : List Str := ["one", "other", "row", "column", "sign"]
theorem sc_cells_apart : FnScope n_cells_apart ["one", "other"] (defScope s_cells_apart) := ⟨rfl, rfl, rfl, by decide +kernel, rfl, by decide +kernel, by decide +kernel⟩
abbrev s_difference : Stmt := topS 44
abbrev n_difference : List Str := ["one", "other"]
theorem sc_difference : FnScope n_difference ["one", "other"] (defScope s_difference) := ⟨rfl, rfl, rfl, by decide +kernel, rfl, by decide +kernel, by decide +kernel⟩
abbrev s_has_all : Stmt := topS 45
abbrev n_has_all : List Str := ["table", "cells", "row", "column", "sign"]
theorem sc_has_all : FnScope n_has_all ["table", "cells"] (defScope s_has_all) := ⟨rfl, rfl, rfl, by decide +kernel, rfl, by decide +kernel, by decide +kernel⟩
abbrev s_is_within_table : Stmt := topS 46
abbrev n_is_within_table : List Str := ["table", "trade"]
theorem sc_is_within_table : FnScope n_is_within_table ["table", "trade"] (defScope s_is_within_table) := ⟨rfl, rfl, rfl, by decide +kernel, rfl, by decide +kernel, by decide +kernel⟩
abbrev s_is_within_tr : Stmt := topS 47
abbrev n_is_within_tr : List Str := ["table", "trade"]
theorem sc_is_within_tr : FnScope n_is_within_tr ["table", "trade"] (defScope s_is_within_tr) := ⟨rfl, rfl, rfl, by decide +kernel, rfl, by decide +kernel, by decide +kernel⟩
abbrev s_rows_with : Stmt := topS 49
abbrev n_rows_with : List Str := ["rows", "cells", "found", "row", "column", "sign"]
theorem sc_rows_with : FnScope n_rows_with ["rows", "cells"] (defScope s_rows_with) := ⟨rfl, rfl, rfl, by decide +kernel, rfl, by decide +kernel, by decide +kernel⟩
abbrev s_table_switched : Stmt := topS 50
abbrev n_table_switched : List Str := ["table", "trade"]
theorem sc_table_switched : FnScope n_table_switched ["table", "trade"] (defScope s_table_switched) := ⟨rfl, rfl, rfl, by decide +kernel, rfl, by decide +kernel, by decide +kernel⟩
abbrev s_switched : Stmt := topS 51
abbrev n_switched : List Str := ["table", "trade"]
theorem sc_switched : FnScope n_switched ["table", "trade"] (defScope s_switched) := ⟨rfl, rfl, rfl, by decide +kernel, rfl, by decide +kernel, by decide +kernel⟩
abbrev s_l_pot : Stmt := topS 53
abbrev n_l_pot : List Str := ["_law_script", "_law_at", "_law_cell", "_law_great", "_law_mixed"]
theorem sc_l_pot : FnScope n_l_pot ["_law_script", "_law_at"] (defScope s_l_pot) := ⟨rfl, rfl, rfl, by decide +kernel, rfl, by decide +kernel, by decide +kernel⟩
abbrev s_l_dip : Stmt := topS 54
abbrev n_l_dip : List Str := ["_law_pot_here", "_law_total", "_law_found", "_law_one", "_law_two_here"]
theorem sc_l_dip : FnScope n_l_dip ["_law_pot_here", "_law_total"] (defScope s_l_dip) := ⟨rfl, rfl, rfl, by decide +kernel, rfl, by decide +kernel, by decide +kernel⟩
abbrev s_l_pick : Stmt := topS 55
abbrev n_l_pick : List Str := ["_law_pot_here", "_law_items"]
theorem sc_l_pick : FnScope n_l_pick ["_law_pot_here", "_law_items"] (defScope s_l_pick) := ⟨rfl, rfl, rfl, by decide +kernel, rfl, by decide +kernel, by decide +kernel⟩
abbrev s_l_shaken : Stmt := topS 56
abbrev n_l_shaken : List Str := ["_law_pot_here", "_law_items", "_law_left", "_law_turn"]
theorem sc_l_shaken : FnScope n_l_shaken ["_law_pot_here", "_law_items"] (defScope s_l_shaken) := ⟨rfl, rfl, rfl, by decide +kernel, rfl, by decide +kernel, by decide +kernel⟩
abbrev s_l_across : Stmt := topS 57
abbrev n_l_across : List Str := ["_law_rows", "_law_at", "_law_row"]
theorem sc_l_across : FnScope n_l_across ["_law_rows"] (defScope s_l_across) := ⟨rfl, rfl, rfl, by decide +kernel, rfl, by decide +kernel, by decide +kernel⟩
abbrev s_l_switched_rows : Stmt := topS 58
abbrev n_l_switched_rows : List Str := ["_law_rows", "_law_one", "_law_other", "_law_column", "_law_found", "_law_spots", "_law_at", "_law_row"]
theorem sc_l_switched_rows : FnScope n_l_switched_rows ["_law_rows", "_law_one", "_law_other", "_law_column"] (defScope s_l_switched_rows) := ⟨rfl, rfl, rfl, by decide +kernel, rfl, by decide +kernel, by decide +kernel⟩
abbrev s_l_square : Stmt := topS 59
abbrev n_l_square : List Str := ["_law_pot_here", "_law_order", "_law_signs", "_law_found", "_law_lines", "_law_columns", "_law_line", "_law_turn", "_law_one", "_law_way", "_law_other", "_law_rows", "_law_column"]
theorem sc_l_square : FnScope n_l_square ["_law_pot_here", "_law_order"] (defScope s_l_square) := ⟨rfl, rfl, rfl, by decide +kernel, rfl, by decide +kernel, by decide +kernel⟩
abbrev s_l_table : Stmt := topS 60
abbrev n_l_table : List Str := ["_law_rows", "_law_row"]
theorem sc_l_table : FnScope n_l_table ["_law_rows"] (defScope s_l_table) := ⟨rfl, rfl, rfl, by decide +kernel, rfl, by decide +kernel, by decide +kernel⟩
abbrev s_l_parted : Stmt := topS 61
abbrev n_l_parted : List Str := ["_law_one", "_law_other", "_law_spots", "_law_row", "_law_taken", "_law_column"]
theorem sc_l_parted : FnScope n_l_parted ["_law_one", "_law_other"] (defScope s_l_parted) := ⟨rfl, rfl, rfl, by decide +kernel, rfl, by decide +kernel, by decide +kernel⟩
abbrev s_l_two : Stmt := topS 62
abbrev n_l_two : List Str := ["_law_pot_here", "_law_order", "_law_one", "_law_other", "_law_turn", "_law_at", "_law_to", "_law_row"]
theorem sc_l_two : FnScope n_l_two ["_law_pot_here", "_law_order"] (defScope s_l_two) := ⟨rfl, rfl, rfl, by decide +kernel, rfl, by decide +kernel, by decide +kernel⟩
abbrev s_l_pieces : Stmt := topS 63
abbrev n_l_pieces : List Str := ["_law_trade", "_law_left", "_law_found", "_law_one", "_law_waits", "_law_here", "_law_near", "_law_sides", "_law_at", "_law_cell", "_law_there", "_law_side"]
theorem sc_l_pieces : FnScope n_l_pieces ["_law_trade"] (defScope s_l_pieces) := ⟨rfl, rfl, rfl, by decide +kernel, rfl, by decide +kernel, by decide +kernel⟩
abbrev s_l_shared : Stmt := topS 64
abbrev n_l_shared : List Str := ["_law_one", "_law_other", "_law_at"]
theorem sc_l_shared : FnScope n_l_shared ["_law_one", "_law_other"] (defScope s_l_shared) := ⟨rfl, rfl, rfl, by decide +kernel, rfl, by decide +kernel, by decide +kernel⟩
abbrev s_l_joined : Stmt := topS 65
abbrev n_l_joined : List Str := ["_law_trades", "_law_sides", "_law_at", "_law_cells", "_law_trade"]
theorem sc_l_joined : FnScope n_l_joined ["_law_trades"] (defScope s_l_joined) := ⟨rfl, rfl, rfl, by decide +kernel, rfl, by decide +kernel, by decide +kernel⟩
abbrev s_l_walks : Stmt := topS 66
abbrev n_l_walks : List Str := ["_law_pot_here", "_law_table_here", "_law_other", "_law_pieces_here", "_law_left", "_law_at", "_law_piece", "_law_later"]
theorem sc_l_walks : FnScope n_l_walks ["_law_pot_here", "_law_table_here", "_law_other", "_law_pieces_here"] (defScope s_l_walks) := ⟨rfl, rfl, rfl, by decide +kernel, rfl, by decide +kernel, by decide +kernel⟩
abbrev s_l_right : Stmt := topS 67
abbrev n_l_right : List Str := ["_law_pot_here", "_law_order", "_law_one", "_law_other", "_law_trade", "_law_due", "_law_piece", "_law_some", "_law_both"]
theorem sc_l_right : FnScope n_l_right ["_law_pot_here"] (defScope s_l_right) := ⟨rfl, rfl, rfl, by decide +kernel, rfl, by decide +kernel, by decide +kernel⟩
abbrev s_law : Stmt := topS 68
abbrev n_law : List Str := ["_law_script", "_law_at", "_law_pieces_here", "_law_block", "_law_side", "_law_low", "_law_taken", "_law_signs", "_law_put", "_law_whole", "_law_row", "_law_column", "_law_sign", "_law_cell"]
theorem sc_law : FnScope n_law ["_law_script"] (defScope s_law) := ⟨rfl, rfl, rfl, by decide +kernel, rfl, by decide +kernel, by decide +kernel⟩

/-! ### the built-ins by their names -/
theorem bt_len : bootBuiltins "len" = some (.builtin "len") := by decide +kernel
theorem bt_isinstance : bootBuiltins "isinstance" = some (.builtin "isinstance") := by decide +kernel
theorem bt_all : bootBuiltins "all" = some (.builtin "all") := by decide +kernel
theorem bt_any : bootBuiltins "any" = some (.builtin "any") := by decide +kernel
theorem bt_sorted : bootBuiltins "sorted" = some (.builtin "sorted") := by decide +kernel
theorem bt_abs : bootBuiltins "abs" = some (.builtin "abs") := by decide +kernel
theorem bt_max : bootBuiltins "max" = some (.builtin "max") := by decide +kernel
theorem bt_min : bootBuiltins "min" = some (.builtin "min") := by decide +kernel
theorem bt_int : bootBuiltins "int" = some (.type "int") := by decide +kernel
theorem bt_bool : bootBuiltins "bool" = some (.type "bool") := by decide +kernel
theorem bt_tuple : bootBuiltins "tuple" = some (.type "tuple") := by decide +kernel
theorem bt_list : bootBuiltins "list" = some (.type "list") := by decide +kernel

/-! ### what the top leaves -/
structure Adr where
  cM : Addr
  cT : Addr
  cS : Addr
  iM : Addr
  iT : Addr
  iS : Addr
  pP : Addr
  p0 : Addr
  p1 : Addr
  p2 : Addr
  dMr : Addr
  dTh : Addr
  dTo : Addr
  dTp : Addr
  dTr : Addr
  dSp : Addr
  dSt : Addr
  pc : Addr
  fc : Addr
  fe : Addr
  fb : Addr
  fl : Addr
structure Txt (K : PySem.W.Frag) (mg : Str → Option Value) (a : Adr) : Prop where
  n_len : mg "len" = none
  n_isinstance : mg "isinstance" = none
  n_all : mg "all" = none
  n_any : mg "any" = none
  n_sorted : mg "sorted" = none
  n_abs : mg "abs" = none
  n_max : mg "max" = none
  n_min : mg "min" = none
  n_int : mg "int" = none
  n_bool : mg "bool" = none
  n_tuple : mg "tuple" = none
  n_list : mg "list" = none
  n_range : mg "range" = none
  n_enumerate : mg "enumerate" = none
  n_zip : mg "zip" = none
  g_MAX_ORDER : ∃ t, mg "MAX_ORDER" = some (.int 24 t)
  g_ENTRIES : ∃ t, mg "ENTRIES" = some (.int 3 t)
  g_PAIRINGS : mg "PAIRINGS" = some (.ref a.pP)
  sP : ∀ H, SqT K H a.pP [.ref a.p0, .ref a.p1, .ref a.p2]
  s0 : ∀ H, SqT K H a.p0 [.int 0, .int 1]
  s1 : ∀ H, SqT K H a.p1 [.int 0, .int 2]
  s2 : ∀ H, SqT K H a.p2 [.int 1, .int 2]
  g_Made : mg "Made" = some (.ref a.cM)
  g_Table : mg "Table" = some (.ref a.cT)
  g_Sides : mg "Sides" = some (.ref a.cS)
  c_Made : SlX.SCls K a.cM
  c_Table : SlX.SCls K a.cT
  c_Sides : SlX.SCls K a.cS
  mk_Made : Mk K a.cM a.iM
  mk_Table : Mk K a.cT a.iT
  mk_Sides : Mk K a.cS a.iS
  lM : SlX.Slot1 K a.cM "own_rows" a.dMr 0
  lTh : SlX.Slot1 K a.cT "own_heads" a.dTh 0
  lTo : SlX.Slot1 K a.cT "own_order" a.dTo 1
  lTp : SlX.Slot1 K a.cT "own_places" a.dTp 2
  lTr : SlX.Slot1 K a.cT "own_rows" a.dTr 3
  lSp : SlX.Slot1 K a.cS "own_put" a.dSp 0
  lSt : SlX.Slot1 K a.cS "own_taken" a.dSt 1
  iM : SlX.SIsi K a.cM
  iT : SlX.SIsi K a.cT
  kMM : PySem.W.kitOne K (.ref a.cM) (.ref a.cM) = some true
  kTT : PySem.W.kitOne K (.ref a.cT) (.ref a.cT) = some true
  ktM : PySem.W.kitOne K (.type "tuple") (.ref a.cM) = some false
  m_beside : Meth K a.cS "beside" a.fb
  m_least_from : Meth K a.cS "least_from" a.fl
  eqT : PySem.W.findIn K (.ref a.cT) "__eq__" = some (some (.ref a.fe))
  eqF : PySem.W.isFn K (.ref a.fe) = true
  eqN : PySem.W.notFirst K a.cT (.ref a.cT) = true
  pc1 : PySem.W.findIn K (.ref a.cT) "cells" = some (some (.ref a.pc))
  pc2 : PySem.W.specialIn K (.ref a.pc) "__get__" = some (some (.builtin "property.__get__"))
  pc3 : PySem.W.takesIn K (.ref a.pc) = some true
  pc4 : ∃ rest, PySem.W.recIn K a.pc "property" = some (.ref a.fc :: rest)

/-! ### calls of the text's own defs, in short -/
def Has (P : Program) (w : World) (K : PySem.W.Frag) (mg : Str → Option Value) (base : Heap) (k : Nat) (x : Str) (sp : Sp) : Prop :=
  ∃ (f : Addr) (fd : FuncData) (ps : List Str), FnOk P w K mg base CX0 k f fd ps sp ∧ mg x = some (.ref f) ∧ PySem.W.keepIn K (.ref f) = true ∧ Binds K fd ps []
theorem hu65_of {A : Around} {k : Nat} (hr : Room k A) : A.units + 65 < cLine := by
  have := hr.un
  omega
section
variable {X : Cx}
theorem pe_fn {k : Nat} {x : Str} {sp : Sp} {e : Expr} {es : List Expr} {t : TA} {p pos : Pos} (D : Has X.prog X.w X.K X.mg X.base k x sp) (hr : Room k X.A) (hg : Gl X x) (ha : PA X (e :: es) t) (hdb : (x == ("__debug__" : Str)) = false := by decide)
    (he : starEach (e :: es) X.env = (false, eval e X.env) :: starEach es X.env := by rfl) (hpl : (backTo pos (starEach es X.env)).any (·.1) = false := by rfl) : PE X (.Call (.Name x p) (e :: es) [] pos) (tCall sp [] E0 t) := by
  obtain ⟨f, fd, ps, F, hm, hk, hb⟩ := D
  exact pe_call F hr hg hm hk hb .nil pass0 ha hdb he hpl
/-- C(e, ..), C a class of the text's own -/
def HasI (P : Program) (w : World) (K : PySem.W.Frag) (mg : Str → Option Value) (base : Heap) (k : Nat) (f : Addr) (sp : Sp) : Prop :=
  ∃ (fd : FuncData) (ps : List Str), FnOk P w K mg base CX0 k f fd ps sp ∧ Binds K fd ps []
theorem pe_mk {k : Nat} {x : Str} {C f : Addr} {sp : Sp} {e : Expr} {es : List Expr} {t : TA} {p pos : Pos} (M : Mk X.K C f) (D : HasI X.prog X.w X.K X.mg X.base k f sp) (hr : Room (k + 1) X.A) (hg : Gl X x) (hm : X.mg x = some (.ref C)) (ha : PA X (e :: es) t) (hdb : (x == ("__debug__" : Str)) = false := by decide)
    (he : starEach (e :: es) X.env = (false, eval e X.env) :: starEach es X.env := by rfl) (hpl : (backTo pos (starEach es X.env)).any (·.1) = false := by rfl) : PE X (.Call (.Name x p) (e :: es) [] pos) (tMake C sp [] E0 t) := by
  obtain ⟨fd, ps, F, hb⟩ := D
  exact pe_make M F hr hg hm hb .nil pass0 ha hdb he hpl
theorem HasI.r {P : Program} {w : World} {K : PySem.W.Frag} {mg : Str → Option Value} {base : Heap} {k : Nat} {f : Addr} {sp : Sp} (D : HasI P w K mg base k f sp) : FnR P w K mg base CX0 k f sp := by
  obtain ⟨fd, ps, F, hb⟩ := D
  exact (F.raw hb .nil).imp fun vs H Q E h => by rw [List.append_nil]; exact h
theorem HasI.mono {P : Program} {w : World} {K : PySem.W.Frag} {mg : Str → Option Value} {base : Heap} {j k : Nat} {f : Addr} {sp : Sp} (D : HasI P w K mg base j f sp) (h : j ≤ k) : FnR P w K mg base CX0 k f sp := D.r.mono h
theorem pe_globI {x : Str} {i : Int} {pos : Pos} (hg : Gl X x) (hm : ∃ t, X.mg x = some (.int i t)) (hd : (x == ("__debug__" : Str)) = false := by decide) : PE X (.Name x pos) (tC (.int i)) := by
  obtain ⟨t, hm⟩ := hm
  exact pe_glob hg hm ⟨t, rfl⟩ hd
/-- isinstance, of what is built in or of an instance with slots -/
def rIsiA (K : PySem.W.Frag) : List V → Hp → VK → Prop := fun xs H Q => rIsi K xs H Q ∨ ∃ u, SlX.rIsiSl K u xs H Q
theorem call_isiA : CallR X (.builtin "isinstance") (rIsiA X.K) := by
  intro pins s σ H xs us Q I r h
  rcases h with h | ⟨u, h⟩
  · exact call_isi pins s σ H xs us Q I r h
  · exact SlX.call_isiSl u pins s σ H xs us Q I r h
end
/-! ### the rules with the text's facts named, so that they stand within comprehensions too -/
section
variable {X : Cx} (K : PySem.W.Frag)
theorem ix_listK (h : X.K = K := by rfl) : IxR X (rIxL K) := by subst h; exact ix_list
theorem ix_tupK (h : X.K = K := by rfl) : IxR X (rIxT K) := by subst h; exact ix_tup
theorem call_lenK (h : X.K = K := by rfl) : CallR X (.builtin "len") (K40.rLenS K) := by subst h; exact call_len_seq
theorem call_isiK (h : X.K = K := by rfl) : CallR X (.builtin "isinstance") (rIsiA K) := by subst h; exact call_isiA
theorem call_tupK (h : X.K = K := by rfl) : CallR X (.type "tuple") (rTupOf K) := by subst h; exact call_tuple_of
theorem call_lstK (h : X.K = K := by rfl) : CallR X (.type "list") (rLstOf K) := by subst h; exact call_list_of
theorem cr_allK (hc : X.calm = true) (h : X.K = K := by rfl) : CallR X (.builtin "all") (rAll K) := by subst h; exact cr_all hc
theorem cr_anyK (hc : X.calm = true) (h : X.K = K := by rfl) : CallR X (.builtin "any") (rAny K) := by subst h; exact cr_any hc
theorem cr_sortedK (hu : X.A.units + 64 < cLine) (h : X.K = K := by rfl) : CallR X (.builtin "sorted") (rSortD K) := by subst h; exact cr_sortedD hu
theorem sl_listK (h : X.K = K := by rfl) : SlR X (rSlL K) := by subst h; exact sl_list
theorem sl_tupK (h : X.K = K := by rfl) : SlR X (rSlT K) := by subst h; exact sl_tup
theorem op_eqK (hu : X.A.units + 64 < cLine) (h : X.K = K := by rfl) : OpR X (compareOp .Eq) (rEqD K) := by subst h; exact op_eqD hu
theorem op_neK (hu : X.A.units + 64 < cLine) (h : X.K = K := by rfl) : OpR X (compareOp .NotEq) (rNeD K) := by subst h; exact op_neD hu
theorem op_inK (hu : X.A.units + 65 < cLine) (h : X.K = K := by rfl) : OpR X (compareOp .In) (rInT K) := by subst h; exact op_inT hu
theorem op_notInK (hu : X.A.units + 65 < cLine) (h : X.K = K := by rfl) : OpR X (compareOp .NotIn) (rNotInD K) := by subst h; exact op_notInD hu
theorem op_ltK (hu : X.A.units < cLine) (h : X.K = K := by rfl) : OpR X (compareOp .Lt) (rLtT K) := by subst h; exact op_ltT hu
theorem mt_indexK (h : X.K = K := by rfl) : MtR X "list.index" (rIndex K) := by subst h; exact mt_index
theorem pi_listK {tg l : Expr} {tl : TE} (hl : PE X l tl) (h : X.K = K := by rfl) : PI X tg l (iList K tl) := by subst h; exact pi_list hl
theorem pi_tupK {tg l : Expr} {tl : TE} (hl : PE X l tl) (h : X.K = K := by rfl) : PI X tg l (iTup K tl) := by subst h; exact pi_tup hl
theorem pi_enumK {e : Expr} {ta : TA} {p pos tpos : Pos} {elts : List Expr} {kk : Nat} (hg : Gl X "enumerate") (hm : X.mg "enumerate" = none) (ha : PA X [e] ta) (h : X.K = K := by rfl) (hs : starEach [e] X.env = [(false, eval e X.env)] := by rfl) :
    PI X (.Tuple elts kk tpos) (.Call (.Name "enumerate" p) [e] [] pos) (iEnumT K ta) := by subst h; exact pi_enumT hg hm ha hs
theorem pi_zipK {e e2 : Expr} {ta : TA} {p pos tpos : Pos} {elts : List Expr} {kk : Nat} (hg : Gl X "zip") (hm : X.mg "zip" = none) (ha : PA X [e, e2] ta) (h : X.K = K := by rfl)
    (hs : starEach [e, e2] X.env = (false, eval e X.env) :: starEach [e2] X.env := by rfl) (hpl : (backTo pos (starEach [e2] X.env)).any (·.1) = false := by rfl) :
    PI X (.Tuple elts kk tpos) (.Call (.Name "zip" p) [e, e2] [] pos) (RZ.iZipA K ta) := by subst h; exact RZ.pi_zipA hg hm ha hs hpl
theorem pg_tupK {es : List Expr} {k : Nat} {t : TGs} {n : Nat} {pos : Pos} (hc : X.calm = true) (hp : PGs X es t) (h : X.K = K := by rfl)
    (hn : (assignEach es X.env).length = n := by rfl) (hst : (assignEach es X.env).findIdx? (·.1) = none := by rfl) : PG X (.Tuple es k pos) (gTup K n t) := by subst h; exact pg_tup hc hp hn hst
theorem pe_slK {e : Expr} {f : Str} {pos : Pos} {ta : TE} (he : PE X e ta) (h : X.K = K := by rfl) (hb : attributeBase e f X.env (eval e X.env) = eval e X.env := by rfl) : PE X (.Attribute e f pos) (SlX.tSl K ta f) := by subst h; exact SlX.pe_sl he hb
theorem pe_bmK {o e : Expr} {es : List Expr} {to : TE} {t : TA} {name : Str} {apos cpos : Pos} {T id : String} {r : V → List V → Hp → VK → Prop} (pa : PlainAttrs T) (slot : Slot T name id) (hty : typeOf (.builtin id) = pure (.type "method_descriptor")) (hm : MtR X id r) (ho : PE X o to) (ha : PA X (e :: es) t)
    (h : X.K = K := by rfl) (hbase : attributeBase o name X.env (eval o X.env) = eval o X.env := by rfl)
    (hfew : ((backTo cpos (starEach (e :: es) X.env)).all (fun x => !x.1) && (backToKw cpos (keywordEach [] X.env)).all (fun x => x.1.isSome)
      && decide ((e :: es).length + ([] : List Keyword).length + (if ([] : List Keyword).isEmpty then 0 else 1) < 30)) = true := by rfl)
    (hline : (apos.endLine == cpos.line) = true := by rfl) (hs : starEach (e :: es) X.env = (false, eval e X.env) :: starEach es X.env := by rfl) (hplain : (backTo cpos (starEach es X.env)).any (·.1) = false := by rfl) :
    PE X (.Call (.Attribute o name apos) (e :: es) [] cpos) (tBM K T r to t) := by subst h; exact pe_bm pa slot hty hm ho ha hbase hfew hline hs hplain
end
section
variable {K : PySem.W.Frag} {mg : Str → Option Value} {a : Adr} {σ : L2.St} {H : Hp} {ta tc : TE} {d : PyData}
/-- isinstance(x, T) -/
theorem evd_isiInt {n : Int} {t : String} {b : Bool} (h : EvD ta σ H (.int n)) (hb : kitB "int" t = some b) : EvD (tCB (rIsiA K) (tCons ta (tCons (tC (.ty t)) tNil))) σ H (.bool b) := fun H1 s Q q =>
  h H1 s _ fun v H2 s2 hv => .inl ⟨v, .ty t, .type "int", .type t, b, rfl, .ty t, .base (by rw [hv.intE]; exact .int n), kit_ty hb, q _ H2 s2 (.bl b)⟩
theorem evd_isiTup {ds : List PyData} {t : String} {b : Bool} (h : EvD ta σ H (.tuple ds)) (hb : kitB "tuple" t = some b) : EvD (tCB (rIsiA K) (tCons ta (tCons (tC (.ty t)) tNil))) σ H (.bool b) := fun H1 s Q q =>
  h H1 s _ fun v H2 s2 hv => by
    obtain ⟨c, xs, rfl, h1, h2⟩ := hv.tupE
    exact .inl ⟨.ref c, .ty t, .type "tuple", .type t, b, rfl, .ty t, .base (.tup h1), kit_ty hb, q _ H2 s2 (.bl b)⟩
theorem evd_isiTupC {ds : List PyData} {C : Addr} {b : Bool} (h : EvD ta σ H (.tuple ds)) (hb : PySem.W.kitOne K (.type "tuple") (.ref C) = some b) : EvD (tCB (rIsiA K) (tCons ta (tCons (tC (.ref C)) tNil))) σ H (.bool b) := fun H1 s Q q =>
  h H1 s _ fun v H2 s2 hv => by
    obtain ⟨c, xs, rfl, h1, h2⟩ := hv.tupE
    exact .inl ⟨.ref c, .ref C, .type "tuple", .ref C, b, rfl, .own C, .base (.tup h1), hb, q _ H2 s2 (.bl b)⟩
theorem evd_isiTab {n : Int} {C : Addr} {b : Bool} (T : SlX.SCls K C) (T2 : SlX.SIsi K C) (h : EvD ta σ H (.dict [(.int (C : Nat), .int n), (.none, d)])) (hb : PySem.W.kitOne K (.ref C) (.ref C) = some b) : EvD (tCB (rIsiA K) (tCons ta (tCons (tC (.ref C)) tNil))) σ H (.bool b) := fun H1 s Q q =>
  h H1 s _ fun v H2 s2 hv => by
    obtain ⟨x, dx, u, p, r, rfl, h1, h2⟩ := hv.tabE
    exact .inr ⟨.ref C, x, C, dx, _, .ref C, b, rfl, rfl, fun w e => e, h1, T, T2, hb, q _ H2 s2 (.bl b)⟩
/-- a table's slots -/
theorem evd_rows {n : Int} (T : Txt K mg a) (h : EvD ta σ H (.dict [(.int (a.cT : Nat), .int n), (.none, d)])) : EvD (SlX.tSl K ta "own_rows") σ H d := fun H1 s Q q =>
  h H1 s _ fun v H2 s2 hv => by
    obtain ⟨x, dx, u, p, r, rfl, h1, h2⟩ := hv.tabE
    exact ⟨x, a.cT, dx, a.dTr, _, 3, r, rfl, h1, T.c_Table, T.lTr, rfl, q _ H2 s2 h2⟩
theorem evd_order {n : Int} (T : Txt K mg a) (h : EvD ta σ H (.dict [(.int (a.cT : Nat), .int n), (.none, d)])) : EvD (SlX.tSl K ta "own_order") σ H (.int n) := fun H1 s Q q =>
  h H1 s _ fun v H2 s2 hv => by
    obtain ⟨x, dx, u, p, r, rfl, h1, h2⟩ := hv.tabE
    exact ⟨x, a.cT, dx, a.dTo, _, 1, .int n, rfl, h1, T.c_Table, T.lTo, rfl, q _ H2 s2 (.int n)⟩
end
end K40
end

section
set_option Elab.async false
set_option linter.all false
set_option maxRecDepth 100000
set_option maxHeartbeats 4000000
namespace K40
open PySem PySem.Spec PyProof.Rows L2
theorem spD_len {pre : List PyData → Prop} {post : List PyData → PyData → Prop} {n : Nat} (h : ∀ ds, pre ds → ds.length = n) (vs : List V) (H : Hp) (Q : VK) (E : XK) (q : spD pre post vs H Q E) : vs.length = n := by
  obtain ⟨ds, hv, hp, _⟩ := q
  rw [hv.length, h ds hp]
theorem DxA.threeE {H : Hp} {d e f : PyData} {vs : List V} (h : DxA H vs [d, e, f]) : ∃ x y z, vs = [x, y, z] ∧ Dx H x d ∧ Dx H y e ∧ Dx H z f := by
  cases h with
  | cons h t =>
    obtain ⟨y, z, rfl, hy, hz⟩ := DxA.twoE t
    exact ⟨_, _, _, rfl, h, hy, hz⟩
theorem evd_allT {K : PySem.W.Frag} {σ : L2.St} {H : Hp} {ta : TE} {ds : List PyData} (h : EvD ta σ H (.list ds)) (hd : ∀ d ∈ ds, d = .bool true) : EvD (tCB (rAll K) (tCons ta tNil)) σ H (.bool true) := by
  have e : ds = (ds.map fun _ => true).map PyData.bool := by
    rw [List.map_map]
    conv => lhs; rw [← List.map_id ds]
    exact List.map_congr_left fun d m => hd d m
  rw [e] at h
  exact evd_all h (by simp)
theorem sorted_ren {ns : List Int} {n : Nat} (h : ns.Perm (rgI n)) : (ns.map PyData.int).mergeSort dLe = (rgI n).map PyData.int := by
  rw [merge_map PyData.int ns]
  congr 1
  have le : (fun a b => dLe (PyData.int a) (PyData.int b)) = fun a b => decide (a ≤ b) := PySem.W.dataLe_int (fun i : Int => i)
  rw [le]
  refine perm_sorted_eq (le := fun a b : Int => a ≤ b) (fun a b h g => Int.le_antisymm h g) ((List.mergeSort_perm _ _).trans h) ?_ ?_
  · have lab : ∀ a b : Int, dLe (.int a) (.int b) = decide (a ≤ b) := fun a b => congrFun (congrFun le a) b
    have z := merge_pair PyData.int ns
    rw [le] at z
    exact z.imp fun h => of_decide_eq_true ((lab _ _).symm.trans h)
  · unfold rgI
    rw [List.pairwise_map]
    exact List.pairwise_lt_range.imp fun h => by omega
theorem evd_listRg {σ : L2.St} {H : Hp} {te : TE} {n : Nat} (h : EvD te σ H (.int (n : Int))) (hn : n ≤ 100000) : EvD (tLstRg (tRg1 te)) σ H (.list ((rgI n).map PyData.int)) := fun H1 s Q q =>
  h H1 s _ fun v H2 s2 hv => ⟨(n : Int), hv.intE, RgOk.of_le (Int.le_refl 0) (by omega) (by omega) (by omega), fun p hp => q _ _ (s2.trans (same_new hp)) (.lst upd_same (by
    have e : rgV 0 (n : Int) = (rgI n).map V.int := by
      unfold rgV rgI
      rw [List.map_map]
      have e1 : ((n : Int) - 0).toNat = n := by omega
      rw [e1]
      apply List.map_congr_left
      intro i _
      show V.int (0 + (i : Int)) = V.int (i : Int)
      rw [Int.zero_add]
    rw [e]
    exact DxA.ints _))⟩
section
variable {P : Program} {w : World} {K : PySem.W.Frag} {mg : Str → Option Value} {base : Heap} {a : Adr} {f : Addr} {fd : FuncData}
def sp_is_whole : Sp := spD (fun ds => ∃ i, ds = [.int i]) (fun _ d => d = .bool true)
theorem ok_is_whole (F : Fun K "is_whole" "is_whole" s_is_whole f fd) (T : Txt K mg a) : FnOk P w K mg base CX0 1 f fd ["value"] sp_is_whole := by
  refine F.ok sc_is_whole (spD_len fun ds ⟨i, e⟩ => by rw [e]; rfl) (fun cdv A outer s H vs Q E hr h => ?_)
  obtain ⟨ds, hv, ⟨i, rfl⟩, q⟩ := h
  obtain ⟨v, rfl, hx⟩ := hv.oneE
  refine ⟨_, (pss_one (ps_ret (pe_and (pe_callB (call_isiK K) (by rfl) T.n_isinstance bt_isinstance (pa_cons (pv 0) (pa_cons (pe_bltn (v := .ty "int") (by rfl) T.n_int bt_int rfl) pa_nil))) (pe_one (pe_not (pe_callB (call_isiK K) (by rfl) T.n_isinstance bt_isinstance (pa_cons (pv 0) (pa_cons (pe_bltn (v := .ty "bool") (by rfl) T.n_bool bt_bool rfl) pa_nil)))))))), ?_⟩
  exact sd_ret (evd_andT (evd_isiInt (evd_var rfl hx) rfl) (evd_notV (b := false) (evd_isiInt (evd_var rfl hx) rfl))) fun v H2 s2 hd => q v H2 _ rfl s2 hd
def sp_is_within : Sp := spD (fun ds => ∃ i lo hi : Int, ds = [.int i, .int lo, .int hi] ∧ lo ≤ i ∧ i ≤ hi) (fun _ d => d = .bool true)
theorem ok_is_within (F : Fun K "is_within" "is_within" s_is_within f fd) (T : Txt K mg a) (D_is_whole : Has P w K mg base 1 "is_whole" sp_is_whole) : FnOk P w K mg base CX0 2 f fd ["value", "least", "most"] sp_is_within := by
  refine F.ok sc_is_within (spD_len fun ds ⟨i, lo, hi, e, _⟩ => by rw [e]; rfl) (fun cdv A outer s H vs Q E hr h => ?_)
  obtain ⟨ds, hv, ⟨i, lo, hi, rfl, h1, h2⟩, q⟩ := h
  obtain ⟨x, y, z, rfl, hx, hy, hz⟩ := hv.threeE
  refine ⟨_, (pss_one (ps_ret (pe_and (pe_fn D_is_whole (hr.mono (by decide)) (by rfl) (pa_cons (pv 0) pa_nil)) (pe_one (pe_chain op_le op_le (pv 1) (pv 0) (pv 2)))))), ?_⟩
  exact sd_ret (evd_andT (evd_call (eva_cons (evd_var rfl hx) eva_nil) ⟨i, rfl⟩ fun e h => h) (evd_chain (g := fun i j => decide (i ≤ j)) (g' := fun i j => decide (i ≤ j)) (evd_var rfl hy) (evd_var rfl hx) (evd_var rfl hz) (decide_eq_true h1) (decide_eq_true h2))) fun v H2 s2 hd => q v H2 _ rfl s2 hd
def sp_require_within : Sp := spD (fun ds => ∃ i lo hi : Int, ds = [.int i, .int lo, .int hi] ∧ lo ≤ i ∧ i ≤ hi) (fun _ d => d = .none)
theorem ok_require_within (F : Fun K "require_within" "require_within" s_require_within f fd) (T : Txt K mg a) (D_is_within_renamings : Has P w K mg base 2 "is_within_renamings" sp_is_within) : FnOk P w K mg base CX0 3 f fd ["value", "least", "most"] sp_require_within := by
  refine F.ok sc_require_within (spD_len fun ds ⟨i, lo, hi, e, _⟩ => by rw [e]; rfl) (fun cdv A outer s H vs Q E hr h => ?_)
  obtain ⟨ds, hv, ⟨i, lo, hi, rfl, h1, h2⟩, q⟩ := h
  obtain ⟨x, y, z, rfl, hx, hy, hz⟩ := hv.threeE
  refine ⟨_, (pss_one (ps_if (pt_not (pt_val (pe_fn D_is_within_renamings (hr.mono (by decide)) (by rfl) (pa_cons (pv 0) (pa_cons (pv 1) (pa_cons (pv 2) pa_nil)))))) pss_never pss_nil)), ?_⟩
  exact sd_ifF (evt_notT (evt_B (evd_call (eva_cons (evd_var rfl hx) (eva_cons (evd_var rfl hy) (eva_cons (evd_var rfl hz) eva_nil))) ⟨i, lo, hi, rfl, h1, h2⟩ fun e h => h))) fun H2 s2 => q .non H2 _ rfl s2 .non
def sp_require_order : Sp := spD (fun ds => ∃ i : Int, ds = [.int i] ∧ 1 ≤ i ∧ i ≤ 24) (fun _ d => d = .none)
theorem ok_require_order (F : Fun K "require_order" "require_order" s_require_order f fd) (T : Txt K mg a) (D_require_within : Has P w K mg base 3 "require_within" sp_require_within) : FnOk P w K mg base CX0 4 f fd ["value"] sp_require_order := by
  refine F.ok sc_require_order (spD_len fun ds ⟨i, e, _⟩ => by rw [e]; rfl) (fun cdv A outer s H vs Q E hr h => ?_)
  obtain ⟨ds, hv, ⟨i, rfl, h1, h2⟩, q⟩ := h
  obtain ⟨x, rfl, hx⟩ := hv.oneE
  refine ⟨_, (pss_one (ps_expr (pe_fn D_require_within (hr.mono (by decide)) (by rfl) (pa_cons (pv 0) (pa_cons pe_int (pa_cons (pe_globI (by rfl) T.g_MAX_ORDER) pa_nil)))))), ?_⟩
  exact sd_drop (evd_call (eva_cons (evd_var rfl hx) (eva_cons evd_int (eva_cons evd_int eva_nil))) ⟨i, 1, 24, rfl, h1, h2⟩ fun e h => h) fun v H2 s2 hd => q .non H2 _ rfl s2 .non
def sp_is_renaming_of : Sp := spD (fun ds => ∃ (n : Nat) (ns : List Int), ds = [.int n, eRt ns] ∧ IsRen n ns ∧ n ≤ 24) (fun _ d => d = .bool true)
theorem ok_is_renaming_of (F : Fun K "is_renaming_of" "is_renaming_of" s_is_renaming_of f fd) (T : Txt K mg a) (D_is_within_renamings : Has P w K mg base 2 "is_within_renamings" sp_is_within) : FnOk P w K mg base CX0 3 f fd ["order", "value"] sp_is_renaming_of := by
  refine F.ok sc_is_renaming_of (spD_len fun ds ⟨n, ns, e, _⟩ => by rw [e]; rfl) (fun cdv A outer s H vs Q E hr h => ?_)
  obtain ⟨ds, hv, ⟨n, ns, rfl, h1, h2⟩, q⟩ := h
  obtain ⟨x, y, rfl, hx, hy⟩ := hv.twoE
  refine ⟨_, (pss_cons (ps_if (PW.pt (pw_or (pt_not (pt_val (pe_callB (call_isiK K) (by rfl) T.n_isinstance bt_isinstance (pa_cons (pv 1) (pa_cons (pe_bltn (v := .ty "tuple") (by rfl) T.n_tuple bt_tuple rfl) pa_nil))))) (pw_or1 (pt_cmpR op_ne (pe_callB (call_lenK K) (by rfl) T.n_len bt_len (pa_cons (pv 1) pa_nil)) (pv 0) (nomark _))))) (pss_one (ps_ret pe_bl)) pss_nil) (pss_cons (ps_if (pt_not (pt_val (pe_callB (cr_allK K rfl) (by rfl) T.n_all bt_all (pa_cons (pe_lc (own := [("sign", 2)]) (by rfl) sc_is_renaming_of.nd (pi_tupK K (pv 1)) (blkOk_by (N := n_is_renaming_of) (sc := defScope s_is_renaming_of) (by decide +kernel)) (fun _ _ _ _ _ => (pg_name (i := 2) sc_is_renaming_of.nd rfl (by first | exact Or.inl rfl | exact Or.inr rfl))) (fun _ _ _ _ _ => pts_nil) (fun _ _ _ _ _ => (pe_fn D_is_within_renamings (hr.mono (by decide)) (by rfl) (pa_cons (pv 2) (pa_cons pe_int (pa_cons (pe_op op_sub (pv 0) pe_int) pa_nil)))))) pa_nil)))) (pss_one (ps_ret pe_bl)) pss_nil) (pss_one (ps_ret (pe_cmpR (op_eqK K hr.units) (pe_callB (cr_sortedK K hr.units) (by rfl) T.n_sorted bt_sorted (pa_cons (pv 1) pa_nil)) (pe_listRg rfl (by rfl) T.n_list (prg_1 (by rfl) T.n_range (pv 0))) (nomark _)))))), ?_⟩
  have ln : (ns.map PyData.int).length = n := by rw [List.length_map, h1.len]
  refine sd_ifF (evt_orF (evt_notT (evt_B (evd_isiTup (evd_var rfl hy) rfl))) (evt_test (evd_neI (evd_lenT (evd_var rfl hy)) (evd_var rfl hx) (by rw [ln]; simp)))) fun H2 s2 => ?_
  have hx2 := hx.mono s2 _ x
  have hy2 := hy.mono s2 _ y
  refine sd_ifF (evt_notT (evt_B (evd_allT (evd_lc (ds := ns.map PyData.int) (src_tup (evd_var rfl hy2)) (fun _ => .bool true) (by rw [ln, sizeLine_eq]; omega) (fun i d z H' e s3 hz => ?_) gm_name) (fun d m => by obtain ⟨_, _, e⟩ := List.mem_map.mp m; exact e.symm)))) fun H3 s3 => ?_
  · obtain ⟨k, hk, rfl⟩ := List.mem_map.mp (List.mem_of_getElem? e)
    have b := h1.mem hk
    exact ⟨rfl, Same.refl _, evd_call (eva_cons (evd_var rfl hz) (eva_cons evd_int (eva_cons (evd_I0 (evd_var rfl (hx2.mono s3 _ x)) evd_int fun _ => .int _) eva_nil))) ⟨k, 0, (n : Int) - 1, rfl, b.1, by omega⟩ fun e h => h, rfl⟩
  · refine sd_ret (evd_eqD (b := true) (evd_sorted (ds := ns.map PyData.int) (evd_var rfl (hy2.mono s3 _ y)) (.inr rfl) (pureA_map (fun _ => rfl) ns) ?_ ?_ ?_) (evd_listRg (n := n) (evd_var rfl (hx2.mono s3 _ x)) (by omega)) ?_ ?_ ?_ ?_ ?_) fun v H4 s4 hd => q v H4 _ rfl ((s2.trans s3).trans s4) hd
    · exact PySem.W.AllAlike.of fun _ _ => rfl
    · exact PySem.W.Sortable.others (enc := PyData.int) fun b => ⟨(by intro z; cases z), (by intro _ z; cases z)⟩
    · intro d m
      obtain ⟨k, _, rfl⟩ := List.mem_map.mp m
      simp [PyData.depth]
    · rw [sorted_ren h1, pure']
      exact pureA_map (fun _ => rfl) _
    · rw [pure']
      exact pureA_map (fun _ => rfl) _
    · rw [sorted_ren h1, PyData.depth, PySem.W.depth_ints]
      omega
    · rw [PyData.depth, PySem.W.depth_ints]
      omega
    · refine eqv_true ?_ (by rw [sorted_ren h1])
      rw [sorted_ren h1, pure']
      exact pureA_map (fun _ => rfl) _
def sp_is_renaming : Sp := spD (fun ds => ∃ (ns : List Int), ds = [eRt ns] ∧ IsRen ns.length ns ∧ 1 ≤ ns.length ∧ ns.length ≤ 24) (fun _ d => d = .bool true)
theorem ok_is_renaming (F : Fun K "is_renaming" "is_renaming" s_is_renaming f fd) (T : Txt K mg a) (D_is_renaming_of : Has P w K mg base 3 "is_renaming_of" sp_is_renaming_of) : FnOk P w K mg base CX0 4 f fd ["value"] sp_is_renaming := by
  refine F.ok sc_is_renaming (spD_len fun ds ⟨ns, e, _⟩ => by rw [e]; rfl) (fun cdv A outer s H vs Q E hr h => ?_)
  obtain ⟨ds, hv, ⟨ns, rfl, h1, h2, h3⟩, q⟩ := h
  obtain ⟨y, rfl, hy⟩ := hv.oneE
  refine ⟨_, (pss_one (ps_ret (pe_and (pe_callB (call_isiK K) (by rfl) T.n_isinstance bt_isinstance (pa_cons (pv 0) (pa_cons (pe_bltn (v := .ty "tuple") (by rfl) T.n_tuple bt_tuple rfl) pa_nil))) (pe_and (pe_chain op_le op_le pe_int (pe_callB (call_lenK K) (by rfl) T.n_len bt_len (pa_cons (pv 0) pa_nil)) (pe_globI (by rfl) T.g_MAX_ORDER)) (pe_one (pe_fn D_is_renaming_of (hr.mono (by decide)) (by rfl) (pa_cons (pe_callB (call_lenK K) (by rfl) T.n_len bt_len (pa_cons (pv 0) pa_nil)) (pa_cons (pv 0) pa_nil)))))))), ?_⟩
  have ln : (ns.map PyData.int).length = ns.length := List.length_map _
  have lenE : EvD (tCB (rLenS K) (tCons (tVar 0) tNil)) (start n_is_renaming [y]) H (.int (ns.length : Int)) := by
    rw [← ln]
    exact evd_lenT (evd_var rfl hy)
  exact sd_ret (evd_andT (evd_isiTup (evd_var rfl hy) rfl) (evd_andT (evd_chain (g := fun i j => decide (i ≤ j)) (g' := fun i j => decide (i ≤ j)) evd_int lenE evd_int (decide_eq_true (by omega)) (decide_eq_true (by omega)))
    (evd_call (eva_cons lenE (eva_cons (evd_var rfl hy) eva_nil)) ⟨ns.length, ns, rfl, h1, h3⟩ fun e h => h))) fun v H2 s2 hd => q v H2 _ rfl s2 hd
end
end K40
end

section
set_option Elab.async false
set_option linter.all false
set_option maxRecDepth 100000
set_option maxHeartbeats 4000000
namespace K40
open PySem PySem.Spec PyProof.Rows L2
theorem rep_flat : ∀ n : Nat, (List.replicate n [V.int 0]).flatten = (List.replicate n (0 : Int)).map V.int
  | 0 => rfl
  | n + 1 => by rw [List.replicate_succ, List.flatten_cons, List.replicate_succ, List.map_cons, rep_flat n]; rfl
theorem ixN_nat {n j : Nat} (hj : j < n) : ixN n (j : Int) = some j := by
  unfold ixN
  rw [if_pos (by omega), if_pos (by omega)]
  simp
theorem evp_rep0 {σ : L2.St} {H : Hp} {ta : TE} {n : Nat} (h : EvD ta σ H (.int (n : Int))) (hn : n ≤ 1000) : EvP (tOp rRep (tLst (tCons (tC (.int 0)) tNil)) ta) σ H fun v H2 => ∃ l, v = .ref l ∧ H l = none ∧ H2 l = some (.lst ((List.replicate n (0 : Int)).map V.int)) := fun H1 s Q q => by
  refine ⟨by rw [sizeLine_eq]; show 1 ≤ _; omega, fun p hp => h _ (s.trans (same_new hp)) _ fun y H3 s3 hy => ?_⟩
  refine ⟨p, (n : Int), [.int 0], rfl, hy.intE, s3 _ _ upd_same, by omega, by omega, by rw [sizeLine_eq]; simp; omega, fun p2 h2 => ?_⟩
  have s13 : Same H1 H3 := (same_new hp).trans s3
  refine q _ _ (s13.trans (same_new h2)) ⟨p2, rfl, same_none (s.trans s13) h2, ?_⟩
  rw [upd_same]
  have e : ((n : Int)).toNat = n := Int.toNat_natCast n
  rw [e]
  congr 2
  exact rep_flat n
section
variable {P : Program} {w : World} {K : PySem.W.Frag} {mg : Str → Option Value} {base : Heap} {a : Adr} {f : Addr} {fd : FuncData}
def tb (ns : List Int) : Nat → List Int
  | 0 => List.replicate ns.length 0
  | i + 1 => (tb ns i).set (ns.getD i 0).toNat (i : Int)
theorem tb_len (ns : List Int) : ∀ i, (tb ns i).length = ns.length
  | 0 => List.length_replicate
  | i + 1 => by rw [tb, List.length_set, tb_len ns i]
def tbk (ns : List Int) : List Int := tb ns ns.length
def sp_turned_back : Sp := spD (fun ds => ∃ ns : List Int, ds = [eRt ns] ∧ ns.length ≤ 24 ∧ ∀ x ∈ ns, 0 ≤ x ∧ x < ns.length) (fun ds d => ∀ ns, ds = [eRt ns] → d = eRt (tbk ns))
theorem eRt_inj {a b : List Int} (h : eRt a = eRt b) : a = b := by
  simp only [eRt, PyData.tuple.injEq] at h
  exact map_inj (fun _ _ e => by injection e) h
theorem eRt_noL (ns : List Int) : noLA (ns.map PyData.int) = true := noLA_map (fun _ => rfl) ns
theorem ok_turned_back (F : Fun K "turned_back" "turned_back" s_turned_back f fd) (T : Txt K mg a) : FnOk P w K mg base CX0 1 f fd ["one"] sp_turned_back := by
  refine F.ok sc_turned_back (spD_len fun ds ⟨i, e, _⟩ => by rw [e]; rfl) (fun cdv A outer s H vs Q E hr h => ?_)
  obtain ⟨ds, hv, ⟨ns, rfl, h1, h2⟩, q⟩ := h
  obtain ⟨v, rfl, hx⟩ := hv.oneE
  refine ⟨_, (pss_cons (ps_set (i := 1) sc_turned_back.nd rfl (Or.inl rfl) (pe_op op_rep (pe_lst (pa_cons pe_int pa_nil)) (pe_callB (call_lenK K) (by rfl) T.n_len bt_len (pa_cons (pv 0) pa_nil)))) (pss_cons (ps_for PassesOwn.never rfl (pi_enumK K (by rfl) T.n_enumerate (pa_cons (pv 0) pa_nil)) (pg_tupK (n := 2) K rfl (pgs_cons (pg_name (i := 2) sc_turned_back.nd rfl (by first | exact Or.inl rfl | exact Or.inr rfl)) (pgs_cons (pg_name (i := 3) sc_turned_back.nd rfl (by first | exact Or.inl rfl | exact Or.inr rfl)) pgs_nil))) (pss_one (ps_asg (pv 2) (pg_sub (pv 1) (pv 3) set_list)))) (pss_one (ps_ret (pe_callTy (call_tupK K) (by rfl) T.n_tuple bt_tuple (pa_cons (pv 1) pa_nil)))))), ?_⟩
  have ln : EvD (tCB (rLenS K) (tCons (tVar 0) tNil)) (start n_turned_back [v]) H (.int (ns.length : Int)) := by
    have z := evd_lenT (K := K) (ta := tVar 0) (σ := start n_turned_back [v]) (ds := ns.map PyData.int) (evd_var rfl hx)
    rwa [List.length_map] at z
  refine sd_asg (evp_rep0 ln (by omega)) fun v1 H2 s2 ⟨l, e1, nl, hl⟩ => ?_
  subst e1
  have hx2 := hx.mono s2 _ v
  refine sd_forT (ds := (List.range (ns.map PyData.int).length).zipWith (fun (i : Nat) d => PyData.tuple [.int (i : Int), d]) (ns.map PyData.int)) (srcT_enumT (eva_cons (evd_var rfl hx2) eva_nil) (eRt_noL ns))
    (fun i σ' H' => ∃ u w, σ' = [some v, some (.ref l), u, w] ∧ Same H H' ∧ H' l = some (.lst ((tb ns i).map V.int))) (fun H1 s1 => ⟨none, none, rfl, s2.trans s1, s1 _ _ hl⟩) (fun i d x σ' H' Hc N ed z s3 hxd hN => ?_) fun σ' H' z => ?_
  · obtain ⟨u, w, rfl, s4, hm⟩ := z
    have hlen := tb_len ns i
    rw [List.getElem?_zipWith] at ed
    have hi : i < ns.length := by
      apply Classical.byContradiction
      intro hc
      rw [List.getElem?_eq_none (by rw [List.length_range, List.length_map]; omega)] at ed
      cases ed
    rw [List.length_map, List.getElem?_range hi, List.getElem?_map, List.getElem?_eq_getElem hi] at ed
    have ed : PyData.tuple [.int (i : Int), .int ns[i]] = d := Option.some.inj ed
    subst ed
    refine gt2 hxd fun y z hy hz => ?_
    obtain ⟨k, hk⟩ : ∃ k : Nat, ns[i] = (k : Int) := ⟨ns[i].toNat, by have := (h2 _ (List.getElem_mem hi)).1; omega⟩
    have hk2 : k < (tb ns i).length := by
      have := (h2 _ (List.getElem_mem hi)).2
      omega
    have ey := hy.intE
    have ez := hz.intE
    subst ey ez
    refine ⟨_, rfl, _, rfl, _, rfl, l, (tb ns i).map V.int, ns[i], k, rfl, rfl, s3 _ _ hm, by rw [List.length_map, hk]; exact ixN_nat hk2, ?_⟩
    refine hN _ _ ⟨_, _, rfl, same_mut (s4.trans s3) nl, ?_⟩ (tsame_mut (s3 _ _ hm) fun _ z => nomatch z)
    have e5 : (ns.getD i 0).toNat = k := by rw [getD_at hi, hk]; omega
    rw [upd_same, tb, List.map_set, e5]
  · obtain ⟨u, w, rfl, s4, hm⟩ := z
    rw [List.length_zipWith, List.length_range, Nat.min_self, List.length_map] at hm
    refine sd_ret (evd_tupOf (ds := (tbk ns).map PyData.int) (evd_var rfl (.lst hm (DxA.ints (tbk ns))))) fun v H4 s5 hd => q v H4 _ (fun ms e => ?_) (s4.trans s5) hd
    simp only [List.cons.injEq, and_true] at e
    rw [eRt_inj e]
    rfl
def sp_Made_init (a : Adr) : Sp := fun vs H Q _ => ∃ m dm rr, vs = [.ref m, rr] ∧ SlX.Slt H m a.cM dm [] ∧ Q .non (SlX.slH H m a.cM dm [some rr])
theorem ok_Made_init (F : Fun K "__init__" "Made.__init__" s_Made_init f fd) (T : Txt K mg a) : FnOk P w K mg base CX0 1 f fd ["self", "rows"] (sp_Made_init a) := by
  refine F.ok sc_Made_init (fun vs H Q E q => by obtain ⟨m, dm, rr, rfl, _⟩ := q; rfl) (fun cdv A outer s H vs Q E hr h => ?_)
  obtain ⟨m, dm, rr, rfl, hs, q⟩ := h
  refine ⟨_, (pss_one (SlX.ps_sl (pv 0) (pv 1))), ?_⟩
  exact ⟨rr, rfl, .ref m, rfl, m, a.cM, dm, a.dMr, [], 0, rfl, hs, T.c_Made, T.lM, q⟩
theorem eRt_nl (r : List Int) : noL (eRt r) = true := by rw [eRt, noL]; exact eRt_noL r
theorem eRows_nl (R : List (List Int)) : noL (eRows R) = true := by rw [eRows, noL]; exact noLA_map eRt_nl R
def sp_transposed : Sp := spD (fun ds => ∃ n R, ds = [eRows R] ∧ Shp n R ∧ n ≤ 24) (fun ds d => ∀ R, ds = [eRows R] → d = eRows (trp R))
theorem eRows_inj {a b : List (List Int)} (h : eRows a = eRows b) : a = b := by
  simp only [eRows, PyData.tuple.injEq] at h
  exact map_inj (fun _ _ e => eRt_inj e) h
theorem one_inj {a b : PyData} (h : [a] = [b]) : a = b := by simpa using h
theorem ok_transposed (F : Fun K "transposed" "transposed" s_transposed f fd) (T : Txt K mg a) : FnOk P w K mg base CX0 1 f fd ["rows"] sp_transposed := by
  refine F.ok sc_transposed (spD_len fun ds ⟨i, _, e, _⟩ => by rw [e]; rfl) (fun cdv A outer s H vs Q E hr h => ?_)
  obtain ⟨ds, hv, ⟨n, R, rfl, h1, h2⟩, q⟩ := h
  obtain ⟨v, rfl, hx⟩ := hv.oneE
  refine ⟨_, (pss_one (ps_ret (pe_callTy (call_tupK K) (by rfl) T.n_tuple bt_tuple (pa_cons (pe_lc (own := [("at", 1)]) (by rfl) sc_transposed.nd (pi_range1 (by rfl) T.n_range (pa_cons (pe_callB (call_lenK K) (by rfl) T.n_len bt_len (pa_cons (pv 0) pa_nil)) pa_nil)) (blkOk_by (N := n_transposed) (sc := defScope s_transposed) (by decide +kernel)) (fun _ _ _ _ _ => (pg_name (i := 1) sc_transposed.nd rfl (by first | exact Or.inl rfl | exact Or.inr rfl))) (fun _ _ _ _ _ => pts_nil) (fun _ _ _ _ _ => (pe_callTy (call_tupK K) (by rfl) T.n_tuple bt_tuple (pa_cons (pe_lc (own := [("row", 2)]) (by rfl) sc_transposed.nd (pi_tupK K (pv 0)) (blkOk_by (N := n_transposed) (by rfl)) (fun _ _ _ _ _ => (pg_name (i := 2) sc_transposed.nd rfl (by first | exact Or.inl rfl | exact Or.inr rfl))) (fun _ _ _ _ _ => pts_nil) (fun _ _ _ _ _ => (pe_ix (ix_tupK K) (pv 2) (pv 1) (fun _ _ => rfl)))) pa_nil)))) pa_nil)))), ?_⟩
  have ln : EvD (tCB (rLenS K) (tCons (tVar 0) tNil)) (start n_transposed [v]) H (.int (R.length : Int)) := by
    have z := evd_lenT (K := K) (ta := tVar 0) (σ := start n_transposed [v]) (ds := R.map eRt) (evd_var rfl hx)
    rwa [List.length_map] at z
  have hz : R.length < sizeLine := by rw [h1.len, sizeLine_eq]; omega
  refine sd_ret (evd_tupOf (ds := (trp R).map eRt) ?_) fun v H4 s5 hd => q v H4 _ (fun ms e => ?_) s5 hd
  · unfold trp
    rw [List.map_map]
    refine evd_lcM (l := List.range R.length) (enc := fun (i : Nat) => PyData.int (i : Int)) (src_rng (eva_cons ln eva_nil) (by rw [h1.len]; omega)) (fun (j : Nat) => eRt (R.map fun r => r.getD j 0)) (by rw [List.length_range]; exact hz) (fun i d x H' e s3 hx1 => ?_) gm_name
    refine ⟨rfl, Same.refl _, ?_, eRt_nl _⟩
    have hd : d < n := by
      have := List.mem_range.mp (List.mem_of_getElem? e)
      rw [h1.len] at this
      exact this
    refine evd_tupOf ?_
    rw [List.map_map]
    refine evd_lcM (l := R) (enc := eRt) (src_tup (evd_var rfl (hx.mono s3 _ v))) (fun r => PyData.int (r.getD d 0)) hz (fun i2 d2 x2 H2 e2 s4 hx2 => ?_) gm_name
    have hl := h1.row d2 (List.mem_of_getElem? e2)
    refine ⟨rfl, Same.refl _, evd_ixT (k := d) (evd_var rfl hx2) (evd_var rfl (hx1.mono s4 _ x)) ?_, rfl⟩
    have : d < d2.length := by omega
    rw [List.getElem?_map, getD_at this, List.getElem?_eq_getElem this]
    rfl
  · rw [← eRows_inj (one_inj e)]
    rfl
def sp_columns_of : Sp := spD (fun ds => ∃ n R, ds = [eRows R] ∧ Lat n R ∧ n ≤ 24) (fun ds d => ∀ R, ds = [eRows R] → d = eRows (R.map tbk))
theorem ren_tb {n : Nat} {r : List Int} (h : IsRen n r) (hn : n ≤ 24) : ∃ ns : List Int, [eRt r] = [eRt ns] ∧ ns.length ≤ 24 ∧ ∀ x ∈ ns, 0 ≤ x ∧ x < ns.length :=
  ⟨r, rfl, by rw [h.len]; exact hn, fun x m => by rw [h.len]; exact h.mem m⟩
theorem ok_columns_of (F : Fun K "columns_of" "columns_of" s_columns_of f fd) (T : Txt K mg a) (D_turned_back : Has P w K mg base 1 "turned_back" sp_turned_back) : FnOk P w K mg base CX0 2 f fd ["rows"] sp_columns_of := by
  refine F.ok sc_columns_of (spD_len fun ds ⟨i, _, e, _⟩ => by rw [e]; rfl) (fun cdv A outer s H vs Q E hr h => ?_)
  obtain ⟨ds, hv, ⟨n, R, rfl, h1, h2⟩, q⟩ := h
  obtain ⟨v, rfl, hx⟩ := hv.oneE
  refine ⟨_, (pss_one (ps_ret (pe_callTy (call_tupK K) (by rfl) T.n_tuple bt_tuple (pa_cons (pe_lc (own := [("row", 1)]) (by rfl) sc_columns_of.nd (pi_tupK K (pv 0)) (blkOk_by (N := n_columns_of) (sc := defScope s_columns_of) (by decide +kernel)) (fun _ _ _ _ _ => (pg_name (i := 1) sc_columns_of.nd rfl (by first | exact Or.inl rfl | exact Or.inr rfl))) (fun _ _ _ _ _ => pts_nil) (fun _ _ _ _ _ => (pe_fn D_turned_back (hr.mono (by decide)) (by rfl) (pa_cons (pv 1) pa_nil)))) pa_nil)))), ?_⟩
  refine sd_ret (evd_tupOf (ds := (R.map tbk).map eRt) ?_) fun v H4 s5 hd => q v H4 _ (fun ms e => ?_) s5 hd
  · rw [List.map_map]
    refine evd_lcM (l := R) (enc := eRt) (src_tup (evd_var rfl hx)) (fun r => eRt (tbk r)) (by rw [h1.len, sizeLine_eq]; omega) (fun i d x H' e s3 hx1 => ?_) gm_name
    exact ⟨rfl, Same.refl _, evd_call (eva_cons (evd_var rfl hx1) eva_nil) (ren_tb (h1.row_ren (List.mem_of_getElem? e)) h2) fun e h => h _ rfl, eRt_nl _⟩
  · rw [← eRows_inj (one_inj e)]
    rfl
def sp_rows_of_signs : Sp := spD (fun ds => ∃ n R, ds = [eRows R] ∧ Lat n R ∧ n ≤ 24) (fun ds d => ∀ R, ds = [eRows R] → d = eRows ((trp R).map tbk))
theorem ok_rows_of_signs (F : Fun K "rows_of_signs" "rows_of_signs" s_rows_of_signs f fd) (T : Txt K mg a) (D_turned_back : Has P w K mg base 1 "turned_back" sp_turned_back) (D_transposed : Has P w K mg base 1 "transposed" sp_transposed) : FnOk P w K mg base CX0 2 f fd ["rows"] sp_rows_of_signs := by
  refine F.ok sc_rows_of_signs (spD_len fun ds ⟨i, _, e, _⟩ => by rw [e]; rfl) (fun cdv A outer s H vs Q E hr h => ?_)
  obtain ⟨ds, hv, ⟨n, R, rfl, h1, h2⟩, q⟩ := h
  obtain ⟨v, rfl, hx⟩ := hv.oneE
  refine ⟨_, (pss_one (ps_ret (pe_callTy (call_tupK K) (by rfl) T.n_tuple bt_tuple (pa_cons (pe_lc (own := [("column", 1)]) (by rfl) sc_rows_of_signs.nd (pi_tupK K (pe_fn D_transposed (hr.mono (by decide)) (by rfl) (pa_cons (pv 0) pa_nil))) (blkOk_by (N := n_rows_of_signs) (sc := defScope s_rows_of_signs) (by decide +kernel)) (fun _ _ _ _ _ => (pg_name (i := 1) sc_rows_of_signs.nd rfl (by first | exact Or.inl rfl | exact Or.inr rfl))) (fun _ _ _ _ _ => pts_nil) (fun _ _ _ _ _ => (pe_fn D_turned_back (hr.mono (by decide)) (by rfl) (pa_cons (pv 1) pa_nil)))) pa_nil)))), ?_⟩
  refine sd_ret (evd_tupOf (ds := ((trp R).map tbk).map eRt) ?_) fun v H4 s5 hd => q v H4 _ (fun ms e => ?_) s5 hd
  · rw [List.map_map]
    refine evd_lcM (l := trp R) (enc := eRt) (src_tup (evd_call (d := eRows (trp R)) (eva_cons (evd_var rfl hx) eva_nil) ⟨n, R, rfl, h1.shp, h2⟩ fun e h => h _ rfl)) (fun r => eRt (tbk r)) (by rw [h1.trp.len, sizeLine_eq]; omega) (fun i d x H' e s3 hx1 => ?_) gm_name
    exact ⟨rfl, Same.refl _, evd_call (eva_cons (evd_var rfl hx1) eva_nil) (ren_tb (h1.trp.row_ren (List.mem_of_getElem? e)) h2) fun e h => h _ rfl, eRt_nl _⟩
  · rw [← eRows_inj (one_inj e)]
    rfl
def sp_are_rows : Sp := spD (fun ds => ∃ n R, ds = [eRows R] ∧ Lat n R ∧ 1 ≤ n ∧ n ≤ 24) (fun _ d => d = .bool true)
theorem ok_are_rows (F : Fun K "are_rows" "are_rows" s_are_rows f fd) (T : Txt K mg a) (D_is_renaming_of : Has P w K mg base 3 "is_renaming_of" sp_is_renaming_of) (D_is_renaming : Has P w K mg base 4 "is_renaming" sp_is_renaming) (D_transposed : Has P w K mg base 1 "transposed" sp_transposed) : FnOk P w K mg base CX0 5 f fd ["value"] sp_are_rows := by
  refine F.ok sc_are_rows (spD_len fun ds ⟨i, _, e, _⟩ => by rw [e]; rfl) (fun cdv A outer s H vs Q E hr h => ?_)
  obtain ⟨ds, hv, ⟨n, R, rfl, h1, h2, h3⟩, q⟩ := h
  obtain ⟨v, rfl, hx⟩ := hv.oneE
  refine ⟨_, (pss_cons (ps_if (PW.pt (pw_or (pt_not (pt_val (pe_callB (call_isiK K) (by rfl) T.n_isinstance bt_isinstance (pa_cons (pv 0) (pa_cons (pe_bltn (v := .ty "tuple") (by rfl) T.n_tuple bt_tuple rfl) pa_nil))))) (pw_or1 (pt_not (pt_chain op_le op_le pe_int (pe_callB (call_lenK K) (by rfl) T.n_len bt_len (pa_cons (pv 0) pa_nil)) (pe_globI (by rfl) T.g_MAX_ORDER)))))) (pss_one (ps_ret pe_bl)) pss_nil) (pss_cons (ps_if (pt_not (pt_val (pe_callB (cr_allK K rfl) (by rfl) T.n_all bt_all (pa_cons (pe_lc (own := [("row", 2)]) (by rfl) sc_are_rows.nd (pi_tupK K (pv 0)) (blkOk_by (N := n_are_rows) (sc := defScope s_are_rows) (by decide +kernel)) (fun _ _ _ _ _ => (pg_name (i := 2) sc_are_rows.nd rfl (by first | exact Or.inl rfl | exact Or.inr rfl))) (fun _ _ _ _ _ => pts_nil) (fun _ _ _ _ _ => (pe_fn D_is_renaming_of (hr.mono (by decide)) (by rfl) (pa_cons (pe_callB (call_lenK K) (by rfl) T.n_len bt_len (pa_cons (pv 0) pa_nil)) (pa_cons (pv 2) pa_nil))))) pa_nil)))) (pss_one (ps_ret pe_bl)) pss_nil) (pss_one (ps_ret (pe_callB (cr_allK K rfl) (by rfl) T.n_all bt_all (pa_cons (pe_lc (own := [("column", 1)]) (by rfl) sc_are_rows.nd (pi_tupK K (pe_fn D_transposed (hr.mono (by decide)) (by rfl) (pa_cons (pv 0) pa_nil))) (blkOk_by (N := n_are_rows) (sc := defScope s_are_rows) (by decide +kernel)) (fun _ _ _ _ _ => (pg_name (i := 1) sc_are_rows.nd rfl (by first | exact Or.inl rfl | exact Or.inr rfl))) (fun _ _ _ _ _ => pts_nil) (fun _ _ _ _ _ => (pe_fn D_is_renaming (hr.mono (by decide)) (by rfl) (pa_cons (pv 1) pa_nil)))) pa_nil)))))), ?_⟩
  have ln : ∀ (σ : L2.St) H', σ[0]? = some (some v) → Same H H' → EvD (tCB (rLenS K) (tCons (tVar 0) tNil)) σ H' (.int (n : Int)) := fun σ H' e s => by
    have z := evd_lenT (K := K) (ta := tVar 0) (σ := σ) (H := H') (ds := R.map eRt) (evd_var e (hx.mono s _ v))
    rwa [List.length_map, h1.len] at z
  have hz : R.length < sizeLine := by rw [h1.len, sizeLine_eq]; omega
  refine sd_ifF (evt_orF (evt_notT (evt_B (evd_isiTup (evd_var rfl hx) rfl))) (evt_notT (evt_test (evd_chain (g := fun i j => decide (i ≤ j)) (g' := fun i j => decide (i ≤ j)) evd_int (ln _ _ rfl (Same.refl _)) evd_int (decide_eq_true (by omega)) (decide_eq_true (by omega)))))) fun H2 s2 => ?_
  refine sd_ifF (evt_notT (evt_B (evd_allT (evd_lcM (l := R) (enc := eRt) (src_tup (evd_var rfl (hx.mono s2 _ v))) (fun _ => .bool true) hz (fun i d x H' e s3 hx1 => ⟨rfl, Same.refl _, evd_call (eva_cons (ln _ _ rfl (s2.trans s3)) (eva_cons (evd_var rfl hx1) eva_nil)) ⟨n, d, rfl, h1.row_ren (List.mem_of_getElem? e), h3⟩ fun e h => h, rfl⟩) gm_name)
    (fun d m => by obtain ⟨_, _, e⟩ := List.mem_map.mp m; exact e.symm)))) fun H3 s3 => ?_
  refine sd_ret (evd_allT (evd_lcM (l := trp R) (enc := eRt) (src_tup (evd_call (d := eRows (trp R)) (eva_cons (evd_var rfl (hx.mono (s2.trans s3) _ v)) eva_nil) ⟨n, R, rfl, h1.shp, h3⟩ fun e h => h _ rfl)) (fun _ => .bool true) (by rw [h1.trp.len, sizeLine_eq]; omega) (fun i d x H' e s4 hx1 => ?_) gm_name)
    (fun d m => by obtain ⟨_, _, e⟩ := List.mem_map.mp m; exact e.symm)) fun v H4 s4 hd => q v H4 _ rfl ((s2.trans s3).trans s4) hd
  have hd := h1.trp.row_ren (List.mem_of_getElem? e)
  exact ⟨rfl, Same.refl _, evd_call (eva_cons (evd_var rfl hx1) eva_nil) ⟨d, rfl, by rw [hd.len]; exact hd, by rw [hd.len]; exact h2, by rw [hd.len]; exact h3⟩ fun e h => h, rfl⟩
end
end K40
end

section
set_option Elab.async false
set_option linter.all false
set_option maxRecDepth 100000
set_option maxHeartbeats 4000000
namespace K40
open PySem PySem.Spec PyProof.Rows L2
theorem hide_slH {X : List Addr} {H : Hp} {x C dx : Addr} {vs : List (Option V)} (h1 : x ∈ X) (h2 : dx ∈ X) : hide X (SlX.slH H x C dx vs) = hide X H := by
  unfold SlX.slH
  rw [hide_upd h1, hide_upd h2]
section
variable {K : PySem.W.Frag} {σ : L2.St} {H : Hp} {te : TE} {m C dx p : Addr} {vs : List (Option V)} {f : Str} {i : Nat} {v : V} {d : PyData}
theorem evp_slot (he : EvP te σ H fun v _ => v = .ref m) (hs : SlX.Slt H m C dx vs) (c : SlX.SCls K C) (l : SlX.Slot1 K C f p i) (e : vs[i]? = some (some v)) : EvP (SlX.tSl K te f) σ H fun y _ => y = v := fun H1 s Q q =>
  he H1 s _ fun y H2 s2 hy => ⟨m, C, dx, p, vs, i, v, hy, slt_mono (s.trans s2) hs, c, l, e, q v H2 s2 rfl⟩
theorem evd_slot (he : EvP te σ H fun v _ => v = .ref m) (hs : SlX.Slt H m C dx vs) (c : SlX.SCls K C) (l : SlX.Slot1 K C f p i) (e : vs[i]? = some (some v)) (hd : Dx H v d) : EvD (SlX.tSl K te f) σ H d := fun H1 s Q q =>
  evp_slot he hs c l e H1 s Q fun y H2 s2 hy => q y H2 s2 (by rw [hy]; exact hd.mono (s.trans s2) d v)
theorem evd_isiSl {b : Bool} {u : Addr} (he : EvP te σ H fun v _ => v = .ref m) (hs : SlX.Slt H m C dx vs) (c : SlX.SCls K C) (c2 : SlX.SIsi K C) (hb : PySem.W.kitOne K (.ref C) (.ref u) = some b) : EvD (tCB (rIsiA K) (tCons te (tCons (tC (.ref u)) tNil))) σ H (.bool b) := fun H1 s Q q =>
  he H1 s _ fun y H2 s2 hy => .inr ⟨.ref u, m, C, dx, vs, .ref u, b, by rw [hy], rfl, fun w e => e, slt_mono (s.trans s2) hs, c, c2, hb, q _ H2 s2 (.bl b)⟩
end
section
variable {P : Program} {w : World} {K : PySem.W.Frag} {mg : Str → Option Value} {base : Heap} {a : Adr} {f : Addr} {fd : FuncData}
def sp_rows_told (a : Adr) : Sp := fun vs H Q _ => ∃ r R n rr, vs = [r] ∧ Lat n R ∧ 1 ≤ n ∧ n ≤ 24 ∧ ((Dx H r (eRows R) ∧ rr = r) ∨ (∃ m dm, r = .ref m ∧ SlX.Slt H m a.cM dm [some rr])) ∧ ∀ H', Same H H' → Q rr H'
theorem ok_rows_told (F : Fun K "rows_told" "rows_told" s_rows_told f fd) (T : Txt K mg a) (D_are_rows : Has P w K mg base 5 "are_rows" sp_are_rows) : FnOk P w K mg base CX0 6 f fd ["rows"] (sp_rows_told a) := by
  refine F.ok sc_rows_told (fun vs H Q E q => by obtain ⟨m, dm, rr, _, rfl, _⟩ := q; rfl) (fun cdv A outer s H vs Q E hr h => ?_)
  obtain ⟨r, R, n, rr, rfl, h1, h2, h3, hc, q⟩ := h
  refine ⟨_, (pss_cons (ps_if (pt_val (pe_callB (call_isiK K) (by rfl) T.n_isinstance bt_isinstance (pa_cons (pv 0) (pa_cons (pe_glob (v := .ref a.cM) (by rfl) T.g_Made rfl) pa_nil)))) (pss_one (ps_ret (pe_slK K (pv 0)))) pss_nil) (pss_cons (ps_if (pt_not (pt_val (pe_fn D_are_rows (hr.mono (by decide)) (by rfl) (pa_cons (pv 0) pa_nil)))) pss_never pss_nil) (pss_one (ps_ret (pv 0))))), ?_⟩
  rcases hc with ⟨hx, rfl⟩ | ⟨m, dm, rfl, hs⟩
  · refine sd_ifF (evt_B (evd_isiTupC (evd_var rfl hx) T.ktM)) fun H2 s2 => ?_
    refine sd_ifF (evt_notT (evt_B (evd_call (eva_cons (evd_var rfl (hx.mono s2 _ _)) eva_nil) ⟨n, R, rfl, h1, h2, h3⟩ fun e h => h))) fun H3 s3 => ?_
    exact ⟨rr, rfl, q H3 (s2.trans s3)⟩
  · refine sd_ifT (evt_B (evd_isiSl (evp_var rfl fun _ _ => rfl) hs T.c_Made T.iM T.kMM)) fun H2 s2 => ?_
    exact sd_ret (evp_slot (evp_var rfl fun _ _ => rfl) (slt_mono s2 hs) T.c_Made T.lM rfl) fun v H3 s3 e => by rw [e]; exact q H3 (s2.trans s3)
def sp_Table_init (a : Adr) : Sp := fun vs H Q _ => ∃ x dx r R n rr, vs = [.ref x, r] ∧ dx ≠ x ∧ SlX.Slt H x a.cT dx [] ∧ Lat n R ∧ 1 ≤ n ∧ n ≤ 24 ∧ Dx (hide [x, dx] H) rr (eRows R) ∧ (rr = r ∨ (∃ m dm, r = .ref m ∧ SlX.Slt H m a.cM dm [some rr])) ∧
  ∀ H', Same (hide [x, dx] H) (hide [x, dx] H') → Dx H' (.ref x) (eTab a.cT R) → Q .non H'
theorem ok_Table_init (F : Fun K "__init__" "Table.__init__" s_Table_init f fd) (T : Txt K mg a) (D_rows_told : Has P w K mg base 6 "rows_told" (sp_rows_told a)) (D_columns_of : Has P w K mg base 2 "columns_of" sp_columns_of) (D_rows_of_signs : Has P w K mg base 2 "rows_of_signs" sp_rows_of_signs) :
    FnOk P w K mg base CX0 7 f fd ["self", "rows"] (sp_Table_init a) := by
  refine F.ok sc_Table_init (fun vs H Q E q => by obtain ⟨x, dx, r, _, _, _, rfl, _⟩ := q; rfl) (fun cdv A outer s H vs Q E hr h => ?_)
  obtain ⟨x, dx, r, R, n, rr, rfl, ne, hs, h1, h2, h3, hrr, hc, q⟩ := h
  have mx : x ∈ [x, dx] := List.mem_cons_self
  have mdx : dx ∈ [x, dx] := List.mem_cons_of_mem _ List.mem_cons_self
  refine ⟨_, (pss_cons (SlX.ps_sl (pv 0) (pe_fn D_rows_told (hr.mono (by decide)) (by rfl) (pa_cons (pv 1) pa_nil))) (pss_cons (SlX.ps_sl (pv 0) (pe_callB (call_lenK K) (by rfl) T.n_len bt_len (pa_cons (pe_slK K (pv 0)) pa_nil))) (pss_cons (SlX.ps_sl (pv 0) (pe_fn D_columns_of (hr.mono (by decide)) (by rfl) (pa_cons (pe_slK K (pv 0)) pa_nil))) (pss_one (SlX.ps_sl (pv 0) (pe_fn D_rows_of_signs (hr.mono (by decide)) (by rfl) (pa_cons (pe_slK K (pv 0)) pa_nil))))))), ?_⟩
  refine ⟨r, rfl, ?_⟩
  refine ⟨r, R, n, rr, rfl, h1, h2, h3, ?_, fun H1 s1 => ⟨.ref x, rfl, x, a.cT, dx, a.dTr, [], 3, rfl, slt_mono s1 hs, T.c_Table, T.lTr, ?_⟩⟩
  · rcases hc with rfl | hc
    · exact .inl ⟨hrr.mono (hide_same _ _) _ _, rfl⟩
    · exact .inr hc
  -- its rows stand
  have S1 : SlX.Slt (SlX.slH H1 x a.cT dx (SlX.putS 3 rr [])) x a.cT dx (SlX.putS 3 rr []) := SlX.slH_slt ne
  have X1 : Same (hide [x, dx] H) (hide [x, dx] (SlX.slH H1 x a.cT dx (SlX.putS 3 rr []))) := by rw [hide_slH mx mdx]; exact hide_mono s1
  generalize SlX.slH H1 x a.cT dx (SlX.putS 3 rr []) = H2 at S1 X1
  have D2 : Dx H2 rr (eRows R) := (hrr.mono X1 _ rr).mono (hide_same _ _) _ rr
  have ln : EvD (tCB (rLenS K) (tCons (SlX.tSl K (tVar 0) "own_rows") tNil)) (start n_Table_init [.ref x, r]) H2 (.int (R.length : Int)) := by
    have z := evd_lenT (K := K) (σ := start n_Table_init [.ref x, r]) (ds := R.map eRt) (evd_slot (te := tVar 0) (evp_var rfl fun _ _ => rfl) S1 T.c_Table T.lTr rfl D2)
    rwa [List.length_map] at z
  refine ln.at fun v H3 s3 hv => ⟨.ref x, rfl, x, a.cT, dx, a.dTo, _, 1, rfl, slt_mono s3 S1, T.c_Table, T.lTo, ?_⟩
  rw [hv.intE]
  have S3 : SlX.Slt (SlX.slH H3 x a.cT dx [none, some (.int (R.length : Int)), none, some rr]) x a.cT dx [none, some (.int (R.length : Int)), none, some rr] := SlX.slH_slt ne
  have X3 : Same (hide [x, dx] H) (hide [x, dx] (SlX.slH H3 x a.cT dx [none, some (.int (R.length : Int)), none, some rr])) := by rw [hide_slH mx mdx]; exact X1.trans (hide_mono s3)
  show Ends.nx _ _ (SlX.slH H3 x a.cT dx [none, some (.int (R.length : Int)), none, some rr])
  generalize SlX.slH H3 x a.cT dx [none, some (.int (R.length : Int)), none, some rr] = H4 at S3 X3
  have D4 : Dx H4 rr (eRows R) := (hrr.mono X3 _ rr).mono (hide_same _ _) _ rr
  refine (evd_call (d := eRows (R.map tbk)) (eva_cons (evd_slot (te := tVar 0) (evp_var rfl fun _ _ => rfl) S3 T.c_Table T.lTr rfl D4) eva_nil) ⟨n, R, rfl, h1, h3⟩ fun e h => h _ rfl).at fun v2 H5 s5 hv2 => ⟨.ref x, rfl, x, a.cT, dx, a.dTp, _, 2, rfl, slt_mono s5 S3, T.c_Table, T.lTp, ?_⟩
  have S5 : SlX.Slt (SlX.slH H5 x a.cT dx [none, some (.int (R.length : Int)), some v2, some rr]) x a.cT dx [none, some (.int (R.length : Int)), some v2, some rr] := SlX.slH_slt ne
  have X5 : Same (hide [x, dx] H) (hide [x, dx] (SlX.slH H5 x a.cT dx [none, some (.int (R.length : Int)), some v2, some rr])) := by rw [hide_slH mx mdx]; exact X3.trans (hide_mono s5)
  show Ends.nx _ _ (SlX.slH H5 x a.cT dx [none, some (.int (R.length : Int)), some v2, some rr])
  generalize SlX.slH H5 x a.cT dx [none, some (.int (R.length : Int)), some v2, some rr] = H6 at S5 X5
  have D6 : Dx H6 rr (eRows R) := (hrr.mono X5 _ rr).mono (hide_same _ _) _ rr
  refine (evd_call (d := eRows ((trp R).map tbk)) (eva_cons (evd_slot (te := tVar 0) (evp_var rfl fun _ _ => rfl) S5 T.c_Table T.lTr rfl D6) eva_nil) ⟨n, R, rfl, h1, h3⟩ fun e h => h _ rfl).at fun v3 H7 s7 hv3 => ⟨.ref x, rfl, x, a.cT, dx, a.dTh, _, 0, rfl, slt_mono s7 S5, T.c_Table, T.lTh, ?_⟩
  have X7 : Same (hide [x, dx] H) (hide [x, dx] (SlX.slH H7 x a.cT dx [some v3, some (.int (R.length : Int)), some v2, some rr])) := by rw [hide_slH mx mdx]; exact X5.trans (hide_mono s7)
  exact q (SlX.slH H7 x a.cT dx [some v3, some (.int (R.length : Int)), some v2, some rr]) X7 (.tab (SlX.slH_slt ne) ((hrr.mono X7 _ rr).mono (hide_same _ _) _ rr))
end
end K40
end

section
set_option Elab.async false
set_option linter.all false
set_option maxRecDepth 100000
set_option maxHeartbeats 4000000
namespace K40
open PySem PySem.Spec PyProof.Rows L2
theorem enum_map {α β : Type} (f : Nat → α → β) (l : List α) (d0 : α) : (List.range l.length).zipWith f l = (List.range l.length).map fun i => f i (l.getD i d0) := by
  refine List.ext_getElem? fun i => ?_
  rw [List.getElem?_zipWith, List.getElem?_map]
  by_cases h : i < l.length
  · rw [List.getElem?_range h, List.getElem?_eq_getElem h]
    simp [h]
  · rw [List.getElem?_eq_none (by rw [List.length_range]; omega)]
    rfl
section
variable {K : PySem.W.Frag} {σ : L2.St} {H : Hp} {te ta tb : TE} {a : Adr} {d : PyData} {n : Nat} {R S : List (List Int)} {E : XK}
theorem evp_mkMade {d : PyData} (h : EvD te σ H d) : EvP (tMake a.cM (sp_Made_init a) [] E (tCons te tNil)) σ H fun r H2 => ∃ m dm rr, r = .ref m ∧ SlX.Slt H2 m a.cM dm [some rr] ∧ Dx H2 rr d := fun H1 s Q q =>
  h H1 s _ fun v H2 s2 hv => fun x dx nx ndx ne => ⟨x, dx, v, rfl, .inl ⟨upd_same, rfl⟩, rfl, by
    have s3 : Same H2 (SlX.slH (upd (upd H2 dx (.own x)) x (.ins a.cM dx [])) x a.cM dx [some v]) := fun b o e => by
      have h1 : b ≠ x := fun z => by rw [z, nx] at e; cases e
      have h2 : b ≠ dx := fun z => by rw [z, ndx] at e; cases e
      rw [SlX.slH_ne h1 h2, upd_ne h1, upd_ne h2]
      exact e
    exact q _ _ (s2.trans s3) ⟨x, dx, v, rfl, SlX.slH_slt ne, hv.mono s3 _ v⟩⟩
theorem evd_mkTab (h1 : Lat n R) (h2 : 1 ≤ n) (h3 : n ≤ 24) (h : EvP te σ H fun r H2 => ∃ rr, Dx H2 rr (eRows R) ∧ (rr = r ∨ ∃ m dm, r = .ref m ∧ SlX.Slt H2 m a.cM dm [some rr])) :
    EvD (tMake a.cT (sp_Table_init a) [] E (tCons te tNil)) σ H (eTab a.cT R) := fun H1 s Q q =>
  h H1 s _ fun r H2 s2 ⟨rr, hrr, hc⟩ => fun x dx nx ndx ne => by
    have hn : ∀ b ∈ [x, dx], H2 b = none := fun b m => by
      rcases List.mem_cons.mp m with rfl | m
      · exact nx
      · rw [List.mem_singleton.mp m]; exact ndx
    have mx : x ∈ [x, dx] := List.mem_cons_self
    have mdx : dx ∈ [x, dx] := List.mem_cons_of_mem _ List.mem_cons_self
    have e : hide [x, dx] (upd (upd H2 dx (.own x)) x (.ins a.cT dx [])) = hide [x, dx] H2 := by rw [hide_upd mx, hide_upd mdx]
    have k : Same H2 (hide [x, dx] (upd (upd H2 dx (.own x)) x (.ins a.cT dx []))) := by rw [e]; exact hide_new hn (Same.refl _)
    refine ⟨x, dx, r, R, n, rr, rfl, ne, .inl ⟨upd_same, rfl⟩, h1, h2, h3, hrr.mono k _ rr, ?_, fun H' X' D' => ⟨rfl, q _ _ (s2.trans ((k.trans X').trans (hide_same _ _))) D'⟩⟩
    rcases hc with rfl | ⟨m, dm, rfl, hs⟩
    · exact .inl rfl
    · exact .inr ⟨m, dm, rfl, slt_mono (k.trans (hide_same _ _)) hs⟩
theorem eRows_pure (R : List (List Int)) : pure' (eRows R) = true := by
  rw [eRows, pure']
  refine pureA_map (fun r => ?_) R
  rw [eRt, pure']
  exact pureA_map (fun _ => rfl) r
theorem eRows_depth (R : List (List Int)) : (eRows R).depth ≤ 2 := by
  rw [eRows, PyData.depth]
  have := depthA_map (f := eRt) (n := 1) (fun r => by rw [eRt, PyData.depth, PySem.W.depth_ints]; omega) R
  omega
theorem eqv_rows (R S : List (List Int)) : PyData.eqv (eRows R) (eRows S) = decide (R = S) := by
  by_cases h : R = S
  · rw [decide_eq_true h, h]
    exact eqv_true (eRows_pure S) rfl
  · rw [decide_eq_false h]
    exact eqv_false (eRows_pure R) (eRows_pure S) fun e => h (eRows_inj e)
end
section
variable {P : Program} {w : World} {K : PySem.W.Frag} {mg : Str → Option Value} {base : Heap} {a : Adr} {f : Addr} {fd : FuncData}
def sp_table_with (a : Adr) : Sp := spD (fun ds => ∃ n R, ds = [eRows R] ∧ Lat n R ∧ 1 ≤ n ∧ n ≤ 24) (fun ds d => ∀ R, ds = [eRows R] → d = eTab a.cT R)
theorem ok_table_with (F : Fun K "table_with" "table_with" s_table_with f fd) (T : Txt K mg a) (D_Made_init : HasI P w K mg base 1 a.iM (sp_Made_init a)) (D_Table_init : HasI P w K mg base 7 a.iT (sp_Table_init a)) : FnOk P w K mg base CX0 9 f fd ["rows"] (sp_table_with a) := by
  refine F.ok sc_table_with (spD_len fun ds ⟨i, _, e, _⟩ => by rw [e]; rfl) (fun cdv A outer s H vs Q E hr h => ?_)
  obtain ⟨ds, hv, ⟨n, R, rfl, h1, h2, h3⟩, q⟩ := h
  obtain ⟨v, rfl, hx⟩ := hv.oneE
  refine ⟨_, (pss_one (ps_ret (pe_mk T.mk_Table D_Table_init (hr.mono (by decide)) (by rfl) T.g_Table (pa_cons (pe_mk T.mk_Made D_Made_init (hr.mono (by decide)) (by rfl) T.g_Made (pa_cons (pv 0) pa_nil)) pa_nil)))), ?_⟩
  refine sd_ret (evd_mkTab h1 h2 h3 ((evp_mkMade (evd_var rfl hx)).imp fun r H2 ⟨m, dm, rr, e1, e2, e3⟩ => ⟨rr, e3, .inr ⟨m, dm, e1, e2⟩⟩)) fun v H2 s2 hd => q v H2 _ (fun S e => ?_) s2 hd
  rw [eRows_inj (one_inj e)]
def sp_require_table (a : Adr) : Sp := spD (fun ds => ∃ R, ds = [eTab a.cT R]) (fun _ d => d = .none)
theorem ok_require_table (F : Fun K "require_table" "require_table" s_require_table f fd) (T : Txt K mg a) : FnOk P w K mg base CX0 1 f fd ["value"] (sp_require_table a) := by
  refine F.ok sc_require_table (spD_len fun ds ⟨i, e⟩ => by rw [e]; rfl) (fun cdv A outer s H vs Q E hr h => ?_)
  obtain ⟨ds, hv, ⟨R, rfl⟩, q⟩ := h
  obtain ⟨v, rfl, hx⟩ := hv.oneE
  refine ⟨_, (pss_one (ps_if (pt_not (pt_val (pe_callB (call_isiK K) (by rfl) T.n_isinstance bt_isinstance (pa_cons (pv 0) (pa_cons (pe_glob (v := .ref a.cT) (by rfl) T.g_Table rfl) pa_nil))))) pss_never pss_nil)), ?_⟩
  exact sd_ifF (evt_notT (evt_B (evd_isiTab T.c_Table T.iT (evd_var rfl hx) T.kTT))) fun H2 s2 => q .non H2 _ rfl s2 .non
def sp_require_two (a : Adr) : Sp := spD (fun ds => ∃ R S, ds = [eTab a.cT R, eTab a.cT S] ∧ R.length = S.length) (fun _ d => d = .none)
theorem ok_require_two_tables (F : Fun K "require_two_tables" "require_two_tables" s_require_two_tables f fd) (T : Txt K mg a) (D_require_table : Has P w K mg base 1 "require_table" (sp_require_table a)) : FnOk P w K mg base CX0 2 f fd ["one", "other"] (sp_require_two a) := by
  refine F.ok sc_require_two_tables (spD_len fun ds ⟨i, _, e, _⟩ => by rw [e]; rfl) (fun cdv A outer s H vs Q E hr h => ?_)
  obtain ⟨ds, hv, ⟨R, S, rfl, hl⟩, q⟩ := h
  obtain ⟨v, u, rfl, hx, hy⟩ := hv.twoE
  refine ⟨_, (pss_cons (ps_expr (pe_fn D_require_table (hr.mono (by decide)) (by rfl) (pa_cons (pv 0) pa_nil))) (pss_one (ps_if (PW.pt (pw_or (pt_not (pt_val (pe_callB (call_isiK K) (by rfl) T.n_isinstance bt_isinstance (pa_cons (pv 1) (pa_cons (pe_glob (v := .ref a.cT) (by rfl) T.g_Table rfl) pa_nil))))) (pw_or1 (pt_cmpR op_ne (pe_slK K (pv 1)) (pe_slK K (pv 0)) (nomark _))))) pss_never pss_nil))), ?_⟩
  refine sd_drop (evd_call (eva_cons (evd_var rfl hx) eva_nil) ⟨R, rfl⟩ fun e h => h) fun v2 H2 s2 _ => ?_
  have hx := hx.mono s2 _ v
  have hy := hy.mono s2 _ u
  exact sd_ifF (evt_orF (evt_notT (evt_B (evd_isiTab T.c_Table T.iT (evd_var rfl hy) T.kTT))) (evt_test (evd_neI (evd_order T (evd_var rfl hy)) (evd_order T (evd_var rfl hx)) (by rw [hl]; simp)))) fun H3 s3 => q .non H3 _ rfl (s2.trans s3) .non
def sp_Table_eq (a : Adr) : Sp := spD (fun ds => ∃ R S, ds = [eTab a.cT R, eTab a.cT S]) (fun ds d => ∀ R S, ds = [eTab a.cT R, eTab a.cT S] → d = .bool (decide (R = S)))
theorem eTab_inj {C : Addr} {R S : List (List Int)} (h : eTab C R = eTab C S) : R = S := by
  simp only [eTab, PyData.dict.injEq, List.cons.injEq, Prod.mk.injEq] at h
  exact eRows_inj h.2.1.2
theorem two_inj {a b c d : PyData} (h : [a, b] = [c, d]) : a = c ∧ b = d := by simpa using h
theorem ok_Table_eq (F : Fun K "__eq__" "Table.__eq__" s_Table_eq f fd) (T : Txt K mg a) : FnOk P w K mg base CX0 1 f fd ["self", "other"] (sp_Table_eq a) := by
  refine F.ok sc_Table_eq (spD_len fun ds ⟨i, _, e⟩ => by rw [e]; rfl) (fun cdv A outer s H vs Q E hr h => ?_)
  obtain ⟨ds, hv, ⟨R, S, rfl⟩, q⟩ := h
  obtain ⟨v, u, rfl, hx, hy⟩ := hv.twoE
  refine ⟨_, (pss_one (ps_ret (pe_and (pe_callB (call_isiK K) (by rfl) T.n_isinstance bt_isinstance (pa_cons (pv 1) (pa_cons (pe_glob (v := .ref a.cT) (by rfl) T.g_Table rfl) pa_nil))) (pe_one (pe_cmpR (op_eqK K hr.units) (pe_slK K (pv 0)) (pe_slK K (pv 1)) (nomark _)))))), ?_⟩
  have dR := eRows_depth R
  have dS := eRows_depth S
  refine sd_ret (evd_andT (evd_isiTab T.c_Table T.iT (evd_var rfl hy) T.kTT) (evd_eqD (evd_rows T (evd_var rfl hx)) (evd_rows T (evd_var rfl hy)) (eRows_pure R) (eRows_pure S) (by omega) (by omega) (eqv_rows R S))) fun v H2 s2 hd => q v H2 _ (fun R2 S2 e => ?_) s2 hd
  obtain ⟨e1, e2⟩ := two_inj e
  rw [eTab_inj e1, eTab_inj e2]
def sp_Table_cells (a : Adr) : Sp := spD (fun ds => ∃ n R, ds = [eTab a.cT R] ∧ Shp n R ∧ n ≤ 24) (fun ds d => ∀ R, ds = [eTab a.cT R] → d = eS (allC R))
theorem ok_Table_cells (F : Fun K "cells" "Table.cells" s_Table_cells f fd) (T : Txt K mg a) : FnOk P w K mg base CX0 1 f fd ["self"] (sp_Table_cells a) := by
  refine F.ok sc_Table_cells (spD_len fun ds ⟨i, _, e, _⟩ => by rw [e]; rfl) (fun cdv A outer s H vs Q E hr h => ?_)
  obtain ⟨ds, hv, ⟨n, R, rfl, h1, h3⟩, q⟩ := h
  obtain ⟨v, rfl, hx⟩ := hv.oneE
  refine ⟨_, (pss_cons (ps_set (i := 1) sc_Table_cells.nd rfl (Or.inl rfl) (pe_lst pa_nil)) (pss_cons (ps_for PassesOwn.never rfl (pi_enumK K (by rfl) T.n_enumerate (pa_cons (pe_slK K (pv 0)) pa_nil)) (pg_tupK (n := 2) K rfl (pgs_cons (pg_name (i := 2) sc_Table_cells.nd rfl (by first | exact Or.inl rfl | exact Or.inr rfl)) (pgs_cons (pg_name (i := 3) sc_Table_cells.nd rfl (by first | exact Or.inl rfl | exact Or.inr rfl)) pgs_nil))) (pss_one (ps_expr (pe_bmK K PySem.F.plainAttrs_list PySem.F.slot_list_extend PySem.F.type_list_extend mt_extend (pv 1) (pa_cons (pe_lc (own := [("column", 4), ("sign", 5)]) (by rfl) sc_Table_cells.nd (pi_enumK K (by rfl) T.n_enumerate (pa_cons (pv 3) pa_nil)) (blkOk_by (N := n_Table_cells) (sc := defScope s_Table_cells) (by decide +kernel)) (fun _ _ _ _ _ => (pg_tupK (n := 2) K rfl (pgs_cons (pg_name (i := 4) sc_Table_cells.nd rfl (by first | exact Or.inl rfl | exact Or.inr rfl)) (pgs_cons (pg_name (i := 5) sc_Table_cells.nd rfl (by first | exact Or.inl rfl | exact Or.inr rfl)) pgs_nil)))) (fun _ _ _ _ _ => pts_nil) (fun _ _ _ _ _ => (pe_tup (pa_cons (pv 2) (pa_cons (pv 4) (pa_cons (pv 5) pa_nil)))))) pa_nil))))) (pss_one (ps_ret (pe_callTy (call_tupK K) (by rfl) T.n_tuple bt_tuple (pa_cons (pv 1) pa_nil)))))), ?_⟩
  refine ⟨by rw [sizeLine_eq]; show 0 ≤ _; omega, fun l hl => ?_⟩
  have hx2 := hx.mono (same_new (o := .lst []) hl) _ v
  refine sd_forT (ds := (List.range (R.map eRt).length).zipWith (fun (i : Nat) d => PyData.tuple [.int (i : Int), d]) (R.map eRt)) (srcT_enumT (eva_cons (evd_rows T (evd_var rfl hx2)) eva_nil) (noLA_map eRt_nl R))
    (fun i σ' H' => ∃ u w xs, σ' = [some v, some (.ref l), u, w, none, none] ∧ Same H H' ∧ H' l = some (.lst xs) ∧ DxA H' xs ((upC R n i).map eC)) (fun H1 s1 => ⟨none, none, [], rfl, (same_new hl).trans s1, s1 _ _ upd_same, .nil⟩) (fun i d x σ' H' Hc N ed z s3 hxd hN => ?_) fun σ' H' z => ?_
  · obtain ⟨u, w, xs, rfl, s4, hm, hxs⟩ := z
    rw [enum_map _ _ (.int 0), List.getElem?_map] at ed
    obtain ⟨i', hi', e⟩ := Option.map_eq_some_iff.mp ed
    obtain ⟨hi, rfl⟩ : i < n ∧ i' = i := by
      obtain ⟨h5, h6⟩ := List.getElem?_eq_some_iff.mp hi'
      rw [List.length_range, List.length_map, h1.len] at h5
      exact ⟨h5, by rw [← h6]; simp⟩
    subst e
    obtain ⟨r, e1, mr, e2, lr⟩ := h1.at_row hi
    have e3 : (R.map eRt).getD i' (.int 0) = eRt r := by
      rw [List.getD_eq_getElem?_getD, List.getElem?_map, e1]
      rfl
    rw [e3] at hxd
    refine gt2 hxd fun y z hy hz => ?_
    refine ⟨.ref l, rfl, .inl ⟨rfl, _, .of (s3 _ _ hm)⟩, ?_⟩
    refine (eva_cons (ds := []) (d := .list ((List.range n).map fun (j : Nat) => eC ((i' : Int), ((j : Int), gn R i' j)))) (evd_lcM (l := List.range n) (enc := fun (j : Nat) => PyData.tuple [.int (j : Int), .int (gn R i' j)]) ?_ (fun (j : Nat) => eC ((i' : Int), ((j : Int), gn R i' j))) (by rw [List.length_range, sizeLine_eq]; omega) (fun j d x2 H2 ej s5 hx3 => ?_) (gm_tup1 (gm_cons gm_name (gm_cons gm_name gm_nil)))) eva_nil).at fun vs H5 s5 hv5 => ?_
    · have zz := src_enumT (K := K) (eva_cons (evd_var (σ := [some v, some (.ref l), some y, some z, none, none]) (i := 3) rfl hz) eva_nil)
      rw [enum_map _ _ (.int 0), List.length_map, lr] at zz
      rw [show (List.range n).map (fun (j : Nat) => PyData.tuple [.int (j : Int), .int (gn R i' j)]) = (List.range n).map fun (i : Nat) => PyData.tuple [.int (i : Int), (r.map PyData.int).getD i (.int 0)] from List.map_congr_left fun j mj => ?_]
      · exact zz
      · have hj : j < r.length := by rw [lr]; exact List.mem_range.mp mj
        unfold gn
        rw [e2, getD_at hj, List.getD_eq_getElem?_getD, List.getElem?_map, List.getElem?_eq_getElem hj]
        rfl
    · refine gt2 hx3 fun y2 z2 hy2 hz2 => ⟨rfl, Same.refl _, ?_, eC_noL _⟩
      exact evd_tup (eva_cons (evd_var rfl (hy.mono s5 _ y)) (eva_cons (evd_var rfl hy2) (eva_cons (evd_var rfl hz2) eva_nil))) (by rw [sizeLine_eq]; show 3 ≤ _; omega)
    · obtain ⟨w5, rfl, hw5⟩ := hv5.oneE
      obtain ⟨b, zs, rfl, hb, hzs⟩ := hw5.lstE
      have hm5 := s5 _ _ (s3 _ _ hm)
      have hxs5 : DxA H5 xs ((upC R n i').map eC) := hxs.mono (s3.trans s5) _ xs
      have tm : TSame H5 (upd H5 l (.lst (xs ++ zs))) := tsame_mut hm5 fun _ z => nomatch z
      have e6 : (upC R n (i' + 1)).map eC = (upC R n i').map eC ++ (List.range n).map fun (j : Nat) => eC ((i' : Int), ((j : Int), gn R i' j)) := by
        rw [upC, List.map_append]
        congr 1
        unfold rowC
        rw [List.map_map]
        rfl
      have e7 : noLA ((List.range n).map fun (j : Nat) => eC ((i' : Int), ((j : Int), gn R i' j))) = true := noLA_map (fun _ => eC_noL _) _
      refine ⟨l, b, xs, zs, rfl, rfl, hm5, hb, ?_, ?_⟩
      · rw [hxs5.length, hzs.length, List.length_map, List.length_map, upC_len, List.length_range, sizeLine_eq]
        have : i' * n ≤ 24 * 24 := Nat.mul_le_mul (by omega) h3
        omega
      · refine hN _ _ ⟨_, _, xs ++ zs, rfl, same_mut ((s4.trans s3).trans s5) hl, upd_same, ?_⟩ fun c ys ec => tm _ _ (s5 _ _ ec)
        rw [e6]
        exact (hxs5.tmono tm _ xs (noLA_map eC_noL _)).append (hzs.tmono tm _ zs e7)
  · obtain ⟨u, w, xs, rfl, s4, hm, hxs⟩ := z
    rw [List.length_zipWith, List.length_range, Nat.min_self, List.length_map, h1.len] at hxs
    refine sd_ret (evd_tupOf (ds := (upC R n n).map eC) (evd_var rfl (.lst hm hxs))) fun v H4 s5 hd => q v H4 _ (fun S e => ?_) (s4.trans s5) hd
    rw [← eTab_inj (one_inj e)]
    unfold allC
    rw [h1.len]
    rfl
end
end K40
end

section
set_option Elab.async false
set_option linter.all false
set_option maxRecDepth 100000
set_option maxHeartbeats 4000000
namespace K40
open PySem PySem.Spec PyProof.Rows L2
/-- all but the lists stays -/
def LSame (H H' : Hp) : Prop := ∀ a o, (∀ xs, o ≠ .lst xs) → H a = some o → H' a = some o
theorem Same.l {H H' : Hp} (s : Same H H') : LSame H H' := fun a o _ e => s a o e
theorem LSame.t {H H' : Hp} (s : LSame H H') : TSame H H' := fun a xs e => s a _ (fun _ z => nomatch z) e
theorem LSame.trans {H H1 H2 : Hp} (s : LSame H H1) (t : LSame H1 H2) : LSame H H2 := fun a o n e => t a o n (s a o n e)
theorem lsame_mut {H : Hp} {p : Addr} {o : HO} {xs : List V} (h : H p = some (.lst xs)) : LSame H (upd H p o) := fun a u n e => by
  rw [upd_ne (fun z => by rw [z, h] at e; exact n xs (Option.some.inj e).symm)]
  exact e
def pf : Nat → Int
  | 0 => 0
  | 1 => 0
  | _ => 1
def ps : Nat → Int
  | 0 => 1
  | 1 => 2
  | _ => 2
section
variable {K : PySem.W.Frag} {mg : Str → Option Value} {a : Adr} {σ : L2.St} {H : Hp} {te ta tb : TE} {i j : Nat} {vs : List Nat} {E : XK}
/-- [e for i, j in PAIRINGS] -/
theorem evp_lcPair (T : Txt K mg a) (I : Nat → V → Hp → Prop) (hI : ∀ k v H H', LSame H H' → I k v H → I k v H')
    (hv : wipe (((wipe σ vs).set i (some (.int 0))).set j (some (.int 0))) vs = wipe σ vs) (hw : ∀ x y : V, wipe (((wipe σ vs).set i (some x)).set j (some y)) vs = wipe (((wipe σ vs).set i (some (.int 0))).set j (some (.int 0))) vs)
    (hb : ∀ k, k < 3 → ∀ H', Same H H' → EvP te (((wipe σ vs).set i (some (.int (pf k)))).set j (some (.int (ps k)))) H' (I k)) :
    EvP (tLc (iTup K (tC (.ref a.pP))) (gTup K 2 (gCons (gName i) (gCons (gName j) gNil))) tYes te vs) σ H
      fun v H2 => ∃ D xs, v = .ref D ∧ H D = none ∧ H2 D = some (.lst xs) ∧ xs.length = 3 ∧ ∀ k, k < 3 → ∃ x, xs[k]? = some x ∧ I k x H2 := fun H1 s Q q =>
  ⟨a.pP, rfl, ⟨_, T.sP H1⟩, fun D nD => by
    refine lc_it (walk_tup (K := K) (a := a.pP) (xs := [.ref a.p0, .ref a.p1, .ref a.p2])) (fun n Hc => Same H1 Hc ∧ ∃ acc, Hc D = some (.lst acc) ∧ acc.length = n ∧ ∀ k, k < n → ∃ x, acc[k]? = some x ∧ I k x Hc) ⟨same_new nD, [], upd_same, rfl, fun k h => absurd h (Nat.not_lt_zero k)⟩ (fun n Hc _ _ => T.sP Hc) (fun n x Hc Hx hn z y => ?_) fun Hc z => ?_
    · obtain ⟨z1, acc, zD, za, zi⟩ := z
      obtain ⟨eH, ex⟩ := y
      subst eH
      have hn3 : n < 3 := hn
      have key : ∃ c, x = .ref c ∧ SqT K Hx c [.int (pf n), .int (ps n)] := by
        match n, hn3, ex with
        | 0, _, ex => exact ⟨a.p0, (Option.some.inj ex).symm, T.s0 _⟩
        | 1, _, ex => exact ⟨a.p1, (Option.some.inj ex).symm, T.s1 _⟩
        | 2, _, ex => exact ⟨a.p2, (Option.some.inj ex).symm, T.s2 _⟩
      obtain ⟨c, rfl, hc⟩ := key
      refine ⟨c, _, rfl, hc, rfl, _, _, rfl, _, _, rfl, rfl, (hw _ _).trans hv, evt_yes.at (σ := (((wipe σ vs).set i (some (.int (pf n)))).set j (some (.int (ps n))))) (H := Hx) fun H4 s5 => ?_⟩
      refine iteT ?_
      refine hb n hn3 H4 (s.trans (z1.trans s5)) H4 (Same.refl _) _ fun y H5 s6 hy => ⟨acc, s6 _ _ (s5 _ _ zD), by rw [za, sizeLine_eq]; omega, ?_⟩
      have aD := s6 _ _ (s5 _ _ zD)
      have lm : LSame H5 (upd H5 D (.lst (acc ++ [y]))) := lsame_mut aD
      refine ⟨same_mut (z1.trans (s5.trans s6)) nD, acc ++ [y], upd_same, by rw [List.length_append, za]; rfl, fun k hk => ?_⟩
      by_cases e : k = n
      · subst e
        exact ⟨y, by rw [List.getElem?_append_right (by omega), za, Nat.sub_self]; rfl, hI _ _ _ _ lm hy⟩
      · obtain ⟨x, e1, e2⟩ := zi k (by omega)
        exact ⟨x, by rw [List.getElem?_append_left (by omega)]; exact e1, hI _ _ _ _ ((Same.l (s5.trans s6)).trans lm) e2⟩
    · obtain ⟨z1, acc, zD, za, zi⟩ := z
      exact q _ Hc z1 ⟨D, acc, rfl, same_none s nD, zD, za, zi⟩⟩
theorem three_list {α : Type} {xs : List α} (h : xs.length = 3) : ∃ a b c, xs = [a, b, c] := by
  match xs, h with
  | [a, b, c], _ => exact ⟨a, b, c, rfl⟩
theorem evd_lcPair (T : Txt K mg a) (f : Nat → PyData) (hf : ∀ k, noL (f k) = true)
    (hv : wipe (((wipe σ vs).set i (some (.int 0))).set j (some (.int 0))) vs = wipe σ vs) (hw : ∀ x y : V, wipe (((wipe σ vs).set i (some x)).set j (some y)) vs = wipe (((wipe σ vs).set i (some (.int 0))).set j (some (.int 0))) vs)
    (hb : ∀ k, k < 3 → ∀ H', Same H H' → EvD te (((wipe σ vs).set i (some (.int (pf k)))).set j (some (.int (ps k)))) H' (f k)) :
    EvD (tLc (iTup K (tC (.ref a.pP))) (gTup K 2 (gCons (gName i) (gCons (gName j) gNil))) tYes te vs) σ H (.list [f 0, f 1, f 2]) :=
  (evp_lcPair T (fun k v H => Dx H v (f k)) (fun k v H H' s h => h.tmono s.t (f k) v (hf k)) hv hw hb).imp fun v H2 ⟨D, xs, e1, _, e2, e3, e4⟩ => by
    subst e1
    obtain ⟨x, y, z, rfl⟩ := three_list e3
    obtain ⟨_, q0, h0⟩ := e4 0 (by omega)
    obtain ⟨_, q1, h1⟩ := e4 1 (by omega)
    obtain ⟨_, q2, h2⟩ := e4 2 (by omega)
    cases q0
    cases q1
    cases q2
    exact .lst e2 (.cons h0 (.cons h1 (.one h2)))
/-! dicts of cells -/
def keyOf (k : Nat) (c : Cell) : List Key := [.inl (pr k c).1, .inl (pr k c).2]
def TabOf (H : Hp) (k : Nat) (cs : List Cell) (kvs : List (List Key × V)) : Prop := kvs.map (·.1) = cs.map (keyOf k) ∧ DxA H (kvs.map (·.2)) (cs.map eC)
theorem keyOf_inj {k : Nat} {c d : Cell} (h : keyOf k c = keyOf k d) : pr k c = pr k d := by
  simp only [keyOf, List.cons.injEq, Sum.inl.injEq, and_true] at h
  exact Prod.ext h.1 h.2
theorem TabOf.tmono {H H' : Hp} {k : Nat} {cs : List Cell} {kvs : List (List Key × V)} (s : TSame H H') (h : TabOf H k cs kvs) : TabOf H' k cs kvs := ⟨h.1, h.2.tmono s _ _ (noLA_map eC_noL _)⟩
theorem valV_none {kvs : List (List Key × V)} {k : List Key} (h : k ∉ kvs.map (·.1)) : valV kvs k = none := by
  unfold valV
  rw [Option.map_eq_none_iff, List.find?_eq_none]
  intro p hp e
  exact h (List.mem_map.mpr ⟨p, hp, of_decide_eq_true e⟩)
structure PartOk (n : Int) (cs : List Cell) : Prop where
  asc : Asc cs
  rng : ∀ c ∈ cs, InR n c
  inj : ∀ k, ∀ a ∈ cs, ∀ c ∈ cs, pr k a = pr k c → a = c
  ne : cs ≠ []
  len : cs.length ≤ 576
def sp_cells_by : Sp := fun vs H Q _ => ∃ n cs k, DxA H vs [eS cs, .int (pf k), .int (ps k)] ∧ k < 3 ∧ PartOk n cs ∧ ∀ d H' kvs, H d = none → Same H H' → H' d = some (.dT kvs) → TabOf H' k cs kvs → Q (.ref d) H'
theorem evp_cells_by {tr : TA} {n : Int} {cs : List Cell} {k : Nat} (h : EvA tr σ H [eS cs, .int (pf k), .int (ps k)]) (hk : k < 3) (hp : PartOk n cs) :
    EvP (tCall sp_cells_by [] E tr) σ H fun v H2 => ∃ d kvs, v = .ref d ∧ H d = none ∧ H2 d = some (.dT kvs) ∧ TabOf H2 k cs kvs := fun H1 s Q q =>
  h H1 s _ fun vs H2 s2 hv => ⟨n, cs, k, by rw [List.append_nil]; exact hv, hk, hp, fun d H' kvs nd s3 e1 e2 => q _ H' (s2.trans s3) ⟨d, kvs, rfl, same_none (s.trans s2) nd, e1, e2⟩⟩
theorem evd_lenDict {cs : List Cell} {k : Nat} {P : Addr → Prop} (h : EvP te σ H fun v H2 => ∃ d kvs, v = .ref d ∧ P d ∧ H2 d = some (.dT kvs) ∧ TabOf H2 k cs kvs) : EvD (tCB rLenT (tCons te tNil)) σ H (.int (cs.length : Int)) := fun H1 s Q q =>
  h H1 s _ fun v H2 s2 ⟨d, kvs, e1, _, e2, e3⟩ => ⟨d, kvs, by rw [e1], e2, by
    have l : kvs.length = cs.length := by
      have := congrArg List.length e3.1
      rwa [List.length_map, List.length_map] at this
    rw [l]
    exact q _ H2 s2 (.int _)⟩
theorem evd_sortedDict {cs : List Cell} {k : Nat} {P : Addr → Prop} (h : EvP te σ H fun v H2 => ∃ d kvs, v = .ref d ∧ P d ∧ H2 d = some (.dT kvs) ∧ TabOf H2 k cs kvs) : EvD (tCB rSortDT (tCons te tNil)) σ H (.list ((cs.map fun c => eP (pr k c)).mergeSort dLe)) := fun H1 s Q q =>
  h H1 s _ fun v H2 s2 ⟨d, kvs, e1, _, e2, e3⟩ => ⟨d, kvs, cs.map fun c => [(pr k c).1, (pr k c).2], by rw [e1], e2, by
      rw [e3.1, List.map_map]
      rfl, fun n hn m hm => by
      obtain ⟨_, _, rfl⟩ := List.mem_map.mp hn
      obtain ⟨_, _, rfl⟩ := List.mem_map.mp hm
      exact ⟨rfl, by simp⟩, fun ys p hy hp => q _ _ (s2.trans (same_new hp)) (.lst upd_same (by
      rw [List.map_map] at hy
      exact hy.mono (same_new hp) _ ys))⟩
end
theorem lexLt_of {c d : Cell} (h : cLt c d = true) : HT.lexLt [c.1, c.2.1, c.2.2] [d.1, d.2.1, d.2.2] = true := by
  have h := of_decide_eq_true h
  rw [HT.lexLt_cons, HT.lexLt_cons, HT.lexLt_cons, HT.lexLt_nil_nil]
  by_cases h1 : c.1 = d.1
  · rw [if_pos h1]
    by_cases h2 : c.2.1 = d.2.1
    · rw [if_pos h2]
      by_cases h3 : c.2.2 = d.2.2
      · exfalso
        omega
      · rw [if_neg h3]
        exact decide_eq_true (by omega)
    · rw [if_neg h2]
      exact decide_eq_true (by omega)
  · rw [if_neg h1]
    exact decide_eq_true (by omega)
section
variable {K : PySem.W.Frag} {σ : L2.St} {H : Hp} {te ta tb : TE}
theorem evd_ltC {c d : Cell} (ha : EvD ta σ H (eC c)) (hb : EvD tb σ H (eC d)) (h : cLt c d = true) : EvD (tOp (rLtT K) ta tb) σ H (.bool true) := fun H1 s Q q =>
  ha H1 s _ fun x H2 s2 hx => hb H2 (s.trans s2) _ fun y H3 s3 hy => by
    obtain ⟨p, xs, rfl, h1, h2⟩ := (hx.mono s3 _ x).tupE
    obtain ⟨p', ys, rfl, h3, h4⟩ := hy.tupE
    have e1 := DxA.of_ints (ns := [c.1, c.2.1, c.2.2]) h2
    have e2 := DxA.of_ints (ns := [d.1, d.2.1, d.2.2]) h4
    rw [e1] at h1
    rw [e2] at h3
    exact ⟨p, p', _, _, rfl, rfl, .of h1, .of h3, by rw [lexLt_of h]; exact q _ H3 (s2.trans s3) (.bl true)⟩
/-- t[1:] -/
theorem evd_tail {d : PyData} {ds : List PyData} (h : EvD ta σ H (.tuple (d :: ds))) : EvD (L2.tSl (rSlT K) ta (tPart (tC (.int 1))) tNoPart) σ H (.tuple ds) := fun H1 s Q q =>
  h H1 s _ fun x H2 s2 hx => ⟨1, rfl, by
    obtain ⟨p, xs, rfl, h1, h2⟩ := hx.tupE
    have hl : xs.length = ds.length + 1 := h2.length
    have e1 : HT.sIx xs.length 0 (some 1) = 1 := by
      have := HT.sIx_nat xs.length 0 1
      rw [show ((1 : Nat) : Int) = 1 from rfl] at this
      rw [this]
      omega
    refine ⟨p, xs, rfl, .of h1, fun z => by rw [e1] at z; omega, fun l hl2 => q _ _ (s2.trans (same_new hl2)) (.tup upd_same ?_)⟩
    have e2 : cutV xs (some 1) none = xs.drop 1 := by
      unfold cutV
      rw [e1, HT.sIx_none, List.take_of_length_le (by rw [List.length_drop]; omega)]
    rw [e2]
    exact (h2.drop 1).mono (same_new hl2) _ _⟩
end
theorem asc_next {cs : List Cell} (h : Asc cs) : ∀ p ∈ List.zip cs cs.tail, cLt p.1 p.2 = true := by
  induction cs with
  | nil => intro p m; simp at m
  | cons c cs ih =>
    intro p m
    have h := List.pairwise_cons.mp h
    cases cs with
    | nil => simp at m
    | cons d ds =>
      rw [List.tail_cons, List.zip_cons_cons] at m
      rcases List.mem_cons.mp m with rfl | m
      · exact h.1 d List.mem_cons_self
      · exact ih h.2 p m
section
variable {P : Program} {w : World} {K : PySem.W.Frag} {mg : Str → Option Value} {base : Heap} {a : Adr} {f : Addr} {fd : FuncData}
def sp_is_triple : Sp := spD (fun ds => ∃ n c, ds = [.int n, eC c] ∧ InR n c) (fun _ d => d = .bool true)
theorem ok_is_triple (F : Fun K "is_triple" "is_triple" s_is_triple f fd) (T : Txt K mg a) (D_is_within_renamings : Has P w K mg base 2 "is_within_renamings" sp_is_within) : FnOk P w K mg base CX0 3 f fd ["order", "value"] sp_is_triple := by
  refine F.ok sc_is_triple (spD_len fun ds ⟨i, _, e, _⟩ => by rw [e]; rfl) (fun cdv A outer s H vs Q E hr h => ?_)
  obtain ⟨ds, hv, ⟨n, c, rfl, h1⟩, q⟩ := h
  obtain ⟨x, y, rfl, hx, hy⟩ := hv.twoE
  refine ⟨_, (pss_one (ps_ret (pe_and (pe_callB (call_isiK K) (by rfl) T.n_isinstance bt_isinstance (pa_cons (pv 1) (pa_cons (pe_bltn (v := .ty "tuple") (by rfl) T.n_tuple bt_tuple rfl) pa_nil))) (pe_and (pe_cmpR op_eq (pe_callB (call_lenK K) (by rfl) T.n_len bt_len (pa_cons (pv 1) pa_nil)) (pe_globI (by rfl) T.g_ENTRIES) (nomark _)) (pe_one (pe_callB (cr_allK K rfl) (by rfl) T.n_all bt_all (pa_cons (pe_lc (own := [("one", 2)]) (by rfl) sc_is_triple.nd (pi_tupK K (pv 1)) (blkOk_by (N := n_is_triple) (sc := defScope s_is_triple) (by decide +kernel)) (fun _ _ _ _ _ => (pg_name (i := 2) sc_is_triple.nd rfl (by first | exact Or.inl rfl | exact Or.inr rfl))) (fun _ _ _ _ _ => pts_nil) (fun _ _ _ _ _ => (pe_fn D_is_within_renamings (hr.mono (by decide)) (by rfl) (pa_cons (pv 2) (pa_cons pe_int (pa_cons (pe_op op_sub (pv 0) pe_int) pa_nil)))))) pa_nil))))))), ?_⟩
  refine sd_ret (evd_andT (evd_isiTup (evd_var rfl hy) rfl) (evd_andT (evd_eqI (evd_lenT (evd_var rfl hy)) evd_int rfl)
    (evd_allT (evd_lc (ds := [.int c.1, .int c.2.1, .int c.2.2]) (src_tup (evd_var rfl hy)) (fun _ => .bool true) (by rw [sizeLine_eq]; show 3 < _; omega) (fun i d z H' e s3 hz => ?_) gm_name) (fun d m => by obtain ⟨_, _, e⟩ := List.mem_map.mp m; exact e.symm)))) fun v H2 s2 hd => q v H2 _ rfl s2 hd
  have key : ∃ k : Int, d = .int k ∧ 0 ≤ k ∧ k < n := by
    have m := List.mem_of_getElem? e
    simp only [List.mem_cons, List.not_mem_nil, or_false] at m
    rcases m with rfl | rfl | rfl
    · exact ⟨_, rfl, h1.1⟩
    · exact ⟨_, rfl, h1.2.1⟩
    · exact ⟨_, rfl, h1.2.2⟩
  obtain ⟨k, rfl, hk⟩ := key
  exact ⟨rfl, Same.refl _, evd_call (eva_cons (evd_var rfl hz) (eva_cons evd_int (eva_cons (evd_I0 (evd_var rfl (hx.mono s3 _ x)) evd_int fun _ => .int _) eva_nil))) ⟨k, 0, n - 1, rfl, hk.1, by omega⟩ fun e h => h, rfl⟩
def sp_are_cells : Sp := spD (fun ds => ∃ n cs, ds = [.int n, eS cs] ∧ PartOk n cs) (fun _ d => d = .bool true)
theorem ok_are_cells (F : Fun K "are_cells" "are_cells" s_are_cells f fd) (T : Txt K mg a) (D_is_triple : Has P w K mg base 3 "is_triple" sp_is_triple) : FnOk P w K mg base CX0 4 f fd ["order", "value"] sp_are_cells := by
  refine F.ok sc_are_cells (spD_len fun ds ⟨i, _, e, _⟩ => by rw [e]; rfl) (fun cdv A outer s H vs Q E hr h => ?_)
  obtain ⟨ds, hv, ⟨n, cs, rfl, h1⟩, q⟩ := h
  obtain ⟨x, y, rfl, hx, hy⟩ := hv.twoE
  have hz : cs.length < sizeLine := by have := h1.len; rw [sizeLine_eq]; omega
  refine ⟨_, (pss_cons (ps_if (PW.pt (pw_or (pt_not (pt_val (pe_callB (call_isiK K) (by rfl) T.n_isinstance bt_isinstance (pa_cons (pv 1) (pa_cons (pe_bltn (v := .ty "tuple") (by rfl) T.n_tuple bt_tuple rfl) pa_nil))))) (pw_or1 (pt_not (pt_val (pe_callB (cr_allK K rfl) (by rfl) T.n_all bt_all (pa_cons (pe_lc (own := [("cell", 2)]) (by rfl) sc_are_cells.nd (pi_tupK K (pv 1)) (blkOk_by (N := n_are_cells) (sc := defScope s_are_cells) (by decide +kernel)) (fun _ _ _ _ _ => (pg_name (i := 2) sc_are_cells.nd rfl (by first | exact Or.inl rfl | exact Or.inr rfl))) (fun _ _ _ _ _ => pts_nil) (fun _ _ _ _ _ => (pe_fn D_is_triple (hr.mono (by decide)) (by rfl) (pa_cons (pv 0) (pa_cons (pv 2) pa_nil))))) pa_nil))))))) (pss_one (ps_ret pe_bl)) pss_nil) (pss_one (ps_ret (pe_callB (cr_allK K rfl) (by rfl) T.n_all bt_all (pa_cons (pe_lc (own := [("cell", 2), ("later", 3)]) (by rfl) sc_are_cells.nd (pi_zipK K (by rfl) T.n_zip (pa_cons (pv 1) (pa_cons (pe_slice (sl_tupK K) (pv 1) (po_some pe_int) po_none) pa_nil))) (blkOk_by (N := n_are_cells) (sc := defScope s_are_cells) (by decide +kernel)) (fun _ _ _ _ _ => (pg_tupK (n := 2) K rfl (pgs_cons (pg_name (i := 2) sc_are_cells.nd rfl (by first | exact Or.inl rfl | exact Or.inr rfl)) (pgs_cons (pg_name (i := 3) sc_are_cells.nd rfl (by first | exact Or.inl rfl | exact Or.inr rfl)) pgs_nil)))) (fun _ _ _ _ _ => pts_nil) (fun _ _ _ _ _ => (pe_cmpR (op_ltK K hr.units0) (pv 2) (pv 3) (nomark _)))) pa_nil))))), ?_⟩
  refine sd_ifF (evt_orF (evt_notT (evt_B (evd_isiTup (evd_var rfl hy) rfl))) (evt_notT (evt_B (evd_allT (evd_lcM (l := cs) (enc := eC) (src_tup (evd_var rfl hy)) (fun _ => .bool true) hz (fun i c z H' e s3 hz => ?_) gm_name) (fun d m => by obtain ⟨_, _, e⟩ := List.mem_map.mp m; exact e.symm))))) fun H2 s2 => ?_
  · exact ⟨rfl, Same.refl _, evd_call (eva_cons (evd_var rfl (hx.mono s3 _ x)) (eva_cons (evd_var rfl hz) eva_nil)) ⟨n, c, rfl, h1.rng c (List.mem_of_getElem? e)⟩ fun e h => h, rfl⟩
  · have hy2 := hy.mono s2 _ y
    obtain ⟨c0, ct, ec⟩ : ∃ c0 ct, cs = c0 :: ct := by
      cases hc : cs with
      | nil => exact absurd hc h1.ne
      | cons c0 ct => exact ⟨c0, ct, rfl⟩
    have hy3 : Dx H2 y (.tuple (eC c0 :: ct.map eC)) := by rw [ec] at hy2; exact hy2
    unfold tNext
    dsimp only
    refine sd_ret (P := fun v H3 => Dx H3 v (.bool true)) ?_ fun v H3 s3 hd => q v H3 _ rfl (s2.trans s3) hd
    refine evd_allT (ds := (List.zip cs cs.tail).map fun _ => .bool true) ?_ (fun d m => by obtain ⟨_, _, e⟩ := List.mem_map.mp m; exact e.symm)
    refine evd_lcM (l := List.zip cs cs.tail) (enc := fun p => .tuple [eC p.1, eC p.2]) ?_ (fun _ => .bool true) ?_ (fun i p z H' e s3 hz => ?_) (gm_tup1 (gm_cons gm_name (gm_cons gm_name gm_nil)))
    · have z := src_zipT (K := K) (eva_cons (evd_var (σ := start n_are_cells [x, y]) (i := 1) rfl hy2) (eva_cons (evd_tail (K := K) (evd_var (i := 1) rfl hy3)) eva_nil))
      have e : List.zipWith (fun d e => PyData.tuple [d, e]) (cs.map eC) (ct.map eC) = (List.zip cs cs.tail).map fun p => .tuple [eC p.1, eC p.2] := by
        rw [ec, List.tail_cons, List.zipWith_map, List.zip, List.map_zipWith]
      rw [← e]
      exact z
    · rw [List.length_zip]
      omega
    · refine gt2 hz fun x2 y2 hx2 hy2 => ⟨rfl, Same.refl _, evd_ltC (evd_var rfl hx2) (evd_var rfl hy2) (asc_next h1.asc p (List.mem_of_getElem? e)), rfl⟩
end
end K40
end

section
set_option Elab.async false
set_option linter.all false
set_option maxRecDepth 100000
set_option maxHeartbeats 4000000
namespace K40
open PySem PySem.Spec PyProof.Rows L2
theorem sd_next {D : Ends} {σ : L2.St} {H : Hp} (h : D.nx σ H) : tNext D σ H := h
theorem not_mem_take {α : Type} {l : List α} (n : l.Nodup) {i : Nat} {c : α} (h : l[i]? = some c) : c ∉ l.take i := by
  intro m
  obtain ⟨j, hj, e⟩ := List.getElem_of_mem m
  obtain ⟨hi, e2⟩ := List.getElem?_eq_some_iff.mp h
  rw [List.length_take] at hj
  rw [List.getElem_take, ← e2] at e
  exact List.pairwise_iff_getElem.mp n j i (by omega) hi (by omega) (by rw [e, e2])
theorem ps_at {k : Nat} (hk : k < 3) : ∃ i j : Nat, pf k = (i : Int) ∧ ps k = (j : Int) ∧ ∀ c : Cell, [PyData.int c.1, .int c.2.1, .int c.2.2][i]? = some (.int (pr k c).1) ∧ [PyData.int c.1, .int c.2.1, .int c.2.2][j]? = some (.int (pr k c).2) := by
  match k, hk with
  | 0, _ => exact ⟨0, 1, rfl, rfl, fun c => ⟨rfl, rfl⟩⟩
  | 1, _ => exact ⟨0, 2, rfl, rfl, fun c => ⟨rfl, rfl⟩⟩
  | 2, _ => exact ⟨1, 2, rfl, rfl, fun c => ⟨rfl, rfl⟩⟩
section
variable {P : Program} {w : World} {K : PySem.W.Frag} {mg : Str → Option Value} {base : Heap} {a : Adr} {f : Addr} {fd : FuncData}
theorem ok_cells_by (F : Fun K "cells_by" "cells_by" s_cells_by f fd) (T : Txt K mg a) : FnOk P w K mg base CX0 1 f fd ["cells", "first", "second"] sp_cells_by := by
  refine F.ok sc_cells_by (fun vs H Q E h => by obtain ⟨n, cs, k, hv, _⟩ := h; exact hv.length) (fun cdv A outer s H vs Q E hr h => ?_)
  obtain ⟨n, cs, k, hv, hk, h1, q⟩ := h
  obtain ⟨x, y, z, rfl, hx, hy, hz⟩ := hv.threeE
  obtain ⟨k1, k2, e1, e2, hix⟩ := ps_at hk
  rw [e1] at hy
  rw [e2] at hz
  refine ⟨_, (pss_one (ps_ret (pe_dg (o0 := .dT []) (own := [("cell", 3)]) (Or.inr rfl) (hu_of hr) (by rfl) sc_cells_by.nd (pi_tupK K (pv 0)) (blkOk_by (N := n_cells_by) (sc := defScope s_cells_by) (by decide +kernel)) (fun _ _ _ _ _ => (pg_name (i := 3) sc_cells_by.nd rfl (by first | exact Or.inl rfl | exact Or.inr rfl))) (fun _ _ _ _ _ => pts_nil) (fun _ _ _ _ _ => (pe_tup (pa_cons (pe_ix (ix_tupK K) (pv 3) (pv 1) (fun _ _ => rfl)) (pa_cons (pe_ix (ix_tupK K) (pv 3) (pv 2) (fun _ _ => rfl)) pa_nil)))) (fun _ _ _ _ _ => (pv 3))))), ?_⟩
  unfold tRet tDg
  refine src_tup (ds := cs.map eC) (evd_var (i := 0) rfl hx) H (Same.refl _) _ fun J H2 G Y s2 w hG hY D nD => ?_
  rw [List.length_map] at w hY
  refine dg_it w (fun i Hc => Same H2 Hc ∧ ∃ kvs, Hc D = some (.dT kvs) ∧ TabOf Hc k (cs.take i) kvs) ⟨same_new nD, [], upd_same, rfl, .nil⟩ (fun i Hc _ z => hG Hc z.1) (fun i v Hc Hx hi z y => ?_) fun Hc z => ?_
  · obtain ⟨z1, kvs, zD, zt⟩ := z
    obtain ⟨s3, d0, ed0, hvx⟩ := hY i Hc v Hx z1 hi y
    rw [List.getElem?_map] at ed0
    obtain ⟨c, ec, rfl⟩ := Option.map_eq_some_iff.mp ed0
    have s4 : Same H Hx := (s2.trans z1).trans s3
    refine ⟨rfl, evt_yes.at (σ := _) (H := Hx) fun H4 s5 => ?_⟩
    refine iteT ?_
    refine (evd_tup (ds := [.int (pr k c).1, .int (pr k c).2]) (σ := (wipe (start n_cells_by [x, _, z]) [3]).set 3 (some v)) (H := H4) (eva_cons (evd_ixT (K := K) (k := k1) (evd_var (i := 3) rfl (hvx.mono s5 _ v)) (evd_var (i := 1) rfl (hy.mono (s4.trans s5) _ _)) (hix c).1) (eva_cons (evd_ixT (K := K) (k := k2) (evd_var (i := 3) rfl (hvx.mono s5 _ v)) (evd_var (i := 2) rfl (hz.mono (s4.trans s5) _ z)) (hix c).2) eva_nil)) (by rw [sizeLine_eq]; show 2 ≤ _; omega)).at fun kv H5 s6 hkv => ?_
    obtain ⟨b, xs, rfl, hb, hxs⟩ := hkv.tupE
    have exs : xs = (keyOf k c).map kV := DxA.of_ints (ns := [(pr k c).1, (pr k c).2]) hxs
    rw [exs] at hb
    have aD : H5 D = some (.dT kvs) := s6 _ _ (s5 _ _ (s3 _ _ zD))
    have hl : kvs.length = i := by
      have := congrArg List.length zt.1
      rw [List.length_map, List.length_map, List.length_take] at this
      omega
    have hn : valV kvs (keyOf k c) = none := valV_none fun m => by
      rw [zt.1] at m
      obtain ⟨c', m', e⟩ := List.mem_map.mp m
      have := h1.inj k c' (List.mem_of_mem_take m') c (List.mem_of_getElem? ec) (keyOf_inj e)
      rw [this] at m'
      exact not_mem_take h1.asc.nodup ec m'
    have hlen := h1.len
    refine ⟨v, rfl, _, .t aD hb (by rw [hl, sizeLine_eq]; omega), same_mut (z1.trans ((s3.trans s5).trans s6)) nD, kvs ++ [(keyOf k c, v)], ?_, ?_⟩
    · rw [upd_same, putK_new v hn]
    · have tm : TSame Hc (upd H5 D (.dT (putK kvs (keyOf k c) v))) := TSame.trans (Same.t ((s3.trans s5).trans s6)) (tsame_mut aD fun _ z => nomatch z)
      have tm2 : TSame H4 (upd H5 D (.dT (putK kvs (keyOf k c) v))) := TSame.trans (Same.t s6) (tsame_mut aD fun _ z => nomatch z)
      have tk : cs.take (i + 1) = cs.take i ++ [c] := by
        rw [List.take_add_one, ec]
        rfl
      refine ⟨?_, ?_⟩
      · rw [tk, List.map_append, List.map_append, zt.1]
        rfl
      · rw [tk, List.map_append, List.map_append]
        exact (zt.2.tmono tm _ _ (noLA_map eC_noL _)).append (.one ((hvx.mono s5 _ v).tmono tm2 _ v (eC_noL c)))
  · obtain ⟨z1, kvs, zD, zt⟩ := z
    rw [List.take_length] at zt
    exact q D Hc kvs (same_none s2 nD) (s2.trans z1) zD zt
def sp_is_partial_of : Sp := spD (fun ds => ∃ n cs, ds = [.int n, eS cs] ∧ PartOk n cs) (fun _ d => d = .bool true)
theorem ok_is_partial_of (F : Fun K "is_partial_of" "is_partial_of" s_is_partial_of f fd) (T : Txt K mg a) (D_are_cells : Has P w K mg base 4 "are_cells" sp_are_cells) (D_cells_by : Has P w K mg base 1 "cells_by" sp_cells_by) : FnOk P w K mg base CX0 5 f fd ["order", "value"] sp_is_partial_of := by
  refine F.ok sc_is_partial_of (spD_len fun ds ⟨i, _, e, _⟩ => by rw [e]; rfl) (fun cdv A outer s H vs Q E hr h => ?_)
  obtain ⟨ds, hv, ⟨n, cs, rfl, h1⟩, q⟩ := h
  obtain ⟨x, y, rfl, hx, hy⟩ := hv.twoE
  refine ⟨_, (pss_cons (ps_if (pt_not (pt_val (pe_fn D_are_cells (hr.mono (by decide)) (by rfl) (pa_cons (pv 0) (pa_cons (pv 1) pa_nil))))) (pss_one (ps_ret pe_bl)) pss_nil) (pss_one (ps_ret (pe_callB (cr_allK K rfl) (by rfl) T.n_all bt_all (pa_cons (pe_lc (own := [("first", 2), ("second", 3)]) (by rfl) sc_is_partial_of.nd (pi_tupK K (pe_glob (v := .ref a.pP) (by rfl) T.g_PAIRINGS rfl)) (blkOk_by (N := n_is_partial_of) (sc := defScope s_is_partial_of) (by decide +kernel)) (fun _ _ _ _ _ => (pg_tupK (n := 2) K rfl (pgs_cons (pg_name (i := 2) sc_is_partial_of.nd rfl (by first | exact Or.inl rfl | exact Or.inr rfl)) (pgs_cons (pg_name (i := 3) sc_is_partial_of.nd rfl (by first | exact Or.inl rfl | exact Or.inr rfl)) pgs_nil)))) (fun _ _ _ _ _ => pts_nil) (fun _ _ _ _ _ => (pe_cmpR op_eq (pe_callB call_len_dT (by rfl) T.n_len bt_len (pa_cons (pe_fn D_cells_by (hr.mono (by decide)) (by rfl) (pa_cons (pv 1) (pa_cons (pv 2) (pa_cons (pv 3) pa_nil)))) pa_nil)) (pe_callB (call_lenK K) (by rfl) T.n_len bt_len (pa_cons (pv 1) pa_nil)) (nomark _)))) pa_nil))))), ?_⟩
  refine sd_ifF (evt_notT (evt_B (evd_call (eva_cons (evd_var rfl hx) (eva_cons (evd_var rfl hy) eva_nil)) ⟨n, cs, rfl, h1⟩ fun e h => h))) fun H2 s2 => ?_
  unfold tNext
  dsimp only
  refine sd_ret (P := fun v H3 => Dx H3 v (.bool true)) ?_ fun v H3 s3 hd => q v H3 _ rfl (s2.trans s3) hd
  refine evd_allT (evd_lcPair T (fun _ => .bool true) (fun _ => rfl) rfl (fun _ _ => rfl) fun k hk H' s3 => ?_) (fun d m => by simpa using m)
  have hy3 := hy.mono (s2.trans s3) _ y
  refine evd_eqI (evd_lenDict (cs := cs) (k := k) (evp_cells_by (eva_cons (evd_var rfl hy3) (eva_cons (evd_var rfl (.int _)) (eva_cons (evd_var rfl (.int _)) eva_nil))) hk h1)) (evd_lenT (ds := cs.map eC) (evd_var rfl hy3)) ?_
  rw [List.length_map]
  exact decide_eq_true rfl
end
end K40
end

section
set_option Elab.async false
set_option linter.all false
set_option maxRecDepth 100000
set_option maxHeartbeats 4000000
namespace K40
open PySem PySem.Spec PyProof.Rows L2
theorem sd_ifN {t : TT} {tu : TS} {D : Ends} {σ : L2.St} {H : Hp} (h : EvT t σ H false) (h1 : ∀ H2, Same H H2 → D.nx σ H2) : tIfS t tu tNext D σ H := sd_ifF h h1
def sq24 : List (Int × Int) := (rgI 24).flatMap fun i => (rgI 24).map fun j => (i, j)
theorem side_ne {n : Int} {T : Trade} (h : IsTrade n T) (b : Bool) : sd T b ≠ [] := by
  cases b with
  | true => exact h.ne
  | false =>
    have := h.turn.ne
    exact this
theorem side_len {n : Int} {T : Trade} (h : IsTrade n T) (hn : n ≤ 24) (b : Bool) : (sd T b).length ≤ 576 := by
  have q := len_le_of_inj (pr 0) (m := sq24) (h.asc b).nodup (fun c m => by
    have r := h.rng b c m
    refine List.mem_flatMap.mpr ⟨c.1, mem_rgI.mpr ⟨r.1.1, ?_⟩, List.mem_map.mpr ⟨c.2.1, mem_rgI.mpr ⟨r.2.1.1, ?_⟩, rfl⟩⟩
    · have := r.1.2
      show c.1 < 24
      omega
    · have := r.2.1.2
      show c.2.1 < 24
      omega) (fun c mc d md e => h.inj b 0 c mc d md e)
  have e : sq24.length = 576 := by decide +kernel
  rw [e] at q
  exact q
theorem trade_part {n : Int} {T : Trade} (h : IsTrade n T) (hn : n ≤ 24) (b : Bool) : PartOk n (sd T b) where
  asc := h.asc b
  rng := h.rng b
  inj := h.inj b
  ne := side_ne h b
  len := side_len h hn b
theorem nodup_map_inj {α β : Type} {f : α → β} {l : List α} (n : l.Nodup) (h : ∀ a ∈ l, ∀ c ∈ l, f a = f c → a = c) : (l.map f).Nodup := by
  unfold List.Nodup
  rw [List.pairwise_map]
  exact List.Pairwise.imp_of_mem (fun {a b} ma mb ne e => ne (h a ma b mb e)) n
theorem sides_perm {n : Int} {T : Trade} (h : IsTrade n T) (k : Nat) : (T.1.map (pr k)).Perm (T.2.map (pr k)) := by
  refine perm_of_mem (nodup_map_inj (h.asc true).nodup (h.inj true k)) (nodup_map_inj (h.asc false).nodup (h.inj false k)) fun p => ?_
  constructor
  · intro m
    obtain ⟨c, mc, rfl⟩ := List.mem_map.mp m
    obtain ⟨d, md, e⟩ := h.to true k c mc
    exact List.mem_map.mpr ⟨d, md, e.symm⟩
  · intro m
    obtain ⟨c, mc, rfl⟩ := List.mem_map.mp m
    obtain ⟨d, md, e⟩ := h.to false k c mc
    exact List.mem_map.mpr ⟨d, md, e.symm⟩
theorem sorted_sides {n : Int} {T : Trade} (h : IsTrade n T) (k : Nat) : (T.1.map fun c => eP (pr k c)).mergeSort dLe = (T.2.map fun c => eP (pr k c)).mergeSort dLe := by
  have p := (sides_perm h k).map eP
  rw [List.map_map, List.map_map] at p
  refine sort_one p (fun d m => ?_) fun d md e me => ?_
  · obtain ⟨_, _, rfl⟩ := List.mem_map.mp m
    exact eP_pure _
  · obtain ⟨_, _, rfl⟩ := List.mem_map.mp md
    obtain ⟨_, _, rfl⟩ := List.mem_map.mp me
    exact eP_alike _ _
theorem pureA_of {ds : List PyData} (h : ∀ d ∈ ds, pure' d = true) : pureA ds = true := by
  induction ds with
  | nil => rfl
  | cons d ds ih => rw [pureA, h d List.mem_cons_self, ih fun e m => h e (List.mem_cons_of_mem _ m)]; rfl
theorem depthA_of {ds : List PyData} {n : Nat} (h : ∀ d ∈ ds, d.depth ≤ n) : PyData.depthAll ds ≤ n := by
  induction ds with
  | nil => simp [PyData.depthAll]
  | cons d ds ih =>
    rw [PyData.depthAll]
    have h1 := h d List.mem_cons_self
    have h2 := ih fun e m => h e (List.mem_cons_of_mem _ m)
    omega
theorem sortedP_mem {k : Nat} {cs : List Cell} {d : PyData} (m : d ∈ (cs.map fun c => eP (pr k c)).mergeSort dLe) : ∃ p, d = eP p := by
  have m2 := (List.mergeSort_perm _ dLe).mem_iff.mp m
  obtain ⟨c, _, rfl⟩ := List.mem_map.mp m2
  exact ⟨_, rfl⟩
section
variable {P : Program} {w : World} {K : PySem.W.Frag} {mg : Str → Option Value} {base : Heap} {a : Adr} {f : Addr} {fd : FuncData}
def sp_is_trade_of : Sp := spD (fun ds => ∃ n T, ds = [.int n, eT T] ∧ IsTrade n T ∧ n ≤ 24) (fun _ d => d = .bool true)
theorem ok_is_trade_of (F : Fun K "is_trade_of" "is_trade_of" s_is_trade_of f fd) (T : Txt K mg a) (D_is_partial_of : Has P w K mg base 5 "is_partial_of" sp_is_partial_of) (D_cells_by : Has P w K mg base 1 "cells_by" sp_cells_by) : FnOk P w K mg base CX0 6 f fd ["order", "value"] sp_is_trade_of := by
  refine F.ok sc_is_trade_of (spD_len fun ds ⟨i, _, e, _⟩ => by rw [e]; rfl) (fun cdv A outer s H vs Q E hr h => ?_)
  obtain ⟨ds, hv, ⟨n, tr, rfl, h1, h2⟩, q⟩ := h
  obtain ⟨x, y, rfl, hx, hy⟩ := hv.twoE
  have p1 : PartOk n tr.1 := trade_part h1 h2 true
  have p2 : PartOk n tr.2 := trade_part h1 h2 false
  refine ⟨_, (pss_cons (ps_if (PW.pt (pw_or (pt_not (pt_val (pe_callB (call_isiK K) (by rfl) T.n_isinstance bt_isinstance (pa_cons (pv 1) (pa_cons (pe_bltn (v := .ty "tuple") (by rfl) T.n_tuple bt_tuple rfl) pa_nil))))) (pw_or (pt_cmpR op_ne (pe_callB (call_lenK K) (by rfl) T.n_len bt_len (pa_cons (pv 1) pa_nil)) pe_int (nomark _)) (pw_or1 (pt_not (pt_val (pe_callB (cr_allK K rfl) (by rfl) T.n_all bt_all (pa_cons (pe_lc (own := [("cells", 7)]) (by rfl) sc_is_trade_of.nd (pi_tupK K (pv 1)) (blkOk_by (N := n_is_trade_of) (sc := defScope s_is_trade_of) (by decide +kernel)) (fun _ _ _ _ _ => (pg_name (i := 7) sc_is_trade_of.nd rfl (by first | exact Or.inl rfl | exact Or.inr rfl))) (fun _ _ _ _ _ => pts_nil) (fun _ _ _ _ _ => (pe_fn D_is_partial_of (hr.mono (by decide)) (by rfl) (pa_cons (pv 0) (pa_cons (pv 7) pa_nil))))) pa_nil)))))))) (pss_one (ps_ret pe_bl)) pss_nil) (pss_cons (ps_asg (pv 1) (pg_tupK (n := 2) K rfl (pgs_cons (pg_name (i := 2) sc_is_trade_of.nd rfl (by first | exact Or.inl rfl | exact Or.inr rfl)) (pgs_cons (pg_name (i := 3) sc_is_trade_of.nd rfl (by first | exact Or.inl rfl | exact Or.inr rfl)) pgs_nil)))) (pss_cons (ps_if (PW.pt (pw_or (pt_cmpR (op_eqK K hr.units) (pv 2) (pe_tup pa_nil) (nomark _)) (pw_or1 (pt_val (pe_callB (cr_anyK K rfl) (by rfl) T.n_any bt_any (pa_cons (pe_lc (own := [("cell", 6)]) (by rfl) sc_is_trade_of.nd (pi_tupK K (pv 2)) (blkOk_by (N := n_is_trade_of) (sc := defScope s_is_trade_of) (by decide +kernel)) (fun _ _ _ _ _ => (pg_name (i := 6) sc_is_trade_of.nd rfl (by first | exact Or.inl rfl | exact Or.inr rfl))) (fun _ _ _ _ _ => pts_nil) (fun _ _ _ _ _ => (pe_cmpR (op_inK K (hu65_of hr)) (pv 6) (pv 3) (by with_unfolding_all rfl)))) pa_nil)))))) (pss_one (ps_ret pe_bl)) pss_nil) (pss_one (ps_ret (pe_callB (cr_allK K rfl) (by rfl) T.n_all bt_all (pa_cons (pe_lc (own := [("one", 4), ("two", 5)]) (by rfl) sc_is_trade_of.nd (pi_tupK K (pe_glob (v := .ref a.pP) (by rfl) T.g_PAIRINGS rfl)) (blkOk_by (N := n_is_trade_of) (sc := defScope s_is_trade_of) (by decide +kernel)) (fun _ _ _ _ _ => (pg_tupK (n := 2) K rfl (pgs_cons (pg_name (i := 4) sc_is_trade_of.nd rfl (by first | exact Or.inl rfl | exact Or.inr rfl)) (pgs_cons (pg_name (i := 5) sc_is_trade_of.nd rfl (by first | exact Or.inl rfl | exact Or.inr rfl)) pgs_nil)))) (fun _ _ _ _ _ => pts_nil) (fun _ _ _ _ _ => (pe_cmpR (op_eqK K hr.units) (pe_callB (cr_sortedDT rfl hr.units) (by rfl) T.n_sorted bt_sorted (pa_cons (pe_fn D_cells_by (hr.mono (by decide)) (by rfl) (pa_cons (pv 2) (pa_cons (pv 4) (pa_cons (pv 5) pa_nil)))) pa_nil)) (pe_callB (cr_sortedDT rfl hr.units) (by rfl) T.n_sorted bt_sorted (pa_cons (pe_fn D_cells_by (hr.mono (by decide)) (by rfl) (pa_cons (pv 3) (pa_cons (pv 4) (pa_cons (pv 5) pa_nil)))) pa_nil)) (nomark _)))) pa_nil))))))), ?_⟩
  refine sd_ifN (evt_orF (evt_notT (evt_B (evd_isiTup (evd_var rfl hy) rfl))) (evt_orF (evt_test (evd_neI (evd_lenT (evd_var rfl hy)) evd_int rfl)) (evt_notT (evt_B (evd_allT (evd_lc (ds := [eS tr.1, eS tr.2]) (src_tup (evd_var rfl hy)) (fun _ => .bool true) (by rw [sizeLine_eq]; show 2 < _; omega) (fun i d z H' e s3 hz => ?_) gm_name) (fun d m => by obtain ⟨_, _, e⟩ := List.mem_map.mp m; exact e.symm)))))) fun H2 s2 => ?_
  · have key : ∃ cs, d = eS cs ∧ PartOk n cs := by
      have m := List.mem_of_getElem? e
      simp only [List.mem_cons, List.not_mem_nil, or_false] at m
      rcases m with rfl | rfl
      · exact ⟨_, rfl, p1⟩
      · exact ⟨_, rfl, p2⟩
    obtain ⟨cs, rfl, hcs⟩ := key
    exact ⟨rfl, Same.refl _, evd_call (eva_cons (evd_var rfl (hx.mono s3 _ x)) (eva_cons (evd_var rfl hz) eva_nil)) ⟨n, cs, rfl, hcs⟩ fun e h => h, rfl⟩
  · dsimp only
    refine ⟨y, rfl, gt2 (hy.mono s2 _ y) fun t1 t2 ht1 ht2 => ?_⟩
    dsimp only
    have l1 := p1.len
    refine sd_ifN (evt_orF (evt_test (evd_eqD (b := false) (evd_var (i := 2) rfl ht1) (evd_tup (ds := []) eva_nil (by rw [sizeLine_eq]; show 0 ≤ _; omega)) (eS_pure _) rfl (by have := eS_depth tr.1; omega) (by decide) (eqv_false (eS_pure _) rfl fun e => p1.ne (by simpa [eS] using e))))
      (evt_B (evd_any (bs := tr.1.map fun _ => false) (by
        rw [List.map_map]
        exact evd_lcM (l := tr.1) (enc := eC) (src_tup (evd_var (i := 2) rfl ht1)) (fun _ => .bool false) (by rw [sizeLine_eq]; omega) (fun i c z H' e s3 hz => ⟨rfl, Same.refl _, evd_inT (b := false) (evd_var rfl hz) (evd_var (i := 3) rfl (ht2.mono s3 _ t2)) (eC_pure c) (pureA_map eC_pure _) (by have := eC_depth c; omega) (by have := eS_depth tr.2; rw [eS] at this; omega) (by
          rw [List.any_eq_false]
          intro z mz
          obtain ⟨d, md, rfl⟩ := List.mem_map.mp mz
          rw [eqv_false (eC_pure d) (eC_pure c) fun e2 => ?_]
          · simp
          · have m1 : c ∈ tr.1 := List.mem_of_getElem? e
            rw [← eC_inj e2] at m1
            exact h1.dis true d m1 md), rfl⟩) gm_name) (by
        rw [List.any_eq_false]
        intro z mz
        obtain ⟨_, _, rfl⟩ := List.mem_map.mp mz
        simp)))) fun H3 s3 => ?_
    dsimp only
    refine sd_ret (P := fun v H3 => Dx H3 v (.bool true)) ?_ fun v H4 s4 hd => q v H4 _ rfl ((s2.trans s3).trans s4) hd
    refine evd_allT (evd_lcPair T (fun _ => .bool true) (fun _ => rfl) rfl (fun _ _ => rfl) fun k hk H' s4 => ?_) (fun d m => by simpa using m)
    refine evd_eqD (b := true) (evd_sortedDict (cs := tr.1) (k := k) (evp_cells_by (eva_cons (evd_var rfl (ht1.mono (s3.trans s4) _ t1)) (eva_cons (evd_var rfl (.int _)) (eva_cons (evd_var rfl (.int _)) eva_nil))) hk p1))
      (evd_sortedDict (cs := tr.2) (k := k) (evp_cells_by (eva_cons (evd_var rfl (ht2.mono (s3.trans s4) _ t2)) (eva_cons (evd_var rfl (.int _)) (eva_cons (evd_var rfl (.int _)) eva_nil))) hk p2)) ?_ ?_ ?_ ?_ ?_
    · rw [pure']
      exact pureA_of fun d m => by obtain ⟨p, rfl⟩ := sortedP_mem m; exact eP_pure p
    · rw [pure']
      exact pureA_of fun d m => by obtain ⟨p, rfl⟩ := sortedP_mem m; exact eP_pure p
    · rw [PyData.depth]
      have := depthA_of (n := 1) fun d m => by obtain ⟨p, rfl⟩ := sortedP_mem (k := k) (cs := tr.1) m; exact eP_depth p
      omega
    · rw [PyData.depth]
      have := depthA_of (n := 1) fun d m => by obtain ⟨p, rfl⟩ := sortedP_mem (k := k) (cs := tr.2) m; exact eP_depth p
      omega
    · refine eqv_true ?_ (by rw [sorted_sides h1 k])
      rw [pure']
      exact pureA_of fun d m => by obtain ⟨p, rfl⟩ := sortedP_mem m; exact eP_pure p
def sp_require_trade : Sp := spD (fun ds => ∃ n T, ds = [.int n, eT T] ∧ IsTrade n T ∧ n ≤ 24) (fun _ d => d = .none)
theorem ok_require_trade (F : Fun K "require_trade" "require_trade" s_require_trade f fd) (T : Txt K mg a) (D_is_trade_of : Has P w K mg base 6 "is_trade_of" sp_is_trade_of) : FnOk P w K mg base CX0 7 f fd ["order", "value"] sp_require_trade := by
  refine F.ok sc_require_trade (spD_len fun ds ⟨i, _, e, _⟩ => by rw [e]; rfl) (fun cdv A outer s H vs Q E hr h => ?_)
  obtain ⟨ds, hv, ⟨n, tr, rfl, h1, h2⟩, q⟩ := h
  obtain ⟨x, y, rfl, hx, hy⟩ := hv.twoE
  refine ⟨_, (pss_one (ps_if (pt_not (pt_val (pe_fn D_is_trade_of (hr.mono (by decide)) (by rfl) (pa_cons (pv 0) (pa_cons (pv 1) pa_nil))))) pss_never pss_nil)), ?_⟩
  exact sd_ifF (evt_notT (evt_B (evd_call (eva_cons (evd_var rfl hx) (eva_cons (evd_var rfl hy) eva_nil)) ⟨n, tr, rfl, h1, h2⟩ fun e h => h))) fun H2 s2 => q .non H2 _ rfl s2 .non
def sp_is_trade : Sp := spD (fun ds => ∃ (n : Int) (T : Trade), ds = [.int n, eT T] ∧ IsTrade n T ∧ 1 ≤ n ∧ n ≤ 24) (fun _ d => d = .bool true)
theorem ok_is_trade (F : Fun K "is_trade" "is_trade" s_is_trade f fd) (T : Txt K mg a) (D_is_trade_of : Has P w K mg base 6 "is_trade_of" sp_is_trade_of) (D_require_order : Has P w K mg base 4 "require_order" sp_require_order) : FnOk P w K mg base CX0 7 f fd ["order", "value"] sp_is_trade := by
  refine F.ok sc_is_trade (spD_len fun ds ⟨i, _, e, _⟩ => by rw [e]; rfl) (fun cdv A outer s H vs Q E hr h => ?_)
  obtain ⟨ds, hv, ⟨n, tr, rfl, h1, h0, h2⟩, q⟩ := h
  obtain ⟨x, y, rfl, hx, hy⟩ := hv.twoE
  refine ⟨_, (pss_cons (ps_expr (pe_fn D_require_order (hr.mono (by decide)) (by rfl) (pa_cons (pv 0) pa_nil))) (pss_one (ps_ret (pe_fn D_is_trade_of (hr.mono (by decide)) (by rfl) (pa_cons (pv 0) (pa_cons (pv 1) pa_nil)))))), ?_⟩
  refine sd_drop (evd_call (eva_cons (evd_var rfl hx) eva_nil) ⟨n, rfl, h0, h2⟩ fun e h => h) fun _ H2 s2 _ => ?_
  dsimp only
  exact sd_ret (P := fun v H3 => Dx H3 v (.bool true)) (evd_call (eva_cons (evd_var rfl (hx.mono s2 _ x)) (eva_cons (evd_var rfl (hy.mono s2 _ y)) eva_nil)) ⟨n, tr, rfl, h1, h2⟩ fun e h => h) fun v H3 s3 hd => q v H3 _ rfl (s2.trans s3) hd
def sp_turned : Sp := spD (fun ds => ∃ (n : Int) (T : Trade), ds = [.int n, eT T] ∧ IsTrade n T ∧ 1 ≤ n ∧ n ≤ 24) (fun ds d => ∀ n T, ds = [.int n, eT T] → d = eT (turn T))
theorem ok_turned (F : Fun K "turned" "turned" s_turned f fd) (T : Txt K mg a) (D_require_trade : Has P w K mg base 7 "require_trade" sp_require_trade) (D_require_order : Has P w K mg base 4 "require_order" sp_require_order) : FnOk P w K mg base CX0 8 f fd ["order", "trade"] sp_turned := by
  refine F.ok sc_turned (spD_len fun ds ⟨i, _, e, _⟩ => by rw [e]; rfl) (fun cdv A outer s H vs Q E hr h => ?_)
  obtain ⟨ds, hv, ⟨n, tr, rfl, h1, h0, h2⟩, q⟩ := h
  obtain ⟨x, y, rfl, hx, hy⟩ := hv.twoE
  refine ⟨_, (pss_cons (ps_expr (pe_fn D_require_order (hr.mono (by decide)) (by rfl) (pa_cons (pv 0) pa_nil))) (pss_cons (ps_expr (pe_fn D_require_trade (hr.mono (by decide)) (by rfl) (pa_cons (pv 0) (pa_cons (pv 1) pa_nil)))) (pss_one (ps_ret (pe_tup (pa_cons (pe_ix (ix_tupK K) (pv 1) pe_int (fun _ _ => rfl)) (pa_cons (pe_ix (ix_tupK K) (pv 1) pe_int (fun _ _ => rfl)) pa_nil))))))), ?_⟩
  refine sd_drop (evd_call (eva_cons (evd_var rfl hx) eva_nil) ⟨n, rfl, h0, h2⟩ fun e h => h) fun _ H2 s2 _ => ?_
  dsimp only
  have hx2 := hx.mono s2 _ x
  have hy2 := hy.mono s2 _ y
  refine sd_drop (evd_call (eva_cons (evd_var rfl hx2) (eva_cons (evd_var rfl hy2) eva_nil)) ⟨n, tr, rfl, h1, h2⟩ fun e h => h) fun _ H3 s3 _ => ?_
  dsimp only
  have hy3 := hy2.mono s3 _ y
  refine sd_ret (P := fun v H3 => Dx H3 v (eT (turn tr))) (evd_tup (eva_cons (evd_ixT (k := 1) (evd_var rfl hy3) evd_int rfl) (eva_cons (evd_ixT (k := 0) (evd_var rfl hy3) evd_int rfl) eva_nil)) (by rw [sizeLine_eq]; show 2 ≤ _; omega)) fun v H4 s4 hd => q v H4 _ (fun n' T' e => ?_) ((s2.trans s3).trans s4) hd
  rw [eT_inj (two_inj e).2]
end
end K40
end

section
set_option Elab.async false
set_option linter.all false
set_option maxRecDepth 100000
set_option maxHeartbeats 4000000
namespace K40
open PySem PySem.Spec PyProof.Rows L2
/-- lists, tuples and dicts stay -/
def Seqy : HO → Prop
  | .lst _ => True
  | .tup _ => True
  | .dT _ => True
  | _ => False
def KSame (H H' : Hp) : Prop := ∀ a o, Seqy o → H a = some o → H' a = some o
theorem Same.k {H H' : Hp} (s : Same H H') : KSame H H' := fun a o _ e => s a o e
theorem KSame.t {H H' : Hp} (s : KSame H H') : TSame H H' := fun a xs e => s a _ trivial e
theorem KSame.trans {H H1 H2 : Hp} (s : KSame H H1) (t : KSame H1 H2) : KSame H H2 := fun a o q e => t a o q (s a o q e)
theorem ksame_slH {H : Hp} {x C dx : Addr} {vs : List (Option V)} (h1 : ∀ o, H x = some o → ¬ Seqy o) (h2 : ∀ o, H dx = some o → ¬ Seqy o) : KSame H (SlX.slH H x C dx vs) := fun a o q e => by
  rw [SlX.slH_ne (fun z => h1 o (by rw [← z]; exact e) q) (fun z => h2 o (by rw [← z]; exact e) q)]
  exact e
theorem slO_notSeqy {a C dx : Addr} {vs : List (Option V)} : ¬ Seqy (SlX.SlO a C dx vs) := fun h => h
def DictsAt (H : Hp) (l : Addr) (cs : List Cell) : Prop := ∃ xs, H l = some (.lst xs) ∧ xs.length = 3 ∧ ∀ k, k < 3 → ∃ d kvs, xs[k]? = some (.ref d) ∧ H d = some (.dT kvs) ∧ TabOf H k cs kvs
theorem DictsAt.kmono {H H' : Hp} {l : Addr} {cs : List Cell} (s : KSame H H') (h : DictsAt H l cs) : DictsAt H' l cs := by
  obtain ⟨xs, e1, e2, h⟩ := h
  refine ⟨xs, s _ _ trivial e1, e2, fun k hk => ?_⟩
  obtain ⟨d, kvs, h1, h2, h3⟩ := h k hk
  exact ⟨d, kvs, h1, s _ _ trivial h2, h3.tmono s.t⟩
def SidesAt (a : Adr) (H : Hp) (x : Addr) (T : Trade) : Prop := ∃ dx lp lt, SlX.Slt H x a.cS dx [some (.ref lp), some (.ref lt)] ∧ DictsAt H lp T.2 ∧ DictsAt H lt T.1
theorem SidesAt.mono {a : Adr} {H H' : Hp} {x : Addr} {T : Trade} (s : Same H H') (h : SidesAt a H x T) : SidesAt a H' x T := by
  obtain ⟨dx, lp, lt, h1, h2, h3⟩ := h
  exact ⟨dx, lp, lt, slt_mono s h1, h2.kmono (Same.k s), h3.kmono (Same.k s)⟩
/-- what is found under a cell's key -/
theorem tab_find {H : Hp} {k : Nat} {c d : Cell} : ∀ {cs : List Cell} {kvs : List (List Key × V)}, TabOf H k cs kvs → d ∈ cs → (∀ a ∈ cs, pr k a = pr k d → a = d) → pr k c = pr k d → ∃ x, valV kvs (keyOf k c) = some x ∧ Dx H x (eC d)
  | [], _, _, m, _, _ => absurd m List.not_mem_nil
  | b :: cs, [], h, _, _, _ => by cases h.1
  | b :: cs, p :: kvs, h, m, hi, e => by
    have h1 := h.1
    simp only [List.map_cons, List.cons.injEq] at h1
    have h2 := h.2
    simp only [List.map_cons] at h2
    cases h2 with
    | cons g1 g2 =>
      by_cases q : keyOf k b = keyOf k c
      · have eb : b = d := hi b List.mem_cons_self ((keyOf_inj q).trans e)
        subst eb
        exact ⟨p.2, valV_pos (by rw [h1.1, q]), g1⟩
      · have mb : d ∈ cs := by
          rcases List.mem_cons.mp m with z | z
          · exfalso
            apply q
            unfold keyOf
            rw [e, z]
          · exact z
        obtain ⟨x, e1, e2⟩ := tab_find (cs := cs) (kvs := kvs) ⟨h1.2, g2⟩ mb (fun a ma => hi a (List.mem_cons_of_mem _ ma)) e
        refine ⟨x, ?_, e2⟩
        rw [← e1]
        unfold valV
        rw [List.find?_cons_of_neg (by rw [h1.1]; simpa using q)]
section
variable {P : Program} {w : World} {K : PySem.W.Frag} {mg : Str → Option Value} {base : Heap} {a : Adr} {f : Addr} {fd : FuncData}
def sp_Sides_init (a : Adr) : Sp := fun vs H Q _ => ∃ x dx r n T, vs = [.ref x, r] ∧ dx ≠ x ∧ H x = some (.ins a.cS dx []) ∧ H dx = some (.own x) ∧ Dx H r (eT T) ∧ IsTrade n T ∧ n ≤ 24 ∧
  ∀ H', (∀ b o, b ≠ x → b ≠ dx → H b = some o → H' b = some o) → SidesAt a H' x T → Q .non H'
theorem ok_Sides_init (F : Fun K "__init__" "Sides.__init__" s_Sides_init f fd) (T : Txt K mg a) (D_cells_by : Has P w K mg base 1 "cells_by" sp_cells_by) : FnOk P w K mg base CX0 2 f fd ["self", "trade"] (sp_Sides_init a) := by
  refine F.ok sc_Sides_init (fun vs H Q E q => by obtain ⟨x, dx, r, _, _, rfl, _⟩ := q; rfl) (fun cdv A outer s H vs Q E hr h => ?_)
  obtain ⟨x, dx, y, n, tr, rfl, ne, ex, edx, hy, h1, h2, q⟩ := h
  have p1 : PartOk n tr.1 := trade_part h1 h2 true
  have p2 : PartOk n tr.2 := trade_part h1 h2 false
  refine ⟨_, (pss_cons (ps_asg (pv 1) (pg_tupK (n := 2) K rfl (pgs_cons (pg_name (i := 2) sc_Sides_init.nd rfl (by first | exact Or.inl rfl | exact Or.inr rfl)) (pgs_cons (pg_name (i := 3) sc_Sides_init.nd rfl (by first | exact Or.inl rfl | exact Or.inr rfl)) pgs_nil)))) (pss_cons (SlX.ps_sl (pv 0) (pe_lc (own := [("first", 4), ("second", 5)]) (by rfl) sc_Sides_init.nd (pi_tupK K (pe_glob (v := .ref a.pP) (by rfl) T.g_PAIRINGS rfl)) (blkOk_by (N := n_Sides_init) (sc := defScope s_Sides_init) (by decide +kernel)) (fun _ _ _ _ _ => (pg_tupK (n := 2) K rfl (pgs_cons (pg_name (i := 4) sc_Sides_init.nd rfl (by first | exact Or.inl rfl | exact Or.inr rfl)) (pgs_cons (pg_name (i := 5) sc_Sides_init.nd rfl (by first | exact Or.inl rfl | exact Or.inr rfl)) pgs_nil)))) (fun _ _ _ _ _ => pts_nil) (fun _ _ _ _ _ => (pe_fn D_cells_by (hr.mono (by decide)) (by rfl) (pa_cons (pv 2) (pa_cons (pv 4) (pa_cons (pv 5) pa_nil))))))) (pss_one (SlX.ps_sl (pv 0) (pe_lc (own := [("first", 4), ("second", 5)]) (by rfl) sc_Sides_init.nd (pi_tupK K (pe_glob (v := .ref a.pP) (by rfl) T.g_PAIRINGS rfl)) (blkOk_by (N := n_Sides_init) (sc := defScope s_Sides_init) (by decide +kernel)) (fun _ _ _ _ _ => (pg_tupK (n := 2) K rfl (pgs_cons (pg_name (i := 4) sc_Sides_init.nd rfl (by first | exact Or.inl rfl | exact Or.inr rfl)) (pgs_cons (pg_name (i := 5) sc_Sides_init.nd rfl (by first | exact Or.inl rfl | exact Or.inr rfl)) pgs_nil)))) (fun _ _ _ _ _ => pts_nil) (fun _ _ _ _ _ => (pe_fn D_cells_by (hr.mono (by decide)) (by rfl) (pa_cons (pv 3) (pa_cons (pv 4) (pa_cons (pv 5) pa_nil)))))))))), ?_⟩
  refine ⟨y, rfl, gt2 hy fun t1 t2 ht1 ht2 => ?_⟩
  dsimp only
  have mk : ∀ (cs : List Cell) (i : Nat) (u : V) (σ : L2.St) (H0 : Hp), PartOk n cs → σ = [some (.ref x), some y, some t1, some t2, none, none] → (i = 2 ∨ i = 3) → σ[i]? = some (some u) → Dx H0 u (eS cs) →
      EvP (tLc (iTup K (tC (.ref a.pP))) (gTup K 2 (gCons (gName 4) (gCons (gName 5) gNil))) tYes (tCall sp_cells_by [] E0 (tCons (tVar i) (tCons (tVar 4) (tCons (tVar 5) tNil)))) [4, 5]) σ H0 fun v H2 => ∃ l, v = .ref l ∧ DictsAt H2 l cs := fun cs i u σ H0 hp es hi eu hu => by
    refine (evp_lcPair T (fun k v H => ∃ d kvs, v = .ref d ∧ H d = some (.dT kvs) ∧ TabOf H k cs kvs) (fun k v H H' s ⟨d, kvs, e1, e2, e3⟩ => ⟨d, kvs, e1, s _ _ (fun _ z => nomatch z) e2, e3.tmono s.t⟩) (by rw [es]; rfl) (fun _ _ => by rw [es]; rfl) fun k hk H' s3 => ?_).imp fun v H2 ⟨D, xs, e1, _, e3, e4, e5⟩ => ?_
    · have ei : ∀ k, ((((wipe σ [4, 5]).set 4 (some (.int (pf k)))).set 5 (some (.int (ps k)))) : L2.St)[i]? = some (some u) := fun k => by
        rw [es] at eu ⊢
        rcases hi with rfl | rfl
        · exact eu
        · exact eu
      refine (evp_cells_by (eva_cons (evd_var (ei k) (hu.mono s3 _ u)) (eva_cons (evd_var (by rw [es]; rfl) (.int _)) (eva_cons (evd_var (by rw [es]; rfl) (.int _)) eva_nil))) hk hp).imp fun v H2 ⟨d, kvs, e1, _, e2, e3⟩ => ⟨d, kvs, e1, e2, e3⟩
    · refine ⟨D, e1, xs, e3, e4, fun k hk => ?_⟩
      obtain ⟨z, q1, d, kvs, q2, q3, q4⟩ := e5 k hk
      exact ⟨d, kvs, by rw [q1, q2], q3, q4⟩
  unfold tSeq SlX.sSl
  refine (mk tr.1 2 t1 _ H p1 rfl (.inl rfl) rfl ht1).at fun v1 H2 s2 ⟨l1, e1, d1⟩ => ?_
  refine ⟨.ref x, rfl, x, a.cS, dx, a.dSt, [], 1, rfl, .inl ⟨s2 _ _ ex, rfl⟩, T.c_Sides, T.lSt, ?_⟩
  have k1 : KSame H2 (SlX.slH H2 x a.cS dx [none, some v1]) := ksame_slH (fun o e => by rw [s2 _ _ ex] at e; cases e; exact fun z => z) (fun o e => by rw [s2 _ _ edx] at e; cases e; exact fun z => z)
  have d1' := d1.kmono k1
  have S1 : SlX.Slt (SlX.slH H2 x a.cS dx [none, some v1]) x a.cS dx [none, some v1] := SlX.slH_slt ne
  have ht2' := ht2.tmono (TSame.trans (Same.t s2) k1.t) _ t2 (eS_noL tr.2)
  have X1 : ∀ b o, b ≠ x → b ≠ dx → H b = some o → SlX.slH H2 x a.cS dx [none, some v1] b = some o := fun b o h1 h2 e => by
    rw [SlX.slH_ne h1 h2]
    exact s2 _ _ e
  have n1 : ∀ o, SlX.slH H2 x a.cS dx [none, some v1] x = some o → ¬ Seqy o := fun o e => by
    unfold SlX.slH at e
    rw [upd_same] at e
    cases e
    exact slO_notSeqy
  have n2 : ∀ o, SlX.slH H2 x a.cS dx [none, some v1] dx = some o → ¬ Seqy o := fun o e => by
    unfold SlX.slH at e
    rw [upd_ne ne, upd_same] at e
    cases e
    exact fun z => z
  have n3 : ∃ o, SlX.slH H2 x a.cS dx [none, some v1] x = some o := ⟨_, upd_same⟩
  have n4 : ∃ o, SlX.slH H2 x a.cS dx [none, some v1] dx = some o := ⟨_, by unfold SlX.slH; rw [upd_ne ne, upd_same]⟩
  dsimp only
  rw [show SlX.putS 1 v1 [] = [none, some v1] from rfl]
  generalize SlX.slH H2 x a.cS dx [none, some v1] = H3 at d1' S1 ht2' X1 n1 n2 n3 n4
  refine (mk tr.2 3 t2 _ H3 p2 rfl (.inr rfl) rfl ht2').at fun v2 H4 s4 ⟨l2, e2, d2⟩ => ?_
  refine ⟨.ref x, rfl, x, a.cS, dx, a.dSp, _, 0, rfl, slt_mono s4 S1, T.c_Sides, T.lSp, ?_⟩
  have keep : ∀ b, (∃ o, H3 b = some o) → (∀ o, H3 b = some o → ¬ Seqy o) → ∀ o, H4 b = some o → ¬ Seqy o := fun b ⟨u, hu⟩ hn o e => by
    rw [s4 _ _ hu] at e
    cases e
    exact hn _ hu
  have k2 : KSame H4 (SlX.slH H4 x a.cS dx [some v2, some v1]) := ksame_slH (keep x n3 n1) (keep dx n4 n2)
  refine q (SlX.slH H4 x a.cS dx [some v2, some v1]) (fun b o h1 h2 e => ?_) ⟨dx, l2, l1, ?_, d2.kmono k2, (d1'.kmono (Same.k s4)).kmono k2⟩
  · rw [SlX.slH_ne h1 h2]
    exact s4 _ _ (X1 b o h1 h2 e)
  · rw [e1, e2]
    exact SlX.slH_slt ne
theorem evp_mkSides {σ : L2.St} {H : Hp} {te : TE} {n : Int} {T : Trade} {E : XK} (h1 : IsTrade n T) (h2 : n ≤ 24) (h : EvD te σ H (eT T)) : EvP (tMake a.cS (sp_Sides_init a) [] E (tCons te tNil)) σ H fun v H2 => ∃ x, v = .ref x ∧ SidesAt a H2 x T := fun H1 s Q q =>
  h H1 s _ fun v H2 s2 hv => fun x dx nx ndx ne => by
    have k : Same H2 (upd (upd H2 dx (.own x)) x (.ins a.cS dx [])) := (same_new ndx).trans (same_new (by rw [upd_ne (Ne.symm ne)]; exact nx))
    refine ⟨x, dx, v, n, T, rfl, ne, upd_same, by rw [upd_ne ne, upd_same], hv.mono k _ v, h1, h2, fun H' X' D' => ⟨rfl, q _ _ (s2.trans fun b o e => ?_) ⟨x, rfl, D'⟩⟩⟩
    exact X' b o (ne_of_none e nx) (ne_of_none e ndx) (k b o e)
end
end K40
end

section
set_option Elab.async false
set_option linter.all false
set_option maxRecDepth 100000
set_option maxHeartbeats 4000000
namespace K40
open PySem PySem.Spec PyProof.Rows L2
section
variable {P : Program} {w : World} {K : PySem.W.Frag} {mg : Str → Option Value} {base : Heap} {a : Adr} {f : Addr} {fd : FuncData}
def sp_beside (a : Adr) : Sp := fun vs H Q _ => ∃ x cv c b T n, vs = [.ref x, cv, .bl b] ∧ Dx H cv (eC c) ∧ SidesAt a H x T ∧ IsTrade n T ∧ c ∈ sd T b ∧
  ∀ l xs (os : Nat → Cell) H', H l = none → Same H H' → H' l = some (.lst xs) → DxA H' xs ((List.range 3).map fun k => eC (os k)) → (∀ k, os k ∈ sd T (!b) ∧ pr k c = pr k (os k)) → Q (.ref l) H'
theorem ok_beside (F : Fun K "beside" "Sides.beside" s_Sides_beside f fd) (T : Txt K mg a) : FnOk P w K mg base CX0 1 f fd ["self", "cell", "is_taken"] (sp_beside a) := by
  refine F.ok sc_Sides_beside (fun vs H Q E q => by obtain ⟨x, cv, c, b, _, _, rfl, _⟩ := q; rfl) (fun cdv A outer s H vs Q E hr h => ?_)
  obtain ⟨x, cv, c, b, tr, n, rfl, hc, ⟨dx, lp, lt, hs, hp, ht⟩, hT, mc, q⟩ := h
  refine ⟨_, (pss_cons (ps_set (i := 3) sc_Sides_beside.nd rfl (Or.inl rfl) (pe_ifExp (pt_val (pv 2)) (pe_slK K (pv 0)) (pe_slK K (pv 0)))) (pss_one (ps_ret (pe_lc (own := [("table", 4), ("first", 5), ("second", 6)]) (by rfl) sc_Sides_beside.nd (pi_zipM (by rfl) T.n_zip (pa_cons (pv 3) (pa_cons (pe_glob (v := .ref a.pP) (by rfl) T.g_PAIRINGS rfl) pa_nil))) (blkOk_by (N := n_Sides_beside) (sc := defScope s_Sides_beside) (by decide +kernel)) (fun _ _ _ _ _ => (pg_tupK (n := 2) K rfl (pgs_cons (pg_name (i := 4) sc_Sides_beside.nd rfl (by first | exact Or.inl rfl | exact Or.inr rfl)) (pgs_cons (pg_tupK (n := 2) K rfl (pgs_cons (pg_name (i := 5) sc_Sides_beside.nd rfl (by first | exact Or.inl rfl | exact Or.inr rfl)) (pgs_cons (pg_name (i := 6) sc_Sides_beside.nd rfl (by first | exact Or.inl rfl | exact Or.inr rfl)) pgs_nil))) pgs_nil)))) (fun _ _ _ _ _ => pts_nil) (fun _ _ _ _ _ => (pe_dget (hu_of hr) (pv 4) (pe_tup (pa_cons (pe_ix (ix_tupK K) (pv 1) (pv 5) (fun _ _ => rfl)) (pa_cons (pe_ix (ix_tupK K) (pv 1) (pv 6) (fun _ _ => rfl)) pa_nil))) (fun _ _ => rfl))))))), ?_⟩
  have key : EvP (tIf (tB (tVar 2)) (SlX.tSl K (tVar 0) "own_put") (SlX.tSl K (tVar 0) "own_taken")) (start n_Sides_beside [.ref x, cv, .bl b]) H fun y _ => y = .ref (cond b lp lt) := fun H1 s1 Q1 q1 => by
    refine (evt_B (evd_var (σ := start n_Sides_beside [.ref x, cv, .bl b]) (i := 2) rfl (.bl b))) H1 s1 _ fun H2 s2 => ?_
    cases b with
    | true => exact iteT (evp_slot (te := tVar 0) (evp_var rfl fun _ _ => rfl) hs T.c_Sides T.lSp rfl H2 (s1.trans s2) _ fun v H3 s3 e => q1 v H3 (s2.trans s3) e)
    | false => exact iteF (evp_slot (te := tVar 0) (evp_var rfl fun _ _ => rfl) hs T.c_Sides T.lSt rfl H2 (s1.trans s2) _ fun v H3 s3 e => q1 v H3 (s2.trans s3) e)
  have hd : DictsAt H (cond b lp lt) (sd tr (!b)) := by
    cases b with
    | true => exact hp
    | false => exact ht
  refine sd_asg key fun v H2 s2 e => ?_
  subst e
  dsimp only
  obtain ⟨ds, d1, d2, d3⟩ := hd
  generalize cond b lp lt = tl at d1 d2 d3
  let os : Nat → Cell := fun k => Classical.choose (hT.to b k c mc)
  have hos : ∀ k, os k ∈ sd tr (!b) ∧ pr k c = pr k (os k) := fun k => Classical.choose_spec (hT.to b k c mc)
  generalize os = os at hos
  refine ⟨.ref tl, rfl, tl, a.pP, ds, [.ref a.p0, .ref a.p1, .ref a.p2], rfl, .of (s2 _ _ d1), T.sP _, fun D nD => ?_⟩
  refine lc_it (walk_zipM (n := 3) d2 rfl) (fun i Hc => Same H2 Hc ∧ ∃ acc, Hc D = some (.lst acc) ∧ DxA Hc acc ((List.range i).map fun k => eC (os k))) ⟨same_new nD, [], upd_same, .nil⟩ (fun i Hc _ z => ⟨.of (z.1 _ _ (s2 _ _ d1)), T.sP _⟩) (fun i v Hc Hx hi z y => ?_) fun Hc z => ?_
  · obtain ⟨z1, acc, zD, za⟩ := z
    obtain ⟨Tp, x1, x2, rfl, nT, rfl, e1, e2⟩ := y
    obtain ⟨d, kvs, g1, g2, g3⟩ := d3 i hi
    have ex1 : x1 = .ref d := Option.some.inj (e1.symm.trans g1)
    subst ex1
    have key : ∃ c, x2 = .ref c ∧ ∀ H, SqT K H c [.int (pf i), .int (ps i)] := by
      match i, hi, e2 with
      | 0, _, ex => exact ⟨a.p0, (Option.some.inj ex).symm, T.s0⟩
      | 1, _, ex => exact ⟨a.p1, (Option.some.inj ex).symm, T.s1⟩
      | 2, _, ex => exact ⟨a.p2, (Option.some.inj ex).symm, T.s2⟩
    obtain ⟨pc, rfl, hpc⟩ := key
    have s3 : Same Hc (upd Hc Tp (.tup [.ref d, .ref pc])) := same_new nT
    have s4 : Same H (upd Hc Tp (.tup [.ref d, .ref pc])) := (s2.trans z1).trans s3
    refine ⟨Tp, _, rfl, .of upd_same, rfl, _, _, rfl, _, _, rfl, ⟨pc, _, rfl, hpc _, rfl, _, _, rfl, _, _, rfl, rfl, rfl, rfl, ?_⟩⟩
    generalize upd Hc Tp (.tup [.ref d, .ref pc]) = Hx at s3 s4
    refine evt_yes.at (σ := _) (H := Hx) fun H4 s5 => ?_
    refine iteT ?_
    refine ⟨.ref d, rfl, ?_⟩
    obtain ⟨k1, k2, p1, p2, hix⟩ := ps_at hi
    have hc4 := hc.mono (s4.trans s5) _ cv
    refine (evd_tup (ds := [.int (pr i c).1, .int (pr i c).2]) (H := H4) (eva_cons (evd_ixT (K := K) (k := k1) (evd_var (i := 1) rfl hc4) (by rw [← p1]; exact evd_var (i := 5) rfl (.int _)) (hix c).1) (eva_cons (evd_ixT (K := K) (k := k2) (evd_var (i := 1) rfl hc4) (by rw [← p2]; exact evd_var (i := 6) rfl (.int _)) (hix c).2) eva_nil)) (by rw [sizeLine_eq]; show 2 ≤ _; omega)).at fun kv H5 s6 hkv => ?_
    obtain ⟨kb, xs, rfl, hb, hxs⟩ := hkv.tupE
    have exs : xs = (keyOf i c).map kV := DxA.of_ints (ns := [(pr i c).1, (pr i c).2]) hxs
    rw [exs] at hb
    have s46 : Same H H5 := (s4.trans s5).trans s6
    obtain ⟨y, v1, v2⟩ := tab_find (c := c) (g3.tmono (Same.t s46)) (hos i).1 (fun a ma e => hT.inj (!b) i a ma _ (hos i).1 e) (hos i).2
    refine ⟨d, y, rfl, by rw [← v1]; exact DGet.t (s46 _ _ g2) hb, acc, s6 _ _ (s5 _ _ (s3 _ _ zD)), ?_, ?_⟩
    · rw [za.length, List.length_map, List.length_range, sizeLine_eq]
      omega
    · have s36 : Same Hc H5 := (s3.trans s5).trans s6
      have tm : TSame H5 (upd H5 D (.lst (acc ++ [y]))) := tsame_mut (s36 _ _ zD) fun _ z => nomatch z
      refine ⟨same_mut (z1.trans s36) nD, acc ++ [y], upd_same, ?_⟩
      rw [List.range_succ, List.map_append]
      exact .snoc ((za.mono s36 _ acc).tmono tm _ acc (noLA_map (fun _ => eC_noL _) _)) (v2.tmono tm _ y (eC_noL _))
  · obtain ⟨z1, acc, zD, za⟩ := z
    exact q D acc os Hc (same_none s2 nD) (s2.trans z1) zD za hos
end
end K40
end

section
set_option Elab.async false
set_option linter.all false
set_option maxRecDepth 100000
set_option maxHeartbeats 4000000
namespace K40
open PySem PySem.Spec PyProof.Rows L2
/-! data with truth values too -/
mutual
def pureB : PyData → Bool
  | .int _ => true
  | .bool _ => true
  | .list ds => pureBA ds
  | .tuple ds => pureBA ds
  | _ => false
def pureBA : List PyData → Bool
  | [] => true
  | d :: ds => pureB d && pureBA ds
end
theorem pureBA_cons {d : PyData} {ds : List PyData} (h : pureBA (d :: ds) = true) : pureB d = true ∧ pureBA ds = true := by rwa [pureBA, Bool.and_eq_true] at h
theorem Dx.dpB {K : PySem.W.Frag} {H : Hp} (d : PyData) (v : V) (e : pureB d = true) (h : Dx H v d) : Dp K H v d :=
  Dx.rec (motive_1 := fun v d _ => pureB d = true → Dp K H v d) (motive_2 := fun vs ds _ => pureBA ds = true → DpAll K H vs ds) (fun e => by simp [pureB] at e) (fun b _ => .bl b) (fun i _ => .int i) (fun h _ ih e => .lst (.of h) (ih (by simpa [pureB] using e))) (fun h _ ih e => .tup (.of h) (ih (by simpa [pureB] using e)))
    (fun _ _ _ e => by simp [pureB] at e) (fun _ => .nil) (fun _ _ i j e => .cons (i (pureBA_cons e).1) (j (pureBA_cons e).2)) h e
mutual
theorem canLay_pureB : ∀ d : PyData, pureB d = true → d.canLay0 = true
  | .int _, _ => by simp [PyData.canLay0]
  | .bool _, _ => by simp [PyData.canLay0]
  | .list ds, g => by rw [PyData.canLay0]; exact canLay_pureBA ds (by simpa [pureB] using g)
  | .tuple ds, g => by rw [PyData.canLay0]; exact canLay_pureBA ds (by simpa [pureB] using g)
  | .none, g => by simp [pureB] at g
  | .str _, g => by simp [pureB] at g
  | .dict _, g => by simp [pureB] at g
theorem canLay_pureBA : ∀ ds : List PyData, pureBA ds = true → PyData.canLayAll0 ds = true
  | [], _ => by simp [PyData.canLayAll0]
  | d :: ds, g => by
    rw [pureBA, Bool.and_eq_true] at g
    rw [PyData.canLayAll0, canLay_pureB d g.1, canLay_pureBA ds g.2]
    rfl
end
theorem pureBA_map {α : Type} {f : α → PyData} (h : ∀ a, pureB (f a) = true) : ∀ l : List α, pureBA (l.map f) = true
  | [] => rfl
  | a :: l => by rw [List.map_cons, pureBA, h a, pureBA_map h l]; rfl
/-- xs != [] -/
theorem evd_neNil {K : PySem.W.Frag} {σ : L2.St} {H : Hp} {ta : TE} {α : Type} {l : List α} {enc : α → PyData} (he : ∀ a, pureB (enc a) = true) (hd : ∀ a, (enc a).depth ≤ 40) (h : EvD ta σ H (.list (l.map enc))) : EvD (tOp (rNeD K) ta (tLst tNil)) σ H (.bool (!l.isEmpty)) := fun H1 s Q q =>
  h H1 s _ fun x H2 s2 hx => ⟨by rw [sizeLine_eq]; show 0 ≤ _; omega, fun p hp => by
    have pb : pureB (.list (l.map enc)) = true := by rw [pureB]; exact pureBA_map he l
    refine ⟨.list (l.map enc), .list [], (hx.mono (same_new hp) _ x).dpB _ x pb, (Dx.lst upd_same .nil).dpB _ _ rfl, ?_, ?_, ?_⟩
    · show ((PyData.list (l.map enc)).canLay0 && decide ((PyData.list (l.map enc)).depth ≤ 64)) = true
      rw [canLay_pureB _ pb, decide_eq_true (by rw [PyData.depth]; have := depthA_map hd l; omega)]
      rfl
    · decide
    · have e : PyData.eqv (.list (l.map enc)) (.list []) = l.isEmpty := by
        cases l with
        | nil => rfl
        | cons a l => simp [PyData.eqv, PyData.eqvAll]
      rw [e]
      exact q _ _ (s2.trans (same_new hp)) (.bl _)⟩
theorem DxA.snocE {H : Hp} {xs : List V} {ds : List PyData} {d : PyData} (h : DxA H xs (ds ++ [d])) : ∃ ys y, xs = ys ++ [y] ∧ DxA H ys ds ∧ Dx H y d := by
  have h1 := h.take ds.length
  have h2 := h.drop ds.length
  rw [List.take_left'] at h1
  · rw [List.drop_left'] at h2
    · obtain ⟨y, e, hy⟩ := h2.oneE
      exact ⟨xs.take ds.length, y, by rw [← e, List.take_append_drop], h1, hy⟩
    · rfl
  · rfl
/-! sets of cells, as dicts -/
def ck (c : Cell) : List Key := [.inl c.1, .inl c.2.1, .inl c.2.2]
theorem ck_inj {c d : Cell} (h : ck c = ck d) : c = d := by
  simp only [ck, List.cons.injEq, Sum.inl.injEq, and_true] at h
  exact cell_ext h.1 h.2.1 h.2.2
def dk (F : List Cell) : List (List Key × V) := F.map fun c => (ck c, V.bl true)
theorem dk_keys (F : List Cell) : (dk F).map (·.1) = F.map ck := by
  unfold dk
  rw [List.map_map]
  rfl
theorem dk_out {F : List Cell} {c : Cell} (h : c ∉ F) : valV (dk F) (ck c) = none := valV_none fun m => by
  rw [dk_keys] at m
  obtain ⟨d, md, e⟩ := List.mem_map.mp m
  rw [ck_inj e] at md
  exact h md
theorem dk_in {F : List Cell} {c : Cell} (h : c ∈ F) : valV (dk F) (ck c) = some (.bl true) := by
  induction F with
  | nil => exact absurd h List.not_mem_nil
  | cons d F ih =>
    by_cases e : d = c
    · subst e
      exact valV_pos rfl
    · rcases List.mem_cons.mp h with z | z
      · exact absurd z.symm e
      · rw [← ih z]
        unfold valV
        show ((((ck d, V.bl true) :: dk F).find? _).map _) = _
        rw [List.find?_cons_of_neg (by simpa using fun z => e (ck_inj z))]
theorem dk_put {F : List Cell} {c : Cell} (h : c ∉ F) : putK (dk F) (ck c) (.bl true) = dk (F ++ [c]) := by
  rw [putK_new _ (dk_out h)]
  unfold dk
  rw [List.map_append]
  rfl
theorem dk_len (F : List Cell) : (dk F).length = F.length := List.length_map _
theorem cell_key {H : Hp} {v : V} {c : Cell} (h : Dx H v (eC c)) : ∃ b, v = .ref b ∧ H b = some (.tup ((ck c).map kV)) := by
  obtain ⟨b, xs, rfl, hb, hxs⟩ := h.tupE
  have e : xs = (ck c).map kV := DxA.of_ints (ns := [c.1, c.2.1, c.2.2]) hxs
  rw [e] at hb
  exact ⟨b, rfl, hb⟩
theorem evd_sortedCells {σ : L2.St} {H : Hp} {te : TE} {F : List Cell} (h : EvP te σ H fun v H2 => ∃ d, v = .ref d ∧ H2 d = some (.dT (dk F))) : EvD (tCB rSortDT (tCons te tNil)) σ H (.list ((F.map eC).mergeSort dLe)) := fun H1 s Q q =>
  h H1 s _ fun v H2 s2 ⟨d, e1, e2⟩ => ⟨d, dk F, F.map fun c => [c.1, c.2.1, c.2.2], by rw [e1], e2, by
      rw [dk_keys, List.map_map]
      rfl, fun n hn m hm => by
      obtain ⟨_, _, rfl⟩ := List.mem_map.mp hn
      obtain ⟨_, _, rfl⟩ := List.mem_map.mp hm
      exact ⟨rfl, by simp⟩, fun ys p hy hp => q _ _ (s2.trans (same_new hp)) (.lst upd_same (by
      rw [List.map_map] at hy
      exact hy.mono (same_new hp) _ ys))⟩
def eW (v : Vx) : PyData := .tuple [eC v.2, .bool v.1]
theorem eW_noL (v : Vx) : noL (eW v) = true := by simp [eW, noL, noLA, eC_noL]
theorem eW_pureB (v : Vx) : pureB (eW v) = true := by simp [eW, eC, pureB, pureBA]
theorem eW_depth (v : Vx) : (eW v).depth ≤ 40 := by
  have := eC_depth v.2
  simp only [eW, PyData.depth, PyData.depthAll]
  omega
structure LInv (H : Hp) (f0 f1 w ft : Addr) (Hc : Hp) (F : Bool → List Cell) (W : List Vx) : Prop where
  s : Same H (hide [f0, f1, w] Hc)
  t : hide [f0, f1, w] Hc ft = some (.tup [.ref f0, .ref f1])
  d : ∀ b, Hc (cond b f1 f0) = some (.dT (dk (F b)))
  w : ∃ ws, Hc w = some (.lst ws) ∧ DxA Hc ws (W.map eW)
section
variable {H Hc Hd : Hp} {f0 f1 w ft : Addr} {F : Bool → List Cell} {W : List Vx} {v : Vx} {y : V}
theorem LInv.same (h : LInv H f0 f1 w ft Hc F W) (s : Same Hc Hd) : LInv H f0 f1 w ft Hd F W where
  s := h.s.trans (hide_mono s)
  t := hide_mono s _ _ h.t
  d := fun b => s _ _ (h.d b)
  w := by
    obtain ⟨ws, e1, e2⟩ := h.w
    exact ⟨ws, s _ _ e1, e2.mono s _ ws⟩
theorem LInv.base (h : LInv H f0 f1 w ft Hc F W) : Same H Hc := h.s.trans (hide_same _ _)
theorem mem_w : w ∈ [f0, f1, w] := List.mem_cons_of_mem _ (List.mem_cons_of_mem _ List.mem_cons_self)
theorem mem_f (b : Bool) : cond b f1 f0 ∈ [f0, f1, w] := by
  cases b with
  | true => exact List.mem_cons_of_mem _ List.mem_cons_self
  | false => exact List.mem_cons_self
theorem LInv.ne (h : LInv H f0 f1 w ft Hc F W) (b : Bool) : cond b f1 f0 ≠ w := fun e => by
  obtain ⟨ws, e1, _⟩ := h.w
  have := h.d b
  rw [e, e1] at this
  cases this
theorem LInv.setW (h : LInv H f0 f1 w ft Hc F W) {ws : List V} {W' : List Vx} (hw : DxA Hc ws (W'.map eW)) : LInv H f0 f1 w ft (upd Hc w (.lst ws)) F W' where
  s := by rw [hide_upd mem_w]; exact h.s
  t := by rw [hide_upd mem_w]; exact h.t
  d := fun b => by rw [upd_ne (h.ne b)]; exact h.d b
  w := by
    obtain ⟨ws0, e1, _⟩ := h.w
    exact ⟨ws, upd_same, hw.tmono (tsame_mut e1 fun _ z => nomatch z) _ ws (noLA_map eW_noL _)⟩
theorem LInv.setF (h : LInv H f0 f1 w ft Hc F W) (hf : f1 ≠ f0) {b : Bool} {c : Cell} : LInv H f0 f1 w ft (upd Hc (cond b f1 f0) (.dT (dk (F b ++ [c])))) (upF F b c) W where
  s := by rw [hide_upd (mem_f b)]; exact h.s
  t := by rw [hide_upd (mem_f b)]; exact h.t
  d := fun x => by
    by_cases e : x = b
    · subst e
      rw [upd_same, upF_same]
    · rw [upF_ne e, upd_ne ?_]
      · exact h.d x
      · cases x <;> cases b <;> simp at e ⊢
        · exact fun z => hf z.symm
        · exact hf
  w := by
    obtain ⟨ws, e1, e2⟩ := h.w
    exact ⟨ws, by rw [upd_ne (h.ne b).symm]; exact e1, e2.tmono (tsame_mut (h.d b) fun _ z => nomatch z) _ ws (noLA_map eW_noL _)⟩
end
end K40
end

section
set_option Elab.async false
set_option linter.all false
set_option maxRecDepth 100000
set_option maxHeartbeats 4000000
namespace K40
open PySem PySem.Spec PyProof.Rows L2
section
variable {P : Program} {w : World} {K : PySem.W.Frag} {mg : Str → Option Value} {base : Heap} {a : Adr} {f : Addr} {fd : FuncData}
/-- found[1 - int(is_taken)] -/
theorem evp_found {σ : L2.St} {H0 Hc : Hp} {f0 f1 w0 ft : Addr} {F : Bool → List Cell} {W : List Vx} {b : Bool} (h : LInv H0 f0 f1 w0 ft Hc F W) (e2 : σ[2]? = some (some (.ref ft))) (e5 : σ[5]? = some (some (.bl b))) :
    EvP (tOp (rIxT K) (tVar 2) (tOp (rI0 fun i j => .int (i - j)) (tC (.int 1)) (tCB (fun xs H Q => (∃ i, xs = [.int i] ∧ Q (.int i) H) ∨ ∃ k, xs = [.bl k] ∧ Q (.int (if k then 1 else 0)) H) (tCons (tVar 5) tNil)))) σ Hc fun v _ => v = .ref (cond (!b) f1 f0) := fun H1 s Q q => by
  refine ⟨_, e2, ⟨_, e5, .inr ⟨b, rfl, 1, (if b = true then 1 else 0), rfl, rfl, ?_⟩⟩⟩
  have ht := s _ _ (hide_same _ _ _ _ h.t)
  cases b with
  | true => exact ⟨ft, _, 0, .ref f0, rfl, rfl, .of ht, rfl, q _ _ (Same.refl _) rfl⟩
  | false => exact ⟨ft, _, 1, .ref f1, rfl, rfl, .of ht, rfl, q _ _ (Same.refl _) rfl⟩
def sp_least_from (a : Adr) : Sp := fun vs H Q _ => ∃ x cv c T n, vs = [.ref x, cv] ∧ Dx H cv (eC c) ∧ SidesAt a H x T ∧ IsTrade n T ∧ n ≤ 24 ∧ c ∈ T.1 ∧ ∀ v p H', Same H H' → Dx H' v (eT p) → IsPart T p → c ∈ p.1 → Q v H'
theorem ok_least_from (F : Fun K "least_from" "Sides.least_from" s_Sides_least_from f fd) (T : Txt K mg a) (D_beside : HasI P w K mg base 1 a.fb (sp_beside a)) : FnOk P w K mg base CX0 2 f fd ["self", "start"] (sp_least_from a) := by
  refine F.ok sc_Sides_least_from (fun vs H Q E q => by obtain ⟨x, cv, c, _, _, rfl, _⟩ := q; rfl) (fun cdv A outer s H vs Q E hr h => ?_)
  obtain ⟨x, cv, c, tr, n, rfl, hc, hS, hT, hn, mc, q⟩ := h
  refine ⟨_, (pss_cons (ps_par (i := 2) (j := 3) (by rfl) sc_Sides_least_from.nd rfl rfl (by decide) rfl rfl (pa_cons (pe_tup (pa_cons pe_dnewT (pa_cons (pe_disp1 (hu_of hr) (pv 1) pe_bl) pa_nil))) (pa_cons (pe_lst (pa_cons (pe_tup (pa_cons (pv 1) (pa_cons pe_bl pa_nil))) pa_nil)) pa_nil)) (by rfl)) (pss_cons (ps_while PassesOwn.never (pt_cmpR (op_neK K hr.units) (pv 3) (pe_lst pa_nil) (nomark _)) (pss_cons (ps_asg (pe_bm0 PySem.F.plainAttrs_list PySem.F.slot_list_pop PySem.F.type_list_pop mt_pop (pv 3)) (pg_tupK (n := 2) K rfl (pgs_cons (pg_name (i := 4) sc_Sides_least_from.nd rfl (by first | exact Or.inl rfl | exact Or.inr rfl)) (pgs_cons (pg_name (i := 5) sc_Sides_least_from.nd rfl (by first | exact Or.inl rfl | exact Or.inr rfl)) pgs_nil)))) (pss_one (ps_for PassesOwn.never rfl (pi_listK K (SlX.pe_methSl (pv 0) T.c_Sides T.m_beside D_beside.r (hr.mono (by decide)) pass0 (pa_cons (pv 4) (pa_cons (pv 5) pa_nil)))) (pg_name (i := 6) sc_Sides_least_from.nd rfl (by first | exact Or.inl rfl | exact Or.inr rfl)) (pss_one (ps_if (pt_cmp (pc_dnotin (hu_of hr) (pv 6) (pe_ix (ix_tupK K) (pv 2) (pe_op op_sub pe_int (pe_callTy call_int1 (by rfl) T.n_int bt_int (pa_cons (pv 5) pa_nil))) (fun _ _ => rfl)))) (pss_cons (ps_dput (hu_of hr) (pe_ix (ix_tupK K) (pv 2) (pe_op op_sub pe_int (pe_callTy call_int1 (by rfl) T.n_int bt_int (pa_cons (pv 5) pa_nil))) (fun _ _ => rfl)) (pv 6) pe_bl rfl) (pss_one (ps_expr (pe_bmK K PySem.F.plainAttrs_list PySem.F.slot_list_append PySem.F.type_list_append mt_append (pv 3) (pa_cons (pe_tup (pa_cons (pv 6) (pa_cons (pe_not (pv 5)) pa_nil))) pa_nil))))) pss_nil)))))) (pss_one (ps_ret (pe_tup (pa_cons (pe_callTy (call_tupK K) (by rfl) T.n_tuple bt_tuple (pa_cons (pe_callB (cr_sortedDT rfl hr.units) (by rfl) T.n_sorted bt_sorted (pa_cons (pe_ix (ix_tupK K) (pv 2) pe_int (fun _ _ => rfl)) pa_nil)) pa_nil)) (pa_cons (pe_callTy (call_tupK K) (by rfl) T.n_tuple bt_tuple (pa_cons (pe_callB (cr_sortedDT rfl hr.units) (by rfl) T.n_sorted bt_sorted (pa_cons (pe_ix (ix_tupK K) (pv 2) pe_int (fun _ _ => rfl)) pa_nil)) pa_nil)) pa_nil))))))), ?_⟩
  obtain ⟨cb, rfl, hcb⟩ := cell_key hc
  have le1 : 1 ≤ sizeLine := by rw [sizeLine_eq]; omega
  have le2 : 2 ≤ sizeLine := by rw [sizeLine_eq]; omega
  have l1 := side_len hT hn true
  have l2 := side_len hT hn false
  have l1 : tr.1.length ≤ 576 := l1
  have l2 : tr.2.length ≤ 576 := l2
  refine fun f0 n0 => fun f1 n1 => ⟨_, rfl, cb, ck c, rfl, ?_, upd_same, le2, fun ft nft => ⟨.ref cb, rfl, le2, fun tp ntp => ⟨le1, fun wl nw => ⟨_, _, rfl, ?_⟩⟩⟩⟩
  · have h0 : (upd H f0 (.dT [])) cb = some (.tup ((ck c).map kV)) := same_new n0 _ _ hcb
    exact same_new n1 _ _ h0
  -- the heap behind the four displays
  have ne10 : f1 ≠ f0 := fun e => by
    rw [e, upd_same] at n1
    cases n1
  have hf0a : (upd (upd (upd H f0 (.dT [])) f1 (.dT [])) f1 (.dT [(ck c, .bl true)])) f0 = some (.dT []) := by rw [upd_ne ne10.symm, upd_ne ne10.symm, upd_same]
  have hf1a : (upd (upd (upd H f0 (.dT [])) f1 (.dT [])) f1 (.dT [(ck c, .bl true)])) f1 = some (.dT [(ck c, .bl true)]) := upd_same
  have n10 : H f1 = none := by rw [upd_ne ne10] at n1; exact n1
  have sA : ∀ b o, b ≠ f0 → b ≠ f1 → H b = some o → (upd (upd (upd H f0 (.dT [])) f1 (.dT [])) f1 (.dT [(ck c, .bl true)])) b = some o := fun b o h1 h2 e => by rw [upd_ne h2, upd_ne h2, upd_ne h1]; exact e
  generalize upd (upd (upd H f0 (.dT [])) f1 (.dT [])) f1 (.dT [(ck c, .bl true)]) = HA at nft ntp nw hf0a hf1a sA ⊢
  have sB : Same HA (upd HA ft (.tup [.ref f0, .ref f1])) := same_new nft
  have tB' : (upd HA ft (.tup [.ref f0, .ref f1])) ft = some (.tup [.ref f0, .ref f1]) := upd_same
  generalize upd HA ft (.tup [.ref f0, .ref f1]) = HB at ntp nw sB tB' ⊢
  have sC : Same HB (upd HB tp (.tup [.ref cb, .bl true])) := same_new ntp
  have tC' : (upd HB tp (.tup [.ref cb, .bl true])) tp = some (.tup [.ref cb, .bl true]) := upd_same
  generalize upd HB tp (.tup [.ref cb, .bl true]) = HC at nw sC tC' ⊢
  have sD : Same HC (upd HC wl (.lst [.ref tp])) := same_new nw
  have wD : (upd HC wl (.lst [.ref tp])) wl = some (.lst [.ref tp]) := upd_same
  have wN : HC wl = none := nw
  generalize upd HC wl (.lst [.ref tp]) = HD at sD wD ⊢
  have sAD : Same HA HD := (sB.trans sC).trans sD
  have nwH : H wl = none := by
    cases e : H wl with
    | none => rfl
    | some o =>
      exfalso
      have h1 : wl ≠ f0 := fun z => by rw [z, n0] at e; cases e
      have h2 : wl ≠ f1 := fun z => by rw [z, n10] at e; cases e
      have := (sB.trans sC) _ _ (sA wl o h1 h2 e)
      rw [wN] at this
      cases this
  have I0 : LInv H f0 f1 wl ft HD (fun b => cond b [c] []) [(true, c)] := by
    refine ⟨fun b o e => ?_, ?_, fun b => ?_, [.ref tp], wD, ?_⟩
    · have h1 : b ≠ f0 := fun z => by rw [z, n0] at e; cases e
      have h2 : b ≠ f1 := fun z => by rw [z, n10] at e; cases e
      have h3 : b ≠ wl := fun z => by rw [z, nwH] at e; cases e
      rw [hide_out (by simp [h1, h2, h3])]
      exact sAD _ _ (sA b o h1 h2 e)
    · have h1 : ft ≠ f0 := fun z => by rw [z, hf0a] at nft; cases nft
      have h2 : ft ≠ f1 := fun z => by rw [z, hf1a] at nft; cases nft
      have h3 : ft ≠ wl := fun z => by
        have := sC _ _ tB'
        rw [z, wN] at this
        cases this
      rw [hide_out (by simp [h1, h2, h3])]
      exact (sC.trans sD) _ _ tB'
    · cases b with
      | true => exact sAD _ _ hf1a
      | false => exact sAD _ _ hf0a
    · have tp' : HD tp = some (.tup [.ref cb, .bl true]) := sD _ _ tC'
      have cb' : HD cb = some (.tup ((ck c).map kV)) := sAD _ _ (sA cb _ (fun z => by rw [z, n0] at hcb; cases hcb) (fun z => by rw [z, n10] at hcb; cases hcb) hcb)
      exact .one (.tup tp' (.cons (.tup cb' (DxA.ints [c.1, c.2.1, c.2.2])) (.one (.bl true))))
  have hSw : ∀ Hc F W, LInv H f0 f1 wl ft Hc F W → SidesAt a Hc x tr := fun Hc F W h => hS.mono h.base
  -- the loop
  refine ⟨fun m σ' Hc => ∃ u4 u5 u6 F W, σ' = [some (.ref x), some (.ref cb), some (.ref ft), some (.ref wl), u4, u5, u6] ∧ LInv H f0 f1 wl ft Hc F W ∧ Dfs tr c F W noV ∧ meas tr F W = m ∧ m ≤ 5000,
    ⟨meas tr (fun b => cond b [c] []) [(true, c)], none, none, none, _, _, rfl, I0, dfs_start mc, rfl, by unfold meas; show 2 * _ + 1 ≤ 5000; omega⟩, ?_⟩
  rintro m σ' Hc ⟨u4, u5, u6, F, W, rfl, hI, hD, em, hm⟩
  obtain ⟨ws, hw, hws⟩ := hI.w
  have dW : Dx Hc (.ref wl) (.list (W.map eW)) := .lst hw hws
  refine (evt_test (evd_neNil (K := K) eW_pureB eW_depth (evd_var (i := 3) rfl dW))).at fun H2 s2 => ?_
  by_cases hE : W = []
  · -- done
    subst hE
    refine iteF ?_
    have hI2 := hI.same s2
    have t2 := hide_same _ _ _ _ hI2.t
    obtain ⟨m1, e1, a1, x1⟩ := sort_cells (F true) (hD.nd true)
    obtain ⟨m0, e0, a0, x0⟩ := sort_cells (F false) (hD.nd false)
    have pp := dfs_part hD (p := (m1, m0)) (fun b => by cases b; exact a0; exact a1) (fun b d => by cases b; exact x0 d; exact x1 d)
    have fnd : ∀ (b : Bool) (i : Int) (H3 : Hp), (i = cond b 1 0) → Same H2 H3 → EvP (tOp (rIxT K) (tVar 2) (tC (.int i))) [some (.ref x), some (.ref cb), some (.ref ft), some (.ref wl), u4, u5, u6] H3 fun v H4 => ∃ d, v = .ref d ∧ H4 d = some (.dT (dk (F b))) := fun b i H3 ei s3 H4 s4 Q1 q1 => by
      have s24 := s3.trans s4
      subst ei
      cases b with
      | true => exact ⟨_, rfl, ft, _, 1, .ref f1, rfl, rfl, .of (s24 _ _ t2), rfl, q1 _ _ (Same.refl _) ⟨f1, rfl, s24 _ _ (hI2.d true)⟩⟩
      | false => exact ⟨_, rfl, ft, _, 0, .ref f0, rfl, rfl, .of (s24 _ _ t2), rfl, q1 _ _ (Same.refl _) ⟨f0, rfl, s24 _ _ (hI2.d false)⟩⟩
    refine sd_ret (P := fun v H3 => Dx H3 v (eT (m1, m0))) (evd_tup (ds := [eS m1, eS m0]) (eva_cons (evd_tupOf (ds := m1.map eC) (by rw [← e1]; exact evd_sortedCells (fnd true 1 H2 rfl (Same.refl _)))) (eva_cons (evd_tupOf (ds := m0.map eC) (by rw [← e0]; exact evd_sortedCells (fnd false 0 H2 rfl (Same.refl _)))) eva_nil)) le2) fun v H3 s3 hd => ?_
    exact q v (m1, m0) H3 (hI2.base.trans s3) hd pp.1 pp.2
  · -- a turn
    have hne : (!W.isEmpty) = true := by
      cases W with
      | nil => exact absurd rfl hE
      | cons _ _ => rfl
    rw [hne]
    refine iteT ⟨fun σ3 H3 => ∃ m', m' < m ∧ ∃ u4 u5 u6 F W, σ3 = [some (.ref x), some (.ref cb), some (.ref ft), some (.ref wl), u4, u5, u6] ∧ LInv H f0 f1 wl ft H3 F W ∧ Dfs tr c F W noV ∧ meas tr F W = m' ∧ m' ≤ 5000, fun _ _ z => z, ?_⟩
    obtain ⟨W', u, rfl⟩ : ∃ W' u, W = W' ++ [u] := ⟨W.dropLast, W.getLast hE, (List.dropLast_concat_getLast hE).symm⟩
    rw [List.map_append] at hws
    obtain ⟨ws', y, rfl, hws', hy⟩ := hws.snocE
    have hI2 := hI.same s2
    have hw2 := s2 _ _ hw
    refine ⟨.ref wl, rfl, .inl ⟨rfl, _, .of hw2⟩, wl, ws' ++ [y], y, rfl, rfl, hw2, by simp, ?_⟩
    rw [List.dropLast_concat]
    have hI3 : LInv H f0 f1 wl ft (upd H2 wl (.lst ws')) F W' := hI2.setW (hws'.mono s2 _ ws')
    have hy3 : Dx (upd H2 wl (.lst ws')) y (eW u) := (hy.mono s2 _ y).tmono (tsame_mut hw2 fun _ z => nomatch z) _ y (eW_noL u)
    generalize upd H2 wl (.lst ws') = H3 at hI3 hy3
    refine gt2 hy3 fun cv bv hcv hbv => ?_
    have ebv := hbv.blE
    subst ebv
    dsimp only
    have hD3 := dfs_pop hD
    have mu : u.2 ∈ F u.1 := hD.sub u (List.mem_append_right _ (List.mem_singleton_self u))
    have ru : Reach tr (true, c) u := hD.rc u.1 u.2 mu
    have mm : meas tr F W' + 1 = m := by rw [← em]; exact meas_pop
    obtain ⟨dx, lp, lt, hs, hp, ht⟩ := hSw _ _ _ hI3
    refine ⟨.ref x, rfl, x, dx, _, rfl, hs, cv, rfl, .bl u.1, rfl, x, cv, u.2, u.1, tr, n, rfl, hcv, ⟨dx, lp, lt, hs, hp, ht⟩, hT, ru.tgt, fun l xs os H4 nl s4 hl hxs hos => ⟨l, rfl, ⟨xs, .of hl⟩, ?_⟩⟩
    have lxs : xs.length = 3 := by rw [hxs.length]; rfl
    have hI4 := hI3.same s4
    have hcv4 := hcv.mono s4 _ cv
    have lne : ∀ Hc F W, LInv H f0 f1 wl ft Hc F W → l ∉ [f0, f1, wl] := fun _ _ _ _ m => by
      have k : ∀ z ∈ [f0, f1, wl], H3 z ≠ none := fun z mz e => by
        have d1 := hI3.d true
        have d0 := hI3.d false
        obtain ⟨w1, dw, _⟩ := hI3.w
        simp only [List.mem_cons, List.not_mem_nil, or_false] at mz
        rcases mz with rfl | rfl | rfl
        · rw [show cond false f1 z = z from rfl, e] at d0; cases d0
        · rw [show cond true z f0 = z from rfl, e] at d1; cases d1
        · rw [e] at dw; cases dw
      exact k l m nl
    have lX := lne _ _ _ hI3
    refine for_it (walk_list (K := K) (a := l) (xs := xs)) (fun j σ' Hc => ∃ u6 F W, σ' = [some (.ref x), some (.ref cb), some (.ref ft), some (.ref wl), some cv, some (.bl u.1), u6] ∧ LInv H f0 f1 wl ft Hc F W ∧ TSame H4 Hc ∧ Hc l = some (.lst xs) ∧ Dfs tr c F W (fun v => v = u) ∧ meas tr F W + 1 ≤ m ∧ u.2 ∈ F u.1 ∧ ∀ k, k < j → os k ∈ F (!u.1))
      ⟨_, F, W', rfl, hI4, fun _ _ e => e, hl, hD3, by omega, mu, fun k hk => absurd hk (Nat.not_lt_zero k)⟩ (fun j σ' Hc _ ⟨_, _, _, _, _, _, e, _⟩ => .of e) (fun j z σ' Hc Hx hj ⟨u6', F', W2, es, J, tJ, lJ, D', mJ, muJ, oJ⟩ ⟨eH, ez⟩ => ?_) fun σ' Hc ⟨u6', F', W2, es, J, tJ, lJ, D', mJ, muJ, oJ⟩ => ?_
    · subst eH es
      rw [lxs] at hj
      obtain ⟨d, ed, hz⟩ := hxs.get ez
      have eos : d = eC (os j) := by
        rw [List.getElem?_map, List.getElem?_range hj] at ed
        exact (Option.some.inj ed).symm
      subst eos
      have hz1 : Dx Hx z (eC (os j)) := hz.tmono tJ _ z (eC_noL _)
      obtain ⟨zb, rfl, hzb⟩ := cell_key hz1
      show tIfS _ _ _ _ _ _
      refine ⟨_, rfl, ?_⟩
      refine (evp_found (K := K) (F := F') (W := W2) (b := u.1) J rfl rfl).at fun fv H5 s5 efv => ?_
      subst efv
      have J5 := J.same s5
      refine ⟨cond (!u.1) f1 f0, _, rfl, .t (J5.d (!u.1)) (s5 _ _ hzb), _, rfl, ?_⟩
      by_cases hin : os j ∈ F' (!u.1)
      · rw [dk_in hin]
        refine iteF ⟨_, F', W2, rfl, J5, TSame.trans tJ (Same.t s5), s5 _ _ lJ, D', mJ, muJ, fun k hk => ?_⟩
        by_cases e : k = j
        · subst e; exact hin
        · exact oJ k (by omega)
      · rw [dk_out hin]
        refine iteT ?_
        refine (evp_found (K := K) (F := F') (W := W2) (b := u.1) J5 rfl rfl).at fun fv H6 s6 efv => ?_
        subst efv
        have J6 := J5.same s6
        refine ⟨_, rfl, _, _, rfl, .t (J6.d (!u.1)) (s6 _ _ (s5 _ _ hzb)) ?_, ?_⟩
        · have := dfs_len D' (!u.1)
          have l3 := side_len hT hn (!u.1)
          rw [dk_len, sizeLine_eq]
          omega
        rw [dk_put hin]
        have J7 := J6.setF ne10 (b := !u.1) (c := os j)
        have l6 : H6 l = some (.lst xs) := s6 _ _ (s5 _ _ lJ)
        have t7 : TSame H4 (upd H6 (cond (!u.1) f1 f0) (.dT (dk (F' (!u.1) ++ [os j])))) := TSame.trans (TSame.trans tJ (Same.t (s5.trans s6))) (tsame_mut (J6.d (!u.1)) fun _ z => nomatch z)
        have l7 : (upd H6 (cond (!u.1) f1 f0) (.dT (dk (F' (!u.1) ++ [os j])))) l = some (.lst xs) := by
          rw [upd_ne fun e => lX (by rw [e]; exact mem_f _)]
          exact l6
        generalize upd H6 (cond (!u.1) f1 f0) (.dT (dk (F' (!u.1) ++ [os j]))) = H7 at J7 t7 l7
        obtain ⟨w7, hw7, hws7⟩ := J7.w
        refine ⟨.ref wl, rfl, .inl ⟨rfl, _, .of hw7⟩, ?_⟩
        refine (eva_cons (evd_tup (ds := [eC (os j), .bool (!u.1)]) (eva_cons (evd_var rfl (hz.tmono t7 _ _ (eC_noL _))) (eva_cons (evd_notV (evd_var rfl (.bl u.1))) eva_nil)) le2) eva_nil).at fun vs H8 s8 hv8 => ?_
        obtain ⟨nv, rfl, hnv⟩ := hv8.oneE
        have J8 := J7.same s8
        have D8 := dfs_add D' hin (Reach.step ru (w := (!u.1, os j)) ⟨rfl, j, (hos j).2⟩ (hos j).1)
        have m8 : meas tr (upF F' (!u.1) (os j)) (W2 ++ [(!u.1, os j)]) + 1 ≤ meas tr F' W2 := meas_add (u := (!u.1, os j)) (W := W2) D8
        have wl8 : w7.length ≤ 6000 := by
          rw [hws7.length, List.length_map]
          have : W2.length ≤ meas tr F' W2 := by unfold meas; omega
          omega
        refine ⟨wl, w7, nv, rfl, rfl, s8 _ _ hw7, by rw [sizeLine_eq]; omega, ?_⟩
        have J9 := J8.setW (ws := w7 ++ [nv]) (W' := W2 ++ [(!u.1, os j)]) (by
          rw [List.map_append]
          exact (hws7.mono s8 _ w7).append (.one hnv))
        refine ⟨_, upF F' (!u.1) (os j), W2 ++ [(!u.1, os j)], rfl, J9, TSame.trans (TSame.trans t7 (Same.t s8)) (tsame_mut (s8 _ _ hw7) fun _ z => nomatch z), ?_, D8, by omega, mem_upF.mpr (.inl muJ), fun k hk => ?_⟩
        · rw [upd_ne fun e => lX (by rw [e]; exact mem_w)]
          exact s8 _ _ l7
        · by_cases e : k = j
          · subst e; exact mem_upF.mpr (.inr ⟨rfl, rfl⟩)
          · exact mem_upF.mpr (.inl (oJ k (by omega)))
    · rw [lxs] at oJ
      exact ⟨meas tr F' W2, by omega, _, _, _, F', W2, es, J, dfs_shut hT D' fun k hk => ⟨os k, oJ k hk, (hos k).1, (hos k).2⟩, rfl, by omega⟩
end
end K40
end

section
set_option Elab.async false
set_option linter.all false
set_option maxRecDepth 100000
set_option maxHeartbeats 4000000
namespace K40
open PySem PySem.Spec PyProof.Rows L2
def ch (c : Cell) : Int := reduceHash (Builtin.Tuple.tupleHashOf [hashInt c.1, hashInt c.2.1, hashInt c.2.2])
def all216 : List Cell := (rgI 6).flatMap fun i => (rgI 6).flatMap fun j => (rgI 6).map fun k => (i, j, k)
set_option maxRecDepth 1000000 in
theorem ch_nodup : (all216.map ch).Nodup := by decide +kernel
theorem inj_of_nodup {α β : Type} {f : α → β} : ∀ {l : List α}, (l.map f).Nodup → ∀ a ∈ l, ∀ b ∈ l, f a = f b → a = b
  | [], _, a, m, _, _, _ => absurd m List.not_mem_nil
  | x :: l, h, a, ma, b, mb, e => by
    rw [List.map_cons, List.nodup_cons] at h
    rcases List.mem_cons.mp ma with ea | ma
    · rcases List.mem_cons.mp mb with eb | mb
      · rw [ea, eb]
      · exact absurd (List.mem_map.mpr ⟨b, mb, by rw [← e, ea]⟩) h.1
    · rcases List.mem_cons.mp mb with eb | mb
      · exact absurd (List.mem_map.mpr ⟨a, ma, by rw [e, eb]⟩) h.1
      · exact inj_of_nodup h.2 a ma b mb e
theorem mem_216 {n : Int} {c : Cell} (h : InR n c) (hn : n ≤ 6) : c ∈ all216 := by
  unfold all216
  refine List.mem_flatMap.mpr ⟨c.1, mem_rgI.mpr ⟨h.1.1, ?_⟩, List.mem_flatMap.mpr ⟨c.2.1, mem_rgI.mpr ⟨h.2.1.1, ?_⟩, List.mem_map.mpr ⟨c.2.2, mem_rgI.mpr ⟨h.2.2.1, ?_⟩, rfl⟩⟩⟩
  · have := h.1.2; show c.1 < 6; omega
  · have := h.2.1.2; show c.2.1 < 6; omega
  · have := h.2.2.2; show c.2.2 < 6; omega
theorem hash_nodup (P : Program) (w : World) {n : Int} {cs : List Cell} (hn : n ≤ 6) (h : ∀ c ∈ cs, InR n c) (nd : cs.Nodup) : ((dk cs).map fun p => tupleKeyHash (mixKind P w) p.1).Nodup := by
  have e : ((dk cs).map fun p => tupleKeyHash (mixKind P w) p.1) = cs.map ch := by
    unfold dk
    rw [List.map_map]
    rfl
  rw [e]
  exact nodup_map_inj nd fun a ma b mb q => inj_of_nodup ch_nodup a (mem_216 (h a ma) hn) b (mem_216 (h b mb) hn) q
theorem merge_dk : ∀ {cs S : List Cell}, cs.Nodup → (∀ c ∈ cs, c ∉ S) → mergeT (dk S) (dk cs) = dk (S ++ cs)
  | [], S, _, _ => by rw [List.append_nil]; rfl
  | c :: cs, S, n, h => by
    rw [List.nodup_cons] at n
    show mergeT (putK (dk S) (ck c) (.bl true)) (dk cs) = _
    rw [dk_put (h c List.mem_cons_self), merge_dk n.2 fun d md m => ?_, List.append_assoc]
    · rfl
    · rcases List.mem_append.mp m with m | m
      · exact h d (List.mem_cons_of_mem _ md) m
      · rw [List.mem_singleton.mp m] at md
        exact n.1 md
/-- {x: True for x in t} -/
theorem evp_dictTrue {K : PySem.W.Frag} {σ : L2.St} {H : Hp} {tl : TE} {j : Nat} {cs : List Cell} (h : EvD tl σ H (.tuple (cs.map eC))) (nd : cs.Nodup) (hl : cs.length ≤ 576)
    (he : ∀ z : V, ((wipe σ [j]).set j (some z))[j]? = some (some z)) (hw : ∀ z : V, wipe ((wipe σ [j]).set j (some z)) [j] = wipe σ [j]) :
    EvP (tDg (.dT []) (iTup K tl) (gName j) tYes (tVar j) (tC (.bl true)) [j]) σ H fun v H2 => ∃ d, v = .ref d ∧ H d = none ∧ H2 d = some (.dT (dk cs)) := fun H1 s Q q => by
  unfold tDg
  refine src_tup h H1 s _ fun J H2 G Y s2 w hG hY D nD => ?_
  rw [List.length_map] at w hY
  refine dg_it w (fun i Hc => Same H2 Hc ∧ Hc D = some (.dT (dk (cs.take i)))) ⟨same_new nD, upd_same⟩ (fun i Hc _ z => hG Hc z.1) (fun i v Hc Hx hi z y => ?_) fun Hc z => ?_
  · obtain ⟨z1, zD⟩ := z
    obtain ⟨s3, d0, ed0, hvx⟩ := hY i Hc v Hx z1 hi y
    rw [List.getElem?_map] at ed0
    obtain ⟨c, ec, rfl⟩ := Option.map_eq_some_iff.mp ed0
    refine ⟨hw v, evt_yes.at (σ := _) (H := Hx) fun H4 s5 => ?_⟩
    refine iteT ?_
    obtain ⟨b, rfl, hb⟩ := cell_key hvx
    have tk : cs.take (i + 1) = cs.take i ++ [c] := by
      rw [List.take_add_one, ec]
      rfl
    have nc : c ∉ cs.take i := not_mem_take nd ec
    have aD := s5 _ _ (s3 _ _ zD)
    refine ⟨_, he _, _, .t aD (s5 _ _ hb) (by rw [dk_len, List.length_take, sizeLine_eq]; omega), same_mut (z1.trans (s3.trans s5)) nD, ?_⟩
    rw [upd_same, tk, dk_put nc]
  · obtain ⟨z1, zD⟩ := z
    rw [List.take_length] at zD
    exact q _ Hc (s2.trans z1) ⟨D, rfl, same_none (s.trans s2) nD, zD⟩
theorem sd_par3 {i j l : Nat} {ta : TE} {tr : TA} {D : Ends} {σ : L2.St} {H : Hp} {P : V → Hp → Prop} (h : EvP ta σ H P) (q : ∀ x H1, Same H H1 → P x H1 → tr σ H1 fun xs H2 => ∃ u v w, x :: xs = [u, v, w] ∧ D.nx (((σ.set i (some u)).set j (some v)).set l (some w)) H2) : tPar3 i j l (tCons ta tr) D σ H := h.at q
structure SInv (H : Hp) (fl sn : Addr) (Hc : Hp) (ps : List Trade) (S : List Cell) : Prop where
  s : Same H (hide [fl, sn] Hc)
  f : ∃ xs, Hc fl = some (.lst xs) ∧ DxA Hc xs (ps.map eT)
  d : Hc sn = some (.dT (dk S))
section
variable {H Hc Hd : Hp} {fl sn : Addr} {ps : List Trade} {S S' : List Cell} {p : Trade}
theorem SInv.same (h : SInv H fl sn Hc ps S) (s : Same Hc Hd) : SInv H fl sn Hd ps S where
  s := h.s.trans (hide_mono s)
  f := by
    obtain ⟨xs, e1, e2⟩ := h.f
    exact ⟨xs, s _ _ e1, e2.mono s _ xs⟩
  d := s _ _ h.d
theorem SInv.base (h : SInv H fl sn Hc ps S) : Same H Hc := h.s.trans (hide_same _ _)
theorem SInv.ne (h : SInv H fl sn Hc ps S) : fl ≠ sn := fun e => by
  obtain ⟨xs, e1, _⟩ := h.f
  rw [e, h.d] at e1
  cases e1
theorem SInv.setF (h : SInv H fl sn Hc ps S) {xs : List V} {qs : List Trade} (hx : DxA Hc xs (qs.map eT)) : SInv H fl sn (upd Hc fl (.lst xs)) qs S where
  s := by rw [hide_upd List.mem_cons_self]; exact h.s
  f := by
    obtain ⟨ys, e1, _⟩ := h.f
    exact ⟨xs, upd_same, hx.tmono (tsame_mut e1 fun _ z => nomatch z) _ xs (noLA_map eT_noL _)⟩
  d := by rw [upd_ne h.ne.symm]; exact h.d
theorem SInv.setD (h : SInv H fl sn Hc ps S) : SInv H fl sn (upd Hc sn (.dT (dk S'))) ps S' where
  s := by rw [hide_upd (List.mem_cons_of_mem _ List.mem_cons_self)]; exact h.s
  f := by
    obtain ⟨xs, e1, e2⟩ := h.f
    exact ⟨xs, by rw [upd_ne h.ne]; exact e1, e2.tmono (tsame_mut h.d fun _ z => nomatch z) _ xs (noLA_map eT_noL _)⟩
  d := upd_same
end
section
variable {P : Program} {w : World} {K : PySem.W.Frag} {mg : Str → Option Value} {base : Heap} {a : Adr} {f : Addr} {fd : FuncData}
def sp_least_trades : Sp := spD (fun ds => ∃ n T, ds = [eT T] ∧ IsTrade n T ∧ n ≤ 6) (fun ds d => ∀ T, ds = [eT T] → ∃ ps, IsParts tLe T ps ∧ d = .list (ps.map eT))
theorem ok_least_trades (F : Fun K "least_trades" "least_trades" s_least_trades f fd) (T : Txt K mg a) (D_Sides_init : HasI P w K mg base 2 a.iS (sp_Sides_init a)) (D_least_from : HasI P w K mg base 2 a.fl (sp_least_from a)) : FnOk P w K mg base CX0 4 f fd ["trade"] sp_least_trades := by
  refine F.ok sc_least_trades (spD_len fun ds ⟨_, _, e, _⟩ => by rw [e]; rfl) (fun cdv A outer s H vs Q E hr h => ?_)
  obtain ⟨ds, hv, ⟨n, tr, rfl, hT, hn⟩, q⟩ := h
  obtain ⟨y, rfl, hy⟩ := hv.oneE
  refine ⟨_, (pss_cons (ps_par3 (i := 1) (j := 2) (l := 3) (by rfl) sc_least_trades.nd rfl rfl rfl (by decide) (by decide) (by decide) rfl rfl rfl (pa_cons (pe_mk T.mk_Sides D_Sides_init (hr.mono (by decide)) (by rfl) T.g_Sides (pa_cons (pv 0) pa_nil)) (pa_cons (pe_lst pa_nil) (pa_cons pe_dnewT pa_nil))) (by rfl)) (pss_cons (ps_for PassesOwn.never rfl (pi_tupK K (pe_ix (ix_tupK K) (pv 0) pe_int (fun _ _ => rfl))) (pg_name (i := 4) sc_least_trades.nd rfl (by first | exact Or.inl rfl | exact Or.inr rfl)) (pss_one (ps_if (pt_cmp (pc_dnotin (hu_of hr) (pv 4) (pv 3))) (pss_cons (ps_expr (pe_bmK K PySem.F.plainAttrs_list PySem.F.slot_list_append PySem.F.type_list_append mt_append (pv 2) (pa_cons (SlX.pe_methSl (pv 1) T.c_Sides T.m_least_from D_least_from.r (hr.mono (by decide)) pass0 (pa_cons (pv 4) pa_nil)) pa_nil))) (pss_one (ps_expr (pe_bm PySem.F.plainAttrs_dict PySem.F.slot_dict_update PySem.F.type_dict_update (mt_updT (hu_of hr)) (pv 3) (pa_cons (pe_dg (o0 := .dT []) (own := [("other", 5)]) (Or.inr rfl) (hu_of hr) (by rfl) sc_least_trades.nd (pi_tupK K (pe_ix (ix_tupK K) (pe_ix (ix_listK K) (pv 2) (pe_un un_neg pe_int) (fun _ _ => rfl)) pe_int (fun _ _ => rfl))) (blkOk_by (N := n_least_trades) (sc := defScope s_least_trades) (by decide +kernel)) (fun _ _ _ _ _ => (pg_name (i := 5) sc_least_trades.nd rfl (by first | exact Or.inl rfl | exact Or.inr rfl))) (fun _ _ _ _ _ => pts_nil) (fun _ _ _ _ _ => (pv 5)) (fun _ _ _ _ _ => pe_bl)) pa_nil))))) pss_nil))) (pss_one (ps_ret (pe_callB (cr_sortedK K hr.units) (by rfl) T.n_sorted bt_sorted (pa_cons (pv 2) pa_nil)))))), ?_⟩
  have hn24 : n ≤ 24 := by omega
  have le0 : 0 ≤ sizeLine := by omega
  refine sd_par3 (evp_mkSides (a := a) (σ := start n_least_trades [y]) hT hn24 (evd_var (i := 0) rfl hy)) fun sv H1 s1 ⟨x, ex, hS⟩ => ⟨le0, fun fl nfl sn nsn => ⟨_, _, _, rfl, ?_⟩⟩
  subst ex
  have hy1 := hy.mono s1 _ y
  have ne : fl ≠ sn := fun e => by rw [← e, upd_same] at nsn; cases nsn
  have I0 : SInv H1 fl sn (upd (upd H1 fl (.lst [])) sn (.dT [])) [] [] := by
    refine ⟨?_, ⟨[], by rw [upd_ne ne, upd_same], .nil⟩, upd_same⟩
    have e : hide [fl, sn] (upd (upd H1 fl (.lst [])) sn (.dT [])) = hide [fl, sn] H1 := by rw [hide_upd (List.mem_cons_of_mem _ List.mem_cons_self), hide_upd List.mem_cons_self]
    rw [e]
    refine hide_new (fun b m => ?_) (Same.refl _)
    rcases List.mem_cons.mp m with rfl | m
    · exact nfl
    · rw [List.mem_singleton.mp m]
      rw [upd_ne ne.symm] at nsn
      exact nsn
  generalize upd (upd H1 fl (.lst [])) sn (.dT []) = H3 at I0
  have hy3 := hy1.mono I0.base _ y
  refine sd_forT (ds := tr.1.map eC) (srcT_tup (evd_ixT (k := 0) (evd_var (i := 0) rfl hy3) evd_int rfl) (noLA_map eC_noL _))
    (fun i σ' Hc => ∃ u4 ps S, σ' = [some y, some (.ref x), some (.ref fl), some (.ref sn), u4, none] ∧ SInv H1 fl sn Hc ps S ∧ Seen tr i ps S ∧ ps.length ≤ i ∧ S.Nodup) (fun H4 s4 => ⟨none, [], [], rfl, I0.same s4, seen_start, Nat.le_refl _, List.nodup_nil⟩) (fun i d z σ' H' Hc N ed ⟨u4, ps, S, es, hI, hSe, hpl, hSn⟩ s3 hz hN => ?_) fun σ' H' ⟨u4, ps, S, es, hI, hSe, hpl, hSn⟩ => ?_
  · subst es
    rw [List.getElem?_map] at ed
    obtain ⟨c, ec, rfl⟩ := Option.map_eq_some_iff.mp ed
    have hi : i < tr.1.length := (List.getElem?_eq_some_iff.mp ec).1
    have l1 : tr.1.length ≤ 576 := side_len hT hn24 true
    have hI' := hI.same s3
    obtain ⟨zb, rfl, hzb⟩ := cell_key hz
    unfold gName
    refine ⟨_, rfl, _, rfl, sn, _, rfl, .t hI'.d hzb, _, rfl, ?_⟩
    by_cases hin : c ∈ S
    · rw [dk_in hin]
      exact iteF (hN _ _ ⟨_, ps, S, rfl, hI', seen_skip hSe ec hin, by omega, hSn⟩ fun _ _ e => e)
    · rw [dk_out hin]
      refine iteT ?_
      obtain ⟨xs, hf, hxs⟩ := hI'.f
      have hS' := hS.mono hI'.base
      obtain ⟨dx, lp, lt, hs, hp, ht⟩ := hS'
      refine ⟨_, rfl, .inl ⟨rfl, _, .of hf⟩, _, rfl, x, dx, _, rfl, hs, _, rfl, x, .ref zb, c, tr, n, rfl, hz, ⟨dx, lp, lt, hs, hp, ht⟩, hT, hn24, List.mem_of_getElem? ec, fun v p H5 s5 hv hpart hcp => ?_⟩
      have hI5 := hI'.same s5
      refine ⟨fl, xs, v, rfl, rfl, s5 _ _ hf, by rw [hxs.length, List.length_map, sizeLine_eq]; omega, ?_⟩
      have hxs5 : DxA H5 (xs ++ [v]) ((ps ++ [p]).map eT) := by
        rw [List.map_append]
        exact (hxs.mono s5 _ xs).append (.one hv)
      have hI6 := hI5.setF hxs5
      have tm6 : TSame H' (upd H5 fl (.lst (xs ++ [v]))) := TSame.trans (Same.t s5) (tsame_mut (s5 _ _ hf) fun _ z => nomatch z)
      have hf6 : (upd H5 fl (.lst (xs ++ [v]))) fl = some (.lst (xs ++ [v])) := upd_same
      have hv6 : Dx (upd H5 fl (.lst (xs ++ [v]))) v (eT p) := hv.tmono (tsame_mut (s5 _ _ hf) fun _ z => nomatch z) _ v (eT_noL p)
      generalize upd H5 fl (.lst (xs ++ [v])) = H6 at hI6 tm6 hf6 hv6
      have hpT := part_trade hT hpart
      have hpa : Asc p.1 := hpT.asc true
      have nd : p.1.Nodup := hpa.nodup
      have lp1 : p.1.length ≤ 576 := side_len hpT hn24 true
      have last : EvD (tOp (rIxT K) (tOp (rIxL K) (tVar 2) (tUn (rU fun i => .int (-i)) (tC (.int 1)))) (tC (.int 0))) [some y, some (.ref x), some (.ref fl), some (.ref sn), some (.ref zb), none] H6 (eS p.1) := by
        refine evd_ixT (ds := [eS p.1, eS p.2]) (k := 0) (fun H7 s7 Q1 q1 => ⟨_, rfl, 1, rfl, fl, xs ++ [v], -1, v, rfl, rfl, .of (s7 _ _ hf6), ?_, q1 v H7 (Same.refl _) (hv6.mono s7 _ v)⟩) evd_int rfl
        unfold atI ixN
        rw [if_neg (by decide), if_pos (by rw [List.length_append, List.length_singleton]; omega)]
        have e8 : (-1 + ((xs ++ [v]).length : Int)).toNat = xs.length := by rw [List.length_append, List.length_singleton]; omega
        show (xs ++ [v])[(-1 + ((xs ++ [v]).length : Int)).toNat]? = some v
        rw [e8, List.getElem?_append_right (Nat.le_refl _), Nat.sub_self]
        rfl
      have dis : ∀ d ∈ p.1, d ∉ S := fun d md mS => by
        obtain ⟨p', mp', md'⟩ := (hSe.seen d).mp mS
        have e9 := part_eq (hSe.part p' mp') hpart (u := (true, d)) md' md
        exact hin ((hSe.seen c).mpr ⟨p', mp', by rw [e9]; exact hcp⟩)
      have hSl : S.length ≤ 576 := by
        have := len_le_of_inj (fun c : Cell => c) (m := tr.1) hSn (fun d md => by
          obtain ⟨p', mp', md'⟩ := (hSe.seen d).mp md
          exact (hSe.part p' mp').mem (v := (true, d)) md') fun _ _ _ _ e => e
        omega
      refine ⟨_, rfl, .inr (.inr (.inl ⟨rfl, .inr ⟨_, hI6.d⟩⟩)), ?_⟩
      refine (evp_dictTrue (K := K) last nd lp1 (fun z => rfl) (fun z => rfl)).at fun dv H7 s7 ⟨d, ed, nd7, hd7⟩ => ?_
      subst ed
      have hI7 := hI6.same s7
      refine ⟨sn, d, dk S, dk p.1, rfl, rfl, fun e => ?_, hI7.d, hd7, by rw [dk_len, dk_len, sizeLine_eq]; omega, fun P w => .inr (hash_nodup P w hn (fun c m => hpT.rng true c m) nd), ?_⟩
      · rw [← e, hI6.d] at nd7
        cases nd7
      · rw [merge_dk nd dis]
        exact hN _ _ ⟨_, ps ++ [p], S ++ p.1, rfl, hI7.setD, seen_new hSe ec hin hpart hcp (fun d => List.mem_append), by rw [List.length_append, List.length_singleton]; omega, List.nodup_append.mpr ⟨hSn, nd, fun a ma b mb e => dis b mb (by rw [← e]; exact ma)⟩⟩ (TSame.trans (TSame.trans tm6 (Same.t s7)) (tsame_mut hI7.d fun _ z => nomatch z))
  · subst es
    rw [List.length_map] at hSe hpl
    have l1 : tr.1.length ≤ 576 := side_len hT hn24 true
    obtain ⟨xs, hf, hxs⟩ := hI.f
    obtain ⟨qs, e1, e2, e3⟩ := sort_trades ps
    have hp := seen_end hT hSe (Nat.le_refl _) e2 e3
    dsimp only
    refine sd_ret (P := fun v H3 => Dx H3 v (.list (qs.map eT))) ?_ fun v H4 s4 hd => q v H4 _ (fun T' e => ?_) ((s1.trans hI.base).trans s4) hd
    · rw [← e1]
      refine evd_sorted (ds := ps.map eT) (evd_var (i := 2) rfl (.lst hf hxs)) (.inl rfl) (pureA_map eT_pure ps) ?_ ?_ ?_
      · intro d md e me
        obtain ⟨_, _, rfl⟩ := List.mem_map.mp md
        obtain ⟨_, _, rfl⟩ := List.mem_map.mp me
        exact eT_alike _ _
      · refine .inl fun d md => ?_
        obtain ⟨_, _, rfl⟩ := List.mem_map.mp md
        exact ⟨_, _, rfl⟩
      · intro d md
        obtain ⟨t, _, rfl⟩ := List.mem_map.mp md
        have := eT_depth t
        omega
    · rw [← eT_inj (one_inj e)]
      exact ⟨qs, hp, rfl⟩
end
end K40
end

section
set_option Elab.async false
set_option linter.all false
set_option maxRecDepth 100000
set_option maxHeartbeats 4000000
namespace K40
open PySem PySem.Spec PyProof.Rows L2
theorem pe_cellsK {X : Cx} {a : Adr} {e : Expr} {pos : Pos} {ta : TE} (T : Txt X.K X.mg a) (he : PE X e ta) (D : HasI X.prog X.w X.K X.mg X.base 1 a.fc (sp_Table_cells a)) (hr : Room 2 X.A) (hb : attributeBase e "cells" X.env (eval e X.env) = eval e X.env := by rfl) :
    PE X (.Attribute e "cells" pos) (SlX.tPropSl a.cT (sp_Table_cells a) E0 ta) := SlX.pe_propSl he T.c_Table T.pc1 T.pc2 T.pc3 T.pc4 D.r hr (fun _ _ _ _ z => z) hb
section
variable {K : PySem.W.Frag} {mg : Str → Option Value} {a : Adr} {σ : L2.St} {H : Hp} {te ta tb ti tj : TE} {n : Nat} {R S : List (List Int)} {E : XK} {d : PyData} {c : Cell}
theorem evd_prop {pre : List PyData → Prop} {post : List PyData → PyData → Prop} (h : EvD ta σ H (eTab a.cT R)) (hp : pre [eTab a.cT R]) (hq : ∀ e, post [eTab a.cT R] e → e = d) : EvD (SlX.tPropSl a.cT (spD pre post) E ta) σ H d := fun H1 s Q q =>
  h H1 s _ fun v H2 s2 hv => by
    obtain ⟨x, dx, u, p, r, rfl, h1, h2⟩ := hv.tabE
    exact ⟨x, dx, _, rfl, h1, [eTab a.cT R], .one hv, hp, fun v H3 e pe s3 he => q v H3 (s2.trans s3) (by
      have z := hq e pe
      subst z
      exact he)⟩
theorem evd_eqTab (T : Txt K mg a) (ha : EvD ta σ H (eTab a.cT R)) (hb : EvD tb σ H (eTab a.cT S)) : EvD (tOp (SlX.rOwn K a.cT (sp_Table_eq a) E) ta tb) σ H (.bool (decide (R = S))) := fun H1 s Q q =>
  ha H1 s _ fun x H2 s2 hx => hb H2 (s.trans s2) _ fun y H3 s3 hy => by
    have hx3 := hx.mono s3 _ x
    obtain ⟨x1, dx, u, p, r, rfl, h1, h2⟩ := hx3.tabE
    obtain ⟨y1, dy, u', p', r', rfl, h3, h4⟩ := hy.tabE
    exact ⟨x1, dx, _, y1, a.cT, dy, _, rfl, rfl, h1, h3, T.eqN, [eTab a.cT R, eTab a.cT S], .cons hx3 (.one hy), ⟨R, S, rfl⟩, fun v H4 e pe s4 he => q v H4 ((s2.trans s3).trans s4) (by
      have z := pe R S rfl
      subst z
      exact he)⟩
/-- t.own_rows[i][j] -/
theorem evd_at (T : Txt K mg a) (hS : Shp n R) (h : EvD te σ H (eTab a.cT R)) (h1 : 0 ≤ c.1 ∧ c.1 < n) (h2 : 0 ≤ c.2.1 ∧ c.2.1 < n) (hi : EvD ti σ H (.int c.1)) (hj : EvD tj σ H (.int c.2.1)) :
    EvD (tOp (rIxT K) (tOp (rIxT K) (SlX.tSl K te "own_rows") ti) tj) σ H (.int (atC R c)) := by
  have e1 : c.1 = (c.1.toNat : Int) := by omega
  have e2 : c.2.1 = (c.2.1.toNat : Int) := by omega
  obtain ⟨r, g1, m, g2⟩ := hS.at (i := c.1.toNat) (j := c.2.1.toNat) (by omega) (by omega)
  rw [e1] at hi
  rw [e2] at hj
  refine evd_ixT (ds := r.map PyData.int) (evd_ixT (ds := R.map eRt) (d := eRt r) (evd_rows T h) hi ?_) hj ?_
  · rw [List.getElem?_map, g1]
    rfl
  · rw [List.getElem?_map, g2]
    rfl
end
section
variable {P : Program} {w : World} {K : PySem.W.Frag} {mg : Str → Option Value} {base : Heap} {a : Adr} {f : Addr} {fd : FuncData}
def sp_cells_apart (a : Adr) : Sp := spD (fun ds => ∃ n R S, ds = [eTab a.cT R, eTab a.cT S] ∧ Lat n R ∧ Lat n S ∧ n ≤ 24) (fun ds d => ∀ R S, ds = [eTab a.cT R, eTab a.cT S] → d = eS (apart R S))
theorem ok_cells_apart (F : Fun K "cells_apart" "cells_apart" s_cells_apart f fd) (T : Txt K mg a) (D_Table_cells : HasI P w K mg base 1 a.fc (sp_Table_cells a)) : FnOk P w K mg base CX0 3 f fd ["one", "other"] (sp_cells_apart a) := by
  refine F.ok sc_cells_apart (spD_len fun ds ⟨_, _, _, e, _⟩ => by rw [e]; rfl) (fun cdv A outer s H vs Q E hr h => ?_)
  obtain ⟨ds, hv, ⟨n, R, S, rfl, h1, h2, h3⟩, q⟩ := h
  obtain ⟨x, y, rfl, hx, hy⟩ := hv.twoE
  refine ⟨_, (pss_one (ps_ret (pe_callTy (call_tupK K) (by rfl) T.n_tuple bt_tuple (pa_cons (pe_lc (own := [("row", 2), ("column", 3), ("sign", 4)]) (by rfl) sc_cells_apart.nd (pi_tupK K (pe_cellsK T (pv 0) D_Table_cells (hr.mono (by decide)))) (blkOk_by (N := n_cells_apart) (sc := defScope s_cells_apart) (by decide +kernel)) (fun _ _ _ _ _ => (pg_tupK (n := 3) K rfl (pgs_cons (pg_name (i := 2) sc_cells_apart.nd rfl (by first | exact Or.inl rfl | exact Or.inr rfl)) (pgs_cons (pg_name (i := 3) sc_cells_apart.nd rfl (by first | exact Or.inl rfl | exact Or.inr rfl)) (pgs_cons (pg_name (i := 4) sc_cells_apart.nd rfl (by first | exact Or.inl rfl | exact Or.inr rfl)) pgs_nil))))) (fun _ _ _ _ _ => (pts_one (pt_cmpR op_ne (pe_ix (ix_tupK K) (pe_ix (ix_tupK K) (pe_slK K (pv 1)) (pv 2) (fun _ _ => rfl)) (pv 3) (fun _ _ => rfl)) (pv 4) (nomark _)))) (fun _ _ _ _ _ => (pe_tup (pa_cons (pv 2) (pa_cons (pv 3) (pa_cons (pv 4) pa_nil)))))) pa_nil)))), ?_⟩
  have hl : (allC R).length < sizeLine := by
    unfold allC
    rw [upC_len, h1.len, sizeLine_eq]
    have : n * n ≤ 24 * 24 := Nat.mul_le_mul h3 h3
    omega
  refine sd_ret (evd_tupOf (ds := (apart R S).map eC) (evd_lcIf (l := allC R) (enc := eC) (src_tup (evd_prop (d := eS (allC R)) (evd_var rfl hx) ⟨n, R, rfl, h1.shp, h3⟩ fun e h => h R rfl)) (fun c => !decide (atC S c = c.2.2)) eC hl (fun i c z H' e s3 hz => ?_) (gm_tup1 (gm_cons gm_name (gm_cons gm_name (gm_cons gm_name gm_nil)))))) fun v H2 s2 hd => q v H2 _ (fun R2 S2 e => ?_) s2 hd
  · obtain ⟨i2, j2, hi2, hj2, ec⟩ := mem_upC.mp (List.mem_of_getElem? e)
    rw [h1.len] at hi2 hj2
    have b1 : 0 ≤ c.1 ∧ c.1 < n := by rw [ec]; show 0 ≤ (i2 : Int) ∧ (i2 : Int) < n; omega
    have b2 : 0 ≤ c.2.1 ∧ c.2.1 < n := by rw [ec]; show 0 ≤ (j2 : Int) ∧ (j2 : Int) < n; omega
    refine gt3 hz fun x1 x2 x3 g1 g2 g3 => ⟨rfl, Same.refl _, evt_test (evd_neI (evd_at T h2.shp (evd_var rfl (hy.mono s3 _ y)) b1 b2 (evd_var rfl g1) (evd_var rfl g2)) (evd_var rfl g3) rfl), fun _ => ⟨evd_tup (eva_cons (evd_var rfl g1) (eva_cons (evd_var rfl g2) (eva_cons (evd_var rfl g3) eva_nil))) (by rw [sizeLine_eq]; show 3 ≤ _; omega), eC_noL c⟩⟩
  · obtain ⟨e1, e2⟩ := two_inj e
    rw [← eTab_inj e1, ← eTab_inj e2]
    rfl
def sp_difference (a : Adr) : Sp := spD (fun ds => ∃ n R S, ds = [eTab a.cT R, eTab a.cT S] ∧ Lat n R ∧ Lat n S ∧ n ≤ 24 ∧ R ≠ S) (fun ds d => ∀ R S, ds = [eTab a.cT R, eTab a.cT S] → d = eT (diffT R S))
theorem ok_difference (F : Fun K "difference" "difference" s_difference f fd) (T : Txt K mg a) (D_require_two_tables : Has P w K mg base 2 "require_two_tables" (sp_require_two a)) (D_cells_apart : Has P w K mg base 3 "cells_apart" (sp_cells_apart a)) : FnOk P w K mg base CX0 4 f fd ["one", "other"] (sp_difference a) := by
  refine F.ok sc_difference (spD_len fun ds ⟨_, _, _, e, _⟩ => by rw [e]; rfl) (fun cdv A outer s H vs Q E hr h => ?_)
  obtain ⟨ds, hv, ⟨n, R, S, rfl, h1, h2, h3, h4⟩, q⟩ := h
  obtain ⟨x, y, rfl, hx, hy⟩ := hv.twoE
  refine ⟨_, (pss_cons (ps_expr (pe_fn D_require_two_tables (hr.mono (by decide)) (by rfl) (pa_cons (pv 0) (pa_cons (pv 1) pa_nil)))) (pss_cons (ps_if (pt_cmpR (op_eqK K hr.units) (pe_slK K (pv 0)) (pe_slK K (pv 1)) (nomark _)) pss_never pss_nil) (pss_one (ps_ret (pe_tup (pa_cons (pe_fn D_cells_apart (hr.mono (by decide)) (by rfl) (pa_cons (pv 0) (pa_cons (pv 1) pa_nil))) (pa_cons (pe_fn D_cells_apart (hr.mono (by decide)) (by rfl) (pa_cons (pv 1) (pa_cons (pv 0) pa_nil))) pa_nil))))))), ?_⟩
  refine sd_drop (evd_call (eva_cons (evd_var rfl hx) (eva_cons (evd_var rfl hy) eva_nil)) ⟨R, S, rfl, by rw [h1.len, h2.len]⟩ fun e h => h) fun _ H2 s2 _ => ?_
  dsimp only
  have hx2 := hx.mono s2 _ x
  have hy2 := hy.mono s2 _ y
  have dR := eRows_depth R
  have dS := eRows_depth S
  refine sd_ifN (evt_test (evd_eqD (b := false) (evd_rows T (evd_var rfl hx2)) (evd_rows T (evd_var rfl hy2)) (eRows_pure R) (eRows_pure S) (by omega) (by omega) (by rw [eqv_rows, decide_eq_false h4]))) fun H3 s3 => ?_
  dsimp only
  have hx3 := hx2.mono s3 _ x
  have hy3 := hy2.mono s3 _ y
  refine sd_ret (P := fun v H => Dx H v (eT (diffT R S))) (evd_tup (eva_cons (evd_call (eva_cons (evd_var rfl hx3) (eva_cons (evd_var rfl hy3) eva_nil)) ⟨n, R, S, rfl, h1, h2, h3⟩ fun e h => h R S rfl) (eva_cons (evd_call (eva_cons (evd_var rfl hy3) (eva_cons (evd_var rfl hx3) eva_nil)) ⟨n, S, R, rfl, h2, h1, h3⟩ fun e h => h S R rfl) eva_nil)) (by rw [sizeLine_eq]; show 2 ≤ _; omega)) fun v H4 s4 hd => q v H4 _ (fun R2 S2 e => ?_) ((s2.trans s3).trans s4) hd
  obtain ⟨e1, e2⟩ := two_inj e
  rw [← eTab_inj e1, ← eTab_inj e2]
def sp_has_all (a : Adr) : Sp := spD (fun ds => ∃ (n : Nat) (R : List (List Int)) (cs : List Cell), ds = [eTab a.cT R, eS cs] ∧ Shp n R ∧ (∀ c ∈ cs, InR n c) ∧ cs.length ≤ 576) (fun ds d => ∀ R cs, ds = [eTab a.cT R, eS cs] → d = .bool (cs.all fun c => decide (atC R c = c.2.2)))
theorem ok_has_all (F : Fun K "has_all" "has_all" s_has_all f fd) (T : Txt K mg a) : FnOk P w K mg base CX0 1 f fd ["table", "cells"] (sp_has_all a) := by
  refine F.ok sc_has_all (spD_len fun ds ⟨_, _, _, e, _⟩ => by rw [e]; rfl) (fun cdv A outer s H vs Q E hr h => ?_)
  obtain ⟨ds, hv, ⟨n, R, cs, rfl, h1, h2, h3⟩, q⟩ := h
  obtain ⟨x, y, rfl, hx, hy⟩ := hv.twoE
  refine ⟨_, (pss_one (ps_ret (pe_callB (cr_allK K rfl) (by rfl) T.n_all bt_all (pa_cons (pe_lc (own := [("row", 2), ("column", 3), ("sign", 4)]) (by rfl) sc_has_all.nd (pi_tupK K (pv 1)) (blkOk_by (N := n_has_all) (sc := defScope s_has_all) (by decide +kernel)) (fun _ _ _ _ _ => (pg_tupK (n := 3) K rfl (pgs_cons (pg_name (i := 2) sc_has_all.nd rfl (by first | exact Or.inl rfl | exact Or.inr rfl)) (pgs_cons (pg_name (i := 3) sc_has_all.nd rfl (by first | exact Or.inl rfl | exact Or.inr rfl)) (pgs_cons (pg_name (i := 4) sc_has_all.nd rfl (by first | exact Or.inl rfl | exact Or.inr rfl)) pgs_nil))))) (fun _ _ _ _ _ => pts_nil) (fun _ _ _ _ _ => (pe_cmpR op_eq (pe_ix (ix_tupK K) (pe_ix (ix_tupK K) (pe_slK K (pv 0)) (pv 2) (fun _ _ => rfl)) (pv 3) (fun _ _ => rfl)) (pv 4) (nomark _)))) pa_nil)))), ?_⟩
  refine sd_ret (evd_all (bs := cs.map fun c => decide (atC R c = c.2.2)) (b := cs.all fun c => decide (atC R c = c.2.2)) ?_ ?_) fun v H2 s2 hd => q v H2 _ (fun R2 S2 e => ?_) s2 hd
  · rw [List.map_map]
    refine evd_lcM (l := cs) (enc := eC) (src_tup (evd_var rfl hy)) (fun c => PyData.bool (decide (atC R c = c.2.2))) (by rw [sizeLine_eq]; omega) (fun i c z H' e s3 hz => ?_) (gm_tup1 (gm_cons gm_name (gm_cons gm_name (gm_cons gm_name gm_nil))))
    have r := h2 c (List.mem_of_getElem? e)
    exact gt3 hz fun x1 x2 x3 g1 g2 g3 => ⟨rfl, Same.refl _, evd_eqI (evd_at T h1 (evd_var rfl (hx.mono s3 _ x)) r.1 r.2.1 (evd_var rfl g1) (evd_var rfl g2)) (evd_var rfl g3) rfl, rfl⟩
  · rw [List.all_map]
    rfl
  · obtain ⟨e1, e2⟩ := two_inj e
    rw [← eTab_inj e1, ← eS_inj e2]
def sp_within (a : Adr) : Sp := spD (fun ds => ∃ (n : Nat) (R : List (List Int)) (T : Trade), ds = [eTab a.cT R, eT T] ∧ Shp n R ∧ IsTrade n T ∧ n ≤ 24) (fun ds d => ∀ R T, ds = [eTab a.cT R, eT T] → d = .bool (T.1.all fun c => decide (atC R c = c.2.2)))
theorem ok_is_within_table (F : Fun K "is_within_table" "is_within_table" s_is_within_table f fd) (T : Txt K mg a) (D_has_all : Has P w K mg base 1 "has_all" (sp_has_all a)) : FnOk P w K mg base CX0 2 f fd ["table", "trade"] (sp_within a) := by
  refine F.ok sc_is_within_table (spD_len fun ds ⟨_, _, _, e, _⟩ => by rw [e]; rfl) (fun cdv A outer s H vs Q E hr h => ?_)
  obtain ⟨ds, hv, ⟨n, R, tr, rfl, h1, h2, h3⟩, q⟩ := h
  obtain ⟨x, y, rfl, hx, hy⟩ := hv.twoE
  refine ⟨_, (pss_one (ps_ret (pe_fn D_has_all (hr.mono (by decide)) (by rfl) (pa_cons (pv 0) (pa_cons (pe_ix (ix_tupK K) (pv 1) pe_int (fun _ _ => rfl)) pa_nil))))), ?_⟩
  refine sd_ret (evd_call (eva_cons (evd_var rfl hx) (eva_cons (evd_ixT (k := 0) (d := eS tr.1) (evd_var rfl hy) evd_int rfl) eva_nil)) ⟨n, R, tr.1, rfl, h1, h2.rng true, side_len h2 (by omega) true⟩ fun e h => h R tr.1 rfl) fun v H2 s2 hd => q v H2 _ (fun R2 T2 e => ?_) s2 hd
  obtain ⟨e1, e2⟩ := two_inj e
  rw [← eTab_inj e1, ← eT_inj e2]
theorem ok_is_within_tr (F : Fun K "is_within" "is_within" s_is_within_tr f fd) (T : Txt K mg a) (D_require_table : Has P w K mg base 1 "require_table" (sp_require_table a)) (D_require_trade : Has P w K mg base 7 "require_trade" sp_require_trade) (D_is_within_table : Has P w K mg base 2 "is_within_table" (sp_within a)) : FnOk P w K mg base CX0 8 f fd ["table", "trade"] (sp_within a) := by
  refine F.ok sc_is_within_tr (spD_len fun ds ⟨_, _, _, e, _⟩ => by rw [e]; rfl) (fun cdv A outer s H vs Q E hr h => ?_)
  obtain ⟨ds, hv, ⟨n, R, tr, rfl, h1, h2, h3⟩, q⟩ := h
  obtain ⟨x, y, rfl, hx, hy⟩ := hv.twoE
  refine ⟨_, (pss_cons (ps_expr (pe_fn D_require_table (hr.mono (by decide)) (by rfl) (pa_cons (pv 0) pa_nil))) (pss_cons (ps_expr (pe_fn D_require_trade (hr.mono (by decide)) (by rfl) (pa_cons (pe_slK K (pv 0)) (pa_cons (pv 1) pa_nil)))) (pss_one (ps_ret (pe_fn D_is_within_table (hr.mono (by decide)) (by rfl) (pa_cons (pv 0) (pa_cons (pv 1) pa_nil))))))), ?_⟩
  refine sd_drop (evd_call (eva_cons (evd_var rfl hx) eva_nil) ⟨R, rfl⟩ fun e h => h) fun _ H2 s2 _ => ?_
  dsimp only
  have hx2 := hx.mono s2 _ x
  have hy2 := hy.mono s2 _ y
  refine sd_drop (evd_call (eva_cons (evd_order T (evd_var rfl hx2)) (eva_cons (evd_var rfl hy2) eva_nil)) ⟨R.length, tr, rfl, by rw [h1.len]; exact h2, by rw [h1.len]; omega⟩ fun e h => h) fun _ H3 s3 _ => ?_
  dsimp only
  refine sd_ret (P := fun v H => Dx H v (.bool (tr.1.all fun c => decide (atC R c = c.2.2)))) (evd_call (eva_cons (evd_var rfl (hx2.mono s3 _ x)) (eva_cons (evd_var rfl (hy2.mono s3 _ y)) eva_nil)) ⟨n, R, tr, rfl, h1, h2, h3⟩ fun e h => h R tr rfl) fun v H4 s4 hd => q v H4 _ (fun R2 T2 e => ?_) ((s2.trans s3).trans s4) hd
  obtain ⟨e1, e2⟩ := two_inj e
  rw [← eTab_inj e1, ← eT_inj e2]
def sp_is_least : Sp := spD (fun ds => ∃ (n : Int) (T : Trade), ds = [.int n, eT T] ∧ IsTrade n T ∧ 1 ≤ n ∧ n ≤ 6) (fun ds d => ∀ n T, ds = [.int n, eT T] → ∃ ps, IsParts tLe T ps ∧ d = .bool (decide (ps.length = 1)))
theorem ok_is_least_trade (F : Fun K "is_least_trade" "is_least_trade" s_is_least_trade f fd) (T : Txt K mg a) (D_require_order : Has P w K mg base 4 "require_order" sp_require_order) (D_is_trade_of : Has P w K mg base 6 "is_trade_of" sp_is_trade_of) (D_least_trades : Has P w K mg base 4 "least_trades" sp_least_trades) : FnOk P w K mg base CX0 7 f fd ["order", "value"] sp_is_least := by
  refine F.ok sc_is_least_trade (spD_len fun ds ⟨_, _, e, _⟩ => by rw [e]; rfl) (fun cdv A outer s H vs Q E hr h => ?_)
  obtain ⟨ds, hv, ⟨n, tr, rfl, h1, h2, h3⟩, q⟩ := h
  obtain ⟨x, y, rfl, hx, hy⟩ := hv.twoE
  refine ⟨_, (pss_cons (ps_expr (pe_fn D_require_order (hr.mono (by decide)) (by rfl) (pa_cons (pv 0) pa_nil))) (pss_one (ps_ret (pe_and (pe_fn D_is_trade_of (hr.mono (by decide)) (by rfl) (pa_cons (pv 0) (pa_cons (pv 1) pa_nil))) (pe_one (pe_cmpR op_eq (pe_callB (call_lenK K) (by rfl) T.n_len bt_len (pa_cons (pe_fn D_least_trades (hr.mono (by decide)) (by rfl) (pa_cons (pv 1) pa_nil)) pa_nil)) pe_int (nomark _))))))), ?_⟩
  refine sd_drop (evd_call (eva_cons (evd_var rfl hx) eva_nil) ⟨n, rfl, h2, by omega⟩ fun e h => h) fun _ H2 s2 _ => ?_
  dsimp only
  have hx2 := hx.mono s2 _ x
  have hy2 := hy.mono s2 _ y
  refine (evd_call (eva_cons (evd_var rfl hx2) (eva_cons (evd_var rfl hy2) eva_nil)) ⟨n, tr, rfl, h1, by omega⟩ fun e h => h).at fun v H3 s3 hv => ⟨true, hv.blE, iteT ?_⟩
  have hy3 := hy2.mono s3 _ y
  refine (evp_call (σ := start n_is_least_trade [x, y]) (H := H3) (eva_cons (evd_var (i := 1) rfl hy3) eva_nil) ⟨n, tr, rfl, h1, h3⟩).at fun u H4 s4 ⟨d, hd, hu⟩ => ?_
  obtain ⟨ps, hps, rfl⟩ := hd tr rfl
  obtain ⟨l, xs, rfl, g1, g2⟩ := hu.lstE
  refine ⟨l, xs, rfl, .inl (.of g1), rfl, ?_⟩
  have e1 : xs.length = ps.length := by rw [g2.length, List.length_map]
  rw [dec_int, e1]
  refine q _ H4 _ (fun n' T' e => ?_) ((s2.trans s3).trans s4) (.bl _)
  obtain ⟨_, e2⟩ := two_inj e
  rw [← eT_inj e2]
  refine ⟨ps, hps, ?_⟩
  congr 1
  rw [Bool.beq_eq_decide_eq]
  exact decide_eq_decide.mpr (by omega)
def sp_falling : Sp := spD (fun ds => ∃ (n : Int) (T : Trade), ds = [.int n, eT T] ∧ IsTrade n T ∧ 1 ≤ n ∧ n ≤ 6) (fun ds d => ∀ n T, ds = [.int n, eT T] → ∃ ps, IsParts tLe T ps ∧ d = .tuple (ps.map eT))
theorem ok_falling (F : Fun K "falling" "falling" s_falling f fd) (T : Txt K mg a) (D_require_order : Has P w K mg base 4 "require_order" sp_require_order) (D_require_trade : Has P w K mg base 7 "require_trade" sp_require_trade) (D_least_trades : Has P w K mg base 4 "least_trades" sp_least_trades) : FnOk P w K mg base CX0 8 f fd ["order", "trade"] sp_falling := by
  refine F.ok sc_falling (spD_len fun ds ⟨_, _, e, _⟩ => by rw [e]; rfl) (fun cdv A outer s H vs Q E hr h => ?_)
  obtain ⟨ds, hv, ⟨n, tr, rfl, h1, h2, h3⟩, q⟩ := h
  obtain ⟨x, y, rfl, hx, hy⟩ := hv.twoE
  refine ⟨_, (pss_cons (ps_expr (pe_fn D_require_order (hr.mono (by decide)) (by rfl) (pa_cons (pv 0) pa_nil))) (pss_cons (ps_expr (pe_fn D_require_trade (hr.mono (by decide)) (by rfl) (pa_cons (pv 0) (pa_cons (pv 1) pa_nil)))) (pss_one (ps_ret (pe_callTy (call_tupK K) (by rfl) T.n_tuple bt_tuple (pa_cons (pe_fn D_least_trades (hr.mono (by decide)) (by rfl) (pa_cons (pv 1) pa_nil)) pa_nil)))))), ?_⟩
  refine sd_drop (evd_call (eva_cons (evd_var rfl hx) eva_nil) ⟨n, rfl, h2, by omega⟩ fun e h => h) fun _ H2 s2 _ => ?_
  dsimp only
  have hx2 := hx.mono s2 _ x
  have hy2 := hy.mono s2 _ y
  refine sd_drop (evd_call (eva_cons (evd_var rfl hx2) (eva_cons (evd_var rfl hy2) eva_nil)) ⟨n, tr, rfl, h1, by omega⟩ fun e h => h) fun _ H3 s3 _ => ?_
  dsimp only
  have hy3 := hy2.mono s3 _ y
  refine (evp_call (σ := start n_falling [x, y]) (H := H3) (eva_cons (evd_var (i := 1) rfl hy3) eva_nil) ⟨n, tr, rfl, h1, h3⟩).at fun u H4 s4 ⟨d, hd, hu⟩ => ?_
  obtain ⟨ps, hps, rfl⟩ := hd tr rfl
  obtain ⟨l, xs, rfl, g1, g2⟩ := hu.lstE
  refine ⟨l, xs, rfl, .inl ⟨.of g1, fun t nt => ?_⟩⟩
  refine q _ _ (.tuple (ps.map eT)) (fun n' T' e => ?_) (((s2.trans s3).trans s4).trans (same_new nt)) (.tup upd_same (g2.mono (same_new nt) _ xs))
  obtain ⟨_, e2⟩ := two_inj e
  rw [← eT_inj e2]
  exact ⟨ps, hps, rfl⟩
end
end K40
end

section
set_option Elab.async false
set_option linter.all false
set_option maxRecDepth 100000
set_option maxHeartbeats 4000000
namespace K40
open PySem PySem.Spec PyProof.Rows L2
/-- a list of lists of whole numbers, each its own -/
structure Rw (H : Hp) (l : Addr) (bs : List Addr) (R : List (List Int)) : Prop where
  top : H l = some (.lst (bs.map V.ref))
  nd : bs.Nodup
  nl : l ∉ bs
  len : bs.length = R.length
  rows : ∀ (i : Nat) b r, bs[i]? = some b → R[i]? = some r → H b = some (.lst (r.map V.int))
section
variable {K : PySem.W.Frag} {σ : L2.St} {H H' : Hp} {l : Addr} {bs : List Addr} {R : List (List Int)} {te ta : TE}
theorem Rw.same (h : Rw H l bs R) (s : Same H H') : Rw H' l bs R := ⟨s _ _ h.top, h.nd, h.nl, h.len, fun i b r e1 e2 => s _ _ (h.rows i b r e1 e2)⟩
theorem dx_rows {H : Hp} : ∀ {bs : List Addr} {R : List (List Int)}, bs.length = R.length → (∀ (i : Nat) b r, bs[i]? = some b → R[i]? = some r → H b = some (.lst (r.map V.int))) → DxA H (bs.map V.ref) (R.map eRl)
  | [], [], _, _ => .nil
  | [], _ :: _, h, _ => by cases h
  | _ :: _, [], h, _ => by cases h
  | b :: bs, r :: R, h, g => .cons (.lst (g 0 b r rfl rfl) (DxA.ints r)) (dx_rows (by simpa using h) fun i b' r' e1 e2 => g (i + 1) b' r' (by simpa using e1) (by simpa using e2))
theorem Rw.dx (h : Rw H l bs R) : Dx H (.ref l) (.list (R.map eRl)) := .lst h.top (dx_rows h.len h.rows)
theorem Rw.set (h : Rw H l bs R) {i : Nat} {b : Addr} {r' : List Int} (e : bs[i]? = some b) : Rw (upd H b (.lst (r'.map V.int))) l bs (R.set i r') := by
  have mb : b ∈ bs := List.mem_of_getElem? e
  refine ⟨by rw [upd_ne fun z => h.nl (by rw [z]; exact mb)]; exact h.top, h.nd, h.nl, by rw [List.length_set, h.len], fun k c r e1 e2 => ?_⟩
  obtain ⟨hi, ei⟩ := List.getElem?_eq_some_iff.mp e
  by_cases hk : k = i
  · subst hk
    rw [e] at e1
    cases e1
    have hi2 : k < R.length := by rw [← h.len]; exact hi
    rw [List.getElem?_set_self hi2] at e2
    cases e2
    exact upd_same
  · rw [List.getElem?_set_ne (Ne.symm hk)] at e2
    obtain ⟨hk2, ek⟩ := List.getElem?_eq_some_iff.mp e1
    have ne : c ≠ b := fun z => by
      rw [← ek, ← ei] at z
      rcases Nat.lt_or_gt_of_ne hk with lt | lt
      · exact List.pairwise_iff_getElem.mp h.nd k i hk2 hi lt z
      · exact List.pairwise_iff_getElem.mp h.nd i k hi hk2 lt z.symm
    rw [upd_ne ne]
    exact h.rows k c r e1 e2
/-- a new list -/
def EvF (te : TE) (σ : L2.St) (H : Hp) (xs : List V) : Prop := ∀ H1, Same H H1 → ∀ Q : VK, (∀ b H2, H1 b = none → Same H1 H2 → H2 b = some (.lst xs) → Q (.ref b) H2) → te σ H1 Q
theorem evf_lstOfL {ns : List Int} (h : EvD te σ H (eRl ns)) : EvF (tCB (rLstOf K) (tCons te tNil)) σ H (ns.map V.int) := fun H1 s Q q =>
  h H1 s _ fun v H2 s2 hv => by
    obtain ⟨a, xs, rfl, h1, h2⟩ := hv.lstE
    rw [h2.of_ints] at h1
    exact ⟨a, _, rfl, .inl (.of h1), fun b hb => q b _ (same_none s2 hb) (s2.trans (same_new hb)) upd_same⟩
theorem evf_lstOfT {ns : List Int} (h : EvD te σ H (eRt ns)) : EvF (tCB (rLstOf K) (tCons te tNil)) σ H (ns.map V.int) := fun H1 s Q q =>
  h H1 s _ fun v H2 s2 hv => by
    obtain ⟨a, xs, rfl, h1, h2⟩ := hv.tupE
    rw [h2.of_ints] at h1
    exact ⟨a, _, rfl, .inr (.of h1), fun b hb => q b _ (same_none s2 hb) (s2.trans (same_new hb)) upd_same⟩
/-- [list(row) for row in rows] -/
theorem evp_copy {R : List (List Int)} {enc : List Int → PyData} {wi : TI} {g : TG} {vs : List Nat} (hw : Src wi σ H (R.map enc)) (hl : R.length < sizeLine)
    (hb : ∀ (i : Nat) d x H', R[i]? = some d → Same H H' → Dx H' x (enc d) → g x (wipe σ vs) H' fun σ2 H2 => wipe σ2 vs = wipe σ vs ∧ Same H' H2 ∧ EvF te σ2 H2 (d.map V.int)) (hg : ∀ x (σ : L2.St) H (Q Q' : L2.St → Hp → Prop), (∀ σ H, Q σ H → Q' σ H) → g x σ H Q → g x σ H Q') :
    EvP (tLc wi g tYes te vs) σ H fun v H2 => ∃ l bs, v = .ref l ∧ H l = none ∧ (∀ b ∈ bs, H b = none) ∧ Rw H2 l bs R := fun H1 s Q q => hw H1 s _ fun J H2 G Y s2 w hG hY D nD => by
  have sH2 : Same H H2 := s.trans s2
  rw [List.length_map] at w hY
  refine lc_it w (fun i Hc => Same H2 Hc ∧ ∃ bs, (∀ b ∈ bs, H2 b = none) ∧ Rw Hc D bs (R.take i)) ⟨same_new nD, [], fun _ m => absurd m List.not_mem_nil, upd_same, List.nodup_nil, List.not_mem_nil, rfl, fun i b r e => by simp at e⟩ (fun i Hc _ z => hG Hc z.1) (fun i x Hc Hx hi z y => ?_) fun Hc z => ?_
  · obtain ⟨z1, bs, zb, zR⟩ := z
    obtain ⟨s3, d0, ed0, hx⟩ := hY i Hc x Hx z1 hi y
    rw [List.getElem?_map] at ed0
    obtain ⟨d, ed, rfl⟩ := Option.map_eq_some_iff.mp ed0
    refine hg _ _ _ _ _ (fun σ2 H3 z => ?_) (hb i d x Hx ed ((sH2.trans z1).trans s3) hx)
    obtain ⟨e1, s4, he⟩ := z
    refine ⟨e1, evt_yes.at (σ := σ2) (H := H3) fun H4 s45 => ?_⟩
    refine iteT ?_
    refine he H4 s45 _ fun b H5 nb s6 eb => ?_
    have s34 : Same Hc H4 := s3.trans (s4.trans s45)
    have zR5 := zR.same (s34.trans s6)
    have lbs : bs.length = i := by rw [zR.len, List.length_take]; omega
    have nb2 : b ∉ bs := fun m => by
      obtain ⟨k, hk, ek⟩ := List.getElem_of_mem m
      have hk2 : k < (R.take i).length := by rw [← zR.len]; exact hk
      have := (zR.same s34).rows k b (R.take i)[k] (by rw [← ek]; exact List.getElem?_eq_getElem hk) (List.getElem?_eq_getElem hk2)
      rw [nb] at this
      cases this
    have nbD : b ≠ D := fun z => by
      have := s34 _ _ zR.top
      rw [← z, nb] at this
      cases this
    refine ⟨_, zR5.top, by rw [List.length_map, lbs]; omega, same_mut ((z1.trans s34).trans s6) nD, bs ++ [b], fun c m => ?_, by rw [upd_same, List.map_append]; rfl, ?_, ?_, ?_, ?_⟩
    · rcases List.mem_append.mp m with m | m
      · exact zb c m
      · rw [List.mem_singleton.mp m]
        exact same_none (z1.trans s34) nb
    · exact List.nodup_append.mpr ⟨zR.nd, by simp, fun a ma c mc => by
        rw [List.mem_singleton.mp mc]
        exact fun e => nb2 (by rw [← e]; exact ma)⟩
    · intro m
      rcases List.mem_append.mp m with m | m
      · exact zR.nl m
      · exact nbD (List.mem_singleton.mp m).symm
    · rw [List.length_append, List.length_singleton, lbs, List.length_take]
      omega
    · intro k c r e2 e3
      by_cases hk : k < i
      · rw [List.getElem?_append_left (by omega)] at e2
        rw [List.getElem?_take_of_lt (by omega)] at e3
        have mc : c ∈ bs := List.mem_of_getElem? e2
        rw [upd_ne fun z => zR.nl (by rw [← z]; exact mc)]
        exact zR5.rows k c r e2 (by rw [List.getElem?_take_of_lt hk]; exact e3)
      · rw [List.getElem?_append_right (by omega), lbs] at e2
        have hk2 : k = i := by
          apply Classical.byContradiction
          intro q
          rw [List.getElem?_eq_none (by rw [List.length_singleton]; omega)] at e2
          cases e2
        subst hk2
        rw [Nat.sub_self] at e2
        have ec : b = c := by simpa using e2
        subst ec
        rw [List.getElem?_take_of_lt (by omega), ed] at e3
        cases e3
        rw [upd_ne nbD]
        exact eb
  · obtain ⟨z1, bs, zb, zR⟩ := z
    rw [List.take_length] at zR
    exact q _ Hc (s2.trans z1) ⟨D, bs, rfl, same_none sH2 nD, fun b m => same_none sH2 (zb b m), zR⟩
end
theorem rowsWith_take {R : List (List Int)} {cs : List Cell} {i : Nat} {c : Cell} (e : cs[i]? = some c) : rowsWith R (cs.take (i + 1)) = setC (rowsWith R (cs.take i)) c := by
  rw [List.take_add_one, e]
  unfold rowsWith
  rw [List.foldl_append]
  rfl
section
variable {P : Program} {w : World} {K : PySem.W.Frag} {mg : Str → Option Value} {base : Heap} {a : Adr} {f : Addr} {fd : FuncData}
def sp_rows_with : Sp := spD (fun ds => ∃ (n : Nat) (R : List (List Int)) (cs : List Cell), ds = [eRows R, eS cs] ∧ Shp n R ∧ n ≤ 24 ∧ (∀ c ∈ cs, InR n c)) (fun ds d => ∀ R cs, ds = [eRows R, eS cs] → d = eRows (rowsWith R cs))
theorem ok_rows_with (F : Fun K "rows_with" "rows_with" s_rows_with f fd) (T : Txt K mg a) : FnOk P w K mg base CX0 1 f fd ["rows", "cells"] sp_rows_with := by
  refine F.ok sc_rows_with (spD_len fun ds ⟨_, _, _, e, _⟩ => by rw [e]; rfl) (fun cdv A outer s H vs Q E hr h => ?_)
  obtain ⟨ds, hv, ⟨n, R, cs, rfl, h1, h2, h3⟩, q⟩ := h
  obtain ⟨x, y, rfl, hx, hy⟩ := hv.twoE
  refine ⟨_, (pss_cons (ps_setLc (i := 2) (own := [("row", 3)]) (by rfl) sc_rows_with.nd rfl rfl (sw_true rfl rfl rfl (by decide +kernel)) (pi_tupK K (pv 0)) (blkOk_by (N := n_rows_with) (sc := defScope s_rows_with) (by decide +kernel)) (fun _ _ _ _ _ => (pg_name (i := 3) sc_rows_with.nd rfl (by first | exact Or.inl rfl | exact Or.inr rfl))) (fun _ _ _ _ _ => pts_nil) (fun _ _ _ _ _ => (pe_callTy (call_lstK K) (by rfl) T.n_list bt_list (pa_cons (pv 3) pa_nil)))) (pss_cons (ps_for PassesOwn.never rfl (pi_tupK K (pv 1)) (pg_tupK (n := 3) K rfl (pgs_cons (pg_name (i := 3) sc_rows_with.nd rfl (by first | exact Or.inl rfl | exact Or.inr rfl)) (pgs_cons (pg_name (i := 4) sc_rows_with.nd rfl (by first | exact Or.inl rfl | exact Or.inr rfl)) (pgs_cons (pg_name (i := 5) sc_rows_with.nd rfl (by first | exact Or.inl rfl | exact Or.inr rfl)) pgs_nil)))) (pss_one (ps_asg (pv 5) (pg_sub (pe_ix (ix_listK K) (pv 2) (pv 3) (fun _ _ => rfl)) (pv 4) set_list)))) (pss_one (ps_ret (pe_callTy (call_tupK K) (by rfl) T.n_tuple bt_tuple (pa_cons (pe_lc (own := [("row", 3)]) (by rfl) sc_rows_with.nd (pi_listK K (pv 2)) (blkOk_by (N := n_rows_with) (sc := defScope s_rows_with) (by decide +kernel)) (fun _ _ _ _ _ => (pg_name (i := 3) sc_rows_with.nd rfl (by first | exact Or.inl rfl | exact Or.inr rfl))) (fun _ _ _ _ _ => pts_nil) (fun _ _ _ _ _ => (pe_callTy (call_tupK K) (by rfl) T.n_tuple bt_tuple (pa_cons (pv 3) pa_nil)))) pa_nil)))))), ?_⟩
  have hz : R.length < sizeLine := by rw [h1.len, sizeLine_eq]; omega
  refine sd_asg (evp_copy (R := R) (enc := eRt) (src_tup (evd_var (i := 0) rfl hx)) hz (fun i d z H' e s3 hz => ⟨rfl, Same.refl _, evf_lstOfT (evd_var rfl hz)⟩) gm_name) fun v H2 s2 ⟨l, bs, e1, nl, nb, hR⟩ => ?_
  subst e1
  dsimp only
  refine sd_forT (ds := cs.map eC) (srcT_tup (evd_var (i := 1) rfl (hy.mono s2 _ y)) (noLA_map eC_noL _))
    (fun i σ' Hc => ∃ u3 u4 u5, σ' = [some x, some y, some (.ref l), u3, u4, u5] ∧ Same H Hc ∧ Rw Hc l bs (rowsWith R (cs.take i))) (fun H1 s1 => ⟨none, none, none, rfl, s2.trans s1, hR.same s1⟩) (fun i d z σ' H' Hc N ed ⟨u3, u4, u5, es, sH, hRc⟩ s3 hz hN => ?_) fun σ' H' ⟨u3, u4, u5, es, sH, hRc⟩ => ?_
  · subst es
    rw [List.getElem?_map] at ed
    obtain ⟨c, ec, rfl⟩ := Option.map_eq_some_iff.mp ed
    have mc : c ∈ cs := List.mem_of_getElem? ec
    have hin := h3 c mc
    have hn := inr_inN hin
    have shp : Shp n (rowsWith R (cs.take i)) := rw_shp h1 fun d m => inr_inN (h3 d (List.mem_of_mem_take m))
    refine gt3 hz fun x1 x2 x3 g1 g2 g3 => ?_
    have e1 := g1.intE
    have e2 := g2.intE
    have e3 := g3.intE
    subst e1 e2 e3
    have hRx := hRc.same s3
    obtain ⟨r, er, mr, _, lr⟩ := shp.at_row hn.1
    have hb : c.1.toNat < bs.length := by rw [hRx.len, shp.len]; exact hn.1
    have eb : bs[c.1.toNat]? = some bs[c.1.toNat] := List.getElem?_eq_getElem hb
    have nbb := nb _ (List.getElem_mem hb)
    generalize bs[c.1.toNat] = bb at eb nbb
    have hb2 := hRx.rows _ _ _ eb er
    have c1 : c.1 = (c.1.toNat : Int) := by have := hin.1; omega
    have c2 : c.2.1 = (c.2.1.toNat : Int) := by have := hin.2.1; omega
    refine ⟨_, rfl, _, rfl, _, rfl, l, _, c.1, .ref bb, rfl, rfl, .of hRx.top, ?_, ?_⟩
    · have z := atI_nat (xs := bs.map V.ref) (j := c.1.toNat) (v := .ref bb) (by rw [List.getElem?_map, eb]; rfl)
      rwa [← c1] at z
    refine ⟨_, rfl, bb, r.map V.int, c.2.1, c.2.1.toNat, rfl, rfl, hb2, ?_, ?_⟩
    · have z := ixN_nat (n := r.length) (j := c.2.1.toNat) (by rw [lr]; exact hn.2)
      rw [← c2] at z
      rw [List.length_map]
      exact z
    refine hN _ _ ⟨_, _, _, rfl, same_mut (sH.trans s3) nbb, ?_⟩ (tsame_mut hb2 fun _ z => nomatch z)
    rw [rowsWith_take ec, ← List.map_set]
    have er2 : (rowsWith R (cs.take i)).getD c.1.toNat [] = r := by rw [List.getD_eq_getElem?_getD, er]; rfl
    unfold setC
    rw [er2]
    exact hRx.set eb
  · subst es
    rw [List.length_map, List.take_length] at hRc
    have shp : Shp n (rowsWith R cs) := rw_shp h1 fun d m => inr_inN (h3 d m)
    dsimp only
    refine sd_ret (P := fun v H => Dx H v (eRows (rowsWith R cs))) ?_ fun v H4 s4 hd => q v H4 _ (fun R2 cs2 e => ?_) (sH.trans s4) hd
    · refine evd_tupOf (ds := (rowsWith R cs).map eRt) (evd_lcM (l := rowsWith R cs) (enc := eRl) (src_list (evd_var (i := 2) rfl hRc.dx)) eRt (by rw [shp.len, sizeLine_eq]; omega) (fun i d z H' e s3 hz => ⟨rfl, Same.refl _, evd_tupOf (evd_var rfl hz), eRt_nl d⟩) gm_name)
    · obtain ⟨e1, e2⟩ := two_inj e
      rw [← eRows_inj e1, ← eS_inj e2]
def sp_switched (a : Adr) : Sp := spD (fun ds => ∃ (n : Nat) (R : List (List Int)) (T : Trade), ds = [eTab a.cT R, eT T] ∧ Lat n R ∧ IsTrade n T ∧ 1 ≤ n ∧ n ≤ 24 ∧ ∀ c ∈ T.1, atC R c = c.2.2) (fun ds d => ∀ R T, ds = [eTab a.cT R, eT T] → d = eTab a.cT (rowsWith R T.2))
theorem ok_table_switched (F : Fun K "table_switched" "table_switched" s_table_switched f fd) (T : Txt K mg a) (D_table_with : Has P w K mg base 9 "table_with" (sp_table_with a)) (D_rows_with : Has P w K mg base 1 "rows_with" sp_rows_with) : FnOk P w K mg base CX0 10 f fd ["table", "trade"] (sp_switched a) := by
  refine F.ok sc_table_switched (spD_len fun ds ⟨_, _, _, e, _⟩ => by rw [e]; rfl) (fun cdv A outer s H vs Q E hr h => ?_)
  obtain ⟨ds, hv, ⟨n, R, tr, rfl, h1, h2, h0, h3, h4⟩, q⟩ := h
  obtain ⟨x, y, rfl, hx, hy⟩ := hv.twoE
  refine ⟨_, (pss_one (ps_ret (pe_fn D_table_with (hr.mono (by decide)) (by rfl) (pa_cons (pe_fn D_rows_with (hr.mono (by decide)) (by rfl) (pa_cons (pe_slK K (pv 0)) (pa_cons (pe_ix (ix_tupK K) (pv 1) pe_int (fun _ _ => rfl)) pa_nil))) pa_nil)))), ?_⟩
  refine sd_ret (evd_call (d := eTab a.cT (rowsWith R tr.2)) (eva_cons (evd_call (d := eRows (rowsWith R tr.2)) (eva_cons (evd_rows T (evd_var (i := 0) rfl hx)) (eva_cons (evd_ixT (k := 1) (d := eS tr.2) (evd_var (i := 1) rfl hy) evd_int rfl) eva_nil)) ⟨n, R, tr.2, rfl, h1.shp, h3, h2.rng false⟩ fun e h => h R tr.2 rfl) eva_nil) ⟨n, rowsWith R tr.2, rfl, sw_lat h1 h2 h4, h0, h3⟩ fun e h => h _ rfl) fun v H2 s2 hd => q v H2 _ (fun R2 T2 e => ?_) s2 hd
  obtain ⟨e1, e2⟩ := two_inj e
  rw [← eTab_inj e1, ← eT_inj e2]
theorem ok_switched (F : Fun K "switched" "switched" s_switched f fd) (T : Txt K mg a) (D_require_table : Has P w K mg base 1 "require_table" (sp_require_table a)) (D_require_trade : Has P w K mg base 7 "require_trade" sp_require_trade) (D_is_within_table : Has P w K mg base 2 "is_within_table" (sp_within a)) (D_table_switched : Has P w K mg base 10 "table_switched" (sp_switched a)) : FnOk P w K mg base CX0 11 f fd ["table", "trade"] (sp_switched a) := by
  refine F.ok sc_switched (spD_len fun ds ⟨_, _, _, e, _⟩ => by rw [e]; rfl) (fun cdv A outer s H vs Q E hr h => ?_)
  obtain ⟨ds, hv, ⟨n, R, tr, rfl, h1, h2, h0, h3, h4⟩, q⟩ := h
  obtain ⟨x, y, rfl, hx, hy⟩ := hv.twoE
  refine ⟨_, (pss_cons (ps_expr (pe_fn D_require_table (hr.mono (by decide)) (by rfl) (pa_cons (pv 0) pa_nil))) (pss_cons (ps_expr (pe_fn D_require_trade (hr.mono (by decide)) (by rfl) (pa_cons (pe_slK K (pv 0)) (pa_cons (pv 1) pa_nil)))) (pss_cons (ps_if (pt_not (pt_val (pe_fn D_is_within_table (hr.mono (by decide)) (by rfl) (pa_cons (pv 0) (pa_cons (pv 1) pa_nil))))) pss_never pss_nil) (pss_one (ps_ret (pe_fn D_table_switched (hr.mono (by decide)) (by rfl) (pa_cons (pv 0) (pa_cons (pv 1) pa_nil)))))))), ?_⟩
  refine sd_drop (evd_call (eva_cons (evd_var rfl hx) eva_nil) ⟨R, rfl⟩ fun e h => h) fun _ H2 s2 _ => ?_
  dsimp only
  have hx2 := hx.mono s2 _ x
  have hy2 := hy.mono s2 _ y
  refine sd_drop (evd_call (eva_cons (evd_order T (evd_var rfl hx2)) (eva_cons (evd_var rfl hy2) eva_nil)) ⟨R.length, tr, rfl, by rw [h1.len]; exact h2, by rw [h1.len]; omega⟩ fun e h => h) fun _ H3 s3 _ => ?_
  dsimp only
  have hx3 := hx2.mono s3 _ x
  have hy3 := hy2.mono s3 _ y
  refine sd_ifN (evt_notT (evt_B (evd_call (eva_cons (evd_var rfl hx3) (eva_cons (evd_var rfl hy3) eva_nil)) ⟨n, R, tr, rfl, h1.shp, h2, h3⟩ fun e h => by
    rw [h R tr rfl]
    congr 1
    exact List.all_eq_true.mpr fun c m => decide_eq_true (h4 c m)))) fun H4 s4 => ?_
  dsimp only
  have hx4 := hx3.mono s4 _ x
  have hy4 := hy3.mono s4 _ y
  refine sd_ret (P := fun v H => Dx H v (eTab a.cT (rowsWith R tr.2))) (evd_call (eva_cons (evd_var rfl hx4) (eva_cons (evd_var rfl hy4) eva_nil)) ⟨n, R, tr, rfl, h1, h2, h0, h3, h4⟩ fun e h => h R tr rfl) fun v H5 s5 hd => q v H5 _ (fun R2 T2 e => ?_) (((s2.trans s3).trans s4).trans s5) hd
  obtain ⟨e1, e2⟩ := two_inj e
  rw [← eTab_inj e1, ← eT_inj e2]
end
end K40
end

section
set_option Elab.async false
set_option linter.all false
set_option maxRecDepth 100000
set_option maxHeartbeats 4000000
namespace K40
open PySem PySem.Spec PyProof.Rows L2
theorem eRl_inj {a b : List Int} (h : eRl a = eRl b) : a = b := by
  simp only [eRl, PyData.list.injEq] at h
  exact map_inj (fun _ _ e => by injection e) h
/-- a square of lists -/
def eSq (R : List (List Int)) : PyData := .list (R.map eRl)
theorem eSq_inj {a b : List (List Int)} (h : eSq a = eSq b) : a = b := by
  simp only [eSq, PyData.list.injEq] at h
  exact map_inj (fun _ _ e => eRl_inj e) h
def co : Nat → Cell → Int
  | 0, c => c.1
  | 1, c => c.2.1
  | _, c => c.2.2
def sh (c d : Cell) : Nat := ((List.range 3).filter fun k => decide (co k c = co k d)).length
theorem sh_two {c d : Cell} (ne : c ≠ d) : sh c d = 2 ↔ ∃ k, pr k c = pr k d := by
  obtain ⟨c1, c2, c3⟩ := c
  obtain ⟨d1, d2, d3⟩ := d
  have e : (List.range 3) = [0, 1, 2] := rfl
  unfold sh
  rw [e]
  simp only [List.filter_cons, List.filter_nil, co]
  constructor
  · intro h
    by_cases h1 : c1 = d1
    · by_cases h2 : c2 = d2
      · exact ⟨0, by simp [pr, h1, h2]⟩
      · by_cases h3 : c3 = d3
        · exact ⟨1, by simp [pr, h1, h3]⟩
        · simp [h1, h2, h3] at h
    · by_cases h2 : c2 = d2
      · by_cases h3 : c3 = d3
        · exact ⟨2, by simp [pr, h2, h3]⟩
        · simp [h1, h2, h3] at h
      · by_cases h3 : c3 = d3
        · simp [h1, h2, h3] at h
        · simp [h1, h2, h3] at h
  · rintro ⟨k, hk⟩
    match k, hk with
    | 0, hk =>
      simp only [pr, Prod.mk.injEq] at hk
      have h3 : c3 ≠ d3 := fun z => ne (by rw [hk.1, hk.2, z])
      simp [hk.1, hk.2, h3]
    | 1, hk =>
      simp only [pr, Prod.mk.injEq] at hk
      have h3 : c2 ≠ d2 := fun z => ne (by rw [hk.1, hk.2, z])
      simp [hk.1, hk.2, h3]
    | k + 2, hk =>
      simp only [pr, Prod.mk.injEq] at hk
      have h3 : c1 ≠ d1 := fun z => ne (by rw [hk.1, hk.2, z])
      simp [hk.1, hk.2, h3]
/-! positions -/
def posU (n : Nat) : Nat → List (Nat × Nat)
  | 0 => []
  | i + 1 => posU n i ++ (List.range n).map fun j => (i, j)
def cellAt (R : List (List Int)) (p : Nat × Nat) : Cell := ((p.1 : Int), ((p.2 : Int), gn R p.1 p.2))
theorem upC_pos (R : List (List Int)) (n : Nat) : ∀ i, upC R n i = (posU n i).map (cellAt R)
  | 0 => rfl
  | i + 1 => by rw [upC, posU, List.map_append, upC_pos R n i, rowC, List.map_map]; rfl
theorem posU_len (n : Nat) : ∀ i, (posU n i).length = i * n
  | 0 => by simp [posU]
  | i + 1 => by rw [posU, List.length_append, posU_len n i, List.length_map, List.length_range, Nat.succ_mul]
def spots (R S : List (List Int)) (n i : Nat) : List (Nat × Nat) := (posU n i).filter fun p => !decide (gn R p.1 p.2 = gn S p.1 p.2)
theorem apart_spots (R S : List (List Int)) : apart R S = (spots R S R.length R.length).map (cellAt R) := by
  unfold apart allC spots
  rw [upC_pos, List.filter_map]
  congr 1
  refine List.filter_congr fun p _ => ?_
  show (!decide (gn S p.1 p.2 = gn R p.1 p.2)) = _
  congr 1
  exact decide_eq_decide.mpr ⟨fun h => h.symm, fun h => h.symm⟩
theorem spots_comm (R S : List (List Int)) (n i : Nat) : spots R S n i = spots S R n i := by
  unfold spots
  refine List.filter_congr fun p _ => ?_
  congr 1
  exact decide_eq_decide.mpr ⟨fun h => h.symm, fun h => h.symm⟩
def ePos (p : Nat × Nat) : PyData := .tuple [.int (p.1 : Int), .int (p.2 : Int)]
theorem ePos_noL (p : Nat × Nat) : noL (ePos p) = true := by simp [ePos, noL, noLA]
section
variable {K : PySem.W.Frag} {mg : Str → Option Value} {a : Adr} {σ : L2.St} {H : Hp} {te ta tb ti tj : TE} {n : Nat} {R S : List (List Int)} {E : XK} {d : PyData} {c : Cell} {ds es : List PyData}
/-- rows[i][j], lists -/
theorem evd_sq {i j : Nat} (hS : Shp n R) (h : EvD te σ H (eSq R)) (hi : i < n) (hj : j < n) (h1 : EvD ti σ H (.int (i : Int))) (h2 : EvD tj σ H (.int (j : Int))) : EvD (tOp (rIxL K) (tOp (rIxL K) te ti) tj) σ H (.int (gn R i j)) := by
  obtain ⟨r, g1, m, g2⟩ := hS.at hi hj
  refine evd_ixL (ds := r.map PyData.int) (evd_ixL (ds := R.map eRl) (d := eRl r) h h1 ?_) h2 ?_
  · rw [List.getElem?_map, g1]
    rfl
  · rw [List.getElem?_map, g2]
    rfl
/-- xs + ys, lists of items without lists -/
theorem evd_cat (ha : EvD ta σ H (.list ds)) (hb : EvD tb σ H (.list es)) (hl : ds.length + es.length ≤ 100000) : EvD (tOp rCat ta tb) σ H (.list (ds ++ es)) := fun H1 s Q q =>
  ha H1 s _ fun x H2 s2 hx => hb H2 (s.trans s2) _ fun y H3 s3 hy => by
    obtain ⟨a, xs, rfl, h1, h2⟩ := (hx.mono s3 _ x).lstE
    obtain ⟨b, ys, rfl, h3, h4⟩ := hy.lstE
    exact ⟨a, b, xs, ys, rfl, rfl, h1, h3, by rw [h2.length, h4.length, sizeLine_eq]; omega, fun p hp => q _ _ ((s2.trans s3).trans (same_new hp)) (.lst upd_same ((h2.append h4).mono (same_new hp) _ _))⟩
theorem src_rng0 (hn : n ≤ 1000000) (h : EvD te σ H (.int (n : Int))) : Src (iRng1 (tCons te tNil)) σ H ((List.range n).map fun (i : Nat) => PyData.int (i : Int)) := src_rng (eva_cons h eva_nil) hn
end
section
variable {P : Program} {w : World} {K : PySem.W.Frag} {mg : Str → Option Value} {base : Heap} {a : Adr} {f : Addr} {fd : FuncData}
def sp_shared : Sp := spD (fun ds => ∃ c d, ds = [eC c, eC d]) (fun ds e => ∀ c d, ds = [eC c, eC d] → e = .int (sh c d : Nat))
theorem ok_l_shared (F : Fun K "_law_shared" "_law_shared" s_l_shared f fd) (T : Txt K mg a) : FnOk P w K mg base CX0 1 f fd ["_law_one", "_law_other"] sp_shared := by
  refine F.ok sc_l_shared (spD_len fun ds ⟨_, _, e⟩ => by rw [e]; rfl) (fun cdv A outer s H vs Q E hr h => ?_)
  obtain ⟨ds, hv, ⟨c, d, rfl⟩, q⟩ := h
  obtain ⟨x, y, rfl, hx, hy⟩ := hv.twoE
  refine ⟨_, (pss_one (ps_ret (pe_callB (call_lenK K) (by rfl) T.n_len bt_len (pa_cons (pe_lc (own := [("_law_at", 2)]) (by rfl) sc_l_shared.nd (pi_range1 (by rfl) T.n_range (pa_cons pe_int pa_nil)) (blkOk_by (N := n_l_shared) (sc := defScope s_l_shared) (by decide +kernel)) (fun _ _ _ _ _ => (pg_name (i := 2) sc_l_shared.nd rfl (by first | exact Or.inl rfl | exact Or.inr rfl))) (fun _ _ _ _ _ => (pts_one (pt_cmpR op_eq (pe_ix (ix_tupK K) (pv 0) (pv 2) (fun _ _ => rfl)) (pe_ix (ix_tupK K) (pv 1) (pv 2) (fun _ _ => rfl)) (nomark _)))) (fun _ _ _ _ _ => (pv 2))) pa_nil)))), ?_⟩
  have cx : ∀ k, k < 3 → ∀ c : Cell, [PyData.int c.1, .int c.2.1, .int c.2.2][k]? = some (.int (co k c)) := fun k hk c => by
    match k, hk with
    | 0, _ => rfl
    | 1, _ => rfl
    | 2, _ => rfl
  refine sd_ret (P := fun v H => Dx H v (.int (sh c d : Nat))) ?_ fun v H2 s2 hd => q v H2 _ (fun c' d' e => ?_) s2 hd
  · have z := evd_lcIf (l := List.range 3) (enc := fun (i : Nat) => PyData.int (i : Int)) (σ := start n_l_shared [x, y]) (H := H) (te := tVar 2) (tt := tTest (tOp rEq (tOp (rIxT K) (tVar 0) (tVar 2)) (tOp (rIxT K) (tVar 1) (tVar 2)))) (vs := [2]) (g := gName 2) (src_rng0 (te := tC (.int 3)) (n := 3) (by omega) evd_int) (fun k => decide (co k c = co k d)) (fun (i : Nat) => PyData.int (i : Int)) (by rw [sizeLine_eq]; show 3 < _; omega) (fun i k z H' e s3 hz => ?_) gm_name
    · have z2 := evd_lenL (K := K) z
      rw [List.length_map] at z2
      exact z2
    · have hk : k < 3 := List.mem_range.mp (List.mem_of_getElem? e)
      exact ⟨rfl, Same.refl _, evt_test (evd_eqI (evd_ixT (k := k) (evd_var (i := 0) rfl (hx.mono s3 _ x)) (evd_var (i := 2) rfl hz) (cx k hk c)) (evd_ixT (k := k) (evd_var (i := 1) rfl (hy.mono s3 _ y)) (evd_var (i := 2) rfl hz) (cx k hk d)) rfl), fun _ => ⟨evd_var rfl hz, rfl⟩⟩
  · obtain ⟨e1, e2⟩ := two_inj e
    rw [← eC_inj e1, ← eC_inj e2]
def sp_across : Sp := spN (fun ds => ∃ n R, ds = [eSq R] ∧ Shp n R ∧ n ≤ 24) (fun ds d => ∀ R, ds = [eSq R] → d = eSq (trp R))
theorem ok_l_across (F : Fun K "_law_across" "_law_across" s_l_across f fd) (T : Txt K mg a) : FnOk P w K mg base CX0 1 f fd ["_law_rows"] sp_across := by
  refine F.ok sc_l_across (spN_len fun ds ⟨_, _, e, _⟩ => by rw [e]; rfl) (fun cdv A outer s H vs Q E hr h => ?_)
  obtain ⟨ds, hv, ⟨n, R, rfl, h1, h2⟩, q⟩ := h
  obtain ⟨x, rfl, hx⟩ := hv.oneE
  refine ⟨_, (pss_one (ps_ret (pe_lc (own := [("_law_at", 1)]) (by rfl) sc_l_across.nd (pi_range1 (by rfl) T.n_range (pa_cons (pe_callB (call_lenK K) (by rfl) T.n_len bt_len (pa_cons (pv 0) pa_nil)) pa_nil)) (blkOk_by (N := n_l_across) (sc := defScope s_l_across) (by decide +kernel)) (fun _ _ _ _ _ => (pg_name (i := 1) sc_l_across.nd rfl (by first | exact Or.inl rfl | exact Or.inr rfl))) (fun _ _ _ _ _ => pts_nil) (fun _ _ _ _ _ => (pe_lc (own := [("_law_row", 2)]) (by rfl) sc_l_across.nd (pi_listK K (pv 0)) (blkOk_by (N := n_l_across) (by rfl)) (fun _ _ _ _ _ => (pg_name (i := 2) sc_l_across.nd rfl (by first | exact Or.inl rfl | exact Or.inr rfl))) (fun _ _ _ _ _ => pts_nil) (fun _ _ _ _ _ => (pe_ix (ix_listK K) (pv 2) (pv 1) (fun _ _ => rfl)))))))), ?_⟩
  have ln : EvD (tCB (K40.rLenS K) (tCons (tVar 0) tNil)) (start n_l_across [x]) H (.int (R.length : Int)) := by
    have z := evd_lenL (K := K) (ta := tVar 0) (σ := start n_l_across [x]) (ds := R.map eRl) (evd_var rfl hx)
    rwa [List.length_map] at z
  have hz : R.length < sizeLine := by rw [h1.len, sizeLine_eq]; omega
  have z : EvN (tLc (iRng1 (tCons (tCB (K40.rLenS K) (tCons (tVar 0) tNil)) tNil)) (gName 1) tYes (tLc (iList K (tVar 0)) (gName 2) tYes (tOp (rIxL K) (tVar 2) (tVar 1)) [2]) [1]) (start n_l_across [x]) H (eSq (trp R)) := by
    unfold eSq trp
    rw [List.map_map]
    refine evn_lc (σ := start n_l_across [x]) (vs := [1]) (g := gName 1) (l := List.range R.length) (enc := fun (i : Nat) => PyData.int (i : Int)) (src_rng0 (by rw [h1.len]; omega) ln) (fun (j : Nat) => eRl (R.map fun r => r.getD j 0)) (by rw [List.length_range]; exact hz) (fun i d x1 H' e s3 hx1 => ⟨rfl, Same.refl _, ?_⟩) gm_name
    have hd : d < n := by
      have := List.mem_range.mp (List.mem_of_getElem? e)
      rw [h1.len] at this
      exact this
    unfold eRl
    rw [List.map_map]
    refine evn_lc (vs := [2]) (g := gName 2) (l := R) (enc := eRl) (src_list (evd_var rfl (hx.mono s3 _ x))) (fun r => PyData.int (r.getD d 0)) hz (fun i2 d2 x2 H2 e2 s4 hx2 => ⟨rfl, Same.refl _, evn_int (evd_ixL (k := d) (evd_var rfl hx2) (evd_var rfl (hx1.mono s4 _ x1)) ?_)⟩) gm_name
    have hl := h1.row d2 (List.mem_of_getElem? e2)
    have : d < d2.length := by omega
    rw [List.getElem?_map, getD_at this, List.getElem?_eq_getElem this]
    rfl
  refine z H (Same.refl _) _ fun v H2 s2 hv => q v H2 _ (fun R2 e => ?_) s2 hv
  rw [eSq_inj (one_inj e)]
def sp_table (a : Adr) : Sp := spD (fun ds => ∃ n R, ds = [eSq R] ∧ Lat n R ∧ 1 ≤ n ∧ n ≤ 24) (fun ds d => ∀ R, ds = [eSq R] → d = eTab a.cT R)
theorem ok_l_table (F : Fun K "_law_table" "_law_table" s_l_table f fd) (T : Txt K mg a) (D_Table_init : HasI P w K mg base 7 a.iT (sp_Table_init a)) : FnOk P w K mg base CX0 9 f fd ["_law_rows"] (sp_table a) := by
  refine F.ok sc_l_table (spD_len fun ds ⟨_, _, e, _⟩ => by rw [e]; rfl) (fun cdv A outer s H vs Q E hr h => ?_)
  obtain ⟨ds, hv, ⟨n, R, rfl, h1, h2, h3⟩, q⟩ := h
  obtain ⟨x, rfl, hx⟩ := hv.oneE
  refine ⟨_, (pss_one (ps_ret (pe_mk T.mk_Table D_Table_init (hr.mono (by decide)) (by rfl) T.g_Table (pa_cons (pe_callTy (call_tupK K) (by rfl) T.n_tuple bt_tuple (pa_cons (pe_lc (own := [("_law_row", 1)]) (by rfl) sc_l_table.nd (pi_listK K (pv 0)) (blkOk_by (N := n_l_table) (sc := defScope s_l_table) (by decide +kernel)) (fun _ _ _ _ _ => (pg_name (i := 1) sc_l_table.nd rfl (by first | exact Or.inl rfl | exact Or.inr rfl))) (fun _ _ _ _ _ => pts_nil) (fun _ _ _ _ _ => (pe_callTy (call_tupK K) (by rfl) T.n_tuple bt_tuple (pa_cons (pv 1) pa_nil)))) pa_nil)) pa_nil)))), ?_⟩
  have hz : R.length < sizeLine := by rw [h1.len, sizeLine_eq]; omega
  have z : EvD (tCB (rTupOf K) (tCons (tLc (iList K (tVar 0)) (gName 1) tYes (tCB (rTupOf K) (tCons (tVar 1) tNil)) [1]) tNil)) (start n_l_table [x]) H (eRows R) :=
    evd_tupOf (ds := R.map eRt) (evd_lcM (l := R) (enc := eRl) (src_list (evd_var (i := 0) rfl hx)) eRt hz (fun i d z H' e s3 hz => ⟨rfl, Same.refl _, evd_tupOf (evd_var rfl hz), eRt_nl d⟩) gm_name)
  refine sd_ret (evd_mkTab h1 h2 h3 (z.imp fun r H2 hr => ⟨r, hr, .inl rfl⟩)) fun v H2 s2 hd => q v H2 _ (fun R2 e => ?_) s2 hd
  rw [eSq_inj (one_inj e)]
def sp_parted : Sp := spD (fun ds => ∃ n R S, ds = [eSq R, eSq S] ∧ Shp n R ∧ Shp n S ∧ n ≤ 24) (fun ds d => ∀ R S, ds = [eSq R, eSq S] → d = eT (diffT R S))
theorem ok_l_parted (F : Fun K "_law_parted" "_law_parted" s_l_parted f fd) (T : Txt K mg a) : FnOk P w K mg base CX0 1 f fd ["_law_one", "_law_other"] sp_parted := by
  refine F.ok sc_l_parted (spD_len fun ds ⟨_, _, _, e, _⟩ => by rw [e]; rfl) (fun cdv A outer s H vs Q E hr h => ?_)
  obtain ⟨ds, hv, ⟨n, R, S, rfl, h1, h2, h3⟩, q⟩ := h
  obtain ⟨x, y, rfl, hx, hy⟩ := hv.twoE
  refine ⟨_, (pss_cons (ps_set (i := 2) sc_l_parted.nd rfl (Or.inl rfl) (pe_lst pa_nil)) (pss_cons (ps_for PassesOwn.never rfl (pi_range1 (by rfl) T.n_range (pa_cons (pe_callB (call_lenK K) (by rfl) T.n_len bt_len (pa_cons (pv 0) pa_nil)) pa_nil)) (pg_name (i := 3) sc_l_parted.nd rfl (by first | exact Or.inl rfl | exact Or.inr rfl)) (pss_one (ps_set (i := 2) sc_l_parted.nd rfl (Or.inl rfl) (pe_op op_cat (pv 2) (pe_lc (own := [("_law_column", 5)]) (by rfl) sc_l_parted.nd (pi_range1 (by rfl) T.n_range (pa_cons (pe_callB (call_lenK K) (by rfl) T.n_len bt_len (pa_cons (pv 0) pa_nil)) pa_nil)) (blkOk_by (N := n_l_parted) (sc := defScope s_l_parted) (by decide +kernel)) (fun _ _ _ _ _ => (pg_name (i := 5) sc_l_parted.nd rfl (by first | exact Or.inl rfl | exact Or.inr rfl))) (fun _ _ _ _ _ => (pts_one (pt_cmpR op_ne (pe_ix (ix_listK K) (pe_ix (ix_listK K) (pv 0) (pv 3) (fun _ _ => rfl)) (pv 5) (fun _ _ => rfl)) (pe_ix (ix_listK K) (pe_ix (ix_listK K) (pv 1) (pv 3) (fun _ _ => rfl)) (pv 5) (fun _ _ => rfl)) (nomark _)))) (fun _ _ _ _ _ => (pe_tup (pa_cons (pv 3) (pa_cons (pv 5) pa_nil))))))))) (pss_cons (ps_set (i := 4) sc_l_parted.nd rfl (Or.inl rfl) (pe_callTy (call_tupK K) (by rfl) T.n_tuple bt_tuple (pa_cons (pe_lc (own := [("_law_row", 3), ("_law_column", 5)]) (by rfl) sc_l_parted.nd (pi_listK K (pv 2)) (blkOk_by (N := n_l_parted) (sc := defScope s_l_parted) (by decide +kernel)) (fun _ _ _ _ _ => (pg_tupK (n := 2) K rfl (pgs_cons (pg_name (i := 3) sc_l_parted.nd rfl (by first | exact Or.inl rfl | exact Or.inr rfl)) (pgs_cons (pg_name (i := 5) sc_l_parted.nd rfl (by first | exact Or.inl rfl | exact Or.inr rfl)) pgs_nil)))) (fun _ _ _ _ _ => pts_nil) (fun _ _ _ _ _ => (pe_tup (pa_cons (pv 3) (pa_cons (pv 5) (pa_cons (pe_ix (ix_listK K) (pe_ix (ix_listK K) (pv 0) (pv 3) (fun _ _ => rfl)) (pv 5) (fun _ _ => rfl)) pa_nil)))))) pa_nil))) (pss_one (ps_ret (pe_tup (pa_cons (pv 4) (pa_cons (pe_callTy (call_tupK K) (by rfl) T.n_tuple bt_tuple (pa_cons (pe_lc (own := [("_law_row", 3), ("_law_column", 5)]) (by rfl) sc_l_parted.nd (pi_listK K (pv 2)) (blkOk_by (N := n_l_parted) (sc := defScope s_l_parted) (by decide +kernel)) (fun _ _ _ _ _ => (pg_tupK (n := 2) K rfl (pgs_cons (pg_name (i := 3) sc_l_parted.nd rfl (by first | exact Or.inl rfl | exact Or.inr rfl)) (pgs_cons (pg_name (i := 5) sc_l_parted.nd rfl (by first | exact Or.inl rfl | exact Or.inr rfl)) pgs_nil)))) (fun _ _ _ _ _ => pts_nil) (fun _ _ _ _ _ => (pe_tup (pa_cons (pv 3) (pa_cons (pv 5) (pa_cons (pe_ix (ix_listK K) (pe_ix (ix_listK K) (pv 1) (pv 3) (fun _ _ => rfl)) (pv 5) (fun _ _ => rfl)) pa_nil)))))) pa_nil)) pa_nil)))))))), ?_⟩
  have ln : ∀ (σ : L2.St) H', σ[0]? = some (some x) → Same H H' → EvD (tCB (K40.rLenS K) (tCons (tVar 0) tNil)) σ H' (.int (n : Int)) := fun σ H' e s => by
    have z := evd_lenL (K := K) (ta := tVar 0) (σ := σ) (H := H') (ds := R.map eRl) (evd_var e (hx.mono s _ x))
    rwa [List.length_map, h1.len] at z
  have nn : ∀ i, i ≤ n → i * n ≤ 576 := fun i hi => Nat.le_trans (Nat.mul_le_mul (by omega : i ≤ 24) h3) (by omega)
  refine sd_asg (evd_lst (ds := ([] : List (Nat × Nat)).map ePos) eva_nil (by rw [sizeLine_eq]; show 0 ≤ _; omega)) fun l0 HA sA dA => ?_
  dsimp only
  refine sd_forT (ds := (List.range n).map fun (i : Nat) => PyData.int (i : Int)) (srcT_rng (eva_cons (ln _ _ rfl sA) eva_nil) (by omega))
    (fun i σ' Hc => ∃ l u3, σ' = [some x, some y, some l, u3, none, none] ∧ Same H Hc ∧ Dx Hc l (.list ((spots R S n i).map ePos))) (fun H1 s1 => ⟨_, none, rfl, sA.trans s1, dA.mono s1 _ _⟩) (fun i d z σ' H' Hc N ed ⟨l, u3, es, sH, hl⟩ s3 hz hN => ?_) fun σ' H' ⟨l, u3, es, sH, hl⟩ => ?_
  · subst es
    rw [List.getElem?_map] at ed
    obtain ⟨i', hi', e⟩ := Option.map_eq_some_iff.mp ed
    obtain ⟨hi, rfl⟩ : i < n ∧ i' = i := by
      obtain ⟨h5, h6⟩ := List.getElem?_eq_some_iff.mp hi'
      rw [List.length_range] at h5
      exact ⟨h5, by rw [← h6]; simp⟩
    subst e
    have s4 := sH.trans s3
    have row : EvD (tLc (iRng1 (tCons (tCB (K40.rLenS K) (tCons (tVar 0) tNil)) tNil)) (gName 5) (tTest (tOp rNe (tOp (rIxL K) (tOp (rIxL K) (tVar 0) (tVar 3)) (tVar 5)) (tOp (rIxL K) (tOp (rIxL K) (tVar 1) (tVar 3)) (tVar 5)))) (tTup (tCons (tVar 3) (tCons (tVar 5) tNil))) [5]) [some x, some y, some l, some z, none, none] H'
        (.list (((List.range n).filter fun j => !decide (gn R i' j = gn S i' j)).map fun j => ePos (i', j))) := by
      refine evd_lcIf (l := List.range n) (enc := fun (i : Nat) => PyData.int (i : Int)) (src_rng0 (by omega) (ln _ _ rfl s4)) (fun j => !decide (gn R i' j = gn S i' j)) (fun j => ePos (i', j)) (by rw [List.length_range, sizeLine_eq]; omega) (fun k j z2 H2 e s5 hz2 => ?_) gm_name
      have hj : j < n := List.mem_range.mp (List.mem_of_getElem? e)
      have hz5 := hz.mono s5 _ z
      exact ⟨rfl, Same.refl _, evt_test (evd_neI (evd_sq h1 (evd_var (i := 0) rfl (hx.mono (s4.trans s5) _ x)) hi hj (evd_var (i := 3) rfl hz5) (evd_var (i := 5) rfl hz2)) (evd_sq h2 (evd_var (i := 1) rfl (hy.mono (s4.trans s5) _ y)) hi hj (evd_var (i := 3) rfl hz5) (evd_var (i := 5) rfl hz2)) rfl),
        fun _ => ⟨evd_tup (eva_cons (evd_var (i := 3) rfl hz5) (eva_cons (evd_var (i := 5) rfl hz2) eva_nil)) (by rw [sizeLine_eq]; show 2 ≤ _; omega), ePos_noL _⟩⟩
    have cat := evd_cat (evd_var (i := 2) rfl (hl.mono s3 _ l)) row (by
      have e1 := List.length_filter_le (fun p => !decide (gn R p.1 p.2 = gn S p.1 p.2)) (posU n i')
      have e2 := List.length_filter_le (fun j => !decide (gn R i' j = gn S i' j)) (List.range n)
      rw [posU_len] at e1
      rw [List.length_range] at e2
      have := nn i' (by omega)
      rw [List.length_map, List.length_map]
      unfold spots
      omega)
    refine sd_asg cat fun v H5 s5 hv => ?_
    refine hN _ _ ⟨v, some z, rfl, s4.trans s5, ?_⟩ (Same.t s5)
    have e6 : spots R S n (i' + 1) = spots R S n i' ++ ((List.range n).filter fun j => !decide (gn R i' j = gn S i' j)).map fun j => (i', j) := by
      unfold spots
      rw [posU, List.filter_append, List.filter_map]
      rfl
    rw [e6, List.map_append, List.map_map]
    exact hv
  · subst es
    rw [List.length_map, List.length_range] at hl
    dsimp only
    have hsl : (spots R S n n).length ≤ 576 := by
      have e1 := List.length_filter_le (fun p => !decide (gn R p.1 p.2 = gn S p.1 p.2)) (posU n n)
      rw [posU_len] at e1
      have := nn n (by omega)
      unfold spots
      omega
    have side : ∀ (X : List (List Int)) (i : Nat) (u : V) (σ : L2.St) (H0 : Hp) (l : V), Shp n X → i < 2 → σ[i]? = some (some u) → Dx H0 u (eSq X) → (∃ x y u3 u4, σ = [some x, some y, some l, u3, u4, none]) → Dx H0 l (.list ((spots R S n n).map ePos)) →
        EvD (tCB (rTupOf K) (tCons (tLc (iList K (tVar 2)) (gTup K 2 (gCons (gName 3) (gCons (gName 5) gNil))) tYes (tTup (tCons (tVar 3) (tCons (tVar 5) (tCons (tOp (rIxL K) (tOp (rIxL K) (tVar i) (tVar 3)) (tVar 5)) tNil)))) [3, 5]) tNil)) σ H0 (eS ((spots R S n n).map (cellAt X))) := fun X i u σ H0 l hX hi2 eu hu ⟨x, y, u3, u4, eσ⟩ hl => by
      refine evd_tupOf (ds := ((spots R S n n).map (cellAt X)).map eC) ?_
      rw [List.map_map]
      subst eσ
      refine evd_lcM (l := spots R S n n) (enc := ePos) (src_list (evd_var (i := 2) rfl hl)) (fun p => eC (cellAt X p)) (by rw [sizeLine_eq]; omega) (fun k p z H' e s5 hz => ?_) (gm_tup1 (gm_cons gm_name (gm_cons gm_name gm_nil)))
      refine gt2 hz fun y z g1 g2 => ⟨rfl, Same.refl _, ?_, eC_noL _⟩
      have mp : p ∈ posU n n := (List.mem_filter.mp (List.mem_of_getElem? e)).1
      have hp : p.1 < n ∧ p.2 < n := by
        have : ∀ m, m ≤ n → ∀ p ∈ posU n m, p.1 < n ∧ p.2 < n := fun m => by
          induction m with
          | zero => intro _ p m; exact absurd m List.not_mem_nil
          | succ m ih =>
            intro hm p mp
            rw [posU] at mp
            rcases List.mem_append.mp mp with mp | mp
            · exact ih (by omega) p mp
            · obtain ⟨j, hj, rfl⟩ := List.mem_map.mp mp
              exact ⟨by show m < n; omega, List.mem_range.mp hj⟩
        exact this n (Nat.le_refl _) p mp
      refine evd_tup (eva_cons (evd_var (i := 3) rfl g1) (eva_cons (evd_var (i := 5) rfl g2) (eva_cons (evd_sq hX (evd_var (i := i) ?_ (hu.mono s5 _ u)) hp.1 hp.2 (evd_var (i := 3) rfl g1) (evd_var (i := 5) rfl g2)) eva_nil))) (by rw [sizeLine_eq]; show 3 ≤ _; omega)
      match i, hi2, eu with
      | 0, _, eu => exact eu
      | 1, _, eu => exact eu
    have t1 := side R 0 x [some x, some y, some l, u3, none, none] H' l h1 (by omega) rfl (hx.mono sH _ x) ⟨_, _, _, _, rfl⟩ hl
    refine sd_asg t1 fun v4 H4 s4 hv4 => ?_
    dsimp only
    have t2 := side S 1 y [some x, some y, some l, u3, some v4, none] H4 l h2 (by omega) rfl (hy.mono (sH.trans s4) _ y) ⟨_, _, _, _, rfl⟩ (hl.mono s4 _ l)
    refine sd_ret (P := fun v H => Dx H v (eT (diffT R S))) ?_ fun v H5 s5 hd => q v H5 _ (fun R2 S2 e => ?_) ((sH.trans s4).trans s5) hd
    · have e1 : diffT R S = ((spots R S n n).map (cellAt R), (spots R S n n).map (cellAt S)) := by
        unfold diffT
        rw [apart_spots, apart_spots, h1.len, h2.len, spots_comm S R]
      rw [e1]
      exact evd_tup (eva_cons (evd_var (i := 4) rfl hv4) (eva_cons t2 eva_nil)) (by rw [sizeLine_eq]; show 2 ≤ _; omega)
    · obtain ⟨e1, e2⟩ := two_inj e
      rw [← eSq_inj e1, ← eSq_inj e2]
end
end K40
end

section
set_option Elab.async false
set_option linter.all false
set_option maxRecDepth 100000
set_option maxHeartbeats 4000000
namespace K40
open PySem PySem.Spec PyProof.Rows L2
section
variable {K : PySem.W.Frag} {σ : L2.St} {H : Hp} {ds : List PyData}
/-- a for that leaves all that stood -/
theorem sd_forS {wi : TI} {g : TG} {tb : TS} {D : Ends} (hw : Src wi σ H ds) (Pv : Nat → L2.St → Hp → Prop) (h0 : ∀ H1, Same H H1 → Pv 0 σ H1)
    (hs : ∀ (i : Nat) d x σ' H' Hc (N : L2.St → Hp → Prop), ds[i]? = some d → Pv i σ' Hc → Same H Hc → Same Hc H' → Dx H' x d → (∀ σ3 H3, Pv (i + 1) σ3 H3 → Same H' H3 → N σ3 H3) → g x σ' H' fun σ2 H2 => tb { D with nx := N, ct := N, bk := D.nx } σ2 H2)
    (hd : ∀ σ' H', Pv ds.length σ' H' → Same H H' → D.nx σ' H') : tFor wi g tb D σ H := hw H (Same.refl H) _ fun J H2 G Y s2 w hG hY => by
  refine for_it w (fun i σ' Hc => Same H2 Hc ∧ Pv i σ' Hc) ⟨Same.refl _, h0 H2 s2⟩ (fun i σ' Hc _ z => hG Hc z.1) (fun i x σ' Hc Hx hi z y => ?_) fun σ' Hc z => hd _ _ z.2 (s2.trans z.1)
  obtain ⟨s3, d, ed, hx⟩ := hY i Hc x Hx z.1 hi y
  exact hs i d x σ' Hx Hc _ ed z.2 (s2.trans z.1) s3 hx fun σ4 H4 p t => ⟨(z.1.trans s3).trans t, p⟩
end
theorem gnm {i : Nat} {x : V} {σ : L2.St} {H : Hp} {Q : L2.St → Hp → Prop} (h : Q (σ.set i (some x)) H) : gName i x σ H Q := h
theorem evp_nil {σ : L2.St} {H : Hp} : EvP (tLst tNil) σ H fun v H2 => ∃ l, v = .ref l ∧ H l = none ∧ H2 l = some (.lst []) := fun H1 s Q q => ⟨by rw [sizeLine_eq]; show 0 ≤ _; omega, fun p hp => q _ _ (same_new hp) ⟨p, rfl, same_none s hp, upd_same⟩⟩
theorem alike_cells (l : List Cell) : PySem.W.AllAlike (l.map eC) := by
  intro d md e me
  obtain ⟨_, _, rfl⟩ := List.mem_map.mp md
  obtain ⟨_, _, rfl⟩ := List.mem_map.mp me
  exact eC_alike _ _
theorem sortable_cells (l : List Cell) : PySem.W.Sortable (l.map eC) := by
  refine .inl fun d md => ?_
  obtain ⟨_, _, rfl⟩ := List.mem_map.mp md
  exact ⟨_, _, rfl⟩
/-- tuple(sorted(cells)) -/
theorem evd_tupSorted {K : PySem.W.Frag} {σ : L2.St} {H : Hp} {te : TE} {l m : List Cell} (h : EvD te σ H (.list (l.map eC))) (e : (l.map eC).mergeSort dLe = m.map eC) : EvD (tCB (rTupOf K) (tCons (tCB (rSortD K) (tCons te tNil)) tNil)) σ H (eS m) := by
  refine evd_tupOf (ds := m.map eC) ?_
  rw [← e]
  refine evd_sorted (ds := l.map eC) h (.inl rfl) (pureA_map eC_pure l) (alike_cells l) (sortable_cells l) fun d md => ?_
  obtain ⟨c, _, rfl⟩ := List.mem_map.mp md
  have := eC_depth c
  omega
section
variable {P : Program} {w : World} {K : PySem.W.Frag} {mg : Str → Option Value} {base : Heap} {a : Adr} {f : Addr} {fd : FuncData}
def sp_joined : Sp := spD (fun ds => ∃ qs : List Trade, ds = [.list (qs.map eT)] ∧ ∀ b, (qs.flatMap fun q => sd q b).Nodup ∧ (qs.flatMap fun q => sd q b).length ≤ 10000) (fun ds d => ∀ qs : List Trade, ds = [.list (qs.map eT)] → ∃ J, d = eT J ∧ IsJoin J qs)
theorem ok_l_joined (F : Fun K "_law_joined" "_law_joined" s_l_joined f fd) (T : Txt K mg a) : FnOk P w K mg base CX0 1 f fd ["_law_trades"] sp_joined := by
  refine F.ok sc_l_joined (spD_len fun ds ⟨_, e, _⟩ => by rw [e]; rfl) (fun cdv A outer s H vs Q E hr h => ?_)
  obtain ⟨ds, hv, ⟨qs, rfl, hq⟩, q⟩ := h
  obtain ⟨x, rfl, hx⟩ := hv.oneE
  refine ⟨_, (pss_cons (ps_set (i := 1) sc_l_joined.nd rfl (Or.inl rfl) (pe_lst pa_nil)) (pss_cons (ps_for PassesOwn.never rfl (pi_range1 (by rfl) T.n_range (pa_cons pe_int pa_nil)) (pg_name (i := 2) sc_l_joined.nd rfl (by first | exact Or.inl rfl | exact Or.inr rfl)) (pss_cons (ps_set (i := 3) sc_l_joined.nd rfl (Or.inl rfl) (pe_lst pa_nil)) (pss_cons (ps_for PassesOwn.never rfl (pi_listK K (pv 0)) (pg_name (i := 4) sc_l_joined.nd rfl (by first | exact Or.inl rfl | exact Or.inr rfl)) (pss_one (ps_set (i := 3) sc_l_joined.nd rfl (Or.inl rfl) (pe_op op_cat (pv 3) (pe_callTy (call_lstK K) (by rfl) T.n_list bt_list (pa_cons (pe_ix (ix_tupK K) (pv 4) (pv 2) (fun _ _ => rfl)) pa_nil)))))) (pss_one (ps_expr (pe_bmK K PySem.F.plainAttrs_list PySem.F.slot_list_append PySem.F.type_list_append mt_append (pv 1) (pa_cons (pe_callTy (call_tupK K) (by rfl) T.n_tuple bt_tuple (pa_cons (pe_callB (cr_sortedK K hr.units) (by rfl) T.n_sorted bt_sorted (pa_cons (pv 3) pa_nil)) pa_nil)) pa_nil))))))) (pss_one (ps_ret (pe_tup (pa_cons (pe_ix (ix_listK K) (pv 1) pe_int (fun _ _ => rfl)) (pa_cons (pe_ix (ix_listK K) (pv 1) pe_int (fun _ _ => rfl)) pa_nil))))))), ?_⟩
  obtain ⟨m1, e1, a1, x1⟩ := sort_cells _ (hq true).1
  obtain ⟨m0, e0, a0, x0⟩ := sort_cells _ (hq false).1
  let js : Nat → List Cell := fun k => match k with
    | 0 => m1
    | _ => m0
  have le0 : 0 ≤ sizeLine := Nat.zero_le _
  refine sd_asg evp_nil fun v0 HA sA ⟨sl, e0', nsl, dA⟩ => ?_
  subst e0'
  dsimp only
  refine sd_forT (ds := (List.range 2).map fun (i : Nat) => PyData.int (i : Int)) (srcT_rng (n := 2) (eva_cons evd_int eva_nil) (by omega))
    (fun i σ' Hc => ∃ u2 u3 u4 xs, σ' = [some x, some (.ref sl), u2, u3, u4] ∧ Same H Hc ∧ Hc sl = some (.lst xs) ∧ DxA Hc xs ((List.range i).map fun k => eS (js k))) (fun H1 s1 => ⟨none, none, none, [], rfl, sA.trans s1, s1 _ _ dA, .nil⟩) (fun i d z σ' H' Hc N ed ⟨u2, u3, u4, xs, es, sH, hl, hxs⟩ s3 hz hN => ?_) fun σ' H' ⟨u2, u3, u4, xs, es, sH, hl, hxs⟩ => ?_
  · subst es
    rw [List.getElem?_map] at ed
    obtain ⟨i', hi', e⟩ := Option.map_eq_some_iff.mp ed
    obtain ⟨hi, rfl⟩ : i < 2 ∧ i' = i := by
      obtain ⟨h5, h6⟩ := List.getElem?_eq_some_iff.mp hi'
      rw [List.length_range] at h5
      exact ⟨h5, by rw [← h6]; simp⟩
    subst e
    have key : ∃ b, ((qs.flatMap fun q => sd q b).map eC).mergeSort dLe = (js i').map eC ∧ ∀ t : Trade, [eS t.1, eS t.2][i']? = some (eS (sd t b)) := by
      match i', hi with
      | 0, _ => exact ⟨true, e1, fun _ => rfl⟩
      | 1, _ => exact ⟨false, e0, fun _ => rfl⟩
    obtain ⟨b, ej, eix⟩ := key
    refine gnm ?_
    refine sd_asg (evd_lst (ds := ([] : List Cell).map eC) eva_nil le0) fun v3 H3 s4 hv3 => ?_
    dsimp only
    have hz3 := hz.mono s4 _ z
    have sH3 := (sH.trans s3).trans s4
    refine sd_forS (ds := qs.map eT) (src_list (evd_var (i := 0) rfl (hx.mono sH3 _ x))) (fun j σ2 H2 => ∃ v u, σ2 = [some x, some (.ref sl), some z, some v, u] ∧ Dx H2 v (.list (((qs.take j).flatMap fun q => sd q b).map eC))) (fun H1 s1 => ⟨v3, u4, rfl, hv3.mono s1 _ v3⟩) (fun j d y σ2 H5 Hc2 N2 ed2 ⟨v, u, es2, hv⟩ sB s5 hy hN2 => ?_) fun σ2 H4 ⟨v, u, es2, hv⟩ sB => ?_
    · subst es2
      rw [List.getElem?_map] at ed2
      obtain ⟨t, et, rfl⟩ := Option.map_eq_some_iff.mp ed2
      refine gnm ?_
      have tk : qs.take (j + 1) = qs.take j ++ [t] := by
        rw [List.take_add_one, et]
        rfl
      have fm : ((qs.take (j + 1)).flatMap fun q => sd q b) = ((qs.take j).flatMap fun q => sd q b) ++ sd t b := by
        rw [tk, List.flatMap_append]
        simp
      have lim : ((qs.take j).flatMap fun q => sd q b).length + (sd t b).length ≤ 10000 := by
        have e2 : qs = qs.take (j + 1) ++ qs.drop (j + 1) := (List.take_append_drop _ _).symm
        have e3 := (hq b).2
        rw [e2, List.flatMap_append, fm, List.length_append, List.length_append] at e3
        omega
      refine sd_asg (evd_cat (evd_var (i := 3) rfl (hv.mono s5 _ v)) (evd_lstOfT (evd_ixT (d := .tuple ((sd t b).map eC)) (k := i') (evd_var (i := 4) rfl hy) (evd_var (i := 2) rfl (hz3.mono (sB.trans s5) _ z)) (eix t))) (by rw [List.length_map, List.length_map]; omega)) fun v6 H6 s6 hv6 => ?_
      refine hN2 _ _ ⟨v6, some y, rfl, ?_⟩ s6
      rw [fm, List.map_append]
      exact hv6
    · subst es2
      rw [List.length_map, List.take_length] at hv
      dsimp only
      have hl4 := sB _ _ (s4 _ _ (s3 _ _ hl))
      refine ⟨_, rfl, .inl ⟨rfl, _, .of hl4⟩, ?_⟩
      refine (eva_cons (evd_tupSorted (K := K) (evd_var (σ := [some x, some (.ref sl), some z, some v, u]) (i := 3) rfl hv) ej) eva_nil).at fun vs H7 s7 hv7 => ?_
      obtain ⟨y7, rfl, hy7⟩ := hv7.oneE
      have s47 : Same Hc H7 := ((s3.trans s4).trans sB).trans s7
      refine ⟨sl, xs, y7, rfl, rfl, s7 _ _ hl4, by rw [hxs.length, List.length_map, List.length_range, sizeLine_eq]; omega, ?_⟩
      have tm : TSame H7 (upd H7 sl (.lst (xs ++ [y7]))) := tsame_mut (s7 _ _ hl4) fun _ z => nomatch z
      refine hN _ _ ⟨_, _, _, xs ++ [y7], rfl, same_mut (sH.trans s47) nsl, upd_same, ?_⟩ (TSame.trans (Same.t ((s4.trans sB).trans s7)) tm)
      rw [List.range_succ, List.map_append]
      exact .snoc ((hxs.mono s47 _ xs).tmono tm _ xs (noLA_map (fun _ => eS_noL _) _)) (hy7.tmono tm _ y7 (eS_noL _))
  · subst es
    dsimp only
    have dl : Dx H' (.ref sl) (.list [eS m1, eS m0]) := .lst hl hxs
    refine sd_ret (P := fun v H => Dx H v (eT (m1, m0))) (evd_tup (eva_cons (evd_ixL (k := 0) (evd_var (i := 1) rfl dl) evd_int rfl) (eva_cons (evd_ixL (k := 1) (evd_var (i := 1) rfl dl) evd_int rfl) eva_nil)) (by rw [sizeLine_eq]; show 2 ≤ _; omega)) fun v H5 s5 hd => q v H5 _ (fun qs2 e => ?_) (sH.trans s5) hd
    have eq : qs2 = qs := by
      have := one_inj e
      simp only [PyData.list.injEq] at this
      exact (map_inj (fun _ _ => eT_inj) this).symm
    subst eq
    refine ⟨(m1, m0), rfl, fun b => by cases b; exact a0; exact a1, fun v => ?_⟩
    obtain ⟨b, c⟩ := v
    cases b with
    | true => exact (x1 c).trans List.mem_flatMap
    | false => exact (x0 c).trans List.mem_flatMap
end
end K40
end

section
set_option autoImplicit false
set_option linter.all false
namespace K40
/-! ### the round of a column in two rows -/
structure Cyc (n : Nat) (f : Nat → Nat) (c : Nat) (l : List Nat) (z : Nat) : Prop where
  nd : (l ++ [z]).Nodup
  lt : ∀ x ∈ l ++ [z], x < n
  hc : c ∈ l ++ [z]
  fw : ∀ x ∈ l, f x ∈ l ++ [z]
  bw : ∀ y ∈ l ++ [z], y ≠ c → ∃ x ∈ l, f x = y
section
variable {n : Nat} {f : Nat → Nat} {c z : Nat} {l : List Nat}
theorem cyc_start (h : c < n) : Cyc n f c [] c where
  nd := by simp
  lt := fun x m => by
    have e : x = c := by simpa using m
    rw [e]
    exact h
  hc := by simp
  fw := fun _ m => absurd m List.not_mem_nil
  bw := fun y m ne => absurd (by simpa using m) ne
theorem cyc_step (hr : ∀ i, i < n → f i < n) (hi : ∀ i j, i < n → j < n → f i = f j → i = j) (h : Cyc n f c l z) (ne : f z ≠ c) : Cyc n f c (l ++ [z]) (f z) where
  nd := by
    refine List.nodup_append.mpr ⟨h.nd, by simp, fun a ma b mb e => ?_⟩
    have eb : b = f z := by simpa using mb
    rw [eb] at e
    subst e
    obtain ⟨x, mx, ex⟩ := h.bw _ ma ne
    have e2 := hi x z (h.lt x (List.mem_append_left _ mx)) (h.lt z (List.mem_append_right _ (List.mem_singleton_self z))) ex
    subst e2
    exact (List.nodup_append.mp h.nd).2.2 x mx x (List.mem_singleton_self x) rfl
  lt := fun x m => by
    rcases List.mem_append.mp m with m | m
    · exact h.lt x m
    · rw [List.mem_singleton.mp m]
      exact hr z (h.lt z (List.mem_append_right _ (List.mem_singleton_self z)))
  hc := List.mem_append_left _ h.hc
  fw := fun x m => by
    rcases List.mem_append.mp m with m | m
    · exact List.mem_append_left _ (h.fw x m)
    · rw [List.mem_singleton.mp m]
      exact List.mem_append_right _ (List.mem_singleton_self _)
  bw := fun y m ny => by
    rcases List.mem_append.mp m with m | m
    · obtain ⟨x, mx, ex⟩ := h.bw y m ny
      exact ⟨x, List.mem_append_left _ mx, ex⟩
    · exact ⟨z, List.mem_append_right _ (List.mem_singleton_self z), (List.mem_singleton.mp m).symm⟩
theorem cyc_len (h : Cyc n f c l z) : l.length + 1 ≤ n := by
  have := len_le_of_inj id (m := List.range n) h.nd (fun a m => List.mem_range.mpr (h.lt a m)) fun _ _ _ _ e => e
  simpa using this
theorem cyc_closed (hi : ∀ i j, i < n → j < n → f i = f j → i = j) (h : Cyc n f c l z) (e : f z = c) {j : Nat} (hj : j < n) : f j ∈ l ++ [z] ↔ j ∈ l ++ [z] := by
  have mz : z ∈ l ++ [z] := List.mem_append_right _ (List.mem_singleton_self z)
  constructor
  · intro m
    by_cases q : f j = c
    · have := hi j z hj (h.lt z mz) (q.trans e.symm)
      rw [this]
      exact mz
    · obtain ⟨x, mx, ex⟩ := h.bw _ m q
      have := hi x j (h.lt x (List.mem_append_left _ mx)) hj ex
      rw [← this]
      exact List.mem_append_left _ mx
  · intro m
    rcases List.mem_append.mp m with m | m
    · exact h.fw j m
    · rw [List.mem_singleton.mp m, e]
      exact h.hc
end
/-- the column of the first row at which the entry of the other row at a column stands -/
def nxt (R : List (List Int)) (a b j : Nat) : Nat := (R.getD a []).idxOf (gn R b j)
/-- two rows exchanged at some columns -/
def exC (R : List (List Int)) (a b : Nat) (M : List (List Int)) (j : Nat) : List (List Int) :=
  setC (setC M ((a : Int), ((j : Int), gn R b j))) ((b : Int), ((j : Int), gn R a j))
def exR (R : List (List Int)) (a b : Nat) (S : List Nat) : List (List Int) := S.foldl (exC R a b) R
section
variable {n a b c : Nat} {R M : List (List Int)} {S : List Nat}
theorem nxt_at (h : Lat n R) (ha : a < n) (hb : b < n) {j : Nat} (hj : j < n) : nxt R a b j < n ∧ gn R a (nxt R a b j) = gn R b j := by
  obtain ⟨k, hk, ek⟩ := h.row_surj ha (h.rng b j hb hj)
  obtain ⟨r, e1, m, e2, e3⟩ := h.shp.at_row ha
  have hx : gn R b j ∈ r := by
    rw [← ek]
    unfold gn
    rw [e2, getD_at (by omega)]
    exact List.getElem_mem _
  have hl : r.idxOf (gn R b j) < r.length := List.idxOf_lt_length_iff.mpr hx
  unfold nxt
  rw [e2]
  refine ⟨by omega, ?_⟩
  show (R.getD a []).getD _ 0 = _
  rw [e2, getD_at hl]
  exact List.getElem_idxOf hl
theorem nxt_uniq (h : Lat n R) (ha : a < n) (hb : b < n) {j k : Nat} (hj : j < n) (hk : k < n) (e : gn R a k = gn R b j) : nxt R a b j = k := by
  obtain ⟨h1, h2⟩ := nxt_at h ha hb hj
  exact h.rinj a _ _ ha h1 hk (h2.trans e.symm)
theorem nxt_inj (h : Lat n R) (ha : a < n) (hb : b < n) (i j : Nat) (hi : i < n) (hj : j < n) (e : nxt R a b i = nxt R a b j) : i = j := by
  have h1 := (nxt_at h ha hb hi).2
  have h2 := (nxt_at h ha hb hj).2
  rw [e] at h1
  exact h.rinj b i j hb hi hj (h1.symm.trans h2)
theorem exC_shp (h : Shp n M) (ha : a < n) (hb : b < n) {j : Nat} : Shp n (exC R a b M j) := by
  unfold exC
  exact setC_shp (setC_shp h (by show ((a : Int)).toNat < n; omega)) (by show ((b : Int)).toNat < n; omega)
theorem exC_at (h : Shp n M) (ha : a < n) (hb : b < n) {k i j : Nat} (hk : k < n) (hi : i < n) (hj : j < n) : gn (exC R a b M k) i j = if i = b ∧ j = k then gn R a k else if i = a ∧ j = k then gn R b k else gn M i j := by
  unfold exC
  rw [gn_setC (setC_shp h (by show ((a : Int)).toNat < n; omega)) (by show ((b : Int)).toNat < n; omega) (by show ((k : Int)).toNat < n; omega) hi hj, gn_setC h (by show ((a : Int)).toNat < n; omega) (by show ((k : Int)).toNat < n; omega) hi hj]
  simp only [Int.toNat_natCast]
theorem exF_shp (ha : a < n) (hb : b < n) : ∀ {S : List Nat} {M : List (List Int)}, Shp n M → Shp n (S.foldl (exC R a b) M)
  | [], _, h => h
  | _ :: S, _, h => exF_shp ha hb (S := S) (exC_shp h ha hb)
theorem exF_at (ha : a < n) (hb : b < n) (ne : a ≠ b) {i j : Nat} (hi : i < n) (hj : j < n) : ∀ {S : List Nat} {M : List (List Int)}, Shp n M → (∀ k ∈ S, k < n) →
    gn (S.foldl (exC R a b) M) i j = if j ∈ S ∧ i = a then gn R b j else if j ∈ S ∧ i = b then gn R a j else gn M i j
  | [], M, h, _ => by simp
  | k :: S, M, h, hS => by
    rw [List.foldl_cons, exF_at ha hb ne hi hj (S := S) (exC_shp h ha hb) (fun q m => hS q (List.mem_cons_of_mem _ m)), exC_at h ha hb (hS k List.mem_cons_self) hi hj]
    by_cases e : j = k
    · subst e
      by_cases e1 : i = a
      · subst e1
        simp [ne]
      · by_cases e2 : i = b
        · subst e2
          simp [e1]
        · simp [e1, e2]
    · simp [e]
theorem exR_shp (h : Lat n R) (ha : a < n) (hb : b < n) : Shp n (exR R a b S) := exF_shp ha hb h.shp
theorem exR_at (h : Lat n R) (ha : a < n) (hb : b < n) (ne : a ≠ b) (hS : ∀ k ∈ S, k < n) {i j : Nat} (hi : i < n) (hj : j < n) : gn (exR R a b S) i j = if j ∈ S ∧ i = a then gn R b j else if j ∈ S ∧ i = b then gn R a j else gn R i j :=
  exF_at ha hb ne hi hj h.shp hS
theorem exR_lat (h : Lat n R) (ha : a < n) (hb : b < n) (ne : a ≠ b) (hS : ∀ k ∈ S, k < n) (cl : ∀ j, j < n → (nxt R a b j ∈ S ↔ j ∈ S)) : Lat n (exR R a b S) where
  len := (exR_shp h ha hb).len
  row := (exR_shp h ha hb).row
  rng := fun i j hi hj => by
    rw [exR_at h ha hb ne hS hi hj]
    split
    · exact h.rng b j hb hj
    · split
      · exact h.rng a j ha hj
      · exact h.rng i j hi hj
  rinj := fun i j j' hi hj hj' e => by
    rw [exR_at h ha hb ne hS hi hj, exR_at h ha hb ne hS hi hj'] at e
    have key : ∀ x y, x < n → y < n → x ∈ S → y ∉ S → gn R b x ≠ gn R a y := fun x y hx hy mx my q => by
      have := nxt_uniq h ha hb hx hy q.symm
      exact my (by rw [← this]; exact (cl x hx).mpr mx)
    have key2 : ∀ x y, x < n → y < n → x ∈ S → y ∉ S → gn R a x ≠ gn R b y := fun x y hx hy mx my q => by
      have := nxt_uniq h ha hb hy hx q
      exact my ((cl y hy).mp (by rw [this]; exact mx))
    by_cases e1 : i = a
    · subst e1
      by_cases m : j ∈ S <;> by_cases m' : j' ∈ S <;> simp [m, m', ne] at e
      · exact h.rinj b j j' hb hj hj' e
      · exact absurd e (key j j' hj hj' m m')
      · exact absurd e.symm (key j' j hj' hj m' m)
      · exact h.rinj _ j j' hi hj hj' e
    · by_cases e2 : i = b
      · subst e2
        by_cases m : j ∈ S <;> by_cases m' : j' ∈ S <;> simp [m, m', e1] at e
        · exact h.rinj a j j' ha hj hj' e
        · exact absurd e (key2 j j' hj hj' m m')
        · exact absurd e.symm (key2 j' j hj' hj m' m)
        · exact h.rinj _ j j' hi hj hj' e
      · simp [e1, e2] at e
        exact h.rinj i j j' hi hj hj' e
  cinj := fun i i' j hi hi' hj e => by
    rw [exR_at h ha hb ne hS hi hj, exR_at h ha hb ne hS hi' hj] at e
    by_cases m : j ∈ S
    · simp only [m, true_and] at e
      have sw : ∀ x y, x < n → y < n → (if x = a then b else if x = b then a else x) = (if y = a then b else if y = b then a else y) → x = y := fun x y _ _ q => by
        by_cases x1 : x = a
        · by_cases y1 : y = a
          · rw [x1, y1]
          · by_cases y2 : y = b
            · rw [if_pos x1, if_neg y1, if_pos y2] at q
              exact absurd q.symm ne
            · rw [if_pos x1, if_neg y1, if_neg y2] at q
              exact absurd q.symm y2
        · by_cases x2 : x = b
          · by_cases y1 : y = a
            · rw [if_neg x1, if_pos x2, if_pos y1] at q
              exact absurd q ne
            · by_cases y2 : y = b
              · rw [x2, y2]
              · rw [if_neg x1, if_pos x2, if_neg y1, if_neg y2] at q
                exact absurd q.symm y1
          · by_cases y1 : y = a
            · rw [if_neg x1, if_neg x2, if_pos y1] at q
              exact absurd q x2
            · by_cases y2 : y = b
              · rw [if_neg x1, if_neg x2, if_neg y1, if_pos y2] at q
                exact absurd q x1
              · rw [if_neg x1, if_neg x2, if_neg y1, if_neg y2] at q
                exact q
      have ex : ∀ x, (if x = a then gn R b j else if x = b then gn R a j else gn R x j) = gn R (if x = a then b else if x = b then a else x) j := fun x => by
        by_cases x1 : x = a
        · rw [if_pos x1, if_pos x1]
        · by_cases x2 : x = b
          · rw [if_neg x1, if_neg x1, if_pos x2, if_pos x2]
          · rw [if_neg x1, if_neg x1, if_neg x2, if_neg x2]
      have bd : ∀ x, x < n → (if x = a then b else if x = b then a else x) < n := fun x hx => by
        split
        · exact hb
        · split
          · exact ha
          · exact hx
      rw [ex, ex] at e
      exact sw i i' hi hi' (h.cinj _ _ j (bd i hi) (bd i' hi') hj e)
    · simp only [m, false_and, if_false] at e
      exact h.cinj i i' j hi hi' hj e
theorem exR_ne (h : Lat n R) (ha : a < n) (hb : b < n) (ne : a ≠ b) (hS : ∀ k ∈ S, k < n) (hc : c < n) (mc : c ∈ S) : exR R a b S ≠ R := fun e => by
  have h1 := exR_at h ha hb ne hS ha hc
  rw [if_pos ⟨mc, rfl⟩, e] at h1
  exact ne (h.cinj a b c ha hb hc h1)
theorem cyc_lat {l : List Nat} {z : Nat} (h : Lat n R) (ha : a < n) (hb : b < n) (ne : a ≠ b) (hc : c < n) (q : Cyc n (nxt R a b) c l z) (e : nxt R a b z = c) : Lat n (exR R a b (l ++ [z])) ∧ exR R a b (l ++ [z]) ≠ R :=
  ⟨exR_lat h ha hb ne q.lt fun j hj => cyc_closed (nxt_inj h ha hb) q e hj, exR_ne h ha hb ne q.lt hc q.hc⟩
end
/-! ### the first square -/
def sqR (s l c : List Int) (n : Nat) : List (List Int) := l.map fun x => c.map fun y => s.getD ((x + y).fmod n).toNat 0
theorem sqR_lat {n : Nat} (hn : 1 ≤ n) {s l c : List Int} (hs : IsRen n s) (hl : IsRen n l) (hc : IsRen n c) : Lat n (sqR s l c n) := by
  have md : ∀ x : Int, ((x.fmod n).toNat : Int) = x.fmod n ∧ (x.fmod n).toNat < n := fun x => by
    have h1 := Int.fmod_nonneg_of_pos x (b := (n : Int)) (by omega)
    have h2 := Int.fmod_lt_of_pos x (b := (n : Int)) (by omega)
    omega
  have at' : ∀ i j (hi : i < n) (hj : j < n), gn (sqR s l c n) i j = s[(((l[i]'(by rw [hl.len]; exact hi)) + (c[j]'(by rw [hc.len]; exact hj))).fmod n).toNat]'(by rw [hs.len]; exact (md _).2) := fun i j hi hj => by
    unfold gn sqR
    rw [getD_at (l := List.map _ l) (by rw [List.length_map, hl.len]; exact hi), List.getElem_map, getD_at (by rw [List.length_map, hc.len]; exact hj), List.getElem_map, getD_at]
  have inj : ∀ {xs : List Int} (h : IsRen n xs) {i j : Nat} (hi : i < n) (hj : j < n), xs[i]'(by rw [h.len]; exact hi) = xs[j]'(by rw [h.len]; exact hj) → i = j := fun {xs} h {i j} hi hj e => by
    have nd : xs.Nodup := h.nodup_iff.mpr (rgI_nodup n)
    have p := List.pairwise_iff_getElem.mp nd
    rcases Nat.lt_trichotomy i j with q | q | q
    · exact absurd e (p i j _ _ q)
    · exact q
    · exact absurd e.symm (p j i _ _ q)
  have rg : ∀ {xs : List Int} (h : IsRen n xs) {i : Nat} (hi : i < n), 0 ≤ xs[i]'(by rw [h.len]; exact hi) ∧ xs[i]'(by rw [h.len]; exact hi) < n := fun {xs} h {i} hi => h.mem (List.getElem_mem _)
  have fm : ∀ x y z : Int, 0 ≤ y → y < n → 0 ≤ z → z < n → ((x + y).fmod n).toNat = ((x + z).fmod n).toNat → y = z := fun x y z h1 h2 h3 h4 e => by
    have e1 : (x + y).fmod n = (x + z).fmod n := by rw [← (md (x + y)).1, ← (md (x + z)).1, e]
    rw [Int.fmod_eq_emod_of_nonneg _ (by omega), Int.fmod_eq_emod_of_nonneg _ (by omega)] at e1
    have e2 := Int.emod_emod_of_dvd
    have d := Int.emod_emod_of_dvd (x + y) (Int.dvd_refl (n : Int))
    have e3 : (n : Int) ∣ (x + y) - (x + z) := Int.dvd_of_emod_eq_zero (Int.emod_eq_emod_iff_emod_sub_eq_zero.mp e1)
    obtain ⟨k, hk⟩ := e3
    have hk2 : y - z = n * k := by omega
    have k0 : k = 0 := by
      rcases Int.lt_trichotomy k 0 with q | q | q
      · have : (n : Int) * k ≤ (n : Int) * (-1) := Int.mul_le_mul_of_nonneg_left (by omega) (by omega)
        omega
      · exact q
      · have : (n : Int) * 1 ≤ (n : Int) * k := Int.mul_le_mul_of_nonneg_left (by omega) (by omega)
        omega
    rw [k0] at hk2
    omega
  refine ⟨by unfold sqR; rw [List.length_map, hl.len], fun r m => ?_, fun i j hi hj => ?_, fun i j j' hi hj hj' e => ?_, fun i i' j hi hi' hj e => ?_⟩
  · obtain ⟨x, _, rfl⟩ := List.mem_map.mp m
    rw [List.length_map, hc.len]
  · rw [at' i j hi hj]
    exact rg hs (md _).2
  · rw [at' i j hi hj, at' i j' hi hj'] at e
    have e1 := inj hs (md _).2 (md _).2 e
    have b1 := rg hc hj
    have b2 := rg hc hj'
    exact inj hc hj hj' (fm _ _ _ b1.1 b1.2 b2.1 b2.2 e1)
  · rw [at' i j hi hj, at' i' j hi' hj] at e
    have e1 := inj hs (md _).2 (md _).2 e
    have b1 := rg hl hi
    have b2 := rg hl hi'
    rw [Int.add_comm (l[i]'_), Int.add_comm (l[i']'_)] at e1
    exact inj hl hi hi' (fm _ _ _ b1.1 b1.2 b2.1 b2.2 e1)
end K40
end

section
set_option Elab.async false
set_option linter.all false
set_option maxRecDepth 100000
set_option maxHeartbeats 4000000
namespace K40
open PySem PySem.Spec PyProof.Rows L2
/-! ### the pot: three numbers that change -/
def IsPot (H : Hp) (p : Addr) : Prop := ∃ a b c : Int, H p = some (.lst [.int a, .int b, .int c])
structure PS (p : Addr) (H H' : Hp) : Prop where
  s : Same (hide [p] H) (hide [p] H')
  q : IsPot H' p
section
variable {H H' H1 H2 : Hp} {p : Addr} {v : V} {d : PyData}
theorem IsPot.same (h : IsPot H p) (s : Same H H') : IsPot H' p := by
  obtain ⟨a, b, c, e⟩ := h
  exact ⟨a, b, c, s _ _ e⟩
theorem IsPot.ne (h : IsPot H p) : ∀ a ∈ [p], H a ≠ none := fun a m e => by
  rw [List.mem_singleton.mp m] at e
  obtain ⟨_, _, _, z⟩ := h
  rw [z] at e
  cases e
theorem PS.refl (h : IsPot H p) : PS p H H := ⟨Same.refl _, h⟩
theorem PS.of (h : IsPot H p) (s : Same H H') : PS p H H' := ⟨hide_mono s, h.same s⟩
theorem PS.trans (a : PS p H H1) (b : PS p H1 H2) : PS p H H2 := ⟨a.s.trans b.s, b.q⟩
theorem PS.up (a : PS p H H') : Same (hide [p] H) H' := a.s.trans (hide_same _ _)
theorem PS.set (h : IsPot H p) {a b c : Int} : PS p H (upd H p (.lst [.int a, .int b, .int c])) := ⟨by rw [hide_upd (List.mem_singleton_self p)]; exact Same.refl _, a, b, c, upd_same⟩
theorem PS.t (h : IsPot H p) (a : PS p H H') : TSame H H' := fun x xs e => by
  refine a.up x _ ?_
  rw [hide_out]
  · exact e
  · intro m
    rw [List.mem_singleton.mp m] at e
    obtain ⟨_, _, _, z⟩ := h
    rw [z] at e
    cases e
/-- what a heap without the pot and what is new since make -/
theorem hide_fresh (h : IsPot H p) : Same (fresh H H') (hide [p] H') := fresh_hide h.ne
theorem IsPot.dx (h : IsPot H p) : ∃ a b c : Int, Dx H (.ref p) (.list [.int a, .int b, .int c]) := by
  obtain ⟨a, b, c, e⟩ := h
  exact ⟨a, b, c, .lst e (DxA.ints [a, b, c])⟩
end
/-! data without lists do not lean on the pot -/
mutual
def noLi : PyData → Bool
  | .list _ => false
  | .dict es => noLiE es
  | .tuple ds => noLiA ds
  | _ => true
def noLiA : List PyData → Bool
  | [] => true
  | d :: ds => noLi d && noLiA ds
def noLiE : List (PyData × PyData) → Bool
  | [] => true
  | e :: es => noLi e.2 && noLiE es
end
theorem dx_hide {H : Hp} {p : Addr} (hp : IsPot H p) (d : PyData) (v : V) (e : noLi d = true) (h : Dx H v d) : Dx (hide [p] H) v d := by
  obtain ⟨pa, pb, pc, hp⟩ := hp
  have out : ∀ (a : Addr) (o : HO), H a = some o → (∀ xs, o ≠ .lst xs) → hide [p] H a = some o := fun a o e ne => by
    rw [hide_out fun m => ?_]
    · exact e
    · rw [List.mem_singleton.mp m, hp] at e
      exact ne _ (Option.some.inj e).symm
  exact Dx.rec (motive_1 := fun v d _ => noLi d = true → Dx (hide [p] H) v d) (motive_2 := fun vs ds _ => noLiA ds = true → DxA (hide [p] H) vs ds) (fun _ => .non) (fun b _ => .bl b) (fun i _ => .int i) (fun _ _ _ e => by simp [noLi] at e)
    (fun h _ ih e => .tup (out _ _ h fun _ z => nomatch z) (ih (by simpa [noLi] using e)))
    (fun h _ ih e => .tab (by
      rcases h with ⟨h1, h2⟩ | ⟨h1, h2⟩
      · exact .inl ⟨out _ _ h1 fun _ z => (nomatch z), h2⟩
      · exact .inr ⟨out _ _ h1 fun _ z => (by unfold SlX.SlO at z; cases z), out _ _ h2 fun _ z => nomatch z⟩) (ih (by simpa [noLi, noLiE] using e)))
    (fun _ => .nil) (fun _ _ i j e => by
      rw [noLiA, Bool.and_eq_true] at e
      exact .cons (i e.1) (j e.2)) h e
theorem noLiA_map {α : Type} {f : α → PyData} (h : ∀ a, noLi (f a) = true) : ∀ l : List α, noLiA (l.map f) = true
  | [] => rfl
  | a :: l => by rw [List.map_cons, noLiA, h a, noLiA_map h l]; rfl
theorem eC_noLi (c : Cell) : noLi (eC c) = true := by simp [eC, noLi, noLiA]
theorem eS_noLi (c : List Cell) : noLi (eS c) = true := by rw [eS, noLi]; exact noLiA_map eC_noLi c
theorem eT_noLi (T : Trade) : noLi (eT T) = true := by simp [eT, noLi, noLiA, eS_noLi]
theorem eRt_noLi (r : List Int) : noLi (eRt r) = true := by rw [eRt, noLi]; exact noLiA_map (fun _ => rfl) r
theorem eTab_noLi (C : Addr) (R : List (List Int)) : noLi (eTab C R) = true := by
  simp only [eTab, noLi, noLiE, eRows, Bool.true_and, Bool.and_true]
  exact noLiA_map eRt_noLi R
/-! what an expression evaluates to while the pot may change -/
def EvQ (p : Addr) (te : TE) (σ : L2.St) (H : Hp) (P : V → Hp → Prop) : Prop := ∀ H1, PS p H H1 → ∀ Q : VK, (∀ v H2, PS p H1 H2 → P v H2 → Q v H2) → te σ H1 Q
section
variable {K : PySem.W.Frag} {σ : L2.St} {H H' : Hp} {ta tb tc te : TE} {p : Addr} {d e : PyData} {ds : List PyData} {P P' : V → Hp → Prop}
theorem EvQ.at (h : EvQ p te σ H P) (hp : IsPot H p) {Q : VK} (q : ∀ v H2, PS p H H2 → P v H2 → Q v H2) : te σ H Q := h H (.refl hp) Q q
theorem EvQ.mono (s : PS p H H') (h : EvQ p te σ H P) : EvQ p te σ H' P := fun H1 a => h H1 (s.trans a)
theorem evq_of (h : EvP te σ (hide [p] H) P) (hq : ∀ H1 v H2, IsPot H1 p → Same H1 H2 → P v H2 → P' v H2) : EvQ p te σ H P' := fun H1 s Q q => h H1 s.up Q fun v H2 s2 hv => q v H2 (.of s.q s2) (hq H1 v H2 s.q s2 hv)
theorem evq_data (h : EvD te σ (hide [p] H) d) (n : noLi d = true) : EvQ p te σ H fun v H2 => Dx (hide [p] H2) v d := evq_of h fun H1 v H2 hp s hv => dx_hide (hp.same s) d v n hv
theorem evq_new (h : EvN te σ (hide [p] H) d) : EvQ p te σ H fun v H2 => Dx (hide [p] H2) v d := fun H1 s Q q => h H1 s.up Q fun v H2 s2 hv => q v H2 (.of s.q s2) (hv.mono (hide_fresh s.q) d v)
theorem dxh {v : V} (s : PS p H H') (h : Dx (hide [p] H) v d) : Dx (hide [p] H') v d := h.mono s.s d v
end
section
variable {K : PySem.W.Frag} {σ : L2.St} {H H' : Hp} {ta tb tc te : TE} {p : Addr} {d e : PyData} {ds : List PyData} {P P' : V → Hp → Prop} {i j : Int} {b : Bool}
abbrev rInt1 : List V → Hp → VK → Prop := fun xs H Q => (∃ i, xs = [.int i] ∧ Q (.int i) H) ∨ ∃ k, xs = [.bl k] ∧ Q (.int (if k then 1 else 0)) H
theorem evd_int1 (h : EvD ta σ H (.int i)) : EvD (tCB rInt1 (tCons ta tNil)) σ H (.int i) := evd_cb (eva_cons h eva_nil) fun H1 vs Q hv q => by
  obtain ⟨x, rfl, hx⟩ := hv.oneE
  exact .inl ⟨i, by rw [hx.intE], q _ H1 (Same.refl _) (.int i)⟩
theorem evd_int1B (h : EvD ta σ H (.bool b)) : EvD (tCB rInt1 (tCons ta tNil)) σ H (.int (if b then 1 else 0)) := evd_cb (eva_cons h eva_nil) fun H1 vs Q hv q => by
  obtain ⟨x, rfl, hx⟩ := hv.oneE
  exact .inr ⟨b, by rw [hx.blE], q _ H1 (Same.refl _) (.int _)⟩
theorem evd_abs (h : EvD ta σ H (.int i)) : EvD (tCB (fun xs H Q => ∃ i, xs = [.int i] ∧ Q (.int (if i < 0 then -i else i)) H) (tCons ta tNil)) σ H (.int (if i < 0 then -i else i)) := evd_cb (eva_cons h eva_nil) fun H1 vs Q hv q => by
  obtain ⟨x, rfl, hx⟩ := hv.oneE
  exact ⟨i, by rw [hx.intE], q _ H1 (Same.refl _) (.int _)⟩
theorem evd_max2 (h : EvD ta σ H (.int i)) (g : EvD tb σ H (.int j)) : EvD (tCB (fun xs H Q => ∃ i j, xs = [.int i, .int j] ∧ Q (.int (if j > i then j else i)) H) (tCons ta (tCons tb tNil))) σ H (.int (if j > i then j else i)) := evd_cb (eva_cons h (eva_cons g eva_nil)) fun H1 vs Q hv q => by
  obtain ⟨x, y, rfl, hx, hy⟩ := hv.twoE
  exact ⟨i, j, by rw [hx.intE, hy.intE], q _ H1 (Same.refl _) (.int _)⟩
theorem evf_lst {tr : TA} {ns : List Int} (h : EvA tr σ H (ns.map PyData.int)) (hl : ns.length ≤ sizeLine) : EvF (tLst tr) σ H (ns.map V.int) := fun H1 s Q q =>
  h H1 s _ fun xs H2 s2 hx => by
    have e := hx.of_ints
    subst e
    exact ⟨by rw [List.length_map]; exact hl, fun b nb => q b _ (same_none s2 nb) (s2.trans (same_new nb)) upd_same⟩
theorem evp_I0 {g : Int → Int → V} (ha : EvP ta σ H fun v _ => ∃ i, v = .int i) (hb : EvP tb σ H fun v _ => ∃ i, v = .int i) (hg : ∀ i j, ∃ k, g i j = .int k) : EvP (tOp (rI0 g) ta tb) σ H fun v _ => ∃ i, v = .int i := fun H1 s Q q =>
  ha H1 s _ fun x H2 s2 ⟨i, hx⟩ => hb H2 (s.trans s2) _ fun y H3 s3 ⟨j, hy⟩ => ⟨i, j, hx, hy, q _ H3 (s2.trans s3) (hg i j)⟩
end
section
variable {P : Program} {w : World} {K : PySem.W.Frag} {mg : Str → Option Value} {base : Heap} {a : Adr} {f : Addr} {fd : FuncData}
def sp_pot (K : PySem.W.Frag) : Sp := fun vs H Q _ => ∃ (s : Addr) (ns : List Int) (k : Nat), vs = [.ref s, .int (k : Int)] ∧ SqL K H s (ns.map V.int) ∧ k ≤ 100 ∧ ∀ p H', Same H H' → H p = none → IsPot H' p → Q (.ref p) H'
theorem ok_l_pot (F : Fun K "_law_pot" "_law_pot" s_l_pot f fd) (T : Txt K mg a) : FnOk P w K mg base CX0 1 f fd ["_law_script", "_law_at"] (sp_pot K) := by
  refine F.ok sc_l_pot (fun vs H Q E q => by obtain ⟨_, _, _, rfl, _⟩ := q; rfl) (fun cdv A outer s H vs Q E hr h => ?_)
  obtain ⟨s0, ns, k, rfl, hs, hk, q⟩ := h
  refine ⟨_, (pss_cons (ps_set (i := 2) sc_l_pot.nd rfl (Or.inl rfl) (pe_ifExp (pt_cmpR op_lt (pv 1) (pe_callB (call_lenK K) (by rfl) T.n_len bt_len (pa_cons (pv 0) pa_nil)) (nomark _)) (pe_ix (ix_listK K) (pv 0) (pv 1) (fun _ _ => rfl)) (pe_op op_add (pe_op op_mul pe_int (pv 1)) pe_int))) (pss_cons (ps_set (i := 3) sc_l_pot.nd rfl (Or.inl rfl) (pe_op op_modN (pe_callTy call_int1 (by rfl) T.n_int bt_int (pa_cons (pe_callB call_abs (by rfl) T.n_abs bt_abs (pa_cons (pv 2) pa_nil)) pa_nil)) (pe_op op_powB (pe_op op_powB pe_int pe_int) pe_int))) (pss_cons (ps_set (i := 4) sc_l_pot.nd rfl (Or.inl rfl) (pe_op op_add (pe_op op_add (pe_op op_add (pe_op op_mul (pe_op op_modN (pe_callTy call_int1 (by rfl) T.n_int bt_int (pa_cons (pv 3) pa_nil)) pe_int) pe_int) (pe_op op_mul pe_int (pv 1))) (pe_op op_mul pe_int (pe_callTy call_int1 (by rfl) T.n_int bt_int (pa_cons (pe_cmpR op_lt (pv 2) pe_int (nomark _)) pa_nil)))) pe_int)) (pss_one (ps_ret (pe_lst (pa_cons (pe_callB (call_max2 rfl) (by rfl) T.n_max bt_max (pa_cons pe_int (pa_cons (pe_op op_add (pe_op op_sub (pv 3) (pe_op op_powB pe_int pe_int)) pe_int) pa_nil))) (pa_cons (pe_op op_modN (pe_callTy call_int1 (by rfl) T.n_int bt_int (pa_cons (pv 4) pa_nil)) pe_int) (pa_cons pe_int pa_nil))))))))), ?_⟩
  have len : EvD (tCB (K40.rLenS K) (tCons (tVar 0) tNil)) (start n_l_pot [.ref s0, .int k]) H (.int (ns.length : Int)) := fun H1 s Q q => ⟨_, rfl, s0, ns.map V.int, rfl, .inl (s.seq hs), by rw [List.length_map]; exact q _ H1 (Same.refl _) (.int _)⟩
  have cell : EvP (tIf (tTest (tOp (rI0 fun i j => .bl (decide (i < j))) (tVar 1) (tCB (K40.rLenS K) (tCons (tVar 0) tNil)))) (tOp (rIxL K) (tVar 0) (tVar 1)) (tOp (rI0 fun i j => .int (i + j)) (tOp (rI CMul fun i j => .int (i * j)) (tC (.int 67)) (tVar 1)) (tC (.int 43)))) (start n_l_pot [.ref s0, .int k]) H fun v _ => ∃ i, v = .int i := by
    refine evp_if (b := decide ((k : Int) < (ns.length : Int))) (evt_test (evd_I0 (evd_var (i := 1) rfl (.int _)) len fun _ => .bl _)) (fun e => ?_) fun _ => ?_
    · have hk : k < ns.length := by have := of_decide_eq_true e; omega
      intro H1 s Q q
      refine ⟨_, rfl, _, rfl, s0, ns.map V.int, (k : Int), .int ns[k], rfl, rfl, s.seq hs, ?_, q _ H1 (Same.refl _) ⟨_, rfl⟩⟩
      exact atI_nat (by rw [List.getElem?_map, List.getElem?_eq_getElem hk]; rfl)
    · exact (evd_I0 (evd_I (evd_int (i := 67)) (evd_var (i := 1) rfl (.int (k : Int))) (.inl ⟨by omega, by omega⟩) fun _ => .int _) (evd_int (i := 43)) fun _ => .int _).imp fun v H2 hv => ⟨_, hv.intE⟩
  refine sd_asg cell fun v H2 s2 ⟨c, e⟩ => ?_
  subst e
  dsimp only
  have pow : ∀ (σ : L2.St) (H : Hp) (i j : Int), (0 ≤ j ∧ (Builtin.Int.intBits i : Int) * j ≤ 2 ^ 27) → EvD (tOp (rI CPowB fun i j => .int (i ^ j.toNat)) (tC (.int i)) (tC (.int j))) σ H (.int (i ^ j.toNat)) := fun σ H i j hc => evd_I evd_int evd_int hc fun _ => .int _
  refine sd_asg (evd_I (evd_int1 (evd_abs (evd_var (i := 2) rfl (.int c)))) (evd_I (pow _ _ 10 59 (by decide +kernel)) (evd_int (i := 8)) (by unfold CPowB; decide +kernel) fun _ => .int _) (by decide +kernel) fun _ => .int _) fun v H3 s3 hv => ?_
  have e := hv.intE
  subst e
  generalize Int.fmod _ _ = g
  dsimp only
  have m1 : ∀ (σ : L2.St) (H : Hp) (x : Int) (i : Nat) (m : Int), m ≠ 0 → σ[i]? = some (some (.int x)) → EvD (tOp (rI (fun _ j => j ≠ 0) fun i j => .int (i.fmod j)) (tCB rInt1 (tCons (tVar i) tNil)) (tC (.int m))) σ H (.int (x.fmod m)) := fun σ H x i m hm e => evd_I (evd_int1 (evd_var e (.int x))) evd_int hm fun _ => .int _
  refine sd_asg (evd_I0 (evd_I0 (evd_I0 (evd_I (m1 _ _ g 3 2305843009213693669 (by decide) rfl) (evd_int (i := 70021)) (.inr ⟨by omega, by omega⟩) fun _ => .int _) (evd_I (evd_int (i := 6007)) (evd_var (i := 1) rfl (.int (k : Int))) (.inl ⟨by omega, by omega⟩) fun _ => .int _) fun _ => .int _)
    (evd_I (evd_int (i := 19)) (evd_int1B (evd_I0 (evd_var (i := 2) rfl (.int c)) (evd_int (i := 0)) fun _ => .bl _)) (.inl ⟨by omega, by omega⟩) fun _ => .int _) fun _ => .int _) (evd_int (i := 37)) fun _ => .int _) fun v H4 s4 hv => ?_
  have e := hv.intE
  subst e
  generalize HAdd.hAdd _ (37 : Int) = m
  dsimp only
  refine (evf_lst (ns := [_, _, _]) (eva_cons (evd_max2 (evd_int (i := 0)) (evd_I0 (evd_I0 (evd_var (i := 3) rfl (.int g)) (pow _ _ 10 18 (by decide +kernel)) fun _ => .int _) (evd_int (i := 1)) fun _ => .int _)) (eva_cons (m1 _ _ m 4 2305843009213693951 (by decide) rfl) (eva_cons (evd_int (i := 0)) eva_nil))) (by rw [sizeLine_eq]; show 3 ≤ _; omega)) _ (Same.refl _) _ fun b H5 nb s5 eb => ?_
  exact q b H5 (((s2.trans s3).trans s4).trans s5) (same_none ((s2.trans s3).trans s4) nb) ⟨_, _, _, eb⟩
def sp_dip : Sp := fun vs H Q _ => ∃ (p : Addr) (n : Int), vs = [.ref p, .int n] ∧ IsPot H p ∧ 1 ≤ n ∧ n ≤ 1000000 ∧ ∀ (i : Nat) H', (i : Int) < n → PS p H H' → Q (.int (i : Int)) H'
theorem ok_l_dip (F : Fun K "_law_dip" "_law_dip" s_l_dip f fd) (T : Txt K mg a) : FnOk P w K mg base CX0 1 f fd ["_law_pot_here", "_law_total"] sp_dip := by
  refine F.ok sc_l_dip (fun vs H Q E q => by obtain ⟨_, _, rfl, _⟩ := q; rfl) (fun cdv A outer s H vs Q E hr h => ?_)
  obtain ⟨p, n, rfl, hp, h1, h2, q⟩ := h
  refine ⟨_, (pss_cons (ps_if (pt_cmpR op_gt (pe_ix (ix_listK K) (pv 0) pe_int (fun _ _ => rfl)) pe_int (nomark _)) (pss_cons (ps_set (i := 2) sc_l_dip.nd rfl (Or.inl rfl) (pe_op op_modN (pe_callTy call_int1 (by rfl) T.n_int bt_int (pa_cons (pe_ix (ix_listK K) (pv 0) pe_int (fun _ _ => rfl)) pa_nil)) (pv 1))) (pss_cons (ps_asg (pe_op op_fdivN (pe_ix (ix_listK K) (pv 0) pe_int (fun _ _ => rfl)) (pv 1)) (pg_sub (pv 0) pe_int set_list)) (pss_one (ps_ret (pv 2))))) pss_nil) (pss_cons (ps_asg (pe_op op_add (pe_ix (ix_listK K) (pv 0) pe_int (fun _ _ => rfl)) pe_int) (pg_sub (pv 0) pe_int set_list)) (pss_cons (ps_set (i := 3) sc_l_dip.nd rfl (Or.inl rfl) (pe_op op_modN (pe_callTy call_int1 (by rfl) T.n_int bt_int (pa_cons (pe_op op_add (pe_ix (ix_listK K) (pv 0) pe_int (fun _ _ => rfl)) (pe_op op_mul pe_int (pe_ix (ix_listK K) (pv 0) pe_int (fun _ _ => rfl)))) pa_nil)) pe_int)) (pss_cons (ps_set (i := 4) sc_l_dip.nd rfl (Or.inl rfl) (pe_op op_add (pe_op op_mul (pe_op op_modN (pe_callTy call_int1 (by rfl) T.n_int bt_int (pa_cons (pe_op op_mul (pv 3) (pv 3)) pa_nil)) pe_int) (pv 3)) (pe_op op_mul pe_int (pe_ix (ix_listK K) (pv 0) pe_int (fun _ _ => rfl))))) (pss_one (ps_ret (pe_op op_modN (pe_callTy call_int1 (by rfl) T.n_int bt_int (pa_cons (pe_op op_fdivN (pe_op op_modN (pe_callTy call_int1 (by rfl) T.n_int bt_int (pa_cons (pv 4) pa_nil)) pe_int) pe_int) pa_nil)) (pv 1)))))))), ?_⟩
  obtain ⟨x, y, z, hH⟩ := hp
  have fin : ∀ (t : Int) (H' : Hp), PS p H H' → Q (.int (t.fmod n)) H' := fun t H' ps => by
    have e1 := Int.fmod_nonneg_of_pos t (b := n) (by omega)
    have e2 := Int.fmod_lt_of_pos t (b := n) (by omega)
    have e3 : (((t.fmod n).toNat : Nat) : Int) = t.fmod n := by omega
    rw [← e3]
    exact q _ H' (by omega) ps
  have ix : ∀ (σ : L2.St) (H : Hp) (x y z : Int) (k : Nat) (v : Int), σ[0]? = some (some (.ref p)) → H p = some (.lst [.int x, .int y, .int z]) → [x, y, z][k]? = some v → EvD (tOp (rIxL K) (tVar 0) (tC (.int (k : Int)))) σ H (.int v) := fun σ H x y z k v e1 e2 e3 =>
    evd_ixL (ds := [x, y, z].map PyData.int) (evd_var e1 (.lst e2 (DxA.ints [x, y, z]))) evd_int (by rw [List.getElem?_map, e3]; rfl)
  refine sd_if (b := decide (0 < x)) (evt_test (evd_I0 (ix _ _ x y z 0 x rfl hH rfl) (evd_int (i := 0)) fun _ => .bl _)) (fun _ H2 s2 => ?_) fun _ H2 s2 => ?_
  · have hH2 := s2 _ _ hH
    refine sd_asg (evd_I (evd_int1 (ix _ _ x y z 0 x rfl hH2 rfl)) (evd_var (i := 1) rfl (.int n)) (by omega) fun _ => .int _) fun v H3 s3 hv => ?_
    have e := hv.intE
    subst e
    dsimp only
    have hH3 := s3 _ _ hH2
    refine (evd_I (ix _ _ x y z 0 x rfl hH3 rfl) (evd_var (i := 1) rfl (.int n)) ⟨by omega, by omega⟩ fun _ => .int _).at fun v H4 s4 hv => ?_
    have e := hv.intE
    subst e
    have hH4 := s4 _ _ hH3
    refine ⟨_, rfl, p, _, 0, 0, rfl, rfl, hH4, rfl, ?_⟩
    refine ⟨_, rfl, fin x _ ?_⟩
    have P4 : PS p H H4 := .of ⟨x, y, z, hH⟩ ((s2.trans s3).trans s4)
    exact P4.trans (.set P4.q)
  · have hH2 := s2 _ _ hH
    refine (evd_I0 (ix _ _ x y z 2 z rfl hH2 rfl) (evd_int (i := 1)) fun _ => .int _).at fun v H3 s3 hv => ?_
    have e := hv.intE
    subst e
    have hH3 := s3 _ _ hH2
    refine ⟨_, rfl, p, _, 2, 2, rfl, rfl, hH3, rfl, ?_⟩
    have P3 : PS p H H3 := .of ⟨x, y, z, hH⟩ (s2.trans s3)
    dsimp only
    generalize e4 : upd H3 p _ = H4
    have hH4 : H4 p = some (.lst [.int x, .int y, .int (z + 1)]) := by rw [← e4]; exact upd_same
    have P4 : PS p H H4 := by rw [← e4]; exact P3.trans (.set (a := x) (b := y) (c := z + 1) P3.q)
    have md : ∀ (σ : L2.St) (H : Hp) (te : TE) (x m : Int), m ≠ 0 → EvD te σ H (.int x) → EvD (tOp (rI (fun _ j => j ≠ 0) fun i j => .int (i.fmod j)) (tCB rInt1 (tCons te tNil)) (tC (.int m))) σ H (.int (x.fmod m)) := fun σ H te x m hm e => evd_I (evd_int1 e) evd_int hm fun _ => .int _
    refine sd_asg (md _ _ _ _ 2305843009213693951 (by decide) (evd_I0 (ix _ _ _ _ _ 1 _ rfl hH4 rfl) (evd_I (evd_int (i := 1000117)) (ix _ _ _ _ _ 2 _ rfl hH4 rfl) (.inl ⟨by omega, by omega⟩) fun _ => .int _) fun _ => .int _)) fun v H5 s5 hv => ?_
    have e := hv.intE
    subst e
    generalize ho : Int.fmod _ (2305843009213693951 : Int) = o
    have o1 : 0 ≤ o := by rw [← ho]; exact Int.fmod_nonneg_of_pos _ (by decide)
    have o2 : o < 2305843009213693951 := by rw [← ho]; exact Int.fmod_lt_of_pos _ (by decide)
    dsimp only
    have hH5 := s5 _ _ hH4
    refine sd_asg (evd_I0 (evd_I (md _ _ _ (o * o) 2305843009213693907 (by decide) (evd_I (evd_var (i := 3) rfl (.int o)) (evd_var (i := 3) rfl (.int o)) (.inl ⟨by omega, by omega⟩) fun _ => .int _)) (evd_var (i := 3) rfl (.int o)) (.inr ⟨by omega, by omega⟩) fun _ => .int _)
      (evd_I (evd_int (i := 9059)) (ix _ _ _ _ _ 2 _ rfl hH5 rfl) (.inl ⟨by omega, by omega⟩) fun _ => .int _) fun _ => .int _) fun v H6 s6 hv => ?_
    have e := hv.intE
    subst e
    generalize HAdd.hAdd _ (HMul.hMul (9059 : Int) _) = tw
    dsimp only
    refine sd_ret (evd_I (evd_int1 (evd_I (md _ _ _ tw 2305843009213693921 (by decide) (evd_var (i := 4) rfl (.int tw))) (evd_int (i := 16384)) ⟨by omega, by omega⟩ fun _ => .int _)) (evd_var (i := 1) rfl (.int n)) (by omega) fun _ => .int _) fun v H7 s7 hv => ?_
    have e := hv.intE
    subst e
    exact fin _ H7 (P4.trans (.of P4.q ((s5.trans s6).trans s7)))
end
section
variable {K : PySem.W.Frag} {σ : L2.St} {H H' : Hp} {ta tn te : TE} {p : Addr} {n : Int} {i : Nat} {E : XK}
theorem evq_dip (hv : σ[i]? = some (some (.ref p))) (hn : EvD tn σ (hide [p] H) (.int n)) (b : 1 ≤ n ∧ n ≤ 1000000) : EvQ p (tCall sp_dip [] E (tCons (tVar i) (tCons tn tNil))) σ H fun v _ => ∃ j : Nat, (j : Int) < n ∧ v = .int (j : Int) := fun H1 s Q q =>
  ⟨_, hv, hn H1 s.up _ fun v H2 s2 hv2 => ⟨p, n, by rw [hv2.intE]; rfl, s.q.same s2, b.1, b.2, fun j H3 hj ps => q _ H3 ((PS.of s.q s2).trans ps) ⟨j, hj, rfl⟩⟩⟩
end
end K40
end

section
set_option Elab.async false
set_option linter.all false
set_option maxRecDepth 100000
set_option maxHeartbeats 4000000
namespace K40
open PySem PySem.Spec PyProof.Rows L2
theorem DxA.perm {H : Hp} {xs ys : List V} (hp : xs.Perm ys) : ∀ {ds : List PyData}, DxA H xs ds → ∃ es, es.Perm ds ∧ DxA H ys es := by
  induction hp with
  | nil => intro ds h; exact ⟨ds, .refl _, h⟩
  | cons x _ ih =>
    intro ds h
    cases h with
    | cons h r =>
      obtain ⟨es, pe, he⟩ := ih r
      exact ⟨_ :: es, pe.cons _, .cons h he⟩
  | swap x y l =>
    intro ds h
    cases h with
    | cons h r =>
      cases r with
      | cons g r => exact ⟨_, List.Perm.swap _ _ _, .cons g (.cons h r)⟩
  | trans _ _ ih1 ih2 =>
    intro ds h
    obtain ⟨es, pe, he⟩ := ih1 h
    obtain ⟨fs, pf, hf⟩ := ih2 he
    exact ⟨fs, pf.trans pe, hf⟩
section
variable {P : Program} {w : World} {K : PySem.W.Frag} {mg : Str → Option Value} {base : Heap} {a : Adr} {f : Addr} {fd : FuncData}
def sp_pick : Sp := fun vs H Q _ => ∃ (p : Addr) (x : V) (ns : List Int), vs = [.ref p, x] ∧ IsPot H p ∧ Dx (hide [p] H) x (eRl ns) ∧ ns ≠ [] ∧ ns.length ≤ 1000 ∧ ∀ i H', i ∈ ns → PS p H H' → Q (.int i) H'
theorem ok_l_pick (F : Fun K "_law_pick" "_law_pick" s_l_pick f fd) (T : Txt K mg a) (D__law_dip : Has P w K mg base 1 "_law_dip" sp_dip) : FnOk P w K mg base CX0 2 f fd ["_law_pot_here", "_law_items"] sp_pick := by
  refine F.ok sc_l_pick (fun vs H Q E q => by obtain ⟨_, _, _, rfl, _⟩ := q; rfl) (fun cdv A outer s H vs Q E hr h => ?_)
  obtain ⟨p, x, ns, rfl, hp, hx, ne, hl, q⟩ := h
  refine ⟨_, (pss_one (ps_ret (pe_ix (ix_listK K) (pv 1) (pe_fn D__law_dip (hr.mono (by decide)) (by rfl) (pa_cons (pv 0) (pa_cons (pe_callB (call_lenK K) (by rfl) T.n_len bt_len (pa_cons (pv 1) pa_nil)) pa_nil))) (fun _ _ => rfl)))), ?_⟩
  have l1 : 1 ≤ ns.length := by
    cases ns with
    | nil => exact absurd rfl ne
    | cons _ _ => simp
  have len : EvD (tCB (K40.rLenS K) (tCons (tVar 1) tNil)) (start n_l_pick [.ref p, x]) (hide [p] H) (.int (ns.length : Int)) := by
    have z := evd_lenL (K := K) (σ := start n_l_pick [.ref p, x]) (ta := tVar 1) (evd_var (i := 1) rfl hx)
    rwa [List.length_map] at z
  refine ⟨_, rfl, (evq_dip (i := 0) rfl len ⟨by omega, by omega⟩).at hp fun v H2 s2 ⟨j, hj, e⟩ => ?_⟩
  subst e
  have hj : j < ns.length := by omega
  have hx2 := hx.mono s2.up _ x
  obtain ⟨b, xs, rfl, h1, h2⟩ := hx2.lstE
  rw [h2.of_ints] at h1
  exact ⟨b, _, (j : Int), .int ns[j], rfl, rfl, .of h1, atI_nat (by rw [List.getElem?_map, List.getElem?_eq_getElem hj]; rfl), q _ H2 (List.getElem_mem hj) s2⟩
def sp_shaken : Sp := fun vs H Q _ => ∃ (p : Addr) (x : V) (ds : List PyData), vs = [.ref p, x] ∧ IsPot H p ∧ Dx (hide [p] H) x (.list ds) ∧ ds.length ≤ 1000 ∧ ∀ v H' es, es.Perm ds → PS p H H' → Dx (hide [p] H') v (.list es) → Q v H'
theorem erase_perm {α : Type} : ∀ {l : List α} {j : Nat} (h : j < l.length), (l[j] :: l.eraseIdx j).Perm l
  | a :: l, 0, _ => .refl _
  | a :: l, j + 1, h => by
    have h' : j < l.length := by simpa using h
    show (l[j] :: a :: l.eraseIdx j).Perm (a :: l)
    exact (List.Perm.swap _ _ _).trans ((erase_perm h').cons a)
structure Shk (H : Hp) (p l D : Addr) (xs : List V) (i : Nat) (Hc : Hp) (acc rest : List V) : Prop where
  s : Same (hide [p] H) (hide [p, l, D] Hc)
  q : IsPot Hc p
  d : Hc D = some (.lst acc)
  l : Hc l = some (.lst rest)
  m : (acc ++ rest).Perm xs
  n : acc.length = i
theorem hide_more {X Y : List Addr} {H : Hp} (h : ∀ a ∈ X, a ∈ Y) : Same (hide Y H) (hide X H) := fun a o e => by
  obtain ⟨m, e⟩ := hide_of e
  rw [hide_out fun z => m (h a z)]
  exact e
theorem hide_ps {X : List Addr} {H H' : Hp} {p : Addr} (m : p ∈ X) (s : PS p H H') : Same (hide X H) (hide X H') := fun a o e => by
  obtain ⟨n, e⟩ := hide_of e
  rw [hide_out n]
  refine s.up a o ?_
  rw [hide_out fun z => n (by rw [List.mem_singleton.mp z]; exact m)]
  exact e
theorem ok_l_shaken (F : Fun K "_law_shaken" "_law_shaken" s_l_shaken f fd) (T : Txt K mg a) (D__law_dip : Has P w K mg base 1 "_law_dip" sp_dip) : FnOk P w K mg base CX0 2 f fd ["_law_pot_here", "_law_items"] sp_shaken := by
  refine F.ok sc_l_shaken (fun vs H Q E q => by obtain ⟨_, _, _, rfl, _⟩ := q; rfl) (fun cdv A outer s H vs Q E hr h => ?_)
  obtain ⟨p, x, ds, rfl, hp, hx, hl, q⟩ := h
  refine ⟨_, (pss_cons (ps_set (i := 2) sc_l_shaken.nd rfl (Or.inr rfl) (pe_callTy (call_lstK K) (by rfl) T.n_list bt_list (pa_cons (pv 1) pa_nil))) (pss_one (ps_ret (pe_lc (own := [("_law_turn", 3)]) (by rfl) sc_l_shaken.nd (pi_range1 (by rfl) T.n_range (pa_cons (pe_callB (call_lenK K) (by rfl) T.n_len bt_len (pa_cons (pv 1) pa_nil)) pa_nil)) (blkOk_by (N := n_l_shaken) (sc := defScope s_l_shaken) (by decide +kernel)) (fun _ _ _ _ _ => (pg_name (i := 3) sc_l_shaken.nd rfl (by first | exact Or.inl rfl | exact Or.inr rfl))) (fun _ _ _ _ _ => pts_nil) (fun _ _ _ _ _ => (pe_bmK K PySem.F.plainAttrs_list PySem.F.slot_list_pop PySem.F.type_list_pop mt_popAt (pv 2) (pa_cons (pe_fn D__law_dip (hr.mono (by decide)) (by rfl) (pa_cons (pv 0) (pa_cons (pe_callB (call_lenK K) (by rfl) T.n_len bt_len (pa_cons (pv 2) pa_nil)) pa_nil))) pa_nil))))))), ?_⟩
  obtain ⟨b, xs, rfl, h1, h2⟩ := hx.lstE
  have h1' := hide_same _ _ _ _ h1
  have lx : xs.length = ds.length := h2.length
  refine ⟨_, rfl, b, xs, rfl, .inl (.of h1'), fun l nl => ?_⟩
  dsimp only
  have sA : Same H (upd H l (.lst xs)) := same_new nl
  have lA : (upd H l (.lst xs)) l = some (.lst xs) := upd_same
  generalize upd H l (.lst xs) = HA at sA lA ⊢
  have pl : l ≠ p := fun e => by
    rw [e] at nl
    obtain ⟨_, _, _, z⟩ := hp
    rw [z] at nl
    cases nl
  have ln := evd_lenL (K := K) (ta := tVar 1) (σ := [some (.ref p), some (.ref b), some (.ref l), none]) (H := HA) (evd_var (i := 1) rfl ((hx.mono (hide_same _ _) _ _).mono sA _ _))
  show tRet _ _ [some (.ref p), some (.ref b), some (.ref l), none] HA
  show tLc _ _ _ _ _ [some (.ref p), some (.ref b), some (.ref l), none] HA _
  refine (srcT_rng (n := ds.length) (eva_cons ln eva_nil) (by omega)) HA (Same.refl _) _ ?_
  intro J H2 G Y s2 w hG hY D nD
  · rw [List.length_map, List.length_range] at w hY
    have s02 : Same H H2 := sA.trans s2
    have l2 := s2 _ _ lA
    have Dl : l ≠ D := fun e => by rw [← e, l2] at nD; cases nD
    have Dp : p ≠ D := fun e => by
      obtain ⟨_, _, _, z⟩ := hp
      rw [← e, s02 _ _ z] at nD
      cases nD
    have nDH := same_none s02 nD
    have sX : ∀ a ∈ [p], a ∈ [p, l, D] := fun a m => by rw [List.mem_singleton.mp m]; exact List.mem_cons_self
    refine lc_it w (fun i Hc => TSame H2 Hc ∧ ∃ acc rest, Shk H p l D xs i Hc acc rest) ⟨Same.t (same_new nD), [], xs, ?_, (hp.same s02).same (same_new nD), upd_same, by rw [upd_ne Dl]; exact l2, .refl _, rfl⟩ (fun i Hc _ z => hG Hc z.1) (fun i z Hc Hx hi ⟨t, acc, rest, I⟩ y => ?_) fun Hc ⟨t, acc, rest, I⟩ => ?_
    · intro c o e
      obtain ⟨m, e⟩ := hide_of e
      have c1 : c ≠ p := fun z => m (by rw [z]; exact List.mem_singleton_self _)
      have c2 : c ≠ l := fun z => by rw [z, nl] at e; cases e
      have c3 : c ≠ D := fun z => by rw [z, nDH] at e; cases e
      rw [hide_out (by simp [c1, c2, c3]), upd_ne c3]
      exact s02 _ _ e
    · obtain ⟨s3, d, ed, hz⟩ := hY i Hc z Hx t hi y
      refine ⟨rfl, evt_yes.at fun H4 s4 => iteT ?_⟩
      have s34 : Same Hc H4 := s3.trans s4
      have q4 := I.q.same s34
      have l4 := s34 _ _ I.l
      have lr : rest.length = ds.length - i := by
        have := I.m.length_eq
        rw [List.length_append, I.n] at this
        omega
      refine ⟨_, rfl, .inl ⟨rfl, rest, .of l4⟩, ?_⟩
      refine ⟨_, rfl, .ref l, rfl, l, rest, rfl, .inl (.of l4), p, (rest.length : Int), rfl, q4, by omega, by omega, fun j H5 hj s5 => ?_⟩
      have hj : j < rest.length := by omega
      have l5 : H5 l = some (.lst rest) := s5.up _ _ (by rw [hide_out (by simpa using pl)]; exact l4)
      have d5 : H5 D = some (.lst acc) := s5.up _ _ (by rw [hide_out (by simpa using Dp.symm)]; exact s34 _ _ I.d)
      refine ⟨l, rest, (j : Int), j, rest[j], rfl, rfl, l5, by omega, by omega, ?_, List.getElem?_eq_getElem hj, ?_⟩
      · unfold seqIndex?
        simp
        omega
      refine ⟨acc, by rw [upd_ne Dl.symm]; exact d5, by rw [I.n, sizeLine_eq]; omega, ?_, acc ++ [rest[j]], rest.eraseIdx j, ?_, ?_, upd_same, by rw [upd_ne Dl, upd_same], ?_, ?_⟩
      · refine TSame.trans t (TSame.trans (Same.t s34) (TSame.trans (s5.t q4) (TSame.trans (tsame_mut l5 fun _ z => nomatch z) (tsame_mut (u := .lst acc) ?_ fun _ z => nomatch z))))
        rw [upd_ne Dl.symm]
        exact d5
      · rw [hide_upd (by simp), hide_upd (by simp)]
        exact I.s.trans ((hide_mono s34).trans (hide_ps List.mem_cons_self s5))
      · obtain ⟨u, v, z, e⟩ := s5.q
        exact ⟨u, v, z, by rw [upd_ne Dp, upd_ne pl.symm]; exact e⟩
      · refine List.Perm.trans ?_ I.m
        rw [List.append_assoc]
        refine List.Perm.append_left _ ?_
        exact erase_perm hj
      · rw [List.length_append, I.n]
        rfl
    · have e1 : rest = [] := by
        have := I.m.length_eq
        rw [List.length_append, I.n] at this
        exact List.eq_nil_of_length_eq_zero (by omega)
      have pm := I.m
      rw [e1, List.append_nil] at pm
      have nX : ∀ c ∈ [l, D], H c = none := fun c m => by
        simp only [List.mem_cons, List.not_mem_nil, or_false] at m
        rcases m with rfl | rfl
        · exact nl
        · exact nDH
      obtain ⟨es, pe, he⟩ := h2.perm pm.symm
      have sf := I.s.trans (hide_more sX)
      refine q _ Hc es pe ⟨sf, I.q⟩ (.lst ?_ (he.mono sf _ _))
      rw [hide_out (by simpa using Dp.symm)]
      exact I.d
end
end K40
end

section
set_option Elab.async false
set_option linter.all false
set_option maxRecDepth 100000
set_option maxHeartbeats 4000000
namespace K40
open PySem PySem.Spec PyProof.Rows L2
/-- what stands outside some addresses stands -/
def Off (bs : List Addr) (H H' : Hp) : Prop := ∀ x o, x ∉ bs → H x = some o → H' x = some o
theorem Off.same {bs : List Addr} {H0 H H' : Hp} (h : Off bs H H') (nb : ∀ b ∈ bs, H0 b = none) (s : Same H0 H) : Same H0 H' := fun x o e => h x o (fun m => by rw [nb x m] at e; cases e) (s x o e)
theorem rw_store {H : Hp} {l : Addr} {bs : List Addr} {M : List (List Int)} {n i k : Nat} {s : Int} (hR : Rw H l bs M) (hM : Shp n M) (hi : i < n) (hk : k < n) :
    ∃ (b : Addr) (r : List Int), bs[i]? = some b ∧ H b = some (.lst (r.map V.int)) ∧ r.length = n ∧ Rw (upd H b (.lst ((r.map V.int).set k (.int s)))) l bs (setC M ((i : Int), ((k : Int), s))) := by
  obtain ⟨r, er, mr, er2, lr⟩ := hM.at_row hi
  have hb : i < bs.length := by rw [hR.len, hM.len]; exact hi
  have eb : bs[i]? = some bs[i] := List.getElem?_eq_getElem hb
  refine ⟨bs[i], r, eb, hR.rows _ _ _ eb er, lr, ?_⟩
  rw [← List.map_set]
  unfold setC
  show Rw _ l bs (M.set i ((M.getD i []).set k s))
  rw [er2]
  exact hR.set eb
/-- found[i][k] = s -/
theorem g_store {K : PySem.W.Frag} {σ : L2.St} {Q : L2.St → Hp → Prop} {H : Hp} {l : Addr} {bs : List Addr} {M : List (List Int)} {n i k t4 ti t6 : Nat} {s : Int} (hR : Rw H l bs M) (hM : Shp n M) (hi : i < n) (hk : k < n) (e4 : σ[t4]? = some (some (.ref l))) (ei : σ[ti]? = some (some (.int (i : Int)))) (e6 : σ[t6]? = some (some (.int (k : Int))))
    (q : ∀ H', Rw H' l bs (setC M ((i : Int), ((k : Int), s))) → Off bs H H' → Q σ H') : gSub (tOp (rIxL K) (tVar t4) (tVar ti)) (tVar t6) rSetL (.int s) σ H Q := by
  obtain ⟨b, r, eb, hb, lr, hR2⟩ := rw_store (s := s) hR hM hi hk
  refine ⟨_, e4, _, ei, l, _, (i : Int), .ref b, rfl, rfl, .of hR.top, atI_nat (by rw [List.getElem?_map, eb]; rfl), ?_⟩
  refine ⟨_, e6, b, r.map V.int, (k : Int), k, rfl, rfl, hb, ?_, q _ hR2 fun x o nx e => ?_⟩
  · rw [List.length_map, lr]
    exact ixN_nat hk
  · rw [upd_ne fun z => nx (by rw [z]; exact List.mem_of_getElem? eb)]
    exact e
section
variable {P : Program} {w : World} {K : PySem.W.Frag} {mg : Str → Option Value} {base : Heap} {a : Adr} {f : Addr} {fd : FuncData}
def sp_swrows : Sp := spN (fun ds => ∃ (n : Nat) (R : List (List Int)) (x y c : Nat), ds = [eSq R, .int (x : Int), .int (y : Int), .int (c : Int)] ∧ Lat n R ∧ n ≤ 24 ∧ x < n ∧ y < n ∧ c < n ∧ x ≠ y) (fun ds d => ∀ R x y c, ds = [eSq R, x, y, c] → ∃ R', Lat R.length R' ∧ R' ≠ R ∧ d = eSq R')
theorem sd_par {i j : Nat} {ta : TE} {tr : TA} {D : Ends} {σ : L2.St} {H : Hp} (h : ta σ H fun x H1 => tr σ H1 fun xs H2 => ∃ v w, x :: xs = [v, w] ∧ D.nx ((σ.set i (some v)).set j (some w)) H2) : tPar i j (tCons ta tr) D σ H := h
/-- rows[one].index(rows[other][spots[-1]]) -/
theorem evd_nxt {σ : L2.St} {H : Hp} {n x y z : Nat} {R : List (List Int)} {v : V} {ws : Addr} {ls : List V} (h1 : Lat n R) (hx : x < n) (hy : y < n) (hz : z < n) (e0 : σ[0]? = some (some v)) (e1 : σ[1]? = some (some (.int (x : Int)))) (e2 : σ[2]? = some (some (.int (y : Int)))) (e5 : σ[5]? = some (some (.ref ws)))
    (hv : Dx H v (eSq R)) (hw : H ws = some (.lst (ls ++ [.int (z : Int)]))) :
    EvD (tBM K "list" (rIndex K) (tOp (rIxL K) (tVar 0) (tVar 1)) (tCons (tOp (rIxL K) (tOp (rIxL K) (tVar 0) (tVar 2)) (tOp (rIxL K) (tVar 5) (tUn (rU fun i => .int (-i)) (tC (.int 1))))) tNil)) σ H (.int (nxt R x y z : Nat)) := fun H1 s Q q => by
  obtain ⟨r, g1, m, g2, g3⟩ := h1.shp.at_row hx
  have row : EvD (tOp (rIxL K) (tVar 0) (tVar 1)) σ H (eRl r) := evd_ixL (ds := R.map eRl) (evd_var e0 hv) (evd_var e1 (.int _)) (by rw [List.getElem?_map, g1]; rfl)
  refine row H1 s _ fun rv H2 s2 hrv => ?_
  obtain ⟨ra, rx, rfl, r1, r2⟩ := hrv.lstE
  rw [r2.of_ints] at r1
  refine ⟨.inl ⟨rfl, _, .of r1⟩, ?_⟩
  have last : EvD (tOp (rIxL K) (tVar 5) (tUn (rU fun i => .int (-i)) (tC (.int 1)))) σ H (.int (z : Int)) := fun H1 s Q q => ⟨_, e5, 1, rfl, ws, _, -1, .int (z : Int), rfl, rfl, .of (s _ _ hw), atI_last _ _, q _ H1 (Same.refl _) (.int _)⟩
  have arg : EvD (tOp (rIxL K) (tOp (rIxL K) (tVar 0) (tVar 2)) (tOp (rIxL K) (tVar 5) (tUn (rU fun i => .int (-i)) (tC (.int 1))))) σ H (.int (gn R y z)) := evd_sq h1.shp (evd_var e0 hv) hy hz (evd_var e2 (.int _)) last
  refine (eva_cons arg eva_nil) H2 (s.trans s2) _ fun vs H3 s3 hvs => ?_
  obtain ⟨av, rfl, ha⟩ := hvs.oneE
  have ea := ha.intE
  subst ea
  obtain ⟨k1, k2⟩ := nxt_at h1 hx hy hz
  have en : nxt R x y z = r.idxOf (gn R y z) := by unfold nxt; rw [g2]
  have hl : nxt R x y z < r.length := by omega
  have ez : r[nxt R x y z] = gn R y z := by
    rw [← k2]
    unfold gn
    rw [g2, getD_at hl]
  refine ⟨ra, _, _, nxt R x y z, .int (gn R y z), rfl, rfl, .of (s3 _ _ r1), rfl, ?_, ?_, by simp [eqV], fun m z' hm e => ?_, q _ H3 (s2.trans s3) (.int _)⟩
  · rw [List.all_map]
    exact List.all_eq_true.mpr fun _ _ => rfl
  · rw [List.getElem?_map, List.getElem?_eq_getElem hl, ez]
    rfl
  · rw [List.getElem?_map] at e
    obtain ⟨u, e1, rfl⟩ := Option.map_eq_some_iff.mp e
    obtain ⟨hm2, em⟩ := List.getElem?_eq_some_iff.mp e1
    have : u ≠ gn R y z := fun q => by
      have gm : gn R x m = u := by
        unfold gn
        rw [g2, getD_at hm2, em]
      have := nxt_uniq h1 hx hy hz (k := m) (by omega) (gm.trans q)
      omega
    simpa [eqV] using this
theorem ok_l_switched_rows (F : Fun K "_law_switched_rows" "_law_switched_rows" s_l_switched_rows f fd) (T : Txt K mg a) : FnOk P w K mg base CX0 1 f fd ["_law_rows", "_law_one", "_law_other", "_law_column"] sp_swrows := by
  refine F.ok sc_l_switched_rows (spN_len fun ds ⟨_, _, _, _, _, e, _⟩ => by rw [e]; rfl) (fun cdv A outer s H vs Q E hr h => ?_)
  obtain ⟨ds, hv, ⟨n, R, x, y, c, rfl, h1, h2, hx, hy, hc, ne⟩, q⟩ := h
  obtain ⟨v, e1, e2, e3, rfl, hR0, g1, g2, g3⟩ : ∃ v e1 e2 e3, vs = [v, e1, e2, e3] ∧ Dx H v (eSq R) ∧ Dx H e1 (.int (x : Int)) ∧ Dx H e2 (.int (y : Int)) ∧ Dx H e3 (.int (c : Int)) := by
    cases hv with
    | cons h t =>
      obtain ⟨p, q, r, rfl, a, b, c⟩ := t.threeE
      exact ⟨_, _, _, _, rfl, h, a, b, c⟩
  have z1 := g1.intE
  have z2 := g2.intE
  have z3 := g3.intE
  subst z1 z2 z3
  refine ⟨_, (pss_cons (ps_par (i := 4) (j := 5) (by rfl) sc_l_switched_rows.nd rfl rfl (by decide) rfl rfl (pa_cons (pe_lc (own := [("_law_row", 7)]) (by rfl) sc_l_switched_rows.nd (pi_listK K (pv 0)) (blkOk_by (N := n_l_switched_rows) (sc := defScope s_l_switched_rows) (by decide +kernel)) (fun _ _ _ _ _ => (pg_name (i := 7) sc_l_switched_rows.nd rfl (by first | exact Or.inl rfl | exact Or.inr rfl))) (fun _ _ _ _ _ => pts_nil) (fun _ _ _ _ _ => (pe_callTy (call_lstK K) (by rfl) T.n_list bt_list (pa_cons (pv 7) pa_nil)))) (pa_cons (pe_lst (pa_cons (pv 3) pa_nil)) pa_nil)) (by rfl)) (pss_cons (ps_while PassesOwn.never (pt_cmpR op_ne (pe_bmK K PySem.F.plainAttrs_list PySem.F.slot_list_index PySem.F.type_list_index (mt_indexK K) (pe_ix (ix_listK K) (pv 0) (pv 1) (fun _ _ => rfl)) (pa_cons (pe_ix (ix_listK K) (pe_ix (ix_listK K) (pv 0) (pv 2) (fun _ _ => rfl)) (pe_ix (ix_listK K) (pv 5) (pe_un un_neg pe_int) (fun _ _ => rfl)) (fun _ _ => rfl)) pa_nil)) (pv 3) (nomark _)) (pss_one (ps_expr (pe_bmK K PySem.F.plainAttrs_list PySem.F.slot_list_append PySem.F.type_list_append mt_append (pv 5) (pa_cons (pe_bmK K PySem.F.plainAttrs_list PySem.F.slot_list_index PySem.F.type_list_index (mt_indexK K) (pe_ix (ix_listK K) (pv 0) (pv 1) (fun _ _ => rfl)) (pa_cons (pe_ix (ix_listK K) (pe_ix (ix_listK K) (pv 0) (pv 2) (fun _ _ => rfl)) (pe_ix (ix_listK K) (pv 5) (pe_un un_neg pe_int) (fun _ _ => rfl)) (fun _ _ => rfl)) pa_nil)) pa_nil))))) (pss_cons (ps_for PassesOwn.never rfl (pi_listK K (pv 5)) (pg_name (i := 6) sc_l_switched_rows.nd rfl (by first | exact Or.inl rfl | exact Or.inr rfl)) (pss_one (ps_asg (pe_tup (pa_cons (pe_ix (ix_listK K) (pe_ix (ix_listK K) (pv 0) (pv 2) (fun _ _ => rfl)) (pv 6) (fun _ _ => rfl)) (pa_cons (pe_ix (ix_listK K) (pe_ix (ix_listK K) (pv 0) (pv 1) (fun _ _ => rfl)) (pv 6) (fun _ _ => rfl)) pa_nil))) (pg_tupK (n := 2) K rfl (pgs_cons (pg_sub (pe_ix (ix_listK K) (pv 4) (pv 1) (fun _ _ => rfl)) (pv 6) set_list) (pgs_cons (pg_sub (pe_ix (ix_listK K) (pv 4) (pv 2) (fun _ _ => rfl)) (pv 6) set_list) pgs_nil)))))) (pss_one (ps_ret (pv 4)))))), ?_⟩
  have hz : R.length < sizeLine := by rw [h1.len, sizeLine_eq]; omega
  refine sd_par ((evp_copy (R := R) (enc := eRl) (vs := [7]) (g := gName 7) (te := tCB (rLstOf K) (tCons (tVar 7) tNil)) (σ := start n_l_switched_rows [v, .int (x : Int), .int (y : Int), .int (c : Int)]) (src_list (K := K) (evd_var (i := 0) rfl hR0)) hz (fun i d z H' e s3 hz => ⟨rfl, Same.refl _, evf_lstOfL (evd_var rfl hz)⟩) gm_name).at fun fv H2 s2 ⟨l, bs, ef, nl, nb, hR⟩ => ?_)
  subst ef
  refine (evf_lst (ns := [(c : Int)]) (eva_cons (evd_var (i := 3) rfl (.int (c : Int))) eva_nil) (by rw [sizeLine_eq]; show 1 ≤ _; omega)) H2 (Same.refl _) _ fun ws H3 nw s3 ew => ?_
  refine ⟨_, _, rfl, ?_⟩
  have nwH : H ws = none := same_none s2 nw
  have wl : l ≠ ws := fun e => by rw [← e, hR.top] at nw; cases nw
  have wb : ws ∉ bs := fun m => by
    obtain ⟨i, hi, ei⟩ := List.getElem_of_mem m
    have hi2 : i < R.length := by rw [← hR.len]; exact hi
    have := hR.rows i ws R[i] (by rw [← ei]; exact List.getElem?_eq_getElem hi) (List.getElem?_eq_getElem hi2)
    rw [nw] at this
    cases this
  have hR3 := hR.same s3
  have sH3 : Same H H3 := s2.trans s3
  -- the round
  refine ⟨fun m σ Hc => ∃ ls z, σ = [some v, some (.int (x : Int)), some (.int (y : Int)), some (.int (c : Int)), some (.ref l), some (.ref ws), none, none] ∧ Same H Hc ∧ Rw Hc l bs R ∧ Hc ws = some (.lst ((ls.map fun (k : Nat) => V.int (k : Int)) ++ [.int (z : Int)])) ∧ Cyc n (nxt R x y) c ls z ∧ m = n - ls.length,
    ⟨n, [], c, rfl, sH3, hR3, ew, cyc_start hc, rfl⟩, ?_⟩
  rintro m σ Hc ⟨ls, z, rfl, sC, hRc, hw, hC, rfl⟩
  have hzn : z < n := hC.lt z (List.mem_append_right _ (List.mem_singleton_self z))
  have lsn := cyc_len hC
  have nx : ∀ Hd, Same Hc Hd → EvD (tBM K "list" (rIndex K) (tOp (rIxL K) (tVar 0) (tVar 1)) (tCons (tOp (rIxL K) (tOp (rIxL K) (tVar 0) (tVar 2)) (tOp (rIxL K) (tVar 5) (tUn (rU fun i => .int (-i)) (tC (.int 1))))) tNil)) [some v, some (.int (x : Int)), some (.int (y : Int)), some (.int (c : Int)), some (.ref l), some (.ref ws), none, none] Hd (.int (nxt R x y z : Nat)) := fun Hd s =>
    evd_nxt h1 hx hy hzn rfl rfl rfl rfl (hR0.mono (sC.trans s) _ _) (s _ _ hw)
  refine (evt_test (evd_neI (nx Hc (Same.refl _)) (evd_var (i := 3) rfl (.int (c : Int))) rfl)).at fun H4 s4 => ?_
  have sC4 := sC.trans s4
  have hR4 := hRc.same s4
  have hw4 := s4 _ _ hw
  by_cases he : nxt R x y z = c
  · -- the round is told
    have e0 : (!decide (((nxt R x y z : Nat) : Int) = (c : Int))) = false := by rw [he]; simp
    rw [e0]
    refine iteF ?_
    obtain ⟨lat, rne⟩ := cyc_lat h1 hx hy ne hc hC he
    have eS : ((ls.map fun (k : Nat) => V.int (k : Int)) ++ [.int (z : Int)]) = (ls ++ [z]).map fun (k : Nat) => V.int (k : Int) := by rw [List.map_append]; rfl
    rw [eS] at hw4
    have hS : ∀ k ∈ ls ++ [z], k < n := hC.lt
    generalize ls ++ [z] = S at hw4 hS lat rne
    refine ⟨_, rfl, ws, rfl, ⟨_, .of hw4⟩, ?_⟩
    refine for_it (walk_list (K := K) (a := ws) (xs := S.map fun (k : Nat) => V.int (k : Int))) (fun j σ' Hd => ∃ u6, σ' = [some v, some (.int (x : Int)), some (.int (y : Int)), some (.int (c : Int)), some (.ref l), some (.ref ws), u6, none] ∧ Same H Hd ∧ Rw Hd l bs ((S.take j).foldl (exC R x y) R) ∧ Hd ws = some (.lst (S.map fun (k : Nat) => V.int (k : Int))))
      ⟨_, rfl, sC4, hR4, hw4⟩ (fun j σ' Hd _ ⟨_, _, _, _, e⟩ => .of e) (fun j zv σ' Hd Hx hj ⟨u6, es, sD, hRd, hwd⟩ ⟨eH, ez⟩ => ?_) fun σ' Hd ⟨u6, es, sD, hRd, hwd⟩ => ?_
    · subst eH es
      rw [List.length_map] at hj
      rw [List.getElem?_map, List.getElem?_eq_getElem hj] at ez
      have ez := (Option.some.inj ez).symm
      subst ez
      have hk : S[j] < n := hS _ (List.getElem_mem hj)
      have tk : (S.take (j + 1)).foldl (exC R x y) R = exC R x y ((S.take j).foldl (exC R x y) R) S[j] := by
        rw [List.take_add_one, List.getElem?_eq_getElem hj, List.foldl_append]
        rfl
      have shM : Shp n ((S.take j).foldl (exC R x y) R) := exF_shp hx hy h1.shp
      rw [tk]
      generalize S[j] = k at hk
      generalize (S.take j).foldl (exC R x y) R = M at hRd shM
      have hv' := hR0.mono sD _ _
      show tAsg _ _ _ [some v, some (.int (x : Int)), some (.int (y : Int)), some (.int (c : Int)), some (.ref l), some (.ref ws), some (.int (k : Int)), none] Hx
      refine (evd_tup (ds := [.int (gn R y k), .int (gn R x k)]) (eva_cons (evd_sq h1.shp (evd_var (i := 0) rfl hv') hy hk (evd_var (i := 2) rfl (.int _)) (evd_var (i := 6) rfl (.int _))) (eva_cons (evd_sq h1.shp (evd_var (i := 0) rfl hv') hx hk (evd_var (i := 1) rfl (.int _)) (evd_var (i := 6) rfl (.int _))) eva_nil)) (by rw [sizeLine_eq]; show 2 ≤ _; omega)).at fun tv H5 s5 htv => ?_
      obtain ⟨ta, txs, rfl, t1, t2⟩ := htv.tupE
      obtain ⟨w1, w2, rfl, k1, k2⟩ := t2.twoE
      have z1 := k1.intE
      have z2 := k2.intE
      subst z1 z2
      refine ⟨ta, _, rfl, .of t1, rfl, _, _, rfl, g_store (hRd.same s5) shM hx hk rfl rfl rfl fun H6 hR6 o6 => ⟨_, _, rfl, g_store hR6 (setC_shp shM (by show ((x : Int)).toNat < n; omega)) hy hk rfl rfl rfl fun H7 hR7 o7 => ⟨rfl, _, rfl, ?_, hR7, ?_⟩⟩⟩
      · exact o7.same nb (o6.same nb (sD.trans s5))
      · exact o7 _ _ wb (o6 _ _ wb (s5 _ _ hwd))
    · subst es
      rw [List.length_map, List.take_length] at hRd
      refine ⟨_, rfl, q _ Hd (eSq (exR R x y S)) (fun R' x' y' c' e => ?_) sD (.lst (fresh_at nl hRd.top) (dx_rows hRd.len fun i b r e1 e2 => fresh_at (nb b (List.mem_of_getElem? e1)) (hRd.rows i b r e1 e2)))⟩
      simp only [List.cons.injEq] at e
      have eR := eSq_inj e.1
      subst eR
      exact ⟨_, by rw [h1.len]; exact lat, rne, rfl⟩
  · -- one step more
    have e0 : (!decide (((nxt R x y z : Nat) : Int) = (c : Int))) = true := by
      have : ¬ ((nxt R x y z : Nat) : Int) = (c : Int) := by omega
      simp [this]
    rw [e0]
    refine iteT ⟨fun σ' Hd => ∃ m', m' < n - ls.length ∧ ∃ ls z, σ' = [some v, some (.int (x : Int)), some (.int (y : Int)), some (.int (c : Int)), some (.ref l), some (.ref ws), none, none] ∧ Same H Hd ∧ Rw Hd l bs R ∧ Hd ws = some (.lst ((ls.map fun (k : Nat) => V.int (k : Int)) ++ [.int (z : Int)])) ∧ Cyc n (nxt R x y) c ls z ∧ m' = n - ls.length, fun _ _ z => z, ?_⟩
    refine ⟨_, rfl, .inl ⟨rfl, _, .of hw4⟩, ?_⟩
    refine (eva_cons (nx H4 s4) eva_nil).at fun vs H5 s5 hvs => ?_
    obtain ⟨nv, rfl, hnv⟩ := hvs.oneE
    have z1 := hnv.intE
    subst z1
    have hw5 := s5 _ _ hw4
    refine ⟨ws, _, _, rfl, rfl, hw5, by rw [List.length_append, List.length_map, List.length_singleton, sizeLine_eq]; omega, ?_⟩
    have hR5 := hR4.same s5
    refine ⟨n - (ls ++ [z]).length, by rw [List.length_append, List.length_singleton]; omega, ls ++ [z], nxt R x y z, rfl, same_mut (sC4.trans s5) nwH, ?_, ?_, cyc_step (fun i hi => (nxt_at h1 hx hy hi).1) (nxt_inj h1 hx hy) hC he, rfl⟩
    · exact ⟨by rw [upd_ne wl]; exact hR5.top, hR5.nd, hR5.nl, hR5.len, fun i b r e1 e2 => by
        rw [upd_ne fun e => wb (by rw [← e]; exact List.mem_of_getElem? e1)]
        exact hR5.rows i b r e1 e2⟩
    · rw [upd_same, List.map_append]
      rfl
end
end K40
end

section
set_option Elab.async false
set_option linter.all false
set_option maxRecDepth 100000
set_option maxHeartbeats 4000000
namespace K40
open PySem PySem.Spec PyProof.Rows L2
theorem perm_map_inv {α β : Type} {f : α → β} {xs ys : List β} (p : xs.Perm ys) : ∀ {l : List α}, ys = l.map f → ∃ m : List α, xs = m.map f ∧ m.Perm l := by
  induction p with
  | nil =>
    intro l e
    have : l = [] := by simpa using e.symm
    subst this
    exact ⟨[], rfl, .refl _⟩
  | cons x _ ih =>
    intro l e
    cases l with
    | nil => simp at e
    | cons a l =>
      rw [List.map_cons, List.cons.injEq] at e
      obtain ⟨m, e1, p1⟩ := ih e.2
      exact ⟨a :: m, by rw [e1, e.1]; rfl, p1.cons a⟩
  | swap x y l0 =>
    intro l e
    match l, e with
    | a :: b :: l, e =>
      simp only [List.map_cons, List.cons.injEq] at e
      refine ⟨b :: a :: l, ?_, List.Perm.swap _ _ _⟩
      simp only [List.map_cons]
      rw [e.1, e.2.1, e.2.2]
    | [a], e => simp at e
    | [], e => simp at e
  | trans _ _ ih1 ih2 =>
    intro l e
    obtain ⟨m, e1, p1⟩ := ih2 e
    obtain ⟨m2, e2, p2⟩ := ih1 e1
    exact ⟨m2, e2, p2.trans p1⟩
theorem PS.new {p x : Addr} {H H' : Hp} {o : HO} (h : PS p H H') (n : H x = none) (ne : x ≠ p) : PS p H (upd H' x o) := ⟨fun c u e => by
  obtain ⟨m, e1⟩ := hide_of e
  have cx : c ≠ x := fun z => by rw [z, n] at e1; cases e1
  have := hide_of (h.s c u e)
  rw [hide_out m, upd_ne cx]
  exact this.2, by
  obtain ⟨a, b, c, e⟩ := h.q
  exact ⟨a, b, c, by rw [upd_ne ne.symm]; exact e⟩⟩
def EvQT (p : Addr) (tt : TT) (σ : L2.St) (H : Hp) : Prop := ∀ H1, PS p H H1 → ∀ Q : Bool → Hp → Prop, (∀ b H2, PS p H1 H2 → Q b H2) → tt σ H1 Q
section
variable {K : PySem.W.Frag} {σ : L2.St} {H H' : Hp} {ta tb tc te tr t1 t2 tn : TE} {p : Addr} {d e : PyData} {ds : List PyData} {P P' : V → Hp → Prop} {i j n : Nat} {b : Bool} {tt : TT} {E : XK} {R : List (List Int)}
theorem EvQ.imp (h : EvQ p te σ H P) (hp : ∀ v H2, P v H2 → P' v H2) : EvQ p te σ H P' := fun H1 a Q q => h H1 a Q fun v H2 s p => q v H2 s (hp v H2 p)
theorem evqt_eq {k : Int} (h : EvQ p te σ H fun v _ => ∃ i : Int, v = .int i) : EvQT p (tTest (tOp rEq te (tC (.int k)))) σ H := fun H1 s Q q => h H1 s _ fun v H2 s2 ⟨i, e⟩ => by
  subst e
  exact ⟨rfl, _, rfl, q _ H2 s2⟩
theorem evq_if (h : EvQT p tt σ H) (h1 : EvQ p ta σ H P) (h2 : EvQ p tb σ H P) : EvQ p (tIf tt ta tb) σ H P := fun H1 s Q q => h H1 s _ fun b H2 s2 => by
  cases b with
  | true => exact iteT (h1 H2 (s.trans s2) Q fun v H3 s3 hv => q v H3 (s2.trans s3) hv)
  | false => exact iteF (h2 H2 (s.trans s2) Q fun v H3 s3 hv => q v H3 (s2.trans s3) hv)
theorem evq_ifB {tt : TT} (h : EvT tt σ (hide [p] H) b) (h1 : b = true → EvQ p ta σ H P) (h2 : b = false → EvQ p tb σ H P) : EvQ p (tIf tt ta tb) σ H P := fun H1 s Q q => h H1 s.up _ fun H2 s2 => by
  have ps : PS p H1 H2 := .of s.q s2
  cases b with
  | true => exact iteT (h1 rfl H2 (s.trans ps) Q fun v H3 s3 hv => q v H3 (ps.trans s3) hv)
  | false => exact iteF (h2 rfl H2 (s.trans ps) Q fun v H3 s3 hv => q v H3 (ps.trans s3) hv)
theorem sq_if {tu tw : TS} {D : Ends} (h : EvQT p tt σ H) (hp : IsPot H p) (h1 : ∀ H2, PS p H H2 → tu D σ H2) (h2 : ∀ H2, PS p H H2 → tw D σ H2) : tIfS tt tu tw D σ H := h H (.refl hp) _ fun b H2 s2 => by
  cases b with
  | true => exact iteT (h1 H2 s2)
  | false => exact iteF (h2 H2 s2)
theorem sq_asg {D : Ends} (h : EvQ p te σ H P) (hp : IsPot H p) (q : ∀ v H2, PS p H H2 → P v H2 → D.nx (σ.set i (some v)) H2) : tAsg te (gName i) D σ H := h.at hp q
theorem sq_ret {D : Ends} (h : EvQ p te σ H P) (hp : IsPot H p) (q : ∀ v H2, PS p H H2 → P v H2 → D.rt v H2) : tRet te D σ H := h.at hp q
theorem evq_var {v : V} (h : σ[i]? = some (some v)) (hd : Dx (hide [p] H) v d) : EvQ p (tVar i) σ H fun v H2 => Dx (hide [p] H2) v d := fun H1 s Q q => ⟨v, h, q v H1 (.refl s.q) (hd.mono s.s d v)⟩
theorem evn_evf {ns : List Int} (h : EvF te σ H (ns.map V.int)) : EvN te σ H (eRl ns) := fun H1 s Q q => h H1 s Q fun b H2 nb s2 eb => q _ H2 s2 (.lst (fresh_at nb eb) (DxA.ints ns))
theorem evn_listRg (h : EvD te σ H (.int (n : Int))) (hn : n ≤ 100000) : EvN (tLstRg (tRg1 te)) σ H (eRl (rgI n)) := fun H1 s Q q =>
  h H1 s _ fun v H2 s2 hv => ⟨(n : Int), hv.intE, RgOk.of_le (Int.le_refl 0) (by omega) (by omega) (by omega), fun l hl => q _ _ (s2.trans (same_new hl)) (.lst (fresh_at (same_none s2 hl) upd_same) (by
    have e : rgV 0 (n : Int) = (rgI n).map V.int := by
      unfold rgV rgI
      rw [List.map_map]
      have e1 : ((n : Int) - 0).toNat = n := by omega
      rw [e1]
      apply List.map_congr_left
      intro i _
      show V.int (0 + (i : Int)) = V.int (i : Int)
      rw [Int.zero_add]
    rw [e]
    exact DxA.ints _))⟩
theorem evq_lstOfT (h : EvD te σ (hide [p] H) (.tuple ds)) (hn : noLiA ds = true) : EvQ p (tCB (rLstOf K) (tCons te tNil)) σ H fun v H2 => Dx (hide [p] H2) v (.list ds) := fun H1 s Q q =>
  h H1 s.up _ fun v H2 s2 hv => by
    have q2 := s.q.same s2
    have hv2 := dx_hide q2 (.tuple ds) v (by rw [noLi]; exact hn) hv
    obtain ⟨x, xs, rfl, h1, h2⟩ := hv2.tupE
    refine ⟨x, xs, rfl, .inr (.of (hide_same _ _ _ _ h1)), fun l hl => q _ _ (.of s.q (s2.trans (same_new hl))) (.lst ?_ (h2.mono (hide_mono (same_new hl)) _ _))⟩
    rw [hide_out fun m => ?_]
    · exact upd_same
    · exact q2.ne l m hl
theorem evq_shaken (hv : σ[i]? = some (some (.ref p))) (hx : EvQ p te σ H fun v H2 => Dx (hide [p] H2) v (.list ds)) (hl : ds.length ≤ 1000) : EvQ p (tCall sp_shaken [] E (tCons (tVar i) (tCons te tNil))) σ H fun v H2 => ∃ es, es.Perm ds ∧ Dx (hide [p] H2) v (.list es) := fun H1 s Q q =>
  ⟨_, hv, hx H1 s _ fun v H2 s2 hv2 => ⟨p, v, ds, rfl, s2.q, hv2, hl, fun u H3 es pe ps hu => q u H3 (s2.trans ps) ⟨es, pe, hu⟩⟩⟩
theorem evq_pick {ns : List Int} (hv : σ[i]? = some (some (.ref p))) (hx : EvQ p te σ H fun v H2 => Dx (hide [p] H2) v (eRl ns)) (ne : ns ≠ []) (hl : ns.length ≤ 1000) : EvQ p (tCall sp_pick [] E (tCons (tVar i) (tCons te tNil))) σ H fun v H2 => ∃ i ∈ ns, v = .int i := fun H1 s Q q =>
  ⟨_, hv, hx H1 s _ fun v H2 s2 hv2 => ⟨p, v, ns, rfl, s2.q, hv2, ne, hl, fun u H3 mu ps => q _ H3 (s2.trans ps) ⟨u, mu, rfl⟩⟩⟩
theorem evq_across (h : EvQ p te σ H fun v H2 => Dx (hide [p] H2) v (eSq R)) (hS : Shp n R) (hn : n ≤ 24) : EvQ p (tCall sp_across [] E (tCons te tNil)) σ H fun v H2 => Dx (hide [p] H2) v (eSq (trp R)) := fun H1 s Q q =>
  h H1 s _ fun v H2 s2 hv => ⟨[eSq R], .one (hv.mono (hide_same _ _) _ _), ⟨n, R, rfl, hS, hn⟩, fun u H3 d pd s3 hd => by
    have e := pd R rfl
    subst e
    exact q u H3 (s2.trans (.of s2.q s3)) (hd.mono (hide_fresh s2.q) _ _)⟩
theorem evq_swrows {x y : Nat} (h : EvQ p tr σ H fun v H2 => Dx (hide [p] H2) v (eSq R)) (hL : Lat n R) (hn : n ≤ 24) (g1 : EvD t1 σ (hide [p] H) (.int (x : Int))) (g2 : EvD t2 σ (hide [p] H) (.int (y : Int))) (hx : x < n) (hy : y < n) (ne : x ≠ y) (hv : σ[i]? = some (some (.ref p))) (gn : EvD tn σ (hide [p] H) (.int (n : Int))) :
    EvQ p (tCall sp_swrows [] E (tCons tr (tCons t1 (tCons t2 (tCons (tCall sp_dip [] E (tCons (tVar i) (tCons tn tNil))) tNil))))) σ H fun v H2 => ∃ R', Lat n R' ∧ R' ≠ R ∧ Dx (hide [p] H2) v (eSq R') := fun H1 s Q q =>
  h H1 s _ fun v H2 s2 hv2 => g1 H2 (s.trans s2).up _ fun a1 H3 s3 k1 => g2 H3 ((s.trans s2).trans (.of s2.q s3)).up _ fun a2 H4 s4 k2 => by
    have p3 : PS p H2 H3 := .of s2.q s3
    have p4 : PS p H3 H4 := .of p3.q s4
    refine evq_dip (E := E) hv (gn.mono ((((s.trans s2).trans p3).trans p4).s)) ⟨by omega, by omega⟩ H4 (.refl p4.q) _ fun a3 H5 s5 ⟨c, hc, k3⟩ => ?_
    subst k3
    have e1 := k1.intE
    have e2 := k2.intE
    subst e1 e2
    refine ⟨[eSq R, .int (x : Int), .int (y : Int), .int (c : Int)], ?_, ⟨n, R, x, y, c, rfl, hL, hn, hx, hy, by omega, ne⟩, fun u H6 d pd s6 hd => ?_⟩
    · exact .cons (hv2.mono (((p3.trans p4).trans s5).up) _ _) (.cons (.int _) (.cons (.int _) (.one (.int _))))
    · obtain ⟨R', l1, l2, rfl⟩ := pd R _ _ _ rfl
      rw [hL.len] at l1
      exact q u H6 ((((s2.trans p3).trans p4).trans s5).trans (.of s5.q s6)) ⟨R', l1, l2, hd.mono (hide_fresh s5.q) _ _⟩
/-- (one + 1 + dip(pot, order - 1)) % order -/
theorem evq_other {x i1 i8 : Nat} (hv : σ[i]? = some (some (.ref p))) (h1 : σ[i1]? = some (some (.int (n : Int)))) (h8 : σ[i8]? = some (some (.int (x : Int)))) (hn : 2 ≤ n ∧ n ≤ 24) (hx : x < n) :
    EvQ p (tOp (rI (fun _ j => j ≠ 0) fun i j => .int (i.fmod j)) (tOp (rI0 fun i j => .int (i + j)) (tOp (rI0 fun i j => .int (i + j)) (tVar i8) (tC (.int 1))) (tCall sp_dip [] E (tCons (tVar i) (tCons (tOp (rI0 fun i j => .int (i - j)) (tVar i1) (tC (.int 1))) tNil)))) (tVar i1)) σ H fun v _ => ∃ y : Nat, y < n ∧ y ≠ x ∧ v = .int (y : Int) := fun H1 s Q q => by
  refine ⟨_, h8, _, _, rfl, rfl, ?_⟩
  refine evq_dip (E := E) (n := (n : Int) - 1) hv (evd_I0 (evd_var h1 (.int _)) evd_int fun _ => .int _) ⟨by omega, by omega⟩ H1 s _ fun v H2 s2 ⟨j, hj, e⟩ => ?_
  subst e
  refine ⟨_, _, rfl, rfl, _, h1, _, _, rfl, rfl, by omega, ?_⟩
  have e1 : (((((x : Int) + 1 + (j : Int)).fmod n).toNat : Nat) : Int) = ((x : Int) + 1 + (j : Int)).fmod n := by
    have := Int.fmod_nonneg_of_pos ((x : Int) + 1 + (j : Int)) (b := (n : Int)) (by omega)
    omega
  have e2 := Int.fmod_lt_of_pos ((x : Int) + 1 + (j : Int)) (b := (n : Int)) (by omega)
  show Q (.int (((x : Int) + 1 + (j : Int)).fmod n)) H2
  rw [← e1]
  refine q _ H2 s2 ⟨_, by omega, fun z => ?_, rfl⟩
  rw [Int.fmod_eq_emod_of_nonneg _ (by omega)] at e1 e2
  have e3 : ((x : Int) + 1 + (j : Int)) % n = if (x : Int) + 1 + j < n then (x : Int) + 1 + j else (x : Int) + 1 + j - n := by
    by_cases h : (x : Int) + 1 + j < n
    · rw [if_pos h]
      exact Int.emod_eq_of_lt (by omega) h
    · rw [if_neg h, ← Int.sub_emod_right]
      exact Int.emod_eq_of_lt (by omega) (by omega)
  rw [Int.fmod_eq_emod_of_nonneg _ (by omega)] at z
  split at e3 <;> omega
end
section
variable {P : Program} {w : World} {K : PySem.W.Frag} {mg : Str → Option Value} {base : Heap} {a : Adr} {f : Addr} {fd : FuncData}
def sp_square : Sp := fun vs H Q _ => ∃ (p : Addr) (n : Nat), vs = [.ref p, .int (n : Int)] ∧ IsPot H p ∧ 2 ≤ n ∧ n ≤ 24 ∧ ∀ v H' R, Lat n R → PS p H H' → Dx (hide [p] H') v (eSq R) → Q v H'
theorem ints_of {es : List PyData} {n : Nat} (h : es.Perm ((rgI n).map PyData.int)) : ∃ ns, es = ns.map PyData.int ∧ IsRen n ns := perm_map_inv h rfl
theorem lstI {H : Hp} {v : V} {ns : List Int} (h : Dx H v (.list (ns.map PyData.int))) : ∃ l, v = .ref l ∧ H l = some (.lst (ns.map V.int)) := by
  obtain ⟨l, xs, rfl, h1, h2⟩ := h.lstE
  rw [h2.of_ints] at h1
  exact ⟨l, rfl, h1⟩
theorem ok_l_square (F : Fun K "_law_square" "_law_square" s_l_square f fd) (T : Txt K mg a) (D__law_dip : Has P w K mg base 1 "_law_dip" sp_dip) (D__law_pick : Has P w K mg base 2 "_law_pick" sp_pick) (D__law_shaken : Has P w K mg base 2 "_law_shaken" sp_shaken)
    (D__law_across : Has P w K mg base 1 "_law_across" sp_across) (D__law_switched_rows : Has P w K mg base 1 "_law_switched_rows" sp_swrows) : FnOk P w K mg base CX0 3 f fd ["_law_pot_here", "_law_order"] sp_square := by
  refine F.ok sc_l_square (fun vs H Q E q => by obtain ⟨_, _, rfl, _⟩ := q; rfl) (fun cdv A outer s H vs Q E hr h => ?_)
  obtain ⟨p, n, rfl, hp, h2, h24, q⟩ := h
  refine ⟨_, (pss_cons (ps_asg (pe_tup (pa_cons (pe_fn D__law_shaken (hr.mono (by decide)) (by rfl) (pa_cons (pv 0) (pa_cons (pe_listRg rfl (by rfl) T.n_list (prg_1 (by rfl) T.n_range (pv 1))) pa_nil))) (pa_cons (pe_lst pa_nil) pa_nil))) (pg_tupK (n := 2) K rfl (pgs_cons (pg_name (i := 2) sc_l_square.nd rfl (by first | exact Or.inl rfl | exact Or.inr rfl)) (pgs_cons (pg_name (i := 3) sc_l_square.nd rfl (by first | exact Or.inl rfl | exact Or.inr rfl)) pgs_nil)))) (pss_cons (ps_par (i := 4) (j := 5) (by rfl) sc_l_square.nd rfl rfl (by decide) rfl rfl (pa_cons (pe_fn D__law_shaken (hr.mono (by decide)) (by rfl) (pa_cons (pv 0) (pa_cons (pe_listRg rfl (by rfl) T.n_list (prg_1 (by rfl) T.n_range (pv 1))) pa_nil))) (pa_cons (pe_fn D__law_shaken (hr.mono (by decide)) (by rfl) (pa_cons (pv 0) (pa_cons (pe_listRg rfl (by rfl) T.n_list (prg_1 (by rfl) T.n_range (pv 1))) pa_nil))) pa_nil)) (by rfl)) (pss_cons (ps_for PassesOwn.never rfl (pi_listK K (pv 4)) (pg_name (i := 6) sc_l_square.nd rfl (by first | exact Or.inl rfl | exact Or.inr rfl)) (pss_one (ps_expr (pe_bmK K PySem.F.plainAttrs_list PySem.F.slot_list_append PySem.F.type_list_append mt_append (pv 3) (pa_cons (pe_lc (own := [("_law_column", 12)]) (by rfl) sc_l_square.nd (pi_listK K (pv 5)) (blkOk_by (N := n_l_square) (sc := defScope s_l_square) (by decide +kernel)) (fun _ _ _ _ _ => (pg_name (i := 12) sc_l_square.nd rfl (by first | exact Or.inl rfl | exact Or.inr rfl))) (fun _ _ _ _ _ => pts_nil) (fun _ _ _ _ _ => (pe_ix (ix_listK K) (pv 2) (pe_op op_modN (pe_op op_add (pv 6) (pv 12)) (pv 1)) (fun _ _ => rfl)))) pa_nil))))) (pss_cons (ps_for PassesOwn.never rfl (pi_range1 (by rfl) T.n_range (pa_cons (pe_ifExp (pt_cmpR op_gt (pv 1) pe_int (nomark _)) (pe_fn D__law_pick (hr.mono (by decide)) (by rfl) (pa_cons (pv 0) (pa_cons (pe_lst (pa_cons pe_int (pa_cons pe_int (pa_cons pe_int (pa_cons pe_int pa_nil))))) pa_nil))) pe_int) pa_nil)) (pg_name (i := 7) sc_l_square.nd rfl (by first | exact Or.inl rfl | exact Or.inr rfl)) (pss_cons (ps_par (i := 8) (j := 9) (by rfl) sc_l_square.nd rfl rfl (by decide) rfl rfl (pa_cons (pe_fn D__law_dip (hr.mono (by decide)) (by rfl) (pa_cons (pv 0) (pa_cons (pv 1) pa_nil))) (pa_cons (pe_fn D__law_dip (hr.mono (by decide)) (by rfl) (pa_cons (pv 0) (pa_cons pe_int pa_nil))) pa_nil)) (by rfl)) (pss_cons (ps_set (i := 10) sc_l_square.nd rfl (Or.inl rfl) (pe_op op_modN (pe_op op_add (pe_op op_add (pv 8) pe_int) (pe_fn D__law_dip (hr.mono (by decide)) (by rfl) (pa_cons (pv 0) (pa_cons (pe_op op_sub (pv 1) pe_int) pa_nil)))) (pv 1))) (pss_cons (ps_set (i := 11) sc_l_square.nd rfl (Or.inl rfl) (pe_ifExp (pt_cmpR op_eq (pv 9) pe_int (nomark _)) (pv 3) (pe_fn D__law_across (hr.mono (by decide)) (by rfl) (pa_cons (pv 3) pa_nil)))) (pss_cons (ps_set (i := 11) sc_l_square.nd rfl (Or.inl rfl) (pe_fn D__law_switched_rows (hr.mono (by decide)) (by rfl) (pa_cons (pv 11) (pa_cons (pv 8) (pa_cons (pv 10) (pa_cons (pe_fn D__law_dip (hr.mono (by decide)) (by rfl) (pa_cons (pv 0) (pa_cons (pv 1) pa_nil))) pa_nil)))))) (pss_one (ps_set (i := 3) sc_l_square.nd rfl (Or.inl rfl) (pe_ifExp (pt_cmpR op_eq (pv 9) pe_int (nomark _)) (pv 11) (pe_fn D__law_across (hr.mono (by decide)) (by rfl) (pa_cons (pv 11) pa_nil)))))))))) (pss_one (ps_ret (pv 3))))))), ?_⟩
  have rg : ∀ (σ : L2.St) H', σ[1]? = some (some (.int (n : Int))) → EvQ p (tLstRg (tRg1 (tVar 1))) σ H' fun v H2 => Dx (hide [p] H2) v (.list ((rgI n).map PyData.int)) := fun σ H' e => evq_new (evn_listRg (evd_var e (.int _)) (by omega))
  have ll : ((rgI n).map PyData.int).length ≤ 1000 := by rw [List.length_map, rgI_len]; omega
  -- signs, found
  refine (evq_shaken (i := 0) (σ := start n_l_square [.ref p, .int (n : Int)]) (E := E0) rfl (rg _ _ rfl) ll).at hp fun sv H1 p1 ⟨es, pe, hs⟩ => ?_
  obtain ⟨ss, rfl, rs⟩ := ints_of pe
  obtain ⟨sa, rfl, hsa⟩ := lstI hs
  refine ⟨by rw [sizeLine_eq]; show 0 ≤ _; omega, fun fl nfl => ⟨by rw [sizeLine_eq]; show 2 ≤ _; omega, fun t nt => ?_⟩⟩
  have hsa1 := hide_of hsa
  have nflp : fl ≠ p := fun z => p1.q.ne fl (by rw [z]; exact List.mem_singleton_self _) nfl
  have sA := (same_new nfl (o := .lst [])).trans (same_new nt (o := .tup [.ref sa, .ref fl]))
  have flA : (upd (upd H1 fl (.lst [])) t (.tup [.ref sa, .ref fl])) fl = some (.lst []) := same_new nt _ _ upd_same
  have tA : (upd (upd H1 fl (.lst [])) t (.tup [.ref sa, .ref fl])) t = some (.tup [.ref sa, .ref fl]) := upd_same
  refine ⟨t, _, rfl, .of tA, rfl, _, _, rfl, _, _, rfl, rfl, ?_⟩
  dsimp only
  generalize upd (upd H1 fl (.lst [])) t (.tup [.ref sa, .ref fl]) = HA at sA flA ⊢
  have pA : PS p H HA := p1.trans (.of p1.q sA)
  have saA : HA sa = some (.lst (ss.map V.int)) := sA _ _ hsa1.2
  have safl : sa ≠ fl := fun z => by rw [z, nfl] at hsa1; cases hsa1.2
  have nflH : H fl = none := by
    cases e : H fl with
    | none => rfl
    | some o =>
      have := p1.up fl o (by rw [hide_out (by simpa using nflp)]; exact e)
      rw [nfl] at this
      cases this
  -- lines, columns
  refine sd_par ?_
  refine (evq_shaken (i := 0) (σ := [some (.ref p), some (.int (n : Int)), some (.ref sa), some (.ref fl), none, none, none, none, none, none, none, none, none]) (E := E0) rfl (rg _ _ rfl) ll).at pA.q fun lv H3 p3 ⟨es, pe, hl⟩ => ?_
  obtain ⟨ls, rfl, rl⟩ := ints_of pe
  refine (evq_shaken (i := 0) (σ := [some (.ref p), some (.int (n : Int)), some (.ref sa), some (.ref fl), none, none, none, none, none, none, none, none, none]) (E := E0) rfl (rg _ _ rfl) ll).at p3.q fun cv H4 p4 ⟨es, pe, hc⟩ => ⟨_, _, rfl, ?_⟩
  obtain ⟨cs, rfl, rc⟩ := ints_of pe
  have hl := dxh p4 hl
  obtain ⟨la, rfl, hla⟩ := lstI hl
  obtain ⟨ca, rfl, hca⟩ := lstI hc
  have hla := (hide_of hla).2
  have hca := (hide_of hca).2
  have p14 : PS p HA H4 := p3.trans p4
  have keep : ∀ x o, x ≠ p → HA x = some o → H4 x = some o := fun x o ne e => p14.up x o (by rw [hide_out (by simpa using ne)]; exact e)
  have fl4 := keep _ _ nflp flA
  have sa4 := keep _ _ (fun z => hsa1.1 (by rw [z]; exact List.mem_singleton_self _)) saA
  have ne0 : ∀ {ns : List Int}, IsRen n ns → (HO.lst (ns.map V.int)) ≠ .lst [] := fun h e => by
    have := h.len
    simp only [HO.lst.injEq, List.map_eq_nil_iff] at e
    rw [e] at this
    simp at this
    omega
  have lafl : la ≠ fl := fun z => by
    rw [z, fl4] at hla
    exact ne0 rl (Option.some.inj hla).symm
  have cafl : ca ≠ fl := fun z => by
    rw [z, fl4] at hca
    exact ne0 rc (Option.some.inj hca).symm
  have pB : PS p H H4 := pA.trans p14
  show tSeq _ _ _ [some (.ref p), some (.int (n : Int)), some (.ref sa), some (.ref fl), some (.ref la), some (.ref ca), none, none, none, none, none, none, none] H4
  refine ⟨_, rfl, la, rfl, ⟨_, .of hla⟩, ?_⟩
  have row : ∀ (x : Int) (σ : L2.St) (Hx : Hp), σ[1]? = some (some (.int (n : Int))) → σ[2]? = some (some (.ref sa)) → σ[5]? = some (some (.ref ca)) → σ[6]? = some (some (.int x)) → σ.length = 13 → Hx sa = some (.lst (ss.map V.int)) → Hx ca = some (.lst (cs.map V.int)) →
      EvN (tLc (iList K (tVar 5)) (gName 12) tYes (tOp (rIxL K) (tVar 2) (tOp (rI (fun _ j => j ≠ 0) fun i j => .int (i.fmod j)) (tOp (rI0 fun i j => .int (i + j)) (tVar 6) (tVar 12)) (tVar 1))) [12]) σ Hx (eRl (cs.map fun y => ss.getD ((x + y).fmod n).toNat 0)) := fun x σ Hx e1 e2 e5 e6 e13 k1 k2 => by
    unfold eRl
    rw [List.map_map]
    refine evn_lc (l := cs) (enc := PyData.int) (src_list (K := K) (evd_var e5 (.lst k2 (DxA.ints cs)))) (fun y => PyData.int (ss.getD ((x + y).fmod n).toNat 0)) (by rw [rc.len, sizeLine_eq]; omega) (fun i y z H' ey s3 hz => ?_) gm_name
    match σ, e13, e1, e2, e5, e6 with
    | [u0, u1, u2, u3, u4, u5, u6, u7, u8, u9, u10, u11, u12], _, e1, e2, e5, e6 =>
    refine ⟨rfl, Same.refl _, evn_int ?_⟩
    have f1 := Int.fmod_nonneg_of_pos (x + y) (b := (n : Int)) (by omega)
    have f2 := Int.fmod_lt_of_pos (x + y) (b := (n : Int)) (by omega)
    have f3 : ((((x + y).fmod n).toNat : Nat) : Int) = (x + y).fmod n := by omega
    refine evd_ixL (k := ((x + y).fmod n).toNat) (ds := ss.map PyData.int) (evd_var e2 (.lst (s3 _ _ k1) (DxA.ints ss))) ?_ ?_
    · rw [f3]
      exact evd_I (evd_I0 (evd_var e6 (.int _)) (evd_var rfl hz) fun _ => .int _) (evd_var e1 (.int _)) (by omega) fun _ => .int _
    · have hk : ((x + y).fmod n).toNat < ss.length := by rw [rs.len]; omega
      rw [List.getElem?_map, getD_at hk, List.getElem?_eq_getElem hk]
      rfl
  refine for_it (walk_list (K := K) (a := la) (xs := ls.map V.int)) (fun j σ' Hc => ∃ u6 acc, σ' = [some (.ref p), some (.int (n : Int)), some (.ref sa), some (.ref fl), some (.ref la), some (.ref ca), u6, none, none, none, none, none, none] ∧ PS p H Hc ∧ Hc sa = some (.lst (ss.map V.int)) ∧ Hc la = some (.lst (ls.map V.int)) ∧ Hc ca = some (.lst (cs.map V.int)) ∧ Hc fl = some (.lst acc) ∧ DxA (hide [p, fl] Hc) acc ((sqR ss (ls.take j) cs n).map eRl))
    ⟨_, [], rfl, pB, sa4, hla, hca, fl4, .nil⟩ (fun j σ' Hc _ ⟨_, _, _, _, _, e, _⟩ => .of e) (fun j zv σ' Hc Hx hj ⟨u6, acc, es, pC, k1, k2, k3, k4, k5⟩ ⟨eH, ez⟩ => ?_) fun σ' Hc ⟨u6, acc, es, pC, k1, k2, k3, k4, k5⟩ => ?_
  · subst eH es
    rw [List.length_map] at hj
    rw [List.getElem?_map, List.getElem?_eq_getElem hj] at ez
    have ez := (Option.some.inj ez).symm
    subst ez
    have tk : (sqR ss (ls.take (j + 1)) cs n).map eRl = (sqR ss (ls.take j) cs n).map eRl ++ [eRl (cs.map fun y => ss.getD ((ls[j] + y).fmod n).toNat 0)] := by
      unfold sqR
      rw [List.take_add_one, List.getElem?_eq_getElem hj, List.map_append, List.map_append]
      rfl
    rw [tk]
    generalize ls[j] = x
    have lacc : acc.length ≤ 24 := by
      rw [k5.length, List.length_map]
      unfold sqR
      rw [List.length_map]
      have := List.length_take_le' j ls
      rw [rl.len] at this
      omega
    refine ⟨_, rfl, .inl ⟨rfl, _, .of k4⟩, ?_⟩
    refine (row x [some (.ref p), some (.int (n : Int)), some (.ref sa), some (.ref fl), some (.ref la), some (.ref ca), some (.int x), none, none, none, none, none, none] Hx rfl rfl rfl rfl rfl k1 k3) Hx (Same.refl _) _ fun rv H5 s5 hrv => ?_
    have k45 := s5 _ _ k4
    refine ⟨fl, acc, rv, rfl, rfl, k45, by rw [sizeLine_eq]; omega, ?_⟩
    refine ⟨_, acc ++ [rv], rfl, (pC.trans (.of pC.q s5)).new nflH nflp, ?_, ?_, ?_, upd_same, ?_⟩
    · rw [upd_ne safl]; exact s5 _ _ k1
    · rw [upd_ne lafl]; exact s5 _ _ k2
    · rw [upd_ne cafl]; exact s5 _ _ k3
    · rw [hide_upd (by simp)]
      refine .snoc (k5.mono (hide_mono s5) _ _) (hrv.mono (fresh_hide fun c m => ?_) _ _)
      simp only [List.mem_cons, List.not_mem_nil, or_false] at m
      rcases m with rfl | rfl
      · exact pC.q.ne _ (List.mem_singleton_self _)
      · rw [k4]
        exact fun z => nomatch z
  · subst es
    rw [List.length_map, List.take_length] at k5
    have hR0 := sqR_lat (by omega) rs rl rc
    have d0 : Dx (hide [p] Hc) (.ref fl) (eSq (sqR ss ls cs n)) := .lst (by rw [hide_out (by simpa using nflp)]; exact k4) (k5.mono (hide_more fun c m => by rw [List.mem_singleton.mp m]; exact List.mem_cons_self) _ _)
    generalize sqR ss ls cs n = R0 at hR0 d0
    have cnt : EvQ p (tIf (tTest (tOp (rI0 fun i j => .bl (decide (j < i))) (tVar 1) (tC (.int 1)))) (tCall sp_pick [] E0 (tCons (tVar 0) (tCons (tLst (tCons (tC (.int 0)) (tCons (tC (.int 2)) (tCons (tC (.int 5)) (tCons (tC (.int 9)) tNil))))) tNil))) (tC (.int 0))) [some (.ref p), some (.int (n : Int)), some (.ref sa), some (.ref fl), some (.ref la), some (.ref ca), u6, none, none, none, none, none, none] Hc fun v H2 => ∃ i ∈ [(0 : Int), 2, 5, 9], v = .int i := by
      refine evq_ifB (b := true) (evt_test (evd_I0 (evd_var (i := 1) rfl (.int (n : Int))) (evd_int (i := 1)) fun H => ?_)) (fun _ => evq_pick rfl (evq_new (evn_evf (evf_lst (ns := [0, 2, 5, 9]) (eva_cons evd_int (eva_cons evd_int (eva_cons evd_int (eva_cons evd_int eva_nil)))) (by rw [sizeLine_eq]; show 4 ≤ _; omega)))) (by simp) (by simp)) fun e => nomatch e
      have : decide ((1 : Int) < (n : Int)) = true := decide_eq_true (by omega)
      rw [this]
      exact .bl true
    refine cnt.at pC.q fun v H6 p6 ⟨m, mm, ev⟩ => ?_
    subst ev
    have mb : 0 ≤ m ∧ m ≤ 9 := by
      simp only [List.mem_cons, List.not_mem_nil, or_false] at mm
      omega
    refine ⟨m, rfl, by omega, by omega, ?_⟩
    refine for_it walk_range (fun j σ' Hd => ∃ fv u7 u8 u9 u10 u11 R, σ' = [some (.ref p), some (.int (n : Int)), some (.ref sa), some fv, some (.ref la), some (.ref ca), u6, u7, u8, u9, u10, u11, none] ∧ PS p H Hd ∧ Lat n R ∧ Dx (hide [p] Hd) fv (eSq R))
      ⟨_, none, none, none, none, none, R0, rfl, pC.trans p6, hR0, dxh p6 d0⟩ (fun _ _ _ _ _ => trivial) (fun j zv σ' Hd Hx hj ⟨fv, u7, u8, u9, u10, u11, R, es, pD, hR, hd⟩ y => ?_) fun σ' Hd ⟨fv, u7, u8, u9, u10, u11, R, es, pD, hR, hd⟩ => ?_
    · obtain ⟨rfl, rfl⟩ := y
      subst es
      -- one, way
      refine sd_par ?_
      refine (evq_dip (i := 0) (σ := [some (.ref p), some (.int (n : Int)), some (.ref sa), some fv, some (.ref la), some (.ref ca), u6, some (.int (0 + (j : Int))), u8, u9, u10, u11, none]) (E := E0) (n := (n : Int)) rfl (evd_var (i := 1) rfl (.int _)) ⟨by omega, by omega⟩).at pD.q fun v1 HE pE ⟨x, hx, e1⟩ => ?_
      refine (evq_dip (i := 0) (σ := [some (.ref p), some (.int (n : Int)), some (.ref sa), some fv, some (.ref la), some (.ref ca), u6, some (.int (0 + (j : Int))), u8, u9, u10, u11, none]) (E := E0) (n := 2) rfl evd_int ⟨by omega, by omega⟩).at pE.q fun v2 HF pF ⟨y, hy, e2⟩ => ⟨_, _, rfl, ?_⟩
      subst e1 e2
      have hd2 := dxh pF (dxh pE hd)
      show tSeq _ _ _ [some (.ref p), some (.int (n : Int)), some (.ref sa), some fv, some (.ref la), some (.ref ca), u6, some (.int (0 + (j : Int))), some (.int (x : Int)), some (.int (y : Int)), u10, u11, none] HF
      refine sq_asg (evq_other (i := 0) (i1 := 1) (i8 := 8) (x := x) (n := n) rfl rfl rfl ⟨h2, h24⟩ (by omega)) pF.q fun v HG pG ⟨o, ho, ne, e⟩ => ?_
      subst e
      dsimp only
      have hd3 := dxh pG hd2
      show tSeq _ _ _ [some (.ref p), some (.int (n : Int)), some (.ref sa), some fv, some (.ref la), some (.ref ca), u6, some (.int (0 + (j : Int))), some (.int (x : Int)), some (.int (y : Int)), some (.int (o : Int)), u11, none] HG
      have way : ∀ (σ : L2.St) (H : Hp), σ[9]? = some (some (.int (y : Int))) → EvT (tTest (tOp rEq (tVar 9) (tC (.int 0)))) σ H (decide ((y : Int) = 0)) := fun σ H e => evt_test (evd_eqI (evd_var e (.int _)) evd_int rfl)
      have first : EvQ p (tIf (tTest (tOp rEq (tVar 9) (tC (.int 0)))) (tVar 3) (tCall sp_across [] E0 (tCons (tVar 3) tNil))) [some (.ref p), some (.int (n : Int)), some (.ref sa), some fv, some (.ref la), some (.ref ca), u6, some (.int (0 + (j : Int))), some (.int (x : Int)), some (.int (y : Int)), some (.int (o : Int)), u11, none] HG fun v H2 => ∃ R1, Lat n R1 ∧ Dx (hide [p] H2) v (eSq R1) :=
        evq_ifB (way _ _ rfl) (fun _ => (evq_var (i := 3) rfl hd3).imp fun v H2 z => ⟨R, hR, z⟩) fun _ => (evq_across (evq_var (i := 3) rfl hd3) hR.shp h24).imp fun v H2 z => ⟨_, hR.trp, z⟩
      refine sq_asg first pG.q fun rv HI pI ⟨R1, hR1, d1⟩ => ?_
      dsimp only
      show tSeq _ _ _ [some (.ref p), some (.int (n : Int)), some (.ref sa), some fv, some (.ref la), some (.ref ca), u6, some (.int (0 + (j : Int))), some (.int (x : Int)), some (.int (y : Int)), some (.int (o : Int)), some rv, none] HI
      refine sq_asg (evq_swrows (i := 0) (evq_var (i := 11) rfl d1) hR1 h24 (evd_var (i := 8) rfl (.int (x : Int))) (evd_var (i := 10) rfl (.int (o : Int))) (by omega) ho (Ne.symm ne) rfl (evd_var (i := 1) rfl (.int (n : Int)))) pI.q fun rv2 HJ pJ ⟨R2, hR2, _, d2⟩ => ?_
      dsimp only
      show tAsg _ _ _ [some (.ref p), some (.int (n : Int)), some (.ref sa), some fv, some (.ref la), some (.ref ca), u6, some (.int (0 + (j : Int))), some (.int (x : Int)), some (.int (y : Int)), some (.int (o : Int)), some rv2, none] HJ
      have last : EvQ p (tIf (tTest (tOp rEq (tVar 9) (tC (.int 0)))) (tVar 11) (tCall sp_across [] E0 (tCons (tVar 11) tNil))) [some (.ref p), some (.int (n : Int)), some (.ref sa), some fv, some (.ref la), some (.ref ca), u6, some (.int (0 + (j : Int))), some (.int (x : Int)), some (.int (y : Int)), some (.int (o : Int)), some rv2, none] HJ fun v H2 => ∃ R1, Lat n R1 ∧ Dx (hide [p] H2) v (eSq R1) :=
        evq_ifB (way _ _ rfl) (fun _ => (evq_var (i := 11) rfl d2).imp fun v H2 z => ⟨R2, hR2, z⟩) fun _ => (evq_across (evq_var (i := 11) rfl d2) hR2.shp h24).imp fun v H2 z => ⟨_, hR2.trp, z⟩
      refine sq_asg last pJ.q fun fv2 HK pK ⟨R3, hR3, d3⟩ => ?_
      exact ⟨fv2, _, _, _, _, _, R3, rfl, (((((pD.trans pE).trans pF).trans pG).trans pI).trans pJ).trans pK, hR3, d3⟩
    · subst es
      exact ⟨_, rfl, q fv Hd R hR pD hd⟩
end
end K40
end

section
set_option Elab.async false
set_option linter.all false
set_option maxRecDepth 100000
set_option maxHeartbeats 4000000
namespace K40
open PySem PySem.Spec PyProof.Rows L2
theorem eSq_pure (R : List (List Int)) : pure' (eSq R) = true := by
  rw [eSq, pure']
  exact pureA_map (fun r => by rw [eRl, pure']; exact pureA_map (fun _ => rfl) r) R
theorem eSq_depth (R : List (List Int)) : (eSq R).depth ≤ 2 := by
  have h1 : ∀ r : List Int, (eRl r).depth ≤ 1 := fun r => by
    rw [eRl, PyData.depth]
    have := depthA_map (f := PyData.int) (n := 0) (fun _ => by simp [PyData.depth]) r
    omega
  rw [eSq, PyData.depth]
  have := depthA_map h1 R
  omega
theorem eqv_sq (R S : List (List Int)) : PyData.eqv (eSq R) (eSq S) = decide (R = S) := by
  by_cases e : R = S
  · subst e
    rw [decide_eq_true rfl]
    exact eqv_true (eSq_pure R) rfl
  · rw [decide_eq_false e]
    exact eqv_false (eSq_pure R) (eSq_pure S) fun z => e (eSq_inj z)
section
variable {K : PySem.W.Frag} {σ : L2.St} {H H' : Hp} {ta tb te tr : TE} {p : Addr} {n i : Nat} {E : XK} {d e : PyData} {P : V → Hp → Prop}
theorem evq_square (hv : σ[i]? = some (some (.ref p))) (hn : EvD te σ (hide [p] H) (.int (n : Int))) (b : 2 ≤ n ∧ n ≤ 24) : EvQ p (tCall sp_square [] E (tCons (tVar i) (tCons te tNil))) σ H fun v H2 => ∃ R, Lat n R ∧ Dx (hide [p] H2) v (eSq R) := fun H1 s Q q =>
  ⟨_, hv, hn H1 s.up _ fun v H2 s2 hv2 => ⟨p, n, by rw [hv2.intE]; rfl, s.q.same s2, b.1, b.2, fun u H3 R hR ps hd => q u H3 ((PS.of s.q s2).trans ps) ⟨R, hR, hd⟩⟩⟩
theorem evq_tup2 (ha : EvQ p ta σ H fun v H2 => Dx (hide [p] H2) v d) (hb : EvQ p tb σ H fun v H2 => Dx (hide [p] H2) v e) : EvQ p (tTup (tCons ta (tCons tb tNil))) σ H fun v H2 => Dx (hide [p] H2) v (.tuple [d, e]) := fun H1 s Q q =>
  ha H1 s _ fun x H2 s2 hx => hb H2 (s.trans s2) _ fun y H3 s3 hy => ⟨by rw [sizeLine_eq]; show 2 ≤ _; omega, fun t nt => by
    have q3 := s3.q
    refine q _ _ ((s2.trans s3).trans (.of q3 (same_new nt))) (.tup (xs := [x, y]) ?_ (.cons ((hx.mono s3.s _ _).mono (hide_mono (same_new nt)) _ _) (.one (hy.mono (hide_mono (same_new nt)) _ _))))
    rw [hide_out fun m => q3.ne t m nt]
    exact upd_same⟩
end
section
variable {P : Program} {w : World} {K : PySem.W.Frag} {mg : Str → Option Value} {base : Heap} {a : Adr} {f : Addr} {fd : FuncData}
def sp_two : Sp := fun vs H Q _ => ∃ (p : Addr) (n : Nat), vs = [.ref p, .int (n : Int)] ∧ IsPot H p ∧ 2 ≤ n ∧ n ≤ 24 ∧ ∀ v H' R S, Lat n R → Lat n S → R ≠ S → PS p H H' → Dx (hide [p] H') v (.tuple [eSq R, eSq S]) → Q v H'
theorem ok_l_two (F : Fun K "_law_two" "_law_two" s_l_two f fd) (T : Txt K mg a) (D__law_dip : Has P w K mg base 1 "_law_dip" sp_dip) (D__law_square : Has P w K mg base 3 "_law_square" sp_square)
    (D__law_across : Has P w K mg base 1 "_law_across" sp_across) (D__law_switched_rows : Has P w K mg base 1 "_law_switched_rows" sp_swrows) : FnOk P w K mg base CX0 4 f fd ["_law_pot_here", "_law_order"] sp_two := by
  refine F.ok sc_l_two (fun vs H Q E q => by obtain ⟨_, _, rfl, _⟩ := q; rfl) (fun cdv A outer s H vs Q E hr h => ?_)
  obtain ⟨p, n, rfl, hp, h2, h24, q⟩ := h
  refine ⟨_, (pss_cons (ps_set (i := 2) sc_l_two.nd rfl (Or.inl rfl) (pe_fn D__law_square (hr.mono (by decide)) (by rfl) (pa_cons (pv 0) (pa_cons (pv 1) pa_nil)))) (pss_cons (ps_set (i := 3) sc_l_two.nd rfl (Or.inl rfl) (pe_ifExp (pt_cmpR op_eq (pe_fn D__law_dip (hr.mono (by decide)) (by rfl) (pa_cons (pv 0) (pa_cons pe_int pa_nil))) pe_int (nomark _)) (pe_fn D__law_square (hr.mono (by decide)) (by rfl) (pa_cons (pv 0) (pa_cons (pv 1) pa_nil))) (pe_lc (own := [("_law_row", 7)]) (by rfl) sc_l_two.nd (pi_listK K (pv 2)) (blkOk_by (N := n_l_two) (sc := defScope s_l_two) (by decide +kernel)) (fun _ _ _ _ _ => (pg_name (i := 7) sc_l_two.nd rfl (by first | exact Or.inl rfl | exact Or.inr rfl))) (fun _ _ _ _ _ => pts_nil) (fun _ _ _ _ _ => (pe_callTy (call_lstK K) (by rfl) T.n_list bt_list (pa_cons (pv 7) pa_nil)))))) (pss_cons (ps_for PassesOwn.never rfl (pi_range1 (by rfl) T.n_range (pa_cons (pe_op op_add pe_int (pe_fn D__law_dip (hr.mono (by decide)) (by rfl) (pa_cons (pv 0) (pa_cons pe_int pa_nil)))) pa_nil)) (pg_name (i := 4) sc_l_two.nd rfl (by first | exact Or.inl rfl | exact Or.inr rfl)) (pss_cons (ps_set (i := 5) sc_l_two.nd rfl (Or.inl rfl) (pe_fn D__law_dip (hr.mono (by decide)) (by rfl) (pa_cons (pv 0) (pa_cons (pv 1) pa_nil)))) (pss_cons (ps_set (i := 6) sc_l_two.nd rfl (Or.inl rfl) (pe_op op_modN (pe_op op_add (pe_op op_add (pv 5) pe_int) (pe_fn D__law_dip (hr.mono (by decide)) (by rfl) (pa_cons (pv 0) (pa_cons (pe_op op_sub (pv 1) pe_int) pa_nil)))) (pv 1))) (pss_one (ps_if (pt_cmpR op_eq (pe_fn D__law_dip (hr.mono (by decide)) (by rfl) (pa_cons (pv 0) (pa_cons pe_int pa_nil))) pe_int (nomark _)) (pss_one (ps_set (i := 3) sc_l_two.nd rfl (Or.inl rfl) (pe_fn D__law_switched_rows (hr.mono (by decide)) (by rfl) (pa_cons (pv 3) (pa_cons (pv 5) (pa_cons (pv 6) (pa_cons (pe_fn D__law_dip (hr.mono (by decide)) (by rfl) (pa_cons (pv 0) (pa_cons (pv 1) pa_nil))) pa_nil))))))) (pss_one (ps_set (i := 3) sc_l_two.nd rfl (Or.inl rfl) (pe_fn D__law_across (hr.mono (by decide)) (by rfl) (pa_cons (pe_fn D__law_switched_rows (hr.mono (by decide)) (by rfl) (pa_cons (pe_fn D__law_across (hr.mono (by decide)) (by rfl) (pa_cons (pv 3) pa_nil)) (pa_cons (pv 5) (pa_cons (pv 6) (pa_cons (pe_fn D__law_dip (hr.mono (by decide)) (by rfl) (pa_cons (pv 0) (pa_cons (pv 1) pa_nil))) pa_nil))))) pa_nil))))))))) (pss_cons (ps_if (pt_cmpR (op_eqK K hr.units) (pv 2) (pv 3) (nomark _)) (pss_one (ps_set (i := 3) sc_l_two.nd rfl (Or.inl rfl) (pe_fn D__law_switched_rows (hr.mono (by decide)) (by rfl) (pa_cons (pv 2) (pa_cons pe_int (pa_cons pe_int (pa_cons (pe_fn D__law_dip (hr.mono (by decide)) (by rfl) (pa_cons (pv 0) (pa_cons (pv 1) pa_nil))) pa_nil))))))) pss_nil) (pss_one (ps_ret (pe_tup (pa_cons (pv 2) (pa_cons (pv 3) pa_nil))))))))), ?_⟩
  refine sq_asg (evq_square (i := 0) rfl (evd_var (i := 1) rfl (.int (n : Int))) ⟨h2, h24⟩) hp fun v1 H1 p1 ⟨R, hR, d1⟩ => ?_
  dsimp only
  show tSeq _ _ _ [some (.ref p), some (.int (n : Int)), some v1, none, none, none, none, none] H1
  have dip : ∀ (σ : L2.St) (H : Hp) (m : Int), 1 ≤ m → m ≤ 100 → σ[0]? = some (some (.ref p)) → EvQ p (tCall sp_dip [] E0 (tCons (tVar 0) (tCons (tC (.int m)) tNil))) σ H fun v _ => ∃ j : Nat, (j : Int) < m ∧ v = .int (j : Int) := fun σ H m h1 h2 e => evq_dip e evd_int ⟨h1, by omega⟩
  have hz : R.length < sizeLine := by rw [hR.len, sizeLine_eq]; omega
  have other : EvQ p (tIf (tTest (tOp rEq (tCall sp_dip [] E0 (tCons (tVar 0) (tCons (tC (.int 3)) tNil))) (tC (.int 0)))) (tCall sp_square [] E0 (tCons (tVar 0) (tCons (tVar 1) tNil))) (tLc (iList K (tVar 2)) (gName 7) tYes (tCB (rLstOf K) (tCons (tVar 7) tNil)) [7])) [some (.ref p), some (.int (n : Int)), some v1, none, none, none, none, none] H1 fun v H2 => ∃ S, Lat n S ∧ Dx (hide [p] H2) v (eSq S) := by
    refine evq_if (evqt_eq ((dip _ _ 3 (by omega) (by omega) rfl).imp fun v _ ⟨j, _, e⟩ => ⟨_, e⟩)) (evq_square (i := 0) rfl (evd_var (i := 1) rfl (.int (n : Int))) ⟨h2, h24⟩) ?_
    refine (evq_new (p := p) (d := eSq R) ?_).imp fun v H2 z => ⟨R, hR, z⟩
    refine evn_lc (σ := [some (.ref p), some (.int (n : Int)), some v1, none, none, none, none, none]) (vs := [7]) (g := gName 7) (l := R) (enc := eRl) (src_list (K := K) (evd_var (i := 2) rfl d1)) eRl hz (fun i d z H' e s3 hz => ⟨rfl, Same.refl _, evn_lstOfL (evd_var rfl hz)⟩) gm_name
  refine sq_asg other p1.q fun v2 H2 p2 ⟨S, hS, d2⟩ => ?_
  dsimp only
  show tSeq _ _ _ [some (.ref p), some (.int (n : Int)), some v1, some v2, none, none, none, none] H2
  have d1 := dxh p2 d1
  have P2 := p1.trans p2
  refine (dip [some (.ref p), some (.int (n : Int)), some v1, some v2, none, none, none, none] H2 3 (by omega) (by omega) rfl).at P2.q fun v3 H3 p3 ⟨j, hj, e⟩ => ?_
  subst e
  refine ⟨1, (j : Int), rfl, rfl, 1 + (j : Int), rfl, by omega, by omega, ?_⟩
  refine for_it walk_range (fun k σ' Hd => ∃ u4 u5 u6 v2 S, σ' = [some (.ref p), some (.int (n : Int)), some v1, some v2, u4, u5, u6, none] ∧ PS p H Hd ∧ Dx (hide [p] Hd) v1 (eSq R) ∧ Lat n S ∧ Dx (hide [p] Hd) v2 (eSq S))
    ⟨none, none, none, v2, S, rfl, P2.trans p3, dxh p3 d1, hS, dxh p3 d2⟩ (fun _ _ _ _ _ => trivial) (fun k zv σ' Hd Hx hj ⟨u4, u5, u6, v2, S, es, pD, d1, hS, d2⟩ y => ?_) fun σ' Hd ⟨u4, u5, u6, v2, S, es, pD, d1, hS, d2⟩ => ?_
  · obtain ⟨rfl, rfl⟩ := y
    subst es
    show tSeq _ _ _ [some (.ref p), some (.int (n : Int)), some v1, some v2, some (.int (0 + (k : Int))), u5, u6, none] Hx
    refine sq_asg (evq_dip (i := 0) (n := (n : Int)) rfl (evd_var (i := 1) rfl (.int (n : Int))) ⟨by omega, by omega⟩) pD.q fun va HA pA ⟨x, hx, e⟩ => ?_
    subst e
    dsimp only
    show tSeq _ _ _ [some (.ref p), some (.int (n : Int)), some v1, some v2, some (.int (0 + (k : Int))), some (.int (x : Int)), u6, none] HA
    have hx : x < n := by omega
    refine sq_asg (evq_other (i := 0) (i1 := 1) (i8 := 5) (x := x) (n := n) rfl rfl rfl ⟨h2, h24⟩ hx) pA.q fun vb HB pB ⟨o, ho, ne, e⟩ => ?_
    subst e
    dsimp only
    show tIfS _ _ _ _ [some (.ref p), some (.int (n : Int)), some v1, some v2, some (.int (0 + (k : Int))), some (.int (x : Int)), some (.int (o : Int)), none] HB
    have pAB := pA.trans pB
    have d1 := dxh pAB d1
    have d2 := dxh pAB d2
    have pDB := pD.trans pAB
    refine sq_if (evqt_eq ((dip _ _ 2 (by omega) (by omega) rfl).imp fun v _ ⟨j, _, e⟩ => ⟨_, e⟩)) pDB.q (fun HC pC => ?_) fun HC pC => ?_
    · have pDC := pDB.trans pC
      refine sq_asg (evq_swrows (i := 0) (evq_var (i := 3) rfl (dxh pC d2)) hS h24 (evd_var (i := 5) rfl (.int (x : Int))) (evd_var (i := 6) rfl (.int (o : Int))) hx ho (Ne.symm ne) rfl (evd_var (i := 1) rfl (.int (n : Int)))) pDC.q fun v4 HE pE ⟨S2, hS2, _, d4⟩ => ?_
      exact ⟨_, _, _, v4, S2, rfl, pDC.trans pE, dxh (pC.trans pE) d1, hS2, d4⟩
    · have pDC := pDB.trans pC
      have sw := evq_swrows (E := E0) (i := 0) (σ := [some (.ref p), some (.int (n : Int)), some v1, some v2, some (.int (0 + (k : Int))), some (.int (x : Int)), some (.int (o : Int)), none]) (evq_across (E := E0) (evq_var (i := 3) rfl (dxh pC d2)) hS.shp h24) hS.trp h24 (evd_var (i := 5) rfl (.int (x : Int))) (evd_var (i := 6) rfl (.int (o : Int))) hx ho (Ne.symm ne) rfl (evd_var (i := 1) rfl (.int (n : Int)))
      refine sw.at pDC.q fun v4 HE pE ⟨S2, hS2, _, d4⟩ => ?_
      refine ⟨[eSq S2], .one (d4.mono (hide_same _ _) _ _), ⟨n, S2, rfl, hS2.shp, h24⟩, fun v5 HF d pd s5 hd => ?_⟩
      have e := pd S2 rfl
      subst e
      have pF : PS p HE HF := .of pE.q s5
      exact ⟨_, _, _, v5, _, rfl, (pDC.trans pE).trans pF, dxh ((pC.trans pE).trans pF) d1, hS2.trp, hd.mono (hide_fresh pE.q) _ _⟩
  · subst es
    dsimp only
    have fin : ∀ (σ : L2.St) (H6 : Hp) (v2 : V) (S : List (List Int)), σ[2]? = some (some v1) → σ[3]? = some (some v2) → PS p H H6 → Dx (hide [p] H6) v1 (eSq R) → Dx (hide [p] H6) v2 (eSq S) → Lat n S → R ≠ S → tRet (tTup (tCons (tVar 2) (tCons (tVar 3) tNil))) { nx := fun _ H' => Q V.non H', rt := Q } σ H6 := fun σ H6 v2 S e2 e3 p6 k1 k2 hS ne =>
      sq_ret (evq_tup2 (evq_var e2 k1) (evq_var e3 k2)) p6.q fun v H7 p7 hd => q v H7 R S hR hS ne (p6.trans p7) hd
    have dR := eSq_depth R
    have dS := eSq_depth S
    refine sd_if (b := decide (R = S)) (evt_test (evd_eqD (evd_var (i := 2) rfl (d1.mono (hide_same _ _) _ _)) (evd_var (i := 3) rfl (d2.mono (hide_same _ _) _ _)) (eSq_pure R) (eSq_pure S) (by omega) (by omega) (eqv_sq R S))) (fun e H5 s5 => ?_) fun e H5 s5 => ?_
    · have p5 : PS p Hd H5 := .of pD.q s5
      have d1 := dxh p5 d1
      refine sq_asg (evq_swrows (i := 0) (x := 0) (y := 1) (evq_var (i := 2) rfl d1) hR h24 (evd_int (i := 0)) (evd_int (i := 1)) (by omega) (by omega) (by omega) rfl (evd_var (i := 1) rfl (.int (n : Int)))) p5.q fun v6 H6 p6 ⟨S2, hS2, ne, d6⟩ => ?_
      exact fin _ H6 v6 S2 rfl rfl ((pD.trans p5).trans p6) (dxh p6 d1) d6 hS2 (Ne.symm ne)
    · have p5 : PS p Hd H5 := .of pD.q s5
      exact fin _ H5 v2 S rfl rfl (pD.trans p5) (dxh p5 d1) (dxh p5 d2) hS (of_decide_eq_false e)
end
end K40
end

section
set_option Elab.async false
set_option linter.all false
set_option maxRecDepth 100000
set_option maxHeartbeats 4000000
namespace K40
open PySem PySem.Spec PyProof.Rows L2
/-! ### lists of one's own, each apart -/
def EvL (te : TE) (σ : L2.St) (H : Hp) (ds : List PyData) : Prop := ∀ H1, Same H H1 → ∀ Q : VK, (∀ b xs H2, H1 b = none → Same H1 H2 → H2 b = some (.lst xs) → DxA H2 xs ds → Q (.ref b) H2) → te σ H1 Q
structure Lk (H Hc : Hp) (as : List (Addr × List PyData)) : Prop where
  s : Same H Hc
  nd : (as.map (·.1)).Nodup
  new : ∀ a ∈ as, H a.1 = none
  at' : ∀ a ∈ as, ∃ xs, Hc a.1 = some (.lst xs) ∧ DxA Hc xs a.2 ∧ noLA a.2 = true
section
variable {H Hc Hd : Hp} {as bs : List (Addr × List PyData)} {b : Addr} {ds es : List PyData} {d : PyData} {xs : List V}
theorem Lk.same (h : Lk H Hc as) (s : Same Hc Hd) : Lk H Hd as := ⟨h.s.trans s, h.nd, h.new, fun a m => by
  obtain ⟨xs, e1, e2, e3⟩ := h.at' a m
  exact ⟨xs, s _ _ e1, e2.mono s _ _, e3⟩⟩
theorem Lk.add (h : Lk H Hc as) (s : Same Hc Hd) (n : Hc b = none) (e : Hd b = some (.lst xs)) (hx : DxA Hd xs ds) (hn : noLA ds = true) : Lk H Hd ((b, ds) :: as) where
  s := h.s.trans s
  nd := by
    rw [List.map_cons, List.nodup_cons]
    refine ⟨fun m => ?_, h.nd⟩
    obtain ⟨a, ma, ea⟩ := List.mem_map.mp m
    obtain ⟨ys, e1, _⟩ := h.at' a ma
    rw [ea, n] at e1
    cases e1
  new := fun a m => by
    rcases List.mem_cons.mp m with rfl | m
    · exact same_none h.s n
    · exact h.new a m
  at' := fun a m => by
    rcases List.mem_cons.mp m with rfl | m
    · exact ⟨xs, e, hx, hn⟩
    · exact (h.same s).at' a m
theorem Lk.set (h : Lk H Hc ((b, ds) :: as)) (hx : DxA Hc xs es) (hn : noLA es = true) : Lk H (upd Hc b (.lst xs)) ((b, es) :: as) ∧ TSame Hc (upd Hc b (.lst xs)) := by
  obtain ⟨ys, e1, e2, e3⟩ := h.at' _ List.mem_cons_self
  have t : TSame Hc (upd Hc b (.lst xs)) := tsame_mut e1 fun _ z => nomatch z
  have nd := h.nd
  rw [List.map_cons, List.nodup_cons] at nd
  refine ⟨⟨same_mut h.s (h.new _ List.mem_cons_self), by rw [List.map_cons, List.nodup_cons]; exact nd, fun a m => ?_, fun a m => ?_⟩, t⟩
  · rcases List.mem_cons.mp m with rfl | m
    · exact h.new (b, ds) List.mem_cons_self
    · exact h.new a (List.mem_cons_of_mem _ m)
  · rcases List.mem_cons.mp m with rfl | m
    · exact ⟨xs, upd_same, hx.tmono t _ _ hn, hn⟩
    · obtain ⟨zs, k1, k2, k3⟩ := h.at' a (List.mem_cons_of_mem _ m)
      refine ⟨zs, ?_, k2.tmono t _ _ k3, k3⟩
      rw [upd_ne fun e => nd.1 (List.mem_map.mpr ⟨a, m, e⟩)]
      exact k1
theorem Lk.sub (h : Lk H Hc as) (s : bs.Sublist as) : Lk H Hc bs := ⟨h.s, (s.map _).nodup h.nd, fun a m => h.new a (s.subset m), fun a m => h.at' a (s.subset m)⟩
theorem Lk.perm (h : Lk H Hc as) (s : bs.Perm as) : Lk H Hc bs := ⟨h.s, (s.map _).nodup_iff.mpr h.nd, fun a m => h.new a (s.mem_iff.mp m), fun a m => h.at' a (s.mem_iff.mp m)⟩
theorem Lk.dx (h : Lk H Hc as) (m : (b, ds) ∈ as) : Dx Hc (.ref b) (.list ds) := by
  obtain ⟨xs, e1, e2, _⟩ := h.at' _ m
  exact .lst e1 e2
theorem noLA_app {ds es : List PyData} (h : noLA ds = true) (g : noLA es = true) : noLA (ds ++ es) = true := by
  induction ds with
  | nil => exact g
  | cons d ds ih =>
    rw [noLA, Bool.and_eq_true] at h
    rw [List.cons_append, noLA, h.1, ih h.2]
    rfl
theorem noLA_left {ds es : List PyData} (h : noLA (ds ++ es) = true) : noLA ds = true ∧ noLA es = true := by
  induction ds with
  | nil => exact ⟨rfl, h⟩
  | cons d ds ih =>
    rw [List.cons_append, noLA, Bool.and_eq_true] at h
    obtain ⟨a, b⟩ := ih h.2
    exact ⟨by rw [noLA, h.1, a]; rfl, b⟩
end
section
variable {K : PySem.W.Frag} {σ : L2.St} {H Hc : Hp} {as : List (Addr × List PyData)} {b : Addr} {ds es : List PyData} {d : PyData} {i : Nat} {te ta tb : TE}
theorem lk_pop {Q : VK} (h : Lk H Hc ((b, ds ++ [d]) :: as)) (e : σ[i]? = some (some (.ref b))) (q : ∀ y H', Dx H' y d → Lk H H' ((b, ds) :: as) → TSame Hc H' → Q y H') : tBM0 K "list" rPop (tVar i) σ Hc Q := by
  obtain ⟨xs, e1, e2, e3⟩ := h.at' _ List.mem_cons_self
  obtain ⟨ys, y, rfl, h1, h2⟩ := e2.snocE
  obtain ⟨n1, n2⟩ := noLA_left e3
  obtain ⟨l2, t2⟩ := h.set h1 n1
  refine ⟨_, e, .inl ⟨rfl, _, .of e1⟩, b, ys ++ [y], y, rfl, rfl, e1, by simp, ?_⟩
  rw [List.dropLast_concat]
  refine q y _ (h2.tmono t2 _ _ ?_) l2 t2
  rw [noLA, Bool.and_eq_true] at n2
  exact n2.1
theorem lk_app {Q : VK} (h : Lk H Hc ((b, ds) :: as)) (e : σ[i]? = some (some (.ref b))) (hx : EvD te σ Hc d) (hn : noL d = true) (hl : ds.length ≤ 100000) (q : ∀ H', Lk H H' ((b, ds ++ [d]) :: as) → TSame Hc H' → Q .non H') : tBM K "list" rAppend (tVar i) (tCons te tNil) σ Hc Q := by
  obtain ⟨xs, e1, e2, e3⟩ := h.at' _ List.mem_cons_self
  refine ⟨_, e, .inl ⟨rfl, _, .of e1⟩, ?_⟩
  refine (eva_cons hx eva_nil).at fun vs H2 s2 hv => ?_
  obtain ⟨y, rfl, hy⟩ := hv.oneE
  obtain ⟨l2, t2⟩ := (h.same s2).set (xs := xs ++ [y]) (es := ds ++ [d]) ((e2.mono s2 _ _).snoc hy) (noLA_app e3 (by rw [noLA, hn]; rfl))
  exact ⟨b, xs, y, rfl, rfl, s2 _ _ e1, by rw [e2.length, sizeLine_eq]; show ds.length < _; omega, q _ l2 (TSame.trans (Same.t s2) t2)⟩
theorem evl_cat (ha : EvD ta σ H (.list ds)) (hb : EvD tb σ H (.list es)) (hl : ds.length + es.length ≤ 100000) : EvL (tOp rCat ta tb) σ H (ds ++ es) := fun H1 s Q q =>
  ha H1 s _ fun x H2 s2 hx => hb H2 (s.trans s2) _ fun y H3 s3 hy => by
    obtain ⟨a, xs, rfl, h1, h2⟩ := (hx.mono s3 _ x).lstE
    obtain ⟨b, ys, rfl, h3, h4⟩ := hy.lstE
    exact ⟨a, b, xs, ys, rfl, rfl, h1, h3, by rw [h2.length, h4.length, sizeLine_eq]; omega, fun p hp => q p _ _ (same_none (s2.trans s3) hp) ((s2.trans s3).trans (same_new hp)) upd_same ((h2.append h4).mono (same_new hp) _ _)⟩
theorem evl_lcIf {α : Type} {l : List α} {enc : α → PyData} {wi : TI} {g : TG} {tt : TT} {te : TE} {vs : List Nat} (hw : Src wi σ H (l.map enc)) (p : α → Bool) (f : α → PyData) (hl : l.length < sizeLine)
    (hb : ∀ (i : Nat) d x H', l[i]? = some d → Same H H' → Dx H' x (enc d) → g x (wipe σ vs) H' fun σ2 H2 => wipe σ2 vs = wipe σ vs ∧ Same H' H2 ∧ EvT tt σ2 H2 (p d) ∧ (p d = true → EvD te σ2 H2 (f d) ∧ noL (f d) = true)) (hg : ∀ x (σ : L2.St) H (Q Q' : L2.St → Hp → Prop), (∀ σ H, Q σ H → Q' σ H) → g x σ H Q → g x σ H Q') :
    EvL (tLc wi g tt te vs) σ H ((l.filter p).map f) := fun H1 s Q q => hw H1 s _ fun J H2 G Y s2 w hG hY D nD => by
  have sH2 : Same H H2 := s.trans s2
  rw [List.length_map] at w hY
  refine lc_it w (fun i Hc => Same H2 Hc ∧ ∃ acc, Hc D = some (.lst acc) ∧ DxA Hc acc (((l.take i).filter p).map f) ∧ noLA (((l.take i).filter p).map f) = true) ⟨same_new nD, [], upd_same, .nil, rfl⟩ (fun i Hc _ z => hG Hc z.1) (fun i x Hc Hx hi z y => ?_) fun Hc z => ?_
  · obtain ⟨z1, acc, zD, za, zn⟩ := z
    obtain ⟨s3, d0, ed0, hx⟩ := hY i Hc x Hx z1 hi y
    rw [List.getElem?_map] at ed0
    obtain ⟨d, ed, rfl⟩ := Option.map_eq_some_iff.mp ed0
    have tk : l.take (i + 1) = l.take i ++ [d] := by
      rw [List.take_add_one, ed]
      rfl
    refine hg _ _ _ _ _ (fun σ2 H3 z => ?_) (hb i d x Hx ed ((sH2.trans z1).trans s3) hx)
    obtain ⟨e1, s4, ht, he⟩ := z
    refine ⟨e1, ht.at fun H4 s5 => ?_⟩
    have s35 : Same Hc H4 := (s3.trans s4).trans s5
    cases hp : p d with
    | true =>
      refine iteT ?_
      obtain ⟨he, hn⟩ := he hp
      have e2 : ((l.take (i + 1)).filter p).map f = ((l.take i).filter p).map f ++ [f d] := by rw [tk]; simp [hp]
      refine (he.mono s5).at fun y H5 s6 hy => ⟨acc, s6 _ _ (s35 _ _ zD), ?_, ?_⟩
      · rw [za.length, List.length_map]
        have := List.length_filter_le p (l.take i)
        have := List.length_take_le i l
        omega
      · have aD : H5 D = some (.lst acc) := s6 _ _ (s35 _ _ zD)
        have tm : TSame H5 (upd H5 D (.lst (acc ++ [y]))) := tsame_mut aD fun _ z => nomatch z
        rw [e2]
        exact ⟨same_mut ((z1.trans s35).trans s6) nD, acc ++ [y], upd_same, .snoc ((za.mono (s35.trans s6) _ acc).tmono tm _ acc zn) (hy.tmono tm _ y hn), noLA_app zn (by rw [noLA, hn]; rfl)⟩
    | false =>
      refine iteF ?_
      have e2 : ((l.take (i + 1)).filter p).map f = ((l.take i).filter p).map f := by rw [tk]; simp [hp]
      rw [e2]
      exact ⟨z1.trans s35, acc, s35 _ _ zD, za.mono s35 _ acc, zn⟩
  · obtain ⟨z1, acc, zD, za, _⟩ := z
    rw [List.take_length] at za
    exact q D acc Hc (same_none s2 nD) (s2.trans z1) zD za
end
/-! ### sides and cells -/
def eV (v : Vx) : PyData := .tuple [.int (cond v.1 0 1), eC v.2]
theorem eV_noL (v : Vx) : noL (eV v) = true := by simp [eV, noL, noLA, eC_noL]
theorem eV_pure (v : Vx) : pure' (eV v) = true := by simp [eV, pure', pureA, eC_pure]
theorem eV_pureB (v : Vx) : pureB (eV v) = true := by simp [eV, eC, pureB, pureBA]
theorem eV_depth (v : Vx) : (eV v).depth ≤ 2 := by
  have := eC_depth v.2
  simp only [eV, PyData.depth, PyData.depthAll]
  omega
theorem eV_inj {u v : Vx} (h : eV u = eV v) : u = v := by
  obtain ⟨a, c⟩ := u
  obtain ⟨b, d⟩ := v
  simp only [eV, PyData.tuple.injEq, List.cons.injEq, PyData.int.injEq, and_true] at h
  have := eC_inj h.2
  subst this
  have h1 := h.1
  cases a <;> cases b <;> simp at h1 <;> rfl
theorem any_eV (l : List Vx) (v : Vx) : ((l.map eV).any fun z => PyData.eqv z (eV v)) = decide (v ∈ l) := by
  by_cases m : v ∈ l
  · rw [decide_eq_true m]
    exact List.any_eq_true.mpr ⟨eV v, List.mem_map.mpr ⟨v, m, rfl⟩, eqv_true (eV_pure v) rfl⟩
  · rw [decide_eq_false m]
    refine List.any_eq_false.mpr fun z mz => ?_
    obtain ⟨u, mu, rfl⟩ := List.mem_map.mp mz
    rw [eqv_false (eV_pure u) (eV_pure v) fun e => m (by rw [← eV_inj e]; exact mu)]
    exact Bool.false_ne_true
/-- joined, as the law tells it -/
def adjB (h v : Vx) : Bool := !decide ((cond v.1 0 1 : Int) = cond h.1 0 1) && decide ((sh h.2 v.2 : Nat) = 2)
theorem adjB_iff {n : Int} {T : Trade} (hT : IsTrade n T) {h v : Vx} (mh : Mem T h) (mv : Mem T v) : adjB h v = true ↔ Adj h v := by
  obtain ⟨a, c⟩ := h
  obtain ⟨b, d⟩ := v
  unfold adjB Adj
  have key : a ≠ b → c ≠ d := fun ne e => by
    subst e
    have : b = !a := by cases a <;> cases b <;> simp_all
    subst this
    exact hT.dis a c mh mv
  show (!decide ((cond b 0 1 : Int) = cond a 0 1) && decide (sh c d = 2)) = true ↔ b = (!a) ∧ ∃ k, pr k c = pr k d
  rw [Bool.and_eq_true, decide_eq_true_iff]
  by_cases e : a = b
  · subst e
    constructor
    · intro z
      simp at z
    · intro z
      cases a <;> simp at z
  · have e2 : b = !a := by cases a <;> cases b <;> simp_all
    subst e2
    rw [sh_two (key e)]
    refine ⟨fun z => ⟨rfl, z.2⟩, fun z => ⟨?_, z.2⟩⟩
    cases a <;> simp
def oc (O : List Vx) (b : Bool) : List Cell := (O.filter fun v => decide ((cond v.1 0 1 : Int) = cond b 0 1)).map (·.2)
theorem mem_oc {O : List Vx} {b : Bool} {c : Cell} : c ∈ oc O b ↔ (b, c) ∈ O := by
  unfold oc
  rw [List.mem_map]
  constructor
  · rintro ⟨⟨a, d⟩, m, rfl⟩
    obtain ⟨m, e⟩ := List.mem_filter.mp m
    have e := of_decide_eq_true e
    have : a = b := by cases a <;> cases b <;> simp at e <;> rfl
    rw [← this]
    exact m
  · intro m
    exact ⟨(b, c), List.mem_filter.mpr ⟨m, by simp⟩, rfl⟩
theorem oc_nodup {O : List Vx} (h : O.Nodup) (b : Bool) : (oc O b).Nodup := by
  unfold oc
  rw [List.nodup_iff_pairwise_ne, List.pairwise_map]
  have h2 : (O.filter fun v => decide ((cond v.1 0 1 : Int) = cond b 0 1)).Nodup := h.filter _
  refine List.Pairwise.imp_of_mem (fun {u v} mu mv ne e => ne ?_) h2
  have e1 := of_decide_eq_true (List.mem_filter.mp mu).2
  have e2 := of_decide_eq_true (List.mem_filter.mp mv).2
  obtain ⟨a, c⟩ := u
  obtain ⟨a', c'⟩ := v
  have : a = a' := by cases a <;> cases a' <;> cases b <;> simp at e1 e2 <;> rfl
  exact Prod.ext this e
end K40
end

section
set_option Elab.async false
set_option linter.all false
set_option maxRecDepth 100000
set_option maxHeartbeats 4000000
namespace K40
open PySem PySem.Spec PyProof.Rows L2
theorem eT_sorted {K : PySem.W.Frag} {σ : L2.St} {H : Hp} {te : TE} {ps : List Trade} {x : PyData} (h : EvD te σ H x) (hx : x = .list (ps.map eT) ∨ x = .tuple (ps.map eT)) : EvD (tCB (rSortD K) (tCons te tNil)) σ H (.list ((ps.map eT).mergeSort dLe)) := by
  refine evd_sorted (ds := ps.map eT) h hx (pureA_map eT_pure ps) ?_ ?_ ?_
  · intro d md e me
    obtain ⟨_, _, rfl⟩ := List.mem_map.mp md
    obtain ⟨_, _, rfl⟩ := List.mem_map.mp me
    exact eT_alike _ _
  · refine .inl fun d md => ?_
    obtain ⟨_, _, rfl⟩ := List.mem_map.mp md
    exact ⟨_, _, rfl⟩
  · intro d md
    obtain ⟨t, _, rfl⟩ := List.mem_map.mp md
    have := eT_depth t
    omega
theorem sd_tup2 {ta tb : TE} {g : TG} {D : Ends} {σ : L2.St} {H : Hp} (h : ta σ H fun x H1 => tb σ H1 fun y H2 => [x, y].length ≤ sizeLine ∧ ∀ p, H2 p = none → g (.ref p) σ (upd H2 p (.tup [x, y])) D.nx) : tAsg (tTup (tCons ta (tCons tb tNil))) g D σ H := h
theorem sl_asg {te : TE} {i : Nat} {D : Ends} {σ : L2.St} {H : Hp} {ds : List PyData} (h : EvL te σ H ds) (q : ∀ b xs H2, H b = none → Same H H2 → H2 b = some (.lst xs) → DxA H2 xs ds → D.nx (σ.set i (some (.ref b))) H2) : tAsg te (gName i) D σ H := h H (Same.refl _) _ q
theorem pin_len {n : Int} {T : Trade} {ps : List Trade} {s : Vx} {L O W : List Vx} (hT : IsTrade n T) (hn : n ≤ 24) (q : Pin T ps s L O W) : O.length + W.length + L.length ≤ 1152 := by
  have h1 := len_le_of_inj id (m := vxs T) q.nd (fun v m => mem_vxs.mpr (by
    rcases List.mem_append.mp m with m | m
    · rcases List.mem_append.mp m with m | m
      · exact (q.rc v (.inl m)).tgt
      · exact (q.rc v (.inr m)).tgt
    · exact q.memL v m)) fun _ _ _ _ e => e
  have h2 : (vxs T).length = T.1.length + T.2.length := by unfold vxs; rw [List.length_append, List.length_map, List.length_map]
  have h3 : T.1.length ≤ 576 := side_len hT hn true
  have h4 : T.2.length ≤ 576 := side_len hT hn false
  rw [List.length_append, List.length_append] at h1
  omega
theorem vxs_map (T : Trade) : (vxs T).map eV = (T.1.map fun c => eV (true, c)) ++ T.2.map fun c => eV (false, c) := by
  unfold vxs
  rw [List.map_append, List.map_map, List.map_map]
  rfl
section
variable {P : Program} {w : World} {K : PySem.W.Frag} {mg : Str → Option Value} {base : Heap} {a : Adr} {f : Addr} {fd : FuncData}
def sp_pieces : Sp := spD (fun ds => ∃ (n : Int) (T : Trade), ds = [eT T] ∧ IsTrade n T ∧ n ≤ 24) (fun ds d => ∀ T, ds = [eT T] → ∃ ps, IsParts tLe T ps ∧ d = .tuple (ps.map eT))
theorem ok_l_pieces (F : Fun K "_law_pieces" "_law_pieces" s_l_pieces f fd) (T : Txt K mg a) (D__law_shared : Has P w K mg base 1 "_law_shared" sp_shared) : FnOk P w K mg base CX0 2 f fd ["_law_trade"] sp_pieces := by
  refine F.ok sc_l_pieces (spD_len fun ds ⟨_, _, e, _⟩ => by rw [e]; rfl) (fun cdv A outer s H vs Q E hr h => ?_)
  obtain ⟨ds, hv, ⟨n, tr, rfl, hT, hn⟩, q⟩ := h
  obtain ⟨tv, rfl, htv⟩ := hv.oneE
  refine ⟨_, (pss_cons (ps_par (i := 1) (j := 2) (by rfl) sc_l_pieces.nd rfl rfl (by decide) rfl rfl (pa_cons (pe_op op_cat (pe_lc (own := [("_law_cell", 9)]) (by rfl) sc_l_pieces.nd (pi_tupK K (pe_ix (ix_tupK K) (pv 0) pe_int (fun _ _ => rfl))) (blkOk_by (N := n_l_pieces) (sc := defScope s_l_pieces) (by decide +kernel)) (fun _ _ _ _ _ => (pg_name (i := 9) sc_l_pieces.nd rfl (by first | exact Or.inl rfl | exact Or.inr rfl))) (fun _ _ _ _ _ => pts_nil) (fun _ _ _ _ _ => (pe_tup (pa_cons pe_int (pa_cons (pv 9) pa_nil))))) (pe_lc (own := [("_law_cell", 9)]) (by rfl) sc_l_pieces.nd (pi_tupK K (pe_ix (ix_tupK K) (pv 0) pe_int (fun _ _ => rfl))) (blkOk_by (N := n_l_pieces) (sc := defScope s_l_pieces) (by decide +kernel)) (fun _ _ _ _ _ => (pg_name (i := 9) sc_l_pieces.nd rfl (by first | exact Or.inl rfl | exact Or.inr rfl))) (fun _ _ _ _ _ => pts_nil) (fun _ _ _ _ _ => (pe_tup (pa_cons pe_int (pa_cons (pv 9) pa_nil)))))) (pa_cons (pe_lst pa_nil) pa_nil)) (by rfl)) (pss_cons (ps_while PassesOwn.never (pt_cmpR (op_neK K hr.units) (pv 1) (pe_lst pa_nil) (nomark _)) (pss_cons (ps_asg (pe_tup (pa_cons (pe_lst pa_nil) (pa_cons (pe_lst (pa_cons (pe_bm0 PySem.F.plainAttrs_list PySem.F.slot_list_pop PySem.F.type_list_pop mt_pop (pv 1)) pa_nil)) pa_nil))) (pg_tupK (n := 2) K rfl (pgs_cons (pg_name (i := 3) sc_l_pieces.nd rfl (by first | exact Or.inl rfl | exact Or.inr rfl)) (pgs_cons (pg_name (i := 4) sc_l_pieces.nd rfl (by first | exact Or.inl rfl | exact Or.inr rfl)) pgs_nil)))) (pss_cons (ps_while PassesOwn.never (pt_cmpR (op_neK K hr.units) (pv 4) (pe_lst pa_nil) (nomark _)) (pss_cons (ps_set (i := 5) sc_l_pieces.nd rfl (Or.inr rfl) (pe_bm0 PySem.F.plainAttrs_list PySem.F.slot_list_pop PySem.F.type_list_pop mt_pop (pv 4))) (pss_cons (ps_expr (pe_bmK K PySem.F.plainAttrs_list PySem.F.slot_list_append PySem.F.type_list_append mt_append (pv 3) (pa_cons (pv 5) pa_nil))) (pss_cons (ps_set (i := 6) sc_l_pieces.nd rfl (Or.inr rfl) (pe_lc (own := [("_law_there", 10)]) (by rfl) sc_l_pieces.nd (pi_listK K (pv 1)) (blkOk_by (N := n_l_pieces) (sc := defScope s_l_pieces) (by decide +kernel)) (fun _ _ _ _ _ => (pg_name (i := 10) sc_l_pieces.nd rfl (by first | exact Or.inl rfl | exact Or.inr rfl))) (fun _ _ _ _ _ => (pts_one (PW.pt (pw_and (pt_cmpR op_ne (pe_ix (ix_tupK K) (pv 10) pe_int (fun _ _ => rfl)) (pe_ix (ix_tupK K) (pv 5) pe_int (fun _ _ => rfl)) (nomark _)) (pw_and1 (pt_cmpR op_eq (pe_fn D__law_shared (hr.mono (by decide)) (by rfl) (pa_cons (pe_ix (ix_tupK K) (pv 5) pe_int (fun _ _ => rfl)) (pa_cons (pe_ix (ix_tupK K) (pv 10) pe_int (fun _ _ => rfl)) pa_nil))) pe_int (nomark _))))))) (fun _ _ _ _ _ => (pv 10)))) (pss_cons (ps_setLc (i := 1) (own := [("_law_there", 10)]) (by rfl) sc_l_pieces.nd rfl rfl (sw_true rfl rfl rfl (by decide +kernel)) (pi_listK K (pv 1)) (blkOk_by (N := n_l_pieces) (sc := defScope s_l_pieces) (by decide +kernel)) (fun _ _ _ _ _ => (pg_name (i := 10) sc_l_pieces.nd rfl (by first | exact Or.inl rfl | exact Or.inr rfl))) (fun _ _ _ _ _ => (pts_one (pt_cmpR (op_notInK K (hu65_of hr)) (pv 10) (pv 6) (by with_unfolding_all rfl)))) (fun _ _ _ _ _ => (pv 10))) (pss_one (ps_set (i := 4) sc_l_pieces.nd rfl (Or.inl rfl) (pe_op op_cat (pv 4) (pv 6))))))))) (pss_cons (ps_setLc (i := 7) (own := [("_law_at", 8)]) (by rfl) sc_l_pieces.nd rfl rfl (sw_true rfl rfl rfl (by decide +kernel)) (pi_range1 (by rfl) T.n_range (pa_cons pe_int pa_nil)) (blkOk_by (N := n_l_pieces) (sc := defScope s_l_pieces) (by decide +kernel)) (fun _ _ _ _ _ => (pg_name (i := 8) sc_l_pieces.nd rfl (by first | exact Or.inl rfl | exact Or.inr rfl))) (fun _ _ _ _ _ => pts_nil) (fun _ _ _ _ _ => (pe_callTy (call_tupK K) (by rfl) T.n_tuple bt_tuple (pa_cons (pe_callB (cr_sortedK K hr.units) (by rfl) T.n_sorted bt_sorted (pa_cons (pe_lc (own := [("_law_side", 11), ("_law_cell", 9)]) (by rfl) sc_l_pieces.nd (pi_listK K (pv 3)) (blkOk_by (N := n_l_pieces) (by rfl)) (fun _ _ _ _ _ => (pg_tupK (n := 2) K rfl (pgs_cons (pg_name (i := 11) sc_l_pieces.nd rfl (by first | exact Or.inl rfl | exact Or.inr rfl)) (pgs_cons (pg_name (i := 9) sc_l_pieces.nd rfl (by first | exact Or.inl rfl | exact Or.inr rfl)) pgs_nil)))) (fun _ _ _ _ _ => (pts_one (pt_cmpR op_eq (pv 11) (pv 8) (nomark _)))) (fun _ _ _ _ _ => (pv 9))) pa_nil)) pa_nil)))) (pss_one (ps_expr (pe_bmK K PySem.F.plainAttrs_list PySem.F.slot_list_append PySem.F.type_list_append mt_append (pv 2) (pa_cons (pe_tup (pa_cons (pe_ix (ix_listK K) (pv 7) pe_int (fun _ _ => rfl)) (pa_cons (pe_ix (ix_listK K) (pv 7) pe_int (fun _ _ => rfl)) pa_nil))) pa_nil)))))))) (pss_one (ps_ret (pe_callTy (call_tupK K) (by rfl) T.n_tuple bt_tuple (pa_cons (pe_callB (cr_sortedK K hr.units) (by rfl) T.n_sorted bt_sorted (pa_cons (pv 2) pa_nil)) pa_nil)))))), ?_⟩
  have l1 : tr.1.length ≤ 576 := side_len hT hn true
  have l2 : tr.2.length ≤ 576 := side_len hT hn false
  have le2 : 2 ≤ sizeLine := by rw [sizeLine_eq]; omega
  have le1 : 1 ≤ sizeLine := by rw [sizeLine_eq]; omega
  have half : ∀ (b : Bool) (k : Nat) (i : Int), ([eS tr.1, eS tr.2][k]? = some (eS (sd tr b))) → i = cond b 0 1 → (sd tr b).length ≤ 576 → EvD (tLc (iTup K (tOp (rIxT K) (tVar 0) (tC (.int (k : Int))))) (gName 9) tYes (tTup (tCons (tC (.int i)) (tCons (tVar 9) tNil))) [9]) (start n_l_pieces [tv]) H (.list ((sd tr b).map fun c => eV (b, c))) := fun b k i e ei hl => by
    subst ei
    exact evd_lcM (l := sd tr b) (enc := eC) (src_tup (evd_ixT (k := k) (evd_var (i := 0) rfl htv) evd_int e)) (fun c => eV (b, c)) (by rw [sizeLine_eq]; omega) (fun i c z H' e s3 hz => ⟨rfl, Same.refl _, evd_tup (eva_cons evd_int (eva_cons (evd_var rfl hz) eva_nil)) le2, eV_noL _⟩) gm_name
  refine sd_par ?_
  refine (evl_cat (half true 0 0 rfl rfl l1) (half false 1 1 rfl rfl l2) (by rw [List.length_map, List.length_map]; show tr.1.length + tr.2.length ≤ _; omega)) H (Same.refl _) _ fun lf lxs H1 nlf s1 e1 x1 => ?_
  refine (evp_nil (σ := start n_l_pieces [tv]) (H := H1)).at fun v0 H2 s2 ⟨fo, e0, nfo, e2⟩ => ⟨_, _, rfl, ?_⟩
  subst e0
  have v0 : (sd tr true).map (fun c => eV (true, c)) ++ (sd tr false).map (fun c => eV (false, c)) = (vxs tr).map eV := (vxs_map tr).symm
  rw [v0] at x1
  have K0 : Lk H H2 [(lf, (vxs tr).map eV), (fo, ([] : List Trade).map eT)] := by
    have k1 : Lk H H1 [(lf, (vxs tr).map eV)] := Lk.add (as := []) ⟨Same.refl _, List.nodup_nil, fun _ m => absurd m List.not_mem_nil, fun _ m => absurd m List.not_mem_nil⟩ s1 nlf e1 x1 (noLA_map eV_noL _)
    exact (k1.add s2 nfo e2 .nil rfl).perm (List.Perm.swap _ _ _)
  have lv : (vxs tr).length ≤ 1152 := by
    have : (vxs tr).length = tr.1.length + tr.2.length := by unfold vxs; rw [List.length_append, List.length_map, List.length_map]
    omega
  have dep : ∀ v, (eV v).depth ≤ 40 := fun v => by have := eV_depth v; omega
  -- the outer loop
  refine ⟨fun m σ' Hc => ∃ lf u3 u4 u5 u6 u7 L ps, σ' = [some tv, some (.ref lf), some (.ref fo), u3, u4, u5, u6, u7, none, none, none, none] ∧ Lk H Hc [(lf, L.map eV), (fo, ps.map eT)] ∧ Pout tr ps L ∧ m = L.length ∧ ps.length + L.length ≤ 1152,
    ⟨_, lf, none, none, none, none, none, vxs tr, [], rfl, K0, pout_start hT, rfl, by show 0 + _ ≤ _; omega⟩, ?_⟩
  rintro m σ' Hc ⟨lf, u3, u4, u5, u6, u7, L, ps, rfl, hK, hP, rfl, hb⟩
  refine (evt_test (evd_neNil (K := K) eV_pureB dep (evd_var (i := 1) rfl (hK.dx List.mem_cons_self)))).at fun HA sA => ?_
  have kA := hK.same sA
  by_cases hE : L = []
  · -- all is told
    subst hE
    refine iteF ?_
    obtain ⟨qs, e1, e2, e3⟩ := sort_trades ps
    have hp := pout_end hP e2 e3
    dsimp only
    refine sd_ret (P := fun v H3 => Dx H3 v (.tuple (qs.map eT))) ?_ fun v H4 s4 hd => q v H4 _ (fun T' e => ?_) (kA.s.trans s4) hd
    · refine evd_tupOf (ds := qs.map eT) ?_
      rw [← e1]
      exact eT_sorted (evd_var (i := 2) rfl (kA.dx (List.mem_cons_of_mem _ List.mem_cons_self))) (.inl rfl)
    · rw [← eT_inj (one_inj e)]
      exact ⟨qs, hp, rfl⟩
  · have hne : (!L.isEmpty) = true := by
      cases L with
      | nil => exact absurd rfl hE
      | cons _ _ => rfl
    rw [hne]
    refine iteT ⟨fun σ3 H3 => ∃ m', m' < L.length ∧ ∃ lf u3 u4 u5 u6 u7 L ps, σ3 = [some tv, some (.ref lf), some (.ref fo), u3, u4, u5, u6, u7, none, none, none, none] ∧ Lk H H3 [(lf, L.map eV), (fo, ps.map eT)] ∧ Pout tr ps L ∧ m' = L.length ∧ ps.length + L.length ≤ 1152, fun _ _ z => z, ?_⟩
    obtain ⟨L', st, rfl⟩ : ∃ L' u, L = L' ++ [u] := ⟨L.dropLast, L.getLast hE, (List.dropLast_concat_getLast hE).symm⟩
    rw [List.length_append, List.length_singleton] at hb
    -- one, waits
    refine sd_tup2 ?_
    refine (evp_nil (σ := [some tv, some (.ref lf), some (.ref fo), u3, u4, u5, u6, u7, none, none, none, none]) (H := HA)).at fun v1 HB sB ⟨on, e1, non, eon⟩ => ?_
    subst e1
    have kB : Lk H HB [(lf, L'.map eV ++ [eV st]), (on, []), (fo, ps.map eT)] := by
      have z := kA.add sB non eon .nil rfl
      rw [List.map_append] at z
      exact z.perm (List.Perm.swap _ _ _)
    refine lk_pop kB rfl fun y HC hy kC tCC => ⟨le1, fun wa nwa => ?_⟩
    have sD := same_new nwa (o := .lst [y])
    have eD : (upd HC wa (.lst [y])) wa = some (.lst [y]) := upd_same
    have kD := kC.add (ds := [eV st]) sD nwa eD (.one (hy.mono sD _ _)) (by rw [noLA, eV_noL]; rfl)
    generalize upd HC wa (.lst [y]) = HD at kD
    refine ⟨le2, fun tt ntt => ?_⟩
    have sE := same_new ntt (o := .tup [.ref on, .ref wa])
    have eE : (upd HD tt (.tup [.ref on, .ref wa])) tt = some (.tup [.ref on, .ref wa]) := upd_same
    have kE := kD.same sE
    refine ⟨tt, _, rfl, .of eE, rfl, _, _, rfl, _, _, rfl, rfl, ?_⟩
    dsimp only
    generalize upd HD tt (.tup [.ref on, .ref wa]) = HE at kE ⊢
    show tSeq _ _ _ [some tv, some (.ref lf), some (.ref fo), some (.ref on), some (.ref wa), u5, u6, u7, none, none, none, none] HE
    have kE : Lk H HE [(wa, [st].map eV), (on, ([] : List Vx).map eV), (lf, L'.map eV), (fo, ps.map eT)] := kE.perm (List.Perm.cons _ (List.Perm.swap _ _ _))
    -- the inner loop
    refine ⟨fun m σ' Hc => ∃ lf wa u5 u6 L O W, σ' = [some tv, some (.ref lf), some (.ref fo), some (.ref on), some (.ref wa), u5, u6, u7, none, none, none, none] ∧ Lk H Hc [(wa, W.map eV), (on, O.map eV), (lf, L.map eV), (fo, ps.map eT)] ∧ Pin tr ps st L O W ∧ m = 2000 - O.length ∧ L.length ≤ L'.length,
      ⟨_, lf, wa, u5, u6, L', [], [st], rfl, kE, pin_start hP, rfl, Nat.le_refl _⟩, ?_⟩
    rintro m σ' Hc ⟨lf, wa, u5, u6, L, O, W, rfl, hK, hI, rfl, hLL⟩
    have hlen := pin_len hT hn hI
    refine (evt_test (evd_neNil (K := K) eV_pureB dep (evd_var (i := 4) rfl (hK.dx List.mem_cons_self)))).at fun H3 s3 => ?_
    have k3 := hK.same s3
    by_cases hW : W = []
    · -- a part is told
      subst hW
      refine iteF ?_
      obtain ⟨m1, e1, a1, x1⟩ := sort_cells (oc O true) (oc_nodup (by have := hI.nd; rw [List.append_nil] at this; exact (List.nodup_append.mp this).1) true)
      obtain ⟨m0, e0, a0, x0⟩ := sort_cells (oc O false) (oc_nodup (by have := hI.nd; rw [List.append_nil] at this; exact (List.nodup_append.mp this).1) false)
      have hP2 := pin_end (p := (m1, m0)) hI (fun b => by cases b; exact a0; exact a1) (fun b c => by cases b; exact (x0 c).trans mem_oc; exact (x1 c).trans mem_oc)
      let js : Nat → List Cell := fun k => match k with
        | 0 => m1
        | _ => m0
      have d3 := k3.dx (b := on) (List.mem_cons_of_mem _ List.mem_cons_self)
      have sides : EvD (tLc (iRng1 (tCons (tC (.int 2)) tNil)) (gName 8) tYes (tCB (rTupOf K) (tCons (tCB (rSortD K) (tCons (tLc (iList K (tVar 3)) (gTup K 2 (gCons (gName 11) (gCons (gName 9) gNil))) (tTest (tOp rEq (tVar 11) (tVar 8))) (tVar 9) [11, 9]) tNil)) tNil)) [8]) [some tv, some (.ref lf), some (.ref fo), some (.ref on), some (.ref wa), u5, u6, u7, none, none, none, none] H3 (.list ((List.range 2).map fun k => eS (js k))) := by
        refine evd_lcM (l := List.range 2) (enc := fun (i : Nat) => PyData.int (i : Int)) (src_rng0 (n := 2) (te := tC (.int 2)) (by omega) evd_int) (fun k => eS (js k)) (by rw [sizeLine_eq]; show 2 < _; omega) (fun i k z H' e s4 hz => ⟨rfl, Same.refl _, ?_, eS_noL _⟩) gm_name
        have hk : k < 2 := List.mem_range.mp (List.mem_of_getElem? e)
        obtain ⟨b, eb, ej⟩ : ∃ b : Bool, ((k : Nat) : Int) = cond b 0 1 ∧ ((oc O b).map eC).mergeSort dLe = (js k).map eC := by
          match k, hk with
          | 0, _ => exact ⟨true, rfl, e1⟩
          | 1, _ => exact ⟨false, rfl, e0⟩
        refine evd_tupSorted (l := oc O b) ?_ ej
        unfold oc
        rw [List.map_map]
        refine evd_lcIf (l := O) (enc := eV) (src_list (K := K) (evd_var (i := 3) rfl (d3.mono s4 _ _))) (fun v => decide ((cond v.1 0 1 : Int) = cond b 0 1)) (fun v => eC v.2) (by rw [sizeLine_eq]; omega) (fun i v z2 H5 e5 s5 hz2 => gt2 hz2 fun y1 y2 g1 g2 => ⟨rfl, Same.refl _, evt_test (evd_eqI (evd_var rfl g1) (evd_var rfl (hz.mono s5 _ z)) (by rw [eb])), fun _ => ⟨evd_var rfl g2, eC_noL _⟩⟩) (gm_tup1 (gm_cons gm_name (gm_cons gm_name gm_nil)))
      refine sd_asg sides fun sv H4 s4 hsv => ?_
      dsimp only
      show tDrop _ _ [some tv, some (.ref lf), some (.ref fo), some (.ref on), some (.ref wa), u5, u6, some sv, none, none, none, none] H4
      have k4 : Lk H H4 [(fo, ps.map eT), (lf, L.map eV)] := ((k3.same s4).sub (bs := [(lf, L.map eV), (fo, ps.map eT)]) ((List.sublist_cons_self _ _).trans (List.sublist_cons_self _ _))).perm (List.Perm.swap _ _ _)
      refine lk_app (d := eT (m1, m0)) k4 rfl (evd_tup (ds := [eS m1, eS m0]) (eva_cons (evd_ixL (k := 0) (evd_var (i := 7) rfl hsv) evd_int rfl) (eva_cons (evd_ixL (k := 1) (evd_var (i := 7) rfl hsv) evd_int rfl) eva_nil)) le2) (eT_noL _) (by rw [List.length_map]; omega) fun H5 k5 t5 => ?_
      refine ⟨L.length, by rw [List.length_append, List.length_singleton]; omega, lf, _, _, _, _, _, L, ps ++ [(m1, m0)], rfl, ?_, hP2, rfl, by rw [List.length_append, List.length_singleton]; omega⟩
      rw [List.map_append]
      exact k5.perm (List.Perm.swap _ _ _)
    · have hne : (!W.isEmpty) = true := by
        cases W with
        | nil => exact absurd rfl hW
        | cons _ _ => rfl
      rw [hne]
      refine iteT ⟨fun σ' Hd => ∃ m', m' < 2000 - O.length ∧ ∃ lf wa u5 u6 L O W, σ' = [some tv, some (.ref lf), some (.ref fo), some (.ref on), some (.ref wa), u5, u6, u7, none, none, none, none] ∧ Lk H Hd [(wa, W.map eV), (on, O.map eV), (lf, L.map eV), (fo, ps.map eT)] ∧ Pin tr ps st L O W ∧ m' = 2000 - O.length ∧ L.length ≤ L'.length, fun _ _ z => z, ?_⟩
      obtain ⟨W', h, rfl⟩ : ∃ W' u, W = W' ++ [u] := ⟨W.dropLast, W.getLast hW, (List.dropLast_concat_getLast hW).symm⟩
      rw [List.map_append] at k3
      rw [List.length_append, List.length_singleton] at hlen
      -- here
      refine lk_pop (as := [(on, O.map eV), (lf, L.map eV), (fo, ps.map eT)]) k3 rfl fun hv H4 hhv k4 t4 => ?_
      show tSeq _ _ _ [some tv, some (.ref lf), some (.ref fo), some (.ref on), some (.ref wa), some hv, u6, u7, none, none, none, none] H4
      have k4 : Lk H H4 [(on, O.map eV), (wa, W'.map eV), (lf, L.map eV), (fo, ps.map eT)] := k4.perm (List.Perm.swap _ _ _)
      refine lk_app (d := eV h) k4 rfl (evd_var (i := 5) rfl hhv) (eV_noL _) (by rw [List.length_map]; omega) fun H5 k5 t5 => ?_
      have hhv5 : Dx H5 hv (eV h) := hhv.tmono t5 _ _ (eV_noL _)
      have e5 : O.map eV ++ [eV h] = (O ++ [h]).map eV := by rw [List.map_append]; rfl
      rw [e5] at k5
      have mh : Mem tr h := (hI.rc h (.inr (List.mem_append_right _ (List.mem_singleton_self h)))).tgt
      have dL5 := k5.dx (b := lf) (ds := L.map eV) (by simp)
      have hsz : L.length < sizeLine := by rw [sizeLine_eq]; omega
      -- near
      have near : EvL (tLc (iList K (tVar 1)) (gName 10) (tAnd (tTest (tOp rNe (tOp (rIxT K) (tVar 10) (tC (.int 0))) (tOp (rIxT K) (tVar 5) (tC (.int 0))))) (tTest (tOp rEq (tCall sp_shared [] E0 (tCons (tOp (rIxT K) (tVar 5) (tC (.int 1))) (tCons (tOp (rIxT K) (tVar 10) (tC (.int 1))) tNil))) (tC (.int 2))))) (tVar 10) [10]) [some tv, some (.ref lf), some (.ref fo), some (.ref on), some (.ref wa), some hv, u6, u7, none, none, none, none] H5 ((L.filter (adjB h)).map eV) := by
        refine evl_lcIf (l := L) (enc := eV) (src_list (K := K) (evd_var (i := 1) rfl dL5)) (adjB h) eV hsz (fun i v z H' e s6 hz => ?_) gm_name
        have hh6 := hhv5.mono s6 _ _
        refine ⟨rfl, Same.refl _, ?_, fun _ => ⟨evd_var rfl hz, eV_noL _⟩⟩
        have tA : EvT (tTest (tOp rNe (tOp (rIxT K) (tVar 10) (tC (.int 0))) (tOp (rIxT K) (tVar 5) (tC (.int 0))))) ((wipe [some tv, some (.ref lf), some (.ref fo), some (.ref on), some (.ref wa), some hv, u6, u7, none, none, none, none] [10]).set 10 (some z)) H' (!decide ((cond v.1 0 1 : Int) = cond h.1 0 1)) :=
          evt_test (evd_neI (evd_ixT (k := 0) (evd_var rfl hz) evd_int rfl) (evd_ixT (k := 0) (evd_var (i := 5) rfl hh6) evd_int rfl) rfl)
        have tB : EvT (tTest (tOp rEq (tCall sp_shared [] E0 (tCons (tOp (rIxT K) (tVar 5) (tC (.int 1))) (tCons (tOp (rIxT K) (tVar 10) (tC (.int 1))) tNil))) (tC (.int 2)))) ((wipe [some tv, some (.ref lf), some (.ref fo), some (.ref on), some (.ref wa), some hv, u6, u7, none, none, none, none] [10]).set 10 (some z)) H' (decide ((sh h.2 v.2 : Nat) = 2)) :=
          evt_test (evd_eqI (i := ((sh h.2 v.2 : Nat) : Int)) (j := 2) (evd_call (eva_cons (evd_ixT (k := 1) (evd_var (i := 5) rfl hh6) evd_int rfl) (eva_cons (evd_ixT (k := 1) (evd_var rfl hz) evd_int rfl) eva_nil)) ⟨h.2, v.2, rfl⟩ fun e k => k _ _ rfl) evd_int (decide_eq_decide.mpr (by omega)))
        unfold adjB
        cases e0 : (!decide ((cond v.1 0 1 : Int) = cond h.1 0 1)) with
        | true =>
          rw [e0] at tA
          rw [Bool.true_and]
          exact evt_andT tA tB
        | false =>
          rw [e0] at tA
          rw [Bool.false_and]
          exact evt_andF tA
      refine sl_asg near fun nr nxs H6 nnr s6 enr xnr => ?_
      dsimp only
      show tSeq _ _ _ [some tv, some (.ref lf), some (.ref fo), some (.ref on), some (.ref wa), some hv, some (.ref nr), u7, none, none, none, none] H6
      have k6 := k5.add s6 nnr enr xnr (noLA_map eV_noL _)
      have dL6 := dL5.mono s6 _ _
      have dN6 := k6.dx (b := nr) List.mem_cons_self
      -- left
      have lft : EvL (tLc (iList K (tVar 1)) (gName 10) (tTest (tOp (rNotInD K) (tVar 10) (tVar 6))) (tVar 10) [10]) [some tv, some (.ref lf), some (.ref fo), some (.ref on), some (.ref wa), some hv, some (.ref nr), u7, none, none, none, none] H6 ((L.filter fun v => !decide (v ∈ L.filter (adjB h))).map eV) := by
        refine evl_lcIf (l := L) (enc := eV) (src_list (K := K) (evd_var (i := 1) rfl dL6)) (fun v => !decide (v ∈ L.filter (adjB h))) eV hsz (fun i v z H' e s7 hz => ⟨rfl, Same.refl _, evt_test (evd_notInL (evd_var rfl hz) (evd_var (i := 6) rfl (dN6.mono s7 _ _)) (eV_pure _) (pureA_map eV_pure _) (by have := eV_depth v; omega) ?_ (by rw [any_eV])), fun _ => ⟨evd_var rfl hz, eV_noL _⟩⟩) gm_name
        rw [PyData.depth]
        have := depthA_map eV_depth (L.filter (adjB h))
        omega
      refine sl_asg lft fun lf2 lxs H7 nl2 s7 el2 xl2 => ?_
      dsimp only
      show tAsg _ _ _ [some tv, some (.ref lf2), some (.ref fo), some (.ref on), some (.ref wa), some hv, some (.ref nr), u7, none, none, none, none] H7
      have k7 := k6.add s7 nl2 el2 xl2 (noLA_map eV_noL _)
      have fN := List.length_filter_le (adjB h) L
      refine sl_asg (evl_cat (evd_var (i := 4) rfl (k7.dx (b := wa) (ds := W'.map eV) (by simp))) (evd_var (i := 6) rfl (k7.dx (b := nr) (ds := (L.filter (adjB h)).map eV) (by simp))) (by rw [List.length_map, List.length_map]; omega)) fun wa2 wxs H8 nw2 s8 ew2 xw2 => ?_
      have k8 := k7.add s8 nw2 ew2 xw2 (noLA_app (noLA_map eV_noL _) (noLA_map eV_noL _))
      have fl : (L.filter fun v => !decide (v ∈ L.filter (adjB h))) = L.filter fun v => !adjB h v := by
        refine List.filter_congr fun v mv => ?_
        congr 1
        cases e : adjB h v with
        | true => exact decide_eq_true (List.mem_filter.mpr ⟨mv, e⟩)
        | false =>
          refine decide_eq_false fun m => ?_
          rw [(List.mem_filter.mp m).2] at e
          cases e
      rw [fl, ← List.map_append] at k8
      have hI2 := pin_turn hI (adjB h) fun v mv => adjB_iff hT mh (hI.memL v mv)
      refine ⟨2000 - (O ++ [h]).length, by rw [List.length_append, List.length_singleton]; omega, lf2, wa2, _, _, _, O ++ [h], W' ++ L.filter (adjB h), rfl, ?_, hI2, rfl, ?_⟩
      · refine (k8.sub (bs := [(wa2, (W' ++ L.filter (adjB h)).map eV), (lf2, (L.filter fun v => !adjB h v).map eV), (on, (O ++ [h]).map eV), (fo, ps.map eT)]) ?_).perm (List.Perm.cons _ (List.Perm.swap _ _ _))
        exact .cons_cons _ (.cons_cons _ (.cons _ (.cons_cons _ (.cons _ (.cons _ (.refl _))))))
      · have := List.length_filter_le (fun v => !adjB h v) L
        omega
end
end K40
end

section
set_option Elab.async false
set_option linter.all false
set_option maxRecDepth 100000
set_option maxHeartbeats 4000000
namespace K40
open PySem PySem.Spec PyProof.Rows L2
theorem op_eqTab {X : Cx} {a : Adr} (T : Txt X.K X.mg a) (D : HasI X.prog X.w X.K X.mg X.base 1 a.fe (sp_Table_eq a)) (hr : Room 1 X.A) : OpR X (compareOp .Eq) (SlX.rOwn X.K a.cT (sp_Table_eq a) E0) := SlX.op_own (fun _ _ => rfl) T.eqT T.eqF D.r hr pass0
theorem pi_enumL {X : Cx} (K : PySem.W.Frag) {e : Expr} {ta : TA} {p pos tpos : Pos} {elts : List Expr} {kk : Nat} (hg : Gl X "enumerate") (hm : X.mg "enumerate" = none) (ha : PA X [e] ta) (h : X.K = K := by rfl) (hs : starEach [e] X.env = [(false, eval e X.env)] := by rfl) :
    PI X (.Tuple elts kk tpos) (.Call (.Name "enumerate" p) [e] [] pos) (iEnum K ta) := by subst h; exact pi_enum hg hm ha hs
theorem src_enumL {K : PySem.W.Frag} {σ : L2.St} {H : Hp} {ta : TA} {ds : List PyData} (h : EvA ta σ H [.list ds]) : Src (iEnum K ta) σ H ((List.range ds.length).zipWith (fun (i : Nat) d => PyData.tuple [.int (i : Int), d]) ds) := fun H1 s R q => h H1 s _ fun vs H2 s2 hv => by
  obtain ⟨x, rfl, hx⟩ := hv.oneE
  obtain ⟨a, xs, rfl, h1, h2⟩ := hx.lstE
  have hl : ((List.range ds.length).zipWith (fun (i : Nat) d => PyData.tuple [.int (i : Int), d]) ds).length = xs.length := by simp [h2.length]
  refine ⟨a, xs, rfl, .of h1, q _ H2 (fun H => H a = some (.lst xs)) _ s2 (by rw [hl]; exact (walk_enum (K := K)).mono (fun H e => .of e) fun _ _ _ _ _ _ y => y) (fun H3 s3 => s3 _ _ h1) fun i H3 x H4 s3 hi y => ?_⟩
  rw [hl] at hi
  obtain ⟨T, x1, x2, rfl, nT, rfl, e1, e2⟩ := y
  obtain ⟨d, e3, e4⟩ := h2.get e2
  have z : x1 = .int (i : Int) := (Option.some.inj e1).symm
  subst z
  refine ⟨same_new nT, .tuple [.int (i : Int), d], ?_, .tup upd_same (.cons (.int _) (.one ((e4.mono s3 d x2).mono (same_new nT) d x2)))⟩
  have hi2 : i < ds.length := by rw [← h2.length]; exact hi
  rw [List.getElem?_zipWith, e3, List.getElem?_range hi2]
theorem apart_self {n : Nat} {R : List (List Int)} (h : R.length = n) : apart R R = [] := by
  apply List.eq_nil_iff_forall_not_mem.mpr
  intro c m
  obtain ⟨_, _, _, _, _, z⟩ := (mem_apart h).mp m
  exact z rfl
theorem nm_take {α : Type} {l : List α} (nd : l.Nodup) {i : Nat} (hi : i < l.length) : l[i] ∉ l.take i := fun m => by
  obtain ⟨j, hj, e⟩ := List.getElem_of_mem m
  rw [List.length_take] at hj
  rw [List.getElem_take] at e
  exact List.pairwise_iff_getElem.mp nd j i (by omega) hi (by omega) e
section
variable {P : Program} {w : World} {K : PySem.W.Frag} {mg : Str → Option Value} {base : Heap} {a : Adr} {f : Addr} {fd : FuncData}
def sp_walks (a : Adr) : Sp := fun vs H Q _ => ∃ (p : Addr) (t o x : V) (n : Nat) (R S : List (List Int)) (qs : List Trade), vs = [.ref p, t, o, x] ∧ IsPot H p ∧ Dx H t (eTab a.cT R) ∧ Dx H o (eTab a.cT S) ∧ Dx H x (.tuple (qs.map eT)) ∧ Lat n R ∧ Lat n S ∧ R ≠ S ∧ 1 ≤ n ∧ n ≤ 24 ∧ IsParts tLe (diffT R S) qs ∧ qs.length ≤ 1000 ∧
  ∀ H', PS p H H' → Q (.bl true) H'
theorem ok_l_walks (F : Fun K "_law_walks" "_law_walks" s_l_walks f fd) (T : Txt K mg a) (D__law_shaken : Has P w K mg base 2 "_law_shaken" sp_shaken) (D_is_within_trades : Has P w K mg base 8 "is_within_trades" (sp_within a)) (D_switched : Has P w K mg base 11 "switched" (sp_switched a))
    (D_difference : Has P w K mg base 4 "difference" (sp_difference a)) (D_Table_eq : HasI P w K mg base 1 a.fe (sp_Table_eq a)) : FnOk P w K mg base CX0 12 f fd ["_law_pot_here", "_law_table_here", "_law_other", "_law_pieces_here"] (sp_walks a) := by
  refine F.ok sc_l_walks (fun vs H Q E q => by obtain ⟨_, _, _, _, _, _, _, _, rfl, _⟩ := q; rfl) (fun cdv A outer s H vs Q E hr h => ?_)
  obtain ⟨p, t, o, x, n, R, S, qs, rfl, hp, ht, ho, hx, hR, hS, ne, h1, h24, hps, hl, q⟩ := h
  refine ⟨_, (pss_cons (ps_set (i := 4) sc_l_walks.nd rfl (Or.inl rfl) (pe_fn D__law_shaken (hr.mono (by decide)) (by rfl) (pa_cons (pv 0) (pa_cons (pe_callTy (call_lstK K) (by rfl) T.n_list bt_list (pa_cons (pv 3) pa_nil)) pa_nil)))) (pss_cons (ps_for PassesOwn.never rfl (pi_enumL K (by rfl) T.n_enumerate (pa_cons (pv 4) pa_nil)) (pg_tupK (n := 2) K rfl (pgs_cons (pg_name (i := 5) sc_l_walks.nd rfl (by first | exact Or.inl rfl | exact Or.inr rfl)) (pgs_cons (pg_name (i := 6) sc_l_walks.nd rfl (by first | exact Or.inl rfl | exact Or.inr rfl)) pgs_nil))) (pss_cons (ps_if (pt_not (pt_val (pe_fn D_is_within_trades (hr.mono (by decide)) (by rfl) (pa_cons (pv 1) (pa_cons (pv 6) pa_nil))))) (pss_one (ps_ret pe_bl)) pss_nil) (pss_cons (ps_set (i := 7) sc_l_walks.nd rfl (Or.inl rfl) (pe_fn D_switched (hr.mono (by decide)) (by rfl) (pa_cons (pv 1) (pa_cons (pv 6) pa_nil)))) (pss_cons (ps_if (PW.pt (pw_or (pt_cmpR (op_neK K hr.units) (pe_fn D_difference (hr.mono (by decide)) (by rfl) (pa_cons (pv 1) (pa_cons (pv 7) pa_nil))) (pv 6) (nomark _)) (pw_or1 (PW.pt (pw_and (pt_cmpR op_lt (pe_op op_add (pv 5) pe_int) (pe_callB (call_lenK K) (by rfl) T.n_len bt_len (pa_cons (pv 4) pa_nil)) (nomark _)) (pw_and1 (pt_cmpR (op_eqTab T D_Table_eq (hr.mono (by decide))) (pv 7) (pv 2) (nomark _)))))))) (pss_one (ps_ret pe_bl)) pss_nil) (pss_one (ps_set (i := 1) sc_l_walks.nd rfl (Or.inl rfl) (pv 7))))))) (pss_one (ps_ret (pe_cmpR (op_eqTab T D_Table_eq (hr.mono (by decide))) (pv 1) (pv 2) (nomark _)))))), ?_⟩
  have htr := diff_trade hR hS ne
  refine sq_asg (evq_shaken (i := 0) rfl (evq_lstOfT (evd_var (i := 3) rfl (dx_hide hp _ _ (by rw [noLi]; exact noLiA_map eT_noLi _) hx)) (noLiA_map eT_noLi _)) (by rw [List.length_map]; exact hl)) hp fun lv H1 p1 ⟨es, pe, hlv⟩ => ?_
  obtain ⟨rs, rfl, pr⟩ := perm_map_inv pe rfl
  dsimp only
  have ht1 := (dxh p1 (dx_hide hp _ _ (eTab_noLi _ _) ht)).mono (hide_same _ _) _ _
  have ho1 := (dxh p1 (dx_hide hp _ _ (eTab_noLi _ _) ho)).mono (hide_same _ _) _ _
  have hlv1 := hlv.mono (hide_same _ _) _ _
  have nd : rs.Nodup := pr.nodup_iff.mpr hps.nodup
  have part : ∀ r ∈ rs, IsPart (diffT R S) r := fun r m => hps.part r (pr.mem_iff.mp m)
  show tSeq _ _ _ [some (.ref p), some t, some o, some x, some lv, none, none, none] H1
  refine sd_forS (ds := (List.range (rs.map eT).length).zipWith (fun (i : Nat) d => PyData.tuple [.int (i : Int), d]) (rs.map eT)) (src_enumL (K := K) (eva_cons (evd_var (i := 4) rfl hlv1) eva_nil))
    (fun i σ' Hc => ∃ t M u5 u6 u7, σ' = [some (.ref p), some t, some o, some x, some lv, u5, u6, u7] ∧ Dx Hc t (eTab a.cT M) ∧ Mid n R S M (rs.take i)) (fun H2 s2 => ⟨t, R, none, none, none, rfl, ht1.mono s2 _ _, mid_start hR⟩) (fun i d z σ' H' Hc N ed ⟨t, M, u5, u6, u7, es, htM, hM⟩ sB s3 hz hN => ?_) fun σ' H' ⟨t, M, u5, u6, u7, es, htM, hM⟩ sB => ?_
  · subst es
    rw [List.getElem?_zipWith] at ed
    have hi : i < rs.length := by
      apply Classical.byContradiction
      intro hi
      rw [List.getElem?_eq_none (by rw [List.length_range, List.length_map]; omega)] at ed
      simp at ed
    rw [List.getElem?_range (by rw [List.length_map]; exact hi), List.getElem?_map, List.getElem?_eq_getElem hi] at ed
    have ed := (Option.some.inj ed).symm
    subst ed
    have mq : rs[i] ∈ rs := List.getElem_mem hi
    have hq := part _ mq
    have nq := nm_take nd hi
    have hd : ∀ r ∈ rs.take i, IsPart (diffT R S) r := fun r m => part r (List.mem_of_mem_take m)
    have tk : rs.take (i + 1) = rs.take i ++ [rs[i]] := by
      rw [List.take_add_one, List.getElem?_eq_getElem hi]
      rfl
    have hqT : IsTrade n rs[i] := part_trade htr hq
    have w1 := mid_within hR hM hd hq nq
    have w2 := mid_step hR hS ne hM hd hq nq
    have w3 := mid_diff hR hS ne hM hd hq nq
    rw [← tk] at w2
    have w4 : i + 1 < rs.length → rowsWith M rs[i].2 ≠ S := fun h => mid_other hR hS ne w2 (fun r m => part r (List.mem_of_mem_take m)) (part _ (List.getElem_mem h)) (nm_take nd h)
    have w5 : M ≠ rowsWith M rs[i].2 := fun e => by
      rw [← e] at w3
      have z : apart M M = rs[i].1 := congrArg Prod.fst w3
      rw [apart_self hM.lat.len] at z
      exact hqT.ne z.symm
    generalize hg : rs[i] = r at *
    refine gt2 hz fun y1 y2 g1 g2 => ?_
    have e1 := g1.intE
    subst e1
    dsimp only
    have ht' := htM.mono s3 _ _
    have so := ho1.mono (sB.trans s3) _ _
    have sl := hlv1.mono (sB.trans s3) _ _
    show tSeq _ _ _ [some (.ref p), some t, some o, some x, some lv, some (.int (i : Int)), some y2, u7] H'
    refine sd_ifN (evt_notT (evt_B (evd_call (eva_cons (evd_var (i := 1) rfl ht') (eva_cons (evd_var (i := 6) rfl g2) eva_nil)) ⟨n, M, r, rfl, hM.lat.shp, hqT, h24⟩ fun e h => by
      rw [h M r rfl]
      congr 1
      exact List.all_eq_true.mpr fun c m => decide_eq_true (w1 c m)))) fun H2 s4 => ?_
    dsimp only
    refine sd_asg (evd_call (eva_cons (evd_var (i := 1) rfl (ht'.mono s4 _ _)) (eva_cons (evd_var (i := 6) rfl (g2.mono s4 _ _)) eva_nil)) ⟨n, M, r, rfl, hM.lat, hqT, h1, h24, w1⟩ fun e h => h M r rfl) fun tv H3 s5 htv => ?_
    dsimp only
    show tSeq _ _ _ [some (.ref p), some t, some o, some x, some lv, some (.int (i : Int)), some y2, some tv] H3
    have s45 := s4.trans s5
    have dT := eT_depth r
    have tA : EvT (tTest (tOp (rNeD K) (tCall (sp_difference a) [] E0 (tCons (tVar 1) (tCons (tVar 7) tNil))) (tVar 6))) [some (.ref p), some t, some o, some x, some lv, some (.int (i : Int)), some y2, some tv] H3 false :=
      evt_test (evd_neD (d := eT r) (e := eT r) (evd_call (eva_cons (evd_var (i := 1) rfl (ht'.mono s45 _ _)) (eva_cons (evd_var (i := 7) rfl htv) eva_nil)) ⟨n, M, rowsWith M r.2, rfl, hM.lat, w2.lat, h24, w5⟩ fun e h => by rw [h M _ rfl, w3]) (evd_var (i := 6) rfl (g2.mono s45 _ _)) (eT_pure r) (eT_pure r) (by omega) (by omega) (by rw [eqv_true (eT_pure r) rfl]; rfl))
    have ln : EvD (tCB (K40.rLenS K) (tCons (tVar 4) tNil)) [some (.ref p), some t, some o, some x, some lv, some (.int (i : Int)), some y2, some tv] H3 (.int (rs.length : Int)) := by
      have z := evd_lenL (K := K) (ta := tVar 4) (σ := [some (.ref p), some t, some o, some x, some lv, some (.int (i : Int)), some y2, some tv]) (H := H3) (evd_var (i := 4) rfl (sl.mono s45 _ _))
      rwa [List.length_map] at z
    have tB : EvT (tTest (tOp (rI0 fun i j => .bl (decide (i < j))) (tOp (rI0 fun i j => .int (i + j)) (tVar 5) (tC (.int 1))) (tCB (K40.rLenS K) (tCons (tVar 4) tNil)))) [some (.ref p), some t, some o, some x, some lv, some (.int (i : Int)), some y2, some tv] H3 (decide ((i : Int) + 1 < (rs.length : Int))) :=
      evt_test (evd_I0 (evd_I0 (evd_var (i := 5) rfl (.int _)) evd_int fun _ => .int _) ln fun _ => .bl _)
    have tC' : EvT (tTest (tOp (SlX.rOwn K a.cT (sp_Table_eq a) E0) (tVar 7) (tVar 2))) [some (.ref p), some t, some o, some x, some lv, some (.int (i : Int)), some y2, some tv] H3 (decide (rowsWith M r.2 = S)) :=
      evt_test (evd_eqTab T (evd_var (i := 7) rfl htv) (evd_var (i := 2) rfl (so.mono s45 _ _)))
    refine sd_ifN (evt_orF tA ?_) fun H4 s6 => ?_
    · by_cases hlt : i + 1 < rs.length
      · rw [decide_eq_true (by omega : (i : Int) + 1 < (rs.length : Int))] at tB
        rw [decide_eq_false (w4 hlt)] at tC'
        exact evt_andT tB tC'
      · rw [decide_eq_false (by omega : ¬ (i : Int) + 1 < (rs.length : Int))] at tB
        exact evt_andF tB
    · dsimp only
      refine sd_asg (evd_var (i := 7) rfl (htv.mono s6 _ _)) fun tv2 H5 s7 htv2 => ?_
      exact hN _ _ ⟨tv2, rowsWith M r.2, _, _, _, rfl, htv2, w2⟩ ((s4.trans s5).trans (s6.trans s7))
  · subst es
    have e1 : ((List.range (rs.map eT).length).zipWith (fun (i : Nat) d => PyData.tuple [.int (i : Int), d]) (rs.map eT)).length = rs.length := by simp
    rw [e1, List.take_length] at hM
    have e2 := mid_end hR hS ne hM hps fun r m => pr.mem_iff.mpr m
    subst e2
    dsimp only
    refine sd_ret (P := fun v H => Dx H v (.bool (decide (M = M)))) (evd_eqTab T (evd_var (i := 1) rfl htM) (evd_var (i := 2) rfl (ho1.mono sB _ _))) fun v H4 s4 hd => ?_
    have e3 := hd.blE
    subst e3
    rw [decide_eq_true rfl]
    exact q H4 (p1.trans (.of p1.q (sB.trans s4)))
end
end K40
end

section
set_option Elab.async false
set_option linter.all false
set_option maxRecDepth 100000
set_option maxHeartbeats 4000000
namespace K40
open PySem PySem.Spec PyProof.Rows L2
theorem parts_len {n : Int} {T : Trade} {ps : List Trade} (hT : IsTrade n T) (h : IsParts tLe T ps) : ps.length ≤ T.1.length := by
  have hd : ∀ q ∈ ps, q.1.headD ((0, 0, 0) : Cell) ∈ q.1 := fun q m => by
    have ne := (part_trade hT (h.part q m)).ne
    cases e : q.1 with
    | nil => exact absurd e ne
    | cons a l => simp
  refine len_le_of_inj (fun q => q.1.headD ((0, 0, 0) : Cell)) h.nodup (fun q m => (h.part q m).mem (v := (true, _)) (hd q m)) fun q m r m' e => ?_
  have h1 := hd q m
  have h2 := hd r m'
  exact part_eq (u := (true, q.1.headD ((0, 0, 0) : Cell))) (h.part q m) (h.part r m') h1 (by rw [e]; exact h2)
theorem flat_nodup {T : Trade} {b : Bool} : ∀ {qs : List Trade}, (∀ q ∈ qs, IsPart T q) → qs.Nodup → (qs.flatMap fun q => sd q b).Nodup
  | [], _, _ => List.nodup_nil
  | q :: qs, h, nd => by
    rw [List.nodup_cons] at nd
    rw [List.flatMap_cons]
    refine List.nodup_append.mpr ⟨((h q List.mem_cons_self).asc b).nodup, flat_nodup (fun r m => h r (List.mem_cons_of_mem _ m)) nd.2, fun c mc d md e => ?_⟩
    subst e
    obtain ⟨r, mr, mc2⟩ := List.mem_flatMap.mp md
    have := part_eq (u := (b, c)) (h q List.mem_cons_self) (h r (List.mem_cons_of_mem _ mr)) mc mc2
    exact nd.1 (by rw [this]; exact mr)
theorem flat_len {n : Int} {T : Trade} {b : Bool} {qs : List Trade} (hT : IsTrade n T) (hn : n ≤ 24) (h : ∀ q ∈ qs, IsPart T q) (nd : qs.Nodup) : (qs.flatMap fun q => sd q b).length ≤ 10000 := by
  have h1 := len_le_of_inj id (m := sd T b) (flat_nodup (b := b) h nd) (fun c m => by
    obtain ⟨q, mq, mc⟩ := List.mem_flatMap.mp m
    exact (h q mq).mem (v := (b, c)) mc) fun _ _ _ _ e => e
  have := side_len hT hn b
  omega
def eQs (qs : List Trade) : PyData := .tuple (qs.map eT)
theorem eQs_pure (qs : List Trade) : pure' (eQs qs) = true := by rw [eQs, pure']; exact pureA_map eT_pure qs
theorem eQs_depth (qs : List Trade) : (eQs qs).depth ≤ 4 := by
  rw [eQs, PyData.depth]
  have := depthA_map eT_depth qs
  omega
theorem eQs_noLi (qs : List Trade) : noLi (eQs qs) = true := by rw [eQs, noLi]; exact noLiA_map eT_noLi qs
structure RS (p : Addr) (H Hc : Hp) (v1 v2 tv dv : V) (R S : List (List Int)) (tr : Trade) (ps : List Trade) : Prop where
  s : PS p H Hc
  a : Dx (hide [p] Hc) v1 (eSq R)
  b : Dx (hide [p] Hc) v2 (eSq S)
  t : Dx (hide [p] Hc) tv (eT tr)
  d : Dx (hide [p] Hc) dv (eQs ps)
theorem RS.mono {p : Addr} {H Hc Hd : Hp} {v1 v2 tv dv : V} {R S : List (List Int)} {tr : Trade} {ps : List Trade} (h : RS p H Hc v1 v2 tv dv R S tr ps) (s : PS p Hc Hd) : RS p H Hd v1 v2 tv dv R S tr ps := ⟨h.s.trans s, dxh s h.a, dxh s h.b, dxh s h.t, dxh s h.d⟩
theorem sd_join {a b : TS} {D : Ends} {σ : L2.St} {H : Hp} (P : L2.St → Hp → Prop) (h2 : ∀ σ' H', P σ' H' → b D σ' H') (h1 : (∀ σ' H', P σ' H' → b D σ' H') → a { D with nx := b D } σ H) : tSeq a b D σ H := h1 h2
theorem sd_asgSl {r : V → Option Int → Option Int → Hp → VK → Prop} {te : TE} {tl th : TO} {i : Nat} {D : Ends} {σ : L2.St} {H : Hp} (h : te σ H fun x H1 => tl σ H1 fun l H2 => th σ H2 fun u H3 => r x l u H3 fun v H4 => D.nx (σ.set i (some v)) H4) : tAsg (L2.tSl r te tl th) (gName i) D σ H := h
theorem sd_asgT {te : TE} {g : TG} {D : Ends} {σ : L2.St} {H : Hp} (h : te σ H fun x H1 => g x σ H1 D.nx) : tAsg te g D σ H := h
section
variable {K : PySem.W.Frag} {σ : L2.St} {H H' : Hp} {ta tb te tt to tx : TE} {p : Addr} {i : Nat} {n : Nat} {E : XK} {P : V → Hp → Prop} {a : Adr} {R S : List (List Int)} {qs : List Trade}
theorem evq_andT (h1 : EvQ p ta σ H fun v _ => v = .bl true) (h2 : EvQ p tb σ H P) : EvQ p (tAndV ta tb) σ H P := fun H1 s Q q =>
  h1 H1 s _ fun v H2 s2 hv => ⟨true, hv, iteT (h2 H2 (s.trans s2) Q fun w H3 s3 hw => q w H3 (s2.trans s3) hw)⟩
theorem evd_notB {x y b : Bool} (ha : EvD ta σ H (.bool x)) (hb : EvD tb σ H (.bool y)) (h : (!decide (x = y)) = b) : EvD (tOp rNotB ta tb) σ H (.bool b) := fun H1 s Q q =>
  ha H1 s _ fun u H2 s2 hu => hb H2 (s.trans s2) _ fun w H3 s3 hw => ⟨x, y, hu.blE, hw.blE, by rw [h]; exact q _ H3 (s2.trans s3) (.bl b)⟩
theorem evq_two (hv : σ[i]? = some (some (.ref p))) (hn : EvD te σ (hide [p] H) (.int (n : Int))) (b : 2 ≤ n ∧ n ≤ 24) : EvQ p (tCall sp_two [] E (tCons (tVar i) (tCons te tNil))) σ H fun v H2 => ∃ R S, Lat n R ∧ Lat n S ∧ R ≠ S ∧ Dx (hide [p] H2) v (.tuple [eSq R, eSq S]) := fun H1 s Q q =>
  ⟨_, hv, hn H1 s.up _ fun v H2 s2 hv2 => ⟨p, n, by rw [hv2.intE]; rfl, s.q.same s2, b.1, b.2, fun u H3 R S hR hS ne ps hd => q u H3 ((PS.of s.q s2).trans ps) ⟨R, S, hR, hS, ne, hd⟩⟩⟩
theorem evq_walks (hv : σ[i]? = some (some (.ref p))) (h1 : EvD tt σ (hide [p] H) (eTab a.cT R)) (h2 : EvD to σ (hide [p] H) (eTab a.cT S)) (h3 : EvD tx σ (hide [p] H) (eQs qs)) (hR : Lat n R) (hS : Lat n S) (ne : R ≠ S) (b : 1 ≤ n ∧ n ≤ 24) (hp : IsParts tLe (diffT R S) qs) (hl : qs.length ≤ 1000) :
    EvQ p (tCall (sp_walks a) [] E (tCons (tVar i) (tCons tt (tCons to (tCons tx tNil))))) σ H fun v _ => v = .bl true := fun H1 s Q q =>
  ⟨_, hv, h1 H1 s.up _ fun v1 H2 s2 d1 => h2 H2 (s.trans (.of s.q s2)).up _ fun v2 H3 s3 d2 => h3 H3 ((s.trans (.of s.q s2)).trans (.of (s.q.same s2) s3)).up _ fun v3 H4 s4 d3 => by
    have ps : PS p H1 H4 := .of s.q ((s2.trans s3).trans s4)
    exact ⟨p, v1, v2, v3, n, R, S, qs, rfl, ps.q, d1.mono (s3.trans s4) _ _, d2.mono s4 _ _, d3, hR, hS, ne, b.1, b.2, hp, hl, fun H5 p5 => q _ H5 (ps.trans p5) rfl⟩⟩
end
section
variable {P : Program} {w : World} {K : PySem.W.Frag} {mg : Str → Option Value} {base : Heap} {a : Adr} {f : Addr} {fd : FuncData}
def sp_right : Sp := fun vs H Q _ => ∃ (p : Addr), vs = [.ref p] ∧ IsPot H p ∧ ∀ H', PS p H H' → Q (.bl true) H'
theorem ok_l_right (F : Fun K "_law_right" "_law_right" s_l_right f fd) (T : Txt K mg a) (D__law_dip : Has P w K mg base 1 "_law_dip" sp_dip) (D__law_two : Has P w K mg base 4 "_law_two" sp_two) (D__law_parted : Has P w K mg base 1 "_law_parted" sp_parted) (D__law_pieces : Has P w K mg base 2 "_law_pieces" sp_pieces)
    (D_falling : Has P w K mg base 8 "falling" sp_falling) (D_is_least_trade : Has P w K mg base 7 "is_least_trade" sp_is_least) (D_is_trade : Has P w K mg base 7 "is_trade" sp_is_trade) (D_turned : Has P w K mg base 8 "turned" sp_turned) (D__law_shaken : Has P w K mg base 2 "_law_shaken" sp_shaken)
    (D__law_joined : Has P w K mg base 1 "_law_joined" sp_joined) (D__law_walks : Has P w K mg base 12 "_law_walks" (sp_walks a)) (D__law_table : Has P w K mg base 9 "_law_table" (sp_table a)) : FnOk P w K mg base CX0 13 f fd ["_law_pot_here"] sp_right := by
  refine F.ok sc_l_right (fun vs H Q E q => by obtain ⟨_, rfl, _⟩ := q; rfl) (fun cdv A outer s H vs Q E hr h => ?_)
  obtain ⟨p, rfl, hp, q⟩ := h
  refine ⟨_, (pss_cons (ps_set (i := 1) sc_l_right.nd rfl (Or.inl rfl) (pe_op op_add pe_int (pe_fn D__law_dip (hr.mono (by decide)) (by rfl) (pa_cons (pv 0) (pa_cons pe_int pa_nil))))) (pss_cons (ps_asg (pe_fn D__law_two (hr.mono (by decide)) (by rfl) (pa_cons (pv 0) (pa_cons (pv 1) pa_nil))) (pg_tupK (n := 2) K rfl (pgs_cons (pg_name (i := 2) sc_l_right.nd rfl (by first | exact Or.inl rfl | exact Or.inr rfl)) (pgs_cons (pg_name (i := 3) sc_l_right.nd rfl (by first | exact Or.inl rfl | exact Or.inr rfl)) pgs_nil)))) (pss_cons (ps_set (i := 4) sc_l_right.nd rfl (Or.inl rfl) (pe_fn D__law_parted (hr.mono (by decide)) (by rfl) (pa_cons (pv 2) (pa_cons (pv 3) pa_nil)))) (pss_cons (ps_set (i := 5) sc_l_right.nd rfl (Or.inl rfl) (pe_fn D__law_pieces (hr.mono (by decide)) (by rfl) (pa_cons (pv 4) pa_nil))) (pss_cons (ps_if (PW.pt (pw_or (pt_cmpR (op_neK K hr.units) (pe_fn D_falling (hr.mono (by decide)) (by rfl) (pa_cons (pv 1) (pa_cons (pv 4) pa_nil))) (pv 5) (nomark _)) (pw_or1 (pt_cmpR op_ne (pe_fn D_is_least_trade (hr.mono (by decide)) (by rfl) (pa_cons (pv 1) (pa_cons (pv 4) pa_nil))) (pe_cmpR op_eq (pe_callB (call_lenK K) (by rfl) T.n_len bt_len (pa_cons (pv 5) pa_nil)) pe_int (nomark _)) (nomark _))))) (pss_one (ps_ret pe_bl)) pss_nil) (pss_cons (ps_for PassesOwn.never rfl (pi_tupK K (pv 5)) (pg_name (i := 6) sc_l_right.nd rfl (by first | exact Or.inl rfl | exact Or.inr rfl)) (pss_cons (ps_if (PW.pt (pw_or (pt_cmpR op_notBl (pe_fn D_is_least_trade (hr.mono (by decide)) (by rfl) (pa_cons (pv 1) (pa_cons (pv 6) pa_nil))) pe_bl (nomark _)) (pw_or1 (pt_cmpR (op_neK K hr.units) (pe_fn D_falling (hr.mono (by decide)) (by rfl) (pa_cons (pv 1) (pa_cons (pv 6) pa_nil))) (pe_tup (pa_cons (pv 6) pa_nil)) (nomark _))))) (pss_one (ps_ret pe_bl)) pss_nil) (pss_cons (ps_if (PW.pt (pw_or (pt_cmpR op_lt (pe_callB (call_lenK K) (by rfl) T.n_len bt_len (pa_cons (pe_ix (ix_tupK K) (pv 6) pe_int (fun _ _ => rfl)) pa_nil)) pe_int (nomark _)) (pw_or (pt_cmpR op_eq (pe_callB (call_lenK K) (by rfl) T.n_len bt_len (pa_cons (pe_ix (ix_tupK K) (pv 6) pe_int (fun _ _ => rfl)) pa_nil)) pe_int (nomark _)) (pw_or1 (pt_not (pt_val (pe_fn D_is_trade (hr.mono (by decide)) (by rfl) (pa_cons (pv 1) (pa_cons (pv 6) pa_nil))))))))) (pss_one (ps_ret pe_bl)) pss_nil) (pss_one (ps_if (pt_cmpR (op_neK K hr.units) (pe_fn D_falling (hr.mono (by decide)) (by rfl) (pa_cons (pv 1) (pa_cons (pe_fn D_turned (hr.mono (by decide)) (by rfl) (pa_cons (pv 1) (pa_cons (pv 6) pa_nil))) pa_nil))) (pe_tup (pa_cons (pe_fn D_turned (hr.mono (by decide)) (by rfl) (pa_cons (pv 1) (pa_cons (pv 6) pa_nil))) pa_nil)) (nomark _)) (pss_one (ps_ret pe_bl)) pss_nil))))) (pss_cons (ps_if (pt_cmpR op_gt (pe_callB (call_lenK K) (by rfl) T.n_len bt_len (pa_cons (pv 5) pa_nil)) pe_int (nomark _)) (pss_cons (ps_set (i := 7) sc_l_right.nd rfl (Or.inl rfl) (pe_slice (sl_listK K) (pe_fn D__law_shaken (hr.mono (by decide)) (by rfl) (pa_cons (pv 0) (pa_cons (pe_callTy (call_lstK K) (by rfl) T.n_list bt_list (pa_cons (pv 5) pa_nil)) pa_nil))) po_none (po_some (pe_op op_add pe_int (pe_fn D__law_dip (hr.mono (by decide)) (by rfl) (pa_cons (pv 0) (pa_cons (pe_op op_sub (pe_callB (call_lenK K) (by rfl) T.n_len bt_len (pa_cons (pv 5) pa_nil)) pe_int) pa_nil))))))) (pss_cons (ps_set (i := 8) sc_l_right.nd rfl (Or.inl rfl) (pe_fn D__law_joined (hr.mono (by decide)) (by rfl) (pa_cons (pv 7) pa_nil))) (pss_one (ps_if (PW.pt (pw_or (pt_cmpR op_notBl (pe_fn D_is_trade (hr.mono (by decide)) (by rfl) (pa_cons (pv 1) (pa_cons (pv 8) pa_nil))) pe_bl (nomark _)) (pw_or (pt_val (pe_fn D_is_least_trade (hr.mono (by decide)) (by rfl) (pa_cons (pv 1) (pa_cons (pv 8) pa_nil)))) (pw_or1 (pt_cmpR (op_neK K hr.units) (pe_fn D_falling (hr.mono (by decide)) (by rfl) (pa_cons (pv 1) (pa_cons (pv 8) pa_nil))) (pe_callTy (call_tupK K) (by rfl) T.n_tuple bt_tuple (pa_cons (pe_callB (cr_sortedK K hr.units) (by rfl) T.n_sorted bt_sorted (pa_cons (pv 7) pa_nil)) pa_nil)) (nomark _)))))) (pss_one (ps_ret pe_bl)) pss_nil)))) pss_nil) (pss_cons (ps_if (pt_cmpR (op_neK K hr.units) (pe_fn D_falling (hr.mono (by decide)) (by rfl) (pa_cons (pv 1) (pa_cons (pe_fn D_turned (hr.mono (by decide)) (by rfl) (pa_cons (pv 1) (pa_cons (pv 4) pa_nil))) pa_nil))) (pe_callTy (call_tupK K) (by rfl) T.n_tuple bt_tuple (pa_cons (pe_callB (cr_sortedK K hr.units) (by rfl) T.n_sorted bt_sorted (pa_cons (pe_lc (own := [("_law_piece", 6)]) (by rfl) sc_l_right.nd (pi_tupK K (pv 5)) (blkOk_by (N := n_l_right) (sc := defScope s_l_right) (by decide +kernel)) (fun _ _ _ _ _ => (pg_name (i := 6) sc_l_right.nd rfl (by first | exact Or.inl rfl | exact Or.inr rfl))) (fun _ _ _ _ _ => pts_nil) (fun _ _ _ _ _ => (pe_tup (pa_cons (pe_ix (ix_tupK K) (pv 6) pe_int (fun _ _ => rfl)) (pa_cons (pe_ix (ix_tupK K) (pv 6) pe_int (fun _ _ => rfl)) pa_nil))))) pa_nil)) pa_nil)) (nomark _)) (pss_one (ps_ret pe_bl)) pss_nil) (pss_one (ps_ret (pe_and (pe_fn D__law_walks (hr.mono (by decide)) (by rfl) (pa_cons (pv 0) (pa_cons (pe_fn D__law_table (hr.mono (by decide)) (by rfl) (pa_cons (pv 2) pa_nil)) (pa_cons (pe_fn D__law_table (hr.mono (by decide)) (by rfl) (pa_cons (pv 3) pa_nil)) (pa_cons (pv 5) pa_nil))))) (pe_one (pe_fn D__law_walks (hr.mono (by decide)) (by rfl) (pa_cons (pv 0) (pa_cons (pe_fn D__law_table (hr.mono (by decide)) (by rfl) (pa_cons (pv 2) pa_nil)) (pa_cons (pe_fn D__law_table (hr.mono (by decide)) (by rfl) (pa_cons (pv 3) pa_nil)) (pa_cons (pv 5) pa_nil))))))))))))))))), ?_⟩
  have le2 : 2 ≤ sizeLine := by rw [sizeLine_eq]; omega
  have le1 : 1 ≤ sizeLine := by rw [sizeLine_eq]; omega
  -- order
  refine sd_asgT (te := tOp _ (tC _) (tCall sp_dip _ _ _)) (g := gName 1) ?_
  refine (evq_dip (i := 0) (σ := start n_l_right [.ref p]) (E := E0) (n := 5) rfl evd_int ⟨by omega, by omega⟩).at hp fun v0 H1 p1 ⟨j, hj, e⟩ => ⟨2, (j : Int), rfl, e, ?_⟩
  obtain ⟨n, en, h2, h6⟩ : ∃ n : Nat, (2 : Int) + (j : Int) = (n : Int) ∧ 2 ≤ n ∧ n ≤ 6 := ⟨2 + j, by omega, by omega, by omega⟩
  dsimp only
  show tSeq _ _ _ [some (.ref p), some (.int (2 + (j : Int))), none, none, none, none, none, none, none] H1
  rw [en]
  -- one, other
  refine sd_asgT (te := tCall sp_two _ _ _) (g := gTup K 2 _) ?_
  refine (evq_two (i := 0) (σ := [some (.ref p), some (.int (n : Int)), none, none, none, none, none, none, none]) (E := E0) (n := n) rfl (evd_var (i := 1) rfl (.int _)) ⟨h2, by omega⟩).at p1.q fun tw H2 p2 ⟨R, S, hR, hS, ne, htw⟩ => ?_
  obtain ⟨ta, xs, rfl, k1, k2⟩ := htw.tupE
  obtain ⟨v1, v2, rfl, d1, d2⟩ := k2.twoE
  refine ⟨ta, _, rfl, .of (hide_same _ _ _ _ k1), rfl, _, _, rfl, _, _, rfl, rfl, ?_⟩
  dsimp only
  show tSeq _ _ _ [some (.ref p), some (.int (n : Int)), some v1, some v2, none, none, none, none, none] H2
  have P2 := p1.trans p2
  have hT := diff_trade hR hS ne
  -- trade
  refine sq_asg (p := p) (evq_data (d := eT (diffT R S)) (evd_call (eva_cons (evd_var (i := 2) rfl d1) (eva_cons (evd_var (i := 3) rfl d2) eva_nil)) ⟨n, R, S, rfl, hR.shp, hS.shp, by omega⟩ fun e h => h R S rfl) (eT_noLi _)) P2.q fun tv H3 p3 d3 => ?_
  generalize htr : diffT R S = tr at *
  dsimp only
  show tSeq _ _ _ [some (.ref p), some (.int (n : Int)), some v1, some v2, some tv, none, none, none, none] H3
  -- due
  have due : EvQ p (tCall sp_pieces [] E0 (tCons (tVar 4) tNil)) [some (.ref p), some (.int (n : Int)), some v1, some v2, some tv, none, none, none, none] H3 fun v H2 => ∃ ps, IsParts tLe tr ps ∧ Dx (hide [p] H2) v (eQs ps) := by
    refine evq_of (evp_call (eva_cons (evd_var (i := 4) rfl d3) eva_nil) ⟨(n : Int), tr, rfl, hT, by omega⟩) fun Ha v Hb hq s ⟨d, hd, hv⟩ => ?_
    obtain ⟨ps, hps, rfl⟩ := hd tr rfl
    exact ⟨ps, hps, dx_hide (hq.same s) _ _ (eQs_noLi ps) hv⟩
  refine sq_asg due (P2.trans p3).q fun dv H4 p4 ⟨ps, hps, d4⟩ => ?_
  dsimp only
  show tSeq _ _ _ [some (.ref p), some (.int (n : Int)), some v1, some v2, some tv, some dv, none, none, none] H4
  have I4 : RS p H H4 v1 v2 tv dv R S tr ps := ⟨(P2.trans p3).trans p4, dxh p4 (dxh p3 d1), dxh p4 (dxh p3 d2), dxh p4 d3, d4⟩
  have lps : ps.length ≤ 576 := Nat.le_trans (parts_len hT hps) (side_len hT (by omega) true)
  have dps := eQs_depth ps
  -- what the program's own defs hand back
  have fall : ∀ (σ : L2.St) (H : Hp) (te : TE) (U : Trade) (us : List Trade), σ[1]? = some (some (.int (n : Int))) → EvD te σ H (eT U) → IsTrade n U → IsParts tLe U us → EvD (tCall sp_falling [] E0 (tCons (tVar 1) (tCons te tNil))) σ H (eQs us) := fun σ H te U us e1 e2 hU hus =>
    evd_call (eva_cons (evd_var e1 (.int _)) (eva_cons e2 eva_nil)) ⟨(n : Int), U, rfl, hU, by omega, by omega⟩ fun e h => by
      obtain ⟨vs, hvs, rfl⟩ := h _ U rfl
      rw [parts_unique tLe_anti hvs hus]
      rfl
  have least : ∀ (σ : L2.St) (H : Hp) (te : TE) (U : Trade) (us : List Trade), σ[1]? = some (some (.int (n : Int))) → EvD te σ H (eT U) → IsTrade n U → IsParts tLe U us → EvD (tCall sp_is_least [] E0 (tCons (tVar 1) (tCons te tNil))) σ H (.bool (decide (us.length = 1))) := fun σ H te U us e1 e2 hU hus =>
    evd_call (eva_cons (evd_var e1 (.int _)) (eva_cons e2 eva_nil)) ⟨(n : Int), U, rfl, hU, by omega, by omega⟩ fun e h => by
      obtain ⟨vs, hvs, rfl⟩ := h _ U rfl
      rw [parts_unique tLe_anti hvs hus]
  have istr : ∀ (σ : L2.St) (H : Hp) (te : TE) (U : Trade), σ[1]? = some (some (.int (n : Int))) → EvD te σ H (eT U) → IsTrade n U → EvD (tCall sp_is_trade [] E0 (tCons (tVar 1) (tCons te tNil))) σ H (.bool true) := fun σ H te U e1 e2 hU =>
    evd_call (eva_cons (evd_var e1 (.int _)) (eva_cons e2 eva_nil)) ⟨(n : Int), U, rfl, hU, by omega, by omega⟩ fun e h => h
  have trnd : ∀ (σ : L2.St) (H : Hp) (te : TE) (U : Trade), σ[1]? = some (some (.int (n : Int))) → EvD te σ H (eT U) → IsTrade n U → EvD (tCall sp_turned [] E0 (tCons (tVar 1) (tCons te tNil))) σ H (eT (turn U)) := fun σ H te U e1 e2 hU =>
    evd_call (eva_cons (evd_var e1 (.int _)) (eva_cons e2 eva_nil)) ⟨(n : Int), U, rfl, hU, by omega, by omega⟩ fun e h => h _ U rfl
  have neQ : ∀ (σ : L2.St) (H : Hp) (ta tb : TE) (us : List Trade), EvD ta σ H (eQs us) → EvD tb σ H (eQs us) → EvT (tTest (tOp (rNeD K) ta tb)) σ H false := fun σ H ta tb us ha hb => by
    have := eQs_depth us
    exact evt_test (evd_neD ha hb (eQs_pure us) (eQs_pure us) (by omega) (by omega) (by rw [eqv_true (eQs_pure us) rfl]; rfl))
  have one : ∀ (σ : L2.St) (H : Hp) (te : TE) (U : Trade), EvD te σ H (eT U) → EvD (tTup (tCons te tNil)) σ H (eQs [U]) := fun σ H te U h => evd_tup (ds := [eT U]) (eva_cons h eva_nil) le1
  have lenD : ∀ (σ : L2.St) (H : Hp), σ[5]? = some (some dv) → Dx H dv (eQs ps) → EvD (tCB (K40.rLenS K) (tCons (tVar 5) tNil)) σ H (.int (ps.length : Int)) := fun σ H e1 e2 => by
    have z := evd_lenT (K := K) (ta := tVar 5) (σ := σ) (H := H) (evd_var e1 e2)
    rwa [List.length_map] at z
  -- the trade falls into what is due
  have t4 := I4.t.mono (hide_same _ _) _ _
  have d4' := I4.d.mono (hide_same _ _) _ _
  refine sd_ifN (evt_orF (neQ _ _ _ _ ps (fall _ _ _ tr ps rfl (evd_var (i := 4) rfl t4) hT hps) (evd_var (i := 5) rfl d4'))
    (evt_test (evd_neB (least _ _ _ tr ps rfl (evd_var (i := 4) rfl t4) hT hps) (evd_eqI (lenD _ _ rfl d4') evd_int rfl) ?_))) fun H5 s5 => ?_
  · have : decide (ps.length = 1) = decide ((ps.length : Int) = 1) := decide_eq_decide.mpr (by omega)
    rw [this]
    simp
  dsimp only
  have I5 := I4.mono (.of I4.s.q s5)
  -- each piece
  refine sd_forS (ds := ps.map eT) (src_tup (K := K) (evd_var (i := 5) rfl (I5.d.mono (hide_same _ _) _ _))) (fun i σ' Hc => ∃ u6, σ' = [some (.ref p), some (.int (n : Int)), some v1, some v2, some tv, some dv, u6, none, none]) (fun H1 s1 => ⟨none, rfl⟩) (fun i d z σ' H' Hc N ed ⟨u6, es⟩ sB s3 hz hN => ?_) fun σ' H6 ⟨u6, es⟩ s6 => ?_
  · subst es
    rw [List.getElem?_map] at ed
    obtain ⟨r, er, rfl⟩ := Option.map_eq_some_iff.mp ed
    have mr : r ∈ ps := List.mem_of_getElem? er
    have hr' := hps.part r mr
    have hrT : IsTrade n r := part_trade hT hr'
    have hself := part_self (le := tLe) hr'
    have hturn := part_self (le := tLe) (part_turn hr')
    have tl := trade_len hrT
    refine gnm ?_
    dsimp only
    show tSeq _ _ _ [some (.ref p), some (.int (n : Int)), some v1, some v2, some tv, some dv, some z, none, none] H'
    refine sd_ifN (evt_orF (evt_test (evd_notB (least _ _ _ r [r] rfl (evd_var (i := 6) rfl hz) hrT hself) evd_bl rfl)) (neQ _ _ _ _ [r] (fall _ _ _ r [r] rfl (evd_var (i := 6) rfl hz) hrT hself) (one _ _ _ r (evd_var (i := 6) rfl hz)))) fun Ha sa => ?_
    dsimp only
    have za := hz.mono sa _ _
    have ln : EvD (tCB (K40.rLenS K) (tCons (tOp (rIxT K) (tVar 6) (tC (.int 0))) tNil)) [some (.ref p), some (.int (n : Int)), some v1, some v2, some tv, some dv, some z, none, none] Ha (.int (r.1.length : Int)) := by
      have y := evd_lenT (K := K) (ds := r.1.map eC) (ta := tOp (rIxT K) (tVar 6) (tC (.int 0))) (σ := [some (.ref p), some (.int (n : Int)), some v1, some v2, some tv, some dv, some z, none, none]) (H := Ha) (evd_ixT (k := 0) (ds := [eS r.1, eS r.2]) (evd_var (i := 6) rfl za) evd_int rfl)
      rwa [List.length_map] at y
    refine sd_ifN (evt_orF (evt_test (evd_I0 ln (evd_int (i := 4)) fun H => ?_)) (evt_orF (evt_test (evd_eqI ln (evd_int (i := 5)) (decide_eq_false (by omega)))) (evt_notT (evt_B (istr _ _ _ r rfl (evd_var (i := 6) rfl za) hrT))))) fun Hb sb => ?_
    · rw [decide_eq_false (by omega : ¬ (r.1.length : Int) < 4)]
      exact .bl false
    · dsimp only
      have zb := za.mono sb _ _
      have tu : ∀ (Hx : Hp), Same Hb Hx → EvD (tCall sp_turned [] E0 (tCons (tVar 1) (tCons (tVar 6) tNil))) [some (.ref p), some (.int (n : Int)), some v1, some v2, some tv, some dv, some z, none, none] Hx (eT (turn r)) := fun Hx sx => trnd _ _ _ r rfl (evd_var (i := 6) rfl (zb.mono sx _ _)) hrT
      refine sd_ifN (neQ _ _ _ _ [turn r] (fall _ _ _ (turn r) [turn r] rfl (tu _ (Same.refl _)) hrT.turn hturn) (one _ _ _ (turn r) (tu _ (Same.refl _)))) fun Hc2 sc => ?_
      exact hN _ _ ⟨some z, rfl⟩ ((sa.trans sb).trans sc)
  subst es
  have I6 := I5.mono (.of I5.s.q s6)
  -- some of them, joined
  dsimp only
  refine sd_join (P := fun σ' Hc => ∃ u6 u7 u8, σ' = [some (.ref p), some (.int (n : Int)), some v1, some v2, some tv, some dv, u6, u7, u8] ∧ RS p H Hc v1 v2 tv dv R S tr ps) (fun σ' Hc ⟨u6, u7, u8, es, I7⟩ => ?_) fun fin => ?_
  · -- turned, and the walks
    subst es
    have t7 := I7.t.mono (hide_same _ _) _ _
    have d7 := I7.d.mono (hide_same _ _) _ _
    obtain ⟨ms, e1, e2, e3⟩ := sort_trades (ps.map turn)
    have hms := parts_turn hps e2 e3
    have lst : EvD (tLc (iTup K (tVar 5)) (gName 6) tYes (tTup (tCons (tOp (rIxT K) (tVar 6) (tC (.int 1))) (tCons (tOp (rIxT K) (tVar 6) (tC (.int 0))) tNil))) [6]) [some (.ref p), some (.int (n : Int)), some v1, some v2, some tv, some dv, u6, u7, u8] Hc (.list ((ps.map turn).map eT)) := by
      rw [List.map_map]
      exact evd_lcM (l := ps) (enc := eT) (src_tup (K := K) (evd_var (i := 5) rfl d7)) (fun r => eT (turn r)) (by rw [sizeLine_eq]; omega) (fun i r z H' e s3 hz => ⟨rfl, Same.refl _, evd_tup (ds := [eS r.2, eS r.1]) (eva_cons (evd_ixT (k := 1) (ds := [eS r.1, eS r.2]) (evd_var rfl hz) evd_int rfl) (eva_cons (evd_ixT (k := 0) (ds := [eS r.1, eS r.2]) (evd_var rfl hz) evd_int rfl) eva_nil)) le2, eT_noL _⟩) gm_name
    have srt := eT_sorted (K := K) lst (.inl rfl)
    rw [e1] at srt
    refine sd_ifN (neQ _ _ _ _ ms (fall _ _ _ (turn tr) ms rfl (trnd _ _ _ tr rfl (evd_var (i := 4) rfl t7) hT) hT.turn hms) (evd_tupOf srt)) fun H8 s8 => ?_
    dsimp only
    have I8 := I7.mono (.of I7.s.q s8)
    have tab : ∀ (i : Nat) (v : V) (X : List (List Int)) (Hx : Hp), [some (.ref p), some (.int (n : Int)), some v1, some v2, some tv, some dv, u6, u7, u8][i]? = some (some v) → Lat n X → Dx Hx v (eSq X) → EvD (tCall (sp_table a) [] E0 (tCons (tVar i) tNil)) [some (.ref p), some (.int (n : Int)), some v1, some v2, some tv, some dv, u6, u7, u8] Hx (eTab a.cT X) := fun i v X Hx e hX hx =>
      evd_call (eva_cons (evd_var e hx) eva_nil) ⟨n, X, rfl, hX, by omega, by omega⟩ fun e h => h X rfl
    have wk : EvQ p (tCall (sp_walks a) [] E0 (tCons (tVar 0) (tCons (tCall (sp_table a) [] E0 (tCons (tVar 2) tNil)) (tCons (tCall (sp_table a) [] E0 (tCons (tVar 3) tNil)) (tCons (tVar 5) tNil))))) [some (.ref p), some (.int (n : Int)), some v1, some v2, some tv, some dv, u6, u7, u8] H8 fun v _ => v = .bl true :=
      evq_walks (n := n) rfl (tab 2 v1 R _ rfl hR I8.a) (tab 3 v2 S _ rfl hS I8.b) (evd_var (i := 5) rfl I8.d) hR hS ne ⟨by omega, by omega⟩ (by rw [htr]; exact hps) (by omega)
    refine sq_ret (evq_andT wk wk) I8.s.q fun v H9 p9 e => ?_
    subst e
    exact q H9 (I8.s.trans p9)
  · have d6 := I6.d.mono (hide_same _ _) _ _
    refine sd_if (b := decide (1 < (ps.length : Int))) (evt_test (evd_I0 (lenD _ _ rfl d6) (evd_int (i := 1)) fun _ => .bl _)) (fun hb H7 s7 => ?_) fun _ H7 s7 => fin _ _ ⟨_, _, _, rfl, I6.mono (.of I6.s.q s7)⟩
    have hb : 1 < ps.length := by have := of_decide_eq_true hb; omega
    have I7 := I6.mono (.of I6.s.q s7)
    refine sd_asgSl (te := tCall sp_shaken _ _ _) (r := rSlL K) (tl := tNoPart) (th := tPart (tOp _ _ _)) (i := 7) ?_
    refine (evq_shaken (i := 0) (E := E0) (σ := [some (.ref p), some (.int (n : Int)), some v1, some v2, some tv, some dv, u6, none, none]) rfl (evq_lstOfT (K := K) (evd_var (i := 5) rfl I7.d) (noLiA_map eT_noLi _)) (by rw [List.length_map]; omega)).at I7.s.q fun lv H8 p8 ⟨es, pe, hlv⟩ => ?_
    obtain ⟨rs, rfl, pr⟩ := perm_map_inv pe rfl
    have I8 := I7.mono p8
    have ln8 : EvD (tOp (rI0 fun i j => .int (i - j)) (tCB (K40.rLenS K) (tCons (tVar 5) tNil)) (tC (.int 1))) [some (.ref p), some (.int (n : Int)), some v1, some v2, some tv, some dv, u6, none, none] (hide [p] H8) (.int ((ps.length : Int) - 1)) := evd_I0 (lenD _ _ rfl I8.d) (evd_int (i := 1)) fun _ => .int _
    refine (evq_dip (i := 0) (E := E0) (σ := [some (.ref p), some (.int (n : Int)), some v1, some v2, some tv, some dv, u6, none, none]) (H := H8) rfl ln8 ⟨by omega, by omega⟩).at I8.s.q fun jv H9 p9 ⟨j2, hj2, ej⟩ => ?_
    subst ej
    have I9 := I8.mono p9
    have hlv9 := dxh p9 hlv
    obtain ⟨la, xs, rfl, k1, k2⟩ := hlv9.lstE
    refine ⟨2, (j2 : Int), rfl, rfl, 2 + (j2 : Int), rfl, la, xs, rfl, .of (hide_same _ _ _ _ k1), fun l nl => ?_⟩
    have lr : rs.length = ps.length := pr.length_eq
    have ecut : cutV xs none (some (2 + (j2 : Int))) = xs.take (2 + j2) := by
      have e : (2 : Int) + (j2 : Int) = ((2 + j2 : Nat) : Int) := by omega
      rw [e]
      unfold cutV
      rw [HT.sIx_none, HT.sIx_nat, List.drop_zero, Nat.sub_zero, k2.length, List.length_map, lr, Nat.min_eq_left (by omega)]
    rw [ecut]
    have sl := same_new nl (o := .lst (xs.take (2 + j2)))
    have el : (upd H9 l (.lst (xs.take (2 + j2)))) l = some (.lst (xs.take (2 + j2))) := upd_same
    have pl : PS p H9 (upd H9 l (.lst (xs.take (2 + j2)))) := .of p9.q sl
    have hl : Dx (hide [p] (upd H9 l (.lst (xs.take (2 + j2))))) (.ref l) (.list ((rs.take (2 + j2)).map eT)) := by
      refine .lst ?_ ?_ (xs := xs.take (2 + j2))
      · rw [hide_out fun m => p9.q.ne l m nl]
        exact el
      · rw [List.map_take]
        exact (k2.take (2 + j2)).mono (hide_mono sl) _ _
    have I10 := I9.mono pl
    generalize upd H9 l (.lst (xs.take (2 + j2))) = H10 at hl I10
    dsimp only
    show tSeq _ _ _ [some (.ref p), some (.int (n : Int)), some v1, some v2, some tv, some dv, u6, some (.ref l), none] H10
    have nd : rs.Nodup := pr.nodup_iff.mpr hps.nodup
    have ndq : (rs.take (2 + j2)).Nodup := (List.take_sublist _ _).nodup nd
    have hq : ∀ r ∈ rs.take (2 + j2), IsPart tr r := fun r m => hps.part r (pr.mem_iff.mp (List.mem_of_mem_take m))
    have lq : (rs.take (2 + j2)).length = 2 + j2 := by rw [List.length_take]; omega
    have hl10 := hl.mono (hide_same _ _) _ _
    -- both
    have join : EvP (tCall sp_joined [] E0 (tCons (tVar 7) tNil)) [some (.ref p), some (.int (n : Int)), some v1, some v2, some tv, some dv, u6, some (.ref l), none] H10 fun v H2 => ∃ J, IsJoin J (rs.take (2 + j2)) ∧ Dx H2 v (eT J) := by
      refine (evp_call (eva_cons (evd_var (i := 7) rfl hl10) eva_nil) ⟨rs.take (2 + j2), rfl, fun b => ⟨flat_nodup hq ndq, flat_len hT (by omega) hq ndq⟩⟩).imp fun v H2 ⟨d, hd, hv⟩ => ?_
      obtain ⟨J, rfl, hJ⟩ := hd _ rfl
      exact ⟨J, hJ, hv⟩
    refine sd_asg join fun bv H11 s11 ⟨J, hJ, hbv⟩ => ?_
    dsimp only
    show tIfS _ _ _ _ [some (.ref p), some (.int (n : Int)), some v1, some v2, some tv, some dv, u6, some (.ref l), some bv] H11
    have I11 := I10.mono (.of I10.s.q s11)
    have hl11 := hl10.mono s11 _ _
    generalize rs.take (2 + j2) = qs at *
    have hJT : IsTrade n J := join_trade hT hq hJ (fun e => by rw [e] at lq; simp at lq; omega)
    obtain ⟨ms, e1, e2, e3⟩ := sort_trades qs
    have hms := join_parts hq hJ ndq e2 e3
    have lms : ms.length = 2 + j2 := by rw [e2.length_eq, lq]
    have srt := eT_sorted (K := K) (te := tVar 7) (σ := [some (.ref p), some (.int (n : Int)), some v1, some v2, some tv, some dv, u6, some (.ref l), some bv]) (H := H11) (evd_var (i := 7) rfl hl11) (.inl rfl)
    rw [e1] at srt
    have lst := least [some (.ref p), some (.int (n : Int)), some v1, some v2, some tv, some dv, u6, some (.ref l), some bv] H11 (tVar 8) J ms rfl (evd_var (i := 8) rfl hbv) hJT hms
    rw [decide_eq_false (by omega : ¬ ms.length = 1)] at lst
    refine sd_ifN (evt_orF (evt_test (evd_notB (istr _ _ _ J rfl (evd_var (i := 8) rfl hbv) hJT) evd_bl rfl)) (evt_orF (evt_B lst) (neQ _ _ _ _ ms (fall _ _ _ J ms rfl (evd_var (i := 8) rfl hbv) hJT hms) (evd_tupOf srt)))) fun H12 s12 => ?_
    exact fin _ _ ⟨_, _, _, rfl, I11.mono (.of I11.s.q s12)⟩
end
end K40
end

section
set_option autoImplicit false
set_option linter.all false
set_option maxRecDepth 100000
namespace K40
/-! ### four trades of four cells -/
def tkN (b s : Int) : Trade :=
  ([(b, (s, (b + s).fmod 4)), (b, (s + 1, (b + s).fmod 4 + 1)), (b + 1, (s, (b + s).fmod 4 + 1)), (b + 1, (s + 1, (b + s).fmod 4))],
   [(b, (s, (b + s).fmod 4 + 1)), (b, (s + 1, (b + s).fmod 4)), (b + 1, (s, (b + s).fmod 4)), (b + 1, (s + 1, (b + s).fmod 4 + 1))])
def qs4 : List Trade := [tkN 0 0, tkN 0 2, tkN 2 0, tkN 2 2]
def sqA : List (List Int) := [[0, 1, 2, 3], [1, 0, 3, 2], [2, 3, 0, 1], [3, 2, 1, 0]]
def sqB : List (List Int) := [[1, 0, 3, 2], [0, 1, 2, 3], [3, 2, 1, 0], [2, 3, 0, 1]]
def latD (R : List (List Int)) : Bool :=
  decide (R.length = 4) && R.all (fun r => decide (r.length = 4)) &&
  (List.range 4).all fun i => (List.range 4).all fun j => decide (0 ≤ gn R i j) && decide (gn R i j < 4) &&
    (List.range 4).all fun k => (decide (gn R i j ≠ gn R i k) || decide (j = k)) && (decide (gn R j i ≠ gn R k i) || decide (j = k))
theorem lat_of {R : List (List Int)} (h : latD R = true) : Lat 4 R := by
  unfold latD at h
  rw [Bool.and_eq_true, Bool.and_eq_true] at h
  obtain ⟨⟨h1, h2⟩, h3⟩ := h
  have all : ∀ i j, i < 4 → j < 4 → (0 ≤ gn R i j ∧ gn R i j < 4) ∧ ∀ k, k < 4 → (gn R i j = gn R i k → j = k) ∧ (gn R j i = gn R k i → j = k) := fun i j hi hj => by
    have a := List.all_eq_true.mp (List.all_eq_true.mp h3 i (List.mem_range.mpr hi)) j (List.mem_range.mpr hj)
    rw [Bool.and_eq_true, Bool.and_eq_true] at a
    refine ⟨⟨of_decide_eq_true a.1.1, of_decide_eq_true a.1.2⟩, fun k hk => ?_⟩
    have b := List.all_eq_true.mp a.2 k (List.mem_range.mpr hk)
    rw [Bool.and_eq_true, Bool.or_eq_true, Bool.or_eq_true] at b
    exact ⟨fun e => b.1.elim (fun z => absurd e (of_decide_eq_true z)) fun z => of_decide_eq_true z, fun e => b.2.elim (fun z => absurd e (of_decide_eq_true z)) fun z => of_decide_eq_true z⟩
  exact ⟨of_decide_eq_true h1, fun r m => of_decide_eq_true (List.all_eq_true.mp h2 r m), fun i j hi hj => (all i j hi hj).1, fun i j k hi hj hk e => ((all i j hi hj).2 k hk).1 e, fun i k j hi hk hj e => ((all j i hj hi).2 k hk).2 e⟩
theorem latA : Lat 4 sqA := lat_of (by decide +kernel)
theorem latB : Lat 4 sqB := lat_of (by decide +kernel)
def tr4 : Trade := diffT sqA sqB
theorem tr4_trade : IsTrade 4 tr4 := diff_trade latA latB (by decide)
theorem qs4_mem (b : Bool) : (∀ c ∈ qs4.flatMap (fun q => sd q b), c ∈ sd tr4 b) ∧ ∀ c ∈ sd tr4 b, c ∈ qs4.flatMap fun q => sd q b := by
  cases b <;> decide +kernel
theorem qs4_nd (b : Bool) : (qs4.flatMap fun q => sd q b).Nodup := by cases b <;> decide +kernel
theorem qs4_len (b : Bool) : (qs4.flatMap fun q => sd q b).length ≤ 10000 := by cases b <;> decide +kernel
theorem qs4_nodup : qs4.Nodup := by decide +kernel
theorem join4 {J : Trade} (h : IsJoin J qs4) : J = tr4 := part_ext h.asc tr4_trade.asc fun v => by
  rw [h.mem v]
  obtain ⟨b, c⟩ := v
  constructor
  · rintro ⟨q, m, z⟩
    exact (qs4_mem b).1 c (List.mem_flatMap.mpr ⟨q, m, z⟩)
  · intro z
    exact List.mem_flatMap.mp ((qs4_mem b).2 c z)
def adjD (u v : Vx) : Bool := decide (v.1 = !u.1) && (decide (pr 0 u.2 = pr 0 v.2) || decide (pr 1 u.2 = pr 1 v.2) || decide (pr 2 u.2 = pr 2 v.2))
theorem adjD_iff {u v : Vx} : adjD u v = true ↔ Adj u v := by
  unfold adjD Adj
  rw [Bool.and_eq_true, Bool.or_eq_true, Bool.or_eq_true]
  constructor
  · rintro ⟨h1, h2⟩
    refine ⟨of_decide_eq_true h1, ?_⟩
    rcases h2 with (h2 | h2) | h2
    · exact ⟨0, of_decide_eq_true h2⟩
    · exact ⟨1, of_decide_eq_true h2⟩
    · exact ⟨2, of_decide_eq_true h2⟩
  · rintro ⟨h1, k, h2⟩
    refine ⟨decide_eq_true h1, ?_⟩
    match k, h2 with
    | 0, h2 => exact .inl (.inl (decide_eq_true h2))
    | 1, h2 => exact .inl (.inr (decide_eq_true h2))
    | _ + 2, h2 => exact .inr (decide_eq_true h2)
/-- each vertex but the first is joined to an earlier one -/
def chainD : List Vx → List Vx → Bool
  | _, [] => true
  | seen, v :: vs => seen.any (fun u => adjD u v) && chainD (v :: seen) vs
theorem chain_reach {T : Trade} {s : Vx} : ∀ {vs seen : List Vx}, chainD seen vs = true → (∀ u ∈ seen, Reach T s u) → (∀ v ∈ vs, Mem T v) → ∀ v ∈ vs, Reach T s v
  | [], _, _, _, _ => fun v m => absurd m List.not_mem_nil
  | x :: vs, seen, h, hs, hm => by
    rw [chainD, Bool.and_eq_true] at h
    obtain ⟨u, mu, au⟩ := List.any_eq_true.mp h.1
    have rx : Reach T s x := .step (hs u mu) (adjD_iff.mp au) (hm x List.mem_cons_self)
    intro v m
    rcases List.mem_cons.mp m with rfl | m
    · exact rx
    · exact chain_reach (vs := vs) (seen := x :: seen) h.2 (fun w mw => by
        rcases List.mem_cons.mp mw with rfl | mw
        · exact rx
        · exact hs w mw) (fun w mw => hm w (List.mem_cons_of_mem _ mw)) v m
def ascD : List Cell → Bool
  | [] => true
  | c :: cs => cs.all (fun d => cLt c d) && ascD cs
theorem ascD_asc : ∀ {l : List Cell}, ascD l = true → Asc l
  | [], _ => List.Pairwise.nil
  | c :: cs, h => by
    rw [ascD, Bool.and_eq_true] at h
    exact List.pairwise_cons.mpr ⟨fun d m => List.all_eq_true.mp h.1 d m, ascD_asc h.2⟩
def partD (T q : Trade) (s : Vx) (vs : List Vx) : Bool :=
  ascD q.1 && ascD q.2 && decide (s ∈ vxs T) && chainD [s] vs && vs.all (fun v => decide (v ∈ vxs T)) && decide (s ∈ vxs q) &&
  (vxs q).all (fun v => decide (v ∈ s :: vs)) && (vxs q).all fun u => (vxs T).all fun v => !adjD u v || decide (v ∈ vxs q)
theorem part_of {T q : Trade} {s : Vx} {vs : List Vx} (h : partD T q s vs = true) : IsPart T q := by
  unfold partD at h
  simp only [Bool.and_eq_true] at h
  obtain ⟨⟨⟨⟨⟨⟨⟨h1, h2⟩, h3⟩, h4⟩, h5⟩, h6⟩, h7⟩, h8⟩ := h
  have ms : Mem T s := mem_vxs.mp (of_decide_eq_true h3)
  refine ⟨fun b => by cases b; exact ascD_asc h2; exact ascD_asc h1, s, ms, fun v => ⟨fun m => ?_, fun r => ?_⟩⟩
  · have mv := of_decide_eq_true (List.all_eq_true.mp h7 v (mem_vxs.mpr m))
    rcases List.mem_cons.mp mv with rfl | mv
    · exact .refl ms
    · exact chain_reach h4 (fun u mu => by rw [List.mem_singleton.mp mu]; exact .refl ms) (fun w mw => mem_vxs.mp (of_decide_eq_true (List.all_eq_true.mp h5 w mw))) v mv
  · have key : ∀ u v, Reach T u v → u = s → Mem q v := fun u v r => by
      induction r with
      | refl _ => intro e; rw [e]; exact mem_vxs.mp (of_decide_eq_true h6)
      | step _ a m ih =>
        intro e
        have z := List.all_eq_true.mp (List.all_eq_true.mp h8 _ (mem_vxs.mpr (ih e))) _ (mem_vxs.mpr m)
        rw [adjD_iff.mpr a] at z
        exact mem_vxs.mp (of_decide_eq_true (by simpa using z))
    exact key s v r rfl
def ordN (b s : Int) : List Vx :=
  let t := tkN b s
  let at' := fun (x : Bool) (i : Nat) => (x, (sd t x).getD i (0, (0, 0)))
  [at' false 0, at' false 1, at' false 2, at' true 1, at' true 2, at' true 3, at' false 3]
theorem part4 (b s : Int) (h : (b = 0 ∨ b = 2) ∧ (s = 0 ∨ s = 2)) : IsPart tr4 (tkN b s) := by
  refine part_of (s := (true, (sd (tkN b s) true).getD 0 (0, (0, 0)))) (vs := ordN b s) ?_
  obtain ⟨hb, hs⟩ := h
  rcases hb with rfl | rfl <;> rcases hs with rfl | rfl <;> decide +kernel
theorem parts4 : ∀ q ∈ qs4, IsPart tr4 q := fun q m => by
  unfold qs4 at m
  simp only [List.mem_cons, List.not_mem_nil, or_false] at m
  rcases m with rfl | rfl | rfl | rfl
  · exact part4 0 0 ⟨.inl rfl, .inl rfl⟩
  · exact part4 0 2 ⟨.inl rfl, .inr rfl⟩
  · exact part4 2 0 ⟨.inr rfl, .inl rfl⟩
  · exact part4 2 2 ⟨.inr rfl, .inr rfl⟩
end K40
end

section
set_option Elab.async false
set_option linter.all false
set_option maxRecDepth 100000
set_option maxHeartbeats 4000000
namespace K40
open PySem PySem.Spec PyProof.Rows L2
section
variable {K : PySem.W.Frag} {σ : L2.St} {H H' : Hp} {ta tb te : TE} {i j : Int}
theorem evd_min2 (h : EvD ta σ H (.int i)) (g : EvD tb σ H (.int j)) : EvD (tCB (fun xs H Q => ∃ i j, xs = [.int i, .int j] ∧ Q (.int (if j < i then j else i)) H) (tCons ta (tCons tb tNil))) σ H (.int (if j < i then j else i)) := evd_cb (eva_cons h (eva_cons g eva_nil)) fun H1 vs Q hv q => by
  obtain ⟨x, y, rfl, hx, hy⟩ := hv.twoE
  exact ⟨i, j, by rw [hx.intE, hy.intE], q _ H1 (Same.refl _) (.int _)⟩
theorem evd_right {s : Addr} {ns : List Int} {k : Nat} {E E' : XK} (e0 : σ[0]? = some (some (.ref s))) (e1 : σ[1]? = some (some (.int (k : Int)))) (hs : SqL K H s (ns.map V.int)) (hk : k ≤ 100) : EvD (tCall sp_right [] E (tCons (tCall (sp_pot K) [] E' (tCons (tVar 0) (tCons (tVar 1) tNil))) tNil)) σ H (.bool true) := fun H1 s1 Q q =>
  ⟨_, e0, _, e1, s, ns, k, rfl, s1.seq hs, hk, fun p H2 s2 n2 q2 => ⟨p, rfl, q2, fun H3 p3 => q _ H3 (fun x o e => p3.up x o (by
    rw [hide_out fun m => ?_]
    · exact s2 _ _ e
    · rw [List.mem_singleton.mp m, n2] at e
      cases e)) (.bl true)⟩⟩
end
theorem four_take {i : Nat} {b : Int} (eb : [(0 : Int), 2][i]? = some b) : ([(0 : Int), 2].take (i + 1)).flatMap (fun b => [tkN b 0, tkN b 2]) = ([(0 : Int), 2].take i).flatMap (fun b => [tkN b 0, tkN b 2]) ++ [0, 2].map (tkN b) := by
  rw [List.take_add_one, eb, List.flatMap_append]
  rfl
theorem four_len : ∀ l : List Int, (l.flatMap fun b => [tkN b 0, tkN b 2]).length = 2 * l.length
  | [] => rfl
  | b :: l => by
    simp only [List.flatMap_cons, List.length_append, four_len l, List.length_cons, List.length_nil]
    omega
section
variable {P : Program} {w : World} {K : PySem.W.Frag} {mg : Str → Option Value} {base : Heap} {a : Adr} {f : Addr} {fd : FuncData}
def sp_law (K : PySem.W.Frag) : Sp := fun vs H Q _ => ∃ (a : Addr) (ns : List Int), vs = [.ref a] ∧ SqL K H a (ns.map V.int) ∧ ns.length ≤ 63 ∧ ∀ H', Q (.bl true) H'
theorem ok_law (F : Fun K "law" "law" s_law f fd) (T : Txt K mg a) (D__law_pot : Has P w K mg base 1 "_law_pot" (sp_pot K)) (D__law_right : Has P w K mg base 13 "_law_right" sp_right) (D__law_joined : Has P w K mg base 1 "_law_joined" sp_joined)
    (D_is_trade : Has P w K mg base 7 "is_trade" sp_is_trade) (D_falling : Has P w K mg base 8 "falling" sp_falling) : FnOk P w K mg base CX0 14 f fd ["_law_script"] (sp_law K) := by
  refine F.ok sc_law (fun vs H Q E q => by obtain ⟨_, _, rfl, _⟩ := q; rfl) (fun cdv A outer s H vs Q E hr h => ?_)
  obtain ⟨s0, ns, rfl, hs, hl, q⟩ := h
  refine ⟨_, (pss_cons (ps_for PassesOwn.never rfl (pi_range1 (by rfl) T.n_range (pa_cons (pe_callB (call_max2 rfl) (by rfl) T.n_max bt_max (pa_cons pe_int (pa_cons (pe_callB (call_min2 rfl) (by rfl) T.n_min bt_min (pa_cons pe_int (pa_cons (pe_callB (call_lenK K) (by rfl) T.n_len bt_len (pa_cons (pv 0) pa_nil)) pa_nil))) pa_nil))) pa_nil)) (pg_name (i := 1) sc_law.nd rfl (by first | exact Or.inl rfl | exact Or.inr rfl)) (pss_one (ps_if (pt_not (pt_val (pe_fn D__law_right (hr.mono (by decide)) (by rfl) (pa_cons (pe_fn D__law_pot (hr.mono (by decide)) (by rfl) (pa_cons (pv 0) (pa_cons (pv 1) pa_nil))) pa_nil)))) (pss_one (ps_ret pe_bl)) pss_nil))) (pss_cons (ps_set (i := 2) sc_law.nd rfl (Or.inl rfl) (pe_lst pa_nil)) (pss_cons (ps_for PassesOwn.never rfl (pi_tupK K (pe_tup (pa_cons pe_int (pa_cons pe_int pa_nil)))) (pg_name (i := 3) sc_law.nd rfl (by first | exact Or.inl rfl | exact Or.inr rfl)) (pss_one (ps_for PassesOwn.never rfl (pi_tupK K (pe_tup (pa_cons pe_int (pa_cons pe_int pa_nil)))) (pg_name (i := 4) sc_law.nd rfl (by first | exact Or.inl rfl | exact Or.inr rfl)) (pss_cons (ps_set (i := 5) sc_law.nd rfl (Or.inl rfl) (pe_op op_modN (pe_op op_add (pv 3) (pv 4)) pe_int)) (pss_cons (ps_set (i := 6) sc_law.nd rfl (Or.inl rfl) (pe_lst (pa_cons (pe_tup (pa_cons (pv 3) (pa_cons (pv 4) (pa_cons (pv 5) pa_nil)))) (pa_cons (pe_tup (pa_cons (pv 3) (pa_cons (pe_op op_add (pv 4) pe_int) (pa_cons (pe_op op_add (pv 5) pe_int) pa_nil)))) pa_nil)))) (pss_cons (ps_set (i := 6) sc_law.nd rfl (Or.inl rfl) (pe_op op_cat (pv 6) (pe_lst (pa_cons (pe_tup (pa_cons (pe_op op_add (pv 3) pe_int) (pa_cons (pv 4) (pa_cons (pe_op op_add (pv 5) pe_int) pa_nil)))) (pa_cons (pe_tup (pa_cons (pe_op op_add (pv 3) pe_int) (pa_cons (pe_op op_add (pv 4) pe_int) (pa_cons (pv 5) pa_nil)))) pa_nil))))) (pss_cons (ps_setLc (i := 7) (own := [("_law_row", 10), ("_law_column", 11), ("_law_sign", 12)]) (by rfl) sc_law.nd rfl rfl (sw_true rfl rfl rfl (by decide +kernel)) (pi_listK K (pv 6)) (blkOk_by (N := n_law) (sc := defScope s_law) (by decide +kernel)) (fun _ _ _ _ _ => (pg_tupK (n := 3) K rfl (pgs_cons (pg_name (i := 10) sc_law.nd rfl (by first | exact Or.inl rfl | exact Or.inr rfl)) (pgs_cons (pg_name (i := 11) sc_law.nd rfl (by first | exact Or.inl rfl | exact Or.inr rfl)) (pgs_cons (pg_name (i := 12) sc_law.nd rfl (by first | exact Or.inl rfl | exact Or.inr rfl)) pgs_nil))))) (fun _ _ _ _ _ => pts_nil) (fun _ _ _ _ _ => (pv 12))) (pss_cons (ps_setLc (i := 8) (own := [("_law_cell", 13), ("_law_sign", 12)]) (by rfl) sc_law.nd rfl rfl (sw_true rfl rfl rfl (by decide +kernel)) (pi_zipK K (by rfl) T.n_zip (pa_cons (pv 6) (pa_cons (pe_lst (pa_cons (pe_ix (ix_listK K) (pv 7) pe_int (fun _ _ => rfl)) (pa_cons (pe_ix (ix_listK K) (pv 7) pe_int (fun _ _ => rfl)) (pa_cons (pe_ix (ix_listK K) (pv 7) pe_int (fun _ _ => rfl)) (pa_cons (pe_ix (ix_listK K) (pv 7) pe_int (fun _ _ => rfl)) pa_nil))))) pa_nil))) (blkOk_by (N := n_law) (sc := defScope s_law) (by decide +kernel)) (fun _ _ _ _ _ => (pg_tupK (n := 2) K rfl (pgs_cons (pg_name (i := 13) sc_law.nd rfl (by first | exact Or.inl rfl | exact Or.inr rfl)) (pgs_cons (pg_name (i := 12) sc_law.nd rfl (by first | exact Or.inl rfl | exact Or.inr rfl)) pgs_nil)))) (fun _ _ _ _ _ => pts_nil) (fun _ _ _ _ _ => (pe_tup (pa_cons (pe_ix (ix_tupK K) (pv 13) pe_int (fun _ _ => rfl)) (pa_cons (pe_ix (ix_tupK K) (pv 13) pe_int (fun _ _ => rfl)) (pa_cons (pv 12) pa_nil)))))) (pss_one (ps_expr (pe_bmK K PySem.F.plainAttrs_list PySem.F.slot_list_append PySem.F.type_list_append mt_append (pv 2) (pa_cons (pe_tup (pa_cons (pe_callTy (call_tupK K) (by rfl) T.n_tuple bt_tuple (pa_cons (pv 6) pa_nil)) (pa_cons (pe_callTy (call_tupK K) (by rfl) T.n_tuple bt_tuple (pa_cons (pv 8) pa_nil)) pa_nil))) pa_nil)))))))))))) (pss_cons (ps_set (i := 9) sc_law.nd rfl (Or.inl rfl) (pe_fn D__law_joined (hr.mono (by decide)) (by rfl) (pa_cons (pv 2) pa_nil))) (pss_one (ps_ret (pe_and (pe_fn D_is_trade (hr.mono (by decide)) (by rfl) (pa_cons pe_int (pa_cons (pv 9) pa_nil))) (pe_one (pe_cmpR (op_eqK K hr.units) (pe_fn D_falling (hr.mono (by decide)) (by rfl) (pa_cons pe_int (pa_cons (pv 9) pa_nil))) (pe_callTy (call_tupK K) (by rfl) T.n_tuple bt_tuple (pa_cons (pe_callB (cr_sortedK K hr.units) (by rfl) T.n_sorted bt_sorted (pa_cons (pv 2) pa_nil)) pa_nil)) (nomark _)))))))))), ?_⟩
  have le2 : 2 ≤ sizeLine := by rw [sizeLine_eq]; omega
  have le3 : 3 ≤ sizeLine := by rw [sizeLine_eq]; omega
  have le4 : 4 ≤ sizeLine := by rw [sizeLine_eq]; omega
  -- up to three cells
  have len : EvD (tCB (K40.rLenS K) (tCons (tVar 0) tNil)) (start n_law [.ref s0]) H (.int (ns.length : Int)) := fun H1 s Q q => ⟨_, rfl, s0, ns.map V.int, rfl, .inl (s.seq hs), by rw [List.length_map]; exact q _ H1 (Same.refl _) (.int _)⟩
  have cnt := eva_cons (evd_max2 (evd_int (i := 1)) (evd_min2 (evd_int (i := 3)) len)) (eva_nil (σ := start n_law [.ref s0]))
  obtain ⟨m, em, hm⟩ : ∃ m : Nat, (if (if (ns.length : Int) < 3 then (ns.length : Int) else 3) > 1 then (if (ns.length : Int) < 3 then (ns.length : Int) else 3) else 1) = (m : Int) ∧ m ≤ 3 :=
    ⟨(if (if (ns.length : Int) < 3 then (ns.length : Int) else 3) > 1 then (if (ns.length : Int) < 3 then (ns.length : Int) else 3) else 1).toNat, by split <;> split <;> omega, by split <;> split <;> omega⟩
  rw [em] at cnt
  refine sd_forT (ds := (List.range m).map fun (i : Nat) => PyData.int (i : Int)) (srcT_rng (n := m) cnt (by omega)) (fun j σ' Hc => ∃ u1, σ' = [some (.ref s0), u1, none, none, none, none, none, none, none, none, none, none, none, none] ∧ Same H Hc) (fun H1 s1 => ⟨none, rfl, s1⟩) (fun i d z σ' H' Hc N ed ⟨u1, es, sC⟩ s3 hz hN => ?_) fun σ' H2 ⟨u1, es, s2⟩ => ?_
  · subst es
    rw [List.getElem?_map] at ed
    obtain ⟨i', hi', e⟩ := Option.map_eq_some_iff.mp ed
    subst e
    have hj : i' < m := List.mem_range.mp (List.mem_of_getElem? hi')
    have ez := hz.intE
    subst ez
    refine gnm ?_
    dsimp only
    show tIfS _ _ _ _ [some (.ref s0), some (.int (i' : Int)), none, none, none, none, none, none, none, none, none, none, none, none] H'
    have sC' := sC.trans s3
    refine sd_ifN (evt_notT (evt_B (evd_right rfl rfl (sC'.seq hs) (by omega)))) fun H3 s4 => hN _ _ ⟨_, rfl, sC'.trans s4⟩ (Same.t s4)
  subst es
  dsimp only
  -- the four trades
  refine sd_asg evp_nil fun v0 H3 s3 ⟨pl, e0, nl, epl⟩ => ?_
  subst e0
  dsimp only
  show tSeq _ _ _ [some (.ref s0), u1, some (.ref pl), none, none, none, none, none, none, none, none, none, none, none] H3
  have K3 : Lk H3 H3 [] := ⟨Same.refl _, List.nodup_nil, fun _ m => absurd m List.not_mem_nil, fun _ m => absurd m List.not_mem_nil⟩
  have K4 : Lk H2 H3 [(pl, ([] : List Trade).map eT)] := Lk.add (as := []) ⟨Same.refl _, List.nodup_nil, fun _ m => absurd m List.not_mem_nil, fun _ m => absurd m List.not_mem_nil⟩ s3 nl epl .nil rfl
  have two : ∀ (σ : L2.St) (H : Hp), EvD (tTup (tCons (tC (.int 0)) (tCons (tC (.int 2)) tNil))) σ H (.tuple ([(0 : Int), 2].map PyData.int)) := fun σ H => evd_tup (ds := [.int 0, .int 2]) (eva_cons evd_int (eva_cons evd_int eva_nil)) le2
  refine sd_forT (srcT_tup (K := K) (two _ _) rfl) (fun i σ' Hc => ∃ u1 u3 u4 u5 u6 u7 u8, σ' = [some (.ref s0), u1, some (.ref pl), u3, u4, u5, u6, u7, u8, none, none, none, none, none] ∧ Lk H2 Hc [(pl, (([(0 : Int), 2].take i).flatMap fun b => [tkN b 0, tkN b 2]).map eT)]) (fun H4 s4 => ⟨u1, none, none, none, none, none, none, rfl, K4.same s4⟩)
    (fun i d z σ' H' Hc N ed ⟨u1, u3, u4, u5, u6, u7, u8, es, kC⟩ s4 hz hN => ?_) fun σ' H5 ⟨u1, u3, u4, u5, u6, u7, u8, es, k5⟩ => ?_
  · subst es
    rw [List.getElem?_map] at ed
    obtain ⟨b, eb, rfl⟩ := Option.map_eq_some_iff.mp ed
    have ez := hz.intE
    subst ez
    have hi : i < 2 := by
      have := (List.getElem?_eq_some_iff.mp eb).1
      simpa using this
    have tk := four_take eb
    have lp := four_len ([(0 : Int), 2].take i)
    have lt := List.length_take_le' i [(0 : Int), 2]
    simp only [List.length_cons, List.length_nil] at lt
    rw [tk] at hN
    generalize ([(0 : Int), 2].take i).flatMap (fun b => [tkN b 0, tkN b 2]) = G at kC lp hN
    have lG : G.length ≤ 4 := by omega
    clear tk
    refine gnm ?_
    dsimp only
    show tFor _ _ _ _ [some (.ref s0), u1, some (.ref pl), some (.int b), u4, u5, u6, u7, u8, none, none, none, none, none] H'
    refine sd_forT (srcT_tup (K := K) (two _ _) rfl) (fun j σ' Hd => ∃ u4 u5 u6 u7 u8, σ' = [some (.ref s0), u1, some (.ref pl), some (.int b), u4, u5, u6, u7, u8, none, none, none, none, none] ∧ Lk H2 Hd [(pl, (G ++ ([(0 : Int), 2].take j).map (tkN b)).map eT)] ∧ TSame H' Hd) (fun H4 s4' => ⟨u4, u5, u6, u7, u8, rfl, by rw [List.take_zero, List.map_nil, List.append_nil]; exact (kC.same s4).same s4', Same.t s4'⟩)
      (fun j d z σ' Ha Hd N2 ed2 ⟨u4, u5, u6, u7, u8, es, kD, tD⟩ s5 hz2 hN2 => ?_) fun σ' H6 ⟨u4, u5, u6, u7, u8, es, k6, t6⟩ => ?_
    · subst es
      rw [List.getElem?_map] at ed2
      obtain ⟨c, ec, rfl⟩ := Option.map_eq_some_iff.mp ed2
      have ez := hz2.intE
      subst ez
      have hj : j < 2 := by
        have := (List.getElem?_eq_some_iff.mp ec).1
        simpa using this
      have tk2 : G ++ ([(0 : Int), 2].take (j + 1)).map (tkN b) = (G ++ ([(0 : Int), 2].take j).map (tkN b)) ++ [tkN b c] := by
        rw [List.take_add_one, ec, List.map_append, ← List.append_assoc]
        rfl
      have lj : (G ++ ([(0 : Int), 2].take j).map (tkN b)).length ≤ 10 := by
        rw [List.length_append, List.length_map]
        have := List.length_take_le' j [(0 : Int), 2]
        simp only [List.length_cons, List.length_nil] at this
        omega
      rw [tk2] at hN2
      generalize G ++ ([(0 : Int), 2].take j).map (tkN b) = G2 at kD lj hN2
      refine gnm ?_
      dsimp only
      show tSeq _ _ _ [some (.ref s0), u1, some (.ref pl), some (.int b), some (.int c), u5, u6, u7, u8, none, none, none, none, none] Ha
      have ka := kD.same s5
      -- low
      refine sd_asg (evd_I (evd_I0 (evd_var (i := 3) rfl (.int b)) (evd_var (i := 4) rfl (.int c)) fun _ => .int _) (evd_int (i := 4)) (by decide) fun _ => .int _) fun v Hb sb hv => ?_
      have ev := hv.intE
      subst ev
      dsimp only
      show tSeq _ _ _ [some (.ref s0), u1, some (.ref pl), some (.int b), some (.int c), some (.int ((b + c).fmod 4)), u6, u7, u8, none, none, none, none, none] Hb
      have etk : tkN b c = ([(b, (c, (b + c).fmod 4)), (b, (c + 1, (b + c).fmod 4 + 1)), (b + 1, (c, (b + c).fmod 4 + 1)), (b + 1, (c + 1, (b + c).fmod 4))],
        [(b, (c, (b + c).fmod 4 + 1)), (b, (c + 1, (b + c).fmod 4)), (b + 1, (c, (b + c).fmod 4)), (b + 1, (c + 1, (b + c).fmod 4 + 1))]) := rfl
      generalize (b + c).fmod 4 = l at etk
      have plus : ∀ (σ : L2.St) (H : Hp) (i : Nat) (x : Int), σ[i]? = some (some (.int x)) → EvD (tOp (rI0 fun i j => .int (i + j)) (tVar i) (tC (.int 1))) σ H (.int (x + 1)) := fun σ H i x e => evd_I0 (evd_var e (.int _)) evd_int fun _ => .int _
      have cell : ∀ (σ : L2.St) (H : Hp) (t1 t2 t3 : TE) (x y z : Int), EvD t1 σ H (.int x) → EvD t2 σ H (.int y) → EvD t3 σ H (.int z) → EvD (tTup (tCons t1 (tCons t2 (tCons t3 tNil)))) σ H (eC (x, (y, z))) := fun σ H t1 t2 t3 x y z h1 h2 h3 => evd_tup (ds := [.int x, .int y, .int z]) (eva_cons h1 (eva_cons h2 (eva_cons h3 eva_nil))) le3
      have vr : ∀ (σ : L2.St) (H : Hp) (i : Nat) (x : Int), σ[i]? = some (some (.int x)) → EvD (tVar i) σ H (.int x) := fun σ H i x e => evd_var e (.int _)
      -- taken
      refine sd_asg (evd_lst (ds := [eC (b, (c, l)), eC (b, (c + 1, l + 1))]) (eva_cons (cell _ _ _ _ _ _ _ _ (vr _ _ 3 b rfl) (vr _ _ 4 c rfl) (vr _ _ 5 l rfl)) (eva_cons (cell _ _ _ _ _ _ _ _ (vr _ _ 3 b rfl) (plus _ _ 4 c rfl) (plus _ _ 5 l rfl)) eva_nil)) le2) fun v1 Hc1 sc1 hv1 => ?_
      dsimp only
      show tSeq _ _ _ [some (.ref s0), u1, some (.ref pl), some (.int b), some (.int c), some (.int l), some v1, u7, u8, none, none, none, none, none] Hc1
      refine sd_asg (evd_cat (evd_var (i := 6) rfl hv1) (evd_lst (ds := [eC (b + 1, (c, l + 1)), eC (b + 1, (c + 1, l))]) (eva_cons (cell _ _ _ _ _ _ _ _ (plus _ _ 3 b rfl) (vr _ _ 4 c rfl) (plus _ _ 5 l rfl)) (eva_cons (cell _ _ _ _ _ _ _ _ (plus _ _ 3 b rfl) (plus _ _ 4 c rfl) (vr _ _ 5 l rfl)) eva_nil)) le2) (by show 4 ≤ _; omega)) fun v2 Hd2 sd2 hv2 => ?_
      dsimp only
      show tSeq _ _ _ [some (.ref s0), u1, some (.ref pl), some (.int b), some (.int c), some (.int l), some v2, u7, u8, none, none, none, none, none] Hd2
      have hv2 : Dx Hd2 v2 (.list ((tkN b c).1.map eC)) := by rw [etk]; exact hv2
      -- signs
      refine sd_asg (evd_lcM (l := (tkN b c).1) (enc := eC) (src_list (K := K) (evd_var (i := 6) rfl hv2)) (fun c => PyData.int c.2.2) (by rw [sizeLine_eq]; show 4 < _; omega) (fun i c z H' e s3 hz => gt3 hz fun x1 x2 x3 g1 g2 g3 => ⟨rfl, Same.refl _, evd_var rfl g3, rfl⟩) (gm_tup1 (gm_cons gm_name (gm_cons gm_name (gm_cons gm_name gm_nil))))) fun v3 He se hv3 => ?_
      dsimp only
      show tSeq _ _ _ [some (.ref s0), u1, some (.ref pl), some (.int b), some (.int c), some (.int l), some v2, some v3, u8, none, none, none, none, none] He
      have hv3 : Dx He v3 (.list [.int l, .int (l + 1), .int (l + 1), .int l]) := by rw [etk] at hv3; exact hv3
      have hv2e := hv2.mono se _ _
      have sg : ∀ (σ : L2.St) (H : Hp) (k : Nat) (x : Int), σ[7]? = some (some v3) → Same He H → [PyData.int l, .int (l + 1), .int (l + 1), .int l][k]? = some (.int x) → EvD (tOp (rIxL K) (tVar 7) (tC (.int (k : Int)))) σ H (.int x) := fun σ H k x e s e2 => evd_ixL (evd_var e (hv3.mono s _ _)) evd_int e2
      have swp : EvD (tLst (tCons (tOp (rIxL K) (tVar 7) (tC (.int 1))) (tCons (tOp (rIxL K) (tVar 7) (tC (.int 0))) (tCons (tOp (rIxL K) (tVar 7) (tC (.int 3))) (tCons (tOp (rIxL K) (tVar 7) (tC (.int 2))) tNil))))) [some (.ref s0), u1, some (.ref pl), some (.int b), some (.int c), some (.int l), some v2, some v3, u8, none, none, none, none, none] He (.list [.int (l + 1), .int l, .int l, .int (l + 1)]) :=
        evd_lst (eva_cons (sg _ _ 1 _ rfl (Same.refl _) rfl) (eva_cons (sg _ _ 0 _ rfl (Same.refl _) rfl) (eva_cons (sg _ _ 3 _ rfl (Same.refl _) rfl) (eva_cons (sg _ _ 2 _ rfl (Same.refl _) rfl) eva_nil)))) le4
      -- put
      have zs := src_zipL (K := K) (eva_cons (evd_var (i := 6) rfl hv2e) (eva_cons swp eva_nil))
      let prs : List (Cell × Int) := [((b, (c, l)), l + 1), ((b, (c + 1, l + 1)), l), ((b + 1, (c, l + 1)), l), ((b + 1, (c + 1, l)), l + 1)]
      have ezs : List.zipWith (fun d e => PyData.tuple [d, e]) ((tkN b c).1.map eC) [.int (l + 1), .int l, .int l, .int (l + 1)] = prs.map fun x => PyData.tuple [eC x.1, .int x.2] := by rw [etk]; rfl
      rw [ezs] at zs
      refine sd_asg (evd_lcM (l := prs) (enc := fun x => PyData.tuple [eC x.1, .int x.2]) zs (fun x => eC (x.1.1, (x.1.2.1, x.2))) (by rw [sizeLine_eq]; show 4 < _; omega) (fun i x z H' e s3 hz => gt2 hz fun y1 y2 g1 g2 => ⟨rfl, Same.refl _, cell _ _ _ _ _ _ _ _ (evd_ixT (k := 0) (ds := [.int x.1.1, .int x.1.2.1, .int x.1.2.2]) (evd_var rfl g1) evd_int rfl) (evd_ixT (k := 1) (ds := [.int x.1.1, .int x.1.2.1, .int x.1.2.2]) (evd_var rfl g1) evd_int rfl) (evd_var rfl g2), eC_noL _⟩) (gm_tup1 (gm_cons gm_name (gm_cons gm_name gm_nil)))) fun v4 Hf sf hv4 => ?_
      dsimp only
      show tDrop _ _ [some (.ref s0), u1, some (.ref pl), some (.int b), some (.int c), some (.int l), some v2, some v3, some v4, none, none, none, none, none] Hf
      have hv4 : Dx Hf v4 (.list ((tkN b c).2.map eC)) := by rw [etk]; exact hv4
      have saf : Same Ha Hf := (((sb.trans sc1).trans sd2).trans se).trans sf
      refine lk_app (d := eT (tkN b c)) (ka.same saf) rfl (evd_tup (ds := [eS (tkN b c).1, eS (tkN b c).2]) (eva_cons (evd_tupOf (evd_var (i := 6) rfl (hv2e.mono sf _ _))) (eva_cons (evd_tupOf (evd_var (i := 8) rfl hv4)) eva_nil)) le2) (eT_noL _) (by rw [List.length_map]; omega) fun Hg kg tg => ?_
      have tg' : TSame Ha Hg := TSame.trans (Same.t saf) tg
      refine hN2 _ _ ⟨_, _, _, _, _, rfl, ?_, TSame.trans (TSame.trans tD (Same.t s5)) tg'⟩ tg'
      rw [List.map_append]
      exact kg
    · subst es
      rw [List.length_map, show [(0 : Int), 2].take [(0 : Int), 2].length = [0, 2] from rfl] at k6
      exact hN _ _ ⟨_, _, _, _, _, _, _, rfl, k6⟩ t6
  · subst es
    rw [List.length_map] at k5
    have k5 : Lk H2 H5 [(pl, qs4.map eT)] := k5
    dsimp only
    have dpl := k5.dx (b := pl) List.mem_cons_self
    have join : EvP (tCall sp_joined [] E0 (tCons (tVar 2) tNil)) [some (.ref s0), u1, some (.ref pl), u3, u4, u5, u6, u7, u8, none, none, none, none, none] H5 fun v H2 => Dx H2 v (eT tr4) := by
      refine (evp_call (eva_cons (evd_var (i := 2) rfl dpl) eva_nil) ⟨qs4, rfl, fun b => ⟨qs4_nd b, qs4_len b⟩⟩).imp fun v H2 ⟨d, hd, hv⟩ => ?_
      obtain ⟨J, rfl, hJ⟩ := hd _ rfl
      rw [← join4 hJ]
      exact hv
    have isj : ∃ J, IsJoin J qs4 := by
      refine ⟨tr4, tr4_trade.asc, fun v => ?_⟩
      obtain ⟨b, c⟩ := v
      exact ⟨fun m => List.mem_flatMap.mp ((qs4_mem b).2 c m), fun ⟨q, m, z⟩ => (qs4_mem b).1 c (List.mem_flatMap.mpr ⟨q, m, z⟩)⟩
    obtain ⟨J, hJ⟩ := isj
    have eJ := join4 hJ
    subst eJ
    obtain ⟨ms, e1, e2, e3⟩ := sort_trades qs4
    have hms := join_parts parts4 hJ qs4_nodup e2 e3
    refine sd_asg join fun jv H6 s6 hjv => ?_
    dsimp only
    show tRet _ _ [some (.ref s0), u1, some (.ref pl), u3, u4, u5, u6, u7, u8, some jv, none, none, none, none] H6
    have srt := eT_sorted (K := K) (te := tVar 2) (σ := [some (.ref s0), u1, some (.ref pl), u3, u4, u5, u6, u7, u8, some jv, none, none, none, none]) (H := H6) (evd_var (i := 2) rfl (dpl.mono s6 _ _)) (.inl rfl)
    rw [e1] at srt
    have dms := eQs_depth ms
    refine sd_ret (evd_andT (evd_call (eva_cons (evd_int (i := 4)) (eva_cons (evd_var (i := 9) rfl hjv) eva_nil)) ⟨4, tr4, rfl, tr4_trade, by omega, by omega⟩ fun e h => h)
      (evd_eqD (d := eQs ms) (e := eQs ms) (b := true) (evd_call (eva_cons (evd_int (i := 4)) (eva_cons (evd_var (i := 9) rfl hjv) eva_nil)) ⟨4, tr4, rfl, tr4_trade, by omega, by omega⟩ fun e h => by
        obtain ⟨vs, hvs, rfl⟩ := h _ _ rfl
        rw [parts_unique tLe_anti hvs hms]
        rfl) (evd_tupOf srt) (eQs_pure ms) (eQs_pure ms) (by omega) (by omega) (eqv_true (eQs_pure ms) rfl))) fun v H7 s7 hv => ?_
    rw [hv.blE]
    exact q H7
end
end K40
end

section
set_option Elab.async false
set_option linter.all false
set_option maxRecDepth 100000
set_option maxHeartbeats 4000000
namespace K40
open PySem PySem.Spec PyProof.Rows L2
/-- a def of the text by its name -/
def GF (K : PySem.W.Frag) (mg : Str → Option Value) (g x qual : Str) (st : Stmt) : Prop := ∃ (f : Addr) (fd : FuncData), Fun K x qual st f fd ∧ mg g = some (.ref f)
def GM (K : PySem.W.Frag) (x qual : Str) (st : Stmt) (f : Addr) : Prop := ∃ fd : FuncData, Fun K x qual st f fd
theorem gf_mk {K : PySem.W.Frag} {h : Heap} {mg : Str → Option Value} {g x qual : Str} {st : Stmt} {f : Addr} {oc : Value} {od an : Option Addr} {osl : Array (Option Value)} {kV doc pm cdv ct : Value} (X : K.In h) (G : h.Ns mainGlobals mg)
    (a : PySem.W.nsIn K mainGlobals g = some (some (.ref f))) (l : K.lookup f = some ⟨oc, od, .func (PySem.W.fnOf x qual (defArgs st) (defBody st) (defScope st) .none kV doc pm an cdv ct), osl⟩)
    (c : PySem.W.codeIn K cdv qual = true) (k : PySem.W.keepIn K (.ref f) = true) : GF K mg g x qual st := ⟨f, _, fun_mk l c k, PySem.W.mg_of X G a⟩
theorem gm_mk {K : PySem.W.Frag} {x qual : Str} {st : Stmt} {f : Addr} {oc : Value} {od an : Option Addr} {osl : Array (Option Value)} {kV doc pm cdv ct : Value}
    (l : K.lookup f = some ⟨oc, od, .func (PySem.W.fnOf x qual (defArgs st) (defBody st) (defScope st) .none kV doc pm an cdv ct), osl⟩)
    (c : PySem.W.codeIn K cdv qual = true) (k : PySem.W.keepIn K (.ref f) = true) : GM K x qual st f := ⟨_, fun_mk l c k⟩
theorem tup_w {K : PySem.W.Frag} {a : Addr} {od : Option Addr} {its : Array Value} {n : Nat} {sl : Array (Option Value)} {xs : List V} (l : K.lookup a = some ⟨.type "tuple", od, .seq its n, sl⟩) (hs : its.size ≤ 3) (hv : Vals xs its.toList) : ∀ H, SqT K H a xs := fun H =>
  .inr ⟨_, its, n, l, rfl, rfl, by rw [sizeLine_eq]; omega, hv⟩
section
variable {P : Program} {w : World} {K : PySem.W.Frag} {mg : Str → Option Value} {base : Heap} {a : Adr}
theorem has_of {g x qual : Str} {st : Stmt} {k : Nat} {ps : List Str} {sp : Sp} (F : GF K mg g x qual st) (ok : ∀ f fd, Fun K x qual st f fd → FnOk P w K mg base CX0 k f fd ps sp)
    (hb : ∀ (kV doc pm : Value) (an : Option Addr) (cdv ct : Value) (us : List Value), us.length = ps.length → bindArgs (PySem.W.fnOf x qual (defArgs st) (defBody st) (defScope st) .none kV doc pm an cdv ct) ⟨us, []⟩ = pure (ps.zip us)) : Has P w K mg base k g sp := by
  obtain ⟨f, fd, F, hm⟩ := F
  exact ⟨f, fd, ps, ok f fd F, hm, F.kp, F.binds hb⟩
theorem hasI_of {x qual : Str} {st : Stmt} {f : Addr} {k : Nat} {ps : List Str} {sp : Sp} (F : GM K x qual st f) (ok : ∀ fd, Fun K x qual st f fd → FnOk P w K mg base CX0 k f fd ps sp)
    (hb : ∀ (kV doc pm : Value) (an : Option Addr) (cdv ct : Value) (us : List Value), us.length = ps.length → bindArgs (PySem.W.fnOf x qual (defArgs st) (defBody st) (defScope st) .none kV doc pm an cdv ct) ⟨us, []⟩ = pure (ps.zip us)) : HasI P w K mg base k f sp := by
  obtain ⟨fd, F⟩ := F
  exact ⟨fd, ps, ok fd F, F.binds hb⟩
theorem all_ok (T : Txt K mg a)
    (F_is_whole : GF K mg "is_whole" "is_whole" "is_whole" s_is_whole)
    (F_is_within : GF K mg "is_within_renamings" "is_within" "is_within" s_is_within)
    (F_require_within : GF K mg "require_within" "require_within" "require_within" s_require_within)
    (F_require_order : GF K mg "require_order" "require_order" "require_order" s_require_order)
    (F_is_renaming_of : GF K mg "is_renaming_of" "is_renaming_of" "is_renaming_of" s_is_renaming_of)
    (F_is_renaming : GF K mg "is_renaming" "is_renaming" "is_renaming" s_is_renaming)
    (F_turned_back : GF K mg "turned_back" "turned_back" "turned_back" s_turned_back)
    (F_Made_init : GM K "__init__" "Made.__init__" s_Made_init a.iM)
    (F_transposed : GF K mg "transposed" "transposed" "transposed" s_transposed)
    (F_columns_of : GF K mg "columns_of" "columns_of" "columns_of" s_columns_of)
    (F_rows_of_signs : GF K mg "rows_of_signs" "rows_of_signs" "rows_of_signs" s_rows_of_signs)
    (F_are_rows : GF K mg "are_rows" "are_rows" "are_rows" s_are_rows)
    (F_rows_told : GF K mg "rows_told" "rows_told" "rows_told" s_rows_told)
    (F_Table_init : GM K "__init__" "Table.__init__" s_Table_init a.iT)
    (F_table_with : GF K mg "table_with" "table_with" "table_with" s_table_with)
    (F_require_table : GF K mg "require_table" "require_table" "require_table" s_require_table)
    (F_require_two_tables : GF K mg "require_two_tables" "require_two_tables" "require_two_tables" s_require_two_tables)
    (F_Table_eq : GM K "__eq__" "Table.__eq__" s_Table_eq a.fe)
    (F_Table_cells : GM K "cells" "Table.cells" s_Table_cells a.fc)
    (F_is_triple : GF K mg "is_triple" "is_triple" "is_triple" s_is_triple)
    (F_are_cells : GF K mg "are_cells" "are_cells" "are_cells" s_are_cells)
    (F_cells_by : GF K mg "cells_by" "cells_by" "cells_by" s_cells_by)
    (F_is_partial_of : GF K mg "is_partial_of" "is_partial_of" "is_partial_of" s_is_partial_of)
    (F_is_trade_of : GF K mg "is_trade_of" "is_trade_of" "is_trade_of" s_is_trade_of)
    (F_require_trade : GF K mg "require_trade" "require_trade" "require_trade" s_require_trade)
    (F_is_trade : GF K mg "is_trade" "is_trade" "is_trade" s_is_trade)
    (F_turned : GF K mg "turned" "turned" "turned" s_turned)
    (F_Sides_init : GM K "__init__" "Sides.__init__" s_Sides_init a.iS)
    (F_Sides_beside : GM K "beside" "Sides.beside" s_Sides_beside a.fb)
    (F_Sides_least_from : GM K "least_from" "Sides.least_from" s_Sides_least_from a.fl)
    (F_least_trades : GF K mg "least_trades" "least_trades" "least_trades" s_least_trades)
    (F_cells_apart : GF K mg "cells_apart" "cells_apart" "cells_apart" s_cells_apart)
    (F_difference : GF K mg "difference" "difference" "difference" s_difference)
    (F_has_all : GF K mg "has_all" "has_all" "has_all" s_has_all)
    (F_is_within_table : GF K mg "is_within_table" "is_within_table" "is_within_table" s_is_within_table)
    (F_is_within_tr : GF K mg "is_within_trades" "is_within" "is_within" s_is_within_tr)
    (F_is_least_trade : GF K mg "is_least_trade" "is_least_trade" "is_least_trade" s_is_least_trade)
    (F_falling : GF K mg "falling" "falling" "falling" s_falling)
    (F_rows_with : GF K mg "rows_with" "rows_with" "rows_with" s_rows_with)
    (F_table_switched : GF K mg "table_switched" "table_switched" "table_switched" s_table_switched)
    (F_switched : GF K mg "switched" "switched" "switched" s_switched)
    (F_l_shared : GF K mg "_law_shared" "_law_shared" "_law_shared" s_l_shared)
    (F_l_across : GF K mg "_law_across" "_law_across" "_law_across" s_l_across)
    (F_l_table : GF K mg "_law_table" "_law_table" "_law_table" s_l_table)
    (F_l_parted : GF K mg "_law_parted" "_law_parted" "_law_parted" s_l_parted)
    (F_l_joined : GF K mg "_law_joined" "_law_joined" "_law_joined" s_l_joined)
    (F_l_pot : GF K mg "_law_pot" "_law_pot" "_law_pot" s_l_pot)
    (F_l_dip : GF K mg "_law_dip" "_law_dip" "_law_dip" s_l_dip)
    (F_l_pick : GF K mg "_law_pick" "_law_pick" "_law_pick" s_l_pick)
    (F_l_shaken : GF K mg "_law_shaken" "_law_shaken" "_law_shaken" s_l_shaken)
    (F_l_switched_rows : GF K mg "_law_switched_rows" "_law_switched_rows" "_law_switched_rows" s_l_switched_rows)
    (F_l_square : GF K mg "_law_square" "_law_square" "_law_square" s_l_square)
    (F_l_two : GF K mg "_law_two" "_law_two" "_law_two" s_l_two)
    (F_l_pieces : GF K mg "_law_pieces" "_law_pieces" "_law_pieces" s_l_pieces)
    (F_l_walks : GF K mg "_law_walks" "_law_walks" "_law_walks" s_l_walks)
    (F_l_right : GF K mg "_law_right" "_law_right" "_law_right" s_l_right) : ∀ f fd, Fun K "law" "law" s_law f fd → FnOk P w K mg base CX0 14 f fd ["_law_script"] (sp_law K) := by
  have D_is_whole : Has P w K mg base 1 "is_whole" sp_is_whole := has_of (ps := ["value"]) F_is_whole (fun f fd F => ok_is_whole F T ) (fun _ _ _ _ _ _ us hl => match us, hl with | [_], _ => rfl)
  have D_is_within_renamings : Has P w K mg base 2 "is_within_renamings" sp_is_within := has_of (ps := ["value", "least", "most"]) F_is_within (fun f fd F => ok_is_within F T D_is_whole) (fun _ _ _ _ _ _ us hl => match us, hl with | [_, _, _], _ => rfl)
  have D_require_within : Has P w K mg base 3 "require_within" sp_require_within := has_of (ps := ["value", "least", "most"]) F_require_within (fun f fd F => ok_require_within F T D_is_within_renamings) (fun _ _ _ _ _ _ us hl => match us, hl with | [_, _, _], _ => rfl)
  have D_require_order : Has P w K mg base 4 "require_order" sp_require_order := has_of (ps := ["value"]) F_require_order (fun f fd F => ok_require_order F T D_require_within) (fun _ _ _ _ _ _ us hl => match us, hl with | [_], _ => rfl)
  have D_is_renaming_of : Has P w K mg base 3 "is_renaming_of" sp_is_renaming_of := has_of (ps := ["order", "value"]) F_is_renaming_of (fun f fd F => ok_is_renaming_of F T D_is_within_renamings) (fun _ _ _ _ _ _ us hl => match us, hl with | [_, _], _ => rfl)
  have D_is_renaming : Has P w K mg base 4 "is_renaming" sp_is_renaming := has_of (ps := ["value"]) F_is_renaming (fun f fd F => ok_is_renaming F T D_is_renaming_of) (fun _ _ _ _ _ _ us hl => match us, hl with | [_], _ => rfl)
  have D_turned_back : Has P w K mg base 1 "turned_back" sp_turned_back := has_of (ps := ["one"]) F_turned_back (fun f fd F => ok_turned_back F T ) (fun _ _ _ _ _ _ us hl => match us, hl with | [_], _ => rfl)
  have D_Made_init : HasI P w K mg base 1 a.iM (sp_Made_init a) := hasI_of (ps := ["self", "rows"]) F_Made_init (fun fd F => ok_Made_init F T ) (fun _ _ _ _ _ _ us hl => match us, hl with | [_, _], _ => rfl)
  have D_transposed : Has P w K mg base 1 "transposed" sp_transposed := has_of (ps := ["rows"]) F_transposed (fun f fd F => ok_transposed F T ) (fun _ _ _ _ _ _ us hl => match us, hl with | [_], _ => rfl)
  have D_columns_of : Has P w K mg base 2 "columns_of" sp_columns_of := has_of (ps := ["rows"]) F_columns_of (fun f fd F => ok_columns_of F T D_turned_back) (fun _ _ _ _ _ _ us hl => match us, hl with | [_], _ => rfl)
  have D_rows_of_signs : Has P w K mg base 2 "rows_of_signs" sp_rows_of_signs := has_of (ps := ["rows"]) F_rows_of_signs (fun f fd F => ok_rows_of_signs F T D_turned_back D_transposed) (fun _ _ _ _ _ _ us hl => match us, hl with | [_], _ => rfl)
  have D_are_rows : Has P w K mg base 5 "are_rows" sp_are_rows := has_of (ps := ["value"]) F_are_rows (fun f fd F => ok_are_rows F T D_is_renaming_of D_is_renaming D_transposed) (fun _ _ _ _ _ _ us hl => match us, hl with | [_], _ => rfl)
  have D_rows_told : Has P w K mg base 6 "rows_told" (sp_rows_told a) := has_of (ps := ["rows"]) F_rows_told (fun f fd F => ok_rows_told F T D_are_rows) (fun _ _ _ _ _ _ us hl => match us, hl with | [_], _ => rfl)
  have D_Table_init : HasI P w K mg base 7 a.iT (sp_Table_init a) := hasI_of (ps := ["self", "rows"]) F_Table_init (fun fd F => ok_Table_init F T D_rows_told D_columns_of D_rows_of_signs) (fun _ _ _ _ _ _ us hl => match us, hl with | [_, _], _ => rfl)
  have D_table_with : Has P w K mg base 9 "table_with" (sp_table_with a) := has_of (ps := ["rows"]) F_table_with (fun f fd F => ok_table_with F T D_Made_init D_Table_init) (fun _ _ _ _ _ _ us hl => match us, hl with | [_], _ => rfl)
  have D_require_table : Has P w K mg base 1 "require_table" (sp_require_table a) := has_of (ps := ["value"]) F_require_table (fun f fd F => ok_require_table F T ) (fun _ _ _ _ _ _ us hl => match us, hl with | [_], _ => rfl)
  have D_require_two_tables : Has P w K mg base 2 "require_two_tables" (sp_require_two a) := has_of (ps := ["one", "other"]) F_require_two_tables (fun f fd F => ok_require_two_tables F T D_require_table) (fun _ _ _ _ _ _ us hl => match us, hl with | [_, _], _ => rfl)
  have D_Table_eq : HasI P w K mg base 1 a.fe (sp_Table_eq a) := hasI_of (ps := ["self", "other"]) F_Table_eq (fun fd F => ok_Table_eq F T ) (fun _ _ _ _ _ _ us hl => match us, hl with | [_, _], _ => rfl)
  have D_Table_cells : HasI P w K mg base 1 a.fc (sp_Table_cells a) := hasI_of (ps := ["self"]) F_Table_cells (fun fd F => ok_Table_cells F T ) (fun _ _ _ _ _ _ us hl => match us, hl with | [_], _ => rfl)
  have D_is_triple : Has P w K mg base 3 "is_triple" sp_is_triple := has_of (ps := ["order", "value"]) F_is_triple (fun f fd F => ok_is_triple F T D_is_within_renamings) (fun _ _ _ _ _ _ us hl => match us, hl with | [_, _], _ => rfl)
  have D_are_cells : Has P w K mg base 4 "are_cells" sp_are_cells := has_of (ps := ["order", "value"]) F_are_cells (fun f fd F => ok_are_cells F T D_is_triple) (fun _ _ _ _ _ _ us hl => match us, hl with | [_, _], _ => rfl)
  have D_cells_by : Has P w K mg base 1 "cells_by" sp_cells_by := has_of (ps := ["cells", "first", "second"]) F_cells_by (fun f fd F => ok_cells_by F T ) (fun _ _ _ _ _ _ us hl => match us, hl with | [_, _, _], _ => rfl)
  have D_is_partial_of : Has P w K mg base 5 "is_partial_of" sp_is_partial_of := has_of (ps := ["order", "value"]) F_is_partial_of (fun f fd F => ok_is_partial_of F T D_are_cells D_cells_by) (fun _ _ _ _ _ _ us hl => match us, hl with | [_, _], _ => rfl)
  have D_is_trade_of : Has P w K mg base 6 "is_trade_of" sp_is_trade_of := has_of (ps := ["order", "value"]) F_is_trade_of (fun f fd F => ok_is_trade_of F T D_is_partial_of D_cells_by) (fun _ _ _ _ _ _ us hl => match us, hl with | [_, _], _ => rfl)
  have D_require_trade : Has P w K mg base 7 "require_trade" sp_require_trade := has_of (ps := ["order", "value"]) F_require_trade (fun f fd F => ok_require_trade F T D_is_trade_of) (fun _ _ _ _ _ _ us hl => match us, hl with | [_, _], _ => rfl)
  have D_is_trade : Has P w K mg base 7 "is_trade" sp_is_trade := has_of (ps := ["order", "value"]) F_is_trade (fun f fd F => ok_is_trade F T D_is_trade_of D_require_order) (fun _ _ _ _ _ _ us hl => match us, hl with | [_, _], _ => rfl)
  have D_turned : Has P w K mg base 8 "turned" sp_turned := has_of (ps := ["order", "trade"]) F_turned (fun f fd F => ok_turned F T D_require_trade D_require_order) (fun _ _ _ _ _ _ us hl => match us, hl with | [_, _], _ => rfl)
  have D_Sides_init : HasI P w K mg base 2 a.iS (sp_Sides_init a) := hasI_of (ps := ["self", "trade"]) F_Sides_init (fun fd F => ok_Sides_init F T D_cells_by) (fun _ _ _ _ _ _ us hl => match us, hl with | [_, _], _ => rfl)
  have D_beside : HasI P w K mg base 1 a.fb (sp_beside a) := hasI_of (ps := ["self", "cell", "is_taken"]) F_Sides_beside (fun fd F => ok_beside F T ) (fun _ _ _ _ _ _ us hl => match us, hl with | [_, _, _], _ => rfl)
  have D_least_from : HasI P w K mg base 2 a.fl (sp_least_from a) := hasI_of (ps := ["self", "start"]) F_Sides_least_from (fun fd F => ok_least_from F T D_beside) (fun _ _ _ _ _ _ us hl => match us, hl with | [_, _], _ => rfl)
  have D_least_trades : Has P w K mg base 4 "least_trades" sp_least_trades := has_of (ps := ["trade"]) F_least_trades (fun f fd F => ok_least_trades F T D_Sides_init D_least_from) (fun _ _ _ _ _ _ us hl => match us, hl with | [_], _ => rfl)
  have D_cells_apart : Has P w K mg base 3 "cells_apart" (sp_cells_apart a) := has_of (ps := ["one", "other"]) F_cells_apart (fun f fd F => ok_cells_apart F T D_Table_cells) (fun _ _ _ _ _ _ us hl => match us, hl with | [_, _], _ => rfl)
  have D_difference : Has P w K mg base 4 "difference" (sp_difference a) := has_of (ps := ["one", "other"]) F_difference (fun f fd F => ok_difference F T D_require_two_tables D_cells_apart) (fun _ _ _ _ _ _ us hl => match us, hl with | [_, _], _ => rfl)
  have D_has_all : Has P w K mg base 1 "has_all" (sp_has_all a) := has_of (ps := ["table", "cells"]) F_has_all (fun f fd F => ok_has_all F T ) (fun _ _ _ _ _ _ us hl => match us, hl with | [_, _], _ => rfl)
  have D_is_within_table : Has P w K mg base 2 "is_within_table" (sp_within a) := has_of (ps := ["table", "trade"]) F_is_within_table (fun f fd F => ok_is_within_table F T D_has_all) (fun _ _ _ _ _ _ us hl => match us, hl with | [_, _], _ => rfl)
  have D_is_within_trades : Has P w K mg base 8 "is_within_trades" (sp_within a) := has_of (ps := ["table", "trade"]) F_is_within_tr (fun f fd F => ok_is_within_tr F T D_require_table D_require_trade D_is_within_table) (fun _ _ _ _ _ _ us hl => match us, hl with | [_, _], _ => rfl)
  have D_is_least_trade : Has P w K mg base 7 "is_least_trade" sp_is_least := has_of (ps := ["order", "value"]) F_is_least_trade (fun f fd F => ok_is_least_trade F T D_require_order D_is_trade_of D_least_trades) (fun _ _ _ _ _ _ us hl => match us, hl with | [_, _], _ => rfl)
  have D_falling : Has P w K mg base 8 "falling" sp_falling := has_of (ps := ["order", "trade"]) F_falling (fun f fd F => ok_falling F T D_require_order D_require_trade D_least_trades) (fun _ _ _ _ _ _ us hl => match us, hl with | [_, _], _ => rfl)
  have D_rows_with : Has P w K mg base 1 "rows_with" sp_rows_with := has_of (ps := ["rows", "cells"]) F_rows_with (fun f fd F => ok_rows_with F T ) (fun _ _ _ _ _ _ us hl => match us, hl with | [_, _], _ => rfl)
  have D_table_switched : Has P w K mg base 10 "table_switched" (sp_switched a) := has_of (ps := ["table", "trade"]) F_table_switched (fun f fd F => ok_table_switched F T D_table_with D_rows_with) (fun _ _ _ _ _ _ us hl => match us, hl with | [_, _], _ => rfl)
  have D_switched : Has P w K mg base 11 "switched" (sp_switched a) := has_of (ps := ["table", "trade"]) F_switched (fun f fd F => ok_switched F T D_require_table D_require_trade D_is_within_table D_table_switched) (fun _ _ _ _ _ _ us hl => match us, hl with | [_, _], _ => rfl)
  have D__law_shared : Has P w K mg base 1 "_law_shared" sp_shared := has_of (ps := ["_law_one", "_law_other"]) F_l_shared (fun f fd F => ok_l_shared F T ) (fun _ _ _ _ _ _ us hl => match us, hl with | [_, _], _ => rfl)
  have D__law_across : Has P w K mg base 1 "_law_across" sp_across := has_of (ps := ["_law_rows"]) F_l_across (fun f fd F => ok_l_across F T ) (fun _ _ _ _ _ _ us hl => match us, hl with | [_], _ => rfl)
  have D__law_table : Has P w K mg base 9 "_law_table" (sp_table a) := has_of (ps := ["_law_rows"]) F_l_table (fun f fd F => ok_l_table F T D_Table_init) (fun _ _ _ _ _ _ us hl => match us, hl with | [_], _ => rfl)
  have D__law_parted : Has P w K mg base 1 "_law_parted" sp_parted := has_of (ps := ["_law_one", "_law_other"]) F_l_parted (fun f fd F => ok_l_parted F T ) (fun _ _ _ _ _ _ us hl => match us, hl with | [_, _], _ => rfl)
  have D__law_joined : Has P w K mg base 1 "_law_joined" sp_joined := has_of (ps := ["_law_trades"]) F_l_joined (fun f fd F => ok_l_joined F T ) (fun _ _ _ _ _ _ us hl => match us, hl with | [_], _ => rfl)
  have D__law_pot : Has P w K mg base 1 "_law_pot" (sp_pot K) := has_of (ps := ["_law_script", "_law_at"]) F_l_pot (fun f fd F => ok_l_pot F T ) (fun _ _ _ _ _ _ us hl => match us, hl with | [_, _], _ => rfl)
  have D__law_dip : Has P w K mg base 1 "_law_dip" sp_dip := has_of (ps := ["_law_pot_here", "_law_total"]) F_l_dip (fun f fd F => ok_l_dip F T ) (fun _ _ _ _ _ _ us hl => match us, hl with | [_, _], _ => rfl)
  have D__law_pick : Has P w K mg base 2 "_law_pick" sp_pick := has_of (ps := ["_law_pot_here", "_law_items"]) F_l_pick (fun f fd F => ok_l_pick F T D__law_dip) (fun _ _ _ _ _ _ us hl => match us, hl with | [_, _], _ => rfl)
  have D__law_shaken : Has P w K mg base 2 "_law_shaken" sp_shaken := has_of (ps := ["_law_pot_here", "_law_items"]) F_l_shaken (fun f fd F => ok_l_shaken F T D__law_dip) (fun _ _ _ _ _ _ us hl => match us, hl with | [_, _], _ => rfl)
  have D__law_switched_rows : Has P w K mg base 1 "_law_switched_rows" sp_swrows := has_of (ps := ["_law_rows", "_law_one", "_law_other", "_law_column"]) F_l_switched_rows (fun f fd F => ok_l_switched_rows F T ) (fun _ _ _ _ _ _ us hl => match us, hl with | [_, _, _, _], _ => rfl)
  have D__law_square : Has P w K mg base 3 "_law_square" sp_square := has_of (ps := ["_law_pot_here", "_law_order"]) F_l_square (fun f fd F => ok_l_square F T D__law_dip D__law_pick D__law_shaken D__law_across D__law_switched_rows) (fun _ _ _ _ _ _ us hl => match us, hl with | [_, _], _ => rfl)
  have D__law_two : Has P w K mg base 4 "_law_two" sp_two := has_of (ps := ["_law_pot_here", "_law_order"]) F_l_two (fun f fd F => ok_l_two F T D__law_dip D__law_square D__law_across D__law_switched_rows) (fun _ _ _ _ _ _ us hl => match us, hl with | [_, _], _ => rfl)
  have D__law_pieces : Has P w K mg base 2 "_law_pieces" sp_pieces := has_of (ps := ["_law_trade"]) F_l_pieces (fun f fd F => ok_l_pieces F T D__law_shared) (fun _ _ _ _ _ _ us hl => match us, hl with | [_], _ => rfl)
  have D__law_walks : Has P w K mg base 12 "_law_walks" (sp_walks a) := has_of (ps := ["_law_pot_here", "_law_table_here", "_law_other", "_law_pieces_here"]) F_l_walks (fun f fd F => ok_l_walks F T D__law_shaken D_is_within_trades D_switched D_difference D_Table_eq) (fun _ _ _ _ _ _ us hl => match us, hl with | [_, _, _, _], _ => rfl)
  have D__law_right : Has P w K mg base 13 "_law_right" sp_right := has_of (ps := ["_law_pot_here"]) F_l_right (fun f fd F => ok_l_right F T D__law_dip D__law_two D__law_parted D__law_pieces D_falling D_is_least_trade D_is_trade D_turned D__law_shaken D__law_joined D__law_walks D__law_table) (fun _ _ _ _ _ _ us hl => match us, hl with | [_], _ => rfl)
  exact fun f fd F => ok_law F T D__law_pot D__law_right D__law_joined D_is_trade D_falling
end
theorem all_end {l : PySem.W.OpenLaw} {w : World} {K : PySem.W.Frag} {mg : Str → Option Value} {fa : Addr} (hfa : mg "law" = some (.ref fa)) (F : GF K mg "law" "law" "law" s_law) (ok : ∀ base f fd, Fun K "law" "law" s_law f fd → FnOk l.prog w K mg base CX0 14 f fd ["_law_script"] (sp_law K)) :
    ∃ fd : FuncData, (∀ (s : Shared) (v : Value), BindsTo s fd ⟨[v], []⟩ [("_law_script", v)]) ∧ ∀ base : Heap, K.In base → base.Ns mainGlobals mg → FnOk l.prog w K mg base CX0 14 fa fd ["_law_script"] (sp_law K) := by
  obtain ⟨f, fd, F, hm⟩ := F
  have e := hfa.symm.trans hm
  cases e
  refine ⟨fd, fun s v => ?_, fun base _ _ => ok base _ fd F⟩
  obtain ⟨oc, od, kV, doc, pm, an, cdv, ct, osl, rfl, lk, hcd⟩ := F.ex
  exact .of_eq rfl
theorem walk {l : PySem.W.OpenLaw} {q : Program} {loose : List Str} {XP : (Str → Option Value) → Heap → Prop} {YP : World → Heap → Prop} {d : DefRec} {K : Params → PySem.W.Frag} (hn : l.most = some 63) (hdf : d.params.defaults = [])
    (hY : ∀ (w : World) (h : Heap), YP w h → (K w.params).In h)
    (F : ∀ (w : World) (mg : Str → Option Value) (fa : Addr) (h : Heap), (K w.params).In h → h.Ns mainGlobals mg → mg d.name = some (.ref fa) →
      ∃ fd : FuncData, (∀ (s : Shared) (u : Value), BindsTo s fd ⟨[u], []⟩ [("_law_script", u)]) ∧ ∀ base : Heap, (K w.params).In base → base.Ns mainGlobals mg → FnOk l.prog w (K w.params) mg base CX0 14 fa fd ["_law_script"] (sp_law (K w.params))) :
    PySem.W.WalkO q loose XP YP l.row.toRowW d [] (fun f vs => PySem.call f vs) :=
  L2.walk_of (n := 63) (k := 14) (x := "_law_script") (CX := fun _ => CX0) (sp := fun w => sp_law (K w.params)) hn (by decide) hdf ⟨rfl, by decide, by decide⟩ hY F (fun _ _ a ns hl _ hS => ⟨a, ns, rfl, hS, hl, fun _ => rfl⟩) fun _ _ _ _ _ z => z
theorem use_gf {p : Prop} {K : PySem.W.Frag} {h : Heap} {mg : Str → Option Value} {g x qual : Str} {st : Stmt} {f : Addr} {oc : Value} {od an : Option Addr} {osl : Array (Option Value)} {kV doc pm cdv ct : Value} (X : K.In h) (G : h.Ns mainGlobals mg)
    (a : PySem.W.nsIn K mainGlobals g = some (some (.ref f))) (l : K.lookup f = some ⟨oc, od, .func (PySem.W.fnOf x qual (defArgs st) (defBody st) (defScope st) .none kV doc pm an cdv ct), osl⟩)
    (c : PySem.W.codeIn K cdv qual = true) (k : PySem.W.keepIn K (.ref f) = true) (q : GF K mg g x qual st → p) : p := q (gf_mk X G a l c k)
theorem use_top {p : Prop} {K : PySem.W.Frag} {h : Heap} {mg : Str → Option Value} {t0 t1 ta0 tb0 ta1 tb1 ta2 tb2 : Tok} {pP p0 p1 p2 cM cT cS iM iT iS dMr dTh dTo dTp dTr dSp dSt pc fc fe fb fl : Addr} {od0 od1 od2 od3 : Option Addr} {n0 n1 n2 n3 : Nat} {sl0 sl1 sl2 sl3 : Array (Option Value)} {rest : List Value} {oc0 kV0 dc0 pm0 cd0 ct0 : Value} {oe0 an0 : Option Addr} {os0 : Array (Option Value)} {oc1 kV1 dc1 pm1 cd1 ct1 : Value} {oe1 an1 : Option Addr} {os1 : Array (Option Value)} {oc2 kV2 dc2 pm2 cd2 ct2 : Value} {oe2 an2 : Option Addr} {os2 : Array (Option Value)} {oc3 kV3 dc3 pm3 cd3 ct3 : Value} {oe3 an3 : Option Addr} {os3 : Array (Option Value)} {oc4 kV4 dc4 pm4 cd4 ct4 : Value} {oe4 an4 : Option Addr} {os4 : Array (Option Value)} {oc5 kV5 dc5 pm5 cd5 ct5 : Value} {oe5 an5 : Option Addr} {os5 : Array (Option Value)} {oc6 kV6 dc6 pm6 cd6 ct6 : Value} {oe6 an6 : Option Addr} {os6 : Array (Option Value)} (X : K.In h) (G : h.Ns mainGlobals mg)
    (z_len : PySem.W.nsIn K mainGlobals "len" = some none)
    (z_isinstance : PySem.W.nsIn K mainGlobals "isinstance" = some none)
    (z_all : PySem.W.nsIn K mainGlobals "all" = some none)
    (z_any : PySem.W.nsIn K mainGlobals "any" = some none)
    (z_sorted : PySem.W.nsIn K mainGlobals "sorted" = some none)
    (z_abs : PySem.W.nsIn K mainGlobals "abs" = some none)
    (z_max : PySem.W.nsIn K mainGlobals "max" = some none)
    (z_min : PySem.W.nsIn K mainGlobals "min" = some none)
    (z_int : PySem.W.nsIn K mainGlobals "int" = some none)
    (z_bool : PySem.W.nsIn K mainGlobals "bool" = some none)
    (z_tuple : PySem.W.nsIn K mainGlobals "tuple" = some none)
    (z_list : PySem.W.nsIn K mainGlobals "list" = some none)
    (z_range : PySem.W.nsIn K mainGlobals "range" = some none)
    (z_enumerate : PySem.W.nsIn K mainGlobals "enumerate" = some none)
    (z_zip : PySem.W.nsIn K mainGlobals "zip" = some none)
    (gMX : PySem.W.nsIn K mainGlobals "MAX_ORDER" = some (some (.int 24 t0)))
    (gEN : PySem.W.nsIn K mainGlobals "ENTRIES" = some (some (.int 3 t1)))
    (gPA : PySem.W.nsIn K mainGlobals "PAIRINGS" = some (some (.ref pP)))
    (lP : K.lookup pP = some ⟨.type "tuple", od0, .seq #[.ref p0, .ref p1, .ref p2] n0, sl0⟩)
    (l0 : K.lookup p0 = some ⟨.type "tuple", od1, .seq #[.int 0 ta0, .int 1 tb0] n1, sl1⟩)
    (l1 : K.lookup p1 = some ⟨.type "tuple", od2, .seq #[.int 0 ta1, .int 2 tb1] n2, sl2⟩)
    (l2 : K.lookup p2 = some ⟨.type "tuple", od3, .seq #[.int 1 ta2, .int 2 tb2] n3, sl3⟩)
    (gM : PySem.W.nsIn K mainGlobals "Made" = some (some (.ref cM)))
    (pgM : PySem.W.plainGet K cM Str.empty = true)
    (icM : PySem.W.isClsIn K cM = true)
    (poM : PySem.W.plainOver K cM = true)
    (saM : PySem.W.findIn K (.ref cM) "__setattr__" = some (some (.builtin "object.__setattr__")))
    (mkM : PySem.W.makesIn K cM = true)
    (inM : PySem.W.findIn K (.ref cM) "__init__" = some (some (.ref iM)))
    (fnM : PySem.W.isFn K (.ref iM) = true)
    (kpM : PySem.W.keepIn K (.ref cM) = true)
    (gT : PySem.W.nsIn K mainGlobals "Table" = some (some (.ref cT)))
    (pgT : PySem.W.plainGet K cT Str.empty = true)
    (icT : PySem.W.isClsIn K cT = true)
    (poT : PySem.W.plainOver K cT = true)
    (saT : PySem.W.findIn K (.ref cT) "__setattr__" = some (some (.builtin "object.__setattr__")))
    (mkT : PySem.W.makesIn K cT = true)
    (inT : PySem.W.findIn K (.ref cT) "__init__" = some (some (.ref iT)))
    (fnT : PySem.W.isFn K (.ref iT) = true)
    (kpT : PySem.W.keepIn K (.ref cT) = true)
    (gS : PySem.W.nsIn K mainGlobals "Sides" = some (some (.ref cS)))
    (pgS : PySem.W.plainGet K cS Str.empty = true)
    (icS : PySem.W.isClsIn K cS = true)
    (poS : PySem.W.plainOver K cS = true)
    (saS : PySem.W.findIn K (.ref cS) "__setattr__" = some (some (.builtin "object.__setattr__")))
    (mkS : PySem.W.makesIn K cS = true)
    (inS : PySem.W.findIn K (.ref cS) "__init__" = some (some (.ref iS)))
    (fnS : PySem.W.isFn K (.ref iS) = true)
    (kpS : PySem.W.keepIn K (.ref cS) = true)
    (lMa : PySem.W.findIn K (.ref cM) "own_rows" = some (some (.ref dMr)))
    (lMg : PySem.W.specialIn K (.ref dMr) "__get__" = some (some (.builtin "member_descriptor.__get__")))
    (lMt : PySem.W.takesIn K (.ref dMr) = some true)
    (lMy : PySem.W.typeIn K (.ref dMr) = some (.type "member_descriptor"))
    (lMx : PySem.W.slotIn K dMr cM = some 0)
    (lTha : PySem.W.findIn K (.ref cT) "own_heads" = some (some (.ref dTh)))
    (lThg : PySem.W.specialIn K (.ref dTh) "__get__" = some (some (.builtin "member_descriptor.__get__")))
    (lTht : PySem.W.takesIn K (.ref dTh) = some true)
    (lThy : PySem.W.typeIn K (.ref dTh) = some (.type "member_descriptor"))
    (lThx : PySem.W.slotIn K dTh cT = some 0)
    (lToa : PySem.W.findIn K (.ref cT) "own_order" = some (some (.ref dTo)))
    (lTog : PySem.W.specialIn K (.ref dTo) "__get__" = some (some (.builtin "member_descriptor.__get__")))
    (lTot : PySem.W.takesIn K (.ref dTo) = some true)
    (lToy : PySem.W.typeIn K (.ref dTo) = some (.type "member_descriptor"))
    (lTox : PySem.W.slotIn K dTo cT = some 1)
    (lTpa : PySem.W.findIn K (.ref cT) "own_places" = some (some (.ref dTp)))
    (lTpg : PySem.W.specialIn K (.ref dTp) "__get__" = some (some (.builtin "member_descriptor.__get__")))
    (lTpt : PySem.W.takesIn K (.ref dTp) = some true)
    (lTpy : PySem.W.typeIn K (.ref dTp) = some (.type "member_descriptor"))
    (lTpx : PySem.W.slotIn K dTp cT = some 2)
    (lTra : PySem.W.findIn K (.ref cT) "own_rows" = some (some (.ref dTr)))
    (lTrg : PySem.W.specialIn K (.ref dTr) "__get__" = some (some (.builtin "member_descriptor.__get__")))
    (lTrt : PySem.W.takesIn K (.ref dTr) = some true)
    (lTry : PySem.W.typeIn K (.ref dTr) = some (.type "member_descriptor"))
    (lTrx : PySem.W.slotIn K dTr cT = some 3)
    (lSpa : PySem.W.findIn K (.ref cS) "own_put" = some (some (.ref dSp)))
    (lSpg : PySem.W.specialIn K (.ref dSp) "__get__" = some (some (.builtin "member_descriptor.__get__")))
    (lSpt : PySem.W.takesIn K (.ref dSp) = some true)
    (lSpy : PySem.W.typeIn K (.ref dSp) = some (.type "member_descriptor"))
    (lSpx : PySem.W.slotIn K dSp cS = some 0)
    (lSta : PySem.W.findIn K (.ref cS) "own_taken" = some (some (.ref dSt)))
    (lStg : PySem.W.specialIn K (.ref dSt) "__get__" = some (some (.builtin "member_descriptor.__get__")))
    (lStt : PySem.W.takesIn K (.ref dSt) = some true)
    (lSty : PySem.W.typeIn K (.ref dSt) = some (.type "member_descriptor"))
    (lStx : PySem.W.slotIn K dSt cS = some 1)
    (caM : PySem.W.findIn K (.ref cM) "__class__" = some (some (.builtin "object.__class__")))
    (cnM : PySem.W.specialIn K (.builtin "object.__class__") "__get__" = some (some (.builtin "getset_descriptor.__get__")))
    (ctM : PySem.W.takesIn K (.builtin "object.__class__") = some true)
    (cmM : PySem.W.mroIn K cM (.type "object") = some true)
    (caT : PySem.W.findIn K (.ref cT) "__class__" = some (some (.builtin "object.__class__")))
    (cnT : PySem.W.specialIn K (.builtin "object.__class__") "__get__" = some (some (.builtin "getset_descriptor.__get__")))
    (ctT : PySem.W.takesIn K (.builtin "object.__class__") = some true)
    (cmT : PySem.W.mroIn K cT (.type "object") = some true)
    (kMM : PySem.W.kitOne K (.ref cM) (.ref cM) = some true)
    (kTT : PySem.W.kitOne K (.ref cT) (.ref cT) = some true)
    (ktM : PySem.W.kitOne K (.type "tuple") (.ref cM) = some false)
    (mba : PySem.W.findIn K (.ref cS) "beside" = some (some (.ref fb)))
    (mbf : PySem.W.isFn K (.ref fb) = true)
    (mbk : PySem.W.keepIn K (.ref fb) = true)
    (mla : PySem.W.findIn K (.ref cS) "least_from" = some (some (.ref fl)))
    (mlf : PySem.W.isFn K (.ref fl) = true)
    (mlk : PySem.W.keepIn K (.ref fl) = true)
    (eqT : PySem.W.findIn K (.ref cT) "__eq__" = some (some (.ref fe)))
    (eqF : PySem.W.isFn K (.ref fe) = true)
    (eqN : PySem.W.notFirst K cT (.ref cT) = true)
    (pc1 : PySem.W.findIn K (.ref cT) "cells" = some (some (.ref pc)))
    (pc2 : PySem.W.specialIn K (.ref pc) "__get__" = some (some (.builtin "property.__get__")))
    (pc3 : PySem.W.takesIn K (.ref pc) = some true)
    (pc4 : PySem.W.recIn K pc "property" = some (.ref fc :: rest))
    (ll0 : K.lookup iM = some ⟨oc0, oe0, .func (PySem.W.fnOf "__init__" "Made.__init__" (defArgs s_Made_init) (defBody s_Made_init) (defScope s_Made_init) .none kV0 dc0 pm0 an0 cd0 ct0), os0⟩)
    (lc0 : PySem.W.codeIn K cd0 "Made.__init__" = true)
    (lk0 : PySem.W.keepIn K (.ref iM) = true)
    (ll1 : K.lookup iT = some ⟨oc1, oe1, .func (PySem.W.fnOf "__init__" "Table.__init__" (defArgs s_Table_init) (defBody s_Table_init) (defScope s_Table_init) .none kV1 dc1 pm1 an1 cd1 ct1), os1⟩)
    (lc1 : PySem.W.codeIn K cd1 "Table.__init__" = true)
    (lk1 : PySem.W.keepIn K (.ref iT) = true)
    (ll2 : K.lookup fe = some ⟨oc2, oe2, .func (PySem.W.fnOf "__eq__" "Table.__eq__" (defArgs s_Table_eq) (defBody s_Table_eq) (defScope s_Table_eq) .none kV2 dc2 pm2 an2 cd2 ct2), os2⟩)
    (lc2 : PySem.W.codeIn K cd2 "Table.__eq__" = true)
    (lk2 : PySem.W.keepIn K (.ref fe) = true)
    (ll3 : K.lookup fc = some ⟨oc3, oe3, .func (PySem.W.fnOf "cells" "Table.cells" (defArgs s_Table_cells) (defBody s_Table_cells) (defScope s_Table_cells) .none kV3 dc3 pm3 an3 cd3 ct3), os3⟩)
    (lc3 : PySem.W.codeIn K cd3 "Table.cells" = true)
    (lk3 : PySem.W.keepIn K (.ref fc) = true)
    (ll4 : K.lookup iS = some ⟨oc4, oe4, .func (PySem.W.fnOf "__init__" "Sides.__init__" (defArgs s_Sides_init) (defBody s_Sides_init) (defScope s_Sides_init) .none kV4 dc4 pm4 an4 cd4 ct4), os4⟩)
    (lc4 : PySem.W.codeIn K cd4 "Sides.__init__" = true)
    (lk4 : PySem.W.keepIn K (.ref iS) = true)
    (ll5 : K.lookup fb = some ⟨oc5, oe5, .func (PySem.W.fnOf "beside" "Sides.beside" (defArgs s_Sides_beside) (defBody s_Sides_beside) (defScope s_Sides_beside) .none kV5 dc5 pm5 an5 cd5 ct5), os5⟩)
    (lc5 : PySem.W.codeIn K cd5 "Sides.beside" = true)
    (lk5 : PySem.W.keepIn K (.ref fb) = true)
    (ll6 : K.lookup fl = some ⟨oc6, oe6, .func (PySem.W.fnOf "least_from" "Sides.least_from" (defArgs s_Sides_least_from) (defBody s_Sides_least_from) (defScope s_Sides_least_from) .none kV6 dc6 pm6 an6 cd6 ct6), os6⟩)
    (lc6 : PySem.W.codeIn K cd6 "Sides.least_from" = true)
    (lk6 : PySem.W.keepIn K (.ref fl) = true)
    (q : ∀ a : Adr, Txt K mg a ∧ GM K "__init__" "Made.__init__" s_Made_init a.iM ∧ GM K "__init__" "Table.__init__" s_Table_init a.iT ∧ GM K "__eq__" "Table.__eq__" s_Table_eq a.fe ∧ GM K "cells" "Table.cells" s_Table_cells a.fc ∧ GM K "__init__" "Sides.__init__" s_Sides_init a.iS ∧ GM K "beside" "Sides.beside" s_Sides_beside a.fb ∧ GM K "least_from" "Sides.least_from" s_Sides_least_from a.fl → p) : p := by
  refine q ⟨cM, cT, cS, iM, iT, iS, pP, p0, p1, p2, dMr, dTh, dTo, dTp, dTr, dSp, dSt, pc, fc, fe, fb, fl⟩ ⟨?_, gm_mk ll0 lc0 lk0, gm_mk ll1 lc1 lk1, gm_mk ll2 lc2 lk2, gm_mk ll3 lc3 lk3, gm_mk ll4 lc4 lk4, gm_mk ll5 lc5 lk5, gm_mk ll6 lc6 lk6⟩
  exact ⟨PySem.W.mg_none_of X G z_len, PySem.W.mg_none_of X G z_isinstance, PySem.W.mg_none_of X G z_all, PySem.W.mg_none_of X G z_any, PySem.W.mg_none_of X G z_sorted, PySem.W.mg_none_of X G z_abs, PySem.W.mg_none_of X G z_max, PySem.W.mg_none_of X G z_min, PySem.W.mg_none_of X G z_int, PySem.W.mg_none_of X G z_bool, PySem.W.mg_none_of X G z_tuple, PySem.W.mg_none_of X G z_list, PySem.W.mg_none_of X G z_range, PySem.W.mg_none_of X G z_enumerate, PySem.W.mg_none_of X G z_zip, ⟨_, PySem.W.mg_of X G gMX⟩, ⟨_, PySem.W.mg_of X G gEN⟩, PySem.W.mg_of X G gPA, tup_w lP (by show 3 ≤ 3; omega) (.cons rfl (.cons rfl (.cons rfl .nil))), tup_w l0 (by show 2 ≤ 3; omega) (.cons ⟨_, rfl⟩ (.cons ⟨_, rfl⟩ .nil)), tup_w l1 (by show 2 ≤ 3; omega) (.cons ⟨_, rfl⟩ (.cons ⟨_, rfl⟩ .nil)), tup_w l2 (by show 2 ≤ 3; omega) (.cons ⟨_, rfl⟩ (.cons ⟨_, rfl⟩ .nil)), PySem.W.mg_of X G gM, PySem.W.mg_of X G gT, PySem.W.mg_of X G gS, ⟨pgM, icM, poM, saM⟩, ⟨pgT, icT, poT, saT⟩, ⟨pgS, icS, poS, saS⟩, ⟨mkM, inM, fnM, kpM⟩, ⟨mkT, inT, fnT, kpT⟩, ⟨mkS, inS, fnS, kpS⟩, ⟨lMa, lMg, lMt, lMy, lMx, by decide⟩, ⟨lTha, lThg, lTht, lThy, lThx, by decide⟩, ⟨lToa, lTog, lTot, lToy, lTox, by decide⟩, ⟨lTpa, lTpg, lTpt, lTpy, lTpx, by decide⟩, ⟨lTra, lTrg, lTrt, lTry, lTrx, by decide⟩, ⟨lSpa, lSpg, lSpt, lSpy, lSpx, by decide⟩, ⟨lSta, lStg, lStt, lSty, lStx, by decide⟩, ⟨caM, cnM, ctM, cmM⟩, ⟨caT, cnT, ctT, cmT⟩, kMM, kTT, ktM, ⟨mba, mbf, mbk⟩, ⟨mla, mlf, mlk⟩, eqT, eqF, eqN, pc1, pc2, pc3, ⟨rest, pc4⟩⟩
end K40
end

section
set_option Elab.async false
set_option maxRecDepth 100000
open PySem PySem.W PyProof.Rows
set_option maxHeartbeats 0
open_top k40head for PySem.Challenge.rw_oneanswer_k40_whole_trades_fall_apart
end

section
set_option Elab.async false
set_option linter.all false
set_option maxRecDepth 100000
open PySem PySem.W PyProof.Rows
set_option maxRecDepth 100000 in
set_option maxHeartbeats 0 in
theorem PySem.Challenge.cw_oneanswer_k40_whole_trades_fall_apart_holds : PySem.Challenge.rw_oneanswer_k40_whole_trades_fall_apart.Holds := by
  refine k40head ?_
  k_fill
  refine K40.walk (l := PySem.Challenge.rw_oneanswer_k40_whole_trades_fall_apart) rfl rfl (fun w h Y => PySem.W.kIn_of Y) ?F
  case F =>
    intro w mg fa h KX G hmg
    refine' K40.use_top KX G ?z_len ?z_isinstance ?z_all ?z_any ?z_sorted ?z_abs ?z_max ?z_min ?z_int ?z_bool ?z_tuple ?z_list ?z_range ?z_enumerate ?z_zip ?gMX ?gEN ?gPA ?lP ?l0 ?l1 ?l2 ?gM ?pgM ?icM ?poM ?saM ?mkM ?inM ?fnM ?kpM ?gT ?pgT ?icT ?poT ?saT ?mkT ?inT ?fnT ?kpT ?gS ?pgS ?icS ?poS ?saS ?mkS ?inS ?fnS ?kpS ?lMa ?lMg ?lMt ?lMy ?lMx ?lTha ?lThg ?lTht ?lThy ?lThx ?lToa ?lTog ?lTot ?lToy ?lTox ?lTpa ?lTpg ?lTpt ?lTpy ?lTpx ?lTra ?lTrg ?lTrt ?lTry ?lTrx ?lSpa ?lSpg ?lSpt ?lSpy ?lSpx ?lSta ?lStg ?lStt ?lSty ?lStx ?caM ?cnM ?ctM ?cmM ?caT ?cnT ?ctT ?cmT ?kMM ?kTT ?ktM ?mba ?mbf ?mbk ?mla ?mlf ?mlk ?eqT ?eqF ?eqN ?pc1 ?pc2 ?pc3 ?pc4 ?ll0 ?lc0 ?lk0 ?ll1 ?lc1 ?lk1 ?ll2 ?lc2 ?lk2 ?ll3 ?lc3 ?lk3 ?ll4 ?lc4 ?lk4 ?ll5 ?lc5 ?lk5 ?ll6 ?lc6 ?lk6 ?_
    (case z_len => k_is); (case z_isinstance => k_is); (case z_all => k_is); (case z_any => k_is); (case z_sorted => k_is); (case z_abs => k_is)
    (case z_max => k_is); (case z_min => k_is); (case z_int => k_is); (case z_bool => k_is); (case z_tuple => k_is); (case z_list => k_is)
    (case z_range => k_is); (case z_enumerate => k_is); (case z_zip => k_is); (case gMX => k_is); (case gEN => k_is); (case gPA => k_is)
    (case lP => k_is); (case l0 => k_is); (case l1 => k_is); (case l2 => k_is); (case gM => k_is); (case pgM => k_is)
    (case icM => k_is); (case poM => k_is); (case saM => k_is); (case mkM => k_is); (case inM => k_is); (case fnM => k_is)
    (case kpM => k_is); (case gT => k_is); (case pgT => k_is); (case icT => k_is); (case poT => k_is); (case saT => k_is)
    (case mkT => k_is); (case inT => k_is); (case fnT => k_is); (case kpT => k_is); (case gS => k_is); (case pgS => k_is)
    (case icS => k_is); (case poS => k_is); (case saS => k_is); (case mkS => k_is); (case inS => k_is); (case fnS => k_is)
    (case kpS => k_is); (case lMa => k_is); (case lMg => k_is); (case lMt => k_is); (case lMy => k_is); (case lMx => k_is)
    (case lTha => k_is); (case lThg => k_is); (case lTht => k_is); (case lThy => k_is); (case lThx => k_is); (case lToa => k_is)
    (case lTog => k_is); (case lTot => k_is); (case lToy => k_is); (case lTox => k_is); (case lTpa => k_is); (case lTpg => k_is)
    (case lTpt => k_is); (case lTpy => k_is); (case lTpx => k_is); (case lTra => k_is); (case lTrg => k_is); (case lTrt => k_is)
    (case lTry => k_is); (case lTrx => k_is); (case lSpa => k_is); (case lSpg => k_is); (case lSpt => k_is); (case lSpy => k_is)
    (case lSpx => k_is); (case lSta => k_is); (case lStg => k_is); (case lStt => k_is); (case lSty => k_is); (case lStx => k_is)
    (case caM => k_is); (case cnM => k_is); (case ctM => k_is); (case cmM => k_is); (case caT => k_is); (case cnT => k_is)
    (case ctT => k_is); (case cmT => k_is); (case kMM => kit_is); (case kTT => kit_is); (case ktM => kit_is); (case mba => k_is)
    (case mbf => k_is); (case mbk => k_is); (case mla => k_is); (case mlf => k_is); (case mlk => k_is); (case eqT => k_is)
    (case eqF => k_is); (case eqN => k_is); (case pc1 => k_is); (case pc2 => k_is); (case pc3 => k_is); (case pc4 => k_is)
    (case ll0 => k_is); (case lc0 => k_is); (case lk0 => k_is); (case ll1 => k_is); (case lc1 => k_is); (case lk1 => k_is)
    (case ll2 => k_is); (case lc2 => k_is); (case lk2 => k_is); (case ll3 => k_is); (case lc3 => k_is); (case lk3 => k_is)
    (case ll4 => k_is); (case lc4 => k_is); (case lk4 => k_is); (case ll5 => k_is); (case lc5 => k_is); (case lk5 => k_is)
    (case ll6 => k_is); (case lc6 => k_is); (case lk6 => k_is)
    rintro a ⟨T, F_Made_init, F_Table_init, F_Table_eq, F_Table_cells, F_Sides_init, F_Sides_beside, F_Sides_least_from⟩
    refine' K40.use_gf (g := "is_whole") (x := "is_whole") (qual := "is_whole") (st := K40.s_is_whole) KX G ?a ?l ?c ?k ?_
    (case a => k_is); (case l => k_is); (case c => k_is); (case k => k_is); intro F_is_whole
    refine' K40.use_gf (g := "is_within_renamings") (x := "is_within") (qual := "is_within") (st := K40.s_is_within) KX G ?a ?l ?c ?k ?_
    (case a => k_is); (case l => k_is); (case c => k_is); (case k => k_is); intro F_is_within
    refine' K40.use_gf (g := "require_within") (x := "require_within") (qual := "require_within") (st := K40.s_require_within) KX G ?a ?l ?c ?k ?_
    (case a => k_is); (case l => k_is); (case c => k_is); (case k => k_is); intro F_require_within
    refine' K40.use_gf (g := "require_order") (x := "require_order") (qual := "require_order") (st := K40.s_require_order) KX G ?a ?l ?c ?k ?_
    (case a => k_is); (case l => k_is); (case c => k_is); (case k => k_is); intro F_require_order
    refine' K40.use_gf (g := "is_renaming_of") (x := "is_renaming_of") (qual := "is_renaming_of") (st := K40.s_is_renaming_of) KX G ?a ?l ?c ?k ?_
    (case a => k_is); (case l => k_is); (case c => k_is); (case k => k_is); intro F_is_renaming_of
    refine' K40.use_gf (g := "is_renaming") (x := "is_renaming") (qual := "is_renaming") (st := K40.s_is_renaming) KX G ?a ?l ?c ?k ?_
    (case a => k_is); (case l => k_is); (case c => k_is); (case k => k_is); intro F_is_renaming
    refine' K40.use_gf (g := "turned_back") (x := "turned_back") (qual := "turned_back") (st := K40.s_turned_back) KX G ?a ?l ?c ?k ?_
    (case a => k_is); (case l => k_is); (case c => k_is); (case k => k_is); intro F_turned_back
    refine' K40.use_gf (g := "transposed") (x := "transposed") (qual := "transposed") (st := K40.s_transposed) KX G ?a ?l ?c ?k ?_
    (case a => k_is); (case l => k_is); (case c => k_is); (case k => k_is); intro F_transposed
    refine' K40.use_gf (g := "columns_of") (x := "columns_of") (qual := "columns_of") (st := K40.s_columns_of) KX G ?a ?l ?c ?k ?_
    (case a => k_is); (case l => k_is); (case c => k_is); (case k => k_is); intro F_columns_of
    refine' K40.use_gf (g := "rows_of_signs") (x := "rows_of_signs") (qual := "rows_of_signs") (st := K40.s_rows_of_signs) KX G ?a ?l ?c ?k ?_
    (case a => k_is); (case l => k_is); (case c => k_is); (case k => k_is); intro F_rows_of_signs
    refine' K40.use_gf (g := "are_rows") (x := "are_rows") (qual := "are_rows") (st := K40.s_are_rows) KX G ?a ?l ?c ?k ?_
    (case a => k_is); (case l => k_is); (case c => k_is); (case k => k_is); intro F_are_rows
    refine' K40.use_gf (g := "rows_told") (x := "rows_told") (qual := "rows_told") (st := K40.s_rows_told) KX G ?a ?l ?c ?k ?_
    (case a => k_is); (case l => k_is); (case c => k_is); (case k => k_is); intro F_rows_told
    refine' K40.use_gf (g := "table_with") (x := "table_with") (qual := "table_with") (st := K40.s_table_with) KX G ?a ?l ?c ?k ?_
    (case a => k_is); (case l => k_is); (case c => k_is); (case k => k_is); intro F_table_with
    refine' K40.use_gf (g := "require_table") (x := "require_table") (qual := "require_table") (st := K40.s_require_table) KX G ?a ?l ?c ?k ?_
    (case a => k_is); (case l => k_is); (case c => k_is); (case k => k_is); intro F_require_table
    refine' K40.use_gf (g := "require_two_tables") (x := "require_two_tables") (qual := "require_two_tables") (st := K40.s_require_two_tables) KX G ?a ?l ?c ?k ?_
    (case a => k_is); (case l => k_is); (case c => k_is); (case k => k_is); intro F_require_two_tables
    refine' K40.use_gf (g := "is_triple") (x := "is_triple") (qual := "is_triple") (st := K40.s_is_triple) KX G ?a ?l ?c ?k ?_
    (case a => k_is); (case l => k_is); (case c => k_is); (case k => k_is); intro F_is_triple
    refine' K40.use_gf (g := "are_cells") (x := "are_cells") (qual := "are_cells") (st := K40.s_are_cells) KX G ?a ?l ?c ?k ?_
    (case a => k_is); (case l => k_is); (case c => k_is); (case k => k_is); intro F_are_cells
    refine' K40.use_gf (g := "cells_by") (x := "cells_by") (qual := "cells_by") (st := K40.s_cells_by) KX G ?a ?l ?c ?k ?_
    (case a => k_is); (case l => k_is); (case c => k_is); (case k => k_is); intro F_cells_by
    refine' K40.use_gf (g := "is_partial_of") (x := "is_partial_of") (qual := "is_partial_of") (st := K40.s_is_partial_of) KX G ?a ?l ?c ?k ?_
    (case a => k_is); (case l => k_is); (case c => k_is); (case k => k_is); intro F_is_partial_of
    refine' K40.use_gf (g := "is_trade_of") (x := "is_trade_of") (qual := "is_trade_of") (st := K40.s_is_trade_of) KX G ?a ?l ?c ?k ?_
    (case a => k_is); (case l => k_is); (case c => k_is); (case k => k_is); intro F_is_trade_of
    refine' K40.use_gf (g := "require_trade") (x := "require_trade") (qual := "require_trade") (st := K40.s_require_trade) KX G ?a ?l ?c ?k ?_
    (case a => k_is); (case l => k_is); (case c => k_is); (case k => k_is); intro F_require_trade
    refine' K40.use_gf (g := "is_trade") (x := "is_trade") (qual := "is_trade") (st := K40.s_is_trade) KX G ?a ?l ?c ?k ?_
    (case a => k_is); (case l => k_is); (case c => k_is); (case k => k_is); intro F_is_trade
    refine' K40.use_gf (g := "turned") (x := "turned") (qual := "turned") (st := K40.s_turned) KX G ?a ?l ?c ?k ?_
    (case a => k_is); (case l => k_is); (case c => k_is); (case k => k_is); intro F_turned
    refine' K40.use_gf (g := "least_trades") (x := "least_trades") (qual := "least_trades") (st := K40.s_least_trades) KX G ?a ?l ?c ?k ?_
    (case a => k_is); (case l => k_is); (case c => k_is); (case k => k_is); intro F_least_trades
    refine' K40.use_gf (g := "cells_apart") (x := "cells_apart") (qual := "cells_apart") (st := K40.s_cells_apart) KX G ?a ?l ?c ?k ?_
    (case a => k_is); (case l => k_is); (case c => k_is); (case k => k_is); intro F_cells_apart
    refine' K40.use_gf (g := "difference") (x := "difference") (qual := "difference") (st := K40.s_difference) KX G ?a ?l ?c ?k ?_
    (case a => k_is); (case l => k_is); (case c => k_is); (case k => k_is); intro F_difference
    refine' K40.use_gf (g := "has_all") (x := "has_all") (qual := "has_all") (st := K40.s_has_all) KX G ?a ?l ?c ?k ?_
    (case a => k_is); (case l => k_is); (case c => k_is); (case k => k_is); intro F_has_all
    refine' K40.use_gf (g := "is_within_table") (x := "is_within_table") (qual := "is_within_table") (st := K40.s_is_within_table) KX G ?a ?l ?c ?k ?_
    (case a => k_is); (case l => k_is); (case c => k_is); (case k => k_is); intro F_is_within_table
    refine' K40.use_gf (g := "is_within_trades") (x := "is_within") (qual := "is_within") (st := K40.s_is_within_tr) KX G ?a ?l ?c ?k ?_
    (case a => k_is); (case l => k_is); (case c => k_is); (case k => k_is); intro F_is_within_tr
    refine' K40.use_gf (g := "is_least_trade") (x := "is_least_trade") (qual := "is_least_trade") (st := K40.s_is_least_trade) KX G ?a ?l ?c ?k ?_
    (case a => k_is); (case l => k_is); (case c => k_is); (case k => k_is); intro F_is_least_trade
    refine' K40.use_gf (g := "falling") (x := "falling") (qual := "falling") (st := K40.s_falling) KX G ?a ?l ?c ?k ?_
    (case a => k_is); (case l => k_is); (case c => k_is); (case k => k_is); intro F_falling
    refine' K40.use_gf (g := "rows_with") (x := "rows_with") (qual := "rows_with") (st := K40.s_rows_with) KX G ?a ?l ?c ?k ?_
    (case a => k_is); (case l => k_is); (case c => k_is); (case k => k_is); intro F_rows_with
    refine' K40.use_gf (g := "table_switched") (x := "table_switched") (qual := "table_switched") (st := K40.s_table_switched) KX G ?a ?l ?c ?k ?_
    (case a => k_is); (case l => k_is); (case c => k_is); (case k => k_is); intro F_table_switched
    refine' K40.use_gf (g := "switched") (x := "switched") (qual := "switched") (st := K40.s_switched) KX G ?a ?l ?c ?k ?_
    (case a => k_is); (case l => k_is); (case c => k_is); (case k => k_is); intro F_switched
    refine' K40.use_gf (g := "_law_shared") (x := "_law_shared") (qual := "_law_shared") (st := K40.s_l_shared) KX G ?a ?l ?c ?k ?_
    (case a => k_is); (case l => k_is); (case c => k_is); (case k => k_is); intro F_l_shared
    refine' K40.use_gf (g := "_law_across") (x := "_law_across") (qual := "_law_across") (st := K40.s_l_across) KX G ?a ?l ?c ?k ?_
    (case a => k_is); (case l => k_is); (case c => k_is); (case k => k_is); intro F_l_across
    refine' K40.use_gf (g := "_law_table") (x := "_law_table") (qual := "_law_table") (st := K40.s_l_table) KX G ?a ?l ?c ?k ?_
    (case a => k_is); (case l => k_is); (case c => k_is); (case k => k_is); intro F_l_table
    refine' K40.use_gf (g := "_law_parted") (x := "_law_parted") (qual := "_law_parted") (st := K40.s_l_parted) KX G ?a ?l ?c ?k ?_
    (case a => k_is); (case l => k_is); (case c => k_is); (case k => k_is); intro F_l_parted
    refine' K40.use_gf (g := "_law_joined") (x := "_law_joined") (qual := "_law_joined") (st := K40.s_l_joined) KX G ?a ?l ?c ?k ?_
    (case a => k_is); (case l => k_is); (case c => k_is); (case k => k_is); intro F_l_joined
    refine' K40.use_gf (g := "_law_pot") (x := "_law_pot") (qual := "_law_pot") (st := K40.s_l_pot) KX G ?a ?l ?c ?k ?_
    (case a => k_is); (case l => k_is); (case c => k_is); (case k => k_is); intro F_l_pot
    refine' K40.use_gf (g := "_law_dip") (x := "_law_dip") (qual := "_law_dip") (st := K40.s_l_dip) KX G ?a ?l ?c ?k ?_
    (case a => k_is); (case l => k_is); (case c => k_is); (case k => k_is); intro F_l_dip
    refine' K40.use_gf (g := "_law_pick") (x := "_law_pick") (qual := "_law_pick") (st := K40.s_l_pick) KX G ?a ?l ?c ?k ?_
    (case a => k_is); (case l => k_is); (case c => k_is); (case k => k_is); intro F_l_pick
    refine' K40.use_gf (g := "_law_shaken") (x := "_law_shaken") (qual := "_law_shaken") (st := K40.s_l_shaken) KX G ?a ?l ?c ?k ?_
    (case a => k_is); (case l => k_is); (case c => k_is); (case k => k_is); intro F_l_shaken
    refine' K40.use_gf (g := "_law_switched_rows") (x := "_law_switched_rows") (qual := "_law_switched_rows") (st := K40.s_l_switched_rows) KX G ?a ?l ?c ?k ?_
    (case a => k_is); (case l => k_is); (case c => k_is); (case k => k_is); intro F_l_switched_rows
    refine' K40.use_gf (g := "_law_square") (x := "_law_square") (qual := "_law_square") (st := K40.s_l_square) KX G ?a ?l ?c ?k ?_
    (case a => k_is); (case l => k_is); (case c => k_is); (case k => k_is); intro F_l_square
    refine' K40.use_gf (g := "_law_two") (x := "_law_two") (qual := "_law_two") (st := K40.s_l_two) KX G ?a ?l ?c ?k ?_
    (case a => k_is); (case l => k_is); (case c => k_is); (case k => k_is); intro F_l_two
    refine' K40.use_gf (g := "_law_pieces") (x := "_law_pieces") (qual := "_law_pieces") (st := K40.s_l_pieces) KX G ?a ?l ?c ?k ?_
    (case a => k_is); (case l => k_is); (case c => k_is); (case k => k_is); intro F_l_pieces
    refine' K40.use_gf (g := "_law_walks") (x := "_law_walks") (qual := "_law_walks") (st := K40.s_l_walks) KX G ?a ?l ?c ?k ?_
    (case a => k_is); (case l => k_is); (case c => k_is); (case k => k_is); intro F_l_walks
    refine' K40.use_gf (g := "_law_right") (x := "_law_right") (qual := "_law_right") (st := K40.s_l_right) KX G ?a ?l ?c ?k ?_
    (case a => k_is); (case l => k_is); (case c => k_is); (case k => k_is); intro F_l_right
    refine' K40.use_gf (g := "law") (x := "law") (qual := "law") (st := K40.s_law) KX G ?a ?l ?c ?k ?_
    (case a => k_is); (case l => k_is); (case c => k_is); (case k => k_is); intro F_law
    exact K40.all_end hmg F_law fun base => K40.all_ok T F_is_whole F_is_within F_require_within F_require_order F_is_renaming_of F_is_renaming F_turned_back F_Made_init F_transposed F_columns_of F_rows_of_signs F_are_rows F_rows_told F_Table_init F_table_with F_require_table F_require_two_tables F_Table_eq F_Table_cells F_is_triple F_are_cells F_cells_by F_is_partial_of F_is_trade_of F_require_trade F_is_trade F_turned F_Sides_init F_Sides_beside F_Sides_least_from F_least_trades F_cells_apart F_difference F_has_all F_is_within_table F_is_within_tr F_is_least_trade F_falling F_rows_with F_table_switched F_switched F_l_shared F_l_across F_l_table F_l_parted F_l_joined F_l_pot F_l_dip F_l_pick F_l_shaken F_l_switched_rows F_l_square F_l_two F_l_pieces F_l_walks F_l_right
end
