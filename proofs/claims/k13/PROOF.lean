import PyProof.Rows.All
import Wide.All
import OpenK.AllK
import Wide.FinOn
import HandS.ForMost
import HandS.Finally
import HandS.Style
import HandS.Conv
import HandS.TupAny
import HandS.DictComp
import HandS.IsInst
import HandS.SortInts
import HandS.Zip
import HandS.WideBits
import HandS.Flow
import HandS.Deep
import HandS.ListItems
import HandS.SetFor
import HandS.Evl
import HandS.NamedTupSort
import KE.KDictSum
import HandS.Walk
import PySem.Challenge.RW_eatenorders_k13_whole_worths_beside_all
set_option maxRecDepth 100000
set_option maxHeartbeats 1000000
/-! Plain mathematics: ties, reach, what lies above, by numbers of bits. -/
namespace K13
abbrev Ties := List (Nat × Nat)
inductive Reach (ts : Ties) : Nat → Nat → Prop
  | refl (a : Nat) : Reach ts a a
  | step {a b c : Nat} : (a, b) ∈ ts → Reach ts b c → Reach ts a c
theorem Reach.trans {ts : Ties} {a b c : Nat} (h : Reach ts a b) (k : Reach ts b c) : Reach ts a c := by
  induction h with
  | refl a => exact k
  | step e _ ih => exact .step e (ih k)
theorem Reach.mono {ts us : Ties} (h : ∀ p ∈ ts, p ∈ us) {a b : Nat} (r : Reach ts a b) : Reach us a b := by
  induction r with
  | refl a => exact .refl a
  | step e _ ih => exact .step (h _ e) ih
theorem Reach.one {ts : Ties} {a b : Nat} (h : (a, b) ∈ ts) : Reach ts a b := .step h (.refl b)
theorem Reach.le {ts : Ties} (hr : ∀ p ∈ ts, p.1 < p.2) {a b : Nat} (r : Reach ts a b) : a ≤ b := by
  induction r with
  | refl a => exact Nat.le_refl _
  | step e _ ih => exact Nat.le_trans (Nat.le_of_lt (hr _ e)) ih

/-! ### closing: f[lo] = f[lo] | f[hi] along a list of pairs -/
def ups0 (m : Nat) : List Nat := (List.range m).map fun k => 2 ^ k
def upd1 (f : List Nat) (p : Nat × Nat) : List Nat := f.set p.1 (f.getD p.1 0 ||| f.getD p.2 0)
def closeBy (m : Nat) (us : Ties) : List Nat := us.foldl upd1 (ups0 m)
theorem upd1_length (f : List Nat) (p : Nat × Nat) : (upd1 f p).length = f.length := by unfold upd1; rw [List.length_set]
theorem fold_length : ∀ (us : Ties) (f : List Nat), (us.foldl upd1 f).length = f.length
  | [], _ => rfl
  | p :: us, f => by rw [List.foldl_cons, fold_length us, upd1_length]
theorem ups0_length (m : Nat) : (ups0 m).length = m := by unfold ups0; rw [List.length_map, List.length_range]
theorem closeBy_length (m : Nat) (us : Ties) : (closeBy m us).length = m := by unfold closeBy; rw [fold_length, ups0_length]
theorem getD_set_same {f : List Nat} {i v : Nat} (h : i < f.length) : (f.set i v).getD i 0 = v := by
  rw [List.getD_eq_getElem?_getD, List.getElem?_set_self h]; rfl
theorem getD_set_ne {f : List Nat} {i j v : Nat} (h : i ≠ j) : (f.set i v).getD j 0 = f.getD j 0 := by
  rw [List.getD_eq_getElem?_getD, List.getElem?_set_ne h, List.getD_eq_getElem?_getD]
theorem ups0_get {m k : Nat} (h : k < m) : (ups0 m).getD k 0 = 2 ^ k := by
  unfold ups0
  rw [List.getD_eq_getElem?_getD, List.getElem?_map, List.getElem?_range h]; rfl
/-- in the midst of closing -/
structure Cl (m : Nat) (us pre : Ties) (f : List Nat) : Prop where
  len : f.length = m
  own : ∀ k, k < m → (f.getD k 0).testBit k = true
  sound : ∀ k j, k < m → (f.getD k 0).testBit j = true → Reach us k j
  done : ∀ p ∈ pre, ∀ j, (f.getD p.2 0).testBit j = true → (f.getD p.1 0).testBit j = true
theorem Cl.start (m : Nat) (us : Ties) : Cl m us [] (ups0 m) where
  len := ups0_length m
  own := fun k h => by rw [ups0_get h]; exact Nat.testBit_two_pow_self
  sound := fun k j h e => by
    rw [ups0_get h, Nat.testBit_two_pow] at e
    have e' : k = j := of_decide_eq_true e
    subst e'
    exact .refl k
  done := fun p h => absurd h (by simp)
theorem upd1_at {f : List Nat} {p : Nat × Nat} (h : p.1 < f.length) (k j : Nat) : ((upd1 f p).getD k 0).testBit j = ((f.getD k 0).testBit j || (decide (k = p.1) && (f.getD p.2 0).testBit j)) := by
  unfold upd1
  by_cases e : p.1 = k
  · subst e
    rw [getD_set_same h, Nat.testBit_or]
    simp
  · rw [getD_set_ne e, decide_eq_false (fun z => e z.symm)]
    simp
theorem Cl.next {m : Nat} {us pre : Ties} {f : List Nat} {p : Nat × Nat} (c : Cl m us pre f) (hp : p ∈ us) (hr : p.1 < p.2 ∧ p.2 < m) (hpre : ∀ q ∈ pre, p.1 ≤ q.1 ∧ q.1 < q.2) : Cl m us (pre ++ [p]) (upd1 f p) := by
  have hl : p.1 < f.length := by rw [c.len]; omega
  refine ⟨(upd1_length f p).trans c.len, fun k hk => ?_, fun k j hk e => ?_, fun q hq j e => ?_⟩
  · rw [upd1_at hl, c.own k hk]; rfl
  · rw [upd1_at hl, Bool.or_eq_true, Bool.and_eq_true, decide_eq_true_eq] at e
    rcases e with e | ⟨e, e2⟩
    · exact c.sound k j hk e
    · subst e
      exact .step (by exact hp) (c.sound p.2 j hr.2 e2)
  · rw [upd1_at hl] at e ⊢
    rcases List.mem_append.mp hq with hq | hq
    · have hq' := hpre q hq
      rw [decide_eq_false (show ¬ q.2 = p.1 by omega), Bool.false_and, Bool.or_false] at e
      rw [c.done q hq j e]; rfl
    · rw [List.mem_singleton] at hq
      subst hq
      rw [decide_eq_false (show ¬ q.2 = q.1 by omega), Bool.false_and, Bool.or_false] at e
      rw [e]
      simp
theorem Cl.all {m : Nat} {us : Ties} : ∀ (rest pre : Ties) (f : List Nat), pre ++ rest = us → us.Pairwise (fun p q => q.1 ≤ p.1) → (∀ p ∈ us, p.1 < p.2 ∧ p.2 < m) → Cl m us pre f → Cl m us us (rest.foldl upd1 f)
  | [], pre, f, e, _, _, c => by
    rw [List.append_nil] at e
    subst e
    exact c
  | p :: rest, pre, f, e, hs, hr, c => by
    subst e
    rw [List.foldl_cons]
    have hs' := List.pairwise_append.mp hs
    refine Cl.all rest (pre ++ [p]) _ (by rw [List.append_assoc]; rfl) hs hr (c.next (by simp) (hr p (by simp)) fun q hq => ⟨hs'.2.2 q hq p (by simp), (hr q (by simp [hq])).1⟩)
theorem close_iff {m : Nat} {us : Ties} (hs : us.Pairwise (fun p q => q.1 ≤ p.1)) (hr : ∀ p ∈ us, p.1 < p.2 ∧ p.2 < m) {k : Nat} (hk : k < m) (j : Nat) : ((closeBy m us).getD k 0).testBit j = true ↔ Reach us k j := by
  have c : Cl m us us (closeBy m us) := Cl.all us [] _ rfl hs hr (Cl.start m us)
  refine ⟨c.sound k j hk, fun h => ?_⟩
  induction h with
  | refl a => exact c.own a hk
  | @step a b d e _ ih => exact c.done (a, b) e _ (ih (hr _ e).2)

/-! ### the orders -/
structure Good (m : Nat) (ts : Ties) : Prop where
  le : m ≤ 7
  rng : ∀ p ∈ ts, p.1 < p.2 ∧ p.2 < m
  asc : ts.Pairwise (fun p q => p.1 < q.1 ∨ (p.1 = q.1 ∧ p.2 < q.2))
  irr : ∀ a b c, (a, b) ∈ ts → (a, c) ∈ ts → c ≠ b → ¬ Reach ts c b
theorem desc_of {ts : Ties} (h : ts.Pairwise (fun p q => p.1 < q.1 ∨ (p.1 = q.1 ∧ p.2 < q.2))) : ts.reverse.Pairwise (fun p q => q.1 ≤ p.1) :=
  List.pairwise_reverse.mpr (h.imp fun {p q} z => by omega)
def ups (m : Nat) (ts : Ties) : List Nat := closeBy m ts.reverse
def up (m : Nat) (ts : Ties) (k : Nat) : Nat := (ups m ts).getD k 0
theorem up_iff {m : Nat} {ts : Ties} (g : Good m ts) {k : Nat} (hk : k < m) (j : Nat) : (up m ts k).testBit j = true ↔ Reach ts k j := by
  unfold up ups
  rw [close_iff (desc_of g.asc) (fun p hp => g.rng p (List.mem_reverse.mp hp)) hk]
  exact ⟨Reach.mono fun p hp => List.mem_reverse.mp hp, Reach.mono fun p hp => List.mem_reverse.mpr hp⟩

/-! ### the law's own making of an order -/
def flow (m : Nat) (ps : Ties) : Ties := (List.range m).reverse.flatMap fun low => ps.filter fun p => p.1 == low
def overs (m : Nat) (A : List Nat) (low : Nat) : List Nat := (List.range' (low + 1) (m - (low + 1))).filter fun own => (A.getD low 0).testBit own
def keeps (m : Nat) (A : List Nat) (low own : Nat) : Bool := ((overs m A low).filter fun its => its != own && (A.getD its 0).testBit own).isEmpty
def netAt (m : Nat) (A : List Nat) (low : Nat) : Ties := ((overs m A low).filter (keeps m A low)).map fun own => (low, own)
def netTies (m : Nat) (A : List Nat) : Ties := (List.range m).flatMap (netAt m A)
def aboves (m : Nat) (ps : Ties) : List Nat := closeBy m (flow m ps)
def netOf (m : Nat) (ps : Ties) : Ties := netTies m (aboves m ps)
theorem mem_flow {m : Nat} {ps : Ties} {p : Nat × Nat} : p ∈ flow m ps ↔ p ∈ ps ∧ p.1 < m := by
  unfold flow
  simp only [List.mem_flatMap, List.mem_reverse, List.mem_range, List.mem_filter, beq_iff_eq]
  exact ⟨fun ⟨a, h1, h2, h3⟩ => ⟨h2, by omega⟩, fun ⟨h1, h2⟩ => ⟨p.1, h2, h1, rfl⟩⟩
theorem flow_desc (m : Nat) (ps : Ties) : (flow m ps).Pairwise (fun p q => q.1 ≤ p.1) := by
  unfold flow
  rw [List.pairwise_flatMap]
  refine ⟨fun a _ => ?_, ?_⟩
  · refine List.Pairwise.imp_of_mem (R := fun _ _ => True) (fun {p q} hp hq _ => ?_) (List.pairwise_of_forall fun _ _ => True.intro)
    simp only [List.mem_filter, beq_iff_eq] at hp hq
    omega
  · rw [List.pairwise_reverse]
    refine List.Pairwise.imp_of_mem (R := (· < ·)) (fun {a b} _ _ hlt p hp q hq => ?_) List.pairwise_lt_range
    simp only [List.mem_filter, beq_iff_eq] at hp hq
    omega
theorem above_iff {m : Nat} {ps : Ties} (hr : ∀ p ∈ ps, p.1 < p.2 ∧ p.2 < m) {k : Nat} (hk : k < m) (j : Nat) : ((aboves m ps).getD k 0).testBit j = true ↔ Reach ps k j := by
  unfold aboves
  rw [close_iff (flow_desc m ps) (fun p hp => hr p (mem_flow.mp hp).1) hk]
  exact ⟨Reach.mono fun p hp => (mem_flow.mp hp).1, Reach.mono fun p hp => mem_flow.mpr ⟨hp, by have := hr p hp; omega⟩⟩
theorem mem_overs {m : Nat} {A : List Nat} {low own : Nat} : own ∈ overs m A low ↔ low < own ∧ own < m ∧ (A.getD low 0).testBit own = true := by
  unfold overs
  rw [List.mem_filter, List.mem_range'_1]
  exact ⟨fun ⟨h, h2⟩ => ⟨by omega, by omega, h2⟩, fun ⟨h1, h2, h3⟩ => ⟨by omega, h3⟩⟩
theorem mem_netOf {m : Nat} {A : List Nat} {p : Nat × Nat} : p ∈ netTies m A ↔ p.1 < m ∧ p.2 ∈ overs m A p.1 ∧ keeps m A p.1 p.2 = true := by
  unfold netTies netAt
  simp only [List.mem_flatMap, List.mem_range, List.mem_map, List.mem_filter]
  constructor
  · rintro ⟨a, h1, b, ⟨h2, h3⟩, rfl⟩
    exact ⟨h1, h2, h3⟩
  · rintro ⟨h1, h2, h3⟩
    exact ⟨p.1, h1, p.2, ⟨h2, h3⟩, rfl⟩
theorem overs_asc (m : Nat) (A : List Nat) (low : Nat) : (overs m A low).Pairwise (· < ·) := List.Pairwise.filter _ List.pairwise_lt_range'
theorem net_asc (m : Nat) (A : List Nat) : (netTies m A).Pairwise (fun p q => p.1 < q.1 ∨ (p.1 = q.1 ∧ p.2 < q.2)) := by
  unfold netTies
  rw [List.pairwise_flatMap]
  refine ⟨fun a _ => ?_, ?_⟩
  · unfold netAt
    rw [List.pairwise_map]
    exact ((overs_asc m A a).filter _).imp fun {x y} h => Or.inr ⟨rfl, h⟩
  · refine List.Pairwise.imp_of_mem (R := (· < ·)) (fun {a b} _ _ hlt p hp q hq => ?_) List.pairwise_lt_range
    unfold netAt at hp hq
    rw [List.mem_map] at hp hq
    obtain ⟨x, _, rfl⟩ := hp
    obtain ⟨y, _, rfl⟩ := hq
    exact Or.inl hlt
theorem net_good {m : Nat} {ps : Ties} (hm : m ≤ 7) (hr : ∀ p ∈ ps, p.1 < p.2 ∧ p.2 < m) : Good m (netOf m ps) := by
  refine ⟨hm, fun p hp => ?_, net_asc _ _, fun a b c hb hc hne hreach => ?_⟩
  · have h := mem_netOf.mp hp
    have h2 := mem_overs.mp h.2.1
    omega
  · have h1 := mem_netOf.mp hb
    have h2 := mem_netOf.mp hc
    have hcm : c < m := by have := mem_overs.mp h2.2.1; omega
    have hlift : Reach ps c b := by
      clear hne h1 h2 hcm hb hc
      induction hreach with
      | refl a => exact .refl a
      | @step x y z e _ ih =>
        have h := mem_netOf.mp e
        exact ((above_iff hr h.1 y).mp (mem_overs.mp h.2.1).2.2).trans ih
    have hbit := (above_iff hr hcm b).mpr hlift
    have hk := h1.2.2
    unfold keeps at hk
    rw [List.isEmpty_iff, List.filter_eq_nil_iff] at hk
    have := hk c h2.2.1
    rw [hbit] at this
    simp [hne] at this
/-- two side by side -/
def shift (k : Nat) (ts : Ties) : Ties := ts.map fun p => (p.1 + k, p.2 + k)
theorem mem_shift {k : Nat} {ts : Ties} {a b : Nat} : (a, b) ∈ shift k ts ↔ ∃ x y, (x, y) ∈ ts ∧ a = x + k ∧ b = y + k := by
  unfold shift
  simp only [List.mem_map, Prod.mk.injEq, Prod.exists]
  exact ⟨fun ⟨x, y, h, e1, e2⟩ => ⟨x, y, h, e1.symm, e2.symm⟩, fun ⟨x, y, h, e1, e2⟩ => ⟨x, y, h, e1.symm, e2.symm⟩⟩
theorem aside_reach {m : Nat} {ts us : Ties} (g : Good m ts) {a b : Nat} (r : Reach (ts ++ shift m us) a b) : (a < m → Reach ts a b) ∧ (m ≤ a → ∃ x y, a = x + m ∧ b = y + m ∧ Reach us x y) := by
  induction r with
  | refl a => exact ⟨fun _ => .refl a, fun h => ⟨a - m, a - m, by omega, by omega, .refl _⟩⟩
  | @step a b c e _ ih =>
    rcases List.mem_append.mp e with e | e
    · have hr : a < b ∧ b < m := g.rng _ e
      exact ⟨fun _ => .step e (ih.1 hr.2), fun h => by omega⟩
    · obtain ⟨x, y, h1, e1, e2⟩ := mem_shift.mp e
      refine ⟨fun h => by omega, fun _ => ?_⟩
      obtain ⟨x', y', e3, e4, r'⟩ := ih.2 (by omega)
      have : x' = y := by omega
      subst this
      exact ⟨x, y', e1, e4, .step h1 r'⟩
theorem aside_good {m n : Nat} {ts us : Ties} (g : Good m ts) (g2 : Good n us) (h : m + n ≤ 7) : Good (m + n) (ts ++ shift m us) := by
  refine ⟨h, fun p hp => ?_, ?_, fun a b c hb hc hne r => ?_⟩
  · rcases List.mem_append.mp hp with hp | hp
    · have := g.rng p hp; omega
    · obtain ⟨x, y, h1, e1, e2⟩ := mem_shift.mp (show (p.1, p.2) ∈ _ from hp)
      have : x < y ∧ y < n := g2.rng _ h1
      omega
  · rw [List.pairwise_append]
    refine ⟨g.asc, ?_, fun p hp q hq => ?_⟩
    · unfold shift
      rw [List.pairwise_map]
      exact g2.asc.imp fun {p q} z => by simp only; omega
    · obtain ⟨x, y, h1, e1, e2⟩ := mem_shift.mp (show (q.1, q.2) ∈ _ from hq)
      have := g.rng p hp
      omega
  · have k := aside_reach g r
    rcases List.mem_append.mp hb with hb | hb
    · have hb' : a < b ∧ b < m := g.rng _ hb
      rcases List.mem_append.mp hc with hc | hc
      · have hc' : a < c ∧ c < m := g.rng _ hc
        exact g.irr a b c hb hc hne (k.1 hc'.2)
      · obtain ⟨x, y, h1, e1, e2⟩ := mem_shift.mp hc
        omega
    · obtain ⟨x, y, h1, e1, e2⟩ := mem_shift.mp hb
      rcases List.mem_append.mp hc with hc | hc
      · have hc' : a < c ∧ c < m := g.rng _ hc
        omega
      · obtain ⟨x2, y2, h2, e3, e4⟩ := mem_shift.mp hc
        obtain ⟨x3, y3, e5, e6, r3⟩ := k.2 (by omega)
        have ex : x2 = x := by omega
        have ey : y3 = y := by omega
        have ez : x3 = y2 := by omega
        subst ex ey ez
        exact g2.irr x2 y3 x3 h1 h2 (by omega) r3
end K13

set_option maxRecDepth 100000
set_option maxHeartbeats 1000000
/-! Plain mathematics: what is left, worths, rows. -/
namespace K13
/-! ### numbers of bits -/
def pows (l : List Nat) : Nat := (l.map fun k => 2 ^ k).sum
theorem pows_cons (a : Nat) (l : List Nat) : pows (a :: l) = 2 ^ a + pows l := by unfold pows; rw [List.map_cons, List.sum_cons]
theorem pows_dvd : ∀ {l : List Nat} {a : Nat}, (∀ x ∈ l, a ≤ x) → 2 ^ a ∣ pows l
  | [], a, _ => ⟨0, rfl⟩
  | b :: l, a, h => by
    rw [pows_cons]
    exact Nat.dvd_add (Nat.pow_dvd_pow 2 (h b (by simp))) (pows_dvd fun x hx => h x (by simp [hx]))
theorem pows_bit : ∀ {l : List Nat}, l.Pairwise (· < ·) → ∀ j, (pows l).testBit j = decide (j ∈ l)
  | [], _, j => by simp [pows]
  | a :: l, h, j => by
    obtain ⟨h1, h2⟩ := List.pairwise_cons.mp h
    obtain ⟨q, hq⟩ := pows_dvd (l := l) (a := a + 1) fun x hx => h1 x hx
    have ih := pows_bit h2 j
    rw [pows_cons, Nat.add_comm, hq, Nat.two_pow_add_eq_or_of_lt (Nat.pow_lt_pow_right (by decide) (Nat.lt_succ_self a)), ← hq, Nat.testBit_or, ih, Nat.testBit_two_pow]
    by_cases e : a = j
    · subst e; simp
    · have e' : ¬ j = a := fun z => e z.symm
      simp [e, e']
theorem bits_ext {a b : Nat} (h : ∀ j, a.testBit j = b.testBit j) : a = b := Nat.eq_of_testBit_eq h
theorem and_eq_iff (b u : Nat) : b &&& u = u ↔ ∀ j, u.testBit j = true → b.testBit j = true := by
  constructor
  · intro h j hj
    rw [← h, Nat.testBit_and] at hj
    exact (Bool.and_eq_true_iff.mp hj).1
  · intro h
    refine bits_ext fun j => ?_
    rw [Nat.testBit_and]
    cases e : u.testBit j with
    | false => simp
    | true => rw [h j e]; rfl
/-- what a bite leaves, in numbers of bits -/
theorem add_or : ∀ (n a b : Nat), a ≤ n → a &&& b = 0 → a + b = a ||| b
  | 0, a, b, h, _ => by
    have : a = 0 := by omega
    subst this
    simp
  | n + 1, a, b, h, e => by
    by_cases z : a = 0
    · subst z; simp
    · have e2 : a / 2 &&& b / 2 = 0 := by rw [← Nat.and_div_two, e]
      have ih := add_or n (a / 2) (b / 2) (by omega) e2
      rw [← Nat.or_div_two] at ih
      have e3 : ¬ (a % 2 = 1 ∧ b % 2 = 1) := fun q => by
        have := Nat.and_mod_two_eq_one.mpr q
        rw [e] at this
        cases this
      have e4 := Nat.or_mod_two_eq_one (a := a) (b := b)
      omega
def cutN (b u : Nat) : Nat := b - (b &&& u)
theorem cut_eq (b u : Nat) : cutN b u = b ^^^ (b &&& u) := by
  unfold cutN
  have h : (b ^^^ (b &&& u)) + (b &&& u) = b := by
    have h1 : (b ^^^ (b &&& u)) &&& (b &&& u) = 0 := by
      refine bits_ext fun j => ?_
      simp only [Nat.testBit_and, Nat.testBit_xor, Nat.zero_testBit]
      cases b.testBit j <;> cases u.testBit j <;> rfl
    have h2 : (b ^^^ (b &&& u)) ||| (b &&& u) = b := by
      refine bits_ext fun j => ?_
      simp only [Nat.testBit_and, Nat.testBit_xor, Nat.testBit_or]
      cases b.testBit j <;> cases u.testBit j <;> rfl
    rw [add_or _ _ _ (Nat.le_refl _) h1, h2]
  omega
theorem cut_bit (b u j : Nat) : (cutN b u).testBit j = (b.testBit j && !u.testBit j) := by
  rw [cut_eq]
  simp only [Nat.testBit_and, Nat.testBit_xor]
  cases b.testBit j <;> cases u.testBit j <;> rfl
theorem cut_le (b u : Nat) : cutN b u ≤ b := Nat.sub_le _ _
theorem cut_lt {b u k : Nat} (h1 : b.testBit k = true) (h2 : u.testBit k = true) : cutN b u < b := by
  refine Nat.lt_of_le_of_ne (cut_le b u) fun e => ?_
  have := cut_bit b u k
  rw [e, h1, h2] at this
  cases this
theorem lt_two_pow_of {b n : Nat} (h : ∀ j, b.testBit j = true → j < n) : b < 2 ^ n := by
  refine Nat.lt_pow_two_of_testBit b fun i hi => ?_
  cases e : b.testBit i with
  | false => rfl
  | true => have := h i e; omega
theorem bit_lt {b n j : Nat} (h : b < 2 ^ n) (hj : b.testBit j = true) : j < n := by
  refine Nat.lt_of_not_le fun z => ?_
  have : b < 2 ^ j := Nat.lt_of_lt_of_le h (Nat.pow_le_pow_right (by decide) z)
  rw [Nat.testBit_lt_two_pow this] at hj
  cases hj

/-! ### the pieces of a number of bits -/
def bl (b : Nat) : Nat := if b = 0 then 0 else b.log2 + 1
def pcs (b : Nat) : List Nat := (List.range (bl b)).filter fun k => b.testBit k
theorem bl_bit {b j : Nat} (h : b.testBit j = true) : j < bl b := by
  unfold bl
  by_cases e : b = 0
  · subst e; simp at h
  · rw [if_neg e]
    exact bit_lt Nat.lt_log2_self h
theorem mem_pcs {b j : Nat} : j ∈ pcs b ↔ b.testBit j = true := by
  unfold pcs
  rw [List.mem_filter, List.mem_range]
  exact ⟨fun h => h.2, fun h => ⟨bl_bit h, h⟩⟩
theorem pcs_asc (b : Nat) : (pcs b).Pairwise (· < ·) := List.pairwise_lt_range.filter _
theorem asc_uniq {l m : List Nat} (hl : l.Pairwise (· < ·)) (hm : m.Pairwise (· < ·)) (h : ∀ x, x ∈ l ↔ x ∈ m) : l = m := by
  have n1 : l.Nodup := hl.imp fun {a b} z => Nat.ne_of_lt z
  have n2 : m.Nodup := hm.imp fun {a b} z => Nat.ne_of_lt z
  exact List.Perm.eq_of_pairwise (le := (· < ·)) (fun a b _ _ h1 h2 => by omega) hl hm ((List.perm_ext_iff_of_nodup n1 n2).mpr h)
theorem pcs_range {b n : Nat} (h : b < 2 ^ n) : (List.range n).filter (fun k => b.testBit k) = pcs b :=
  asc_uniq (List.pairwise_lt_range.filter _) (pcs_asc b) fun x => by
    rw [mem_pcs, List.mem_filter, List.mem_range]
    exact ⟨fun z => z.2, fun z => ⟨bit_lt h z, z⟩⟩
theorem pows_pcs (b : Nat) : pows (pcs b) = b := bits_ext fun j => by
  rw [pows_bit (pcs_asc b)]
  cases e : b.testBit j with
  | true => exact decide_eq_true (mem_pcs.mpr e)
  | false => exact decide_eq_false fun z => by rw [mem_pcs.mp z] at e; cases e
theorem pcs_inj {a b : Nat} (h : pcs a = pcs b) : a = b := by rw [← pows_pcs a, h, pows_pcs]
theorem pcs_lt {b n k : Nat} (h : b < 2 ^ n) (hk : k ∈ pcs b) : k < n := bit_lt h (mem_pcs.mp hk)
theorem pcs_len {b n : Nat} (h : b < 2 ^ n) : (pcs b).length ≤ n := by
  rw [← pcs_range h]
  have := List.length_filter_le (fun k => b.testBit k) (List.range n)
  rw [List.length_range] at this
  exact this

/-! ### what can be left -/
def Closed (ts : Ties) (b : Nat) : Prop := ∀ p ∈ ts, b.testBit p.2 = true → b.testBit p.1 = true
def closedB (ts : Ties) (b : Nat) : Bool := ts.all fun p => !b.testBit p.2 || b.testBit p.1
theorem closedB_iff {ts : Ties} {b : Nat} : closedB ts b = true ↔ Closed ts b := by
  unfold closedB Closed
  rw [List.all_eq_true]
  refine ⟨fun h p hp e => ?_, fun h p hp => ?_⟩
  · have := h p hp
    rw [e] at this
    simpa using this
  · cases e : b.testBit p.2 with
    | false => simp
    | true => rw [h p hp e]; simp
def lefts (m : Nat) (ts : Ties) : List Nat := (List.range (2 ^ m)).filter (closedB ts)
theorem mem_lefts {m : Nat} {ts : Ties} {b : Nat} : b ∈ lefts m ts ↔ b < 2 ^ m ∧ Closed ts b := by
  unfold lefts
  rw [List.mem_filter, List.mem_range, closedB_iff]
theorem lefts_asc (m : Nat) (ts : Ties) : (lefts m ts).Pairwise (· < ·) := List.pairwise_lt_range.filter _
theorem lefts_len (m : Nat) (ts : Ties) : (lefts m ts).length ≤ 2 ^ m := by
  unfold lefts
  have := List.length_filter_le (closedB ts) (List.range (2 ^ m))
  rw [List.length_range] at this
  exact this
theorem zero_left (m : Nat) (ts : Ties) : 0 ∈ lefts m ts := mem_lefts.mpr ⟨Nat.two_pow_pos m, fun p _ e => by simp at e⟩
theorem full_left {m : Nat} {ts : Ties} (g : Good m ts) : 2 ^ m - 1 ∈ lefts m ts := by
  refine mem_lefts.mpr ⟨by have := Nat.two_pow_pos m; omega, fun p hp _ => ?_⟩
  rw [Nat.testBit_two_pow_sub_one]
  have := g.rng p hp
  exact decide_eq_true (by omega)
/-- the pieces right under k by ties -/
def lowsOf (ts : Ties) (k : Nat) : List Nat := (ts.filter fun p => p.2 == k).map (·.1)
theorem mem_lowsOf {ts : Ties} {k x : Nat} : x ∈ lowsOf ts k ↔ (x, k) ∈ ts := by
  unfold lowsOf
  simp only [List.mem_map, List.mem_filter, beq_iff_eq, Prod.exists]
  exact ⟨fun ⟨a, b, ⟨h1, h2⟩, h3⟩ => by subst h2 h3; exact h1, fun h => ⟨x, k, ⟨h, rfl⟩, rfl⟩⟩
theorem lowsOf_asc {ts : Ties} (h : ts.Pairwise (fun p q => p.1 < q.1 ∨ (p.1 = q.1 ∧ p.2 < q.2))) (k : Nat) : (lowsOf ts k).Pairwise (· < ·) := by
  unfold lowsOf
  rw [List.pairwise_map]
  refine List.Pairwise.imp_of_mem (fun {p q} hp hq z => ?_) (h.filter _)
  simp only [List.mem_filter, beq_iff_eq] at hp hq
  omega
/-- piece by piece -/
def stepL (ts : Ties) (f : List Nat) (k : Nat) : List Nat := f ++ (f.filter fun b => b &&& pows (lowsOf ts k) == pows (lowsOf ts k)).map fun b => b ||| 2 ^ k
def leftsU (ts : Ties) (n : Nat) : List Nat := (List.range n).foldl (stepL ts) [0]
theorem leftsU_succ (ts : Ties) (n : Nat) : leftsU ts (n + 1) = stepL ts (leftsU ts n) n := by
  unfold leftsU
  rw [List.range_succ, List.foldl_append]; rfl
theorem leftsU_len (ts : Ties) : ∀ n, (leftsU ts n).length ≤ 2 ^ n
  | 0 => by simp [leftsU]
  | n + 1 => by
    have ih := leftsU_len ts n
    rw [leftsU_succ]
    unfold stepL
    rw [List.length_append, List.length_map]
    have := List.length_filter_le (fun b => b &&& pows (lowsOf ts n) == pows (lowsOf ts n)) (leftsU ts n)
    rw [Nat.pow_succ]
    omega
theorem under_iff {m : Nat} {ts : Ties} (g : Good m ts) (b k : Nat) : (b &&& pows (lowsOf ts k) == pows (lowsOf ts k)) = true ↔ ∀ x, (x, k) ∈ ts → b.testBit x = true := by
  rw [beq_iff_eq, and_eq_iff]
  refine ⟨fun h x hx => h x ?_, fun h j hj => h j ?_⟩
  · rw [pows_bit (lowsOf_asc g.asc k)]
    exact decide_eq_true (mem_lowsOf.mpr hx)
  · rw [pows_bit (lowsOf_asc g.asc k)] at hj
    exact mem_lowsOf.mp (of_decide_eq_true hj)
theorem or_pow_bit (b k j : Nat) : (b ||| 2 ^ k).testBit j = (b.testBit j || decide (k = j)) := by rw [Nat.testBit_or, Nat.testBit_two_pow]
theorem mem_leftsU {m : Nat} {ts : Ties} (g : Good m ts) : ∀ (n : Nat) (b : Nat), b ∈ leftsU ts n ↔ b < 2 ^ n ∧ Closed ts b
  | 0, b => by
    unfold leftsU
    simp only [List.range_zero, List.foldl_nil, List.mem_singleton, Nat.pow_zero]
    exact ⟨fun h => by subst h; exact ⟨by decide, fun p _ e => by simp at e⟩, fun h => by omega⟩
  | n + 1, b => by
    have ih := mem_leftsU g n
    rw [leftsU_succ]
    unfold stepL
    rw [List.mem_append, List.mem_map]
    constructor
    · rintro (h | ⟨a, ha, rfl⟩)
      · have := (ih b).mp h
        exact ⟨by rw [Nat.pow_succ]; omega, this.2⟩
      · rw [List.mem_filter, under_iff g] at ha
        obtain ⟨h1, h2⟩ := ha
        obtain ⟨h3, h4⟩ := (ih a).mp h1
        refine ⟨lt_two_pow_of fun j hj => ?_, fun p hp e => ?_⟩
        · rw [or_pow_bit, Bool.or_eq_true, decide_eq_true_eq] at hj
          rcases hj with hj | hj
          · have := bit_lt h3 hj; omega
          · omega
        · rw [or_pow_bit, Bool.or_eq_true, decide_eq_true_eq] at e ⊢
          rcases e with e | e
          · exact .inl (h4 p hp e)
          · exact .inl (h2 p.1 (by rw [e]; exact hp))
    · rintro ⟨h1, h2⟩
      cases e : b.testBit n with
      | false =>
        refine .inl ((ih b).mpr ⟨lt_two_pow_of fun j hj => ?_, h2⟩)
        have := bit_lt h1 hj
        have : j ≠ n := fun z => by rw [z, e] at hj; cases hj
        omega
      | true =>
        refine .inr ⟨cutN b (2 ^ n), ?_, ?_⟩
        · rw [List.mem_filter, under_iff g]
          refine ⟨(ih _).mpr ⟨lt_two_pow_of fun j hj => ?_, fun p hp hb => ?_⟩, fun x hx => ?_⟩
          · rw [cut_bit, Nat.testBit_two_pow, Bool.and_eq_true] at hj
            have h3 := bit_lt h1 hj.1
            have : j ≠ n := fun z => by simp [z] at hj
            omega
          · rw [cut_bit, Nat.testBit_two_pow, Bool.and_eq_true] at hb ⊢
            refine ⟨h2 p hp hb.1, ?_⟩
            have h3 := bit_lt h1 hb.1
            have := g.rng p hp
            have : ¬ n = p.2 := fun z => by simp [z] at hb
            simp
            omega
          · rw [cut_bit, Nat.testBit_two_pow, Bool.and_eq_true]
            have h3 : x < n := (g.rng _ hx).1
            exact ⟨h2 _ hx e, by simp; omega⟩
        · refine bits_ext fun j => ?_
          rw [or_pow_bit, cut_bit, Nat.testBit_two_pow]
          by_cases z : n = j
          · subst z; rw [e]; simp
          · simp [z]
theorem leftsU_nodup {m : Nat} {ts : Ties} (g : Good m ts) : ∀ n : Nat, (leftsU ts n).Nodup
  | 0 => by simp [leftsU]
  | n + 1 => by
    have ih := leftsU_nodup g n
    rw [leftsU_succ]
    unfold stepL
    rw [List.nodup_append]
    have hlt : ∀ a ∈ leftsU ts n, a.testBit n = false := fun a ha => Nat.testBit_lt_two_pow ((mem_leftsU g n a).mp ha).1
    refine ⟨ih, ?_, ?_⟩
    · refine List.Pairwise.map _ (R := fun a b => a ∈ leftsU ts n ∧ b ∈ leftsU ts n ∧ a ≠ b) (fun a b h e => h.2.2 (bits_ext fun j => ?_)) (List.Pairwise.imp_of_mem (fun {a b} ha hb z => ⟨(List.mem_filter.mp ha).1, (List.mem_filter.mp hb).1, z⟩) (ih.filter _))
      have h1 := congrArg (fun x => x.testBit j) e
      simp only [or_pow_bit] at h1
      by_cases z : n = j
      · subst z; rw [hlt a h.1, hlt b h.2.1]
      · simpa [z] using h1
    · intro a ha b hb e
      rw [List.mem_map] at hb
      obtain ⟨c, hc, rfl⟩ := hb
      have := hlt a ha
      rw [e, or_pow_bit] at this
      simp at this
/-- any ascending rearrangement is lefts -/
theorem sorted_lefts {m : Nat} {ts : Ties} (g : Good m ts) {l : List Nat} (hp : l.Perm (leftsU ts m)) (hs : l.Pairwise (· ≤ ·)) : l = lefts m ts := by
  have hn : l.Nodup := hp.nodup_iff.mpr (leftsU_nodup g m)
  refine asc_uniq (List.Pairwise.imp_of_mem (fun {a b} _ _ z => Nat.lt_of_le_of_ne z.1 z.2) (List.Pairwise.and hs hn)) (lefts_asc m ts) fun x => ?_
  rw [hp.mem_iff, mem_leftsU g, mem_lefts]
/-- a bite leaves what can be left, a lesser number -/
theorem bite_left {m : Nat} {ts : Ties} (g : Good m ts) {b k : Nat} (hb : b ∈ lefts m ts) (hk : k ∈ pcs b) : cutN b (up m ts k) ∈ lefts m ts ∧ cutN b (up m ts k) < b := by
  obtain ⟨h1, h2⟩ := mem_lefts.mp hb
  have hk' := mem_pcs.mp hk
  have hkm := bit_lt h1 hk'
  refine ⟨mem_lefts.mpr ⟨Nat.lt_of_le_of_lt (cut_le _ _) h1, fun p hp e => ?_⟩, cut_lt hk' ((up_iff g hkm k).mpr (.refl k))⟩
  rw [cut_bit, Bool.and_eq_true] at e ⊢
  refine ⟨h2 p hp e.1, ?_⟩
  cases z : (up m ts k).testBit p.1 with
  | false => rfl
  | true =>
    have r := (up_iff g hkm p.1).mp z
    rw [(up_iff g hkm p.2).mpr (r.trans (.one hp))] at e
    simp at e

/-! ### the least number that is none of some -/
theorem mex_ex (l : List Nat) : ∃ k, k ≤ l.length ∧ k ∉ l := by
  refine Classical.byContradiction fun h => ?_
  have h' : List.range (l.length + 1) ⊆ l := fun x hx => by
    refine Classical.byContradiction fun z => h ⟨x, ?_, z⟩
    have := List.mem_range.mp hx
    omega
  have := List.nodup_range.length_le_of_subset h'
  rw [List.length_range] at this
  omega
def mex (l : List Nat) : Nat := ((List.range (l.length + 1)).find? fun k => !l.contains k).getD 0
theorem mex_find (l : List Nat) : (List.range (l.length + 1)).find? (fun k => !l.contains k) = some (mex l) := by
  unfold mex
  obtain ⟨k, h1, h2⟩ := mex_ex l
  cases e : (List.range (l.length + 1)).find? (fun k => !l.contains k) with
  | some v => rfl
  | none =>
    rw [List.find?_eq_none] at e
    have := e k (List.mem_range.mpr (by omega))
    simp [h2] at this
theorem mex_not (l : List Nat) : mex l ∉ l := by
  have := List.find?_some (mex_find l)
  simpa using this
theorem mex_le (l : List Nat) : mex l ≤ l.length := by
  have := List.mem_range.mp (List.mem_of_find?_eq_some (mex_find l))
  omega
theorem mex_below {l : List Nat} {j : Nat} (h : j < mex l) : j ∈ l := by
  refine Classical.byContradiction fun z => ?_
  obtain ⟨i, hi, e, hb⟩ := List.find?_eq_some_iff_getElem.mp (mex_find l) |>.2
  have hi' : i < l.length + 1 := by rw [List.length_range] at hi; exact hi
  rw [List.getElem_range] at e
  have := hb j (by omega)
  rw [List.getElem_range] at this
  simp [z] at this
theorem mex_uniq {l : List Nat} {k : Nat} (h1 : k ∉ l) (h2 : ∀ j < k, j ∈ l) : mex l = k := by
  rcases Nat.lt_trichotomy (mex l) k with h | h | h
  · exact absurd (h2 _ h) (mex_not l)
  · exact h
  · exact absurd (mex_below h) h1
theorem mex_zero {l : List Nat} : mex l ≠ 0 ↔ 0 ∈ l := by
  constructor
  · intro h
    exact mex_below (Nat.pos_of_ne_zero h)
  · intro h e
    have := mex_not l
    rw [e] at this
    exact this h

/-! ### worths -/
def Wf (m : Nat) (ts : Ties) : Nat → Nat → Nat
  | 0, _ => 0
  | n + 1, b => mex ((pcs b).map fun k => Wf m ts n (cutN b (up m ts k)))
def W (m : Nat) (ts : Ties) (b : Nat) : Nat := Wf m ts (b + 1) b
theorem Wf_eq {m : Nat} {ts : Ties} (g : Good m ts) : ∀ (n k b : Nat), b ∈ lefts m ts → b < n → b < k → Wf m ts n b = Wf m ts k b
  | 0, _, _, _, h, _ => absurd h (Nat.not_lt_zero _)
  | _ + 1, 0, _, _, _, h => absurd h (Nat.not_lt_zero _)
  | n + 1, k + 1, b, hb, h1, h2 => by
    unfold Wf
    congr 1
    refine List.map_congr_left fun x hx => ?_
    have := bite_left g hb hx
    exact Wf_eq g n k _ this.1 (by omega) (by omega)
theorem W_eq {m : Nat} {ts : Ties} (g : Good m ts) {b : Nat} (hb : b ∈ lefts m ts) : W m ts b = mex ((pcs b).map fun k => W m ts (cutN b (up m ts k))) := by
  unfold W
  rw [Wf]
  congr 1
  refine List.map_congr_left fun x hx => ?_
  have := bite_left g hb hx
  exact Wf_eq g _ _ _ this.1 this.2 (Nat.lt_succ_self _)
theorem W_le {m : Nat} {ts : Ties} (g : Good m ts) {b : Nat} (hb : b ∈ lefts m ts) : W m ts b ≤ m := by
  rw [W_eq g hb]
  refine Nat.le_trans (mex_le _) ?_
  rw [List.length_map]
  exact pcs_len (mem_lefts.mp hb).1
theorem won_iff {m : Nat} {ts : Ties} (g : Good m ts) {b : Nat} (hb : b ∈ lefts m ts) : W m ts b ≠ 0 ↔ ∃ k ∈ pcs b, W m ts (cutN b (up m ts k)) = 0 := by
  rw [W_eq g hb, mex_zero, List.mem_map]
end K13

set_option maxRecDepth 100000
set_option maxHeartbeats 1000000
/-! Plain mathematics: ties by their low piece, ties of the pieces that are named. -/
namespace K13
abbrev Asc (ts : Ties) : Prop := ts.Pairwise (fun p q => p.1 < q.1 ∨ (p.1 = q.1 ∧ p.2 < q.2))
theorem asc_nodup {ts : Ties} (h : Asc ts) : ts.Nodup := h.imp fun {p q} z e => by subst e; omega
theorem asc_eq {ts us : Ties} (h1 : Asc ts) (h2 : Asc us) (h : ∀ p, p ∈ ts ↔ p ∈ us) : ts = us :=
  List.Perm.eq_of_pairwise (le := fun p q => p.1 < q.1 ∨ (p.1 = q.1 ∧ p.2 < q.2)) (fun a b _ _ x y => by omega) h1 h2 ((List.perm_ext_iff_of_nodup (asc_nodup h1) (asc_nodup h2)).mpr h)
def dirs (ps : Ties) (i : Nat) : List Nat := (ps.filter fun p => p.1 == i).map (·.2)
theorem mem_dirs {ps : Ties} {i h : Nat} : h ∈ dirs ps i ↔ (i, h) ∈ ps := by
  unfold dirs
  simp only [List.mem_map, List.mem_filter, beq_iff_eq, Prod.exists]
  exact ⟨fun ⟨a, b, ⟨h1, h2⟩, h3⟩ => by subst h2 h3; exact h1, fun h1 => ⟨i, h, ⟨h1, rfl⟩, rfl⟩⟩
theorem dirs_asc {ps : Ties} (h : Asc ps) (i : Nat) : (dirs ps i).Pairwise (· < ·) := by
  unfold dirs
  rw [List.pairwise_map]
  refine List.Pairwise.imp_of_mem (fun {p q} hp hq z => ?_) (h.filter _)
  simp only [List.mem_filter, beq_iff_eq] at hp hq
  omega
theorem dirs_snoc (ps : Ties) (p : Nat × Nat) (i : Nat) : dirs (ps ++ [p]) i = dirs ps i ++ (if p.1 = i then [p.2] else []) := by
  unfold dirs
  rw [List.filter_append, List.map_append]
  congr 1
  by_cases h : p.1 = i
  · simp [h]
  · simp [h]
theorem dirs_nil (i : Nat) : dirs [] i = [] := rfl
theorem dirs_len (ps : Ties) (i : Nat) : (dirs ps i).length ≤ ps.length := by
  unfold dirs
  rw [List.length_map]
  exact List.length_filter_le _ _
def flat (n : Nat) (g : Nat → List Nat) : Ties := (List.range n).flatMap fun i => (g i).map fun h => (i, h)
theorem mem_flat {n : Nat} {g : Nat → List Nat} {p : Nat × Nat} : p ∈ flat n g ↔ p.1 < n ∧ p.2 ∈ g p.1 := by
  unfold flat
  simp only [List.mem_flatMap, List.mem_range, List.mem_map]
  exact ⟨fun ⟨i, h1, h, h2, e⟩ => by subst e; exact ⟨h1, h2⟩, fun ⟨h1, h2⟩ => ⟨p.1, h1, p.2, h2, rfl⟩⟩
theorem flat_succ (n : Nat) (g : Nat → List Nat) : flat (n + 1) g = flat n g ++ (g n).map fun h => (n, h) := by
  unfold flat
  rw [List.range_succ, List.flatMap_append]
  simp
theorem flat_asc {n : Nat} {g : Nat → List Nat} (h : ∀ i, (g i).Pairwise (· < ·)) : Asc (flat n g) := by
  unfold flat
  rw [Asc, List.pairwise_flatMap]
  refine ⟨fun a _ => ?_, ?_⟩
  · rw [List.pairwise_map]
    exact (h a).imp fun {x y} z => Or.inr ⟨rfl, z⟩
  · refine List.Pairwise.imp_of_mem (R := (· < ·)) (fun {a b} _ _ hlt p hp q hq => ?_) List.pairwise_lt_range
    rw [List.mem_map] at hp hq
    obtain ⟨x, _, rfl⟩ := hp
    obtain ⟨y, _, rfl⟩ := hq
    exact Or.inl hlt
theorem flat_dirs {n : Nat} {ps : Ties} (ha : Asc ps) (hr : ∀ p ∈ ps, p.1 < n) : flat n (dirs ps) = ps := by
  refine asc_eq (flat_asc fun i => dirs_asc ha i) ha fun p => ?_
  rw [mem_flat, mem_dirs]
  exact ⟨fun h => h.2, fun h => ⟨hr p h, h⟩⟩
/-- the pieces that stand in ties, ascending -/
def rowOf (m : Nat) (ts : Ties) : List Nat := (List.range m).filter fun x => ts.any fun p => p.1 == x || p.2 == x
theorem rowOf_asc (m : Nat) (ts : Ties) : (rowOf m ts).Pairwise (· < ·) := List.pairwise_lt_range.filter _
theorem mem_rowOf {m : Nat} {ts : Ties} (hr : ∀ p ∈ ts, p.1 < p.2 ∧ p.2 < m) {x : Nat} : x ∈ rowOf m ts ↔ ∃ p ∈ ts, p.1 = x ∨ p.2 = x := by
  unfold rowOf
  rw [List.mem_filter, List.mem_range, List.any_eq_true]
  constructor
  · rintro ⟨_, p, hp, h⟩
    exact ⟨p, hp, by simpa using h⟩
  · rintro ⟨p, hp, h⟩
    have := hr p hp
    exact ⟨by omega, p, hp, by simpa using h⟩
theorem rowOf_len (m : Nat) (ts : Ties) : (rowOf m ts).length ≤ m := by
  unfold rowOf
  have := List.length_filter_le (fun x => ts.any fun p => p.1 == x || p.2 == x) (List.range m)
  rw [List.length_range] at this
  exact this
def rel (row : List Nat) (ts : Ties) : Ties := ts.map fun p => (row.idxOf p.1, row.idxOf p.2)
theorem idx_lt {row : List Nat} {x : Nat} (h : x ∈ row) : row.idxOf x < row.length := List.idxOf_lt_length_of_mem h
theorem idx_get {row : List Nat} {x : Nat} (h : x ∈ row) : row[row.idxOf x]? = some x := by
  rw [List.getElem?_eq_getElem (idx_lt h), List.getElem_idxOf]
theorem idx_mono {row : List Nat} (ha : row.Pairwise (· < ·)) {x y : Nat} (hx : x ∈ row) (hy : y ∈ row) (h : x < y) : row.idxOf x < row.idxOf y := by
  rcases Nat.lt_trichotomy (row.idxOf x) (row.idxOf y) with z | z | z
  · exact z
  · have h1 := idx_get hx
    rw [z, idx_get hy] at h1
    have := Option.some.inj h1
    omega
  · have := List.pairwise_iff_getElem.mp ha _ _ (idx_lt hy) (idx_lt hx) z
    rw [List.getElem_idxOf, List.getElem_idxOf] at this
    omega
structure Named (row : List Nat) (ts : Ties) : Prop where
  asc : row.Pairwise (· < ·)
  has : ∀ p ∈ ts, p.1 ∈ row ∧ p.2 ∈ row
theorem named_row {m : Nat} {ts : Ties} (hr : ∀ p ∈ ts, p.1 < p.2 ∧ p.2 < m) : Named (rowOf m ts) ts :=
  ⟨rowOf_asc m ts, fun p hp => ⟨(mem_rowOf hr).mpr ⟨p, hp, .inl rfl⟩, (mem_rowOf hr).mpr ⟨p, hp, .inr rfl⟩⟩⟩
theorem mem_rel {row : List Nat} {ts : Ties} {p : Nat × Nat} : p ∈ rel row ts ↔ ∃ q ∈ ts, p = (row.idxOf q.1, row.idxOf q.2) := by
  unfold rel
  rw [List.mem_map]
  exact ⟨fun ⟨q, h, e⟩ => ⟨q, h, e.symm⟩, fun ⟨q, h, e⟩ => ⟨q, h, e.symm⟩⟩
theorem rel_rng {row : List Nat} {ts : Ties} (n : Named row ts) (hr : ∀ p ∈ ts, p.1 < p.2) : ∀ p ∈ rel row ts, p.1 < p.2 ∧ p.2 < row.length := fun p hp => by
  obtain ⟨q, hq, rfl⟩ := mem_rel.mp hp
  exact ⟨idx_mono n.asc (n.has q hq).1 (n.has q hq).2 (hr q hq), idx_lt (n.has q hq).2⟩
theorem rel_asc {row : List Nat} {ts : Ties} (n : Named row ts) (ha : Asc ts) : Asc (rel row ts) := by
  unfold rel
  rw [Asc, List.pairwise_map]
  refine List.Pairwise.imp_of_mem (fun {p q} hp hq z => ?_) ha
  rcases z with z | ⟨z1, z2⟩
  · exact .inl (idx_mono n.asc (n.has p hp).1 (n.has q hq).1 z)
  · exact .inr ⟨by rw [z1], idx_mono n.asc (n.has p hp).2 (n.has q hq).2 z2⟩
theorem rel_reach {row : List Nat} {ts : Ties} (n : Named row ts) {i j : Nat} (r : Reach (rel row ts) i j) : Reach ts (row.getD i 0) (row.getD j 0) := by
  induction r with
  | refl a => exact .refl _
  | @step a b c e _ ih =>
    obtain ⟨q, hq, e2⟩ := mem_rel.mp e
    have h1 : row.getD a 0 = q.1 := by rw [show a = row.idxOf q.1 from congrArg Prod.fst e2, List.getD_eq_getElem?_getD, idx_get (n.has q hq).1]; rfl
    have h2 : row.getD b 0 = q.2 := by rw [show b = row.idxOf q.2 from congrArg Prod.snd e2, List.getD_eq_getElem?_getD, idx_get (n.has q hq).2]; rfl
    rw [h1]
    rw [h2] at ih
    exact .step hq ih
theorem rel_irr {row : List Nat} {ts : Ties} (n : Named row ts) (irr : ∀ a b c, (a, b) ∈ ts → (a, c) ∈ ts → c ≠ b → ¬ Reach ts c b) : ∀ a b c, (a, b) ∈ rel row ts → (a, c) ∈ rel row ts → c ≠ b → ¬ Reach (rel row ts) c b := by
  intro a b c hb hc hne r
  obtain ⟨p, hp, e1⟩ := mem_rel.mp hb
  obtain ⟨q, hq, e2⟩ := mem_rel.mp hc
  have a1 : a = row.idxOf p.1 := congrArg Prod.fst e1
  have b1 : b = row.idxOf p.2 := congrArg Prod.snd e1
  have a2 : a = row.idxOf q.1 := congrArg Prod.fst e2
  have c2 : c = row.idxOf q.2 := congrArg Prod.snd e2
  have h1 : row.getD b 0 = p.2 := by rw [b1, List.getD_eq_getElem?_getD, idx_get (n.has p hp).2]; rfl
  have h2 : row.getD c 0 = q.2 := by rw [c2, List.getD_eq_getElem?_getD, idx_get (n.has q hq).2]; rfl
  have ea : p.1 = q.1 := by
    have h3 := idx_get (n.has p hp).1
    rw [← a1, a2, idx_get (n.has q hq).1] at h3
    exact (Option.some.inj h3).symm
  have r' := rel_reach n r
  rw [h1, h2] at r'
  refine irr p.1 p.2 q.2 hp (by rw [ea]; exact hq) (fun z => hne ?_) r'
  rw [b1, c2, z]
theorem rel_back {row : List Nat} {ts : Ties} (n : Named row ts) : (rel row ts).map (fun p => (row.getD p.1 0, row.getD p.2 0)) = ts := by
  unfold rel
  rw [List.map_map]
  have : ts.map ((fun p => (row.getD p.1 0, row.getD p.2 0)) ∘ fun p => (row.idxOf p.1, row.idxOf p.2)) = ts.map id := List.map_congr_left fun p hp => by
    show (row.getD (row.idxOf p.1) 0, row.getD (row.idxOf p.2) 0) = p
    rw [List.getD_eq_getElem?_getD, List.getD_eq_getElem?_getD, idx_get (n.has p hp).1, idx_get (n.has p hp).2]
    rfl
  rw [this, List.map_id]
/-- names gathered one behind another -/
def addN (l : List Nat) (k : Nat) : List Nat := if k ∈ l then l else l ++ [k]
theorem mem_addN {l : List Nat} {k x : Nat} : x ∈ addN l k ↔ x ∈ l ∨ x = k := by
  unfold addN
  by_cases h : k ∈ l
  · rw [if_pos h]
    exact ⟨.inl, fun z => by rcases z with z | z; exact z; rw [z]; exact h⟩
  · rw [if_neg h, List.mem_append, List.mem_singleton]
theorem addN_nodup {l : List Nat} {k : Nat} (h : l.Nodup) : (addN l k).Nodup := by
  unfold addN
  by_cases z : k ∈ l
  · rw [if_pos z]; exact h
  · rw [if_neg z, List.nodup_append]
    exact ⟨h, by simp, fun a ha b hb e => z (by rw [List.mem_singleton] at hb; rw [← hb, ← e]; exact ha)⟩
def namesOf (ts : Ties) : List Nat := ts.foldl (fun l p => addN (addN l p.1) p.2) []
theorem namesOf_snoc (ts : Ties) (p : Nat × Nat) : namesOf (ts ++ [p]) = addN (addN (namesOf ts) p.1) p.2 := by
  unfold namesOf
  rw [List.foldl_append]; rfl
theorem fold_snoc {α : Type} {P : List α → Prop} (h0 : P []) (hs : ∀ l a, P l → P (l ++ [a])) (l : List α) : P l := by
  have : ∀ (r pre : List α), P pre → P (pre ++ r) := by
    intro r
    induction r with
    | nil => intro pre h; rw [List.append_nil]; exact h
    | cons a r ih =>
      intro pre h
      have := ih (pre ++ [a]) (hs pre a h)
      rw [List.append_assoc] at this
      exact this
  exact this l [] h0
theorem namesOf_nodup (ts : Ties) : (namesOf ts).Nodup := fold_snoc (P := fun ts => (namesOf ts).Nodup) List.nodup_nil (fun l p h => by rw [namesOf_snoc]; exact addN_nodup (addN_nodup h)) ts
theorem mem_namesOf (ts : Ties) : ∀ x, x ∈ namesOf ts ↔ ∃ p ∈ ts, p.1 = x ∨ p.2 = x := fold_snoc (P := fun ts => ∀ x, x ∈ namesOf ts ↔ ∃ p ∈ ts, p.1 = x ∨ p.2 = x) (fun x => by simp [namesOf]) (fun l p h x => by
  rw [namesOf_snoc, mem_addN, mem_addN, h]
  constructor
  · rintro ((⟨q, hq, e⟩ | e) | e)
    · exact ⟨q, by simp [hq], e⟩
    · exact ⟨p, by simp, .inl e.symm⟩
    · exact ⟨p, by simp, .inr e.symm⟩
  · rintro ⟨q, hq, e⟩
    rcases List.mem_append.mp hq with hq | hq
    · exact .inl (.inl ⟨q, hq, e⟩)
    · rw [List.mem_singleton] at hq
      subst hq
      rcases e with e | e
      · exact .inl (.inr e.symm)
      · exact .inr e.symm) ts
theorem namesOf_len {m : Nat} {ts : Ties} (hr : ∀ p ∈ ts, p.1 < p.2 ∧ p.2 < m) : (namesOf ts).length ≤ m := by
  have h : namesOf ts ⊆ List.range m := fun x hx => by
    obtain ⟨p, hp, e⟩ := (mem_namesOf ts x).mp hx
    have := hr p hp
    exact List.mem_range.mpr (by omega)
  have := (namesOf_nodup ts).length_le_of_subset h
  rw [List.length_range] at this
  exact this
theorem not_in_take {α : Type} {l : List α} {i : Nat} {x : α} (hn : l.Nodup) (h : l[i]? = some x) : x ∉ l.take i := fun hm => by
  obtain ⟨j, hj, e⟩ := List.getElem_of_mem hm
  rw [List.length_take] at hj
  rw [List.getElem_take] at e
  obtain ⟨hi, e2⟩ := List.getElem?_eq_some_iff.mp h
  have := (List.getElem_inj hn).mp (e.trans e2.symm)
  omega
/-- ints sorted: an ascending list of naturals -/
theorem sorted_nat {ys : List Int} {l row : List Nat} (hp : ys.Perm (l.map fun (k : Nat) => (k : Int))) (hs : ys.Pairwise (· ≤ ·)) (hn : l.Nodup) (ha : row.Pairwise (· < ·)) (hm : ∀ x, x ∈ l ↔ x ∈ row) : ys = row.map fun (k : Nat) => (k : Int) := by
  have h1 : l.Perm row := (List.perm_ext_iff_of_nodup hn (ha.imp fun {a b} z => Nat.ne_of_lt z)).mpr hm
  have h2 : (row.map fun (k : Nat) => (k : Int)).Pairwise (· ≤ ·) := by
    rw [List.pairwise_map]
    exact ha.imp fun {a b} z => by omega
  exact List.Perm.eq_of_pairwise (le := (· ≤ ·)) (fun a b _ _ x y => by omega) hs h2 (hp.trans (h1.map _))
end K13

set_option Elab.async false
set_option linter.all false
set_option maxRecDepth 100000
set_option maxHeartbeats 4000000
/-! Rules of our own over the layer. -/
namespace K13
open PySem PySem.Spec PyProof.Rows L2

/-! ### d.update(d2) -/
def rDUpd : V → List V → Hp → VK → Prop := fun x vs H Q => ∃ (a b : Addr) (kvs more : List (Key × V)), x = .ref a ∧ vs = [.ref b] ∧ a ≠ b ∧ H a = some (.dK kvs) ∧ H b = some (.dK more) ∧ kvs.length + more.length ≤ sizeLine ∧
  Q .non (upd H a (.dK (mergeK kvs more)))
theorem mt_dupd {X : Cx} : MtR X "dict.update" rDUpd := by
  intro pins s σ H x vs v us Q I rx rv h
  obtain ⟨a, b, kvs, more, ex, ev, hab, ha, hb, hz, q⟩ := h
  subst ex
  subst ev
  obtain rfl : v = Value.ref a := rx
  obtain ⟨u, eu, ru⟩ := Vals.one rv
  subst eu
  obtain rfl : u = Value.ref b := ru
  obtain ⟨z1, h1, xs, r1, d1⟩ := dk_of I.hok ha
  obtain ⟨z2, h2, ys, r2, d2⟩ := dk_of I.hok hb
  refine call_meetsIn PySem.F.slot_dict_update d1.typeIs PySem.F.entry_dict_update (PySem.F.args_dict_update_2 _ _) (meets_dict_update (mixKind X.prog X.w) a b hab h2)
    ⟨xs, ys, d1, d2, (by rw [← r1.length, ← r2.length]; exact hz), fun h' hm _ hs => ?_⟩
  have he : ∃ q, h'.get? a = some q := let ⟨q, _, _, hq, _⟩ := hm; ⟨q, hq⟩
  refine ⟨.non, upd H a (.dK (mergeK kvs more)), d_write (t' := s.toks) I (by rw [ha]; exact True.intro) hs he (dk_new ?_ h1 (r2.merge r1) hm), rfl, q⟩
  have := length_mergeK more kvs
  omega

/-! ### three comparisons in a chain -/
def tChain3 (r r' r'' : R2) (ta tb tc td : TE) : TE := fun σ H Q => ta σ H fun x H1 => tb σ H1 fun y H2 => r x y H2 fun z H3 => ∃ k, z = .bl k ∧
  (if k = true then tc σ H3 fun y' H4 => r' y y' H4 fun z' H5 => ∃ k', z' = .bl k' ∧ (if k' = true then td σ H5 fun y'' H6 => r'' y' y'' H6 Q else Q (.bl false) H5) else Q (.bl false) H3)
theorem pe_chain3 {X : Cx} {a b c d : Expr} {ta tb tc td : TE} {pos : Pos} {op op' op'' : CmpOp} {r r' r'' : R2} (ho : OpR X (compareOp op) r) (ho' : OpR X (compareOp op') r') (ho'' : OpR X (compareOp op'') r'') (ha : PE X a ta) (hb : PE X b tb) (hc : PE X c tc) (hd : PE X d td)
    (hm : lastMarks [op, op', op''] [b, c, d] = false := by with_unfolding_all rfl) : PE X (.Compare a [op, op', op''] [b, c, d] pos) (tChain3 r r' r'' ta tb tc td) := by
  refine ⟨fun pins s σ H Q I h => ?_⟩
  refine Compare_chain (thn (ha.run pins s σ H _ I h) fun v s1 ⟨x, H1, I1, r1, q1⟩ => chain_link (thn (hb.run pins s1 σ H1 _ I1 q1) fun u s2 ⟨y, H2, I2, r2, q2⟩ =>
    thn (ho pins s2 σ H2 x y v u _ I2 r1 r2 q2) fun d s3 ⟨z, H3, I3, r3, k, e, q3⟩ => ?_)) hm
  subst e
  cases r3
  refine wpAny_truthy_bool ?_
  cases k with
  | false => exact ite_ff ⟨.bl false, H3, I3, rfl, q3⟩
  | true =>
    refine ite_tt (chain_link (thn (hc.run pins s3 σ H3 _ I3 q3) fun w' s4 ⟨y', H4, I4, r4, q4⟩ => thn (ho' pins s4 σ H4 y y' u w' _ I4 r2 r4 q4) fun d2 s5 ⟨z2, H5, I5, r5, k2, e2, q5⟩ => ?_))
    subst e2
    cases r5
    refine wpAny_truthy_bool ?_
    cases k2 with
    | false => exact ite_ff ⟨.bl false, H5, I5, rfl, q5⟩
    | true => exact ite_tt (chain_last (thn (hd.run pins s5 σ H5 _ I5 q5) fun w2 s6 ⟨y2, H6, I6, r6, q6⟩ => ho'' pins s6 σ H6 y' y2 w' w2 Q I6 r4 r6 q6))

/-! ### f(k = v, ..), keywords alone -/
theorem pe_callK0 {X : Cx} {CX : CXT} {k : Nat} {f : Addr} {fd : FuncData} {ps ks : List Str} {sp : Sp} {E : XK} {x : Str} {p pos : Pos} {kws : List Keyword} {tk : TA} {g : List Value → List Value → List Value} {gV : List V → List V → List V}
    (F : FnOk X.prog X.w X.K X.mg X.base CX k f fd ps sp) (hr : Room k X.A) (hg : Gl X x) (hm : X.mg x = some (.ref f)) (hk : PySem.W.keepIn X.K (.ref f) = true) (hb : KBinds X.K fd ps ks g gV) (hx : Passes CX X E)
    (hkw : PK X kws tk) (hall : (backToKw pos (keywordEach kws X.env)).all (·.1.isSome) = true := by rfl) (hks : (backToKw pos (keywordEach kws X.env)).filterMap (·.1) = ks := by rfl)
    (hdb : (x == ("__debug__" : Str)) = false := by decide) (hpl : ((backTo pos (starEach [] X.env)).any (·.1) || (backToKw pos (keywordEach kws X.env)).any (·.1.isNone)) = false := by rfl) :
    PE X (.Call (.Name x p) [] kws pos) (tCallK sp gV E tNil tk) := by
  refine ⟨fun pins s σ H Q I h => ?_⟩
  refine wpAny_Call_Name_kw (ld_glob I hg hm ?_ hdb)
  refine PySem.W.callWith_KW0 (h₀ := X.base) I.ok.mod.kin hk hall ?_ hpl
  refine thn (hkw.run pos pins s σ H _ I h) fun ws s2 ⟨zs, H2, I2, rz, q2⟩ => ⟨I2.kIn, ?_⟩
  rw [hks]
  exact run_fnk (us := []) (vs := []) F hr hb hx I2 .nil rz q2

/-! ### t[::-1], a tuple -/
theorem adjust_rev (n : Nat) : Builtin.Slice.sliceAdjust none none (-1) (n : Int) = ((n : Int) - 1, -1) := by
  unfold Builtin.Slice.sliceAdjust
  rfl
theorem places_rev (n : Nat) : Builtin.Slice.slicePlaces ((n : Int) - 1) (-1) (-1) = n := by
  unfold Builtin.Slice.slicePlaces
  have h1 : ¬ ((-1 : Int) > 0) := by omega
  have h2 : (-(-1) : Int) = 1 := by decide
  simp only [h1, if_false, h2, Int.ediv_one]
  split <;> omega
theorem pick_rev (xs : Array Value) : ((List.range xs.size).filterMap fun (m : Nat) => xs[(((xs.size : Nat) : Int) - 1 + (m : Int) * (-1)).toNat]?).toArray = xs.toList.reverse.toArray := by
  congr 1
  have e : (fun (m : Nat) => xs[(((xs.size : Nat) : Int) - 1 + (m : Int) * (-1)).toNat]?) = (fun k => xs[k]?) ∘ fun m => xs.size - 1 - m := by
    funext m
    show _ = xs[xs.size - 1 - m]?
    have : (((xs.size : Nat) : Int) - 1 + (m : Int) * (-1)).toNat = xs.size - 1 - m := by omega
    rw [this]
  rw [e, ← List.filterMap_map, PySem.W.krv_range, List.filterMap_reverse, PySem.W.krv_all]
section
variable {prog : Program} {w : World} {A : Around} {E : Value → Shared → Prop} {s : Shared}
theorem sliceApplied_rev {sl : Addr} {vs : Value} {n : Nat} {Q : Int × Int × Nat → Shared → Prop} (hs : s.heap.IsSliceOf sl .none .none vs) (ps : IsPart vs (some (-1)))
    (h : Q ((n : Int) - 1, -1, n) s) : wpAny (model prog w) A (Builtin.Slice.sliceApplied (.ref sl) (pure (n : Int))) Q E s := by
  obtain ⟨os, hos, hcs, hds⟩ := id hs
  unfold Builtin.Slice.sliceApplied Builtin.Slice.sliceFields
  refine wpAny_bind (wpAny_bind (wpAny_field hos hds (x := .none) rfl (wpAny_bind (wpAny_field hos hds (x := .none) rfl (wpAny_bind (wpAny_field hos hds (x := vs) rfl (wpAny_pure ?_)))))))
  refine wpAny_bind (HT.slicePart_ ps ?_)
  show wpAny _ _ (if ((-1 : Int) == 0) = true then _ else _) _ _ s
  rw [if_neg (by decide)]
  refine wpAny_bind (slicePart_none (wpAny_bind (slicePart_none (wpAny_bind (wpAny_pure ?_)))))
  show wpAny _ _ (match Builtin.Slice.sliceAdjust none none (-1) (n : Int) with | (lo, hi) => pure (lo, (-1 : Int), Builtin.Slice.slicePlaces lo hi (-1))) _ _ s
  rw [adjust_rev n]
  show wpAny _ _ (pure ((n : Int) - 1, (-1 : Int), Builtin.Slice.slicePlaces ((n : Int) - 1) (-1) (-1))) _ _ s
  rw [places_rev]
  exact wpAny_pure h
theorem getItem_tuple_rev {t sl : Addr} {items : Array Value} {vs : Value} {Q : Value → Shared → Prop} (ht : IsTup s.heap t items) (hs : s.heap.IsSliceOf sl .none .none vs) (ps : IsPart vs (some (-1)))
    (h : Q (.ref s.heap.objs.size) { s with heap := s.heap.push { cls := .type "tuple", data := .seq items.toList.reverse.toArray } }) (hsz : items.size ≤ sizeLine) : wpAny (model prog w) A (getItem (.ref t) (.ref sl)) Q E s := by
  have htake : sizeOk (.seq items.toList.reverse.toArray) := by
    show items.toList.reverse.toArray.size ≤ sizeLine
    rw [List.size_toArray, List.length_reverse, Array.length_toList]
    exact hsz
  obtain ⟨os, hos, hcs, hds⟩ := id hs
  have hTs : s.TypeIs (.ref sl) "slice" := ⟨os, hos, hcs⟩
  unfold getItem
  try with_reducible refine wpAny_holding ?_
  first | refine wpAny_bind (wpAny_pure ?_) | skip
  refine wpAny_bind (wpAny_sequenceKey ht.typeIs (by decide) ?_)
  refine wpAny_bind (wpAny_callSpecial?_slot (name := Str.ofString "__getitem__") ht.typeIs PyProof.Rows.slot_tuple_getitem
    (wpAny_call_entry PyProof.Rows.slot_tuple_getitem ht.typeIs entry_tuple_getitem ?_ (args_tuple_getitem _ _)))
  show wpAny _ _ (Builtin.Tuple.tupleItemsOf (.ref t) >>= _) _ _ s
  refine wpAny_bind (tupleItemsOf_ ht ?_)
  refine wpAny_bind (wpAny_typeOf hTs ?_)
  rw [if_pos (by decide)]
  refine wpAny_bind (sliceApplied_rev hs ps ?_)
  have hno : ¬ ((((items.size : Nat) : Int) - 1 == 0 && (-1 : Int) == 1 && items.size == items.size) = true) := by
    intro q
    rw [Bool.and_eq_true, Bool.and_eq_true] at q
    exact absurd q.1.2 (by decide)
  show wpAny _ _ (if (((items.size : Nat) : Int) - 1 == 0 && (-1 : Int) == 1 && items.size == items.size) = true then _ else _) _ _ s
  rw [if_neg hno, pick_rev]
  first
    | exact wpAny_bind (m := Builtin.Tuple.tupleExact _) (wpAny_newObj_type (wpAny_pure ⟨_, rfl, wpAny_pure h⟩) htake)
    | exact wpAny_bind (m := Builtin.Tuple.tupleExact _) (wpAny_newObj_type (wpAny_bind (wpAny_pure (wpAny_pure ⟨_, rfl, wpAny_pure h⟩))) htake)
    | exact wpAny_bind (wpAny_bind (m := Builtin.Tuple.tupleExact _) (wpAny_newObj_type (wpAny_pure (wpAny_pure ⟨_, rfl, wpAny_pure h⟩)) htake))
    | exact wpAny_bind (wpAny_bind (m := Builtin.Tuple.tupleExact _) (wpAny_newObj_type (wpAny_pure ⟨_, rfl, wpAny_pure h⟩) htake))
end
def tRevT (K : PySem.W.Frag) (te : TE) : TE := fun σ H Q => te σ H fun x H1 => ∃ a xs, x = .ref a ∧ SqT K H1 a xs ∧ ∀ p, H1 p = none → Q (.ref p) (upd H1 p (.tup xs.reverse))
theorem pe_revT {X : Cx} {e : Expr} {te : TE} {k : Nat} {p1 p2 p3 pos : Pos} (he : PE X e te) : PE X (.Subscript e (.Slice none none (some (.UnaryOp .USub (.Constant (.int 1) k p1) p2)) p3) pos) (tRevT X.K te) := by
  refine ⟨fun pins s σ H Q I h => ?_⟩
  refine Subscript_ (thn (he.run pins s σ H _ I h) fun v s1 ⟨x, H1, I1, r1, q1⟩ => ?_)
  obtain ⟨a, xs, ex, hx, q⟩ := q1
  subst ex
  cases r1
  have hst : PO X (some (.UnaryOp .USub (.Constant (.int 1) k p1) p2)) (tPart (tUn (rU fun i => .int (-i)) (tC (.int 1)))) := po_some (pe_un un_neg pe_int)
  have hnn : PO X none (fun _ H Q => Q none H) := po_none
  refine wpAny_Slice ?_
  rw [evalPart_none]
  refine wpAny_pure ?_
  refine wpAny_pure ?_
  refine thn (hst.run pins s1 σ H1 (fun o H4 => o = some (-1) ∧ H4 = H1) I1 ⟨1, rfl, -1, rfl, rfl, rfl⟩) fun vs s4 ⟨o, H4, I4, ps, eo, e4⟩ => ?_
  subst eo e4
  have I5 : Inv X pins σ H4 { s4 with heap := s4.heap.push { cls := .type "slice", data := .fields #[.none, .none, vs] } } := I4.kept (t' := s4.toks) fun b ob q => Heap.get?_push_of_some _ q
  obtain ⟨its, r, ht, hz⟩ := I5.tuple hx
  have hlen := r.length
  show wpAny (model X.prog X.w) X.A (subscriptTail e (.Slice none none (some (.UnaryOp .USub (.Constant (.int 1) k p1) p2)) p3) (.ref a) (.ref s4.heap.objs.size)) (EP X pins σ Q) X.xe { s4 with heap := s4.heap.push { cls := .type "slice", data := .fields #[.none, .none, vs] } }
  refine tail_any (ops := [.ref a, .ref s4.heap.objs.size]) ht.typeIs (PyProof.Rows.slot_tuple_getitem.lookup) ?_ (by with_unfolding_all rfl)
  refine getItem_tuple_rev ht (Heap.IsSliceOf.new _ .none .none vs) ps ?_ (by rw [List.size_toArray]; omega)
  refine ⟨.ref _, _, I5.laid (t' := s4.toks) (o := .tup xs.reverse) (fun b ob q => Heap.get?_push_of_some _ q) (Nat.le_refl _) ?_, rfl, q _ (I5.hok.fresh (Nat.le_refl _))⟩
  exact ⟨by rw [List.length_reverse]; exact hz, _, r.reverse, IsTup.new _ _⟩
end K13

set_option Elab.async false
set_option linter.all false
set_option maxRecDepth 100000
set_option maxHeartbeats 4000000
/-! Rules of our own over the layer: sorted of dicts of ints, of tuples; list(d.values()). -/
namespace K13
open PySem PySem.Spec PyProof.Rows L2

/-! ### sorted(d), keys ints -/
theorem ints_at : ∀ {acc : List Value} {ks : List Int}, acc.length = ks.length → (∀ (j : Nat) (v : Value), acc[j]? = some v → ∃ (k : Int) (t : Tok), ks[j]? = some k ∧ v = Value.int k t) → IntsAre acc ks
  | [], [], _, _ => .nil
  | v :: acc, k :: ks, hl, h => by
    obtain ⟨k', t, e1, e2⟩ := h 0 v rfl
    have e3 : k = k' := Option.some.inj e1
    subst e3 e2
    exact .cons k t (ints_at (by simpa using hl) fun j u e => by simpa using h (j + 1) u (by simpa using e))
  | [], _ :: _, hl, _ => by simp at hl
  | _ :: _, [], hl, _ => by simp at hl
theorem cr_sortedDI {X : Cx} (hcalm : X.calm = true) : CallR X (.builtin "sorted") (fun xs H Q => ∃ (a : Addr) (kvs : List (Key × V)) (ks : List Int), xs = [.ref a] ∧ Rd H a (.dK kvs) ∧ kvs.map (·.1) = ks.map Sum.inl ∧
    ∀ (ys : List Int) (p : Addr), ys.Perm ks → ys.Pairwise (· ≤ ·) → H p = none → Q (.ref p) (upd H p (.lst (ys.map V.int)))) := by
  intro pins s σ H xs us Q I r q
  obtain ⟨a, kvs, ks, ex, hd, hks, q⟩ := q
  subst ex
  obtain ⟨u, eu, rx⟩ := vals1 r
  subst eu
  cases rx
  obtain ⟨z, lo, vs, rel, dd⟩ := dk_rd I.hok hd
  obtain ⟨ep, hat⟩ := dd.dictAt
  have hkeys : vs.map (·.1) = ks.map Sum.inl := rel.keys.symm.trans hks
  have hl : vs.length = ks.length := by
    have e := congrArg List.length hkeys
    rw [List.length_map, List.length_map] at e
    exact e
  have h16 : vs.length ≤ sizeLine := by rw [← rel.length]; exact z
  refine Calls.call_function_entry PyProof.Rows.kind_sorted PyProof.Rows.plain_sorted PyProof.Rows.entry_sorted (PyProof.Rows.args_sorted1 _) ?_
  unfold Builtin.«sorted»
  refine wpAny_bind (m := checkCount "sorted" 1 1 _) (wpAny_pure ?_)
  refine wpAny_bind (PySem.W.kdu_collect (A := X.A.in1) (PySem.W.kdl_dict (knd := mixKind X.prog X.w) (kvs := vs) (ep := ep) lo) (I.ok.hd hcalm) hat h16 fun h' tk acc hk hacc => ?_)
  have hal : acc.toList.length = ks.length := by rw [Array.length_toList, hacc.1, hl]
  have hS : IntsAre acc.toList ks := ints_at hal fun j v e => by
    obtain ⟨k, x, e1, e2⟩ := hacc.2 j v (by rw [← Array.getElem?_toList]; exact e)
    have e3 : (vs.map (·.1))[j]? = some k := by rw [List.getElem?_map, e1]; all_goals rfl
    rw [hkeys, List.getElem?_map] at e3
    cases e4 : ks[j]? with
    | none => rw [e4] at e3; cases e3
    | some y =>
      rw [e4] at e3
      have e5 : Sum.inl y = k := Option.some.inj e3
      subst e5
      obtain ⟨t, ev⟩ := Value.isInt_shape (k := y) (v := v) e2
      exact ⟨y, t, rfl, ev⟩
  have I1 : Inv X pins σ H { s with heap := h', toks := tk } := I.kept hk
  refine wpAny_bind (wpAny_newList ?_ (by rw [hal, ← hl]; exact h16))
  have hoL : (h'.push (seqObj "list" acc.toList.toArray 0)).get? h'.objs.size = some (seqObj "list" acc.toList.toArray 0) := Heap.get?_push_size _ rfl
  show wpAny _ _ _ _ _ { s with heap := h'.push (seqObj "list" acc.toList.toArray 0), toks := tk }
  refine wpAny_bind (wpAny_holding (wpAny_call_entry PyProof.Rows.slot_list_sort ⟨_, hoL, rfl⟩ PyProof.Rows.entry_list_sort
    (SrtO.list_sort_ord (s := { s with heap := h'.push (seqObj "list" acc.toList.toArray 0), toks := tk }) SrtO.swo_int hoL (by rw [hal, ← hl]; exact h16) (fun h2 => SrtO.ints_sortable hS h2) fun out h1 h2 => ⟨_, rfl, ?_⟩)
    (PyProof.Rows.args_list_sort _)))
  obtain ⟨k1, k2, k3⟩ := SrtO.ints_out hS h1 h2
  obtain ⟨e', he'⟩ := PyProof.Rows.sortedHeap_at (vs := acc.toList) (out := out.toArray) hoL
  have hlen : ((out.map SrtO.iv).map V.int).length ≤ sizeLine := by
    rw [List.length_map, k2.length_eq, ← hl]
    exact h16
  refine wpAny_pure ⟨_, rfl, .ref h'.objs.size, upd H h'.objs.size (.lst ((out.map SrtO.iv).map V.int)), I1.laid (t' := tk) (fun b u e => ?_) (Nat.le_refl _)
    (show ObjOk X.prog X.w _ _ _ (.lst ((out.map SrtO.iv).map V.int)) from ⟨hlen, out, e', vals_of_ints k1, he'⟩), rfl, q _ _ k2 k3 (I1.hok.fresh (Nat.le_refl _))⟩
  have hb : b < h'.objs.size := Heap.lt_size e
  rw [PyProof.Rows.sortedHeap_old (Nat.ne_of_lt hb) (by rw [size_push']; exact Nat.lt_succ_of_lt hb)]
  exact Heap.get?_push_of_some _ e

/-! ### list(d.values()) -/
def tListVals (te : TE) : TE := fun σ H Q => te σ H fun x H1 => ∃ (d : Addr) (kvs : List (Key × V)), x = .ref d ∧ H1 d = some (.dK kvs) ∧ ∀ p, H1 p = none → Q (.ref p) (upd H1 p (.lst (kvs.map (·.2))))
theorem vals_at : ∀ {acc : List Value} {xs : List V}, acc.length = xs.length → (∀ (j : Nat) (v : Value), acc[j]? = some v → ∃ x, xs[j]? = some x ∧ RelV x v) → Vals xs acc
  | [], [], _, _ => .nil
  | v :: acc, x :: xs, hl, h => by
    obtain ⟨y, e1, e2⟩ := h 0 v rfl
    have e3 : x = y := Option.some.inj e1
    subst e3
    exact .cons e2 (vals_at (by simpa using hl) fun j u e => by simpa using h (j + 1) u (by simpa using e))
  | [], _ :: _, hl, _ => by simp at hl
  | _ :: _, [], hl, _ => by simp at hl
theorem pe_listVals {X : Cx} {e : Expr} {te : TE} {p apos cpos pos : Pos} (hc : X.calm = true) (he : PE X e te) (hg : Gl X "list") (hm : X.mg "list" = none) (hv : bootBuiltins "list" = some (.type "list")) (hbase : attributeBase e "values" X.env (eval e X.env) = eval e X.env := by rfl) (hline : (apos.endLine == cpos.line) = true := by rfl)
    (hs : starEach [.Call (.Attribute e "values" apos) [] [] cpos] X.env = (false, eval (.Call (.Attribute e "values" apos) [] [] cpos) X.env) :: starEach [] X.env := by rfl) :
    PE X (.Call (.Name "list" p) [.Call (.Attribute e "values" apos) [] [] cpos] [] pos) (tListVals te) := by
  refine ⟨fun pins s σ H Q I hq => ?_⟩
  refine wpAny_Call_Name_kw (ld_blt I hg hm hv ?_)
  refine PyProof.Rows.callWith_type1 ?_ hs rfl
  rw [hs]
  show wpAny _ _ (spliced ((false, eval (.Call (.Attribute e "values" apos) [] [] cpos) X.env) :: backTo pos (starEach [] X.env))) _ _ s
  refine Calls.spliced_cons ?_
  refine wpAny_Call_method (T := "dict") (id := "dict.values") hbase rfl hline F.plainAttrs_dict F.slot_dict_values F.type_dict_values (thn (he.run pins s σ H _ I hq) fun u s1 ⟨x, H1, I1, rx, d, kvs, ex, hd, q⟩ => ?_)
  subst ex
  obtain rfl : u = Value.ref d := rx
  obtain ⟨hz, hs0, vs, kv, hdo⟩ := I1.hok d _ hd
  obtain ⟨ep, hat⟩ := hdo.dictAt
  have lk : kvs.length = vs.length := Paired.length kv
  have I2 : Inv X pins σ H1 { s1 with heap := s1.heap.push { cls := .type "dict_values", data := .fields #[.ref d] } } := I1.kept (t' := s1.toks) fun b ob q => Heap.get?_push_of_some _ q
  refine ⟨hdo.typeIs, hdo.mapOf.noDict, ?_⟩
  show wpAny _ _ (callWith cpos (.builtin "dict.values") [.ref d] [] []) _ X.xe s1
  refine method_meetsIn F.slot_dict_values F.entry_dict_values rfl (PySem.evalArgs_none ⟨rfl, hdo.typeIs, F.args_dict_values_1 _, _, meets_dict_values (mixKind X.prog X.w) d hs0, ⟨vs, hdo⟩, ?_⟩)
  refine Calls.spliced_nil ?_
  refine PySem.W.kdl_call (PySem.W.kdl_values (knd := mixKind X.prog X.w) (kvs := vs) (ep := ep) (r := s1.heap.objs.size) (d := d)) (I1.ok.hd hc) ⟨⟨_, Heap.get?_push_size _ rfl, rfl, rfl⟩, hat.push _⟩ (by omega) fun h' tk acc c' hk hD hacc => ?_
  have hva : Vals (kvs.map (·.2)) acc.toList := vals_at (by rw [Array.length_toList, hacc.1, List.length_map]; omega) fun j v ej => by
    obtain ⟨k, hj⟩ := hacc.2 j v (by rw [← Array.getElem?_toList]; exact ej)
    obtain ⟨x, h1, h2⟩ := KV.at' kv hj
    exact ⟨x, by rw [List.getElem?_map, h1]; rfl, h2⟩
  refine ⟨.ref _, upd H1 _ (.lst (kvs.map (·.2))), I2.laid (t' := tk) hk (Nat.le_refl _)
    (show ObjOk X.prog X.w _ _ _ (.lst (kvs.map (·.2))) from ⟨by rw [List.length_map]; exact hz, acc.toList, c', hva, by rw [Array.toArray_toList]; exact hD⟩), rfl, q _ (I2.hok.fresh (Nat.le_refl _))⟩

/-! ### tuples of ints compared -/
def TIs (h : Heap) (v : Value) (ns : List Int) : Prop := ∃ (a : Addr) (items : Array Value), v = .ref a ∧ IsTup h a items ∧ IntsAre items.toList ns
theorem TIs.keeps {h h' : Heap} {v : Value} {ns : List Int} (x : TIs h v ns) (k : ∀ b o, h.get? b = some o → o.cls = .type "tuple" → h'.get? b = some o) : TIs h' v ns := by
  obtain ⟨a, items, e, ⟨o, h1, h2, h3⟩, i⟩ := x
  exact ⟨a, items, e, ⟨o, k a o h1 h2, h2, h3⟩, i⟩
section
variable {prog : Program} {w : World} {A : Around} {E : Value → Shared → Prop} {s : Shared}
theorem lt_one {v u : Value} {ns ms : List Int} {Q : Bool → Shared → Prop} (hu : A.units < cLine) (hv : TIs s.heap v ns) (hw : TIs s.heap u ms) (h : Q (HT.lexLt ns ms) s) : wpAny (model prog w) A (keyLt' oneType' v u) Q E s := by
  obtain ⟨l, items, rfl, hl, hi⟩ := hv
  obtain ⟨b, items2, rfl, hb, hj⟩ := hw
  obtain ⟨⟨cls, dd, data, sl⟩, ho, hc, n, hd⟩ := id hl
  obtain ⟨⟨cls2, dd2, data2, sl2⟩, ho2, hc2, n2, hd2⟩ := id hb
  simp only at hc hd hc2 hd2
  subst hc hd hc2 hd2
  rw [keyLt'_oneType, oneLt'_eq]
  simp only [if_true]
  refine wpAny_bind (wpAny_cRoomFor hu ?_)
  refine wpAny_bind (wpAny_callSpecialIfBound?_slot hl.typeIs PySem.F.slot_tuple_lt (call_meets PySem.F.slot_tuple_lt hl.typeIs PySem.F.entry_tuple_lt (PySem.F.args_tuple_lt_2 _ _) (HT.tuple_lt_ints l b items items2 n n2 dd dd2 sl sl2 ns ms hi hj) ⟨ho, ho2, ?_⟩))
  exact wpAny_truthy_bool h
theorem kfirsts : ∀ (vs : List Value), (∀ v ∈ vs, ∃ a items, v = Value.ref a ∧ IsTup s.heap a items) → ∃ fs : List (Option Value), fs.length = vs.length ∧ (∀ (a : Addr) (items : Array Value), vs[0]? = some (.ref a) → IsTup s.heap a items → fs[0]? = some items[0]?) ∧
    ∀ (M : Model) (Q : List (Option Value) → Shared → Prop) (E : Value → Shared → Prop), Q fs s → wpAny M A (vs.mapM firstOfTuple') Q E s
  | [], _ => ⟨[], rfl, (fun a items h => by cases h), fun M Q E h => by rw [List.mapM_nil]; exact wpAny_pure h⟩
  | v :: vs, h => by
    obtain ⟨fs, h1, _, h3⟩ := kfirsts vs fun u hu => h u (List.mem_cons_of_mem _ hu)
    obtain ⟨a, items, e, hT⟩ := h v List.mem_cons_self
    subst e
    obtain ⟨o, ho, hc, n, hd⟩ := id hT
    refine ⟨items[0]? :: fs, by rw [List.length_cons, List.length_cons, h1], fun b items2 e hb => ?_, fun M Q E hq => ?_⟩
    · have e2 : a = b := Value.ref.inj (Option.some.inj e)
      subst e2
      obtain ⟨o2, ho2, hc2, n2, hd2⟩ := hb
      rw [ho] at ho2
      cases ho2
      rw [hd] at hd2
      cases hd2
      rfl
    · rw [List.mapM_cons]
      refine wpAny_bind ?_
      rw [PySem.W.kas_first_eq]
      refine wpAny_bind (PySem.W.Looks.here (show PySem.W.Looks M s.heap (typeOf (.ref a)) o.cls from (PySem.W.Looks.ld ho).andThen .now) ?_)
      rw [hc, if_neg (by first | decide | simp)]
      refine wpAny_bind (listItems_at ho hd (wpAny_pure ?_))
      exact wpAny_bind (h3 M (fun bs s' => wpAny M A (pure (items[0]? :: bs)) Q E s') E (wpAny_pure hq))
theorem kind_one {vs : List Value} {Q : SortKind → Shared → Prop} (h2 : 2 ≤ vs.length) (hT : ∀ v ∈ vs, ∃ a items, v = Value.ref a ∧ IsTup s.heap a items) (h0 : ∀ (a : Addr) (items : Array Value), vs[0]? = some (.ref a) → IsTup s.heap a items → items[0]? = none) (h : Q oneType' s) :
    wpAny (model prog w) A (keyKind' vs.toArray) Q E s := by
  obtain ⟨fs, hl, hf, hm⟩ := kfirsts (A := A) (s := s) vs hT
  obtain ⟨v₁, v₂, rest, rfl⟩ : ∃ v₁ v₂ rest, vs = v₁ :: v₂ :: rest := by
    match vs, h2 with
    | [], h2 => simp at h2
    | [_], h2 => simp at h2
    | v₁ :: v₂ :: rest, _ => exact ⟨v₁, v₂, rest, rfl⟩
  obtain ⟨a, items, e, ha⟩ := hT v₁ List.mem_cons_self
  subst e
  have hf0 := hf a items rfl ha
  rw [h0 a items rfl ha] at hf0
  obtain ⟨fr, rfl⟩ : ∃ fr, fs = none :: fr := by
    match fs, hf0 with
    | f :: fr, e => exact ⟨fr, by rw [Option.some.inj e]⟩
  rw [kat_kind_eq, List.mapM_toArray, map_eq_pure_bind]
  refine wpAny_bind (wpAny_bind (hm _ _ _ (wpAny_pure ?_)))
  rw [if_neg (by simp), if_neg (by simp)]
  rw [oneTypeOnly'_eq, List.mapM_toArray, map_eq_pure_bind]
  refine wpAny_bind (wpAny_bind (wpAny_bind (PySem.W.kas_mapM (r := Value.type "tuple") _ (fun v hv Q' hq => ?_) (wpAny_pure ?_))))
  · obtain ⟨b, its, e, hb⟩ := hT v hv
    subst e
    exact wpAny_typeOf hb.typeIs hq
  · have hall : ((List.map (fun _ => Value.type "tuple") (Value.ref a :: v₂ :: rest)).toArray.all fun x => x == Value.type "tuple") = true := by
      simp only [List.all_toArray, List.all_map, List.all_eq_true]
      intro _ _
      rfl
    have h0' : (List.map (fun _ => Value.type "tuple") (Value.ref a :: v₂ :: rest)).toArray[0]? = some (Value.type "tuple") := by simp
    rw [h0']
    simp only [hall, if_true]
    exact wpAny_pure (wpAny_pure h)
theorem tups_sortable {a : Addr} {vs : List Value} {k : Value → List Int} (h2 : 2 ≤ vs.length) (hu : A.units < cLine) (hv : ∀ v ∈ vs, TIs s.heap v (k v)) (h0 : ∀ v, vs[0]? = some v → k v = []) (ha : ∀ o, s.heap.get? a = some o → o.cls ≠ .type "tuple") :
    SrtO.SortableO prog w A s a vs fun v u => HT.lexLt (k v) (k u) := by
  intro h' keep
  have hv' : ∀ v ∈ vs, TIs h' v (k v) := fun v hm => (hv v hm).keeps fun b o e c => keep b o (fun z => by subst z; exact ha o e c) e
  refine ⟨oneType', fun Q E hq => ?_, fun p q hp hq => ?_⟩
  · refine kind_one (s := { s with heap := h' }) h2 (fun v hm => ?_) (fun b items e hb => ?_) hq
    · obtain ⟨b, its, e, hb, _⟩ := hv' v hm
      exact ⟨b, its, e, hb⟩
    · have e0 := h0 _ e
      obtain ⟨b2, its, e2, hb2, hi⟩ := hv' _ (List.mem_of_getElem? e)
      have e3 : b = b2 := Value.ref.inj e2
      subst e3
      rw [e0] at hi
      obtain ⟨o, ho, hc, n, hd⟩ := hb
      obtain ⟨o2, ho2, hc2, n2, hd2⟩ := hb2
      have ho : h'.get? b = some o := ho
      have ho2 : h'.get? b = some o2 := ho2
      rw [ho] at ho2
      cases ho2
      rw [hd] at hd2
      cases hd2
      have : items.toList = [] := by cases hx : items.toList with
        | nil => rfl
        | cons x xs => rw [hx] at hi; cases hi
      rw [← Array.getElem?_toList, this]
      rfl
  · exact lt_one (s := { s with heap := h' }) (Q := fun r s' => s' = { s with heap := h' } ∧ r = HT.lexLt (k p.1) (k q.1)) (E := fun _ _ => False) hu (hv' p.1 hp) (hv' q.1 hq) ⟨rfl, rfl⟩
end
end K13

set_option Elab.async false
set_option linter.all false
set_option maxRecDepth 100000
set_option maxHeartbeats 4000000
/-! Rules of our own over the layer: sorted of tuples of ints, of pairs (tuple of ints, int). -/
namespace K13
open PySem PySem.Spec PyProof.Rows L2

/-! ### tuples of ints as data -/
theorem ints_reads {h : Heap} : ∀ {vs : List Value} {ns : List Int}, IntsAre vs ns → ∃ as, ReadsAll h vs (ns.map PyData.int) as
  | _, _, .nil => ⟨_, .nil⟩
  | _, _, .cons n t r => by
    obtain ⟨as, q⟩ := ints_reads (h := h) r
    exact ⟨_, .cons (.int n t) q⟩
theorem TIs.reads {h : Heap} {v : Value} {ns : List Int} (x : TIs h v ns) : ∃ as, Reads h v (.tuple (ns.map PyData.int)) as := by
  obtain ⟨a, items, rfl, ⟨o, ho, hc, n, hd⟩, i⟩ := x
  obtain ⟨as, q⟩ := ints_reads (h := h) i
  exact ⟨as, .tuple ho hc hd q⟩
theorem ints_eqv : ∀ ns ms : List Int, PyData.eqvAll (ns.map PyData.int) (ms.map PyData.int) = decide (ns = ms)
  | [], [] => by simp [PyData.eqvAll]
  | [], m :: ms => by simp [PyData.eqvAll]
  | n :: ns, [] => by simp [PyData.eqvAll]
  | n :: ns, m :: ms => by
    rw [List.map_cons, List.map_cons]
    simp only [PyData.eqvAll, PyData.eqv, ints_eqv ns ms]
    by_cases h : n = m
    · subst h; simp
    · simp [h]
theorem ints_lay : ∀ ns : List Int, PyData.canLayAll0 (ns.map PyData.int) = true
  | [] => by simp [PyData.canLayAll0]
  | n :: ns => by simp [PyData.canLayAll0, PyData.canLay0, ints_lay ns]
theorem ints_depth : ∀ ns : List Int, PyData.depthAll (ns.map PyData.int) = 0
  | [] => by simp [PyData.depthAll]
  | n :: ns => by simp [PyData.depthAll, PyData.depth, ints_depth ns]
/-- a pair: a tuple of ints, an int -/
def TPr (h : Heap) (v : Value) (k : List Int × Int) : Prop := ∃ (a : Addr) (u1 : Value) (t : Tok), v = .ref a ∧ IsTup h a #[u1, .int k.2 t] ∧ TIs h u1 k.1
theorem TPr.keeps {h h' : Heap} {v : Value} {k : List Int × Int} (x : TPr h v k) (kp : ∀ b o, h.get? b = some o → o.cls = .type "tuple" → h'.get? b = some o) : TPr h' v k := by
  obtain ⟨a, u1, t, e, ⟨o, h1, h2, h3⟩, i⟩ := x
  exact ⟨a, u1, t, e, ⟨o, kp a o h1 h2, h2, h3⟩, i.keeps kp⟩
section
variable {prog : Program} {w : World} {A : Around} {E : Value → Shared → Prop} {s : Shared}
theorem lt_pr {v u : Value} {k j : List Int × Int} {Q : Bool → Shared → Prop} (hu : A.units + 1 < cLine) (hv : TPr s.heap v k) (hw : TPr s.heap u j) (hd : k.1 = j.1 → k.2 = j.2) (h : Q (HT.lexLt k.1 j.1) s) : wpAny (model prog w) A (keyLt' (tuples' false) v u) Q E s := by
  obtain ⟨a, u1, t, rfl, ⟨o, ho, hc, n, hdd⟩, i⟩ := hv
  obtain ⟨b, w1, t', rfl, ⟨o', ho', hc', n', hdd'⟩, i'⟩ := hw
  refine PySem.W.kat_lt ho hdd ho' hdd' ?_
  show PySem.W.KatLex prog w A false (decide (2 < 2)) Q [(u1, w1), (.int k.2 t, .int j.2 t')] 0 s
  obtain ⟨as, r1⟩ := i.reads
  obtain ⟨bs, r2⟩ := i'.reads
  have e1 : SeqAt.EqAt A s u1 w1 (decide (k.1 = j.1)) := by
    have := SeqAt.eqAt_reads _ _ A s u1 w1 as bs r1 r2 (by simp only [PyData.canLay0]; exact ints_lay _) (by simp only [PyData.canLay0]; exact ints_lay _) (by simp only [PyData.depth, ints_depth]; omega)
    simp only [PyData.eqv, ints_eqv] at this
    exact this
  refine PySem.W.kat_cons (e1 prog w _ _ ?_)
  refine PySem.W.kat_go (fun e1 => ?_) (fun e1 => ?_)
  · have ex : k.1 = j.1 := of_decide_eq_true e1
    have ey := hd ex
    have hz : HT.lexLt k.1 j.1 = false := by rw [ex]; exact (NtL.swo_lexL (fun x : List Int => x)).refl j.1
    rw [hz] at h
    refine PySem.W.kat_yes (PySem.W.kat_cons (SeqAt.EqAt.int_int k.2 t j.2 t' prog w _ _ ?_))
    refine PySem.W.kat_go (fun e2 => PySem.W.kat_yes (PySem.W.kat_nil h)) (fun e2 => ?_)
    rw [ey] at e2
    simp at e2
  · refine PySem.W.kat_no ?_
    show wpAny (model prog w) A (oneLt' false u1 w1) Q (fun _ _ => False) s
    obtain ⟨l, items, rfl, hl, hi⟩ := i
    obtain ⟨l', items', rfl, hl', hi'⟩ := i'
    exact PySem.W.kat_one _ _ (HT.lt_tupInts hl hl' hi hi' (by omega) h)
theorem prs_firsts {vs : List Value} {k : Value → List Int × Int} (hv : ∀ v ∈ vs, TPr s.heap v (k v)) : ∃ fs, PySem.W.KatTups s.heap vs fs ∧ fs.length = vs.length ∧ ∀ f ∈ fs, ∃ ns, TIs s.heap f ns := by
  induction vs with
  | nil => exact ⟨[], PySem.W.KatTups.nil, rfl, fun f h => by cases h⟩
  | cons v vs ih =>
    obtain ⟨fs, h1, h2, h3⟩ := ih fun u hu => hv u (List.mem_cons_of_mem _ hu)
    obtain ⟨a, u1, t, rfl, ⟨o, ho, hc, n, hd⟩, i⟩ := hv v List.mem_cons_self
    refine ⟨u1 :: fs, PySem.W.KatTups.cons ho hc hd rfl h1, by rw [List.length_cons, List.length_cons, h2], fun f hf => ?_⟩
    rcases List.mem_cons.mp hf with e | hf
    · rw [e]; exact ⟨_, i⟩
    · exact h3 f hf
theorem prs_sortable {a : Addr} {vs : List Value} {k : Value → List Int × Int} (h2 : 2 ≤ vs.length) (hu : A.units + 1 < cLine) (hv : ∀ v ∈ vs, TPr s.heap v (k v)) (hd : ∀ v ∈ vs, ∀ u ∈ vs, (k v).1 = (k u).1 → (k v).2 = (k u).2) (ha : ∀ o, s.heap.get? a = some o → o.cls ≠ .type "tuple") :
    SrtO.SortableO prog w A s a vs fun v u => HT.lexLt (k v).1 (k u).1 := by
  intro h' keep
  have hv' : ∀ v ∈ vs, TPr h' v (k v) := fun v hm => (hv v hm).keeps fun b o e c => keep b o (fun z => by subst z; exact ha o e c) e
  refine ⟨tuples' false, fun Q E hq => ?_, fun p q hp hq => ?_⟩
  · obtain ⟨fs, h1, h3, h4⟩ := prs_firsts (s := { s with heap := h' }) hv'
    refine PySem.W.kat_kind (T := .type "tuple") h1 (by omega) (fun f hm => ?_) (by rfl) ?_
    · obtain ⟨ns, b, items, rfl, ⟨o, ho, hc, n, hdd⟩, _⟩ := h4 f hm
      rw [← hc]
      exact (PySem.W.Looks.ld ho).andThen .now
    · have e : (Value.type "tuple" != Value.type "tuple") = false := by first | decide +kernel | rfl | decide
      rw [e]
      exact hq
  · exact lt_pr (s := { s with heap := h' }) (Q := fun r s' => s' = { s with heap := h' } ∧ r = HT.lexLt (k p.1).1 (k q.1).1) (E := fun _ _ => False) hu (hv' p.1 hp) (hv' q.1 hq) (hd _ hp _ hq) ⟨rfl, rfl⟩
end

/-! ### as rules of the layer -/
/-- sorted(xs), tuples of ints, the first one empty -/
def rSortT1 (K : PySem.W.Frag) : List V → Hp → VK → Prop := fun vs H Q => ∃ (a : Addr) (xs : List V) (k : V → List Int), vs = [V.ref a] ∧ SqL K H a xs ∧ (∀ x ∈ xs, ∃ t, x = V.ref t ∧ SqT K H t ((k x).map V.int)) ∧ (∀ x, xs[0]? = some x → k x = []) ∧
  ∀ (ys : List V) (p : Addr), ys.Perm xs → ys.Pairwise (fun x y => HT.lexLt (k y) (k x) = false) → H p = none → Q (.ref p) (upd H p (.lst ys))
/-- sorted(xs), pairs of a tuple of ints and an int, equal tuples with equal ints -/
def rSortPr (K : PySem.W.Frag) : List V → Hp → VK → Prop := fun vs H Q => ∃ (a : Addr) (xs : List V) (k : V → List Int × Int), vs = [V.ref a] ∧ SqL K H a xs ∧ (∀ x ∈ xs, ∃ t p, x = V.ref t ∧ SqT K H t [.ref p, .int (k x).2] ∧ SqT K H p ((k x).1.map V.int)) ∧
  (∀ x ∈ xs, ∀ y ∈ xs, (k x).1 = (k y).1 → (k x).2 = (k y).2) ∧
  ∀ (ys : List V) (p : Addr), ys.Perm xs → ys.Pairwise (fun x y => HT.lexLt (k y).1 (k x).1 = false) → H p = none → Q (.ref p) (upd H p (.lst ys))
section
variable {X : Cx} {pins : List (Addr × Obj)} {σ : L2.St} {H : Hp} {s : Shared}
theorem tis_of (I : Inv X pins σ H s) {t : Addr} {ns : List Int} (h : SqT X.K H t (ns.map V.int)) : TIs s.heap (.ref t) ns := by
  obtain ⟨its, rv, ht, hz⟩ := I.tuple h
  exact ⟨t, its.toArray, rfl, ht, rv.ints⟩
theorem tpr_of (I : Inv X pins σ H s) {t p : Addr} {ns : List Int} {n : Int} (h : SqT X.K H t [.ref p, .int n]) (h2 : SqT X.K H p (ns.map V.int)) : TPr s.heap (.ref t) (ns, n) := by
  obtain ⟨its, rv, ht, hz⟩ := I.tuple h
  obtain ⟨u1, u2, rfl, r1, r2⟩ := vals2 rv
  obtain rfl : u1 = Value.ref p := r1
  obtain ⟨t2, rfl⟩ := r2
  exact ⟨t, _, t2, rfl, ht, tis_of I h2⟩
theorem sort_out {X : Cx} {pins : List (Addr × Obj)} {σ : L2.St} {H : Hp} {s : Shared} {Q : VK} {its out : List Value} {xs : List V} (I : Inv X pins σ H s) (hz : xs.length ≤ sizeLine) (e1 : xs = its.map backV) (e2 : ∀ v ∈ its, ∃ a, v = Value.ref a) (hp : out.Perm its)
    (q : ∀ p, H p = none → Q (.ref p) (upd H p (.lst (out.map backV)))) : EP X pins σ Q (.ref (s.heap.objs.size + 1)) { s with heap := PyProof.Rows.sortedAll s.heap its out.toArray } := by
  have h3 : ∀ u ∈ out, ∃ a, u = Value.ref a := fun u hu => e2 u (hp.mem_iff.mp hu)
  obtain ⟨ep, he'⟩ := PyProof.Rows.sortedAll_at s.heap its out.toArray
  have hlen : (out.map backV).length ≤ sizeLine := by
    rw [List.length_map, hp.length_eq, ← List.length_map (f := backV), ← e1]
    exact hz
  exact ⟨.ref _, upd H (s.heap.objs.size + 1) (.lst (out.map backV)), I.laid (t' := s.toks) (fun _ _ => PyProof.Rows.sortedAll_old) (Nat.le_succ _) ⟨hlen, out, ep, vals_back h3, he'⟩, rfl, q _ (I.hok.fresh (Nat.le_succ _))⟩
end
theorem cr_sortT1 {X : Cx} (hu : X.A.units + 64 < cLine) : CallR X (.builtin "sorted") (rSortT1 X.K) := by
  intro pins s σ H vs us Q I r h
  obtain ⟨a, xs, k, rfl, hs, hx, h0, q⟩ := h
  obtain ⟨its, rv, hl, hz⟩ := I.list hs
  rw [Vals.ref1 r]
  obtain ⟨e1, e2⟩ := refs_back rv fun x m => by
    obtain ⟨t, e, _⟩ := hx x m
    exact ⟨t, e⟩
  have hv : ∀ v ∈ its, TIs s.heap v (k (backV v)) := fun v hv => by
    obtain ⟨t, rfl⟩ := e2 v hv
    obtain ⟨t', e, ht⟩ := hx (V.ref t) (by rw [e1]; exact List.mem_map.mpr ⟨_, hv, rfl⟩)
    cases e
    exact tis_of I ht
  refine SrtO.sorted_ord (NtL.swo_lexL fun u => k (backV u)) hl.isList (by rw [← rv.length]; exact hz) (fun h2 h₁ a' ha' kk => ?_) fun out h1 h2 => ?_
  · refine tups_sortable (s := { s with heap := h₁ }) h2 (by show X.A.units + _ + _ < cLine; omega) (fun v hm => (hv v hm).keeps fun b o e _ => (kk b o e).2) (fun v e => ?_) fun o e => ?_
    · refine h0 _ ?_
      rw [e1, List.getElem?_map, e]
      rfl
    · have e' : some o = some (seqObj "list" its.toArray 0) := e.symm.trans ha'
      cases e'
      intro c
      exact absurd (Value.type.inj c) (by decide)
  · refine sort_out I hz e1 e2 h2.perm fun p hp => q _ p ?_ (List.pairwise_map.mpr h1) hp
    rw [e1]
    exact h2.perm.map backV
theorem cr_sortPr {X : Cx} (hu : X.A.units + 64 < cLine) : CallR X (.builtin "sorted") (rSortPr X.K) := by
  intro pins s σ H vs us Q I r h
  obtain ⟨a, xs, k, rfl, hs, hx, h0, q⟩ := h
  obtain ⟨its, rv, hl, hz⟩ := I.list hs
  rw [Vals.ref1 r]
  obtain ⟨e1, e2⟩ := refs_back rv fun x m => by
    obtain ⟨t, _, e, _⟩ := hx x m
    exact ⟨t, e⟩
  have hm : ∀ v ∈ its, backV v ∈ xs := fun v hv => by rw [e1]; exact List.mem_map.mpr ⟨_, hv, rfl⟩
  have hv : ∀ v ∈ its, TPr s.heap v (k (backV v)) := fun v hv => by
    obtain ⟨t, rfl⟩ := e2 v hv
    obtain ⟨t', p, e, ht, hp⟩ := hx (V.ref t) (by rw [e1]; exact List.mem_map.mpr ⟨_, hv, rfl⟩)
    cases e
    exact tpr_of I ht hp
  refine SrtO.sorted_ord (NtL.swo_lexL fun u => (k (backV u)).1) hl.isList (by rw [← rv.length]; exact hz) (fun h2 h₁ a' ha' kk => ?_) fun out h1 h2 => ?_
  · refine prs_sortable (s := { s with heap := h₁ }) (k := fun u => k (backV u)) h2 (by show X.A.units + _ + _ + 1 < cLine; omega) (fun v hm => (hv v hm).keeps fun b o e _ => (kk b o e).2) (fun v hv u hu' => h0 _ (hm v hv) _ (hm u hu')) fun o e => ?_
    have e' : some o = some (seqObj "list" its.toArray 0) := e.symm.trans ha'
    cases e'
    intro c
    exact absurd (Value.type.inj c) (by decide)
  · refine sort_out I hz e1 e2 h2.perm fun p hp => q _ p ?_ (List.pairwise_map.mpr h1) hp
    rw [e1]
    exact h2.perm.map backV
end K13

set_option Elab.async false
set_option linter.all false
set_option maxRecDepth 100000
set_option maxHeartbeats 4000000
/-! Further rules: numbers of bits, what is walked, data, calls. -/
namespace K13
open PySem PySem.Spec PyProof.Rows L2

/-! ### numbers of bits -/
section
variable {X : Cx}
theorem op_shlP : OpR X (binaryOp .LShift) (fun x y H Q => ∃ k : Nat, x = .int 1 ∧ y = .int (k : Int) ∧ k ≤ 1000 ∧ Q (.int ((2 ^ k : Nat) : Int)) H) := by
  intro pins s σ H x y v u Q I rx ry h
  obtain ⟨k, rfl, rfl, hk, q⟩ := h
  refine op_oneShl pins s σ H _ _ v u Q I rx ry ⟨k, rfl, rfl, by omega, ?_⟩
  rw [Int.natCast_pow] at q
  exact q
theorem op_shrM : OpR X (binaryOp .RShift) (fun x y H Q => ∃ n k : Nat, x = .int (n : Int) ∧ y = .int (k : Int) ∧ Q (.int ((n / 2 ^ k : Nat) : Int)) H) := by
  intro pins s σ H x y v u Q I rx ry h
  obtain ⟨n, k, rfl, rfl, q⟩ := h
  refine op_shrN pins s σ H _ _ v u Q I rx ry ⟨_, k, rfl, rfl, ?_⟩
  rw [Int.natCast_ediv, Int.natCast_pow] at q
  exact q
theorem bitAnd_nat (n m : Nat) : Builtin.bitAnd (n : Int) (m : Int) = ((n &&& m : Nat) : Int) := by
  rw [PyProof.Rows.bitAnd_pp (Int.natCast_nonneg _) (Int.natCast_nonneg _), Int.toNat_natCast, Int.toNat_natCast]
theorem bitOr_nat (n m : Nat) : Builtin.bitOr (n : Int) (m : Int) = ((n ||| m : Nat) : Int) := by
  rw [PyProof.Rows.bitOr_and, bitAnd_nat]
  have h1 : (n ||| m) + (n &&& m) = n + m := by
    have a1 : n &&& (cutN m n) = 0 := bits_ext fun j => by
      rw [Nat.testBit_and, cut_bit, Nat.zero_testBit]
      cases n.testBit j <;> cases m.testBit j <;> rfl
    have a2 : n ||| cutN m n = n ||| m := bits_ext fun j => by
      rw [Nat.testBit_or, cut_bit, Nat.testBit_or]
      cases n.testBit j <;> cases m.testBit j <;> rfl
    have a3 := add_or _ n (cutN m n) (Nat.le_refl _) a1
    rw [a2] at a3
    rw [← a3]
    unfold cutN
    have a4 : m &&& n ≤ m := Nat.and_le_left
    rw [Nat.and_comm n m]
    omega
  omega
theorem op_andN : OpR X (binaryOp .BitAnd) (fun x y H Q => ∃ n m : Nat, x = .int (n : Int) ∧ y = .int (m : Int) ∧ Q (.int ((n &&& m : Nat) : Int)) H) := by
  intro pins s σ H x y v u Q I rx ry h
  obtain ⟨n, m, rfl, rfl, q⟩ := h
  rw [← bitAnd_nat] at q
  exact op_and pins s σ H _ _ v u Q I rx ry ⟨_, _, rfl, rfl, q⟩
theorem op_orN : OpR X (binaryOp .BitOr) (fun x y H Q => ∃ n m : Nat, x = .int (n : Int) ∧ y = .int (m : Int) ∧ Q (.int ((n ||| m : Nat) : Int)) H) := by
  intro pins s σ H x y v u Q I rx ry h
  obtain ⟨n, m, rfl, rfl, q⟩ := h
  rw [← bitOr_nat] at q
  exact op_or pins s σ H _ _ v u Q I rx ry ⟨_, _, rfl, rfl, q⟩
/-- a & ~b -/
theorem op_cut : OpR X (binaryOp .BitAnd) (fun x y H Q => ∃ n m : Nat, x = .int (n : Int) ∧ y = .int (Builtin.bitNot (m : Int)) ∧ Q (.int ((cutN n m : Nat) : Int)) H) := by
  intro pins s σ H x y v u Q I rx ry h
  obtain ⟨n, m, rfl, rfl, q⟩ := h
  have e : Builtin.bitAnd (n : Int) (Builtin.bitNot (m : Int)) = ((cutN n m : Nat) : Int) := by
    rw [PyProof.Rows.bitAnd_not, bitAnd_nat]
    unfold cutN
    have : n &&& m ≤ n := Nat.and_le_left
    omega
  rw [← e] at q
  exact op_and pins s σ H _ _ v u Q I rx ry ⟨_, _, rfl, rfl, q⟩
end
/-- n >> k & 1 -/
theorem shr_odd (n k : Nat) : n / 2 ^ k &&& 1 = if n.testBit k = true then 1 else 0 := by
  rw [Nat.and_one_is_mod, Nat.testBit_eq_decide_div_mod_eq]
  by_cases h : n / 2 ^ k % 2 = 1
  · rw [if_pos (decide_eq_true h), h]
  · rw [if_neg (by simpa using h)]; omega

/-! ### a list or a tuple walked -/
def iSeq (K : PySem.W.Frag) (tl : TE) : TI := fun σ H R => tl σ H fun x H1 => ∃ a xs, x = .ref a ∧ ((SqL K H1 a xs ∧ R (Itl K a) H1) ∨ (SqT K H1 a xs ∧ R (Itt K a) H1))
theorem pi_seq {X : Cx} {tg l : Expr} {tl : TE} (hl : PE X l tl) : PI X tg l (iSeq X.K tl) := by
  refine ⟨fun pins s σ H R I h => ?_⟩
  refine thn (hl.run pins s σ H _ I h) fun v s1 ⟨x, H1, I1, r1, a, xs, e, q⟩ => ?_
  subst e
  cases r1
  rcases q with ⟨hs, q⟩ | ⟨hs, q⟩
  · obtain ⟨its, rv, p, hz⟩ := I1.list hs
    refine wpAny_pyIter_list p.isList ?_
    refine ⟨s1.heap.objs.size, [s1.heap.objs.size], _, _, H1, rfl, I1.kept (t' := s1.toks) fun b o e => Heap.get?_push_of_some _ e, turn_list a _, ⟨_, Heap.get?_push_size _ rfl, rfl, rfl⟩, fun b hb => ?_, q⟩
    have e : b = s1.heap.objs.size := by simpa using hb
    subst e
    exact I1.fpOk (Nat.le_refl _) (I1.hok.fresh (Nat.le_refl _))
  · obtain ⟨its, rv, p, hz⟩ := I1.tuple hs
    refine wpAny_pyIter_tuple (show s1.heap.IsTuple a its.toArray from p) ?_
    refine ⟨s1.heap.objs.size, [s1.heap.objs.size], _, _, H1, rfl, I1.kept (t' := s1.toks) fun b o e => Heap.get?_push_of_some _ e, turn_tuple a _, ⟨_, Heap.get?_push_size _ rfl, rfl, rfl⟩, fun b hb => ?_, q⟩
    have e : b = s1.heap.objs.size := by simpa using hb
    subst e
    exact I1.fpOk (Nat.le_refl _) (I1.hok.fresh (Nat.le_refl _))

/-! ### data -/
theorem seqT {K : PySem.W.Frag} {H H' : Hp} {a : Addr} {xs : List V} (e : Same H H') (h : SqT K H a xs) : SqT K H' a xs := Evl.ex_t e h
theorem same_new {H : Hp} {p : Addr} (h : H p = none) (o : HO) : Same H (upd H p o) := fun b u q => by rw [upd_ne (ne_of_none q h)]; exact q
theorem same_upd {H H' : Hp} {p : Addr} {o : HO} (e : Same H H') (h : H p = none) : Same H (upd H' p o) := Evl.Ex.mut e h
section
variable {K : PySem.W.Frag} {H H' : Hp}
mutual
theorem Dp.same (e : Same H H') : ∀ {v : V} {d : PyData}, Dp K H v d → Dp K H' v d
  | _, _, .non => .non
  | _, _, .bl b => .bl b
  | _, _, .int i => .int i
  | _, _, .str x => .str x
  | _, _, .lst h a => .lst (e.seq h) (DpAll.same e a)
  | _, _, .tup h a => .tup (seqT e h) (DpAll.same e a)
theorem DpAll.same (e : Same H H') : ∀ {vs : List V} {ds : List PyData}, DpAll K H vs ds → DpAll K H' vs ds
  | _, _, .nil => .nil
  | _, _, .cons h a => .cons (Dp.same e h) (DpAll.same e a)
end
theorem dp_int {v : V} {i : Int} (h : Dp K H v (.int i)) : v = .int i := by cases h; rfl
theorem dp_bool {v : V} {b : Bool} (h : Dp K H v (.bool b)) : v = .bl b := by cases h; rfl
theorem dp_tup {v : V} {ds : List PyData} (h : Dp K H v (.tuple ds)) : ∃ a xs, v = .ref a ∧ SqT K H a xs ∧ DpAll K H xs ds := by
  cases h with
  | tup h a => exact ⟨_, _, rfl, h, a⟩
theorem dp_lst {v : V} {ds : List PyData} (h : Dp K H v (.list ds)) : ∃ a xs, v = .ref a ∧ SqL K H a xs ∧ DpAll K H xs ds := by
  cases h with
  | lst h a => exact ⟨_, _, rfl, h, a⟩
theorem dpa_len : ∀ {vs : List V} {ds : List PyData}, DpAll K H vs ds → vs.length = ds.length
  | _, _, .nil => rfl
  | _, _, .cons _ a => congrArg (· + 1) (dpa_len a)
theorem dpa_get : ∀ {vs : List V} {ds : List PyData} {i : Nat} {v : V}, DpAll K H vs ds → vs[i]? = some v → ∃ d, ds[i]? = some d ∧ Dp K H v d
  | _, _, _, _, .nil, e => by cases e
  | _, _, 0, _, .cons h _, e => by cases e; exact ⟨_, rfl, h⟩
  | _, _, i + 1, v, .cons _ a, e => by
    obtain ⟨d, e1, h⟩ := dpa_get (i := i) (v := v) a (by simpa using e)
    exact ⟨d, by simpa using e1, h⟩
theorem dpa_at : ∀ {vs : List V} {ds : List PyData} {i : Nat} {d : PyData}, DpAll K H vs ds → ds[i]? = some d → ∃ v, vs[i]? = some v ∧ Dp K H v d
  | _, _, _, _, .nil, e => by cases e
  | _, _, 0, _, .cons h _, e => by cases e; exact ⟨_, rfl, h⟩
  | _, _, i + 1, d, .cons _ a, e => by
    obtain ⟨v, e1, h⟩ := dpa_at (i := i) (d := d) a (by simpa using e)
    exact ⟨v, by simpa using e1, h⟩
theorem dpa_snoc : ∀ {vs : List V} {ds : List PyData} {v : V} {d : PyData}, DpAll K H vs ds → Dp K H v d → DpAll K H (vs ++ [v]) (ds ++ [d])
  | _, _, _, _, .nil, h => .cons h .nil
  | _, _, _, _, .cons h a, k => .cons h (dpa_snoc a k)
theorem dpa_append : ∀ {vs ws : List V} {ds es : List PyData}, DpAll K H vs ds → DpAll K H ws es → DpAll K H (vs ++ ws) (ds ++ es)
  | _, _, _, _, .nil, h => h
  | _, _, _, _, .cons h a, k => .cons h (dpa_append a k)
theorem dpa_ints : ∀ {vs : List V} {ns : List Int}, DpAll K H vs (ns.map PyData.int) → vs = ns.map V.int
  | [], [], _ => rfl
  | _, n :: ns, h => by
    rw [List.map_cons] at h
    cases h with
    | cons h a => rw [dp_int h, List.map_cons, dpa_ints a]
  | _ :: _, [], h => by cases h
theorem ints_dpa : ∀ (ns : List Int), DpAll K H (ns.map V.int) (ns.map PyData.int)
  | [] => .nil
  | n :: ns => .cons (.int n) (ints_dpa ns)
theorem dpa_bls : ∀ {vs : List V} {bs : List Bool}, DpAll K H vs (bs.map PyData.bool) → vs = bs.map V.bl
  | [], [], _ => rfl
  | _, n :: ns, h => by
    rw [List.map_cons] at h
    cases h with
    | cons h a => rw [dp_bool h, List.map_cons, dpa_bls a]
  | _ :: _, [], h => by cases h
end

/-! ### data without lists stand while lists and dicts change -/
mutual
def noL : PyData → Bool
  | .list _ => false
  | .dict _ => false
  | .tuple ds => noLs ds
  | _ => true
def noLs : List PyData → Bool
  | [] => true
  | d :: ds => noL d && noLs ds
end
theorem noLs_all : ∀ {ds : List PyData}, (∀ d ∈ ds, noL d = true) → noLs ds = true
  | [], _ => by rw [noLs]
  | d :: ds, h => by rw [noLs, h d List.mem_cons_self, noLs_all fun e he => h e (List.mem_cons_of_mem _ he)]; rfl
theorem noLs_mem : ∀ {ds : List PyData}, noLs ds = true → ∀ d ∈ ds, noL d = true
  | d :: ds, h, e, he => by
    rw [noLs, Bool.and_eq_true] at h
    rcases List.mem_cons.mp he with z | z
    · rw [z]; exact h.1
    · exact noLs_mem h.2 e z
def KeepT (H H' : Hp) : Prop := ∀ a xs, Rd H a (.tup xs) → Rd H' a (.tup xs)
theorem KeepT.of_same {H H' : Hp} (e : Same H H') : KeepT H H' := fun _ _ h => Evl.ex_rd e h
theorem KeepT.trans {H H1 H2 : Hp} (a : KeepT H H1) (b : KeepT H1 H2) : KeepT H H2 := fun c xs h => b c xs (a c xs h)
theorem KeepT.refl (H : Hp) : KeepT H H := fun _ _ h => h
theorem KeepT.off {H H' : Hp} {p : Addr} (h : ∀ b o, b ≠ p → H b = some o → H' b = some o) (hp : ∀ xs, ¬ Rd H p (.tup xs)) : KeepT H H' := fun a xs q => by
  have ne : a ≠ p := fun z => hp xs (by rw [← z]; exact q)
  rcases q with q | ⟨o, q⟩
  · exact .inl (h a _ ne q)
  · exact .inr ⟨o, h a _ ne q⟩
theorem not_tup_lst {H : Hp} {p : Addr} {ys : List V} (h : H p = some (.lst ys)) : ∀ xs, ¬ Rd H p (.tup xs) := fun xs q => by
  rcases q with q | ⟨o, q⟩ <;> rw [h] at q <;> cases q
theorem not_tup_dK {H : Hp} {p : Addr} {ys : List (Key × V)} (h : H p = some (.dK ys)) : ∀ xs, ¬ Rd H p (.tup xs) := fun xs q => by
  rcases q with q | ⟨o, q⟩ <;> rw [h] at q <;> cases q
theorem not_tup_none {H : Hp} {p : Addr} (h : H p = none) : ∀ xs, ¬ Rd H p (.tup xs) := fun xs q => by
  rcases q with q | ⟨o, q⟩ <;> rw [h] at q <;> cases q
theorem KeepT.upd {H : Hp} {p : Addr} {o : HO} (h : ∀ xs, ¬ Rd H p (.tup xs)) : KeepT H (upd H p o) := KeepT.off (p := p) (fun b u ne q => by rw [upd_ne ne]; exact q) h
section
variable {K : PySem.W.Frag} {H H' : Hp}
theorem keepT_sq (e : KeepT H H') {a : Addr} {xs : List V} (h : SqT K H a xs) : SqT K H' a xs := by
  rcases h with h | h
  · exact .inl (e _ _ h)
  · exact .inr h
mutual
theorem Dp.keep (e : KeepT H H') : ∀ {v : V} {d : PyData}, noL d = true → Dp K H v d → Dp K H' v d
  | _, _, _, .non => .non
  | _, _, _, .bl b => .bl b
  | _, _, _, .int i => .int i
  | _, _, _, .str x => .str x
  | _, _, z, .lst h a => by rw [noL] at z; cases z
  | _, _, z, .tup h a => .tup (keepT_sq e h) (DpAll.keep e (by rw [noL] at z; exact z) a)
theorem DpAll.keep (e : KeepT H H') : ∀ {vs : List V} {ds : List PyData}, noLs ds = true → DpAll K H vs ds → DpAll K H' vs ds
  | _, _, _, .nil => .nil
  | _, _, z, .cons h a => by
    rw [noLs, Bool.and_eq_true] at z
    exact .cons (Dp.keep e z.1 h) (DpAll.keep e z.2 a)
end
end
theorem noLs_ints : ∀ ns : List Int, noLs (ns.map PyData.int) = true
  | [] => by simp [noLs]
  | n :: ns => by simp [noLs, noL, noLs_ints ns]

/-! ### a comprehension of data -/
def Adt (K : PySem.W.Frag) (H1 : Hp) (D : Addr) (out : Nat → Option PyData) (i : Nat) (H : Hp) : Prop := H1 D = none ∧ Same H1 H ∧ ∃ xs, H D = some (.lst xs) ∧ xs.length ≤ i ∧ DpAll K H xs ((List.range i).filterMap out)
theorem lc_data {K : PySem.W.Frag} {J : It} {n : Nat} {G : Hp → Prop} {Y : Nat → Hp → V → Hp → Prop} (w : Walk J n G Y) {g : TG} {tt : TT} {te : TE} {vs : List Nat} {σ : L2.St} {H1 : Hp} {D : Addr} {Qd : Hp → Prop} (hD : H1 D = none) (hG : ∀ H, Same H1 H → G H) (hn : n ≤ 100000) (out : Nat → Option PyData) (hno : ∀ i d, i < n → out i = some d → noL d = true)
    (hs : ∀ i x H H', i < n → Same H1 H → Y i H x H' → ∀ (Ky : V → Hp → Prop) (Kn : Hp → Prop), (∀ d, out i = some d → ∀ y H4, Same H H4 → Dp K H4 y d → Ky y H4) → (out i = none → ∀ H3, Same H H3 → Kn H3) →
      g x (wipe σ vs) H' fun σ2 H2 => wipe σ2 vs = wipe σ vs ∧ tt σ2 H2 fun b H3 => if b = true then te σ2 H3 Ky else Kn H3)
    (hd : ∀ H xs, Same H1 H → H D = some (.lst xs) → DpAll K H xs ((List.range n).filterMap out) → Qd H) :
    ∃ W : Nat → Nat → Hp → Prop, (∃ m, W 0 m (upd H1 D (.lst []))) ∧ ∀ i m H, W i m H →
      (J.stop i H ∧ Qd H) ∨ (J.go i H ∧ ∃ Nx : Hp → Prop, (∀ H', Nx H' → ∃ m', m' < m ∧ W (i + 1) m' H') ∧ ∀ x H', J.yld i H x H' → g x (wipe σ vs) H' fun σ2 H2 => wipe σ2 vs = wipe σ vs ∧ tt σ2 H2 fun b H3 =>
        if b = true then te σ2 H3 fun y H4 => ∃ acc, H4 D = some (.lst acc) ∧ acc.length < sizeLine ∧ Nx (upd H4 D (.lst (acc ++ [y]))) else Nx H3) := by
  refine lc_it w (fun i H => i ≤ n ∧ Adt K H1 D out i H) ⟨Nat.zero_le _, hD, same_new hD _, [], upd_same, Nat.le_refl _, .nil⟩ (fun i H _ p => hG H p.2.2.1) (fun i x H H' hi p y => ?_) (fun H ⟨_, _, h1, xs, h2, _, h3⟩ => hd H xs h1 h2 h3)
  obtain ⟨_, _, p1, xs, p2, p3, p4⟩ := p
  refine hs i x H H' hi p1 y _ _ (fun d ed z H4 e4 hz => ⟨xs, e4 _ _ p2, Evl.sz_lt (by omega), hi, hD, same_upd (p1.trans e4) hD, xs ++ [z], upd_same, by rw [List.length_append]; simp; omega, ?_⟩) (fun ed H3 e3 => ⟨hi, hD, p1.trans e3, xs, e3 _ _ p2, by omega, ?_⟩)
  · rw [List.range_succ, List.filterMap_append]
    have e1 : [i].filterMap out = [d] := by simp [ed]
    rw [e1]
    have kt : KeepT H4 (upd H4 D (.lst (xs ++ [z]))) := KeepT.upd (not_tup_lst (e4 _ _ p2))
    refine dpa_snoc (DpAll.keep kt (noLs_all fun e he => ?_) (DpAll.same e4 p4)) (Dp.keep kt (hno i d hi ed) hz)
    obtain ⟨j, hj, ej⟩ := List.mem_filterMap.mp he
    exact hno j e (by have := List.mem_range.mp hj; omega) ej
  · rw [List.range_succ, List.filterMap_append]
    have e1 : [i].filterMap out = [] := by simp [ed]
    rw [e1, List.append_nil]
    exact DpAll.same e3 p4
/-- without tests -/
theorem fm_some {α : Type} (n : Nat) (f : Nat → α) : (List.range n).filterMap (fun i => some (f i)) = (List.range n).map f := by
  rw [List.filterMap_eq_map']
theorem lc_map {K : PySem.W.Frag} {J : It} {n : Nat} {G : Hp → Prop} {Y : Nat → Hp → V → Hp → Prop} (w : Walk J n G Y) {g : TG} {te : TE} {vs : List Nat} {σ : L2.St} {H1 : Hp} {D : Addr} {Qd : Hp → Prop} (hD : H1 D = none) (hG : ∀ H, Same H1 H → G H) (hn : n ≤ 100000) (f : Nat → PyData) (hno : ∀ i, i < n → noL (f i) = true)
    (hs : ∀ i x H H', i < n → Same H1 H → Y i H x H' → ∀ (Ky : V → Hp → Prop), (∀ y H4, Same H H4 → Dp K H4 y (f i) → Ky y H4) → g x (wipe σ vs) H' fun σ2 H2 => wipe σ2 vs = wipe σ vs ∧ te σ2 H2 Ky)
    (hd : ∀ H xs, Same H1 H → H D = some (.lst xs) → DpAll K H xs ((List.range n).map f) → Qd H) :
    ∃ W : Nat → Nat → Hp → Prop, (∃ m, W 0 m (upd H1 D (.lst []))) ∧ ∀ i m H, W i m H →
      (J.stop i H ∧ Qd H) ∨ (J.go i H ∧ ∃ Nx : Hp → Prop, (∀ H', Nx H' → ∃ m', m' < m ∧ W (i + 1) m' H') ∧ ∀ x H', J.yld i H x H' → g x (wipe σ vs) H' fun σ2 H2 => wipe σ2 vs = wipe σ vs ∧ tYes σ2 H2 fun b H3 =>
        if b = true then te σ2 H3 fun y H4 => ∃ acc, H4 D = some (.lst acc) ∧ acc.length < sizeLine ∧ Nx (upd H4 D (.lst (acc ++ [y]))) else Nx H3) := by
  refine lc_data (K := K) w hD hG hn (fun i => some (f i)) (fun i d hi e => by cases e; exact hno i hi) (fun i x H H' hi e y Ky Kn hy _ => ?_) (fun H xs h1 h2 h3 => hd H xs h1 h2 (by rw [fm_some] at h3; exact h3))
  exact hs i x H H' hi e y Ky (fun y H4 e4 h => hy _ rfl y H4 e4 h)
theorem map_const {α : Type} (n : Nat) (c : α) : (List.range n).map (fun _ => c) = List.replicate n c := by
  rw [List.map_const', List.length_range]
theorem bools_all (n : Nat) : (List.range n).map (fun _ => PyData.bool true) = (List.replicate n true).map PyData.bool := by
  rw [map_const, List.map_replicate]
theorem all_ok {K : PySem.W.Frag} {H : Hp} {L : Addr} {xs : List V} {n : Nat} {Q : VK} (h1 : H L = some (.lst xs)) (hx : DpAll K H xs ((List.range n).map fun _ => PyData.bool true)) (q : Q (.bl true) H) : rAll K [V.ref L] H Q := by
  rw [bools_all] at hx
  refine ⟨L, List.replicate n true, rfl, ?_, ?_⟩
  · rw [dpa_bls hx] at h1
    exact SqL.of h1
  · have e3 : (List.replicate n true).all id = true := by simp
    rw [e3]
    exact q
theorem any_no {K : PySem.W.Frag} {H : Hp} {L : Addr} {xs : List V} {l : List Nat} {Q : VK} (h1 : H L = some (.lst xs)) (hx : DpAll K H xs (l.map fun _ => PyData.bool false)) (q : Q (.bl false) H) : rAny K [V.ref L] H Q := by
  have e0 : l.map (fun _ => PyData.bool false) = (List.replicate l.length false).map PyData.bool := by
    rw [List.map_replicate]
    exact List.map_const' ..
  rw [e0] at hx
  refine ⟨L, List.replicate l.length false, rfl, ?_, ?_⟩
  · rw [dpa_bls hx] at h1
    exact SqL.of h1
  · have e3 : (List.replicate l.length false).any id = false := by simp
    rw [e3]
    exact q
theorem walk_range0 {n : Nat} : Walk (Itr 0 n) n (fun _ => True) (YFn fun i => .int (i : Int)) :=
  ⟨fun _ _ hi _ => hi, fun _ _ => Nat.le_refl _, fun i H x H' _ _ y => ⟨y.1, by rw [y.2, Int.zero_add]⟩⟩
theorem walk_rangeN {k n : Nat} : Walk (Itr (k : Int) n) n (fun _ => True) (YFn fun i => .int ((k + i : Nat) : Int)) :=
  ⟨fun _ _ hi _ => hi, fun _ _ => Nat.le_refl _, fun i H x H' _ _ y => ⟨y.1, by rw [y.2]; show V.int ((k : Int) + (i : Int)) = V.int ((k + i : Nat) : Int); rw [Int.natCast_add]⟩⟩

/-! ### defs that may be called by their names -/
structure Cal (P : Program) (w : World) (K : PySem.W.Frag) (mg : Str → Option Value) (base : Heap) (k : Nat) (x : Str) (ps : List Str) (sp : Sp) : Prop where
  ex : ∃ (f : Addr) (fd : FuncData), FnOk P w K mg base CX0 k f fd ps sp ∧ mg x = some (.ref f) ∧ PySem.W.keepIn K (.ref f) = true ∧ Binds K fd ps []
/-- what keywords alone bind -/
def lk {α : Type} (g : List α → List α) : List α → List α → List α
  | [], ws => g ws
  | _ :: _, _ => []
/-- .. by keywords alone: ks the keywords as written, g puts their values in the parameters' order -/
structure CalK (P : Program) (w : World) (K : PySem.W.Frag) (mg : Str → Option Value) (base : Heap) (k : Nat) (x : Str) (ps ks : List Str) (gV : List V → List V) (sp : Sp) : Prop where
  ex : ∃ (f : Addr) (fd : FuncData) (g : List Value → List Value), FnOk P w K mg base CX0 k f fd ps sp ∧ mg x = some (.ref f) ∧ PySem.W.keepIn K (.ref f) = true ∧ 0 < ps.length ∧
    (∀ (s : Shared) (ws : List Value), (g ws).length = ps.length → BindsTo s fd ⟨[], ks.zip ws⟩ (ps.zip (g ws))) ∧ ∀ {zs : List V} {ws : List Value}, Vals zs ws → Vals (gV zs) (g ws)
section
variable {X : Cx} {k j : Nat} {x : Str} {ps ks : List Str} {sp : Sp} {p pos : Pos} {e : Expr} {es : List Expr} {t tk : TA} {kws : List Keyword} {gV : List V → List V}
theorem pe_c (c : Cal X.prog X.w X.K X.mg X.base k x ps sp) (hr : Room j X.A) (hk : k ≤ j) (hg : Gl X x) (ha : PA X (e :: es) t)
    (hdb : (x == ("__debug__" : Str)) = false := by decide) (he : starEach (e :: es) X.env = (false, eval e X.env) :: starEach es X.env := by rfl) (hpl : (backTo pos (starEach es X.env)).any (·.1) = false := by rfl) :
    PE X (.Call (.Name x p) (e :: es) [] pos) (tCall sp [] E0 t) := by
  obtain ⟨f, fd, F, hm, kp, b⟩ := c.ex
  exact pe_call F (hr.mono hk) hg hm kp b .nil pass0 ha hdb he hpl
theorem pe_c0 (c : Cal X.prog X.w X.K X.mg X.base k x ps sp) (hr : Room j X.A) (hk : k ≤ j) (hg : Gl X x) (hdb : (x == ("__debug__" : Str)) = false := by decide) :
    PE X (.Call (.Name x p) [] [] pos) (tCall sp [] E0 tNil) := by
  obtain ⟨f, fd, F, hm, kp, b⟩ := c.ex
  exact pe_call0 F (hr.mono hk) hg hm kp b .nil pass0 hdb
theorem pe_ck (c : CalK X.prog X.w X.K X.mg X.base k x ps ks gV sp) (hr : Room j X.A) (hk : k ≤ j) (hg : Gl X x) (hkw : PK X kws tk) (hall : (backToKw pos (keywordEach kws X.env)).all (·.1.isSome) = true := by rfl) (hks : (backToKw pos (keywordEach kws X.env)).filterMap (·.1) = ks := by rfl)
    (hdb : (x == ("__debug__" : Str)) = false := by decide) (hpl : ((backTo pos (starEach [] X.env)).any (·.1) || (backToKw pos (keywordEach kws X.env)).any (·.1.isNone)) = false := by rfl) :
    PE X (.Call (.Name x p) [] kws pos) (tCallK sp (lk gV) E0 tNil tk) := by
  obtain ⟨f, fd, g, F, hm, kp, h0, b1, b2⟩ := c.ex
  have hb : KBinds X.K fd ps ks (lk g) (lk gV) := ⟨fun s us ws _ hl => by
    cases us with
    | nil => exact b1 s ws hl
    | cons u us => exact absurd hl (by show 0 ≠ ps.length; omega), fun {vs us zs ws} r rz => by
    cases r with
    | nil => exact b2 rz
    | cons _ _ => exact .nil⟩
  exact pe_callK0 F (hr.mono hk) hg hm kp hb pass0 hkw hall hks hdb hpl
end
/-- built-in names that the module leaves as they are -/
structure Txt (mg : Str → Option Value) : Prop where
  isi : mg "isinstance" = none
  int_ : mg "int" = none
  bool_ : mg "bool" = none
  tuple_ : mg "tuple" = none
  list_ : mg "list" = none
  str_ : mg "str" = none
  dict_ : mg "dict" = none
  len : mg "len" = none
  all : mg "all" = none
  any : mg "any" = none
  sum : mg "sum" = none
  max : mg "max" = none
  min : mg "min" = none
  abs : mg "abs" = none
  range : mg "range" = none
  sorted : mg "sorted" = none
  enumerate : mg "enumerate" = none
  zip : mg "zip" = none
  few : ∃ t, mg "FEW" = some (.int 2000 t)
theorem b_isinstance : bootBuiltins "isinstance" = some (.builtin "isinstance") := by decide +kernel
theorem b_int : bootBuiltins "int" = some (.type "int") := by decide +kernel
theorem b_bool : bootBuiltins "bool" = some (.type "bool") := by decide +kernel
theorem b_tuple : bootBuiltins "tuple" = some (.type "tuple") := by decide +kernel
theorem b_list : bootBuiltins "list" = some (.type "list") := by decide +kernel
theorem b_str : bootBuiltins "str" = some (.type "str") := by decide +kernel
theorem b_dict : bootBuiltins "dict" = some (.type "dict") := by decide +kernel
theorem b_len : bootBuiltins "len" = some (.builtin "len") := by decide +kernel
theorem b_all : bootBuiltins "all" = some (.builtin "all") := by decide +kernel
theorem b_any : bootBuiltins "any" = some (.builtin "any") := by decide +kernel
theorem b_sum : bootBuiltins "sum" = some (.builtin "sum") := by decide +kernel
theorem b_max : bootBuiltins "max" = some (.builtin "max") := by decide +kernel
theorem b_min : bootBuiltins "min" = some (.builtin "min") := by decide +kernel
theorem b_abs : bootBuiltins "abs" = some (.builtin "abs") := by decide +kernel
theorem b_sorted : bootBuiltins "sorted" = some (.builtin "sorted") := by decide +kernel
end K13
namespace K13
theorem range_getD {α β : Type} (l : List α) (c : α) (f : α → β) : (List.range l.length).map (fun i => f (l.getD i c)) = l.map f := by
  refine List.ext_getElem? fun i => ?_
  by_cases h : i < l.length
  · rw [List.getElem?_map, List.getElem?_range h, List.getElem?_map, List.getElem?_eq_getElem h]
    show some (f (l.getD i c)) = some (f l[i])
    rw [List.getD_eq_getElem?_getD, List.getElem?_eq_getElem h]; rfl
  · rw [List.getElem?_eq_none (by simpa using h), List.getElem?_eq_none (by simpa using h)]
theorem getD_of {α : Type} {l : List α} {i : Nat} {x c : α} (h : l[i]? = some x) : l.getD i c = x := by
  rw [List.getD_eq_getElem?_getD, h]; rfl
end K13

set_option Elab.async false
set_option linter.all false
set_option maxRecDepth 100000
set_option maxHeartbeats 4000000
/-! Orders as data; tuples in the place of lists. -/
namespace K13
open PySem PySem.Spec PyProof.Rows L2
section
variable {K : PySem.W.Frag} {H H' : Hp}
theorem tyx_tup {a : Addr} {xs : List V} (h : SqT K H a xs) : TyX K H (.ref a) (.type "tuple") := by
  rcases h with (h | ⟨o, h⟩) | ⟨o, its, n, ho, hc, _⟩
  · exact .base (.tup h)
  · exact .fTuple h
  · exact .kTuple ho hc
theorem tyx_lst {a : Addr} {xs : List V} (h : SqL K H a xs) : TyX K H (.ref a) (.type "list") := by
  rcases h with (h | ⟨o, h⟩) | ⟨o, its, n, ho, hc, _⟩
  · exact .base (.lst h)
  · exact .base (.frz h)
  · exact .kList ho hc
theorem tyx_int {i : Int} : TyX K H (.int i) (.type "int") := .base (.int i)
end
theorem kit_int_int {K : PySem.W.Frag} : PySem.W.kitOne K (.type "int") (.type "int") = some true := kit_ty (by decide +kernel)
theorem kit_int_bool {K : PySem.W.Frag} : PySem.W.kitOne K (.type "int") (.type "bool") = some false := kit_ty (by decide +kernel)
theorem kit_tup_tup {K : PySem.W.Frag} : PySem.W.kitOne K (.type "tuple") (.type "tuple") = some true := kit_ty (by decide +kernel)
theorem kit_lst_tup {K : PySem.W.Frag} : PySem.W.kitOne K (.type "list") (.type "tuple") = some false := kit_ty (by decide +kernel)
theorem kit_lst_lst {K : PySem.W.Frag} : PySem.W.kitOne K (.type "list") (.type "list") = some true := kit_ty (by decide +kernel)
theorem kit_tup_lst {K : PySem.W.Frag} : PySem.W.kitOne K (.type "tuple") (.type "list") = some false := kit_ty (by decide +kernel)
theorem kit_int_lst {K : PySem.W.Frag} : PySem.W.kitOne K (.type "int") (.type "list") = some false := kit_ty (by decide +kernel)
theorem kit_int_tup {K : PySem.W.Frag} : PySem.W.kitOne K (.type "int") (.type "tuple") = some false := kit_ty (by decide +kernel)
theorem kit_int_str {K : PySem.W.Frag} : PySem.W.kitOne K (.type "int") (.type "str") = some false := kit_ty (by decide +kernel)
theorem kit_bool_bool {K : PySem.W.Frag} : PySem.W.kitOne K (.type "bool") (.type "bool") = some true := kit_ty (by decide +kernel)
theorem kit_bool_lst {K : PySem.W.Frag} : PySem.W.kitOne K (.type "bool") (.type "list") = some false := kit_ty (by decide +kernel)
theorem kit_bool_tup {K : PySem.W.Frag} : PySem.W.kitOne K (.type "bool") (.type "tuple") = some false := kit_ty (by decide +kernel)
theorem kit_lt_lst {K : PySem.W.Frag} : PySem.W.kitAny K (.type "list") [.type "list", .type "tuple"] = some true := kitAny_cons kit_lst_lst (fun h => by cases h) fun _ => rfl
theorem kit_lt_tup {K : PySem.W.Frag} : PySem.W.kitAny K (.type "tuple") [.type "list", .type "tuple"] = some true := kitAny_cons kit_tup_lst (fun _ => kitAny_cons kit_tup_tup (fun h => by cases h) fun _ => rfl) (fun h => by cases h)
theorem kit_lt_int {K : PySem.W.Frag} : PySem.W.kitAny K (.type "int") [.type "list", .type "tuple"] = some false := kitAny_cons kit_int_lst (fun _ => kitAny_cons kit_int_tup (fun _ => kitAny_nil) (fun h => by cases h)) (fun h => by cases h)
theorem kit_lt_bool {K : PySem.W.Frag} : PySem.W.kitAny K (.type "bool") [.type "list", .type "tuple"] = some false := kitAny_cons kit_bool_lst (fun _ => kitAny_cons kit_bool_tup (fun _ => kitAny_nil) (fun h => by cases h)) (fun h => by cases h)
theorem kit_bs_int {K : PySem.W.Frag} : PySem.W.kitAny K (.type "int") [.type "bool", .type "str"] = some false := kitAny_cons kit_int_bool (fun _ => kitAny_cons kit_int_str (fun _ => kitAny_nil) (fun h => by cases h)) (fun h => by cases h)
theorem kit_bs_bool {K : PySem.W.Frag} : PySem.W.kitAny K (.type "bool") [.type "bool", .type "str"] = some true := kitAny_cons kit_bool_bool (fun h => by cases h) fun _ => rfl
theorem cls_lt : Paired ClsV [.ty "list", .ty "tuple"] [.type "list", .type "tuple"] := .cons (.ty _) (.cons (.ty _) .nil)
theorem cls_bs : Paired ClsV [.ty "bool", .ty "str"] [.type "bool", .type "str"] := .cons (.ty _) (.cons (.ty _) .nil)

/-! ### orders -/
def pD (p : Nat × Nat) : PyData := .tuple [.int (p.1 : Int), .int (p.2 : Int)]
def pL (p : Nat × Nat) : PyData := .list [.int (p.1 : Int), .int (p.2 : Int)]
def tsD (ts : Ties) : PyData := .tuple (ts.map pD)
def tsL (ts : Ties) : PyData := .list (ts.map pL)
def netD (m : Nat) (ts : Ties) : PyData := .tuple [.int (m : Int), tsD ts]
def netL (m : Nat) (ts : Ties) : PyData := .list [.int (m : Int), tsL ts]
def nsD (l : List Nat) : PyData := .tuple (l.map fun (k : Nat) => .int (k : Int))
def nsL (l : List Nat) : PyData := .list (l.map fun (k : Nat) => .int (k : Int))
abbrev Vn (l : List Nat) : List V := l.map fun (k : Nat) => V.int (k : Int)
theorem noL_p (p : Nat × Nat) : noL (pD p) = true := by simp [pD, noL, noLs]
theorem noLs_ts (ts : Ties) : noLs (ts.map pD) = true := noLs_all fun d hd => by
  obtain ⟨p, _, rfl⟩ := List.mem_map.mp hd
  exact noL_p p
theorem noL_ts (ts : Ties) : noL (tsD ts) = true := by rw [tsD, noL]; exact noLs_ts ts
theorem noL_net (m : Nat) (ts : Ties) : noL (netD m ts) = true := by simp [netD, noL, noLs, noL_ts]
theorem noL_ns (l : List Nat) : noL (nsD l) = true := by
  rw [nsD, noL]
  exact noLs_all fun d hd => by
    obtain ⟨p, _, rfl⟩ := List.mem_map.mp hd
    rfl
section
variable {K : PySem.W.Frag} {H H' : Hp}
theorem dpa_two {vs : List V} {d e : PyData} (h : DpAll K H vs [d, e]) : ∃ x y, vs = [x, y] ∧ Dp K H x d ∧ Dp K H y e := by
  cases h with
  | cons h1 a =>
    cases a with
    | cons h2 b =>
      cases b
      exact ⟨_, _, rfl, h1, h2⟩
theorem dp_pair {v : V} {p : Nat × Nat} (h : Dp K H v (pD p)) : ∃ a, v = .ref a ∧ SqT K H a [.int (p.1 : Int), .int (p.2 : Int)] := by
  obtain ⟨a, xs, e, hs, ha⟩ := dp_tup h
  obtain ⟨x, y, e2, h1, h2⟩ := dpa_two ha
  rw [dp_int h1, dp_int h2] at e2
  subst e2
  exact ⟨a, e, hs⟩
theorem pair_dp {a : Addr} {p : Nat × Nat} (h : SqT K H a [.int (p.1 : Int), .int (p.2 : Int)]) : Dp K H (.ref a) (pD p) := .tup h (.cons (.int _) (.cons (.int _) .nil))
/-- an order's tuple, its ties' tuple, the ties -/
structure NetAt (K : PySem.W.Frag) (H : Hp) (a b : Addr) (xs : List V) (m : Nat) (ts : Ties) : Prop where
  top : SqT K H a [.int (m : Int), .ref b]
  tie : SqT K H b xs
  all : DpAll K H xs (ts.map pD)
theorem dp_net {v : V} {m : Nat} {ts : Ties} (h : Dp K H v (netD m ts)) : ∃ a b xs, v = .ref a ∧ NetAt K H a b xs m ts := by
  obtain ⟨a, ys, e, hs, ha⟩ := dp_tup h
  obtain ⟨x, y, e2, h1, h2⟩ := dpa_two ha
  obtain ⟨b, xs, e3, hb, hx⟩ := dp_tup h2
  rw [dp_int h1, e3] at e2
  subst e2
  exact ⟨a, b, xs, e, hs, hb, hx⟩
theorem NetAt.dp {a b : Addr} {xs : List V} {m : Nat} {ts : Ties} (n : NetAt K H a b xs m ts) : Dp K H (.ref a) (netD m ts) := .tup n.top (.cons (.int _) (.cons (.tup n.tie n.all) .nil))
theorem NetAt.same {a b : Addr} {xs : List V} {m : Nat} {ts : Ties} (n : NetAt K H a b xs m ts) (e : Same H H') : NetAt K H' a b xs m ts := ⟨seqT e n.top, seqT e n.tie, DpAll.same e n.all⟩
theorem NetAt.keep {a b : Addr} {xs : List V} {m : Nat} {ts : Ties} (n : NetAt K H a b xs m ts) (e : KeepT H H') : NetAt K H' a b xs m ts := ⟨keepT_sq e n.top, keepT_sq e n.tie, DpAll.keep e (noLs_ts ts) n.all⟩
theorem NetAt.len {a b : Addr} {xs : List V} {m : Nat} {ts : Ties} (n : NetAt K H a b xs m ts) : xs.length = ts.length := by rw [dpa_len n.all, List.length_map]
theorem NetAt.get {a b : Addr} {xs : List V} {m : Nat} {ts : Ties} {i : Nat} {x : V} (n : NetAt K H a b xs m ts) (h : xs[i]? = some x) : ∃ p t, ts[i]? = some p ∧ x = .ref t ∧ SqT K H t [.int (p.1 : Int), .int (p.2 : Int)] := by
  obtain ⟨d, e, hd⟩ := dpa_get n.all h
  rw [List.getElem?_map] at e
  obtain ⟨p, hp, rfl⟩ := Option.map_eq_some_iff.mp e
  obtain ⟨t, rfl, ht⟩ := dp_pair hd
  exact ⟨p, t, hp, rfl, ht⟩
theorem dp_ns {v : V} {l : List Nat} (h : Dp K H v (nsD l)) : ∃ a, v = .ref a ∧ SqT K H a (Vn l) := by
  obtain ⟨a, xs, e, hs, ha⟩ := dp_tup h
  have e2 : (l.map fun (k : Nat) => PyData.int (k : Int)) = (l.map fun (k : Nat) => (k : Int)).map PyData.int := by rw [List.map_map]; rfl
  rw [e2] at ha
  have e3 := dpa_ints ha
  rw [List.map_map] at e3
  subst e3
  exact ⟨a, e, hs⟩
theorem ns_dpa (l : List Nat) : DpAll K H (Vn l) (l.map fun (k : Nat) => PyData.int (k : Int)) := by
  have := ints_dpa (K := K) (H := H) (l.map fun (k : Nat) => (k : Int))
  rw [List.map_map, List.map_map] at this
  exact this
theorem dpa_ns {vs : List V} {l : List Nat} (h : DpAll K H vs (l.map fun (k : Nat) => PyData.int (k : Int))) : vs = Vn l := by
  have e2 : (l.map fun (k : Nat) => PyData.int (k : Int)) = (l.map fun (k : Nat) => (k : Int)).map PyData.int := by rw [List.map_map]; rfl
  rw [e2] at h
  have e3 := dpa_ints h
  rw [List.map_map] at e3
  exact e3
theorem ns_dp {a : Addr} {l : List Nat} (h : SqT K H a (Vn l)) : Dp K H (.ref a) (nsD l) := .tup h (ns_dpa l)
end
theorem vn_ints (l : List Nat) : Vn l = (l.map fun (k : Nat) => (k : Int)).map V.int := by rw [List.map_map]; rfl
theorem ties_len {m : Nat} {ts : Ties} (g : Good m ts) : ts.length ≤ 100 := by
  have hn : ts.Nodup := g.asc.imp fun {p q} z e => by subst e; omega
  have hs : ts ⊆ (List.range 7).flatMap fun a => (List.range 7).map fun b => (a, b) := fun p hp => by
    have := g.rng p hp
    have := g.le
    rw [List.mem_flatMap]
    exact ⟨p.1, List.mem_range.mpr (by omega), List.mem_map.mpr ⟨p.2, List.mem_range.mpr (by omega), rfl⟩⟩
  have := hn.length_le_of_subset hs
  have e : ((List.range 7).flatMap fun a => (List.range 7).map fun b => (a, b)).length = 49 := by decide
  omega

/-! ### tuples in the place of lists -/
mutual
def tupD : PyData → PyData
  | .list ds => .tuple (tupDs ds)
  | .tuple ds => .tuple (tupDs ds)
  | d => d
def tupDs : List PyData → List PyData
  | [] => []
  | d :: ds => tupD d :: tupDs ds
end
theorem tupDs_map : ∀ ds : List PyData, tupDs ds = ds.map tupD
  | [] => by rw [tupDs]; rfl
  | d :: ds => by rw [tupDs, tupDs_map ds]; rfl
/-- ints in lists and tuples, n deep -/
def okD : Nat → PyData → Prop
  | 0, _ => False
  | _ + 1, .int _ => True
  | n + 1, .list ds => ds.length ≤ 1000 ∧ ∀ d ∈ ds, okD n d
  | n + 1, .tuple ds => ds.length ≤ 1000 ∧ ∀ d ∈ ds, okD n d
  | _ + 1, _ => False
theorem noL_tup : ∀ {n : Nat} {d : PyData}, okD n d → noL (tupD d) = true
  | 0, _, h => h.elim
  | n + 1, .int _, _ => by simp [tupD, noL]
  | n + 1, .list ds, h => by
    rw [tupD, noL, tupDs_map]
    exact noLs_all fun e he => by
      obtain ⟨d, hd, rfl⟩ := List.mem_map.mp he
      exact noL_tup (h.2 d hd)
  | n + 1, .tuple ds, h => by
    rw [tupD, noL, tupDs_map]
    exact noLs_all fun e he => by
      obtain ⟨d, hd, rfl⟩ := List.mem_map.mp he
      exact noL_tup (h.2 d hd)
theorem tup_net (m : Nat) (ts : Ties) : tupD (netD m ts) = netD m ts := by
  have h : tupDs (ts.map pD) = ts.map pD := by
    rw [tupDs_map, List.map_map]
    refine List.map_congr_left fun p _ => ?_
    simp [pD, tupD, tupDs]
  simp [netD, tsD, tupD, tupDs, h]
theorem tup_netL (m : Nat) (ts : Ties) : tupD (netL m ts) = netD m ts := by
  have h : tupDs (ts.map pL) = ts.map pD := by
    rw [tupDs_map, List.map_map]
    refine List.map_congr_left fun p _ => ?_
    simp [pD, pL, tupD, tupDs]
  simp [netL, tsL, netD, tsD, tupD, tupDs, h]
theorem tup_ns (l : List Nat) : tupD (nsD l) = nsD l := by
  have h : tupDs (l.map fun (k : Nat) => PyData.int (k : Int)) = l.map fun (k : Nat) => PyData.int (k : Int) := by
    rw [tupDs_map, List.map_map]
    exact List.map_congr_left fun p _ => by simp [tupD]
  simp [nsD, tupD, h]
theorem tup_nsL (l : List Nat) : tupD (nsL l) = nsD l := by
  have h : tupDs (l.map fun (k : Nat) => PyData.int (k : Int)) = l.map fun (k : Nat) => PyData.int (k : Int) := by
    rw [tupDs_map, List.map_map]
    exact List.map_congr_left fun p _ => by simp [tupD]
  simp [nsL, nsD, tupD, h]
theorem ok_net {m : Nat} {ts : Ties} (h : ts.length ≤ 1000) : okD 4 (netD m ts) := by
  refine ⟨by simp, fun d hd => ?_⟩
  rcases List.mem_cons.mp hd with rfl | hd
  · exact True.intro
  · rw [List.mem_singleton] at hd
    subst hd
    refine ⟨by rw [List.length_map]; exact h, fun d hd => ?_⟩
    obtain ⟨p, _, rfl⟩ := List.mem_map.mp hd
    refine ⟨by simp, fun d hd => ?_⟩
    simp at hd
    rcases hd with rfl | rfl <;> exact True.intro
theorem ok_netL {m : Nat} {ts : Ties} (h : ts.length ≤ 1000) : okD 4 (netL m ts) := by
  refine ⟨by simp, fun d hd => ?_⟩
  rcases List.mem_cons.mp hd with rfl | hd
  · exact True.intro
  · rw [List.mem_singleton] at hd
    subst hd
    refine ⟨by rw [List.length_map]; exact h, fun d hd => ?_⟩
    obtain ⟨p, _, rfl⟩ := List.mem_map.mp hd
    refine ⟨by simp, fun d hd => ?_⟩
    simp at hd
    rcases hd with rfl | rfl <;> exact True.intro
theorem ok_ns {l : List Nat} (h : l.length ≤ 1000) : okD 2 (nsD l) := ⟨by rw [List.length_map]; exact h, fun d hd => by
  obtain ⟨p, _, rfl⟩ := List.mem_map.mp hd
  exact True.intro⟩
theorem ok_nsL {l : List Nat} (h : l.length ≤ 1000) : okD 2 (nsL l) := ⟨by rw [List.length_map]; exact h, fun d hd => by
  obtain ⟨p, _, rfl⟩ := List.mem_map.mp hd
  exact True.intro⟩
theorem okD_mono : ∀ {n : Nat} {d : PyData}, okD n d → okD (n + 1) d
  | 0, _, h => h.elim
  | n + 1, .int _, _ => True.intro
  | n + 1, .list ds, h => ⟨h.1, fun d hd => okD_mono (h.2 d hd)⟩
  | n + 1, .tuple ds, h => ⟨h.1, fun d hd => okD_mono (h.2 d hd)⟩
end K13

set_option Elab.async false
set_option linter.all false
set_option maxRecDepth 100000
set_option maxHeartbeats 4000000
/-! The text by places: each def, its names, its scope. Printed by gen.py. -/
namespace K13
open PySem L2
def top (i : Nat) : Stmt := PySem.Challenge.pw_eatenorders_k13_whole_worths_beside_all.main.body.getD i (.Pass ⟨0, 0, 0, 0⟩)
abbrev sIsNumber : Stmt := top 4
abbrev nIsNumber : List Str := ["thing"]
abbrev pIsNumber : List Str := ["thing"]
theorem scIsNumber : FnScope nIsNumber pIsNumber (defScope sIsNumber) := ⟨rfl, rfl, rfl, by decide +kernel, rfl, by decide +kernel, by decide +kernel⟩
abbrev sIsFrom : Stmt := top 5
abbrev nIsFrom : List Str := ["thing", "least"]
abbrev pIsFrom : List Str := ["thing", "least"]
theorem scIsFrom : FnScope nIsFrom pIsFrom (defScope sIsFrom) := ⟨rfl, rfl, rfl, by decide +kernel, rfl, by decide +kernel, by decide +kernel⟩
abbrev sIsWithin : Stmt := top 6
abbrev nIsWithin : List Str := ["thing", "least", "most"]
abbrev pIsWithin : List Str := ["thing", "least", "most"]
theorem scIsWithin : FnScope nIsWithin pIsWithin (defScope sIsWithin) := ⟨rfl, rfl, rfl, by decide +kernel, rfl, by decide +kernel, by decide +kernel⟩
abbrev sIsLong : Stmt := top 7
abbrev nIsLong : List Str := ["thing", "length"]
abbrev pIsLong : List Str := ["thing", "length"]
theorem scIsLong : FnScope nIsLong pIsLong (defScope sIsLong) := ⟨rfl, rfl, rfl, by decide +kernel, rfl, by decide +kernel, by decide +kernel⟩
abbrev sTupled : Stmt := top 8
abbrev nTupled : List Str := ["value", "own"]
abbrev pTupled : List Str := ["value"]
theorem scTupled : FnScope nTupled pTupled (defScope sTupled) := ⟨rfl, rfl, rfl, by decide +kernel, rfl, by decide +kernel, by decide +kernel⟩
abbrev sAscends : Stmt := top 9
abbrev nAscends : List Str := ["row", "k"]
abbrev pAscends : List Str := ["row"]
theorem scAscends : FnScope nAscends pAscends (defScope sAscends) := ⟨rfl, rfl, rfl, by decide +kernel, rfl, by decide +kernel, by decide +kernel⟩
abbrev sAreNumbers : Stmt := top 10
abbrev nAreNumbers : List Str := ["thing", "own"]
abbrev pAreNumbers : List Str := ["thing"]
theorem scAreNumbers : FnScope nAreNumbers pAreNumbers (defScope sAreNumbers) := ⟨rfl, rfl, rfl, by decide +kernel, rfl, by decide +kernel, by decide +kernel⟩
abbrev sIsPairOf : Stmt := top 12
abbrev nIsPairOf : List Str := ["many", "thing"]
abbrev pIsPairOf : List Str := ["many", "thing"]
theorem scIsPairOf : FnScope nIsPairOf pIsPairOf (defScope sIsPairOf) := ⟨rfl, rfl, rfl, by decide +kernel, rfl, by decide +kernel, by decide +kernel⟩
abbrev sDirectsBy : Stmt := top 13
abbrev nDirectsBy : List Str := ["many", "pairs", "found", "_", "low", "high", "row"]
abbrev pDirectsBy : List Str := ["many", "pairs"]
theorem scDirectsBy : FnScope nDirectsBy pDirectsBy (defScope sDirectsBy) := ⟨rfl, rfl, rfl, by decide +kernel, rfl, by decide +kernel, by decide +kernel⟩
abbrev sUpsBy : Stmt := top 14
abbrev nUpsBy : List Str := ["directs", "found", "_", "piece", "high"]
abbrev pUpsBy : List Str := ["directs"]
theorem scUpsBy : FnScope nUpsBy pUpsBy (defScope sUpsBy) := ⟨rfl, rfl, rfl, by decide +kernel, rfl, by decide +kernel, by decide +kernel⟩
abbrev sFollowsBy : Stmt := top 15
abbrev nFollowsBy : List Str := ["directs", "ups", "low", "high", "near"]
abbrev pFollowsBy : List Str := ["directs", "ups", "low", "high"]
theorem scFollowsBy : FnScope nFollowsBy pFollowsBy (defScope sFollowsBy) := ⟨rfl, rfl, rfl, by decide +kernel, rfl, by decide +kernel, by decide +kernel⟩
abbrev sTiesBy : Stmt := top 16
abbrev nTiesBy : List Str := ["directs", "ups", "found", "low", "highs", "high"]
abbrev pTiesBy : List Str := ["directs"]
theorem scTiesBy : FnScope nTiesBy pTiesBy (defScope sTiesBy) := ⟨rfl, rfl, rfl, by decide +kernel, rfl, by decide +kernel, by decide +kernel⟩
abbrev sTiesOf : Stmt := top 17
abbrev nTiesOf : List Str := ["pairs", "named", "low", "high", "row", "places", "place", "piece", "ties"]
abbrev pTiesOf : List Str := ["pairs"]
theorem scTiesOf : FnScope nTiesOf pTiesOf (defScope sTiesOf) := ⟨rfl, rfl, rfl, by decide +kernel, rfl, by decide +kernel, by decide +kernel⟩
abbrev sFollowNone : Stmt := top 18
abbrev nFollowNone : List Str := ["ties"]
abbrev pFollowNone : List Str := ["ties"]
theorem scFollowNone : FnScope nFollowNone pFollowNone (defScope sFollowNone) := ⟨rfl, rfl, rfl, by decide +kernel, rfl, by decide +kernel, by decide +kernel⟩
abbrev sIsOrder : Stmt := top 19
abbrev nIsOrder : List Str := ["thing", "own"]
abbrev pIsOrder : List Str := ["thing"]
theorem scIsOrder : FnScope nIsOrder pIsOrder (defScope sIsOrder) := ⟨rfl, rfl, rfl, by decide +kernel, rfl, by decide +kernel, by decide +kernel⟩
abbrev sSureOrder : Stmt := top 20
abbrev nSureOrder : List Str := ["order", "own"]
abbrev pSureOrder : List Str := ["order"]
theorem scSureOrder : FnScope nSureOrder pSureOrder (defScope sSureOrder) := ⟨rfl, rfl, rfl, by decide +kernel, rfl, by decide +kernel, by decide +kernel⟩
abbrev sArePiecesIn : Stmt := top 22
abbrev nArePiecesIn : List Str := ["order", "thing", "own"]
abbrev pArePiecesIn : List Str := ["order", "thing"]
theorem scArePiecesIn : FnScope nArePiecesIn pArePiecesIn (defScope sArePiecesIn) := ⟨rfl, rfl, rfl, by decide +kernel, rfl, by decide +kernel, by decide +kernel⟩
abbrev sIsLeftIn : Stmt := top 23
abbrev nIsLeftIn : List Str := ["order", "thing", "low", "high"]
abbrev pIsLeftIn : List Str := ["order", "thing"]
theorem scIsLeftIn : FnScope nIsLeftIn pIsLeftIn (defScope sIsLeftIn) := ⟨rfl, rfl, rfl, by decide +kernel, rfl, by decide +kernel, by decide +kernel⟩
abbrev sSureLeft : Stmt := top 24
abbrev nSureLeft : List Str := ["order", "left", "own"]
abbrev pSureLeft : List Str := ["order", "left"]
theorem scSureLeft : FnScope nSureLeft pSureLeft (defScope sSureLeft) := ⟨rfl, rfl, rfl, by decide +kernel, rfl, by decide +kernel, by decide +kernel⟩
abbrev sBitsFor : Stmt := top 27
abbrev nBitsFor : List Str := ["pieces", "piece"]
abbrev pBitsFor : List Str := ["pieces"]
theorem scBitsFor : FnScope nBitsFor pBitsFor (defScope sBitsFor) := ⟨rfl, rfl, rfl, by decide +kernel, rfl, by decide +kernel, by decide +kernel⟩
abbrev sPiecesFor : Stmt := top 28
abbrev nPiecesFor : List Str := ["bits", "piece"]
abbrev pPiecesFor : List Str := ["bits"]
theorem scPiecesFor : FnScope nPiecesFor pPiecesFor (defScope sPiecesFor) := ⟨rfl, rfl, rfl, by decide +kernel, rfl, by decide +kernel, by decide +kernel⟩
abbrev sTopsByBits : Stmt := top 29
abbrev nTopsByBits : List Str := ["order", "found", "piece", "low", "high"]
abbrev pTopsByBits : List Str := ["order"]
theorem scTopsByBits : FnScope nTopsByBits pTopsByBits (defScope sTopsByBits) := ⟨rfl, rfl, rfl, by decide +kernel, rfl, by decide +kernel, by decide +kernel⟩
abbrev sLeftsByBits : Stmt := top 30
abbrev nLeftsByBits : List Str := ["order", "lows", "_", "low", "high", "found", "piece", "under", "bits"]
abbrev pLeftsByBits : List Str := ["order"]
theorem scLeftsByBits : FnScope nLeftsByBits pLeftsByBits (defScope sLeftsByBits) := ⟨rfl, rfl, rfl, by decide +kernel, rfl, by decide +kernel, by decide +kernel⟩
abbrev sLeastWithout : Stmt := top 31
abbrev nLeastWithout : List Str := ["numbers", "held", "found", "number"]
abbrev pLeastWithout : List Str := ["numbers"]
theorem scLeastWithout : FnScope nLeastWithout pLeastWithout (defScope sLeastWithout) := ⟨rfl, rfl, rfl, by decide +kernel, rfl, by decide +kernel, by decide +kernel⟩
abbrev sWorthsByBits : Stmt := top 32
abbrev nWorthsByBits : List Str := ["order", "tops", "found", "bits", "piece"]
abbrev pWorthsByBits : List Str := ["order"]
theorem scWorthsByBits : FnScope nWorthsByBits pWorthsByBits (defScope sWorthsByBits) := ⟨rfl, rfl, rfl, by decide +kernel, rfl, by decide +kernel, by decide +kernel⟩
abbrev sWorthIn : Stmt := top 33
abbrev nWorthIn : List Str := ["order"]
abbrev pWorthIn : List Str := ["order"]
theorem scWorthIn : FnScope nWorthIn pWorthIn (defScope sWorthIn) := ⟨rfl, rfl, rfl, by decide +kernel, rfl, by decide +kernel, by decide +kernel⟩
abbrev sLeftWorthIn : Stmt := top 34
abbrev nLeftWorthIn : List Str := ["order", "left"]
abbrev pLeftWorthIn : List Str := ["order", "left"]
theorem scLeftWorthIn : FnScope nLeftWorthIn pLeftWorthIn (defScope sLeftWorthIn) := ⟨rfl, rfl, rfl, by decide +kernel, rfl, by decide +kernel, by decide +kernel⟩
abbrev sLeftSure : Stmt := top 35
abbrev nLeftSure : List Str := ["order", "left", "own"]
abbrev pLeftSure : List Str := ["order", "left"]
theorem scLeftSure : FnScope nLeftSure pLeftSure (defScope sLeftSure) := ⟨rfl, rfl, rfl, by decide +kernel, rfl, by decide +kernel, by decide +kernel⟩
abbrev sWorth : Stmt := top 36
abbrev nWorth : List Str := ["order"]
abbrev pWorth : List Str := ["order"]
theorem scWorth : FnScope nWorth pWorth (defScope sWorth) := ⟨rfl, rfl, rfl, by decide +kernel, rfl, by decide +kernel, by decide +kernel⟩
abbrev sWorthLeft : Stmt := top 37
abbrev nWorthLeft : List Str := ["order", "left", "own", "told"]
abbrev pWorthLeft : List Str := ["order", "left"]
theorem scWorthLeft : FnScope nWorthLeft pWorthLeft (defScope sWorthLeft) := ⟨rfl, rfl, rfl, by decide +kernel, rfl, by decide +kernel, by decide +kernel⟩
abbrev sIsWon : Stmt := top 38
abbrev nIsWon : List Str := ["order", "left"]
abbrev pIsWon : List Str := ["order", "left"]
theorem scIsWon : FnScope nIsWon pIsWon (defScope sIsWon) := ⟨rfl, rfl, rfl, by decide +kernel, rfl, by decide +kernel, by decide +kernel⟩
abbrev sLostLefts : Stmt := top 39
abbrev nLostLefts : List Str := ["order", "worths", "bits"]
abbrev pLostLefts : List Str := ["order"]
theorem scLostLefts : FnScope nLostLefts pLostLefts (defScope sLostLefts) := ⟨rfl, rfl, rfl, by decide +kernel, rfl, by decide +kernel, by decide +kernel⟩
abbrev sByWorth : Stmt := top 40
abbrev nByWorth : List Str := ["order", "told", "number"]
abbrev pByWorth : List Str := ["order"]
theorem scByWorth : FnScope nByWorth pByWorth (defScope sByWorth) := ⟨rfl, rfl, rfl, by decide +kernel, rfl, by decide +kernel, by decide +kernel⟩
abbrev sLwBox : Stmt := top 42
abbrev nLwBox : List Str := ["_law_script", "_law_k", "_law_bit_so"]
abbrev pLwBox : List Str := ["_law_script", "_law_k"]
theorem scLwBox : FnScope nLwBox pLwBox (defScope sLwBox) := ⟨rfl, rfl, rfl, by decide +kernel, rfl, by decide +kernel, by decide +kernel⟩
abbrev sLwTake : Stmt := top 43
abbrev nLwTake : List Str := ["_law_tin", "_law_below_so", "_law_drawn_so", "_law_once_so", "_law_wide_so", "_law_twice_so"]
abbrev pLwTake : List Str := ["_law_tin", "_law_below_so"]
theorem scLwTake : FnScope nLwTake pLwTake (defScope sLwTake) := ⟨rfl, rfl, rfl, by decide +kernel, rfl, by decide +kernel, by decide +kernel⟩
abbrev sLwCells : Stmt := top 44
abbrev nLwCells : List Str := ["_law_script", "_law_most_so", "_law_cells_so", "_law_k", "_law_bit_so", "_law_at_so"]
abbrev pLwCells : List Str := ["_law_script", "_law_most_so"]
theorem scLwCells : FnScope nLwCells pLwCells (defScope sLwCells) := ⟨rfl, rfl, rfl, by decide +kernel, rfl, by decide +kernel, by decide +kernel⟩
abbrev sLwPick : Stmt := top 45
abbrev nLwPick : List Str := ["_law_tin", "_law_goods_so", "_law_count_so", "_law_pool_so", "_law_found", "_law_lap"]
abbrev pLwPick : List Str := ["_law_tin", "_law_goods_so", "_law_count_so"]
theorem scLwPick : FnScope nLwPick pLwPick (defScope sLwPick) := ⟨rfl, rfl, rfl, by decide +kernel, rfl, by decide +kernel, by decide +kernel⟩
abbrev sLwLists : Stmt := top 46
abbrev nLwLists : List Str := ["_law_matter", "_law_bit"]
abbrev pLwLists : List Str := ["_law_matter"]
theorem scLwLists : FnScope nLwLists pLwLists (defScope sLwLists) := ⟨rfl, rfl, rfl, by decide +kernel, rfl, by decide +kernel, by decide +kernel⟩
abbrev sLwSame : Stmt := top 47
abbrev nLwSame : List Str := ["_law_got", "_law_due", "_law_mine", "_law_its"]
abbrev pLwSame : List Str := ["_law_got", "_law_due"]
theorem scLwSame : FnScope nLwSame pLwSame (defScope sLwSame) := ⟨rfl, rfl, rfl, by decide +kernel, rfl, by decide +kernel, by decide +kernel⟩
abbrev sLwNet : Stmt := top 48
abbrev nLwNet : List Str := ["_law_many_so", "_law_pairs_so", "_law_above_so", "_law_k", "_law_low_so", "_law_pair_so", "_law_ties_so", "_law_over_so", "_law_own", "_law_its"]
abbrev pLwNet : List Str := ["_law_many_so", "_law_pairs_so"]
theorem scLwNet : FnScope nLwNet pLwNet (defScope sLwNet) := ⟨rfl, rfl, rfl, by decide +kernel, rfl, by decide +kernel, by decide +kernel⟩
abbrev sLwUps : Stmt := top 49
abbrev nLwUps : List Str := ["_law_net_here", "_law_found", "_law_k", "_law_low_so", "_law_high_so"]
abbrev pLwUps : List Str := ["_law_net_here"]
theorem scLwUps : FnScope nLwUps pLwUps (defScope sLwUps) := ⟨rfl, rfl, rfl, by decide +kernel, rfl, by decide +kernel, by decide +kernel⟩
abbrev sLwBits : Stmt := top 50
abbrev nLwBits : List Str := ["_law_pieces_so", "_law_own"]
abbrev pLwBits : List Str := ["_law_pieces_so"]
theorem scLwBits : FnScope nLwBits pLwBits (defScope sLwBits) := ⟨rfl, rfl, rfl, by decide +kernel, rfl, by decide +kernel, by decide +kernel⟩
abbrev sLwPieces : Stmt := top 51
abbrev nLwPieces : List Str := ["_law_bits_so", "_law_k"]
abbrev pLwPieces : List Str := ["_law_bits_so"]
theorem scLwPieces : FnScope nLwPieces pLwPieces (defScope sLwPieces) := ⟨rfl, rfl, rfl, by decide +kernel, rfl, by decide +kernel, by decide +kernel⟩
abbrev sLwLefts : Stmt := top 52
abbrev nLwLefts : List Str := ["_law_net_here", "_law_found", "_law_k", "_law_under_so", "_law_low_so", "_law_high_so", "_law_own"]
abbrev pLwLefts : List Str := ["_law_net_here"]
theorem scLwLefts : FnScope nLwLefts pLwLefts (defScope sLwLefts) := ⟨rfl, rfl, rfl, by decide +kernel, rfl, by decide +kernel, by decide +kernel⟩
abbrev sLwLeastOut : Stmt := top 53
abbrev nLwLeastOut : List Str := ["_law_some_so", "_law_k"]
abbrev pLwLeastOut : List Str := ["_law_some_so"]
theorem scLwLeastOut : FnScope nLwLeastOut pLwLeastOut (defScope sLwLeastOut) := ⟨rfl, rfl, rfl, by decide +kernel, rfl, by decide +kernel, by decide +kernel⟩
abbrev sLwWorths : Stmt := top 54
abbrev nLwWorths : List Str := ["_law_net_here", "_law_up_so", "_law_found", "_law_bits_so", "_law_k"]
abbrev pLwWorths : List Str := ["_law_net_here"]
theorem scLwWorths : FnScope nLwWorths pLwWorths (defScope sLwWorths) := ⟨rfl, rfl, rfl, by decide +kernel, rfl, by decide +kernel, by decide +kernel⟩
abbrev sLwAside : Stmt := top 55
abbrev nLwAside : List Str := ["_law_near", "_law_far", "_law_own"]
abbrev pLwAside : List Str := ["_law_near", "_law_far"]
theorem scLwAside : FnScope nLwAside pLwAside (defScope sLwAside) := ⟨rfl, rfl, rfl, by decide +kernel, rfl, by decide +kernel, by decide +kernel⟩
abbrev sLwHeap : Stmt := top 56
abbrev nLwHeap : List Str := ["_law_near", "_law_far", "_law_whole_so", "_law_over_so", "_law_low_so", "_law_k"]
abbrev pLwHeap : List Str := ["_law_near", "_law_far"]
theorem scLwHeap : FnScope nLwHeap pLwHeap (defScope sLwHeap) := ⟨rfl, rfl, rfl, by decide +kernel, rfl, by decide +kernel, by decide +kernel⟩
abbrev sLwOrder : Stmt := top 57
abbrev nLwOrder : List Str := ["_law_tin", "_law_most_so", "_law_many_so", "_law_kind_so", "_law_k", "_law_cut_so", "_law_near", "_law_far", "_law_more_so"]
abbrev pLwOrder : List Str := ["_law_tin", "_law_most_so"]
theorem scLwOrder : FnScope nLwOrder pLwOrder (defScope sLwOrder) := ⟨rfl, rfl, rfl, by decide +kernel, rfl, by decide +kernel, by decide +kernel⟩
abbrev sLwLooseNet : Stmt := top 58
abbrev nLwLooseNet : List Str := ["_law_tin", "_law_many_so", "_law_chance_so", "_law_pairs_so", "_law_high_so", "_law_low_so"]
abbrev pLwLooseNet : List Str := ["_law_tin", "_law_many_so"]
theorem scLwLooseNet : FnScope nLwLooseNet pLwLooseNet (defScope sLwLooseNet) := ⟨rfl, rfl, rfl, by decide +kernel, rfl, by decide +kernel, by decide +kernel⟩
abbrev sLwByHandRight : Stmt := top 59
abbrev nLwByHandRight : List Str := ["_law_vee_so", "_law_cap_so", "_law_three_so", "_law_got", "_law_own", "_law_due", "_law_twelve_so", "_law_told"]
abbrev pLwByHandRight : List Str := []
theorem scLwByHandRight : FnScope nLwByHandRight pLwByHandRight (defScope sLwByHandRight) := ⟨rfl, rfl, rfl, by decide +kernel, rfl, by decide +kernel, by decide +kernel⟩
abbrev sLwWins : Stmt := top 60
abbrev nLwWins : List Str := ["_law_net_here", "_law_bits_so", "_law_up_so", "_law_known_so", "_law_own", "_law_k"]
abbrev pLwWins : List Str := ["_law_net_here", "_law_bits_so"]
theorem scLwWins : FnScope nLwWins pLwWins (defScope sLwWins) := ⟨rfl, rfl, rfl, by decide +kernel, rfl, by decide +kernel, by decide +kernel⟩
abbrev sLwRight : Stmt := top 61
abbrev nLwRight : List Str := ["_law_tin", "_law_net_here", "_law_worths_so", "_law_soft_so", "_law_rows_so", "_law_own", "_law_got", "_law_most_so", "_law_counts_so", "_law_k", "_law_left_so", "_law_number_so"]
abbrev pLwRight : List Str := ["_law_tin"]
theorem scLwRight : FnScope nLwRight pLwRight (defScope sLwRight) := ⟨rfl, rfl, rfl, by decide +kernel, rfl, by decide +kernel, by decide +kernel⟩
abbrev sLaw : Stmt := top 62
abbrev nLaw : List Str := ["_law_script"]
abbrev pLaw : List Str := ["_law_script"]
theorem scLaw : FnScope nLaw pLaw (defScope sLaw) := ⟨rfl, rfl, rfl, by decide +kernel, rfl, by decide +kernel, by decide +kernel⟩
end K13

set_option Elab.async false
set_option linter.all false
set_option maxRecDepth 100000
set_option maxHeartbeats 4000000
/-! Comprehensions that make new lists or dicts; dicts of True. -/
namespace K13
open PySem PySem.Spec PyProof.Rows L2

theorem pg_tupK {X : Cx} {K : PySem.W.Frag} {es : List Expr} {k : Nat} {pos : Pos} {t : TGs} {n : Nat} (hK : X.K = K) (hc : X.calm = true) (h : PGs X es t)
    (hn : (assignEach es X.env).length = n := by rfl) (hst : (assignEach es X.env).findIdx? (·.1) = none := by rfl) : PG X (.Tuple es k pos) (gTup K n t) := by
  subst hK
  exact pg_tup hc h hn hst
def tTru (K : PySem.W.Frag) (ta : TE) : TT := fun σ H Q => ta σ H fun x H' => ∃ k, TruV K x H' k ∧ Q k H'
theorem pt_truthK {X : Cx} {K : PySem.W.Frag} {a : Expr} {ta : TE} (hK : X.K = K) (ha : PE X a ta) (he : ∀ whole, isTrue a X.env whole = (do let v ← whole; standAt a.pos; holding [v] (truthy v))) :
    PT X a (tTru K ta) := by
  subst hK
  exact pt_truth ha he
theorem walk_down {lo : Int} {n : Nat} (h : lo = (n : Int) - 1) : Walk (Itc lo (-1) n) n (fun _ => True) (fun i H x H' => H' = H ∧ x = .int ((n - 1 - i : Nat) : Int)) :=
  ⟨fun _ _ hi _ => hi, fun _ _ => Nat.le_refl _, fun i H x H' hi _ y => ⟨y.1, by rw [y.2, h]; exact congrArg V.int (by omega)⟩⟩
theorem tyv_dict {K : PySem.W.Frag} {H : Hp} {p : Addr} {kvs : List (Key × V)} (h : H p = some (.dK kvs)) : tyV K "dict" (.ref p) H := Or.inr (Or.inr (Or.inl ⟨rfl, Or.inl ⟨_, h⟩⟩))
theorem tyv_list {K : PySem.W.Frag} {H : Hp} {p : Addr} {xs : List V} (h : SqL K H p xs) : tyV K "list" (.ref p) H := Or.inl ⟨rfl, _, h⟩
/-! ### dicts of True -/
def keysOf (l : List Nat) : List (Key × V) := l.map fun (h : Nat) => (Sum.inl (h : Int), V.bl true)
theorem keysOf_len (l : List Nat) : (keysOf l).length = l.length := by unfold keysOf; rw [List.length_map]
theorem valV_keys (k : Nat) : ∀ l : List Nat, valV (keysOf l) (Sum.inl (k : Int) : Key) = if k ∈ l then some (.bl true) else none
  | [] => by simp [keysOf, valV_nil]
  | a :: l => by
    have ih := valV_keys k l
    show valV ((Sum.inl (a : Int), V.bl true) :: keysOf l) (Sum.inl (k : Int)) = _
    by_cases h : a = k
    · subst h
      rw [valV_pos rfl]
      simp
    · have h1 : ¬ (Sum.inl (a : Int) : Key) = Sum.inl (k : Int) := fun z => h (by have := Sum.inl.inj z; omega)
      rw [valV_neg h1, ih]
      have h2 : ¬ k = a := fun z => h z.symm
      simp [h2]
theorem any_keys (k : Nat) (l : List Nat) : ((keysOf l).any fun kv => decide (kv.1 = (Sum.inl (k : Int) : Key))) = decide (k ∈ l) := by
  rw [valV_any, valV_keys]
  by_cases h : k ∈ l <;> simp [h]
theorem putK_keys (l : List Nat) (k : Nat) : putK (keysOf l) (Sum.inl (k : Int)) (.bl true) = keysOf (addN l k) := by
  unfold addN
  by_cases h : k ∈ l
  · rw [if_pos h]
    unfold putK
    rw [any_keys, if_pos (decide_eq_true h)]
    unfold keysOf
    rw [List.map_map]
    refine List.map_congr_left fun x _ => ?_
    show (if (Sum.inl (x : Int) : Key) = Sum.inl (k : Int) then ((Sum.inl (x : Int) : Key), V.bl true) else (Sum.inl (x : Int), V.bl true)) = _
    split <;> rfl
  · rw [if_neg h, putK_new _ (by rw [valV_keys, if_neg h])]
    unfold keysOf
    rw [List.map_append]; rfl
theorem mergeK_keys : ∀ (m l : List Nat), mergeK (keysOf l) (keysOf m) = keysOf (m.foldl addN l)
  | [], l => rfl
  | k :: m, l => by
    have := mergeK_keys m (addN l k)
    rw [List.foldl_cons, ← this]
    show mergeK (putK (keysOf l) (Sum.inl (k : Int)) (.bl true)) (keysOf m) = _
    rw [putK_keys]
theorem keys_fst (l : List Nat) : (keysOf l).map (·.1) = (l.map fun (h : Nat) => (h : Int)).map Sum.inl := by
  unfold keysOf
  rw [List.map_map, List.map_map]; rfl
theorem mem_foldl_addN : ∀ (m l : List Nat) (x : Nat), x ∈ m.foldl addN l ↔ x ∈ l ∨ x ∈ m
  | [], l, x => by simp
  | k :: m, l, x => by
    rw [List.foldl_cons, mem_foldl_addN m, mem_addN, List.mem_cons]
    constructor
    · rintro ((h | h) | h)
      · exact .inl h
      · exact .inr (.inl h)
      · exact .inr (.inr h)
    · rintro (h | h | h)
      · exact .inl (.inl h)
      · exact .inl (.inr h)
      · exact .inr h
theorem foldl_addN_nodup : ∀ (m l : List Nat), l.Nodup → (m.foldl addN l).Nodup
  | [], _, h => h
  | k :: m, l, h => by
    rw [List.foldl_cons]
    exact foldl_addN_nodup m _ (addN_nodup h)

theorem fm_if {α : Type} (p : Nat → Bool) (f : Nat → α) : ∀ l : List Nat, l.filterMap (fun j => if p j = true then some (f j) else none) = (l.filter p).map f
  | [] => rfl
  | a :: l => by
    rw [List.filterMap_cons, List.filter_cons]
    cases h : p a with
    | true => simp [fm_if p f l]
    | false => simp [fm_if p f l]
/-- places by pieces -/
def plc (row : List Nat) (n : Nat) : List (Key × V) := (List.range n).map fun j => (Sum.inl ((row.getD j 0 : Nat) : Int), V.int (j : Int))
theorem plc_succ (row : List Nat) (n : Nat) : plc row (n + 1) = plc row n ++ [(Sum.inl ((row.getD n 0 : Nat) : Int), V.int (n : Int))] := by
  unfold plc
  rw [List.range_succ, List.map_append]; rfl
theorem getD_inj {row : List Nat} (hn : row.Nodup) {i j : Nat} (hi : i < row.length) (hj : j < row.length) (h : row.getD i 0 = row.getD j 0) : i = j := by
  rw [List.getD_eq_getElem?_getD, List.getD_eq_getElem?_getD, List.getElem?_eq_getElem hi, List.getElem?_eq_getElem hj] at h
  exact (List.getElem_inj hn).mp h
theorem plc_none {row : List Nat} (hn : row.Nodup) {n k : Nat} (hk : k < row.length) : ∀ m, m ≤ n → n ≤ k → valV (plc row m) (Sum.inl ((row.getD k 0 : Nat) : Int) : Key) = none
  | 0, _, _ => rfl
  | m + 1, h1, h2 => by
    have ih := plc_none hn hk m (by omega) h2
    have hne : ¬ (Sum.inl ((row.getD k 0 : Nat) : Int) : Key) = Sum.inl ((row.getD m 0 : Nat) : Int) := fun z => by
      have := Sum.inl.inj z
      have := getD_inj hn hk (by omega : m < row.length) (by omega)
      omega
    have ihm : valV (plc row m) (Sum.inl ((row.getD m 0 : Nat) : Int) : Key) = none := plc_none (n := m) hn (by omega) m (Nat.le_refl _) (Nat.le_refl _)
    rw [plc_succ, valV_snoc _ _ _ _ ihm, if_neg hne, ih]
theorem plc_val {row : List Nat} (hn : row.Nodup) {k : Nat} : ∀ n, n ≤ row.length → k < n → valV (plc row n) (Sum.inl ((row.getD k 0 : Nat) : Int) : Key) = some (.int (k : Int))
  | 0, _, h => absurd h (Nat.not_lt_zero _)
  | n + 1, h1, h2 => by
    have ihn : valV (plc row n) (Sum.inl ((row.getD n 0 : Nat) : Int) : Key) = none := plc_none (n := n) hn (by omega) n (Nat.le_refl _) (Nat.le_refl _)
    rw [plc_succ, valV_snoc _ _ _ _ ihn]
    by_cases e : k = n
    · subst e
      rw [if_pos rfl]
    · rw [if_neg (fun z => e (getD_inj hn (by omega) (by omega) (by have := Sum.inl.inj z; omega)))]
      exact plc_val hn n (by omega) (by omega)
theorem plc_idx {row : List Nat} (ha : row.Pairwise (· < ·)) {x : Nat} (hx : x ∈ row) : valV (plc row row.length) (Sum.inl (x : Int) : Key) = some (.int (row.idxOf x : Int)) := by
  have h := plc_val (ha.imp fun {a b} z => Nat.ne_of_lt z) row.length (Nat.le_refl _) (idx_lt hx)
  have e : row.getD (row.idxOf x) 0 = x := by rw [List.getD_eq_getElem?_getD, idx_get hx]; rfl
  rw [e] at h
  exact h
theorem plc_len (row : List Nat) (n : Nat) : (plc row n).length = n := by unfold plc; rw [List.length_map, List.length_range]

/-! ### new lists or dicts, n of them -/
structure News (H1 H : Hp) (D : Addr) (fs : List Addr) (n : Nat) (o : HO) : Prop where
  none : H1 D = none
  same : Same H1 H
  at_ : H D = some (.lst (fs.map V.ref))
  len : fs.length = n
  nd : fs.Nodup
  off : D ∉ fs
  new : ∀ f ∈ fs, H1 f = Option.none
  obj : ∀ f ∈ fs, H f = some o
theorem lc_news {J : It} {n : Nat} {G : Hp → Prop} {Y : Nat → Hp → V → Hp → Prop} (w : Walk J n G Y) {g : TG} {te : TE} {vs : List Nat} {σ : L2.St} {H1 : Hp} {D : Addr} {Qd : Hp → Prop} (hD : H1 D = none) (hG : ∀ H, Same H1 H → G H) (hn : n ≤ 100000) (o : HO)
    (hs : ∀ i x H H', i < n → Same H1 H → Y i H x H' → ∀ (Ky : V → Hp → Prop), (∀ p, H p = none → Ky (.ref p) (upd H p o)) → g x (wipe σ vs) H' fun σ2 H2 => wipe σ2 vs = wipe σ vs ∧ te σ2 H2 Ky)
    (hd : ∀ H fs, News H1 H D fs n o → Qd H) :
    ∃ W : Nat → Nat → Hp → Prop, (∃ m, W 0 m (upd H1 D (.lst []))) ∧ ∀ i m H, W i m H →
      (J.stop i H ∧ Qd H) ∨ (J.go i H ∧ ∃ Nx : Hp → Prop, (∀ H', Nx H' → ∃ m', m' < m ∧ W (i + 1) m' H') ∧ ∀ x H', J.yld i H x H' → g x (wipe σ vs) H' fun σ2 H2 => wipe σ2 vs = wipe σ vs ∧ tYes σ2 H2 fun b H3 =>
        if b = true then te σ2 H3 fun y H4 => ∃ acc, H4 D = some (.lst acc) ∧ acc.length < sizeLine ∧ Nx (upd H4 D (.lst (acc ++ [y]))) else Nx H3) := by
  refine lc_it w (fun i H => i ≤ n ∧ ∃ fs, News H1 H D fs i o) ⟨Nat.zero_le _, [], hD, same_new hD _, upd_same, rfl, List.nodup_nil, by simp, by simp, by simp⟩ (fun i H _ p => hG H p.2.choose_spec.same) (fun i x H H' hi p y => ?_) (fun H ⟨_, fs, p⟩ => hd H fs p)
  obtain ⟨_, fs, p⟩ := p
  refine hs i x H H' hi p.same y _ (fun q hq => ⟨fs.map V.ref, ?_, ?_, hi, fs ++ [q], ?_⟩)
  · rw [upd_ne (ne_of_none p.at_ hq)]; exact p.at_
  · rw [List.length_map, p.len]; exact Evl.sz_lt (by omega)
  · have hqD : q ≠ D := fun z => by rw [z, p.at_] at hq; cases hq
    have hqf : q ∉ fs := fun z => by rw [p.obj q z] at hq; cases hq
    refine ⟨hD, same_upd (p.same.trans (same_new hq _)) hD, ?_, by rw [List.length_append, p.len]; rfl, ?_, ?_, fun f hf => ?_, fun f hf => ?_⟩
    · rw [upd_same, List.map_append]; rfl
    · rw [List.nodup_append]
      exact ⟨p.nd, by simp, fun a ha b hb e => hqf (by rw [List.mem_singleton] at hb; rw [← hb, ← e]; exact ha)⟩
    · rw [List.mem_append, List.mem_singleton]
      rintro (z | z)
      · exact p.off z
      · exact hqD z.symm
    · rcases List.mem_append.mp hf with z | z
      · exact p.new f z
      · rw [List.mem_singleton] at z
        rw [z]
        exact p.same.free hq
    · rcases List.mem_append.mp hf with z | z
      · rw [upd_ne (fun e => p.off (by rw [← e]; exact z)), upd_ne (fun e => hqf (by rw [← e]; exact z))]
        exact p.obj f z
      · rw [List.mem_singleton] at z
        rw [z, upd_ne hqD, upd_same]

/-! ### lists of lists of numbers -/
def LL (H : Hp) (L : Addr) (n : Nat) (g : Nat → List Nat) : Prop := ∃ rs : List Addr, H L = some (.lst (rs.map V.ref)) ∧ rs.length = n ∧ ∀ i r, rs[i]? = some r → H r = some (.lst (Vn (g i)))
theorem LL.same {H H' : Hp} {L : Addr} {n : Nat} {g : Nat → List Nat} (e : Same H H') (h : LL H L n g) : LL H' L n g := by
  obtain ⟨rs, h1, h2, h3⟩ := h
  exact ⟨rs, e _ _ h1, h2, fun i r hr => e _ _ (h3 i r hr)⟩
theorem LL.at_ {H : Hp} {L : Addr} {n : Nat} {g : Nat → List Nat} (h : LL H L n g) {i : Nat} (hi : i < n) : ∃ xs r, H L = some (.lst xs) ∧ xs.length = n ∧ xs[i]? = some (.ref r) ∧ H r = some (.lst (Vn (g i))) := by
  obtain ⟨rs, h1, h2, h3⟩ := h
  have hr : rs[i]? = some rs[i] := List.getElem?_eq_getElem (by omega)
  exact ⟨_, rs[i], h1, by rw [List.length_map]; exact h2, by rw [List.getElem?_map, hr]; rfl, h3 i _ hr⟩
theorem lc_LL {J : It} {n : Nat} {G : Hp → Prop} {Y : Nat → Hp → V → Hp → Prop} (w : Walk J n G Y) {gt : TG} {te : TE} {vs : List Nat} {σ : L2.St} {H1 : Hp} {D : Addr} {Qd : Hp → Prop} (hD : H1 D = none) (hG : ∀ H, Same H1 H → G H) (hn : n ≤ 100000) (g : Nat → List Nat)
    (hs : ∀ i x H H', i < n → Same H1 H → Y i H x H' → ∀ (Ky : V → Hp → Prop), (∀ p, H p = none → Ky (.ref p) (upd H p (.lst (Vn (g i))))) → gt x (wipe σ vs) H' fun σ2 H2 => wipe σ2 vs = wipe σ vs ∧ te σ2 H2 Ky)
    (hd : ∀ H, Same H1 H → LL H D n g → Qd H) :
    ∃ W : Nat → Nat → Hp → Prop, (∃ m, W 0 m (upd H1 D (.lst []))) ∧ ∀ i m H, W i m H →
      (J.stop i H ∧ Qd H) ∨ (J.go i H ∧ ∃ Nx : Hp → Prop, (∀ H', Nx H' → ∃ m', m' < m ∧ W (i + 1) m' H') ∧ ∀ x H', J.yld i H x H' → gt x (wipe σ vs) H' fun σ2 H2 => wipe σ2 vs = wipe σ vs ∧ tYes σ2 H2 fun b H3 =>
        if b = true then te σ2 H3 fun y H4 => ∃ acc, H4 D = some (.lst acc) ∧ acc.length < sizeLine ∧ Nx (upd H4 D (.lst (acc ++ [y]))) else Nx H3) := by
  refine lc_it w (fun i H => i ≤ n ∧ Same H1 H ∧ ∃ rs : List Addr, H D = some (.lst (rs.map V.ref)) ∧ rs.length = i ∧ ∀ j r, rs[j]? = some r → r ≠ D ∧ H r = some (.lst (Vn (g j)))) ⟨Nat.zero_le _, same_new hD _, [], upd_same, rfl, fun j r h => by cases h⟩ (fun i H _ p => hG H p.2.1) (fun i x H H' hi p y => ?_)
    (fun H ⟨_, e, rs, h1, h2, h3⟩ => hd H e ⟨rs, h1, h2, fun i r h => (h3 i r h).2⟩)
  obtain ⟨_, e, rs, h1, h2, h3⟩ := p
  refine hs i x H H' hi e y _ (fun q hq => ⟨rs.map V.ref, ?_, ?_, hi, same_upd (e.trans (same_new hq _)) hD, rs ++ [q], ?_, ?_, fun j r hj => ?_⟩)
  · rw [upd_ne (ne_of_none h1 hq)]; exact h1
  · rw [List.length_map, h2]; exact Evl.sz_lt (by omega)
  · rw [upd_same, List.map_append]; rfl
  · rw [List.length_append, h2]; rfl
  · have hqD : q ≠ D := fun z => by rw [z, h1] at hq; cases hq
    by_cases hj' : j < rs.length
    · rw [List.getElem?_append_left hj'] at hj
      obtain ⟨a, b⟩ := h3 j r hj
      exact ⟨a, by rw [upd_ne a, upd_ne (ne_of_none b hq)]; exact b⟩
    · rw [List.getElem?_append_right (by omega)] at hj
      have : j - rs.length = 0 := by
        refine Classical.byContradiction fun z => ?_
        rw [List.getElem?_eq_none (by simp; omega)] at hj
        cases hj
      rw [this] at hj
      have hr : q = r := Option.some.inj hj
      subst hr
      refine ⟨hqD, ?_⟩
      rw [upd_ne hqD, upd_same, show j = i by omega]

/-! ### a dict comprehension over what is walked -/
theorem dc_it {J : It} {n : Nat} {G : Hp → Prop} {Y : Nat → Hp → V → Hp → Prop} (w : Walk J n G Y) {g : TG} {tt : TT} {tk tv : TE} {vs : List Nat} {σ : L2.St} {H1 : Hp} {D : Addr} {Qd : Hp → Prop} (Pv : Nat → Hp → Prop) (h0 : Pv 0 (upd H1 D (.dK []))) (hG : ∀ i H, i ≤ n → Pv i H → G H)
    (hs : ∀ i x H H', i < n → Pv i H → Y i H x H' → g x (wipe σ vs) H' fun σ2 H2 => wipe σ2 vs = wipe σ vs ∧ tt σ2 H2 fun b H3 =>
      if b = true then tk σ2 H3 fun y H4 => tv σ2 H4 fun z H5 => ∃ kvs k, y = kV k ∧ H5 D = some (.dK kvs) ∧ kvs.length < sizeLine ∧ Pv (i + 1) (upd H5 D (.dK (putK kvs k z))) else Pv (i + 1) H3) (hd : ∀ H, Pv n H → Qd H) :
    ∃ W : Nat → Nat → Hp → Prop, (∃ m, W 0 m (upd H1 D (.dK []))) ∧ ∀ i m H, W i m H →
      (J.stop i H ∧ Qd H) ∨ (J.go i H ∧ ∃ Nx : Hp → Prop, (∀ H', Nx H' → ∃ m', m' < m ∧ W (i + 1) m' H') ∧ ∀ x H', J.yld i H x H' → g x (wipe σ vs) H' fun σ2 H2 => wipe σ2 vs = wipe σ vs ∧ tt σ2 H2 fun b H3 =>
        if b = true then tk σ2 H3 fun y H4 => tv σ2 H4 fun z H5 => ∃ kvs k, y = kV k ∧ H5 D = some (.dK kvs) ∧ kvs.length < sizeLine ∧ Nx (upd H5 D (.dK (putK kvs k z))) else Nx H3) := by
  refine ⟨fun i m H => m = n - i ∧ i ≤ n ∧ Pv i H, ⟨n, by simp, Nat.zero_le _, h0⟩, ?_⟩
  rintro i m H ⟨rfl, hi, p⟩
  have q := hG i H hi p
  by_cases hlt : i < n
  · refine .inr ⟨w.goes i H hlt q, Pv (i + 1), fun H' p' => ⟨n - (i + 1), by omega, rfl, hlt, p'⟩, fun x H' y => hs i x H H' hlt p (w.yields i H x H' hlt q y)⟩
  · have e : i = n := by omega
    subst e
    exact .inl ⟨w.stops H q, hd H p⟩
end K13

set_option Elab.async false
set_option linter.all false
set_option maxRecDepth 100000
set_option maxHeartbeats 4000000
/-! The walk, part 1: numbers, tuples, pieces. -/
namespace K13
open PySem PySem.Spec PyProof.Rows L2
/-- a def of the module under its name -/
structure Def (K : PySem.W.Frag) (mg : Str → Option Value) (x : Str) (st : Stmt) (ps : List Str) : Prop where
  ex : ∃ (f : Addr) (fd : FuncData), Fun K x x st f fd ∧ mg x = some (.ref f) ∧ Binds K fd ps []
section
variable {P : Program} {w : World} {K : PySem.W.Frag} {mg : Str → Option Value} {base : Heap}
theorem cal_of {x : Str} {st : Stmt} {N ps : List Str} {k : Nat} {sp : Sp} (D : Def K mg x st ps) (S : FnScope N ps (defScope st)) (len : ∀ vs H Q E, sp vs H Q E → vs.length = ps.length)
    (hbody : ∀ (f : Addr) (cdv : Value) (A : Around) (outer : List Env) (s : Shared) (H : Hp) (vs : List V) (Q : VK) (E : XK), Room k (A.deeper (envOfC x (defScope st) s.heap.objs.size f cdv)) → sp vs H Q E →
      ∃ t, PSs (cxOf CX0 P w K mg base N x (defScope st) f cdv A outer s H E).nox (defBody st) t ∧ t { nx := fun _ H' => Q .non H', rt := Q } (start N vs) H) : Cal P w K mg base (k + 1) x ps sp := by
  obtain ⟨f, fd, F, hm, hb⟩ := D.ex
  exact ⟨f, fd, F.ok S len (hbody f), hm, F.kp, hb⟩

def spIsNumber : Sp := fun vs H Q _ => ∃ i : Int, vs = [.int i] ∧ Q (.bl true) H
theorem ok_is_number (T : Txt mg) (D : Def K mg "is_number" sIsNumber pIsNumber) : Cal P w K mg base 1 "is_number" pIsNumber spIsNumber := by
  refine cal_of D scIsNumber (fun vs H Q E h => ?_) (fun f cdv A outer s H vs Q E hr h => ?_)
  · obtain ⟨i, rfl, _⟩ := h; rfl
  obtain ⟨i, rfl, q⟩ := h
  refine ⟨_, (pss_one (ps_ret (pe_and (pe_callB call_isi rfl T.isi b_isinstance (pa_cons (pv 0) (pa_cons (pe_bltn (v := .ty "int") rfl T.int_ b_int rfl) pa_nil))) (pe_one (pe_not (pe_callB call_isi rfl T.isi b_isinstance (pa_cons (pv 0) (pa_cons (pe_bltn (v := .ty "bool") rfl T.bool_ b_bool rfl) pa_nil)))))))), ?_⟩
  refine ⟨_, rfl, _, _, _, _, _, rfl, .ty _, tyx_int, kit_int_int, true, rfl, ?_⟩
  refine iteT ⟨_, rfl, _, _, _, _, _, rfl, .ty _, tyx_int, kit_int_bool, false, rfl, q⟩
def spIsFrom : Sp := fun vs H Q _ => ∃ i j : Int, vs = [.int i, .int j] ∧ Q (.bl (decide (j ≤ i))) H
theorem ok_is_from (D : Def K mg "is_from" sIsFrom pIsFrom) (cIsNumber : Cal P w K mg base 1 "is_number" pIsNumber spIsNumber) : Cal P w K mg base 2 "is_from" pIsFrom spIsFrom := by
  refine cal_of D scIsFrom (fun vs H Q E h => ?_) (fun f cdv A outer s H vs Q E hr h => ?_)
  · obtain ⟨i, j, rfl, _⟩ := h; rfl
  obtain ⟨i, j, rfl, q⟩ := h
  refine ⟨_, (pss_one (ps_ret (pe_and (pe_c cIsNumber hr (by decide) rfl (pa_cons (pv 0) pa_nil)) (pe_one (pe_cmpR op_ge (pv 0) (pv 1) (nomark _)))))), ?_⟩
  exact ⟨_, rfl, i, rfl, true, rfl, iteT ⟨_, rfl, _, rfl, _, _, rfl, rfl, q⟩⟩
def spIsWithin : Sp := fun vs H Q _ => ∃ i lo hi : Int, vs = [.int i, .int lo, .int hi] ∧ Q (.bl (decide (lo ≤ i ∧ i ≤ hi))) H
theorem ok_is_within (D : Def K mg "is_within" sIsWithin pIsWithin) (cIsNumber : Cal P w K mg base 1 "is_number" pIsNumber spIsNumber) : Cal P w K mg base 2 "is_within" pIsWithin spIsWithin := by
  refine cal_of D scIsWithin (fun vs H Q E h => ?_) (fun f cdv A outer s H vs Q E hr h => ?_)
  · obtain ⟨i, lo, hi, rfl, _⟩ := h; rfl
  obtain ⟨i, lo, hi, rfl, q⟩ := h
  refine ⟨_, (pss_one (ps_ret (pe_and (pe_c cIsNumber hr (by decide) rfl (pa_cons (pv 0) pa_nil)) (pe_one (pe_chain op_le op_le (pv 1) (pv 0) (pv 2)))))), ?_⟩
  refine ⟨_, rfl, i, rfl, true, rfl, iteT ⟨_, rfl, _, rfl, _, _, rfl, rfl, _, rfl, ?_⟩⟩
  by_cases h1 : lo ≤ i
  · rw [decide_eq_true h1]
    refine iteT ⟨_, rfl, _, _, rfl, rfl, ?_⟩
    have e : decide (lo ≤ i ∧ i ≤ hi) = decide (i ≤ hi) := by simp [h1]
    rw [e] at q
    exact q
  · rw [decide_eq_false h1]
    have e : decide (lo ≤ i ∧ i ≤ hi) = false := by simp [h1]
    rw [e] at q
    exact iteF q
def spIsLong (K : PySem.W.Frag) : Sp := fun vs H Q _ => ∃ (a : Addr) (xs : List V), vs = [.ref a, .int xs.length] ∧ SqT K H a xs ∧ Q (.bl true) H
theorem ok_is_long (T : Txt mg) (D : Def K mg "is_long" sIsLong pIsLong) : Cal P w K mg base 1 "is_long" pIsLong (spIsLong K) := by
  refine cal_of D scIsLong (fun vs H Q E h => ?_) (fun f cdv A outer s H vs Q E hr h => ?_)
  · obtain ⟨a, xs, rfl, _⟩ := h; rfl
  obtain ⟨a, xs, rfl, ha, q⟩ := h
  refine ⟨_, (pss_one (ps_ret (pe_and (pe_callB call_isi rfl T.isi b_isinstance (pa_cons (pv 0) (pa_cons (pe_bltn (v := .ty "tuple") rfl T.tuple_ b_tuple rfl) pa_nil))) (pe_one (pe_cmpR op_eq (pe_callB call_len_seq rfl T.len b_len (pa_cons (pv 0) pa_nil)) (pv 1) (nomark _)))))), ?_⟩
  refine ⟨_, rfl, _, _, _, _, _, rfl, .ty _, tyx_tup ha, kit_tup_tup, true, rfl, iteT ⟨_, rfl, a, xs, rfl, .inr ha, _, rfl, rfl, ?_⟩⟩
  show Q (.bl (decide (V.int (xs.length : Int) = V.int (xs.length : Int)))) H
  rw [decide_eq_true rfl]
  exact q
def spAreNumbers (K : PySem.W.Frag) : Sp := fun vs H Q _ => ∃ (a : Addr) (ns : List Int), vs = [.ref a] ∧ SqT K H a (ns.map V.int) ∧ ns.length ≤ 1000 ∧ ∀ H', Same H H' → Q (.bl true) H'
theorem ok_are_numbers (T : Txt mg) (D : Def K mg "are_numbers" sAreNumbers pAreNumbers) (cIsNumber : Cal P w K mg base 1 "is_number" pIsNumber spIsNumber) : Cal P w K mg base 2 "are_numbers" pAreNumbers (spAreNumbers K) := by
  refine cal_of D scAreNumbers (fun vs H Q E h => ?_) (fun f cdv A outer s H vs Q E hr h => ?_)
  · obtain ⟨a, ns, rfl, _⟩ := h; rfl
  obtain ⟨a, ns, rfl, ha, hl, q⟩ := h
  refine ⟨_, (pss_one (ps_ret (pe_and (pe_callB call_isi rfl T.isi b_isinstance (pa_cons (pv 0) (pa_cons (pe_bltn (v := .ty "tuple") rfl T.tuple_ b_tuple rfl) pa_nil))) (pe_one (pe_callB (cr_all rfl) rfl T.all b_all (pa_cons (pe_lc (own := [("own", 1)]) rfl scAreNumbers.nd (pi_tup (pv 0)) (blkOk_by (N := nAreNumbers) (sc := defScope sAreNumbers) (by decide +kernel)) (fun _ _ _ _ _ => pg_name (i := 1) scAreNumbers.nd rfl (Or.inl rfl)) (fun _ _ _ _ _ => pts_nil) (fun _ _ _ _ _ => pe_c cIsNumber hr (by decide) rfl (pa_cons (pv 1) pa_nil))) pa_nil)))))), ?_⟩
  refine ⟨_, rfl, _, _, _, _, _, rfl, .ty _, tyx_tup ha, kit_tup_tup, true, rfl, iteT ?_⟩
  refine ⟨_, rfl, a, rfl, ⟨_, ha⟩, fun L hL => ?_⟩
  refine lc_map (K := K) (walk_tup (K := K) (xs := ns.map V.int)) hL (fun H' e => seqT e ha) (by rw [List.length_map]; omega) (fun _ => .bool true) (fun _ _ => rfl) (fun i x H1 H2 hi e1 y Ky hy => ?_) (fun H1 xs e1 hL1 hx => ?_)
  · obtain ⟨rfl, hx⟩ := y
    rw [List.getElem?_map] at hx
    obtain ⟨z, _, rfl⟩ := Option.map_eq_some_iff.mp hx
    exact ⟨rfl, _, rfl, z, rfl, hy _ _ (Same.refl _) (.bl true)⟩
  · exact all_ok hL1 hx (q _ e1)

/-! ### tupled -/
theorem cal_none {x : Str} {st : Stmt} {ps : List Str} {sp : Sp} (D : Def K mg x st ps) (no : ∀ vs H Q E, ¬ sp vs H Q E) : Cal P w K mg base 0 x ps sp := by
  obtain ⟨f, fd, F, hm, hb⟩ := D.ex
  exact ⟨f, fd, ⟨fun vs H Q E h => absurd h (no vs H Q E), fun A outer s H args us vs Q E _ _ _ _ h => absurd h (no vs H Q E)⟩, hm, F.kp, hb⟩
def spTupled (K : PySem.W.Frag) (n : Nat) : Sp := fun vs H Q _ => ∃ (v : V) (d : PyData), vs = [v] ∧ Dp K H v d ∧ okD n d ∧ ∀ y H', Same H H' → Dp K H' y (tupD d) → Q y H'
theorem ok_tupled (T : Txt mg) (D : Def K mg "tupled" sTupled pTupled) : ∀ n : Nat, Cal P w K mg base n "tupled" pTupled (spTupled K n)
  | 0 => cal_none D fun vs H Q E h => by
    obtain ⟨v, d, _, _, hk, _⟩ := h
    exact hk
  | n + 1 => by
    have ih := ok_tupled T D n
    refine cal_of D scTupled (fun vs H Q E h => ?_) (fun f cdv A outer s H vs Q E hr h => ?_)
    · obtain ⟨v, d, rfl, _⟩ := h; rfl
    obtain ⟨v, d, rfl, hd, hk, q⟩ := h
    refine ⟨_, (pss_one (ps_ret (pe_ifExp (pt_val (pe_callB call_isiT rfl T.isi b_isinstance (pa_cons (pv 0) (pa_cons (pe_tup (pa_cons (pe_bltn (v := .ty "list") rfl T.list_ b_list rfl) (pa_cons (pe_bltn (v := .ty "tuple") rfl T.tuple_ b_tuple rfl) pa_nil))) pa_nil)))) (pe_callTy call_tuple_of rfl T.tuple_ b_tuple (pa_cons (pe_lc (own := [("own", 1)]) rfl scTupled.nd (pi_seq (pv 0)) (blkOk_by (N := nTupled) (sc := defScope sTupled) (by decide +kernel)) (fun _ _ _ _ _ => pg_name (i := 1) scTupled.nd rfl (Or.inl rfl)) (fun _ _ _ _ _ => pts_nil) (fun _ _ _ _ _ => pe_c ih hr (Nat.le_refl _) rfl (pa_cons (pv 1) pa_nil))) pa_nil)) (pv 0)))), ?_⟩
    refine ⟨_, rfl, (by show 2 ≤ sizeLine; decide), fun p hp => ?_⟩
    have e0 := same_new hp (.tup [.ty "list", .ty "tuple"])
    cases d with
    | int i =>
      rw [dp_int hd]
      exact ⟨_, p, _, _, _, false, rfl, upd_same, cls_lt, tyx_int, kit_lt_int, false, rfl, iteF ⟨_, rfl, q _ _ e0 (by simp only [tupD]; exact .int i)⟩⟩
    | list ds =>
      obtain ⟨a, xs, rfl, hs, ha⟩ := dp_lst hd
      have hl := dpa_len ha
      refine ⟨_, p, _, _, _, true, rfl, upd_same, cls_lt, tyx_lst (e0.seq hs), kit_lt_lst, true, rfl, iteT ⟨_, rfl, a, xs, rfl, .inl ⟨e0.seq hs, fun L hL => ?_⟩⟩⟩
      refine lc_map (K := K) (walk_list (K := K) (xs := xs)) hL (fun H' e => e.seq (e0.seq hs)) (by have := hk.1; omega) (fun i => tupD (ds.getD i .none)) (fun i hi => noL_tup (n := n) (hk.2 _ ?_)) (fun i x H1 H2 hi e1 y Ky hy => ?_) (fun H1 ys e1 hL1 hx => ?_)
      · rw [List.getD_eq_getElem?_getD, List.getElem?_eq_getElem (by omega)]
        exact List.getElem_mem _
      · obtain ⟨rfl, hx⟩ := y
        obtain ⟨e, he, hxe⟩ := dpa_get ha hx
        refine ⟨rfl, _, rfl, x, e, rfl, Dp.same (e0.trans e1) hxe, hk.2 e (List.mem_of_getElem? he), fun y H3 e3 h3 => hy y H3 e3 ?_⟩
        rw [getD_of he]
        exact h3
      · refine ⟨L, ys, rfl, .inl ⟨SqL.of hL1, fun l hl' => q _ _ ((e0.trans e1).trans (same_new hl' _)) ?_⟩⟩
        rw [hl, range_getD] at hx
        rw [tupD, tupDs_map]
        exact .tup (SqT.of upd_same) (DpAll.same (same_new hl' _) hx)
    | tuple ds =>
      obtain ⟨a, xs, rfl, hs, ha⟩ := dp_tup hd
      have hl := dpa_len ha
      refine ⟨_, p, _, _, _, true, rfl, upd_same, cls_lt, tyx_tup (seqT e0 hs), kit_lt_tup, true, rfl, iteT ⟨_, rfl, a, xs, rfl, .inr ⟨seqT e0 hs, fun L hL => ?_⟩⟩⟩
      refine lc_map (K := K) (walk_tup (K := K) (xs := xs)) hL (fun H' e => seqT e (seqT e0 hs)) (by have := hk.1; omega) (fun i => tupD (ds.getD i .none)) (fun i hi => noL_tup (n := n) (hk.2 _ ?_)) (fun i x H1 H2 hi e1 y Ky hy => ?_) (fun H1 ys e1 hL1 hx => ?_)
      · rw [List.getD_eq_getElem?_getD, List.getElem?_eq_getElem (by omega)]
        exact List.getElem_mem _
      · obtain ⟨rfl, hx⟩ := y
        obtain ⟨e, he, hxe⟩ := dpa_get ha hx
        refine ⟨rfl, _, rfl, x, e, rfl, Dp.same (e0.trans e1) hxe, hk.2 e (List.mem_of_getElem? he), fun y H3 e3 h3 => hy y H3 e3 ?_⟩
        rw [getD_of he]
        exact h3
      · refine ⟨L, ys, rfl, .inl ⟨SqL.of hL1, fun l hl' => q _ _ ((e0.trans e1).trans (same_new hl' _)) ?_⟩⟩
        rw [hl, range_getD] at hx
        rw [tupD, tupDs_map]
        exact .tup (SqT.of upd_same) (DpAll.same (same_new hl' _) hx)
    | none => exact hk.elim
    | bool b => exact hk.elim
    | str x => exact hk.elim
    | dict kvs => exact hk.elim

/-! ### ascends, is_pair_of -/
def asc2 (p q : Nat × Nat) : Prop := p.1 < q.1 ∨ (p.1 = q.1 ∧ p.2 < q.2)
theorem asc2_lex {p q : Nat × Nat} (h : asc2 p q) : HT.lexLt [(p.1 : Int), (p.2 : Int)] [(q.1 : Int), (q.2 : Int)] = true := by
  rw [HT.lexLt_cons, HT.lexLt_cons, HT.lexLt_nil_nil]
  rcases h with h | ⟨h1, h2⟩
  · rw [if_neg (by omega)]
    exact decide_eq_true (by omega)
  · rw [if_pos (by omega), if_neg (by omega)]
    exact decide_eq_true (by omega)
/-- a tuple of ints, or of pairs, that ascends -/
def spAscends (K : PySem.W.Frag) : Sp := fun vs H Q _ => ((∃ (a : Addr) (l : List Nat), vs = [.ref a] ∧ SqT K H a (Vn l) ∧ l.length ≤ 1000 ∧ l.Pairwise (· < ·)) ∨
  (∃ (a : Addr) (xs : List V) (ts : Ties), vs = [.ref a] ∧ SqT K H a xs ∧ DpAll K H xs (ts.map pD) ∧ ts.length ≤ 1000 ∧ ts.Pairwise asc2)) ∧ ∀ H', Same H H' → Q (.bl true) H'
theorem ok_ascends (T : Txt mg) (D : Def K mg "ascends" sAscends pAscends) : Cal P w K mg base 1 "ascends" pAscends (spAscends K) := by
  refine cal_of D scAscends (fun vs H Q E h => ?_) (fun f cdv A outer s H vs Q E hr h => ?_)
  · rcases h.1 with ⟨a, l, rfl, _⟩ | ⟨a, xs, ts, rfl, _⟩ <;> rfl
  obtain ⟨h, q⟩ := h
  -- what is asked of both: neighbours compare
  have key : ∃ (a : Addr) (xs : List V), vs = [.ref a] ∧ SqT K H a xs ∧ xs.length ≤ 1000 ∧ ∀ (k : Nat) (x y : V), xs[k]? = some x → xs[k + 1]? = some y → ∀ (H1 : Hp) (Q' : VK), Same H H1 → Q' (.bl true) H1 →
      (rI0 (fun i j => V.bl (decide (i < j))) x y H1 Q' ∨ rLtT K x y H1 Q') := by
    rcases h with ⟨a, l, rfl, ha, hl, hs⟩ | ⟨a, xs, ts, rfl, ha, hd, hl, hs⟩
    · refine ⟨a, _, rfl, ha, by rw [List.length_map]; exact hl, fun k x y hx hy H1 Q' e q' => .inl ?_⟩
      rw [List.getElem?_map] at hx hy
      obtain ⟨i, hi, rfl⟩ := Option.map_eq_some_iff.mp hx
      obtain ⟨j, hj, rfl⟩ := Option.map_eq_some_iff.mp hy
      obtain ⟨b1, c1⟩ := List.getElem?_eq_some_iff.mp hi
      obtain ⟨b2, c2⟩ := List.getElem?_eq_some_iff.mp hj
      have hlt := List.pairwise_iff_getElem.mp hs k (k + 1) b1 b2 (Nat.lt_succ_self k)
      rw [c1, c2] at hlt
      refine ⟨_, _, rfl, rfl, ?_⟩
      show Q' (.bl (decide ((i : Int) < (j : Int)))) H1
      rw [decide_eq_true (show (i : Int) < (j : Int) by omega)]
      exact q'
    · refine ⟨a, xs, rfl, ha, by rw [dpa_len hd, List.length_map]; exact hl, fun k x y hx hy H1 Q' e q' => .inr ?_⟩
      have n : NetAt K H a a xs 0 ts ∨ True := .inr True.intro
      obtain ⟨d1, f1, g1⟩ := dpa_get hd hx
      obtain ⟨d2, f2, g2⟩ := dpa_get hd hy
      rw [List.getElem?_map] at f1 f2
      obtain ⟨p, hp, rfl⟩ := Option.map_eq_some_iff.mp f1
      obtain ⟨r, hr', rfl⟩ := Option.map_eq_some_iff.mp f2
      obtain ⟨t1, rfl, s1⟩ := dp_pair g1
      obtain ⟨t2, rfl, s2⟩ := dp_pair g2
      obtain ⟨b1, c1⟩ := List.getElem?_eq_some_iff.mp hp
      obtain ⟨b2, c2⟩ := List.getElem?_eq_some_iff.mp hr'
      have hlt := List.pairwise_iff_getElem.mp hs k (k + 1) b1 b2 (Nat.lt_succ_self k)
      rw [c1, c2] at hlt
      refine ⟨t1, t2, [(p.1 : Int), (p.2 : Int)], [(r.1 : Int), (r.2 : Int)], rfl, rfl, seqT e s1, seqT e s2, ?_⟩
      rw [asc2_lex hlt]
      exact q'
  obtain ⟨a, xs, rfl, ha, hl, hc⟩ := key
  refine ⟨_, (pss_one (ps_ret (pe_callB (cr_all rfl) rfl T.all b_all (pa_cons (pe_lc (own := [("k", 1)]) rfl scAscends.nd (pi_range1 (by rfl) T.range (pa_cons (pe_op op_sub (pe_callB call_len_seq rfl T.len b_len (pa_cons (pv 0) pa_nil)) (pe_int)) pa_nil)) (blkOk_by (N := nAscends) (sc := defScope sAscends) (by decide +kernel)) (fun _ _ _ _ _ => pg_name (i := 1) scAscends.nd rfl (Or.inl rfl)) (fun _ _ _ _ _ => pts_nil) (fun _ _ _ _ _ => pe_cmpR (r := fun x y H Q => rI0 (fun i j => V.bl (decide (i < j))) x y H Q ∨ rLtT K x y H Q) (op_lt.or (op_ltT hr.units0)) (pe_ix (r := rIxT K) ix_tup (pv 0) (pv 1) (fun _ _ => rfl)) (pe_ix (r := rIxT K) ix_tup (pv 0) (pe_op op_add (pv 1) (pe_int)) (fun _ _ => rfl)) (nomark _))) pa_nil)))), ?_⟩
  refine ⟨_, rfl, a, xs, rfl, .inr ha, _, _, rfl, rfl, _, rfl, by omega, by omega, fun L hL => ?_⟩
  have en : ((xs.length : Int) - 1).toNat = xs.length - 1 := by omega
  rw [en]
  refine lc_map (K := K) walk_range0 hL (fun _ _ => True.intro) (by omega) (fun _ => .bool true) (fun _ _ => rfl) (fun k x H1 H2 hk e1 y Ky hy => ?_) (fun H1 ys e1 hL1 hx => all_ok hL1 hx (q _ e1))
  obtain ⟨rfl, rfl⟩ := y
  have h1 : xs[k]? = some xs[k] := List.getElem?_eq_getElem (by omega)
  have h2 : xs[k + 1]? = some xs[k + 1] := List.getElem?_eq_getElem (by omega)
  refine ⟨rfl, _, rfl, _, rfl, a, xs, _, _, rfl, rfl, seqT e1 ha, atI_nat h1, _, rfl, _, rfl, _, _, rfl, rfl, a, xs, _, _, rfl, rfl, seqT e1 ha, at_of (j := k + 1) (by omega) h2, ?_⟩
  exact hc k _ _ h1 h2 _ _ e1 (hy _ _ (Same.refl _) (.bl true))
def spIsPairOf (K : PySem.W.Frag) : Sp := fun vs H Q _ => ∃ (m : Nat) (a : Addr) (p : Nat × Nat), vs = [.int (m : Int), .ref a] ∧ SqT K H a [.int (p.1 : Int), .int (p.2 : Int)] ∧ (p.1 < p.2 ∧ p.2 < m) ∧ ∀ H', Same H H' → Q (.bl true) H'
theorem ok_is_pair_of (T : Txt mg) (D : Def K mg "is_pair_of" sIsPairOf pIsPairOf) (cIsLong : Cal P w K mg base 1 "is_long" pIsLong (spIsLong K)) (cAreNumbers : Cal P w K mg base 2 "are_numbers" pAreNumbers (spAreNumbers K)) : Cal P w K mg base 3 "is_pair_of" pIsPairOf (spIsPairOf K) := by
  refine cal_of D scIsPairOf (fun vs H Q E h => ?_) (fun f cdv A outer s H vs Q E hr h => ?_)
  · obtain ⟨m, a, p, rfl, _⟩ := h; rfl
  obtain ⟨m, a, p, rfl, ha, hp, q⟩ := h
  refine ⟨_, (pss_one (ps_ret (pe_and (pe_c cIsLong hr (by decide) rfl (pa_cons (pv 1) (pa_cons (pe_int) pa_nil))) (pe_and (pe_c cAreNumbers hr (by decide) rfl (pa_cons (pv 1) pa_nil)) (pe_one (pe_chain3 op_le op_lt op_lt (pe_int) (pe_ix ix_tup (pv 1) (pe_int) (fun _ _ => rfl)) (pe_ix ix_tup (pv 1) (pe_int) (fun _ _ => rfl)) (pv 0))))))), ?_⟩
  refine ⟨_, rfl, a, _, rfl, ha, true, rfl, iteT ⟨_, rfl, a, [(p.1 : Int), (p.2 : Int)], rfl, ha, by simp, fun H1 e1 => ⟨true, rfl, iteT ?_⟩⟩⟩
  refine ⟨_, rfl, a, _, _, _, rfl, rfl, seqT e1 ha, atI_nat (j := 0) rfl, _, _, rfl, rfl, true, ?_, iteT ?_⟩
  · exact congrArg V.bl (decide_eq_true (show (0 : Int) ≤ (p.1 : Int) by omega))
  refine ⟨_, rfl, a, _, _, _, rfl, rfl, seqT e1 ha, atI_nat (j := 1) rfl, _, _, rfl, rfl, true, ?_, iteT ?_⟩
  · exact congrArg V.bl (decide_eq_true (show (p.1 : Int) < (p.2 : Int) by omega))
  refine ⟨_, rfl, _, _, rfl, rfl, ?_⟩
  show Q (.bl (decide ((p.2 : Int) < (m : Int)))) H1
  rw [decide_eq_true (show (p.2 : Int) < (m : Int) by omega)]
  exact q _ e1
end
end K13

set_option Elab.async false
set_option linter.all false
set_option maxRecDepth 100000
set_option maxHeartbeats 4000000
/-! The walk, part 2: ties. -/
namespace K13
open PySem PySem.Spec PyProof.Rows L2
section
variable {P : Program} {w : World} {K : PySem.W.Frag} {mg : Str → Option Value} {base : Heap}
def spDirectsBy (K : PySem.W.Frag) : Sp := fun vs H Q _ => ∃ (m : Nat) (a : Addr) (xs : List V) (ps : Ties), vs = [.int (m : Int), .ref a] ∧ SqL K H a xs ∧ DpAll K H xs (ps.map pD) ∧ m ≤ 1000 ∧ ps.length ≤ 1000 ∧ Asc ps ∧ (∀ p ∈ ps, p.1 < m) ∧
  ∀ L H', Same H H' → LL H' L m (dirs ps) → Q (.ref L) H'
theorem ok_directs_by (T : Txt mg) (D : Def K mg "directs_by" sDirectsBy pDirectsBy) : Cal P w K mg base 1 "directs_by" pDirectsBy (spDirectsBy K) := by
  refine cal_of D scDirectsBy (fun vs H Q E h => ?_) (fun f cdv A outer s H vs Q E hr h => ?_)
  · obtain ⟨m, a, xs, ps, rfl, _⟩ := h; rfl
  obtain ⟨m, a, xs, ps, rfl, ha, hd, hm, hl, hasc, hrg, q⟩ := h
  have hu := hu_of hr
  refine ⟨_, (pss_cons (ps_setLc (i := 2) (own := [("_", 3)]) rfl scDirectsBy.nd rfl rfl (sw_true rfl rfl rfl (by decide +kernel)) (pi_range1 (by rfl) T.range (pa_cons (pv 0) pa_nil)) (blkOk_by (N := nDirectsBy) (sc := defScope sDirectsBy) (by decide +kernel)) (fun _ _ _ _ _ => pg_name (i := 3) scDirectsBy.nd rfl (Or.inl rfl)) (fun _ _ _ _ _ => pts_nil) (fun _ _ _ _ _ => pe_dnewK))
      (pss_cons (ps_for PassesOwn.never rfl (pi_list (pv 1)) (pg_tup rfl (pgs_cons (pg_name (i := 4) scDirectsBy.nd rfl (Or.inl rfl)) (pgs_cons (pg_name (i := 5) scDirectsBy.nd rfl (Or.inl rfl)) pgs_nil))) (pss_one (ps_dput hu (pe_ix ix_list (pv 2) (pv 4) (fun _ _ => rfl)) (pv 5) (pe_bl) rfl)))
      (pss_one (ps_ret (pe_lc (own := [("row", 6)]) rfl scDirectsBy.nd (pi_list (pv 2)) (blkOk_by (N := nDirectsBy) (sc := defScope sDirectsBy) (by decide +kernel)) (fun _ _ _ _ _ => pg_name (i := 6) scDirectsBy.nd rfl (Or.inl rfl)) (fun _ _ _ _ _ => pts_nil) (fun _ _ _ _ _ => pe_callB (cr_sortedDI rfl) rfl T.sorted b_sorted (pa_cons (pv 6) pa_nil))))))), ?_⟩
  refine ⟨_, rfl, (m : Int), rfl, by omega, by omega, fun F hF => ?_⟩
  rw [Int.toNat_natCast]
  refine lc_news walk_range0 hF (fun _ _ => True.intro) (by omega) (.dK []) (fun i x H1 H2 _ _ y Ky hk => ?_) (fun H1 fs N => ?_)
  · obtain ⟨rfl, rfl⟩ := y
    exact ⟨rfl, hk⟩
  have hxl : xs.length = ps.length := by rw [dpa_len hd, List.length_map]
  refine ⟨_, rfl, a, rfl, ⟨_, N.same.seq ha⟩, for_it (walk_list (K := K) (xs := xs)) (fun i σ H' => ∃ v3 v4 v5 v6, σ = [some (.int (m : Int)), some (.ref a), some (.ref F), v3, v4, v5, v6] ∧ Same H H' ∧ H' F = some (.lst (fs.map V.ref)) ∧
      ∀ j f, fs[j]? = some f → H' f = some (.dK (keysOf (dirs (ps.take i) j))))
    ⟨none, none, none, none, rfl, N.same, N.at_, fun j f hf => by rw [List.take_zero, dirs_nil]; exact N.obj f (List.mem_of_getElem? hf)⟩ (fun i σ H' _ h => h.choose_spec.choose_spec.choose_spec.choose_spec.2.1.seq ha) (fun i x σ H' H'' hi h y => ?_) (fun σ H' h => ?_)⟩
  · obtain ⟨v3, v4, v5, v6, rfl, e1, hF1, hf1⟩ := h
    obtain ⟨rfl, hx⟩ := y
    obtain ⟨d, hdp, hxd⟩ := dpa_get hd hx
    rw [List.getElem?_map] at hdp
    obtain ⟨p, hp, rfl⟩ := Option.map_eq_some_iff.mp hdp
    obtain ⟨t, rfl, ht⟩ := dp_pair (Dp.same e1 hxd)
    have hpm := hrg p (List.mem_of_getElem? hp)
    have hlt : p.1 < fs.length := by rw [N.len]; exact hpm
    have hfl : fs[p.1]? = some fs[p.1] := List.getElem?_eq_getElem hlt
    have hfo := hf1 p.1 _ hfl
    refine ⟨t, _, rfl, ht, rfl, _, _, rfl, _, _, rfl, rfl, ?_⟩
    refine ⟨_, rfl, _, rfl, F, _, _, _, rfl, rfl, SqL.of hF1, atI_nat (j := p.1) (by rw [List.getElem?_map, hfl]; rfl), _, rfl, _, _, rfl, DPut.k (k := Sum.inl (p.2 : Int)) hfo ?_, v3, _, _, v6, rfl, ?_, ?_, fun j f hf => ?_⟩
    · rw [keysOf_len]
      have := dirs_len (ps.take i) p.1
      have := List.length_take_le i ps
      exact Evl.sz_lt (by omega)
    · exact same_upd e1 (N.new _ (List.mem_of_getElem? hfl))
    · rw [upd_ne (fun z => N.off (by rw [z]; exact List.mem_of_getElem? hfl))]
      exact hF1
    · rw [List.take_succ, hp]
      show _ = some (HO.dK (keysOf (dirs (ps.take i ++ [p]) j)))
      rw [dirs_snoc]
      by_cases hj : p.1 = j
      · subst hj
        rw [hfl] at hf
        cases hf
        rw [upd_same, putK_keys, if_pos rfl]
        unfold addN
        rw [if_neg]
        intro hmem
        exact not_in_take (asc_nodup hasc) hp (mem_dirs.mp hmem)
      · rw [if_neg hj, List.append_nil, upd_ne]
        · exact hf1 j f hf
        · intro z
          subst z
          exact hj (nd_ix N.nd hfl hf)
  · obtain ⟨v3, v4, v5, v6, rfl, e1, hF1, hf1⟩ := h
    rw [hxl, List.take_length] at hf1
    refine ⟨_, rfl, F, rfl, ⟨_, SqL.of hF1⟩, fun L hL => ?_⟩
    refine lc_LL (walk_list (K := K) (xs := fs.map V.ref)) hL (fun H2 e => SqL.of (e _ _ hF1)) (by rw [List.length_map, N.len]; omega) (dirs ps) (fun i x H2 H3 hi e2 y Ky hk => ?_) (fun H2 e2 h2 => ?_)
    · obtain ⟨rfl, hx⟩ := y
      rw [List.getElem?_map] at hx
      obtain ⟨f, hf, rfl⟩ := Option.map_eq_some_iff.mp hx
      refine ⟨rfl, _, rfl, f, _, _, rfl, .inl (e2 _ _ (hf1 i f hf)), keys_fst _, fun ys p hp1 hp2 hp3 => ?_⟩
      have := sorted_nat hp1 hp2 ((dirs_asc hasc i).imp fun {a b} z => Nat.ne_of_lt z) (dirs_asc hasc i) fun _ => Iff.rfl
      rw [this]
      have hk' := hk p hp3
      rw [vn_ints] at hk'
      exact hk'
    · rw [List.length_map, N.len] at h2
      exact q _ _ (e1.trans e2) h2

/-! ### ups_by -/
def UpsAt (H : Hp) (U : Addr) (n : Nat) (ps : Ties) : Prop := ∃ fs : List Addr, H U = some (.lst (fs.map V.ref)) ∧ fs.length = n ∧ ∀ i f, fs[i]? = some f → ∃ l, H f = some (.dK (keysOf l)) ∧ ∀ q ∈ l, Reach ps i q
theorem UpsAt.same {H H' : Hp} {U : Addr} {n : Nat} {ps : Ties} (e : Same H H') (h : UpsAt H U n ps) : UpsAt H' U n ps := by
  obtain ⟨fs, h1, h2, h3⟩ := h
  exact ⟨fs, e _ _ h1, h2, fun i f hf => by
    obtain ⟨l, a, b⟩ := h3 i f hf
    exact ⟨l, e _ _ a, b⟩⟩
def spUpsBy : Sp := fun vs H Q _ => ∃ (a : Addr) (n : Nat) (g : Nat → List Nat), vs = [.ref a] ∧ LL H a n g ∧ n ≤ 1000 ∧ (∀ i h, i < n → h ∈ g i → i < h ∧ h < n) ∧ ∀ U H', Same H H' → UpsAt H' U n (flat n g) → Q (.ref U) H'
/-- found's dicts while it is filled -/
def UpsIn (H : Hp) (fs : List Addr) (U : Addr) (n : Nat) (ps : Ties) (H' : Hp) : Prop := Same H H' ∧ H' U = some (.lst (fs.map V.ref)) ∧ ∀ i f, fs[i]? = some f → ∃ l : List Nat, H' f = some (.dK (keysOf l)) ∧ l.Nodup ∧ (∀ q ∈ l, q < n) ∧ ∀ q ∈ l, Reach ps i q
theorem UpsIn.put {H H' : Hp} {fs : List Addr} {U : Addr} {n : Nat} {ps : Ties} {i : Nat} {f : Addr} {l : List Nat} (u : UpsIn H fs U n ps H') (nd : fs.Nodup) (off : U ∉ fs) (new : ∀ f ∈ fs, H f = none) (hf : fs[i]? = some f) (h1 : l.Nodup) (h2 : ∀ q ∈ l, q < n) (h3 : ∀ q ∈ l, Reach ps i q) :
    UpsIn H fs U n ps (upd H' f (.dK (keysOf l))) := by
  obtain ⟨a, b, c⟩ := u
  have hm := List.mem_of_getElem? hf
  refine ⟨same_upd a (new f hm), ?_, fun j f' hf' => ?_⟩
  · rw [upd_ne (fun z => off (by rw [z]; exact hm))]
    exact b
  · by_cases e : f' = f
    · subst e
      have := nd_ix nd hf hf'
      subst this
      exact ⟨l, upd_same, h1, h2, h3⟩
    · rw [upd_ne e]
      exact c j f' hf'
theorem nodup_lt_len {l : List Nat} {n : Nat} (h : l.Nodup) (h2 : ∀ q ∈ l, q < n) : l.length ≤ n := by
  have := h.length_le_of_subset (l₂ := List.range n) fun x hx => List.mem_range.mpr (h2 x hx)
  rw [List.length_range] at this
  exact this
theorem ok_ups_by (T : Txt mg) (D : Def K mg "ups_by" sUpsBy pUpsBy) : Cal P w K mg base 1 "ups_by" pUpsBy spUpsBy := by
  refine cal_of D scUpsBy (fun vs H Q E h => ?_) (fun f cdv A outer s H vs Q E hr h => ?_)
  · obtain ⟨a, n, g, rfl, _⟩ := h; rfl
  obtain ⟨a, n, g, rfl, hg, hn, hgr, q⟩ := h
  have hu := hu_of hr
  obtain ⟨rs, hg1, hg2, hg3⟩ := id hg
  refine ⟨_, (pss_cons (ps_setLc (i := 1) (own := [("_", 2)]) rfl scUpsBy.nd rfl rfl (sw_true rfl rfl rfl (by decide +kernel)) (pi_list (pv 0)) (blkOk_by (N := nUpsBy) (sc := defScope sUpsBy) (by decide +kernel)) (fun _ _ _ _ _ => pg_name (i := 2) scUpsBy.nd rfl (Or.inl rfl)) (fun _ _ _ _ _ => pts_nil) (fun _ _ _ _ _ => pe_dnewK))
      (pss_cons (ps_for PassesOwn.never rfl (pi_range3 (by rfl) T.range (pa_cons (pe_op op_sub (pe_callB call_len_seq rfl T.len b_len (pa_cons (pv 0) pa_nil)) (pe_int)) (pa_cons (pe_un un_neg (pe_int)) (pa_cons (pe_un un_neg (pe_int)) pa_nil)))) (pg_name (i := 3) scUpsBy.nd rfl (Or.inl rfl)) (pss_cons (ps_dput hu (pe_ix ix_list (pv 1) (pv 3) (fun _ _ => rfl)) (pv 3) (pe_bl) rfl)
      (pss_one (ps_for PassesOwn.never rfl (pi_list (pe_ix ix_list (pv 0) (pv 3) (fun _ _ => rfl))) (pg_name (i := 4) scUpsBy.nd rfl (Or.inl rfl)) (pss_one (ps_expr (pe_bm PySem.F.plainAttrs_dict PySem.F.slot_dict_update PySem.F.type_dict_update mt_dupd (pe_ix ix_list (pv 1) (pv 3) (fun _ _ => rfl)) (pa_cons (pe_ix ix_list (pv 1) (pv 4) (fun _ _ => rfl)) pa_nil))))))))
      (pss_one (ps_ret (pv 1))))), ?_⟩
  refine ⟨_, rfl, a, rfl, ⟨_, SqL.of hg1⟩, fun F hF => ?_⟩
  refine lc_news (walk_list (K := K) (xs := rs.map V.ref)) hF (fun H' e => SqL.of (e _ _ hg1)) (by rw [List.length_map]; omega) (.dK []) (fun i x H1 H2 _ _ y Ky hk => ?_) (fun H1 fs N => ?_)
  · obtain ⟨rfl, _⟩ := y
    exact ⟨rfl, hk⟩
  have hfl : fs.length = n := by rw [N.len, List.length_map, hg2]
  have start : UpsIn H fs F n (flat n g) H1 := ⟨N.same, N.at_, fun i f hf => ⟨[], N.obj f (List.mem_of_getElem? hf), List.nodup_nil, (fun q h => by cases h), (fun q h => by cases h)⟩⟩
  have hlen : ((rs.map V.ref).length : Int) - 1 - -1 = (n : Int) := by rw [List.length_map, hg2]; omega
  refine ⟨_, rfl, a, _, rfl, .inl (SqL.of (N.same _ _ hg1)), _, _, rfl, rfl, _, rfl, _, rfl, _, _, _, _, rfl, RgC.neg (by rw [List.length_map]; omega) (by rw [List.length_map]; omega) (by omega) (by omega), ?_⟩
  rw [hlen, Int.toNat_natCast]
  refine for_it (walk_down (by rw [List.length_map, hg2])) (fun i σ H' => ∃ v2 v3 v4, σ = [some (.ref a), some (.ref F), v2, v3, v4] ∧ UpsIn H fs F n (flat n g) H') ⟨none, none, none, rfl, start⟩ (fun _ _ _ _ _ => True.intro) (fun i x σ H2 H3 hi h y => ?_) (fun σ H2 h => ?_)
  · obtain ⟨v2, v3, v4, rfl, u⟩ := h
    obtain ⟨rfl, rfl⟩ := y
    have hp : n - 1 - i < n := by omega
    generalize hpe : n - 1 - i = p at hp
    have hlt : p < fs.length := by omega
    have hfp : fs[p]? = some fs[p] := List.getElem?_eq_getElem hlt
    obtain ⟨l, hl1, hl2, hl3, hl4⟩ := u.2.2 p _ hfp
    refine ⟨_, rfl, _, rfl, F, _, _, _, rfl, rfl, SqL.of u.2.1, atI_nat (j := p) (by rw [List.getElem?_map, hfp]; rfl), _, rfl, _, _, rfl, DPut.k (k := Sum.inl (p : Int)) hl1 ?_, ?_⟩
    · rw [keysOf_len]
      have := nodup_lt_len hl2 hl3
      exact Evl.sz_lt (by omega)
    rw [putK_keys]
    have u2 := u.put (l := addN l p) N.nd N.off N.new hfp (addN_nodup hl2) (fun q hq => by rcases mem_addN.mp hq with z | z; exact hl3 q z; omega) (fun q hq => by
      rcases mem_addN.mp hq with z | z
      · exact hl4 q z
      · rw [z]; exact .refl p)
    have hrp : rs[p]? = some rs[p] := List.getElem?_eq_getElem (by omega)
    have hgp := hg3 p _ hrp
    refine ⟨_, rfl, _, rfl, a, _, _, _, rfl, rfl, SqL.of (u2.1 _ _ hg1), atI_nat (j := p) (by rw [List.getElem?_map, hrp]; rfl), _, rfl, ⟨_, SqL.of (u2.1 _ _ hgp)⟩, ?_⟩
    refine for_it (walk_list (K := K) (xs := Vn (g p))) (fun j σ H' => ∃ v4, σ = [some (.ref a), some (.ref F), v2, some (.int (p : Int)), v4] ∧ UpsIn H fs F n (flat n g) H') ⟨_, rfl, u2⟩ (fun j σ H' _ h => SqL.of (h.choose_spec.2.1 _ _ hgp)) (fun j x σ H4 H5 hj h y => ?_) (fun σ H4 h => ?_)
    · obtain ⟨v4, rfl, u3⟩ := h
      obtain ⟨rfl, hx⟩ := y
      rw [List.getElem?_map] at hx
      obtain ⟨k, hk, rfl⟩ := Option.map_eq_some_iff.mp hx
      have hk' := hgr p k hp (List.mem_of_getElem? hk)
      have hlk : k < fs.length := by omega
      have hfk : fs[k]? = some fs[k] := List.getElem?_eq_getElem hlk
      obtain ⟨l1, a1, a2, a3, a4⟩ := u3.2.2 p _ hfp
      obtain ⟨l2, b1, b2, b3, b4⟩ := u3.2.2 k _ hfk
      have hne : fs[p] ≠ fs[k] := fun z => by
        have := (List.getElem_inj N.nd).mp z
        omega
      have c1 := nodup_lt_len a2 a3
      have c2 := nodup_lt_len b2 b3
      refine ⟨_, rfl, _, rfl, F, _, _, _, rfl, rfl, SqL.of u3.2.1, atI_nat (j := p) (by rw [List.getElem?_map, hfp]; rfl), tyv_dict a1, ?_⟩
      refine ⟨_, rfl, _, rfl, F, _, _, _, rfl, rfl, SqL.of u3.2.1, atI_nat (j := k) (by rw [List.getElem?_map, hfk]; rfl), _, _, _, _, rfl, rfl, hne, a1, b1, ?_, ?_⟩
      · rw [keysOf_len, keysOf_len]
        exact Evl.sz_of (by omega)
      rw [mergeK_keys]
      refine ⟨_, rfl, u3.put N.nd N.off N.new hfp (foldl_addN_nodup _ _ a2) (fun q hq => ?_) (fun q hq => ?_)⟩
      · rcases (mem_foldl_addN _ _ _).mp hq with z | z
        · exact a3 q z
        · exact b3 q z
      · rcases (mem_foldl_addN _ _ _).mp hq with z | z
        · exact a4 q z
        · exact .step (mem_flat.mpr ⟨hp, List.mem_of_getElem? hk⟩) (b4 q z)
    · obtain ⟨v4, rfl, u3⟩ := h
      exact ⟨_, _, _, rfl, u3⟩
  · obtain ⟨v2, v3, v4, rfl, u⟩ := h
    refine ⟨_, rfl, q _ _ u.1 ⟨fs, u.2.1, hfl, fun i f hf => ?_⟩⟩
    obtain ⟨l, a1, _, _, a4⟩ := u.2.2 i f hf
    exact ⟨l, a1, a4⟩

/-! ### follows_by, ties_by -/
def spFollowsBy : Sp := fun vs H Q _ => ∃ (a u : Addr) (n : Nat) (ps : Ties) (g : Nat → List Nat) (i b : Nat), vs = [.ref a, .ref u, .int (i : Int), .int (b : Int)] ∧ LL H a n g ∧ UpsAt H u n ps ∧ i < n ∧ (g i).length ≤ 1000 ∧ (∀ c ∈ g i, c < n) ∧ (∀ c ∈ g i, c ≠ b → ¬ Reach ps c b) ∧
  ∀ H', Same H H' → Q (.bl false) H'
theorem ok_follows_by (T : Txt mg) (D : Def K mg "follows_by" sFollowsBy pFollowsBy) : Cal P w K mg base 1 "follows_by" pFollowsBy spFollowsBy := by
  refine cal_of D scFollowsBy (fun vs H Q E h => ?_) (fun f cdv A outer s H vs Q E hr h => ?_)
  · obtain ⟨a, u, n, ps, g, i, b, rfl, _⟩ := h; rfl
  obtain ⟨a, u, n, ps, g, i, b, rfl, hg, hups, hi, hl, hc, hirr, q⟩ := h
  have hu := hu_of hr
  obtain ⟨xs, r, h1, h2, h3, h4⟩ := hg.at_ hi
  obtain ⟨fs, u1, u2, u3⟩ := id hups
  refine ⟨_, (pss_one (ps_ret (pe_callB (cr_any rfl) rfl T.any b_any (pa_cons (pe_lc (own := [("near", 4)]) rfl scFollowsBy.nd (pi_list (pe_ix ix_list (pv 0) (pv 2) (fun _ _ => rfl))) (blkOk_by (N := nFollowsBy) (sc := defScope sFollowsBy) (by decide +kernel)) (fun _ _ _ _ _ => pg_name (i := 4) scFollowsBy.nd rfl (Or.inl rfl)) (fun _ _ _ _ _ => pts_one (pt_cmpR op_ne (pv 4) (pv 3) (nomark _))) (fun _ _ _ _ _ => pe_cmp (pc_din hu (pv 3) (pe_ix (r := rIxL K) ix_list (pv 1) (pv 4) (fun _ _ => rfl))) rfl)) pa_nil)))), ?_⟩
  refine ⟨_, rfl, _, rfl, a, _, _, _, rfl, rfl, SqL.of h1, atI_nat h3, _, rfl, ⟨_, SqL.of h4⟩, fun L hL => ?_⟩
  refine lc_data (K := K) (walk_list (K := K) (xs := Vn (g i))) hL (fun H' e => SqL.of (e _ _ h4)) (by rw [List.length_map]; omega) (fun j => if ((g i).getD j 0 != b) = true then some (.bool false) else none)
    (fun j d _ e => by split at e <;> cases e; rfl) (fun j x H1 H2 hj e1 y Ky Kn hy hn => ?_) (fun H1 ys e1 hL1 hx => ?_)
  · obtain ⟨rfl, hx⟩ := y
    rw [List.getElem?_map] at hx
    obtain ⟨c, hcj, rfl⟩ := Option.map_eq_some_iff.mp hx
    rw [getD_of hcj] at hy hn
    have hcm := List.mem_of_getElem? hcj
    by_cases hb : c = b
    · subst hb
      refine ⟨rfl, _, rfl, _, rfl, rfl, false, ?_, iteF (hn (by simp) _ (Same.refl _))⟩
      show V.bl (!decide (V.int (c : Int) = V.int (c : Int))) = V.bl false
      rw [decide_eq_true rfl]; rfl
    · have hlt : c < fs.length := by rw [u2]; exact hc c hcm
      have hfc : fs[c]? = some fs[c] := List.getElem?_eq_getElem hlt
      obtain ⟨l, hl1, hl2⟩ := u3 c _ hfc
      refine ⟨rfl, _, rfl, _, rfl, rfl, true, ?_, iteT ?_⟩
      · show V.bl (!decide (V.int (c : Int) = V.int (b : Int))) = V.bl true
        rw [decide_eq_false (fun z => hb (by have := V.int.inj z; omega))]; rfl
      refine ⟨_, rfl, _, rfl, _, rfl, u, _, _, _, rfl, rfl, SqL.of (e1 _ _ u1), atI_nat (j := c) (by rw [List.getElem?_map, hfc]; rfl), _, _, rfl, DGet.k (k := Sum.inl (b : Int)) (e1 _ _ hl1), ?_⟩
      rw [valV_keys, if_neg (fun z => hirr c hcm hb (hl2 b z))]
      exact hy (.bool false) (by simp [hb]) _ _ (Same.refl _) (.bl false)
  · rw [fm_if (fun j => (g i).getD j 0 != b) (fun _ => PyData.bool false)] at hx
    exact any_no hL1 hx (q _ e1)
def spTiesBy (K : PySem.W.Frag) : Sp := fun vs H Q _ => ∃ (a : Addr) (n : Nat) (g : Nat → List Nat), vs = [.ref a] ∧ LL H a n g ∧ n ≤ 1000 ∧ (∀ i h, i < n → h ∈ g i → i < h ∧ h < n) ∧ (flat n g).length ≤ 1000 ∧ (∀ i b c, i < n → b ∈ g i → c ∈ g i → c ≠ b → ¬ Reach (flat n g) c b) ∧
  ∀ y H', Same H H' → Dp K H' y (tsD (flat n g)) → Q y H'
theorem flat_le {n : Nat} {g : Nat → List Nat} {i : Nat} (hi : i < n) : (flat i g).length + (g i).length ≤ (flat n g).length := by
  induction n with
  | zero => exact absurd hi (Nat.not_lt_zero _)
  | succ n ih =>
    rw [flat_succ, List.length_append, List.length_map]
    by_cases e : i = n
    · subst e; exact Nat.le_refl _
    · have := ih (by omega)
      omega
theorem ok_ties_by (T : Txt mg) (D : Def K mg "ties_by" sTiesBy pTiesBy) (cUpsBy : Cal P w K mg base 1 "ups_by" pUpsBy spUpsBy) (cFollowsBy : Cal P w K mg base 1 "follows_by" pFollowsBy spFollowsBy) : Cal P w K mg base 2 "ties_by" pTiesBy (spTiesBy K) := by
  refine cal_of D scTiesBy (fun vs H Q E h => ?_) (fun f cdv A outer s H vs Q E hr h => ?_)
  · obtain ⟨a, n, g, rfl, _⟩ := h; rfl
  obtain ⟨a, n, g, rfl, hg, hn, hgr, hfl, hirr, q⟩ := h
  refine ⟨_, (pss_cons (ps_asg (pe_tup (pa_cons (pe_c cUpsBy hr (by decide) rfl (pa_cons (pv 0) pa_nil)) (pa_cons (pe_lst pa_nil) pa_nil))) (pg_tup rfl (pgs_cons (pg_name (i := 1) scTiesBy.nd rfl (Or.inr rfl)) (pgs_cons (pg_name (i := 2) scTiesBy.nd rfl (Or.inl rfl)) pgs_nil))))
      (pss_cons (ps_for PassesOwn.never rfl (pi_enum (by rfl) T.enumerate (pa_cons (pv 0) pa_nil)) (pg_tup rfl (pgs_cons (pg_name (i := 3) scTiesBy.nd rfl (Or.inr rfl)) (pgs_cons (pg_name (i := 4) scTiesBy.nd rfl (Or.inl rfl)) pgs_nil))) (pss_one (ps_expr (pe_bm PySem.F.plainAttrs_list PySem.F.slot_list_extend PySem.F.type_list_extend mt_extend (pv 2) (pa_cons (pe_lc (own := [("high", 5)]) rfl scTiesBy.nd (pi_list (pv 4)) (blkOk_by (N := nTiesBy) (sc := defScope sTiesBy) (by decide +kernel)) (fun _ _ _ _ _ => pg_name (i := 5) scTiesBy.nd rfl (Or.inl rfl)) (fun _ _ _ _ _ => pts_one (pt_not (pt_val (pe_c cFollowsBy hr (by decide) rfl (pa_cons (pv 0) (pa_cons (pv 1) (pa_cons (pv 3) (pa_cons (pv 5) pa_nil)))))))) (fun _ _ _ _ _ => pe_tup (pa_cons (pv 3) (pa_cons (pv 5) pa_nil)))) pa_nil)))))
      (pss_one (ps_ret (pe_callTy call_tuple_of rfl T.tuple_ b_tuple (pa_cons (pv 2) pa_nil)))))), ?_⟩
  refine ⟨_, rfl, a, n, g, rfl, hg, hn, hgr, fun U H1 e1 hU => ⟨(by show 0 ≤ sizeLine; decide), fun Lf hLf => ⟨(by show 2 ≤ sizeLine; decide), fun t ht => ?_⟩⟩⟩
  refine ⟨t, _, rfl, SqT.of upd_same, rfl, _, _, rfl, _, _, rfl, rfl, ?_⟩
  have htL : Lf ≠ t := ne_of_none upd_same ht
  have e3 : Same H1 (upd (upd H1 Lf (.lst [])) t (.tup [.ref U, .ref Lf])) := (same_new hLf _).trans (same_new ht _)
  obtain ⟨rs, g1, g2, g3⟩ := id hg
  refine ⟨_, rfl, a, _, rfl, SqL.of (e3 _ _ (e1 _ _ g1)), ?_⟩
  refine for_it (walk_enum (K := K) (xs := rs.map V.ref)) (fun i σ H' => ∃ v3 v4 v5 xs, σ = [some (.ref a), some (.ref U), some (.ref Lf), v3, v4, v5] ∧ Same H1 H' ∧ H' Lf = some (.lst xs) ∧ DpAll K H' xs ((flat i g).map pD))
    ⟨none, none, none, [], rfl, e3, by rw [upd_ne htL, upd_same], .nil⟩ (fun i σ H' _ h => SqL.of (h.choose_spec.choose_spec.choose_spec.choose_spec.2.1 _ _ (e1 _ _ g1))) (fun i x σ H2 H3 hi h y => ?_) (fun σ H2 h => ?_)
  · obtain ⟨v3, v4, v5, xs, rfl, e2, hLx, hxs⟩ := h
    obtain ⟨T', x1, x2, rfl, hT', rfl, hx1, hx2⟩ := y
    have hx1 : some (V.int (i : Int)) = some x1 := hx1
    have hx2 : (rs.map V.ref)[i]? = some x2 := hx2
    cases hx1
    rw [List.getElem?_map] at hx2
    obtain ⟨r, hr', rfl⟩ := Option.map_eq_some_iff.mp hx2
    rw [List.length_map, g2] at hi
    have hrl := g3 i r hr'
    have e4 : Same H1 (upd H2 T' (.tup [.int (i : Int), .ref r])) := e2.trans (same_new hT' _)
    have hLx' : (upd H2 T' (.tup [.int (i : Int), .ref r])) Lf = some (.lst xs) := (same_new hT' _) _ _ hLx
    have hfi := flat_le (g := g) hi
    have hxl : xs.length = (flat i g).length := by rw [dpa_len hxs, List.length_map]
    refine ⟨T', _, rfl, SqT.of upd_same, rfl, _, _, rfl, _, _, rfl, rfl, ?_⟩
    refine ⟨_, rfl, tyv_list (SqL.of hLx'), ?_⟩
    refine ⟨_, rfl, r, rfl, ⟨_, SqL.of (e4 _ _ (e1 _ _ hrl))⟩, fun L hL => ?_⟩
    refine lc_data (K := K) (walk_list (K := K) (xs := Vn (g i))) hL (fun H' e => SqL.of (e _ _ (e4 _ _ (e1 _ _ hrl)))) (by rw [List.length_map]; omega) (fun j => some (pD (i, (g i).getD j 0))) (fun j d _ e => by cases e; exact noL_p _) (fun j x H4 H5 hj e5 y Ky Kn hy hn => ?_) (fun H4 ys e5 hL1 hx => ?_)
    · obtain ⟨rfl, hx⟩ := y
      rw [List.getElem?_map] at hx
      obtain ⟨c, hcj, rfl⟩ := Option.map_eq_some_iff.mp hx
      rw [getD_of hcj] at hy
      have hcm := List.mem_of_getElem? hcj
      have e6 : Same H1 H5 := e4.trans e5
      refine ⟨rfl, _, rfl, _, rfl, _, rfl, _, rfl, a, U, n, flat n g, g, i, c, rfl, (hg.same e1).same e6, hU.same e6, hi, by omega, fun d hd => (hgr i d hi hd).2, fun d hd hne => hirr i c d hi hcm hd hne, fun H6 e7 => ⟨false, rfl, iteT ?_⟩⟩
      exact ⟨_, rfl, _, rfl, (by show 2 ≤ sizeLine; decide), fun p hp => hy _ rfl _ _ (e7.trans (same_new hp _)) (pair_dp (p := (i, c)) (SqT.of upd_same))⟩
    · rw [fm_some] at hx
      have e8 : (List.range (Vn (g i)).length).map (fun j => pD (i, (g i).getD j 0)) = ((g i).map fun h => (i, h)).map pD := by
        rw [List.length_map, range_getD (g i) 0 (fun h => pD (i, h)), List.map_map]; rfl
      rw [e8] at hx
      have hyl : ys.length = (g i).length := by rw [dpa_len hx, List.length_map, List.length_map]
      have hL4 : H4 Lf = some (.lst xs) := e5 _ _ hLx'
      refine ⟨Lf, L, xs, ys, rfl, rfl, hL4, hL1, Evl.sz_of (by omega), ?_⟩
      have kt : KeepT H4 (upd H4 Lf (.lst (xs ++ ys))) := KeepT.upd (not_tup_lst hL4)
      have hnew : H1 Lf = none := hLf
      refine ⟨_, _, v5, xs ++ ys, rfl, same_upd (e4.trans e5) hnew, upd_same, ?_⟩
      rw [flat_succ, List.map_append]
      exact dpa_append (DpAll.keep kt (noLs_ts _) (DpAll.same ((same_new hT' _).trans e5) hxs)) (DpAll.keep kt (noLs_ts _) hx)
  · obtain ⟨v3, v4, v5, xs, rfl, e2, hLx, hxs⟩ := h
    rw [List.length_map, g2] at hxs
    refine ⟨_, rfl, Lf, xs, rfl, .inl ⟨SqL.of hLx, fun l hl => q _ _ ((e1.trans e2).trans (same_new hl _)) ?_⟩⟩
    exact .tup (SqT.of upd_same) (DpAll.same (same_new hl _) hxs)
end
end K13

set_option Elab.async false
set_option linter.all false
set_option maxRecDepth 100000
set_option maxHeartbeats 4000000
/-! The walk, part 3: orders sure. -/
namespace K13
open PySem PySem.Spec PyProof.Rows L2
section
variable {P : Program} {w : World} {K : PySem.W.Frag} {mg : Str → Option Value} {base : Heap}
def spTiesOf (K : PySem.W.Frag) : Sp := fun vs H Q _ => ∃ (a : Addr) (xs : List V) (m : Nat) (ts : Ties), vs = [.ref a] ∧ SqT K H a xs ∧ DpAll K H xs (ts.map pD) ∧ Good m ts ∧ ∀ y H', Same H H' → Dp K H' y (tsD ts) → Q y H'
theorem ok_ties_of (T : Txt mg) (D : Def K mg "ties_of" sTiesOf pTiesOf) (cDirectsBy : Cal P w K mg base 1 "directs_by" pDirectsBy (spDirectsBy K)) (cTiesBy : Cal P w K mg base 2 "ties_by" pTiesBy (spTiesBy K)) : Cal P w K mg base 3 "ties_of" pTiesOf (spTiesOf K) := by
  refine cal_of D scTiesOf (fun vs H Q E h => ?_) (fun f cdv A outer s H vs Q E hr h => ?_)
  · obtain ⟨a, xs, m, ts, rfl, _⟩ := h; rfl
  obtain ⟨a, xs, m, ts, rfl, ha, hd, hg, q⟩ := h
  have hu := hu_of hr
  have htl := ties_len hg
  have hxl : xs.length = ts.length := by rw [dpa_len hd, List.length_map]
  have hnm := named_row hg.rng
  have hrl : (rowOf m ts).length ≤ 7 := Nat.le_trans (rowOf_len m ts) hg.le
  refine ⟨_, (pss_cons (ps_set (i := 1) scTiesOf.nd rfl (Or.inl rfl) (pe_dnewK))
      (pss_cons (ps_for PassesOwn.never rfl (pi_tup (pv 0)) (pg_tup rfl (pgs_cons (pg_name (i := 2) scTiesOf.nd rfl (Or.inl rfl)) (pgs_cons (pg_name (i := 3) scTiesOf.nd rfl (Or.inl rfl)) pgs_nil))) (pss_cons (ps_dput hu (pv 1) (pv 2) (pe_bl) rfl)
      (pss_one (ps_dput hu (pv 1) (pv 3) (pe_bl) rfl))))
      (pss_cons (ps_set (i := 4) scTiesOf.nd rfl (Or.inr rfl) (pe_callB (cr_sortedDI rfl) rfl T.sorted b_sorted (pa_cons (pv 1) pa_nil)))
      (pss_cons (ps_set (i := 5) scTiesOf.nd rfl (Or.inr rfl) (pe_dc (own := [("place", 6), ("piece", 7)]) rfl scTiesOf.nd (pi_enum (by rfl) T.enumerate (pa_cons (pv 4) pa_nil)) (blkOk_by (N := nTiesOf) (sc := defScope sTiesOf) (by decide +kernel)) (fun _ _ _ _ _ => pg_tupK (K := K) (n := 2) rfl rfl (pgs_cons (pg_name (i := 6) scTiesOf.nd rfl (Or.inl rfl)) (pgs_cons (pg_name (i := 7) scTiesOf.nd rfl (Or.inl rfl)) pgs_nil))) (fun _ _ _ _ _ => pts_nil) (fun _ _ _ _ _ => pv 7) (fun _ _ _ _ _ => pv 6)))
      (pss_cons (ps_set (i := 8) scTiesOf.nd rfl (Or.inl rfl) (pe_c cTiesBy hr (by decide) rfl (pa_cons (pe_c cDirectsBy hr (by decide) rfl (pa_cons (pe_callB call_len_seq rfl T.len b_len (pa_cons (pv 4) pa_nil)) (pa_cons (pe_lc (own := [("low", 2), ("high", 3)]) rfl scTiesOf.nd (pi_tup (pv 0)) (blkOk_by (N := nTiesOf) (sc := defScope sTiesOf) (by decide +kernel)) (fun _ _ _ _ _ => pg_tupK (K := K) (n := 2) rfl rfl (pgs_cons (pg_name (i := 2) scTiesOf.nd rfl (Or.inl rfl)) (pgs_cons (pg_name (i := 3) scTiesOf.nd rfl (Or.inl rfl)) pgs_nil))) (fun _ _ _ _ _ => pts_nil) (fun _ _ _ _ _ => pe_tup (pa_cons (pe_dget hu (pv 5) (pv 2) (fun _ _ => rfl)) (pa_cons (pe_dget hu (pv 5) (pv 3) (fun _ _ => rfl)) pa_nil)))) pa_nil))) pa_nil)))
      (pss_one (ps_ret (pe_callTy call_tuple_of rfl T.tuple_ b_tuple (pa_cons (pe_lc (own := [("low", 2), ("high", 3)]) rfl scTiesOf.nd (pi_tup (pv 8)) (blkOk_by (N := nTiesOf) (sc := defScope sTiesOf) (by decide +kernel)) (fun _ _ _ _ _ => pg_tupK (K := K) (n := 2) rfl rfl (pgs_cons (pg_name (i := 2) scTiesOf.nd rfl (Or.inl rfl)) (pgs_cons (pg_name (i := 3) scTiesOf.nd rfl (Or.inl rfl)) pgs_nil))) (fun _ _ _ _ _ => pts_nil) (fun _ _ _ _ _ => pe_tup (pa_cons (pe_ix (r := rIxL K) ix_list (pv 4) (pv 2) (fun _ _ => rfl)) (pa_cons (pe_ix (r := rIxL K) ix_list (pv 4) (pv 3) (fun _ _ => rfl)) pa_nil)))) pa_nil))))))))), ?_⟩
  refine fun N hN => ?_
  refine ⟨_, rfl, a, rfl, ⟨_, seqT (same_new hN _) ha⟩, for_it (walk_tup (K := K) (xs := xs)) (fun i σ H' => ∃ v2 v3, σ = [some (.ref a), some (.ref N), v2, v3, none, none, none, none, none] ∧ Same H H' ∧ H' N = some (.dK (keysOf (namesOf (ts.take i)))))
    ⟨none, none, rfl, same_new hN _, upd_same⟩ (fun i σ H' _ h => seqT h.choose_spec.choose_spec.2.1 ha) (fun i x σ H' H'' hi h y => ?_) (fun σ H' h => ?_)⟩
  · obtain ⟨v2, v3, rfl, e1, hNx⟩ := h
    obtain ⟨rfl, hx⟩ := y
    obtain ⟨d, hdp, hxd⟩ := dpa_get hd hx
    rw [List.getElem?_map] at hdp
    obtain ⟨p, hp, rfl⟩ := Option.map_eq_some_iff.mp hdp
    obtain ⟨t, rfl, ht⟩ := dp_pair (Dp.same e1 hxd)
    have hl1 := namesOf_len (m := m) (ts := ts.take i) fun p hp => hg.rng p (List.mem_of_mem_take hp)
    have hl2 : (namesOf (ts.take i)).length ≤ 7 := Nat.le_trans hl1 hg.le
    have hl3 : (addN (namesOf (ts.take i)) p.1).length ≤ 8 := by
      unfold addN; split
      · omega
      · rw [List.length_append]; show _ + 1 ≤ 8; omega
    refine ⟨t, _, rfl, ht, rfl, _, _, rfl, _, _, rfl, rfl, ?_⟩
    refine ⟨_, rfl, _, rfl, N, _, rfl, DPut.k (k := Sum.inl (p.1 : Int)) hNx (by rw [keysOf_len]; exact Evl.sz_lt (by omega)), ?_⟩
    rw [putK_keys]
    refine ⟨_, rfl, _, rfl, N, _, rfl, DPut.k (k := Sum.inl (p.2 : Int)) upd_same (by rw [keysOf_len]; exact Evl.sz_lt (by omega)), _, _, rfl, same_upd (same_upd e1 hN) hN, ?_⟩
    rw [putK_keys, upd_same, List.take_succ, hp]
    show _ = some (HO.dK (keysOf (namesOf (ts.take i ++ [p]))))
    rw [namesOf_snoc]
  · obtain ⟨v2, v3, rfl, e1, hNx⟩ := h
    rw [hxl, List.take_length] at hNx
    refine ⟨_, rfl, N, _, _, rfl, .inl hNx, keys_fst _, fun ys R hp1 hp2 hR => ?_⟩
    have hys := sorted_nat hp1 hp2 (namesOf_nodup ts) (rowOf_asc m ts) fun x => by rw [mem_namesOf, mem_rowOf hg.rng]
    rw [hys, ← vn_ints]
    have e2 : Same H (upd H' R (.lst (Vn (rowOf m ts)))) := e1.trans (same_new hR _)
    refine ⟨_, rfl, R, _, rfl, SqL.of upd_same, fun L hL => ?_⟩
    have hRL : L ≠ R := fun z => by rw [z, upd_same] at hL; cases hL
    have hlv : (Vn (rowOf m ts)).length = (rowOf m ts).length := List.length_map ..
    refine dc_it (walk_enum (K := K) (xs := Vn (rowOf m ts))) (fun i H2 => Same (upd H' R (.lst (Vn (rowOf m ts)))) H2 ∧ H2 L = some (.dK (plc (rowOf m ts) i))) ⟨same_new hL _, upd_same⟩ (fun i H2 _ h => SqL.of (h.1 _ _ upd_same)) (fun i x H2 H3 hi h y => ?_) (fun H2 h => ?_)
    · obtain ⟨T', x1, x2, rfl, hT', rfl, hx1, hx2⟩ := y
      have hx1 : some (V.int (i : Int)) = some x1 := hx1
      have hx2 : (Vn (rowOf m ts))[i]? = some x2 := hx2
      cases hx1
      rw [List.getElem?_map] at hx2
      obtain ⟨r, hr', rfl⟩ := Option.map_eq_some_iff.mp hx2
      have e3 := same_new hT' (.tup [.int (i : Int), .int (r : Int)])
      refine ⟨T', _, rfl, SqT.of upd_same, rfl, _, _, rfl, _, _, rfl, rfl, rfl, ?_⟩
      refine ⟨_, rfl, _, rfl, _, Sum.inl (r : Int), rfl, e3 _ _ h.2, by rw [plc_len]; exact Evl.sz_lt (by omega), same_upd (h.1.trans e3) hL, ?_⟩
      rw [upd_same, plc_succ, putK_new]
      · rw [getD_of hr']
      · have := plc_none (n := i) ((rowOf_asc m ts).imp fun {a b} z => Nat.ne_of_lt z) (k := i) (by omega) i (Nat.le_refl _) (Nat.le_refl _)
        rw [getD_of hr'] at this
        exact this
    · obtain ⟨e3, hLx⟩ := h
      rw [hlv] at hLx
      have e4 := e2.trans e3
      refine ⟨_, rfl, R, _, rfl, .inl (SqL.of (e3 _ _ upd_same)), _, rfl, a, rfl, ⟨_, seqT e4 ha⟩, fun L2 hL2 => ?_⟩
      refine lc_map (K := K) (walk_tup (K := K) (xs := xs)) hL2 (fun H' e => seqT (e4.trans e) ha) (by omega) (fun i => pD ((rowOf m ts).idxOf (ts.getD i (0, 0)).1, (rowOf m ts).idxOf (ts.getD i (0, 0)).2)) (fun i hi => noL_p _) (fun i x H3 H5 hi e5 y Ky hy => ?_) (fun H5 zs e5 hL3 hz => ?_)
      · obtain ⟨rfl, hx⟩ := y
        obtain ⟨d, hdp, hxd⟩ := dpa_get hd hx
        rw [List.getElem?_map] at hdp
        obtain ⟨p, hp, rfl⟩ := Option.map_eq_some_iff.mp hdp
        obtain ⟨t, rfl, ht⟩ := dp_pair (Dp.same (e4.trans e5) hxd)
        have hpm := List.mem_of_getElem? hp
        have hp1 : p.1 ∈ rowOf m ts := (mem_rowOf hg.rng).mpr ⟨p, hpm, .inl rfl⟩
        have hp2 : p.2 ∈ rowOf m ts := (mem_rowOf hg.rng).mpr ⟨p, hpm, .inr rfl⟩
        rw [getD_of hp] at hy
        have hLy := e5 _ _ hLx
        have g1 := DGet.k (k := Sum.inl (p.1 : Int)) hLy
        rw [plc_idx (rowOf_asc m ts) hp1] at g1
        have g2 := DGet.k (k := Sum.inl (p.2 : Int)) hLy
        rw [plc_idx (rowOf_asc m ts) hp2] at g2
        refine ⟨t, _, rfl, ht, rfl, _, _, rfl, _, _, rfl, rfl, rfl, ?_⟩
        refine ⟨_, rfl, _, rfl, _, _, rfl, g1, _, rfl, _, rfl, _, _, rfl, g2, (by show 2 ≤ sizeLine; decide), fun pp hpp => ?_⟩
        exact hy _ _ (same_new hpp _) (pair_dp (p := ((rowOf m ts).idxOf p.1, (rowOf m ts).idxOf p.2)) (SqT.of upd_same))
      · have hz' : (List.range xs.length).map (fun i => pD ((rowOf m ts).idxOf (ts.getD i (0, 0)).1, (rowOf m ts).idxOf (ts.getD i (0, 0)).2)) = (rel (rowOf m ts) ts).map pD := by
          rw [hxl, range_getD ts (0, 0) (fun p => pD ((rowOf m ts).idxOf p.1, (rowOf m ts).idxOf p.2))]
          unfold rel
          rw [List.map_map]; rfl
        rw [hz'] at hz
        have ha' := rel_asc hnm hg.asc
        have hr' := rel_rng hnm fun p hp => (hg.rng p hp).1
        have hlr : (rel (rowOf m ts) ts).length ≤ 100 := by unfold rel; rw [List.length_map]; exact htl
        have hfd := flat_dirs (n := (rowOf m ts).length) ha' fun p hp => by have := hr' p hp; omega
        refine ⟨(rowOf m ts).length, L2, zs, rel (rowOf m ts) ts, congrArg (fun z : Nat => [V.int (z : Int), V.ref L2]) hlv, SqL.of hL3, hz, by omega, by omega, ha', fun p hp => by have := hr' p hp; omega, fun L4 H6 e6 h6 => ?_⟩
        refine ⟨L4, (rowOf m ts).length, dirs (rel (rowOf m ts) ts), rfl, h6, by omega, fun i h hi hh => hr' (i, h) (mem_dirs.mp hh), by rw [hfd]; omega, fun i b c hi hb hc hne => ?_, fun y H7 e7 h7 => ?_⟩
        · rw [hfd]
          exact rel_irr hnm hg.irr i b c (mem_dirs.mp hb) (mem_dirs.mp hc) hne
        · rw [hfd] at h7
          obtain ⟨t7, ys7, rfl, hs7, ha7⟩ := dp_tup h7
          have e8 := ((e5.trans e6).trans e7)
          have hR7 := e8 _ _ (e3 _ _ upd_same)
          have hl7 : ys7.length = ts.length := by rw [dpa_len ha7, List.length_map]; unfold rel; rw [List.length_map]
          refine ⟨_, rfl, t7, rfl, ⟨_, hs7⟩, fun L5 hL5 => ?_⟩
          refine lc_map (K := K) (walk_tup (K := K) (xs := ys7)) hL5 (fun H' e => seqT e hs7) (by omega) (fun i => pD (ts.getD i (0, 0))) (fun i hi => noL_p _) (fun i x H8 H9 hi e9 y Ky hy => ?_) (fun H9 ws e9 hL9 hw => ?_)
          · obtain ⟨rfl, hx⟩ := y
            obtain ⟨d, hdp, hxd⟩ := dpa_get ha7 hx
            rw [List.getElem?_map] at hdp
            obtain ⟨p, hp, rfl⟩ := Option.map_eq_some_iff.mp hdp
            obtain ⟨t, rfl, ht⟩ := dp_pair (Dp.same e9 hxd)
            unfold rel at hp
            rw [List.getElem?_map] at hp
            obtain ⟨p', hp', rfl⟩ := Option.map_eq_some_iff.mp hp
            have hpm := List.mem_of_getElem? hp'
            have hp1 : p'.1 ∈ rowOf m ts := (mem_rowOf hg.rng).mpr ⟨p', hpm, .inl rfl⟩
            have hp2 : p'.2 ∈ rowOf m ts := (mem_rowOf hg.rng).mpr ⟨p', hpm, .inr rfl⟩
            have i1 : (Vn (rowOf m ts))[(rowOf m ts).idxOf p'.1]? = some (.int (p'.1 : Int)) := by rw [List.getElem?_map, idx_get hp1]; rfl
            have i2 : (Vn (rowOf m ts))[(rowOf m ts).idxOf p'.2]? = some (.int (p'.2 : Int)) := by rw [List.getElem?_map, idx_get hp2]; rfl
            rw [getD_of hp'] at hy
            have hR9 := e9 _ _ hR7
            refine ⟨t, _, rfl, ht, rfl, _, _, rfl, _, _, rfl, rfl, rfl, ?_⟩
            refine ⟨_, rfl, _, rfl, R, _, _, _, rfl, rfl, SqL.of hR9, atI_nat i1, _, rfl, _, rfl, R, _, _, _, rfl, rfl, SqL.of hR9, atI_nat i2, (by show 2 ≤ sizeLine; decide), fun pp hpp => ?_⟩
            exact hy _ _ (same_new hpp _) (pair_dp (p := (p'.1, p'.2)) (SqT.of upd_same))
          · rw [hl7, range_getD ts (0, 0) pD] at hw
            refine ⟨L5, ws, rfl, .inl ⟨SqL.of hL9, fun l hl => q _ _ (((e4.trans e8).trans e9).trans (same_new hl _)) ?_⟩⟩
            exact .tup (SqT.of upd_same) (DpAll.same (same_new hl _) hw)
end
end K13

set_option Elab.async false
set_option linter.all false
set_option maxRecDepth 100000
set_option maxHeartbeats 4000000
/-! The walk, part 4: what is sure. -/
namespace K13
open PySem PySem.Spec PyProof.Rows L2
/-! ### data of ints compared -/
mutual
theorem okD_lay : ∀ {n : Nat} {d : PyData}, okD n d → d.canLay0 = true
  | 0, _, h => h.elim
  | n + 1, .int _, _ => by simp [PyData.canLay0]
  | n + 1, .list ds, h => by rw [PyData.canLay0]; exact okDs_lay ds h.2
  | n + 1, .tuple ds, h => by rw [PyData.canLay0]; exact okDs_lay ds h.2
theorem okDs_lay : ∀ {n : Nat} (ds : List PyData), (∀ d ∈ ds, okD n d) → PyData.canLayAll0 ds = true
  | _, [], _ => by simp [PyData.canLayAll0]
  | n, d :: ds, h => by rw [PyData.canLayAll0, okD_lay (h d List.mem_cons_self), okDs_lay ds fun e he => h e (List.mem_cons_of_mem _ he)]; rfl
end
mutual
theorem okD_depth : ∀ {n : Nat} {d : PyData}, okD n d → d.depth ≤ n
  | 0, _, h => h.elim
  | n + 1, .int _, _ => by simp [PyData.depth]
  | n + 1, .list ds, h => by
    have := okDs_depth ds h.2
    simp only [PyData.depth]; omega
  | n + 1, .tuple ds, h => by
    have := okDs_depth ds h.2
    simp only [PyData.depth]; omega
theorem okDs_depth : ∀ {n : Nat} (ds : List PyData), (∀ d ∈ ds, okD n d) → PyData.depthAll ds ≤ n
  | _, [], _ => by simp [PyData.depthAll]
  | n, d :: ds, h => by
    have h1 := okD_depth (h d List.mem_cons_self)
    have h2 := okDs_depth ds fun e he => h e (List.mem_cons_of_mem _ he)
    simp only [PyData.depthAll]; omega
end
theorem okD_shaped {n : Nat} {d : PyData} (h : okD n d) (hn : n ≤ 64) : SeqAt.shaped d = true := by
  have h2 := okD_depth h
  show (d.canLay0 && decide (d.depth ≤ 64)) = true
  rw [Bool.and_eq_true]
  exact ⟨okD_lay h, decide_eq_true (by omega)⟩
mutual
theorem okD_refl : ∀ {n : Nat} {d : PyData}, okD n d → PyData.eqv d d = true
  | 0, _, h => h.elim
  | n + 1, .int _, _ => by simp [PyData.eqv]
  | n + 1, .list ds, h => by rw [PyData.eqv]; exact okDs_refl ds h.2
  | n + 1, .tuple ds, h => by rw [PyData.eqv]; exact okDs_refl ds h.2
theorem okDs_refl : ∀ {n : Nat} (ds : List PyData), (∀ d ∈ ds, okD n d) → PyData.eqvAll ds ds = true
  | _, [], _ => by simp [PyData.eqvAll]
  | n, d :: ds, h => by rw [PyData.eqvAll, okD_refl (h d List.mem_cons_self), okDs_refl ds fun e he => h e (List.mem_cons_of_mem _ he)]; rfl
end
theorem ok_ts {ts : Ties} (h : ts.length ≤ 1000) : okD 3 (tsD ts) := by
  refine ⟨by rw [List.length_map]; exact h, fun d hd => ?_⟩
  obtain ⟨p, _, rfl⟩ := List.mem_map.mp hd
  refine ⟨by simp, fun d hd => ?_⟩
  simp at hd
  rcases hd with rfl | rfl <;> exact True.intro
theorem inV_nat (k : Nat) (l : List Nat) : inV (.int (k : Int)) (Vn l) = decide (k ∈ l) := by
  induction l with
  | nil => simp [inV]
  | cons a l ih =>
    unfold inV at ih ⊢
    show List.any (V.int (a : Int) :: Vn l) _ = _
    rw [List.any_cons, ih]
    have : eqV (.int (a : Int)) (.int (k : Int)) = decide (k = a) := by
      show ((a : Int) == (k : Int)) = _
      by_cases h : k = a
      · subst h; simp
      · rw [decide_eq_false h]
        have : (a : Int) ≠ (k : Int) := by omega
        simpa using this
    rw [this]
    by_cases h : k = a <;> simp [h]
theorem flat_nat (l : List Nat) : (Vn l).all flatV = true := by
  rw [List.all_map, List.all_eq_true]
  intro x _
  rfl
theorem all_ok2 {K : PySem.W.Frag} {H : Hp} {L : Addr} {xs : List V} {l : List Nat} {Q : VK} (h1 : H L = some (.lst xs)) (hx : DpAll K H xs (l.map fun _ => PyData.bool true)) (q : Q (.bl true) H) : rAll K [V.ref L] H Q := by
  have e0 : l.map (fun _ => PyData.bool true) = (List.replicate l.length true).map PyData.bool := by
    rw [List.map_replicate]
    exact List.map_const' ..
  rw [e0] at hx
  refine ⟨L, List.replicate l.length true, rfl, ?_, ?_⟩
  · rw [dpa_bls hx] at h1
    exact SqL.of h1
  · have e3 : (List.replicate l.length true).all id = true := by simp
    rw [e3]
    exact q
theorem all_rep (n : Nat) : (List.replicate n true).all id = true := by simp
section
variable {P : Program} {w : World} {K : PySem.W.Frag} {mg : Str → Option Value} {base : Heap}
def spFollowNone (K : PySem.W.Frag) : Sp := fun vs H Q _ => ∃ (a : Addr) (xs : List V) (m : Nat) (ts : Ties), vs = [.ref a] ∧ SqT K H a xs ∧ DpAll K H xs (ts.map pD) ∧ Good m ts ∧ ∀ H', Same H H' → Q (.bl true) H'
theorem ok_follow_none (D : Def K mg "follow_none" sFollowNone pFollowNone) (cTiesOf : Cal P w K mg base 3 "ties_of" pTiesOf (spTiesOf K)) : Cal P w K mg base 4 "follow_none" pFollowNone (spFollowNone K) := by
  refine cal_of D scFollowNone (fun vs H Q E h => ?_) (fun f cdv A outer s H vs Q E hr h => ?_)
  · obtain ⟨a, xs, m, ts, rfl, _⟩ := h; rfl
  obtain ⟨a, xs, m, ts, rfl, ha, hd, hg, q⟩ := h
  have htl := ties_len hg
  refine ⟨_, (pss_one (ps_ret (pe_cmpR (op_eqD hr.units) (pe_c cTiesOf hr (by decide) rfl (pa_cons (pv 0) pa_nil)) (pv 0) (nomark _)))), ?_⟩
  refine ⟨_, rfl, a, xs, m, ts, rfl, ha, hd, hg, fun y H1 e1 hy => ⟨_, rfl, tsD ts, tsD ts, hy, .tup (seqT e1 ha) (DpAll.same e1 hd), okD_shaped (ok_ts (by omega)) (by omega), okD_shaped (ok_ts (by omega)) (by omega), ?_⟩⟩
  rw [okD_refl (ok_ts (by omega))]
  exact q _ e1
def spIsOrder (K : PySem.W.Frag) : Sp := fun vs H Q _ => ∃ (a b : Addr) (xs : List V) (m : Nat) (ts : Ties), vs = [.ref a] ∧ NetAt K H a b xs m ts ∧ Good m ts ∧ ∀ H', Same H H' → Q (.bl true) H'
theorem ok_is_order (T : Txt mg) (D : Def K mg "is_order" sIsOrder pIsOrder) (cIsLong : Cal P w K mg base 1 "is_long" pIsLong (spIsLong K)) (cIsFrom : Cal P w K mg base 2 "is_from" pIsFrom spIsFrom) (cIsPairOf : Cal P w K mg base 3 "is_pair_of" pIsPairOf (spIsPairOf K))
    (cAscends : Cal P w K mg base 1 "ascends" pAscends (spAscends K)) (cFollowNone : Cal P w K mg base 4 "follow_none" pFollowNone (spFollowNone K)) : Cal P w K mg base 5 "is_order" pIsOrder (spIsOrder K) := by
  refine cal_of D scIsOrder (fun vs H Q E h => ?_) (fun f cdv A outer s H vs Q E hr h => ?_)
  · obtain ⟨a, b, xs, m, ts, rfl, _⟩ := h; rfl
  obtain ⟨a, b, xs, m, ts, rfl, n, hg, q⟩ := h
  have htl := ties_len hg
  have hxl := n.len
  refine ⟨_, (pss_cons (ps_if (PW.pt (pw_or (pt_not (pt_val (pe_c cIsLong hr (by decide) rfl (pa_cons (pv 0) (pa_cons (pe_int) pa_nil))))) (pw_or (pt_not (pt_val (pe_c cIsFrom hr (by decide) rfl (pa_cons (pe_ix ix_tup (pv 0) (pe_int) (fun _ _ => rfl)) (pa_cons (pe_int) pa_nil))))) (pw_or1 (pt_not (pt_val (pe_callB call_isi rfl T.isi b_isinstance (pa_cons (pe_ix ix_tup (pv 0) (pe_int) (fun _ _ => rfl)) (pa_cons (pe_bltn (v := .ty "tuple") rfl T.tuple_ b_tuple rfl) pa_nil))))))))) (pss_one (ps_ret (pe_bl))) pss_nil)
      (pss_cons (ps_if (PW.pt (pw_or (pt_not (pt_val (pe_callB (cr_all rfl) rfl T.all b_all (pa_cons (pe_lc (own := [("own", 1)]) rfl scIsOrder.nd (pi_tup (pe_ix ix_tup (pv 0) (pe_int) (fun _ _ => rfl))) (blkOk_by (N := nIsOrder) (sc := defScope sIsOrder) (by decide +kernel)) (fun _ _ _ _ _ => pg_name (i := 1) scIsOrder.nd rfl (Or.inl rfl)) (fun _ _ _ _ _ => pts_nil) (fun _ _ _ _ _ => pe_c cIsPairOf hr (by decide) rfl (pa_cons (pe_ix (r := rIxT K) ix_tup (pv 0) (pe_int) (fun _ _ => rfl)) (pa_cons (pv 1) pa_nil)))) pa_nil)))) (pw_or1 (pt_not (pt_val (pe_c cAscends hr (by decide) rfl (pa_cons (pe_ix ix_tup (pv 0) (pe_int) (fun _ _ => rfl)) pa_nil))))))) (pss_one (ps_ret (pe_bl))) pss_nil)
      (pss_one (ps_ret (pe_c cFollowNone hr (by decide) rfl (pa_cons (pe_ix ix_tup (pv 0) (pe_int) (fun _ _ => rfl)) pa_nil)))))), ?_⟩
  refine ⟨_, rfl, a, _, rfl, n.top, true, rfl, iteF ?_⟩
  refine ⟨_, rfl, a, _, _, _, rfl, rfl, n.top, atI_nat (j := 0) rfl, (m : Int), 0, rfl, true, congrArg V.bl (decide_eq_true (show (0 : Int) ≤ (m : Int) by omega)), iteF ?_⟩
  refine ⟨_, rfl, a, _, _, _, rfl, rfl, n.top, atI_nat (j := 1) rfl, _, _, _, _, _, rfl, .ty _, tyx_tup n.tie, kit_tup_tup, true, rfl, iteF ?_⟩
  refine ⟨_, rfl, a, _, _, _, rfl, rfl, n.top, atI_nat (j := 1) rfl, b, rfl, ⟨_, n.tie⟩, fun L hL => ?_⟩
  refine lc_map (K := K) (walk_tup (K := K) (xs := xs)) hL (fun H' e => seqT e n.tie) (by omega) (fun _ => .bool true) (fun _ _ => rfl) (fun i x H1 H2 hi e1 y Ky hy => ?_) (fun H1 ys e1 hL1 hx => ?_)
  · obtain ⟨rfl, hx⟩ := y
    obtain ⟨p, t, hp, rfl, ht⟩ := n.get hx
    refine ⟨rfl, _, rfl, a, _, _, _, rfl, rfl, seqT e1 n.top, atI_nat (j := 0) rfl, _, rfl, m, t, p, rfl, seqT e1 ht, hg.rng p (List.mem_of_getElem? hp), fun H3 e3 => hy _ _ e3 (.bl true)⟩
  · rw [bools_all] at hx
    rw [dpa_bls hx] at hL1
    refine ⟨L, _, rfl, SqL.of hL1, true, congrArg V.bl (all_rep _), iteF ?_⟩
    have n1 := n.same e1
    refine ⟨_, rfl, a, _, _, _, rfl, rfl, n1.top, atI_nat (j := 1) rfl, .inr ⟨b, xs, ts, rfl, n1.tie, n1.all, by omega, hg.asc⟩, fun H3 e3 => ⟨true, rfl, iteF ?_⟩⟩
    have n3 := n1.same e3
    exact ⟨_, rfl, a, _, _, _, rfl, rfl, n3.top, atI_nat (j := 1) rfl, b, xs, m, ts, rfl, n3.tie, n3.all, hg, fun H4 e4 => q _ ((e1.trans e3).trans e4)⟩
def netAny (d : PyData) (m : Nat) (ts : Ties) : Prop := d = netD m ts ∨ d = netL m ts
def spSureOrder (K : PySem.W.Frag) : Sp := fun vs H Q _ => ∃ (v : V) (d : PyData) (m : Nat) (ts : Ties), vs = [v] ∧ Dp K H v d ∧ netAny d m ts ∧ Good m ts ∧ ∀ a b xs H', Same H H' → NetAt K H' a b xs m ts → Q (.ref a) H'
theorem ok_sure_order (D : Def K mg "sure_order" sSureOrder pSureOrder) (cTupled : Cal P w K mg base 4 "tupled" pTupled (spTupled K 4)) (cIsOrder : Cal P w K mg base 5 "is_order" pIsOrder (spIsOrder K)) : Cal P w K mg base 6 "sure_order" pSureOrder (spSureOrder K) := by
  refine cal_of D scSureOrder (fun vs H Q E h => ?_) (fun f cdv A outer s H vs Q E hr h => ?_)
  · obtain ⟨v, d, m, ts, rfl, _⟩ := h; rfl
  obtain ⟨v, d, m, ts, rfl, hd, hk, hg, q⟩ := h
  have htl := ties_len hg
  have h1 : okD 4 d ∧ tupD d = netD m ts := by
    rcases hk with rfl | rfl
    · exact ⟨ok_net (by omega), tup_net m ts⟩
    · exact ⟨ok_netL (by omega), tup_netL m ts⟩
  refine ⟨_, (pss_cons (ps_set (i := 1) scSureOrder.nd rfl (Or.inl rfl) (pe_c cTupled hr (by decide) rfl (pa_cons (pv 0) pa_nil)))
      (pss_cons (ps_if (pt_not (pt_val (pe_c cIsOrder hr (by decide) rfl (pa_cons (pv 1) pa_nil)))) (pss_one (ps_never)) pss_nil)
      (pss_one (ps_ret (pv 1))))), ?_⟩
  refine ⟨_, rfl, v, d, rfl, hd, h1.1, fun y H1 e1 hy => ?_⟩
  rw [h1.2] at hy
  obtain ⟨a, b, xs, rfl, n⟩ := dp_net hy
  exact ⟨_, rfl, a, b, xs, m, ts, rfl, n, hg, fun H2 e2 => ⟨true, rfl, iteF ⟨_, rfl, q a b xs _ (e1.trans e2) (n.same e2)⟩⟩⟩
def spArePiecesIn (K : PySem.W.Frag) : Sp := fun vs H Q _ => ∃ (a b t : Addr) (xs : List V) (m : Nat) (ts : Ties) (l : List Nat), vs = [.ref a, .ref t] ∧ NetAt K H a b xs m ts ∧ SqT K H t (Vn l) ∧ l.length ≤ 1000 ∧ (∀ x ∈ l, x < m) ∧ ∀ H', Same H H' → Q (.bl true) H'
theorem ok_are_pieces_in (T : Txt mg) (D : Def K mg "are_pieces_in" sArePiecesIn pArePiecesIn) (cIsWithin : Cal P w K mg base 2 "is_within" pIsWithin spIsWithin) : Cal P w K mg base 3 "are_pieces_in" pArePiecesIn (spArePiecesIn K) := by
  refine cal_of D scArePiecesIn (fun vs H Q E h => ?_) (fun f cdv A outer s H vs Q E hr h => ?_)
  · obtain ⟨a, b, t, xs, m, ts, l, rfl, _⟩ := h; rfl
  obtain ⟨a, b, t, xs, m, ts, l, rfl, n, ht, hl, hlm, q⟩ := h
  refine ⟨_, (pss_one (ps_ret (pe_and (pe_callB call_isi rfl T.isi b_isinstance (pa_cons (pv 1) (pa_cons (pe_bltn (v := .ty "tuple") rfl T.tuple_ b_tuple rfl) pa_nil))) (pe_one (pe_callB (cr_all rfl) rfl T.all b_all (pa_cons (pe_lc (own := [("own", 2)]) rfl scArePiecesIn.nd (pi_tup (pv 1)) (blkOk_by (N := nArePiecesIn) (sc := defScope sArePiecesIn) (by decide +kernel)) (fun _ _ _ _ _ => pg_name (i := 2) scArePiecesIn.nd rfl (Or.inl rfl)) (fun _ _ _ _ _ => pts_nil) (fun _ _ _ _ _ => pe_c cIsWithin hr (by decide) rfl (pa_cons (pv 2) (pa_cons (pe_int) (pa_cons (pe_op op_sub (pe_ix (r := rIxT K) ix_tup (pv 0) (pe_int) (fun _ _ => rfl)) (pe_int)) pa_nil))))) pa_nil)))))), ?_⟩
  refine ⟨_, rfl, _, _, _, _, _, rfl, .ty _, tyx_tup ht, kit_tup_tup, true, rfl, iteT ?_⟩
  refine ⟨_, rfl, t, rfl, ⟨_, ht⟩, fun L hL => ?_⟩
  refine lc_map (K := K) (walk_tup (K := K) (xs := Vn l)) hL (fun H' e => seqT e ht) (by rw [List.length_map]; omega) (fun _ => .bool true) (fun _ _ => rfl) (fun i x H1 H2 hi e1 y Ky hy => ?_) (fun H1 ys e1 hL1 hx => ?_)
  · obtain ⟨rfl, hx⟩ := y
    rw [List.getElem?_map] at hx
    obtain ⟨z, hz, rfl⟩ := Option.map_eq_some_iff.mp hx
    have hzm := hlm z (List.mem_of_getElem? hz)
    refine ⟨rfl, _, rfl, _, rfl, a, _, _, _, rfl, rfl, seqT e1 n.top, atI_nat (j := 0) rfl, _, _, rfl, rfl, (z : Int), 0, (m : Int) - 1, rfl, ?_⟩
    rw [decide_eq_true (show (0 : Int) ≤ (z : Int) ∧ (z : Int) ≤ (m : Int) - 1 by omega)]
    exact hy _ _ (Same.refl _) (.bl true)
  · exact all_ok hL1 hx (q _ e1)
def spIsLeftIn (K : PySem.W.Frag) : Sp := fun vs H Q _ => ∃ (a b t : Addr) (xs : List V) (m : Nat) (ts : Ties) (l : List Nat), vs = [.ref a, .ref t] ∧ NetAt K H a b xs m ts ∧ ts.length ≤ 1000 ∧ SqT K H t (Vn l) ∧ l.length ≤ 1000 ∧ (∀ x ∈ l, x < m) ∧ l.Pairwise (· < ·) ∧ (∀ p ∈ ts, p.2 ∈ l → p.1 ∈ l) ∧ ∀ H', Same H H' → Q (.bl true) H'
theorem ok_is_left_in (T : Txt mg) (D : Def K mg "is_left_in" sIsLeftIn pIsLeftIn) (cArePiecesIn : Cal P w K mg base 3 "are_pieces_in" pArePiecesIn (spArePiecesIn K)) (cAscends : Cal P w K mg base 1 "ascends" pAscends (spAscends K)) : Cal P w K mg base 4 "is_left_in" pIsLeftIn (spIsLeftIn K) := by
  refine cal_of D scIsLeftIn (fun vs H Q E h => ?_) (fun f cdv A outer s H vs Q E hr h => ?_)
  · obtain ⟨a, b, t, xs, m, ts, l, rfl, _⟩ := h; rfl
  obtain ⟨a, b, t, xs, m, ts, l, rfl, n, htl, ht, hl, hlm, hla, hcl, q⟩ := h
  have hxl := n.len
  refine ⟨_, (pss_cons (ps_if (PW.pt (pw_or (pt_not (pt_val (pe_c cArePiecesIn hr (by decide) rfl (pa_cons (pv 0) (pa_cons (pv 1) pa_nil))))) (pw_or1 (pt_not (pt_val (pe_c cAscends hr (by decide) rfl (pa_cons (pv 1) pa_nil))))))) (pss_one (ps_ret (pe_bl))) pss_nil)
      (pss_one (ps_ret (pe_callB (cr_all rfl) rfl T.all b_all (pa_cons (pe_lc (own := [("low", 2), ("high", 3)]) rfl scIsLeftIn.nd (pi_tup (pe_ix ix_tup (pv 0) (pe_int) (fun _ _ => rfl))) (blkOk_by (N := nIsLeftIn) (sc := defScope sIsLeftIn) (by decide +kernel)) (fun _ _ _ _ _ => pg_tupK (K := K) (n := 2) rfl rfl (pgs_cons (pg_name (i := 2) scIsLeftIn.nd rfl (Or.inl rfl)) (pgs_cons (pg_name (i := 3) scIsLeftIn.nd rfl (Or.inl rfl)) pgs_nil))) (fun _ _ _ _ _ => pts_one (pt_cmpR (r := rIn K false) op_in_seq (pv 3) (pv 1) (by with_unfolding_all rfl))) (fun _ _ _ _ _ => pe_cmpR (r := rIn K false) op_in_seq (pv 2) (pv 1) (by with_unfolding_all rfl))) pa_nil))))), ?_⟩
  refine ⟨_, rfl, _, rfl, a, b, t, xs, m, ts, l, rfl, n, ht, hl, hlm, fun H1 e1 => ⟨true, rfl, iteF ?_⟩⟩
  refine ⟨_, rfl, .inl ⟨t, l, rfl, seqT e1 ht, hl, hla⟩, fun H2 e2 => ⟨true, rfl, iteF ?_⟩⟩
  have e3 := e1.trans e2
  have n3 := n.same e3
  have ht3 := seqT e3 ht
  refine ⟨_, rfl, a, _, _, _, rfl, rfl, n3.top, atI_nat (j := 1) rfl, b, rfl, ⟨_, n3.tie⟩, fun L hL => ?_⟩
  refine lc_data (K := K) (walk_tup (K := K) (xs := xs)) hL (fun H' e => seqT e n3.tie) (by omega) (fun j => if decide ((ts.getD j (0, 0)).2 ∈ l) = true then some (.bool true) else none) (fun j d _ e => by split at e <;> cases e; rfl) (fun i x H4 H5 hi e4 y Ky Kn hy hn => ?_) (fun H4 ys e4 hL1 hx => ?_)
  · obtain ⟨rfl, hx⟩ := y
    obtain ⟨p, tp, hp, rfl, htp⟩ := n3.get hx
    rw [getD_of hp] at hy hn
    refine ⟨tp, _, rfl, seqT e4 htp, rfl, _, _, rfl, _, _, rfl, rfl, rfl, ?_⟩
    refine ⟨_, rfl, _, rfl, t, Vn l, rfl, .inr (seqT e4 ht3), rfl, flat_nat l, decide (p.2 ∈ l), congrArg V.bl (inV_nat _ _), ?_⟩
    by_cases h2 : p.2 ∈ l
    · rw [decide_eq_true h2]
      refine iteT ⟨_, rfl, _, rfl, t, Vn l, rfl, .inr (seqT e4 ht3), rfl, flat_nat l, ?_⟩
      have e5 : inV (.int (p.1 : Int)) (Vn l) = true := by rw [inV_nat]; exact decide_eq_true (hcl p (List.mem_of_getElem? hp) h2)
      show Ky (.bl (inV (.int (p.1 : Int)) (Vn l))) _
      rw [e5]
      exact hy (.bool true) (by simp [h2]) _ _ (Same.refl _) (.bl true)
    · rw [decide_eq_false h2]
      exact iteF (hn (by simp [h2]) _ (Same.refl _))
  · rw [fm_if (fun j => decide ((ts.getD j (0, 0)).2 ∈ l)) (fun _ => PyData.bool true)] at hx
    exact all_ok2 hL1 hx (q _ (e3.trans e4))
def nsAny (d : PyData) (l : List Nat) : Prop := d = nsD l ∨ d = nsL l
def spSureLeft (K : PySem.W.Frag) : Sp := fun vs H Q _ => ∃ (a b : Addr) (v : V) (d : PyData) (xs : List V) (m : Nat) (ts : Ties) (l : List Nat), vs = [.ref a, v] ∧ NetAt K H a b xs m ts ∧ ts.length ≤ 1000 ∧ Dp K H v d ∧ nsAny d l ∧ l.length ≤ 1000 ∧ (∀ x ∈ l, x < m) ∧ l.Pairwise (· < ·) ∧ (∀ p ∈ ts, p.2 ∈ l → p.1 ∈ l) ∧
  ∀ t H', Same H H' → SqT K H' t (Vn l) → Q (.ref t) H'
theorem ok_sure_left (D : Def K mg "sure_left" sSureLeft pSureLeft) (cTupled : Cal P w K mg base 4 "tupled" pTupled (spTupled K 4)) (cIsLeftIn : Cal P w K mg base 4 "is_left_in" pIsLeftIn (spIsLeftIn K)) : Cal P w K mg base 5 "sure_left" pSureLeft (spSureLeft K) := by
  refine cal_of D scSureLeft (fun vs H Q E h => ?_) (fun f cdv A outer s H vs Q E hr h => ?_)
  · obtain ⟨a, b, v, d, xs, m, ts, l, rfl, _⟩ := h; rfl
  obtain ⟨a, b, v, d, xs, m, ts, l, rfl, n, htl, hd, hk, hl, hlm, hla, hcl, q⟩ := h
  have h1 : okD 4 d ∧ tupD d = nsD l := by
    rcases hk with rfl | rfl
    · exact ⟨okD_mono (okD_mono (ok_ns hl)), tup_ns l⟩
    · exact ⟨okD_mono (okD_mono (ok_nsL hl)), tup_nsL l⟩
  refine ⟨_, (pss_cons (ps_set (i := 2) scSureLeft.nd rfl (Or.inl rfl) (pe_c cTupled hr (by decide) rfl (pa_cons (pv 1) pa_nil)))
      (pss_cons (ps_if (pt_not (pt_val (pe_c cIsLeftIn hr (by decide) rfl (pa_cons (pv 0) (pa_cons (pv 2) pa_nil))))) (pss_one (ps_never)) pss_nil)
      (pss_one (ps_ret (pv 2))))), ?_⟩
  refine ⟨_, rfl, v, d, rfl, hd, h1.1, fun y H1 e1 hy => ?_⟩
  rw [h1.2] at hy
  obtain ⟨t, rfl, ht⟩ := dp_ns hy
  exact ⟨_, rfl, _, rfl, a, b, t, xs, m, ts, l, rfl, n.same e1, htl, ht, hl, hlm, hla, hcl, fun H2 e2 => ⟨true, rfl, iteF ⟨_, rfl, q t _ (e1.trans e2) (seqT e2 ht)⟩⟩⟩
end
end K13

set_option Elab.async false
set_option linter.all false
set_option maxRecDepth 100000
set_option maxHeartbeats 4000000
/-! The walk, part 5: bits, tops, lefts. -/
namespace K13
open PySem PySem.Spec PyProof.Rows L2
theorem intBits_bl (b : Nat) : Builtin.Int.intBits (b : Int) = bl b := by
  unfold Builtin.Int.intBits bl
  by_cases h : b = 0
  · subst h; rfl
  · rw [if_neg h, if_neg]
    · rw [Int.natAbs_natCast]
    · simpa using h
theorem bl_le {b n : Nat} (h : b < 2 ^ n) : bl b ≤ n := by
  unfold bl
  by_cases hb : b = 0
  · rw [if_pos hb]; omega
  · rw [if_neg hb]
    have := (Nat.log2_lt hb).mpr h
    omega
theorem dpa_rev {K : PySem.W.Frag} {H : Hp} : ∀ {vs : List V} {ds : List PyData}, DpAll K H vs ds → DpAll K H vs.reverse ds.reverse
  | _, _, .nil => .nil
  | _, _, .cons h a => by
    rw [List.reverse_cons, List.reverse_cons]
    exact dpa_append (dpa_rev a) (.cons h .nil)
theorem ixN_nat {n j : Nat} (h : j < n) : ixN n (j : Int) = some j := by
  unfold ixN
  rw [if_pos (by omega), if_pos (by omega)]; simp
theorem vn_set (f : List Nat) (i v : Nat) : (Vn f).set i (.int (v : Int)) = Vn (f.set i v) := by
  show (f.map _).set i _ = (f.set i v).map _
  rw [List.map_set]
theorem vn_get {f : List Nat} {i : Nat} (h : i < f.length) : (Vn f)[i]? = some (.int ((f.getD i 0 : Nat) : Int)) := by
  rw [List.getElem?_map, List.getElem?_eq_getElem h, List.getD_eq_getElem?_getD, List.getElem?_eq_getElem h]; rfl
theorem lowsOf_snoc (ts : Ties) (p : Nat × Nat) (k : Nat) : lowsOf (ts ++ [p]) k = lowsOf ts k ++ (if p.2 = k then [p.1] else []) := by
  unfold lowsOf
  rw [List.filter_append, List.map_append]
  congr 1
  by_cases h : p.2 = k
  · simp [h]
  · simp [h]
theorem pow_le7 {m : Nat} (h : m ≤ 7) : 2 ^ m ≤ 128 := Nat.le_trans (Nat.pow_le_pow_right (by omega) h) (by decide)
/-- what is kept of a list, as data -/
theorem fm_nat (l : List Nat) (q : Nat → Bool) (f : Nat → Nat) : ((List.range l.length).filterMap fun j => if q (l.getD j 0) = true then some (PyData.int (f (l.getD j 0) : Nat)) else none) = ((l.filter q).map f).map fun (k : Nat) => PyData.int (k : Int) := by
  rw [fm_if (fun j => q (l.getD j 0)) (fun j => PyData.int (f (l.getD j 0) : Nat))]
  have e : (List.range l.length).map (fun j => l.getD j 0) = l := by
    have := range_getD l 0 id
    rw [List.map_id] at this
    exact this
  have e2 : ((List.range l.length).filter fun j => q (l.getD j 0)).map (fun j => l.getD j 0) = l.filter q := by
    conv => rhs; rw [← e]
    rw [List.filter_map]; rfl
  rw [← e2, List.map_map, List.map_map]; rfl
section
variable {P : Program} {w : World} {K : PySem.W.Frag} {mg : Str → Option Value} {base : Heap}
def spBits (K : PySem.W.Frag) : Sp := fun vs H Q _ => ∃ (a : Addr) (l : List Nat), vs = [.ref a] ∧ (SqL K H a (Vn l) ∨ SqT K H a (Vn l)) ∧ l.length ≤ 1000 ∧ (∀ x ∈ l, x ≤ 1000) ∧ ∀ H', Same H H' → Q (.int (pows l : Nat)) H'
theorem sum_pows (l : List Nat) : (((l.map fun k => 2 ^ k).map fun (k : Nat) => (k : Int))).sum = (pows l : Nat) := by
  unfold pows
  induction l with
  | nil => rfl
  | cons a l ih => rw [List.map_cons, List.map_cons, List.sum_cons, ih, List.sum_cons, Int.natCast_add]
theorem pow_data (l : List Nat) : l.map (fun k => PyData.int ((2 ^ k : Nat) : Int)) = ((l.map fun k => 2 ^ k).map fun (k : Nat) => (k : Int)).map PyData.int := by rw [List.map_map, List.map_map]; rfl
theorem okbits_for (T : Txt mg) (D : Def K mg "bits_for" sBitsFor pBitsFor) : Cal P w K mg base 1 "bits_for" pBitsFor (spBits K) := by
  refine cal_of D scBitsFor (fun vs H Q E h => ?_) (fun f cdv A outer s H vs Q E hr h => ?_)
  · obtain ⟨a, l, rfl, _⟩ := h; rfl
  obtain ⟨a, l, rfl, ha, hl, hb, q⟩ := h
  refine ⟨_, (pss_one (ps_ret (pe_callB (cr_sum rfl) rfl T.sum b_sum (pa_cons (pe_lc (own := [("piece", 1)]) rfl scBitsFor.nd (pi_seq (pv 0)) (blkOk_by (N := nBitsFor) (sc := defScope sBitsFor) (by decide +kernel)) (fun _ _ _ _ _ => pg_name (i := 1) scBitsFor.nd rfl (Or.inl rfl)) (fun _ _ _ _ _ => pts_nil) (fun _ _ _ _ _ => pe_op op_shlP (pe_int) (pv 1))) pa_nil)))), ?_⟩
  refine ⟨_, rfl, a, Vn l, rfl, ?_⟩
  rcases ha with ha | ha
  · refine .inl ⟨ha, fun L hL => ?_⟩
    refine lc_map (K := K) (walk_list (K := K) (xs := Vn l)) hL (fun H' e => e.seq ha) (by rw [List.length_map]; omega) (fun i => .int ((2 ^ l.getD i 0 : Nat) : Int)) (fun _ _ => rfl) (fun i x H1 H2 hi e1 y Ky hy => ?_) (fun H1 xs e1 hL1 hx => ?_)
    · obtain ⟨rfl, hx⟩ := y
      rw [List.getElem?_map] at hx
      obtain ⟨z, hz, rfl⟩ := Option.map_eq_some_iff.mp hx
      rw [getD_of hz] at hy
      exact ⟨rfl, _, rfl, z, rfl, rfl, hb z (List.mem_of_getElem? hz), hy _ _ (Same.refl _) (.int _)⟩
    · rw [List.length_map, range_getD l 0 (fun k => PyData.int ((2 ^ k : Nat) : Int)), pow_data] at hx
      rw [dpa_ints hx] at hL1
      refine ⟨L, _, rfl, SqL.of hL1, ?_⟩
      rw [sum_pows]
      exact q _ e1
  · refine .inr ⟨ha, fun L hL => ?_⟩
    refine lc_map (K := K) (walk_tup (K := K) (xs := Vn l)) hL (fun H' e => seqT e ha) (by rw [List.length_map]; omega) (fun i => .int ((2 ^ l.getD i 0 : Nat) : Int)) (fun _ _ => rfl) (fun i x H1 H2 hi e1 y Ky hy => ?_) (fun H1 xs e1 hL1 hx => ?_)
    · obtain ⟨rfl, hx⟩ := y
      rw [List.getElem?_map] at hx
      obtain ⟨z, hz, rfl⟩ := Option.map_eq_some_iff.mp hx
      rw [getD_of hz] at hy
      exact ⟨rfl, _, rfl, z, rfl, rfl, hb z (List.mem_of_getElem? hz), hy _ _ (Same.refl _) (.int _)⟩
    · rw [List.length_map, range_getD l 0 (fun k => PyData.int ((2 ^ k : Nat) : Int)), pow_data] at hx
      rw [dpa_ints hx] at hL1
      refine ⟨L, _, rfl, SqL.of hL1, ?_⟩
      rw [sum_pows]
      exact q _ e1
theorem ok_law_bits (T : Txt mg) (D : Def K mg "_law_bits" sLwBits pLwBits) : Cal P w K mg base 1 "_law_bits" pLwBits (spBits K) := by
  refine cal_of D scLwBits (fun vs H Q E h => ?_) (fun f cdv A outer s H vs Q E hr h => ?_)
  · obtain ⟨a, l, rfl, _⟩ := h; rfl
  obtain ⟨a, l, rfl, ha, hl, hb, q⟩ := h
  refine ⟨_, (pss_one (ps_ret (pe_callB (cr_sum rfl) rfl T.sum b_sum (pa_cons (pe_lc (own := [("_law_own", 1)]) rfl scLwBits.nd (pi_seq (pv 0)) (blkOk_by (N := nLwBits) (sc := defScope sLwBits) (by decide +kernel)) (fun _ _ _ _ _ => pg_name (i := 1) scLwBits.nd rfl (Or.inl rfl)) (fun _ _ _ _ _ => pts_nil) (fun _ _ _ _ _ => pe_op op_shlP (pe_int) (pv 1))) pa_nil)))), ?_⟩
  refine ⟨_, rfl, a, Vn l, rfl, ?_⟩
  rcases ha with ha | ha
  · refine .inl ⟨ha, fun L hL => ?_⟩
    refine lc_map (K := K) (walk_list (K := K) (xs := Vn l)) hL (fun H' e => e.seq ha) (by rw [List.length_map]; omega) (fun i => .int ((2 ^ l.getD i 0 : Nat) : Int)) (fun _ _ => rfl) (fun i x H1 H2 hi e1 y Ky hy => ?_) (fun H1 xs e1 hL1 hx => ?_)
    · obtain ⟨rfl, hx⟩ := y
      rw [List.getElem?_map] at hx
      obtain ⟨z, hz, rfl⟩ := Option.map_eq_some_iff.mp hx
      rw [getD_of hz] at hy
      exact ⟨rfl, _, rfl, z, rfl, rfl, hb z (List.mem_of_getElem? hz), hy _ _ (Same.refl _) (.int _)⟩
    · rw [List.length_map, range_getD l 0 (fun k => PyData.int ((2 ^ k : Nat) : Int)), pow_data] at hx
      rw [dpa_ints hx] at hL1
      refine ⟨L, _, rfl, SqL.of hL1, ?_⟩
      rw [sum_pows]
      exact q _ e1
  · refine .inr ⟨ha, fun L hL => ?_⟩
    refine lc_map (K := K) (walk_tup (K := K) (xs := Vn l)) hL (fun H' e => seqT e ha) (by rw [List.length_map]; omega) (fun i => .int ((2 ^ l.getD i 0 : Nat) : Int)) (fun _ _ => rfl) (fun i x H1 H2 hi e1 y Ky hy => ?_) (fun H1 xs e1 hL1 hx => ?_)
    · obtain ⟨rfl, hx⟩ := y
      rw [List.getElem?_map] at hx
      obtain ⟨z, hz, rfl⟩ := Option.map_eq_some_iff.mp hx
      rw [getD_of hz] at hy
      exact ⟨rfl, _, rfl, z, rfl, rfl, hb z (List.mem_of_getElem? hz), hy _ _ (Same.refl _) (.int _)⟩
    · rw [List.length_map, range_getD l 0 (fun k => PyData.int ((2 ^ k : Nat) : Int)), pow_data] at hx
      rw [dpa_ints hx] at hL1
      refine ⟨L, _, rfl, SqL.of hL1, ?_⟩
      rw [sum_pows]
      exact q _ e1
def spPieces (K : PySem.W.Frag) : Sp := fun vs H Q _ => ∃ (b : Nat), vs = [.int (b : Int)] ∧ b < 2 ^ 7 ∧ ∀ t H', Same H H' → Rd H' t (.tup (Vn (pcs b))) → Q (.ref t) H'
theorem pcs_data (b : Nat) : ((List.range (bl b)).filterMap fun j => if b.testBit j = true then some (PyData.int (j : Int)) else none) = (pcs b).map fun (k : Nat) => PyData.int (k : Int) := by
  rw [fm_if (fun j => b.testBit j) (fun j => PyData.int (j : Int))]; rfl
theorem eq_one (c : Bool) : decide (V.int ((if c = true then 1 else 0 : Nat) : Int) = V.int 1) = c := by
  cases c
  · exact decide_eq_false fun z => by have := V.int.inj z; simp at this
  · exact decide_eq_true rfl
theorem one_bit {c : Bool} {R : Bool → Prop} (h : R c) : scal (V.int ((if c = true then 1 else 0 : Nat) : Int)) (V.int 1) = true ∧ ∃ k, V.bl (decide (V.int ((if c = true then 1 else 0 : Nat) : Int) = V.int 1)) = V.bl k ∧ R k := ⟨rfl, c, congrArg V.bl (eq_one c), h⟩
theorem tru_bit {c : Bool} {H : Hp} {R : Bool → Prop} (h : R c) : ∃ k, TruV K (V.int ((if c = true then 1 else 0 : Nat) : Int)) H k ∧ R k := ⟨c, by cases c <;> rfl, h⟩
theorem okpieces_for (T : Txt mg) (D : Def K mg "pieces_for" sPiecesFor pPiecesFor) : Cal P w K mg base 1 "pieces_for" pPiecesFor (spPieces K) := by
  refine cal_of D scPiecesFor (fun vs H Q E h => ?_) (fun f cdv A outer s H vs Q E hr h => ?_)
  · obtain ⟨b, rfl, _⟩ := h; rfl
  obtain ⟨b, rfl, hb, q⟩ := h
  have hbl := bl_le hb
  refine ⟨_, (pss_one (ps_ret (pe_callTy call_tuple_of rfl T.tuple_ b_tuple (pa_cons (pe_lc (own := [("piece", 1)]) rfl scPiecesFor.nd (pi_range1 (by rfl) T.range (pa_cons (pe_bits (pv 0)) pa_nil)) (blkOk_by (N := nPiecesFor) (sc := defScope sPiecesFor) (by decide +kernel)) (fun _ _ _ _ _ => pg_name (i := 1) scPiecesFor.nd rfl (Or.inl rfl)) (fun _ _ _ _ _ => pts_one (pt_truthK (K := K) rfl (pe_op op_andN (pe_op op_shrM (pv 0) (pv 1)) (pe_int)) (by intro _; rfl))) (fun _ _ _ _ _ => pv 1)) pa_nil)))), ?_⟩
  refine ⟨_, rfl, _, rfl, _, rfl, by rw [intBits_bl]; omega, by rw [intBits_bl]; omega, fun L hL => ?_⟩
  rw [intBits_bl, Int.toNat_natCast]
  refine lc_data (K := K) (walk_range0 (n := bl b)) hL (fun _ _ => True.intro) (by omega) (fun j => if b.testBit j = true then some (.int (j : Int)) else none) (fun j d _ e => by split at e <;> cases e; rfl) (fun i x H1 H2 hi e1 y Ky Kn hy hn => ?_) (fun H1 xs e1 hL1 hx => ?_)
  · obtain ⟨rfl, rfl⟩ := y
    refine ⟨rfl, _, rfl, _, rfl, b, i, rfl, rfl, b / 2 ^ i, 1, rfl, rfl, ?_⟩
    rw [shr_odd]
    refine tru_bit ?_
    cases hbi : b.testBit i with
    | true => exact iteT ⟨_, rfl, hy _ (by rw [if_pos hbi]) _ _ (Same.refl _) (.int _)⟩
    | false => exact iteF (hn (by rw [hbi]; rfl) _ (Same.refl _))
  · rw [pcs_data] at hx
    rw [dpa_ns hx] at hL1
    exact ⟨L, _, rfl, .inl ⟨SqL.of hL1, fun l hl => q _ _ (e1.trans (same_new hl _)) (.inl upd_same)⟩⟩
theorem ok_law_pieces (T : Txt mg) (D : Def K mg "_law_pieces" sLwPieces pLwPieces) : Cal P w K mg base 1 "_law_pieces" pLwPieces (spPieces K) := by
  refine cal_of D scLwPieces (fun vs H Q E h => ?_) (fun f cdv A outer s H vs Q E hr h => ?_)
  · obtain ⟨b, rfl, _⟩ := h; rfl
  obtain ⟨b, rfl, hb, q⟩ := h
  have hbl := bl_le hb
  refine ⟨_, (pss_one (ps_ret (pe_callTy call_tuple_of rfl T.tuple_ b_tuple (pa_cons (pe_lc (own := [("_law_k", 1)]) rfl scLwPieces.nd (pi_range1 (by rfl) T.range (pa_cons (pe_bits (pv 0)) pa_nil)) (blkOk_by (N := nLwPieces) (sc := defScope sLwPieces) (by decide +kernel)) (fun _ _ _ _ _ => pg_name (i := 1) scLwPieces.nd rfl (Or.inl rfl)) (fun _ _ _ _ _ => pts_one (pt_cmpR op_eq (pe_op op_andN (pe_op op_shrM (pv 0) (pv 1)) (pe_int)) (pe_int) (nomark _))) (fun _ _ _ _ _ => pv 1)) pa_nil)))), ?_⟩
  refine ⟨_, rfl, _, rfl, _, rfl, by rw [intBits_bl]; omega, by rw [intBits_bl]; omega, fun L hL => ?_⟩
  rw [intBits_bl, Int.toNat_natCast]
  refine lc_data (K := K) (walk_range0 (n := bl b)) hL (fun _ _ => True.intro) (by omega) (fun j => if b.testBit j = true then some (.int (j : Int)) else none) (fun j d _ e => by split at e <;> cases e; rfl) (fun i x H1 H2 hi e1 y Ky Kn hy hn => ?_) (fun H1 xs e1 hL1 hx => ?_)
  · obtain ⟨rfl, rfl⟩ := y
    refine ⟨rfl, _, rfl, _, rfl, b, i, rfl, rfl, b / 2 ^ i, 1, rfl, rfl, ?_⟩
    rw [shr_odd]
    refine one_bit ?_
    cases hbi : b.testBit i with
    | true => exact iteT ⟨_, rfl, hy _ (by rw [if_pos hbi]) _ _ (Same.refl _) (.int _)⟩
    | false => exact iteF (hn (by rw [hbi]; rfl) _ (Same.refl _))
  · rw [pcs_data] at hx
    rw [dpa_ns hx] at hL1
    exact ⟨L, _, rfl, .inl ⟨SqL.of hL1, fun l hl => q _ _ (e1.trans (same_new hl _)) (.inl upd_same)⟩⟩
def spTops (K : PySem.W.Frag) : Sp := fun vs H Q _ => ∃ (a b : Addr) (xs : List V) (m : Nat) (ts : Ties), vs = [.ref a] ∧ NetAt K H a b xs m ts ∧ Good m ts ∧ ∀ L H', Same H H' → H' L = some (.lst (Vn (ups m ts))) → Q (.ref L) H'
theorem oktops_by_bits (T : Txt mg) (D : Def K mg "tops_by_bits" sTopsByBits pTopsByBits) : Cal P w K mg base 1 "tops_by_bits" pTopsByBits (spTops K) := by
  refine cal_of D scTopsByBits (fun vs H Q E h => ?_) (fun f cdv A outer s H vs Q E hr h => ?_)
  · obtain ⟨a, b, xs, m, ts, rfl, _⟩ := h; rfl
  obtain ⟨a, b, xs, m, ts, rfl, n, hg, q⟩ := h
  have hm := hg.le
  have htl := ties_len hg
  have hxl := n.len
  refine ⟨_, (pss_cons (ps_setLc (i := 1) (own := [("piece", 2)]) rfl scTopsByBits.nd rfl rfl (sw_true rfl rfl rfl (by decide +kernel)) (pi_range1 (by rfl) T.range (pa_cons (pe_ix ix_tup (pv 0) (pe_int) (fun _ _ => rfl)) pa_nil)) (blkOk_by (N := nTopsByBits) (sc := defScope sTopsByBits) (by decide +kernel)) (fun _ _ _ _ _ => pg_name (i := 2) scTopsByBits.nd rfl (Or.inl rfl)) (fun _ _ _ _ _ => pts_nil) (fun _ _ _ _ _ => pe_op op_shlP (pe_int) (pv 2)))
      (pss_cons (ps_for PassesOwn.never rfl (pi_tup (pe_revT (pe_ix ix_tup (pv 0) (pe_int) (fun _ _ => rfl)))) (pg_tup rfl (pgs_cons (pg_name (i := 3) scTopsByBits.nd rfl (Or.inl rfl)) (pgs_cons (pg_name (i := 4) scTopsByBits.nd rfl (Or.inl rfl)) pgs_nil))) (pss_one (ps_asg (pe_op op_orN (pe_ix ix_list (pv 1) (pv 3) (fun _ _ => rfl)) (pe_ix ix_list (pv 1) (pv 4) (fun _ _ => rfl))) (pg_sub (pv 1) (pv 3) set_list))))
      (pss_one (ps_ret (pv 1))))), ?_⟩
  refine ⟨_, rfl, a, _, _, _, rfl, rfl, n.top, atI_nat (j := 0) rfl, _, rfl, by omega, by omega, fun L hL => ?_⟩
  rw [Int.toNat_natCast]
  refine lc_map (K := K) walk_range0 hL (fun _ _ => True.intro) (by omega) (fun j => .int ((2 ^ j : Nat) : Int)) (fun _ _ => rfl) (fun i x H1 H2 hi e1 y Ky hy => ?_) (fun H1 ys e1 hL1 hx => ?_)
  · obtain ⟨rfl, rfl⟩ := y
    exact ⟨rfl, _, rfl, i, rfl, rfl, by omega, hy _ _ (Same.refl _) (.int _)⟩
  have hx' : DpAll K H1 ys ((ups0 m).map fun (k : Nat) => PyData.int (k : Int)) := by
    unfold ups0
    rw [List.map_map]
    exact hx
  rw [dpa_ns hx'] at hL1
  have n1 := n.same e1
  refine ⟨_, rfl, a, _, _, _, rfl, rfl, n1.top, atI_nat (j := 1) rfl, b, xs, rfl, n1.tie, fun R hR => ?_⟩
  have e2 : Same H (upd H1 R (.tup xs.reverse)) := e1.trans (same_new hR _)
  have n2 := n.same e2
  have hall := dpa_rev n2.all
  rw [← List.map_reverse] at hall
  refine ⟨R, rfl, ⟨_, SqT.of upd_same⟩, for_it (walk_tup (K := K) (xs := xs.reverse)) (fun i σ H' => ∃ v2 v3 v4, σ = [some (.ref a), some (.ref L), v2, v3, v4] ∧ Same H H' ∧ KeepT (upd H1 R (.tup xs.reverse)) H' ∧ H' L = some (.lst (Vn ((ts.reverse.take i).foldl upd1 (ups0 m)))))
    ⟨_, _, _, rfl, e2, KeepT.refl _, (same_new hR _) _ _ hL1⟩ (fun i σ H' _ h => keepT_sq h.choose_spec.choose_spec.choose_spec.2.2.1 (SqT.of upd_same)) (fun i x σ H' H'' hi h y => ?_) (fun σ H' h => ?_)⟩
  · obtain ⟨v2, v3, v4, rfl, e3, kt, hLx⟩ := h
    obtain ⟨rfl, hx⟩ := y
    obtain ⟨d, hdp, hxd⟩ := dpa_get hall hx
    rw [List.getElem?_map] at hdp
    obtain ⟨p, hp, rfl⟩ := Option.map_eq_some_iff.mp hdp
    obtain ⟨t, rfl, ht⟩ := dp_pair (Dp.keep kt (noL_p p) hxd)
    have hpr := hg.rng p (List.mem_reverse.mp (List.mem_of_getElem? hp))
    generalize hf : (ts.reverse.take i).foldl upd1 (ups0 m) = fl at hLx
    have hfl : fl.length = m := by rw [← hf, fold_length, ups0_length]
    refine ⟨t, _, rfl, ht, rfl, _, _, rfl, _, _, rfl, rfl, ?_⟩
    refine ⟨_, rfl, _, rfl, L, _, _, _, rfl, rfl, SqL.of hLx, atI_nat (vn_get (i := p.1) (by omega)), _, rfl, _, rfl, L, _, _, _, rfl, rfl, SqL.of hLx, atI_nat (vn_get (i := p.2) (by omega)), _, _, rfl, rfl, ?_⟩
    refine ⟨_, rfl, _, rfl, L, _, _, p.1, rfl, rfl, hLx, ixN_nat (by rw [List.length_map]; omega), v2, _, _, rfl, same_upd e3 hL, kt.trans (KeepT.upd (not_tup_lst hLx)), ?_⟩
    rw [upd_same, vn_set, List.take_succ, hp, List.foldl_append, hf]; rfl
  · obtain ⟨v2, v3, v4, rfl, e3, kt, hLx⟩ := h
    rw [List.length_reverse, hxl, ← List.length_reverse, List.take_length] at hLx
    exact ⟨_, rfl, q _ _ e3 hLx⟩
theorem ok_law_ups (T : Txt mg) (D : Def K mg "_law_ups" sLwUps pLwUps) : Cal P w K mg base 1 "_law_ups" pLwUps (spTops K) := by
  refine cal_of D scLwUps (fun vs H Q E h => ?_) (fun f cdv A outer s H vs Q E hr h => ?_)
  · obtain ⟨a, b, xs, m, ts, rfl, _⟩ := h; rfl
  obtain ⟨a, b, xs, m, ts, rfl, n, hg, q⟩ := h
  have hm := hg.le
  have htl := ties_len hg
  have hxl := n.len
  refine ⟨_, (pss_cons (ps_setLc (i := 1) (own := [("_law_k", 2)]) rfl scLwUps.nd rfl rfl (sw_true rfl rfl rfl (by decide +kernel)) (pi_range1 (by rfl) T.range (pa_cons (pe_ix ix_tup (pv 0) (pe_int) (fun _ _ => rfl)) pa_nil)) (blkOk_by (N := nLwUps) (sc := defScope sLwUps) (by decide +kernel)) (fun _ _ _ _ _ => pg_name (i := 2) scLwUps.nd rfl (Or.inl rfl)) (fun _ _ _ _ _ => pts_nil) (fun _ _ _ _ _ => pe_op op_shlP (pe_int) (pv 2)))
      (pss_cons (ps_for PassesOwn.never rfl (pi_tup (pe_revT (pe_ix ix_tup (pv 0) (pe_int) (fun _ _ => rfl)))) (pg_tup rfl (pgs_cons (pg_name (i := 3) scLwUps.nd rfl (Or.inl rfl)) (pgs_cons (pg_name (i := 4) scLwUps.nd rfl (Or.inl rfl)) pgs_nil))) (pss_one (ps_asg (pe_op op_orN (pe_ix ix_list (pv 1) (pv 3) (fun _ _ => rfl)) (pe_ix ix_list (pv 1) (pv 4) (fun _ _ => rfl))) (pg_sub (pv 1) (pv 3) set_list))))
      (pss_one (ps_ret (pv 1))))), ?_⟩
  refine ⟨_, rfl, a, _, _, _, rfl, rfl, n.top, atI_nat (j := 0) rfl, _, rfl, by omega, by omega, fun L hL => ?_⟩
  rw [Int.toNat_natCast]
  refine lc_map (K := K) walk_range0 hL (fun _ _ => True.intro) (by omega) (fun j => .int ((2 ^ j : Nat) : Int)) (fun _ _ => rfl) (fun i x H1 H2 hi e1 y Ky hy => ?_) (fun H1 ys e1 hL1 hx => ?_)
  · obtain ⟨rfl, rfl⟩ := y
    exact ⟨rfl, _, rfl, i, rfl, rfl, by omega, hy _ _ (Same.refl _) (.int _)⟩
  have hx' : DpAll K H1 ys ((ups0 m).map fun (k : Nat) => PyData.int (k : Int)) := by
    unfold ups0
    rw [List.map_map]
    exact hx
  rw [dpa_ns hx'] at hL1
  have n1 := n.same e1
  refine ⟨_, rfl, a, _, _, _, rfl, rfl, n1.top, atI_nat (j := 1) rfl, b, xs, rfl, n1.tie, fun R hR => ?_⟩
  have e2 : Same H (upd H1 R (.tup xs.reverse)) := e1.trans (same_new hR _)
  have n2 := n.same e2
  have hall := dpa_rev n2.all
  rw [← List.map_reverse] at hall
  refine ⟨R, rfl, ⟨_, SqT.of upd_same⟩, for_it (walk_tup (K := K) (xs := xs.reverse)) (fun i σ H' => ∃ v2 v3 v4, σ = [some (.ref a), some (.ref L), v2, v3, v4] ∧ Same H H' ∧ KeepT (upd H1 R (.tup xs.reverse)) H' ∧ H' L = some (.lst (Vn ((ts.reverse.take i).foldl upd1 (ups0 m)))))
    ⟨_, _, _, rfl, e2, KeepT.refl _, (same_new hR _) _ _ hL1⟩ (fun i σ H' _ h => keepT_sq h.choose_spec.choose_spec.choose_spec.2.2.1 (SqT.of upd_same)) (fun i x σ H' H'' hi h y => ?_) (fun σ H' h => ?_)⟩
  · obtain ⟨v2, v3, v4, rfl, e3, kt, hLx⟩ := h
    obtain ⟨rfl, hx⟩ := y
    obtain ⟨d, hdp, hxd⟩ := dpa_get hall hx
    rw [List.getElem?_map] at hdp
    obtain ⟨p, hp, rfl⟩ := Option.map_eq_some_iff.mp hdp
    obtain ⟨t, rfl, ht⟩ := dp_pair (Dp.keep kt (noL_p p) hxd)
    have hpr := hg.rng p (List.mem_reverse.mp (List.mem_of_getElem? hp))
    generalize hf : (ts.reverse.take i).foldl upd1 (ups0 m) = fl at hLx
    have hfl : fl.length = m := by rw [← hf, fold_length, ups0_length]
    refine ⟨t, _, rfl, ht, rfl, _, _, rfl, _, _, rfl, rfl, ?_⟩
    refine ⟨_, rfl, _, rfl, L, _, _, _, rfl, rfl, SqL.of hLx, atI_nat (vn_get (i := p.1) (by omega)), _, rfl, _, rfl, L, _, _, _, rfl, rfl, SqL.of hLx, atI_nat (vn_get (i := p.2) (by omega)), _, _, rfl, rfl, ?_⟩
    refine ⟨_, rfl, _, rfl, L, _, _, p.1, rfl, rfl, hLx, ixN_nat (by rw [List.length_map]; omega), v2, _, _, rfl, same_upd e3 hL, kt.trans (KeepT.upd (not_tup_lst hLx)), ?_⟩
    rw [upd_same, vn_set, List.take_succ, hp, List.foldl_append, hf]; rfl
  · obtain ⟨v2, v3, v4, rfl, e3, kt, hLx⟩ := h
    rw [List.length_reverse, hxl, ← List.length_reverse, List.take_length] at hLx
    exact ⟨_, rfl, q _ _ e3 hLx⟩
end
end K13

set_option Elab.async false
set_option linter.all false
set_option maxRecDepth 100000
set_option maxHeartbeats 4000000
/-! The walk, part 6: lefts, least, worths. -/
namespace K13
open PySem PySem.Spec PyProof.Rows L2
theorem vn_app (l m : List Nat) : Vn l ++ Vn m = Vn (l ++ m) := by
  show l.map _ ++ m.map _ = (l ++ m).map _
  rw [List.map_append]
theorem nat_perm {ys : List Int} {l : List Nat} (h : ys.Perm (l.map fun (k : Nat) => (k : Int))) : ∃ r : List Nat, ys = r.map (fun (k : Nat) => (k : Int)) ∧ r.Perm l := by
  refine ⟨ys.map Int.toNat, ?_, ?_⟩
  · rw [List.map_map]
    have : ∀ y ∈ ys, ((fun (k : Nat) => (k : Int)) ∘ Int.toNat) y = y := fun y hy => by
      obtain ⟨k, _, rfl⟩ := List.mem_map.mp (h.mem_iff.mp hy)
      show ((k : Int).toNat : Int) = k
      rw [Int.toNat_natCast]
    conv => lhs; rw [← List.map_id ys]
    exact (List.map_congr_left this).symm
  · have := h.map Int.toNat
    rw [List.map_map] at this
    have e : (Int.toNat ∘ fun (k : Nat) => (k : Int)) = id := funext fun k => Int.toNat_natCast k
    rw [e, List.map_id] at this
    exact this
theorem fm_gen {α : Type} (l : List α) (c : α) (q : α → Bool) (g : α → PyData) : ((List.range l.length).filterMap fun j => if q (l.getD j c) = true then some (g (l.getD j c)) else none) = (l.filter q).map g := by
  rw [fm_if (fun j => q (l.getD j c)) (fun j => g (l.getD j c))]
  have e : (List.range l.length).map (fun j => l.getD j c) = l := by
    have := range_getD l c id
    rw [List.map_id] at this
    exact this
  have e2 : ((List.range l.length).filter fun j => q (l.getD j c)).map (fun j => l.getD j c) = l.filter q := by
    conv => rhs; rw [← e]
    rw [List.filter_map]; rfl
  rw [← e2, List.map_map]; rfl
section
variable {P : Program} {w : World} {K : PySem.W.Frag} {mg : Str → Option Value} {base : Heap}
def spLefts (K : PySem.W.Frag) : Sp := fun vs H Q _ => ∃ (a b : Addr) (xs : List V) (m : Nat) (ts : Ties), vs = [.ref a] ∧ NetAt K H a b xs m ts ∧ Good m ts ∧ ∀ L H', Same H H' → H' L = some (.lst (Vn (lefts m ts))) → Q (.ref L) H'
theorem lefts_done {m : Nat} {ts : Ties} (g : Good m ts) {ys : List Int} (h1 : ys.Perm ((leftsU ts m).map fun (k : Nat) => (k : Int))) (h2 : ys.Pairwise (· ≤ ·)) : ys.map V.int = Vn (lefts m ts) := by
  obtain ⟨r, rfl, hp⟩ := nat_perm h1
  rw [List.pairwise_map] at h2
  rw [sorted_lefts g hp (h2.imp fun {a b} z => by omega), ← vn_ints]
/-- the comprehension in the loop of lefts -/
theorem ok_lefts_by_bits (T : Txt mg) (D : Def K mg "lefts_by_bits" sLeftsByBits pLeftsByBits) (cBitsFor : Cal P w K mg base 1 "bits_for" pBitsFor (spBits K)) : Cal P w K mg base 2 "lefts_by_bits" pLeftsByBits (spLefts K) := by
  obtain ⟨tF, hFew⟩ := T.few
  refine cal_of D scLeftsByBits (fun vs H Q E h => ?_) (fun f cdv A outer s H vs Q E hr h => ?_)
  · obtain ⟨a, b, xs, m, ts, rfl, _⟩ := h; rfl
  obtain ⟨a, b, xs, m, ts, rfl, n, hg, q⟩ := h
  have hm := hg.le
  have htl := ties_len hg
  have hxl := n.len
  refine ⟨_, (pss_cons (ps_setLc (i := 1) (own := [("_", 2)]) rfl scLeftsByBits.nd rfl rfl (sw_true rfl rfl rfl (by decide +kernel)) (pi_range1 (by rfl) T.range (pa_cons (pe_ix ix_tup (pv 0) (pe_int) (fun _ _ => rfl)) pa_nil)) (blkOk_by (N := nLeftsByBits) (sc := defScope sLeftsByBits) (by decide +kernel)) (fun _ _ _ _ _ => pg_name (i := 2) scLeftsByBits.nd rfl (Or.inl rfl)) (fun _ _ _ _ _ => pts_nil) (fun _ _ _ _ _ => pe_lst pa_nil))
      (pss_cons (ps_for PassesOwn.never rfl (pi_tup (pe_ix ix_tup (pv 0) (pe_int) (fun _ _ => rfl))) (pg_tup rfl (pgs_cons (pg_name (i := 3) scLeftsByBits.nd rfl (Or.inl rfl)) (pgs_cons (pg_name (i := 4) scLeftsByBits.nd rfl (Or.inl rfl)) pgs_nil))) (pss_one (ps_expr (pe_bm PySem.F.plainAttrs_list PySem.F.slot_list_append PySem.F.type_list_append mt_append (pe_ix ix_list (pv 1) (pv 4) (fun _ _ => rfl)) (pa_cons (pv 3) pa_nil)))))
      (pss_cons (ps_set (i := 5) scLeftsByBits.nd rfl (Or.inl rfl) (pe_lst (pa_cons (pe_int) pa_nil)))
      (pss_cons (ps_for PassesOwn.never rfl (pi_range1 (by rfl) T.range (pa_cons (pe_ix ix_tup (pv 0) (pe_int) (fun _ _ => rfl)) pa_nil)) (pg_name (i := 6) scLeftsByBits.nd rfl (Or.inr rfl)) (pss_cons (ps_set (i := 7) scLeftsByBits.nd rfl (Or.inr rfl) (pe_c cBitsFor hr (by decide) rfl (pa_cons (pe_ix ix_list (pv 1) (pv 6) (fun _ _ => rfl)) pa_nil)))
      (pss_cons (ps_set (i := 5) scLeftsByBits.nd rfl (Or.inl rfl) (pe_op op_cat (pv 5) (pe_lc (own := [("bits", 8)]) rfl scLeftsByBits.nd (pi_list (pv 5)) (blkOk_by (N := nLeftsByBits) (sc := defScope sLeftsByBits) (by decide +kernel)) (fun _ _ _ _ _ => pg_name (i := 8) scLeftsByBits.nd rfl (Or.inl rfl)) (fun _ _ _ _ _ => pts_one (pt_cmpR op_eq (pe_op op_andN (pv 8) (pv 7)) (pv 7) (nomark _))) (fun _ _ _ _ _ => pe_op op_orN (pv 8) (pe_op op_shlP (pe_int) (pv 6))))))
      (pss_one (ps_if (pt_cmpR op_gt (pe_callB call_len_seq rfl T.len b_len (pa_cons (pv 5) pa_nil)) (pe_glob (v := .int 2000) rfl hFew ⟨_, rfl⟩) (nomark _)) (pss_one (ps_never)) pss_nil)))))
      (pss_one (ps_ret (pe_callB cr_sortedI rfl T.sorted b_sorted (pa_cons (pv 5) pa_nil)))))))), ?_⟩
  refine ⟨_, rfl, a, _, _, _, rfl, rfl, n.top, atI_nat (j := 0) rfl, _, rfl, by omega, by omega, fun F hF => ?_⟩
  rw [Int.toNat_natCast]
  refine lc_news walk_range0 hF (fun _ _ => True.intro) (by omega) (.lst []) (fun i x H1 H2 _ _ y Ky hk => ?_) (fun H1 fs N => ?_)
  · obtain ⟨rfl, rfl⟩ := y
    exact ⟨rfl, (by show 0 ≤ sizeLine; decide), hk⟩
  have n1 := n.same N.same
  refine ⟨_, rfl, a, _, _, _, rfl, rfl, n1.top, atI_nat (j := 1) rfl, b, rfl, ⟨_, n1.tie⟩, for_it (walk_tup (K := K) (xs := xs)) (fun i σ H' => ∃ v2 v3 v4, σ = [some (.ref a), some (.ref F), v2, v3, v4, none, none, none, none] ∧ Same H H' ∧ H' F = some (.lst (fs.map V.ref)) ∧
      ∀ j f, fs[j]? = some f → H' f = some (.lst (Vn (lowsOf (ts.take i) j))))
    ⟨_, _, _, rfl, N.same, N.at_, fun j f hf => by rw [List.take_zero]; exact N.obj f (List.mem_of_getElem? hf)⟩ (fun i σ H' _ h => seqT h.choose_spec.choose_spec.choose_spec.2.1 n.tie) (fun i x σ H' H'' hi h y => ?_) (fun σ H2 h => ?_)⟩
  · obtain ⟨v2, v3, v4, rfl, e1, hF1, hf1⟩ := h
    obtain ⟨rfl, hx⟩ := y
    obtain ⟨p, t, hp, rfl, ht⟩ := (n.same e1).get hx
    have hpr := hg.rng p (List.mem_of_getElem? hp)
    have hlt : p.2 < fs.length := by rw [N.len]; exact hpr.2
    have hfl : fs[p.2]? = some fs[p.2] := List.getElem?_eq_getElem hlt
    have hfo := hf1 p.2 _ hfl
    have hfm := List.mem_of_getElem? hfl
    have hll : (lowsOf (ts.take i) p.2).length ≤ 100 := by
      unfold lowsOf
      rw [List.length_map]
      have := List.length_filter_le (fun q : Nat × Nat => q.2 == p.2) (ts.take i)
      have := List.length_take_le i ts
      omega
    refine ⟨t, _, rfl, ht, rfl, _, _, rfl, _, _, rfl, rfl, ?_⟩
    refine ⟨_, rfl, _, rfl, F, _, _, _, rfl, rfl, SqL.of hF1, atI_nat (j := p.2) (by rw [List.getElem?_map, hfl]; rfl), tyv_list (SqL.of hfo), ?_⟩
    refine ⟨_, rfl, _, _, _, rfl, rfl, hfo, by rw [List.length_map]; exact Evl.sz_lt (by omega), v2, _, _, rfl, same_upd e1 (N.new _ hfm), ?_, fun j f hf => ?_⟩
    · rw [upd_ne (fun z => N.off (by rw [z]; exact hfm))]
      exact hF1
    · rw [List.take_succ, hp]
      show _ = some (HO.lst (Vn (lowsOf (ts.take i ++ [p]) j)))
      rw [lowsOf_snoc]
      by_cases hj : p.2 = j
      · subst hj
        rw [hfl] at hf
        cases hf
        rw [upd_same, if_pos rfl, ← vn_app]; rfl
      · rw [if_neg hj, List.append_nil, upd_ne]
        · exact hf1 j f hf
        · intro z
          subst z
          exact hj (nd_ix N.nd hfl hf)
  obtain ⟨v2, v3, v4, rfl, e1, hF1, hf1⟩ := h
  rw [hxl, List.take_length] at hf1
  refine ⟨(by show 1 ≤ sizeLine; decide), fun G0 hG0 => ?_⟩
  have n2 := n.same (e1.trans (same_new hG0 (.lst [.int 0])))
  refine ⟨_, rfl, a, _, _, _, rfl, rfl, n2.top, atI_nat (j := 0) rfl, _, rfl, by omega, by omega, ?_⟩
  rw [Int.toNat_natCast]
  refine for_it (walk_range0 (n := m)) (fun i σ H' => ∃ v6 v7 v8 G, σ = [some (.ref a), some (.ref F), v2, v3, v4, some (.ref G), v6, v7, v8] ∧ Same H2 H' ∧ H' G = some (.lst (Vn (leftsU ts i))))
    ⟨_, _, _, G0, rfl, same_new hG0 _, upd_same⟩ (fun _ _ _ _ _ => True.intro) (fun i x σ H3 H4 hi h y => ?_) (fun σ H3 h => ?_)
  · obtain ⟨v6, v7, v8, G, rfl, e2, hG⟩ := h
    obtain ⟨rfl, rfl⟩ := y
    have hlt : i < fs.length := by rw [N.len]; exact hi
    have hfl : fs[i]? = some fs[i] := List.getElem?_eq_getElem hlt
    have hfo := e2 _ _ (hf1 i _ hfl)
    have hll : (lowsOf ts i).length ≤ 100 := by
      unfold lowsOf
      rw [List.length_map]
      have := List.length_filter_le (fun q : Nat × Nat => q.2 == i) ts
      omega
    have hlu := leftsU_len ts i
    have hlu1 := leftsU_len ts (i + 1)
    have hpw := pow_le7 (m := i) (by omega)
    have hpw1 := pow_le7 (m := i + 1) (by omega)
    refine ⟨_, rfl, _, rfl, F, _, _, _, rfl, rfl, SqL.of (e2 _ _ hF1), atI_nat (j := i) (by rw [List.getElem?_map, hfl]; rfl), _, lowsOf ts i, rfl, .inl (SqL.of hfo), by omega, fun x hx => by have := hg.rng _ (mem_lowsOf.mp hx); omega, fun H5 e3 => ?_⟩
    have hG5 := e3 _ _ hG
    refine ⟨_, rfl, _, rfl, G, rfl, ⟨_, SqL.of hG5⟩, fun L hL => ?_⟩
    refine lc_data (K := K) (walk_list (K := K) (xs := Vn (leftsU ts i))) hL (fun H' e => SqL.of (e _ _ hG5)) (by rw [List.length_map]; omega) (fun j => if ((leftsU ts i).getD j 0 &&& pows (lowsOf ts i) == pows (lowsOf ts i)) = true then some (.int (((leftsU ts i).getD j 0 ||| 2 ^ i : Nat) : Int)) else none) (fun j d _ e => by split at e <;> cases e; rfl) (fun j x H6 H7 hj e4 y Ky Kn hy hn => ?_) (fun H6 ys e4 hL6 hx => ?_)
    · obtain ⟨rfl, hx⟩ := y
      rw [List.getElem?_map] at hx
      obtain ⟨c, hc, rfl⟩ := Option.map_eq_some_iff.mp hx
      rw [getD_of hc] at hy hn
      refine ⟨rfl, _, rfl, _, rfl, c, pows (lowsOf ts i), rfl, rfl, _, rfl, rfl, (c &&& pows (lowsOf ts i) == pows (lowsOf ts i)), ?_, ?_⟩
      · refine congrArg V.bl ?_
        by_cases he : c &&& pows (lowsOf ts i) = pows (lowsOf ts i)
        · rw [he]; simp
        · rw [decide_eq_false (fun z => he (by have := V.int.inj z; omega))]
          exact (beq_eq_false_iff_ne.mpr he).symm
      cases hcc : (c &&& pows (lowsOf ts i) == pows (lowsOf ts i)) with
      | true => exact iteT ⟨_, rfl, _, rfl, i, rfl, rfl, by omega, c, 2 ^ i, rfl, rfl, hy _ (by rw [if_pos hcc]) _ _ (Same.refl _) (.int _)⟩
      | false => exact iteF (hn (by rw [hcc]; rfl) _ (Same.refl _))
    · rw [List.length_map, fm_nat (leftsU ts i) (fun b => b &&& pows (lowsOf ts i) == pows (lowsOf ts i)) (fun b => b ||| 2 ^ i)] at hx
      rw [dpa_ns hx] at hL6
      have hG6 := e4 _ _ hG5
      have hst : Vn (leftsU ts i) ++ Vn ((leftsU ts i).filter (fun b => b &&& pows (lowsOf ts i) == pows (lowsOf ts i)) |>.map fun b => b ||| 2 ^ i) = Vn (leftsU ts (i + 1)) := by rw [vn_app, leftsU_succ]; rfl
      have hsz : (Vn (leftsU ts (i + 1))).length ≤ 128 := by rw [List.length_map]; omega
      refine ⟨G, L, _, _, rfl, rfl, hG6, hL6, ?_, fun G2 hG2 => ?_⟩
      · rw [← List.length_append, hst]
        exact Evl.sz_of (by omega)
      rw [hst]
      have e6 := (e2.trans e3).trans (e4.trans (same_new hG2 (.lst (Vn (leftsU ts (i + 1))))))
      refine ⟨_, rfl, G2, _, rfl, .inl (SqL.of upd_same), _, _, rfl, rfl, false, ?_, iteF ⟨_, _, _, G2, rfl, e6, upd_same⟩⟩
      exact congrArg V.bl (decide_eq_false (show ¬ ((2000 : Int) < ((Vn (leftsU ts (i + 1))).length : Int)) by omega))
  · obtain ⟨v6, v7, v8, G, rfl, e2, hG⟩ := h
    refine ⟨_, rfl, G, (leftsU ts m).map (fun (k : Nat) => (k : Int)), rfl, by rw [← vn_ints]; exact SqL.of hG, fun ys R hp1 hp2 hR => q _ _ ((e1.trans e2).trans (same_new hR _)) ?_⟩
    rw [upd_same, lefts_done hg hp1 hp2]
theorem ok_law_lefts (T : Txt mg) (D : Def K mg "_law_lefts" sLwLefts pLwLefts) (cLwBits : Cal P w K mg base 1 "_law_bits" pLwBits (spBits K)) : Cal P w K mg base 2 "_law_lefts" pLwLefts (spLefts K) := by
  refine cal_of D scLwLefts (fun vs H Q E h => ?_) (fun f cdv A outer s H vs Q E hr h => ?_)
  · obtain ⟨a, b, xs, m, ts, rfl, _⟩ := h; rfl
  obtain ⟨a, b, xs, m, ts, rfl, n, hg, q⟩ := h
  have hm := hg.le
  have htl := ties_len hg
  have hxl := n.len
  refine ⟨_, (pss_cons (ps_set (i := 1) scLwLefts.nd rfl (Or.inl rfl) (pe_lst (pa_cons (pe_int) pa_nil)))
      (pss_cons (ps_for PassesOwn.never rfl (pi_range1 (by rfl) T.range (pa_cons (pe_ix ix_tup (pv 0) (pe_int) (fun _ _ => rfl)) pa_nil)) (pg_name (i := 2) scLwLefts.nd rfl (Or.inr rfl)) (pss_cons (ps_set (i := 3) scLwLefts.nd rfl (Or.inr rfl) (pe_c cLwBits hr (by decide) rfl (pa_cons (pe_lc (own := [("_law_low_so", 4), ("_law_high_so", 5)]) rfl scLwLefts.nd (pi_tup (pe_ix ix_tup (pv 0) (pe_int) (fun _ _ => rfl))) (blkOk_by (N := nLwLefts) (sc := defScope sLwLefts) (by decide +kernel)) (fun _ _ _ _ _ => pg_tupK (K := K) (n := 2) rfl rfl (pgs_cons (pg_name (i := 4) scLwLefts.nd rfl (Or.inl rfl)) (pgs_cons (pg_name (i := 5) scLwLefts.nd rfl (Or.inl rfl)) pgs_nil))) (fun _ _ _ _ _ => pts_one (pt_cmpR op_eq (pv 5) (pv 2) (nomark _))) (fun _ _ _ _ _ => pv 4)) pa_nil)))
      (pss_one (ps_set (i := 1) scLwLefts.nd rfl (Or.inl rfl) (pe_op op_cat (pv 1) (pe_lc (own := [("_law_own", 6)]) rfl scLwLefts.nd (pi_list (pv 1)) (blkOk_by (N := nLwLefts) (sc := defScope sLwLefts) (by decide +kernel)) (fun _ _ _ _ _ => pg_name (i := 6) scLwLefts.nd rfl (Or.inl rfl)) (fun _ _ _ _ _ => pts_one (pt_cmpR op_eq (pe_op op_andN (pv 6) (pv 3)) (pv 3) (nomark _))) (fun _ _ _ _ _ => pe_op op_orN (pv 6) (pe_op op_shlP (pe_int) (pv 2)))))))))
      (pss_one (ps_ret (pe_callB cr_sortedI rfl T.sorted b_sorted (pa_cons (pv 1) pa_nil)))))), ?_⟩
  refine ⟨(by show 1 ≤ sizeLine; decide), fun G0 hG0 => ?_⟩
  have n2 := n.same (same_new hG0 (.lst [.int 0]))
  refine ⟨_, rfl, a, _, _, _, rfl, rfl, n2.top, atI_nat (j := 0) rfl, _, rfl, by omega, by omega, ?_⟩
  rw [Int.toNat_natCast]
  refine for_it (walk_range0 (n := m)) (fun i σ H' => ∃ v2 v3 v4 v5 v6 G, σ = [some (.ref a), some (.ref G), v2, v3, v4, v5, v6] ∧ Same H H' ∧ H' G = some (.lst (Vn (leftsU ts i))))
    ⟨_, _, _, _, _, G0, rfl, same_new hG0 _, upd_same⟩ (fun _ _ _ _ _ => True.intro) (fun i x σ H3 H4 hi h y => ?_) (fun σ H3 h => ?_)
  · obtain ⟨v2, v3, v4, v5, v6, G, rfl, e2, hG⟩ := h
    obtain ⟨rfl, rfl⟩ := y
    have hll : (lowsOf ts i).length ≤ 100 := by
      unfold lowsOf
      rw [List.length_map]
      have := List.length_filter_le (fun q : Nat × Nat => q.2 == i) ts
      omega
    have hlu := leftsU_len ts i
    have hlu1 := leftsU_len ts (i + 1)
    have hpw := pow_le7 (m := i) (by omega)
    have hpw1 := pow_le7 (m := i + 1) (by omega)
    have n3 := n.same e2
    refine ⟨_, rfl, a, _, _, _, rfl, rfl, n3.top, atI_nat (j := 1) rfl, b, rfl, ⟨_, n3.tie⟩, fun Lu hLu => ?_⟩
    refine lc_data (K := K) (walk_tup (K := K) (xs := xs)) hLu (fun H' e => seqT e n3.tie) (by omega) (fun j => if ((ts.getD j (0, 0)).2 == i) = true then some (.int ((ts.getD j (0, 0)).1 : Nat)) else none) (fun j d _ e => by split at e <;> cases e; rfl) (fun j x H6 H7 hj e4 y Ky Kn hy hn => ?_) (fun H2 zs e0 hLu2 hzs => ?_)
    · obtain ⟨rfl, hx⟩ := y
      obtain ⟨p, t, hp, rfl, ht⟩ := n3.get hx
      rw [getD_of hp] at hy hn
      refine ⟨t, _, rfl, seqT e4 ht, rfl, _, _, rfl, _, _, rfl, rfl, rfl, ?_⟩
      refine ⟨_, rfl, _, rfl, rfl, (p.2 == i), ?_, ?_⟩
      · refine congrArg V.bl ?_
        by_cases he : p.2 = i
        · rw [he]; simp
        · rw [decide_eq_false (fun z => he (by have := V.int.inj z; omega))]
          exact (beq_eq_false_iff_ne.mpr he).symm
      cases hcc : (p.2 == i) with
      | true => exact iteT ⟨_, rfl, hy _ (by rw [if_pos hcc]) _ _ (Same.refl _) (.int _)⟩
      | false => exact iteF (hn (by rw [hcc]; rfl) _ (Same.refl _))
    rw [hxl, fm_gen ts (0, 0) (fun p => p.2 == i) (fun p => PyData.int (p.1 : Nat))] at hzs
    have hzs' : DpAll K H2 zs ((lowsOf ts i).map fun (k : Nat) => PyData.int (k : Int)) := by
      unfold lowsOf
      rw [List.map_map]
      exact hzs
    rw [dpa_ns hzs'] at hLu2
    refine ⟨Lu, lowsOf ts i, rfl, .inl (SqL.of hLu2), by omega, fun x hx => by have := hg.rng _ (mem_lowsOf.mp hx); omega, fun H5 e3 => ?_⟩
    have hG5 := e3 _ _ (e0 _ _ hG)
    refine ⟨_, rfl, _, rfl, G, rfl, ⟨_, SqL.of hG5⟩, fun L hL => ?_⟩
    refine lc_data (K := K) (walk_list (K := K) (xs := Vn (leftsU ts i))) hL (fun H' e => SqL.of (e _ _ hG5)) (by rw [List.length_map]; omega) (fun j => if ((leftsU ts i).getD j 0 &&& pows (lowsOf ts i) == pows (lowsOf ts i)) = true then some (.int (((leftsU ts i).getD j 0 ||| 2 ^ i : Nat) : Int)) else none) (fun j d _ e => by split at e <;> cases e; rfl) (fun j x H6 H7 hj e4 y Ky Kn hy hn => ?_) (fun H6 ys e4 hL6 hx => ?_)
    · obtain ⟨rfl, hx⟩ := y
      rw [List.getElem?_map] at hx
      obtain ⟨c, hc, rfl⟩ := Option.map_eq_some_iff.mp hx
      rw [getD_of hc] at hy hn
      refine ⟨rfl, _, rfl, _, rfl, c, pows (lowsOf ts i), rfl, rfl, _, rfl, rfl, (c &&& pows (lowsOf ts i) == pows (lowsOf ts i)), ?_, ?_⟩
      · refine congrArg V.bl ?_
        by_cases he : c &&& pows (lowsOf ts i) = pows (lowsOf ts i)
        · rw [he]; simp
        · rw [decide_eq_false (fun z => he (by have := V.int.inj z; omega))]
          exact (beq_eq_false_iff_ne.mpr he).symm
      cases hcc : (c &&& pows (lowsOf ts i) == pows (lowsOf ts i)) with
      | true => exact iteT ⟨_, rfl, _, rfl, i, rfl, rfl, by omega, c, 2 ^ i, rfl, rfl, hy _ (by rw [if_pos hcc]) _ _ (Same.refl _) (.int _)⟩
      | false => exact iteF (hn (by rw [hcc]; rfl) _ (Same.refl _))
    · rw [List.length_map, fm_nat (leftsU ts i) (fun b => b &&& pows (lowsOf ts i) == pows (lowsOf ts i)) (fun b => b ||| 2 ^ i)] at hx
      rw [dpa_ns hx] at hL6
      have hG6 := e4 _ _ hG5
      have hst : Vn (leftsU ts i) ++ Vn ((leftsU ts i).filter (fun b => b &&& pows (lowsOf ts i) == pows (lowsOf ts i)) |>.map fun b => b ||| 2 ^ i) = Vn (leftsU ts (i + 1)) := by rw [vn_app, leftsU_succ]; rfl
      have hsz : (Vn (leftsU ts (i + 1))).length ≤ 128 := by rw [List.length_map]; omega
      refine ⟨G, L, _, _, rfl, rfl, hG6, hL6, ?_, fun G2 hG2 => ?_⟩
      · rw [← List.length_append, hst]
        exact Evl.sz_of (by omega)
      rw [hst]
      have e6 := ((e2.trans e0).trans e3).trans (e4.trans (same_new hG2 (.lst (Vn (leftsU ts (i + 1))))))
      exact ⟨_, _, _, _, _, G2, rfl, e6, upd_same⟩
  · obtain ⟨v2, v3, v4, v5, v6, G, rfl, e2, hG⟩ := h
    refine ⟨_, rfl, G, (leftsU ts m).map (fun (k : Nat) => (k : Int)), rfl, by rw [← vn_ints]; exact SqL.of hG, fun ys R hp1 hp2 hR => q _ _ (e2.trans (same_new hR _)) ?_⟩
    rw [upd_same, lefts_done hg hp1 hp2]
end
end K13

set_option Elab.async false
set_option linter.all false
set_option maxRecDepth 100000
set_option maxHeartbeats 4000000
/-! The walk, part 7: least, worths. -/
namespace K13
open PySem PySem.Spec PyProof.Rows L2
def kvs (g : Nat → V) (l : List Nat) : List (Key × V) := l.map fun (b : Nat) => (Sum.inl (b : Int), g b)
theorem kvs_len (g : Nat → V) (l : List Nat) : (kvs g l).length = l.length := by unfold kvs; rw [List.length_map]
theorem kvs_val (g : Nat → V) (k : Nat) : ∀ l : List Nat, valV (kvs g l) (Sum.inl (k : Int) : Key) = if k ∈ l then some (g k) else none
  | [] => by simp [kvs, valV_nil]
  | a :: l => by
    have ih := kvs_val g k l
    show valV ((Sum.inl (a : Int), g a) :: kvs g l) (Sum.inl (k : Int)) = _
    by_cases h : a = k
    · subst h
      rw [valV_pos rfl]
      simp
    · have h1 : ¬ (Sum.inl (a : Int) : Key) = Sum.inl (k : Int) := fun z => h (by have := Sum.inl.inj z; omega)
      rw [valV_neg h1, ih]
      have h2 : ¬ k = a := fun z => h z.symm
      simp [h2]
theorem kvs_snoc (g : Nat → V) (l : List Nat) (b : Nat) (h : b ∉ l) : putK (kvs g l) (Sum.inl (b : Int)) (g b) = kvs g (l ++ [b]) := by
  rw [putK_new _ (by rw [kvs_val, if_neg h])]
  unfold kvs
  rw [List.map_append]; rfl
theorem mem_take_lt {l : List Nat} (ha : l.Pairwise (· < ·)) {i b c : Nat} (hb : l[i]? = some b) (hc : c ∈ l) (h : c < b) : c ∈ l.take i := by
  obtain ⟨j, hj, e⟩ := List.mem_iff_getElem.mp hc
  obtain ⟨hi, e2⟩ := List.getElem?_eq_some_iff.mp hb
  have hji : j < i := by
    refine Classical.byContradiction fun z => ?_
    rcases Nat.lt_or_ge i j with h2 | h2
    · have := List.pairwise_iff_getElem.mp ha i j hi hj h2
      omega
    · have : i = j := by omega
      subst this
      omega
  rw [List.mem_take_iff_getElem]
  exact ⟨j, by omega, e⟩
theorem pairs_of {K : PySem.W.Frag} {H : Hp} : ∀ {l : List Nat} {xs : List V}, DpAll K H xs (l.map fun (k : Nat) => PyData.tuple [.int (k : Int), .bool true]) → ∃ ps : List Addr, xs = ps.map V.ref ∧ Paired (fun p kv => SqT K H p [kV kv.1, kv.2]) ps (keysOf l)
  | [], _, h => by cases h; exact ⟨[], rfl, .nil⟩
  | k :: l, _, h => by
    rw [List.map_cons] at h
    cases h with
    | cons h1 h2 =>
      obtain ⟨ps, rfl, hp⟩ := pairs_of h2
      obtain ⟨a, ys, rfl, hs, ha⟩ := dp_tup h1
      obtain ⟨x, y, rfl, hx, hy⟩ := dpa_two ha
      rw [dp_int hx, dp_bool hy] at hs
      exact ⟨a :: ps, rfl, .cons hs hp⟩
section
variable {P : Program} {w : World} {K : PySem.W.Frag} {mg : Str → Option Value} {base : Heap}
def spLeast (K : PySem.W.Frag) : Sp := fun vs H Q _ => ∃ (a : Addr) (l : List Nat), vs = [.ref a] ∧ SqL K H a (Vn l) ∧ l.length ≤ 1000 ∧ ∀ H', Same H H' → Q (.int (mex l : Nat)) H'
theorem ok_least_without (T : Txt mg) (D : Def K mg "least_without" sLeastWithout pLeastWithout) : Cal P w K mg base 1 "least_without" pLeastWithout (spLeast K) := by
  refine cal_of D scLeastWithout (fun vs H Q E h => ?_) (fun f cdv A outer s H vs Q E hr h => ?_)
  · obtain ⟨a, l, rfl, _⟩ := h; rfl
  obtain ⟨a, l, rfl, ha, hl, q⟩ := h
  have hu := hu_of hr
  refine ⟨_, (pss_cons (ps_par (i := 1) (j := 2) rfl scLeastWithout.nd rfl rfl (by decide) rfl rfl (pa_cons (pe_callTy (call_dictP rfl) rfl T.dict_ b_dict (pa_cons (pe_lc (own := [("number", 3)]) rfl scLeastWithout.nd (pi_list (pv 0)) (blkOk_by (N := nLeastWithout) (sc := defScope sLeastWithout) (by decide +kernel)) (fun _ _ _ _ _ => pg_name (i := 3) scLeastWithout.nd rfl (Or.inl rfl)) (fun _ _ _ _ _ => pts_nil) (fun _ _ _ _ _ => pe_tup (pa_cons (pv 3) (pa_cons (pe_bl) pa_nil)))) pa_nil)) (pa_cons (pe_int) pa_nil)) (by rfl))
      (pss_cons (ps_while PassesOwn.never (pt_cmp (pc_din hu (pv 2) (pv 1))) (pss_one (ps_set (i := 2) scLeastWithout.nd rfl (Or.inl rfl) (pe_op op_add (pv 2) (pe_int)))))
      (pss_one (ps_ret (pv 2))))), ?_⟩
  refine ⟨_, rfl, a, rfl, ⟨_, ha⟩, fun L hL => ?_⟩
  refine lc_map (K := K) (walk_list (K := K) (xs := Vn l)) hL (fun H' e => e.seq ha) (by rw [List.length_map]; omega) (fun i => .tuple [.int (l.getD i 0 : Nat), .bool true]) (fun _ _ => rfl) (fun i x H1 H2 hi e1 y Ky hy => ?_) (fun H1 xs e1 hL1 hx => ?_)
  · obtain ⟨rfl, hx⟩ := y
    rw [List.getElem?_map] at hx
    obtain ⟨z, hz, rfl⟩ := Option.map_eq_some_iff.mp hx
    rw [getD_of hz] at hy
    exact ⟨rfl, _, rfl, (by show 2 ≤ sizeLine; decide), fun p hp => hy _ _ (same_new hp _) (.tup (SqT.of upd_same) (.cons (.int _) (.cons (.bl _) .nil)))⟩
  rw [List.length_map, range_getD l 0 (fun k => PyData.tuple [.int (k : Nat), .bool true])] at hx
  obtain ⟨ps, rfl, hp⟩ := pairs_of hx
  refine ⟨L, ps, keysOf l, rfl, SqL.of hL1, hp, fun d hd => ?_⟩
  have hm : mergeK [] (keysOf l) = keysOf (l.foldl addN []) := mergeK_keys l []
  rw [hm]
  refine ⟨_, _, rfl, ⟨fun k σ H' => ∃ j : Nat, k = mex l - j ∧ j ≤ mex l ∧ (∃ v3, σ = [some (.ref a), some (.ref d), some (.int (j : Int)), v3]) ∧ H' = upd H1 d (.dK (keysOf (l.foldl addN []))), ⟨mex l, 0, rfl, Nat.zero_le _, ⟨_, rfl⟩, rfl⟩, ?_⟩⟩
  rintro k σ H' ⟨j, rfl, hj, ⟨v3, rfl⟩, rfl⟩
  refine ⟨_, rfl, _, rfl, d, _, rfl, DGet.k (k := Sum.inl (j : Int)) upd_same, ?_⟩
  rw [valV_keys]
  have hmem : (j ∈ l.foldl addN []) = (j ∈ l) := propext (by rw [mem_foldl_addN]; simp)
  simp only [hmem]
  by_cases h : j = mex l
  · subst h
    rw [if_neg (mex_not l)]
    exact ⟨false, rfl, iteF ⟨_, rfl, q _ (e1.trans (same_new hd _))⟩⟩
  · rw [if_pos (mex_below (by omega))]
    exact ⟨true, rfl, iteT ⟨fun σ' H'' => (∃ v3, σ' = [some (.ref a), some (.ref d), some (.int ((j + 1 : Nat) : Int)), v3]) ∧ H'' = upd H1 d (.dK (keysOf (l.foldl addN []))), fun σ' H'' h => ⟨mex l - (j + 1), by omega, j + 1, rfl, by omega, h.1, h.2⟩, _, rfl, _, _, rfl, rfl, ⟨v3, rfl⟩, rfl⟩⟩
theorem ok_law_least_out (T : Txt mg) (D : Def K mg "_law_least_out" sLwLeastOut pLwLeastOut) : Cal P w K mg base 1 "_law_least_out" pLwLeastOut (spLeast K) := by
  refine cal_of D scLwLeastOut (fun vs H Q E h => ?_) (fun f cdv A outer s H vs Q E hr h => ?_)
  · obtain ⟨a, l, rfl, _⟩ := h; rfl
  obtain ⟨a, l, rfl, ha, hl, q⟩ := h
  refine ⟨_, (pss_one (ps_ret (pe_callB (cr_min rfl) rfl T.min b_min (pa_cons (pe_lc (own := [("_law_k", 1)]) rfl scLwLeastOut.nd (pi_range1 (by rfl) T.range (pa_cons (pe_op op_add (pe_callB call_len_seq rfl T.len b_len (pa_cons (pv 0) pa_nil)) (pe_int)) pa_nil)) (blkOk_by (N := nLwLeastOut) (sc := defScope sLwLeastOut) (by decide +kernel)) (fun _ _ _ _ _ => pg_name (i := 1) scLwLeastOut.nd rfl (Or.inl rfl)) (fun _ _ _ _ _ => pts_one (pt_cmpR (r := rIn K true) op_notIn_seq (pv 1) (pv 0) (by with_unfolding_all rfl))) (fun _ _ _ _ _ => pv 1)) pa_nil)))), ?_⟩
  refine ⟨_, rfl, a, Vn l, rfl, .inl ha, _, _, rfl, rfl, _, rfl, by rw [List.length_map]; omega, by rw [List.length_map]; omega, fun L hL => ?_⟩
  have en : (((Vn l).length : Int) + 1).toNat = l.length + 1 := by rw [List.length_map]; omega
  rw [en]
  refine lc_data (K := K) (walk_range0 (n := l.length + 1)) hL (fun _ _ => True.intro) (by omega) (fun j => if (!decide (j ∈ l)) = true then some (.int (j : Int)) else none) (fun j d _ e => by split at e <;> cases e; rfl) (fun i x H1 H2 hi e1 y Ky Kn hy hn => ?_) (fun H1 xs e1 hL1 hx => ?_)
  · obtain ⟨rfl, rfl⟩ := y
    refine ⟨rfl, _, rfl, _, rfl, a, Vn l, rfl, .inl (e1.seq ha), rfl, flat_nat l, (!decide (i ∈ l)), congrArg (fun c => V.bl (!c)) (inV_nat _ _), ?_⟩
    cases hc : (!decide (i ∈ l)) with
    | true => exact iteT ⟨_, rfl, hy _ (by rw [if_pos hc]) _ _ (Same.refl _) (.int _)⟩
    | false => exact iteF (hn (by rw [hc]; rfl) _ (Same.refl _))
  · rw [fm_if (fun j => !decide (j ∈ l)) (fun j => PyData.int (j : Int))] at hx
    have hx2 : DpAll K H1 xs ((((List.range (l.length + 1)).filter fun j => !decide (j ∈ l)).map fun (k : Nat) => (k : Int)).map PyData.int) := by
      rw [List.map_map]; exact hx
    rw [dpa_ints hx2] at hL1
    have mm : mex l ∈ (List.range (l.length + 1)).filter fun j => !decide (j ∈ l) := by
      rw [List.mem_filter]
      have := mex_le l
      exact ⟨List.mem_range.mpr (by omega), by simp [mex_not l]⟩
    refine ⟨L, _, rfl, SqL.of hL1, ?_, fun r hr1 hr2 => ?_⟩
    · rw [List.length_map]
      exact List.length_pos_of_mem mm
    · obtain ⟨k, hk, rfl⟩ := List.mem_map.mp hr1
      rw [List.mem_filter] at hk
      have h1 : k ∉ l := by simpa using hk.2
      have h2 := hr2 _ (List.mem_map.mpr ⟨_, mm, rfl⟩)
      have h3 : mex l = k := by
        refine mex_uniq h1 fun j hj => mex_below (by omega)
      rw [← h3]
      exact q _ e1
abbrev wv (m : Nat) (ts : Ties) (b : Nat) : V := .int (W m ts b : Nat)
def spWorths (K : PySem.W.Frag) : Sp := fun vs H Q _ => ∃ (a b : Addr) (xs : List V) (m : Nat) (ts : Ties), vs = [.ref a] ∧ NetAt K H a b xs m ts ∧ Good m ts ∧ ∀ d H', Same H H' → H' d = some (.dK (kvs (wv m ts) (lefts m ts))) → Q (.ref d) H'
theorem ups_length (m : Nat) (ts : Ties) : (ups m ts).length = m := closeBy_length m _
theorem okworths_by_bits (T : Txt mg) (D : Def K mg "worths_by_bits" sWorthsByBits pWorthsByBits) (cTopsByBits : Cal P w K mg base 1 "tops_by_bits" pTopsByBits (spTops K)) (cLeftsByBits : Cal P w K mg base 2 "lefts_by_bits" pLeftsByBits (spLefts K)) (cLeastWithout : Cal P w K mg base 1 "least_without" pLeastWithout (spLeast K)) (cPiecesFor : Cal P w K mg base 1 "pieces_for" pPiecesFor (spPieces K)) : Cal P w K mg base 3 "worths_by_bits" pWorthsByBits (spWorths K) := by
  refine cal_of D scWorthsByBits (fun vs H Q E h => ?_) (fun f cdv A outer s H vs Q E hr h => ?_)
  · obtain ⟨a, b, xs, m, ts, rfl, _⟩ := h; rfl
  obtain ⟨a, b, xs, m, ts, rfl, n, hg, q⟩ := h
  have hu := hu_of hr
  have hm := hg.le
  have hpw := pow_le7 hm
  have hll := lefts_len m ts
  refine ⟨_, (pss_cons (ps_asg (pe_tup (pa_cons (pe_c cTopsByBits hr (by decide) rfl (pa_cons (pv 0) pa_nil)) (pa_cons (pe_dnewK) pa_nil))) (pg_tup rfl (pgs_cons (pg_name (i := 1) scWorthsByBits.nd rfl (Or.inr rfl)) (pgs_cons (pg_name (i := 2) scWorthsByBits.nd rfl (Or.inr rfl)) pgs_nil))))
      (pss_cons (ps_for PassesOwn.never rfl (pi_list (pe_c cLeftsByBits hr (by decide) rfl (pa_cons (pv 0) pa_nil))) (pg_name (i := 3) scWorthsByBits.nd rfl (Or.inr rfl)) (pss_one (ps_dput hu (pv 2) (pv 3) (pe_c cLeastWithout hr (by decide) rfl (pa_cons (pe_lc (own := [("piece", 4)]) rfl scWorthsByBits.nd (pi_tup (pe_c cPiecesFor hr (by decide) rfl (pa_cons (pv 3) pa_nil))) (blkOk_by (N := nWorthsByBits) (sc := defScope sWorthsByBits) (by decide +kernel)) (fun _ _ _ _ _ => pg_name (i := 4) scWorthsByBits.nd rfl (Or.inl rfl)) (fun _ _ _ _ _ => pts_nil) (fun _ _ _ _ _ => pe_dget hu (pv 2) (pe_op op_cut (pv 3) (pe_un un_inv (pe_ix (r := rIxL K) ix_list (pv 1) (pv 4) (fun _ _ => rfl)))) (fun _ _ => rfl))) pa_nil)) rfl)))
      (pss_one (ps_ret (pv 2))))), ?_⟩
  refine ⟨_, rfl, a, b, xs, m, ts, rfl, n, hg, fun U H1 e1 hU d hd => ⟨(by show 2 ≤ sizeLine; decide), fun t ht => ⟨t, _, rfl, SqT.of upd_same, rfl, _, _, rfl, _, _, rfl, rfl, ?_⟩⟩⟩
  have e2 : Same H1 (upd (upd H1 d (.dK [])) t (.tup [.ref U, .ref d])) := (same_new hd _).trans (same_new ht _)
  have htd : d ≠ t := ne_of_none upd_same ht
  have hd2 : (upd (upd H1 d (.dK [])) t (.tup [.ref U, .ref d])) d = some (.dK []) := by rw [upd_ne htd, upd_same]
  refine ⟨_, rfl, a, b, xs, m, ts, rfl, n.same (e1.trans e2), hg, fun Lf H2 e3 hLf => ?_⟩
  have hd3 := e3 _ _ hd2
  have hLd : Lf ≠ d := fun z => by rw [z, hd3] at hLf; cases hLf
  refine ⟨Lf, rfl, ⟨_, SqL.of hLf⟩, for_it (walk_list (K := K) (xs := Vn (lefts m ts))) (fun i σ H' => ∃ v3 v4, σ = [some (.ref a), some (.ref U), some (.ref d), v3, v4] ∧ Same H1 H' ∧ H' Lf = some (.lst (Vn (lefts m ts))) ∧ H' d = some (.dK (kvs (wv m ts) ((lefts m ts).take i))))
    ⟨_, _, rfl, e2.trans e3, hLf, hd3⟩ (fun i σ H' _ h => SqL.of h.choose_spec.choose_spec.2.2.1) (fun i x σ H' H'' hi h y => ?_) (fun σ H' h => ?_)⟩
  · obtain ⟨v3, v4, rfl, e4, hLf', hdd⟩ := h
    obtain ⟨rfl, hx⟩ := y
    rw [List.getElem?_map] at hx
    obtain ⟨c, hc, rfl⟩ := Option.map_eq_some_iff.mp hx
    have hcm := List.mem_of_getElem? hc
    have hc2 := (mem_lefts.mp hcm).1
    have hc7 : c < 2 ^ 7 := Nat.lt_of_lt_of_le hc2 (Nat.pow_le_pow_right (by omega) hm)
    have hpl := pcs_len hc2
    -- the worth of each bite
    have one : ∀ (k : Nat) (H5 : Hp), k ∈ pcs c → Same H'' H5 → (Vn (ups m ts))[k]? = some (.int (up m ts k : Nat)) ∧ DGet H5 d (.int ((cutN c (up m ts k) : Nat) : Int)) (some (wv m ts (cutN c (up m ts k)))) := fun k H5 hk e5 => by
      have hkm : k < m := pcs_lt hc2 hk
      obtain ⟨b1, b2⟩ := bite_left hg hcm hk
      refine ⟨vn_get (by rw [ups_length]; exact hkm), ?_⟩
      have g1 := DGet.k (k := Sum.inl ((cutN c (up m ts k) : Nat) : Int)) (e5 _ _ hdd)
      rw [kvs_val, if_pos (mem_take_lt (lefts_asc m ts) hc b1 b2)] at g1
      exact g1
    refine ⟨_, rfl, c, rfl, hc7, fun tp H4 e5 htp0 => ⟨tp, rfl, ⟨_, .inl htp0⟩, fun L hL => ?_⟩⟩
    have htp : SqT K H4 tp (Vn (pcs c)) := .inl htp0
    refine lc_map (K := K) (walk_tup (K := K) (xs := Vn (pcs c))) hL (fun H' e => seqT e htp) (by rw [List.length_map]; omega) (fun i => .int (W m ts (cutN c (up m ts ((pcs c).getD i 0))) : Nat)) (fun _ _ => rfl) (fun i x H5 H6 hi e6 y Ky hy => ?_) (fun H5 ys e6 hL5 hys => ?_)
    · obtain ⟨rfl, hx⟩ := y
      rw [List.getElem?_map] at hx
      obtain ⟨k, hk, rfl⟩ := Option.map_eq_some_iff.mp hx
      rw [getD_of hk] at hy
      obtain ⟨o1, o2⟩ := one k H6 (List.mem_of_getElem? hk) (e5.trans e6)
      exact ⟨rfl, _, rfl, _, rfl, _, rfl, _, rfl, U, _, _, _, rfl, rfl, SqL.of ((e4.trans (e5.trans e6)) _ _ hU), atI_nat o1, _, rfl, _, _, rfl, rfl, _, _, rfl, o2, hy _ _ (Same.refl _) (.int _)⟩
    rw [List.length_map, range_getD (pcs c) 0 (fun k => PyData.int (W m ts (cutN c (up m ts k)) : Nat))] at hys
    have e5 := e5.trans e6
    have hys' : DpAll K H5 ys (((pcs c).map fun k => W m ts (cutN c (up m ts k))).map fun (k : Nat) => PyData.int (k : Int)) := by
      rw [List.map_map]; exact hys
    rw [dpa_ns hys'] at hL5
    refine ⟨L, _, rfl, SqL.of hL5, by rw [List.length_map]; omega, fun H7 e7 => ?_⟩
    rw [← W_eq hg hcm]
    have e8 := e5.trans e7
    have hd8 := e8 _ _ hdd
    have hnt := not_in_take ((lefts_asc m ts).imp fun {a b} z => Nat.ne_of_lt z) hc
    have htl : ((lefts m ts).take i).length ≤ 128 := by have := List.length_take_le' i (lefts m ts); omega
    refine ⟨_, rfl, _, rfl, d, _, rfl, DPut.k (k := Sum.inl (c : Int)) hd8 (by rw [kvs_len]; exact Evl.sz_lt (by omega)), _, _, rfl, same_upd (e4.trans e8) hd, ?_, ?_⟩
    · rw [upd_ne hLd]
      exact e8 _ _ hLf'
    · rw [upd_same, List.take_succ, hc]
      exact congrArg (fun z => some (HO.dK z)) (kvs_snoc (wv m ts) _ c hnt)
  · obtain ⟨v3, v4, rfl, e4, hLf', hdd⟩ := h
    rw [List.length_map, List.take_length] at hdd
    exact ⟨_, rfl, q _ _ (e1.trans e4) hdd⟩
theorem ok_law_worths (T : Txt mg) (D : Def K mg "_law_worths" sLwWorths pLwWorths) (cLwUps : Cal P w K mg base 1 "_law_ups" pLwUps (spTops K)) (cLwLefts : Cal P w K mg base 2 "_law_lefts" pLwLefts (spLefts K)) (cLwLeastOut : Cal P w K mg base 1 "_law_least_out" pLwLeastOut (spLeast K)) : Cal P w K mg base 3 "_law_worths" pLwWorths (spWorths K) := by
  refine cal_of D scLwWorths (fun vs H Q E h => ?_) (fun f cdv A outer s H vs Q E hr h => ?_)
  · obtain ⟨a, b, xs, m, ts, rfl, _⟩ := h; rfl
  obtain ⟨a, b, xs, m, ts, rfl, n, hg, q⟩ := h
  have hu := hu_of hr
  have hm := hg.le
  have hpw := pow_le7 hm
  have hll := lefts_len m ts
  refine ⟨_, (pss_cons (ps_asg (pe_tup (pa_cons (pe_c cLwUps hr (by decide) rfl (pa_cons (pv 0) pa_nil)) (pa_cons (pe_dnewK) pa_nil))) (pg_tup rfl (pgs_cons (pg_name (i := 1) scLwWorths.nd rfl (Or.inr rfl)) (pgs_cons (pg_name (i := 2) scLwWorths.nd rfl (Or.inr rfl)) pgs_nil))))
      (pss_cons (ps_for PassesOwn.never rfl (pi_list (pe_c cLwLefts hr (by decide) rfl (pa_cons (pv 0) pa_nil))) (pg_name (i := 3) scLwWorths.nd rfl (Or.inr rfl)) (pss_one (ps_dput hu (pv 2) (pv 3) (pe_c cLwLeastOut hr (by decide) rfl (pa_cons (pe_lc (own := [("_law_k", 4)]) rfl scLwWorths.nd (pi_range1 (by rfl) T.range (pa_cons (pe_ix ix_tup (pv 0) (pe_int) (fun _ _ => rfl)) pa_nil)) (blkOk_by (N := nLwWorths) (sc := defScope sLwWorths) (by decide +kernel)) (fun _ _ _ _ _ => pg_name (i := 4) scLwWorths.nd rfl (Or.inl rfl)) (fun _ _ _ _ _ => pts_one (pt_cmpR op_eq (pe_op op_andN (pe_op op_shrM (pv 3) (pv 4)) (pe_int)) (pe_int) (nomark _))) (fun _ _ _ _ _ => pe_dget hu (pv 2) (pe_op op_cut (pv 3) (pe_un un_inv (pe_ix (r := rIxL K) ix_list (pv 1) (pv 4) (fun _ _ => rfl)))) (fun _ _ => rfl))) pa_nil)) rfl)))
      (pss_one (ps_ret (pv 2))))), ?_⟩
  refine ⟨_, rfl, a, b, xs, m, ts, rfl, n, hg, fun U H1 e1 hU d hd => ⟨(by show 2 ≤ sizeLine; decide), fun t ht => ⟨t, _, rfl, SqT.of upd_same, rfl, _, _, rfl, _, _, rfl, rfl, ?_⟩⟩⟩
  have e2 : Same H1 (upd (upd H1 d (.dK [])) t (.tup [.ref U, .ref d])) := (same_new hd _).trans (same_new ht _)
  have htd : d ≠ t := ne_of_none upd_same ht
  have hd2 : (upd (upd H1 d (.dK [])) t (.tup [.ref U, .ref d])) d = some (.dK []) := by rw [upd_ne htd, upd_same]
  refine ⟨_, rfl, a, b, xs, m, ts, rfl, n.same (e1.trans e2), hg, fun Lf H2 e3 hLf => ?_⟩
  have hd3 := e3 _ _ hd2
  have hLd : Lf ≠ d := fun z => by rw [z, hd3] at hLf; cases hLf
  refine ⟨Lf, rfl, ⟨_, SqL.of hLf⟩, for_it (walk_list (K := K) (xs := Vn (lefts m ts))) (fun i σ H' => ∃ v3 v4, σ = [some (.ref a), some (.ref U), some (.ref d), v3, v4] ∧ Same H1 H' ∧ H' Lf = some (.lst (Vn (lefts m ts))) ∧ H' d = some (.dK (kvs (wv m ts) ((lefts m ts).take i))))
    ⟨_, _, rfl, e2.trans e3, hLf, hd3⟩ (fun i σ H' _ h => SqL.of h.choose_spec.choose_spec.2.2.1) (fun i x σ H' H'' hi h y => ?_) (fun σ H' h => ?_)⟩
  · obtain ⟨v3, v4, rfl, e4, hLf', hdd⟩ := h
    obtain ⟨rfl, hx⟩ := y
    rw [List.getElem?_map] at hx
    obtain ⟨c, hc, rfl⟩ := Option.map_eq_some_iff.mp hx
    have hcm := List.mem_of_getElem? hc
    have hc2 := (mem_lefts.mp hcm).1
    have hc7 : c < 2 ^ 7 := Nat.lt_of_lt_of_le hc2 (Nat.pow_le_pow_right (by omega) hm)
    have hpl := pcs_len hc2
    -- the worth of each bite
    have one : ∀ (k : Nat) (H5 : Hp), k ∈ pcs c → Same H'' H5 → (Vn (ups m ts))[k]? = some (.int (up m ts k : Nat)) ∧ DGet H5 d (.int ((cutN c (up m ts k) : Nat) : Int)) (some (wv m ts (cutN c (up m ts k)))) := fun k H5 hk e5 => by
      have hkm : k < m := pcs_lt hc2 hk
      obtain ⟨b1, b2⟩ := bite_left hg hcm hk
      refine ⟨vn_get (by rw [ups_length]; exact hkm), ?_⟩
      have g1 := DGet.k (k := Sum.inl ((cutN c (up m ts k) : Nat) : Int)) (e5 _ _ hdd)
      rw [kvs_val, if_pos (mem_take_lt (lefts_asc m ts) hc b1 b2)] at g1
      exact g1
    refine ⟨_, rfl, a, _, _, _, rfl, rfl, (n.same (e1.trans e4)).top, atI_nat (j := 0) rfl, _, rfl, by omega, by omega, fun L hL => ?_⟩
    rw [Int.toNat_natCast]
    refine lc_data (K := K) (walk_range0 (n := m)) hL (fun _ _ => True.intro) (by omega) (fun i => if c.testBit i = true then some (.int (W m ts (cutN c (up m ts i)) : Nat)) else none) (fun j d _ e => by split at e <;> cases e; rfl) (fun i x H5 H6 hi e6 y Ky Kn hy hn => ?_) (fun H5 ys e5 hL5 hys => ?_)
    · obtain ⟨rfl, rfl⟩ := y
      refine ⟨rfl, _, rfl, _, rfl, c, i, rfl, rfl, c / 2 ^ i, 1, rfl, rfl, ?_⟩
      rw [shr_odd]
      refine one_bit ?_
      cases hbi : c.testBit i with
      | true =>
        obtain ⟨o1, o2⟩ := one i H6 (mem_pcs.mpr hbi) e6
        exact iteT ⟨_, rfl, _, rfl, _, rfl, _, rfl, U, _, _, _, rfl, rfl, SqL.of ((e4.trans e6) _ _ hU), atI_nat o1, _, rfl, _, _, rfl, rfl, _, _, rfl, o2, hy _ (by rw [if_pos hbi]) _ _ (Same.refl _) (.int _)⟩
      | false => exact iteF (hn (by rw [hbi]; rfl) _ (Same.refl _))
    rw [fm_if (fun j => c.testBit j) (fun k => PyData.int (W m ts (cutN c (up m ts k)) : Nat)), pcs_range hc2] at hys
    have hys' : DpAll K H5 ys (((pcs c).map fun k => W m ts (cutN c (up m ts k))).map fun (k : Nat) => PyData.int (k : Int)) := by
      rw [List.map_map]; exact hys
    rw [dpa_ns hys'] at hL5
    refine ⟨L, _, rfl, SqL.of hL5, by rw [List.length_map]; omega, fun H7 e7 => ?_⟩
    rw [← W_eq hg hcm]
    have e8 := e5.trans e7
    have hd8 := e8 _ _ hdd
    have hnt := not_in_take ((lefts_asc m ts).imp fun {a b} z => Nat.ne_of_lt z) hc
    have htl : ((lefts m ts).take i).length ≤ 128 := by have := List.length_take_le' i (lefts m ts); omega
    refine ⟨_, rfl, _, rfl, d, _, rfl, DPut.k (k := Sum.inl (c : Int)) hd8 (by rw [kvs_len]; exact Evl.sz_lt (by omega)), _, _, rfl, same_upd (e4.trans e8) hd, ?_, ?_⟩
    · rw [upd_ne hLd]
      exact e8 _ _ hLf'
    · rw [upd_same, List.take_succ, hc]
      exact congrArg (fun z => some (HO.dK z)) (kvs_snoc (wv m ts) _ c hnt)
  · obtain ⟨v3, v4, rfl, e4, hLf', hdd⟩ := h
    rw [List.length_map, List.take_length] at hdd
    exact ⟨_, rfl, q _ _ (e1.trans e4) hdd⟩
end
end K13

set_option Elab.async false
set_option linter.all false
set_option maxRecDepth 100000
set_option maxHeartbeats 4000000
/-! The walk, part 8: worth, lost lefts, by worth. -/
namespace K13
open PySem PySem.Spec PyProof.Rows L2
/-! ### what lies in the heap, one beside another -/
theorem paired_snoc {α β : Type} {F : α → β → Prop} {xs : List α} {ys : List β} {a : α} {b : β} (h : Paired F xs ys) (k : F a b) : Paired F (xs ++ [a]) (ys ++ [b]) := h.snoc k
theorem paired_perm {α β : Type} {F : α → β → Prop} {xs ys : List α} (p : ys.Perm xs) : ∀ {ls : List β}, Paired F xs ls → ∃ ms, ms.Perm ls ∧ Paired F ys ms := by
  induction p with
  | nil => intro ls h; exact ⟨ls, .refl _, h⟩
  | cons x p ih =>
    intro ls h
    cases h with
    | cons h1 h2 =>
      obtain ⟨ms, q, r⟩ := ih h2
      exact ⟨_ :: ms, q.cons _, .cons h1 r⟩
  | swap x y l =>
    intro ls h
    cases h with
    | cons h1 h2 =>
      cases h2 with
      | cons h3 h4 => exact ⟨_ :: _ :: _, .swap _ _ _, .cons h3 (.cons h1 h4)⟩
  | trans p q ih1 ih2 =>
    intro ls h
    obtain ⟨ms, a, b⟩ := ih2 h
    obtain ⟨ns, c, d⟩ := ih1 b
    exact ⟨ns, c.trans a, d⟩
theorem paired_pw {α β : Type} {F : α → β → Prop} {R : α → α → Prop} {S : β → β → Prop} (hrs : ∀ a b c d, F a c → F b d → R a b → S c d) : ∀ {xs : List α} {ls : List β}, Paired F xs ls → xs.Pairwise R → ls.Pairwise S
  | _, _, .nil, _ => .nil
  | _, _, .cons (a := a) (b := c) h1 h2, p => by
    rw [List.pairwise_cons] at p ⊢
    refine ⟨fun d hd => ?_, paired_pw hrs h2 p.2⟩
    obtain ⟨j, hj⟩ := List.mem_iff_getElem?.mp hd
    have : ∀ {xs : List α} {ls : List β}, Paired F xs ls → ∀ (j : Nat) (d : β), ls[j]? = some d → ∃ b, b ∈ xs ∧ F b d := by
      intro xs ls h
      induction h with
      | nil => intro j d h; cases h
      | cons f _ ih =>
        intro j d hj
        cases j with
        | zero =>
          have := Option.some.inj hj
          subst this
          exact ⟨_, List.mem_cons_self, f⟩
        | succ j =>
          obtain ⟨b, h1, h2⟩ := ih j d hj
          exact ⟨b, List.mem_cons_of_mem _ h1, h2⟩
    obtain ⟨b, hb1, hb2⟩ := this h2 j d hj
    exact hrs a b c d h1 hb2 (p.1 b hb1)
theorem paired_left {α β : Type} {F : α → β → Prop} : ∀ {xs : List α} {ls : List β}, Paired F xs ls → ∀ x ∈ xs, ∃ b ∈ ls, F x b
  | _, _, .nil, _, h => by cases h
  | _, _, .cons h1 h2, x, h => by
    rcases List.mem_cons.mp h with z | z
    · subst z
      exact ⟨_, List.mem_cons_self, h1⟩
    · obtain ⟨b, a, c⟩ := paired_left h2 x z
      exact ⟨b, List.mem_cons_of_mem _ a, c⟩
theorem rd_fun {H : Hp} {a : Addr} {xs ys : List V} (h : Rd H a (.tup xs)) (k : Rd H a (.tup ys)) : xs = ys := by
  rcases h with h | ⟨o, h⟩ <;> rcases k with k | ⟨p, k⟩ <;> rw [h] at k <;> cases k <;> rfl
theorem vn_inj {l m : List Nat} (h : Vn l = Vn m) : l = m := by
  induction l generalizing m with
  | nil =>
    cases m with
    | nil => rfl
    | cons b m => cases h
  | cons a l ih =>
    cases m with
    | nil => cases h
    | cons b m =>
      have h1 : V.int (a : Int) = V.int (b : Int) ∧ Vn l = Vn m := by
        have := List.cons.inj (show V.int (a : Int) :: Vn l = V.int (b : Int) :: Vn m from h)
        exact this
      have h2 := V.int.inj h1.1
      rw [ih h1.2, show a = b by omega]
/-- the numbers in the tuple that a value stands for -/
noncomputable def keyOf (H : Hp) (x : V) : List Int := by
  classical
  exact if h : ∃ (l : List Nat) (t : Addr), x = .ref t ∧ Rd H t (.tup (Vn l)) then h.choose.map fun (k : Nat) => (k : Int) else []
theorem keyOf_eq {H : Hp} {t : Addr} {l : List Nat} (h : Rd H t (.tup (Vn l))) : keyOf H (.ref t) = l.map fun (k : Nat) => (k : Int) := by
  have e : ∃ (l : List Nat) (t' : Addr), V.ref t = .ref t' ∧ Rd H t' (.tup (Vn l)) := ⟨l, t, rfl, h⟩
  unfold keyOf
  rw [dif_pos e]
  obtain ⟨t', h1, h2⟩ := e.choose_spec
  cases h1
  rw [vn_inj (rd_fun h2 h)]
/-- a tuple of the pieces of b -/
def PcsAt (H : Hp) (v : V) (b : Nat) : Prop := ∃ t, v = .ref t ∧ Rd H t (.tup (Vn (pcs b)))
theorem PcsAt.keep {H H' : Hp} {v : V} {b : Nat} (e : KeepT H H') (h : PcsAt H v b) : PcsAt H' v b := by
  obtain ⟨t, rfl, h⟩ := h
  exact ⟨t, rfl, e _ _ h⟩
theorem PcsAt.dp {K : PySem.W.Frag} {H : Hp} {v : V} {b : Nat} (h : PcsAt H v b) : Dp K H v (nsD (pcs b)) := by
  obtain ⟨t, rfl, h⟩ := h
  exact ns_dp (.inl h)
theorem paired_dp {K : PySem.W.Frag} {H : Hp} : ∀ {xs : List V} {bs : List Nat}, Paired (PcsAt H) xs bs → DpAll K H xs (bs.map fun b => nsD (pcs b))
  | _, _, .nil => .nil
  | _, _, .cons h1 h2 => .cons h1.dp (paired_dp h2)
/-! ### the order of tuples of numbers -/
def key (b : Nat) : List Int := (pcs b).map fun (k : Nat) => (k : Int)
theorem lex_anti : ∀ {l m : List Int}, HT.lexLt l m = false → HT.lexLt m l = false → l = m
  | [], [], _, _ => rfl
  | [], _ :: _, h, _ => by rw [HT.lexLt_nil_cons] at h; cases h
  | _ :: _, [], _, h => by rw [HT.lexLt_nil_cons] at h; cases h
  | a :: l, b :: m, h, k => by
    rw [HT.lexLt_cons] at h k
    by_cases e : a = b
    · subst e
      rw [if_pos rfl] at h k
      rw [lex_anti h k]
    · rw [if_neg e] at h
      rw [if_neg (fun z => e z.symm)] at k
      have h1 : ¬ a < b := by simpa using h
      have h2 : ¬ b < a := by simpa using k
      exact absurd (by omega : a = b) e
theorem map_int_inj {l m : List Nat} (h : l.map (fun (k : Nat) => (k : Int)) = m.map fun (k : Nat) => (k : Int)) : l = m := by
  have := congrArg (List.map Int.toNat) h
  rw [List.map_map, List.map_map] at this
  have e : (Int.toNat ∘ fun (k : Nat) => (k : Int)) = id := funext fun k => Int.toNat_natCast k
  rw [e, List.map_id, List.map_id] at this
  exact this
theorem key_inj {a b : Nat} (h : key a = key b) : a = b := pcs_inj (map_int_inj h)
/-- bs stand in the order of their tuples -/
def Lexed (bs : List Nat) : Prop := bs.Pairwise fun b c => HT.lexLt (key c) (key b) = false
instance (bs : List Nat) : Decidable (Lexed bs) := by unfold Lexed; infer_instance
theorem lexed_uniq {bs cs : List Nat} (p : bs.Perm cs) (h : Lexed bs) (k : Lexed cs) : bs = cs :=
  p.eq_of_pairwise (fun a b _ _ h1 h2 => key_inj (lex_anti h2 h1)) h k
/-- a comprehension of things told of one by one -/
theorem lc_rel {α : Type} {R : Hp → V → α → Prop} (hR : ∀ H H' v a, KeepT H H' → R H v a → R H' v a) {J : It} {n : Nat} {G : Hp → Prop} {Y : Nat → Hp → V → Hp → Prop} (w : Walk J n G Y) {g : TG} {tt : TT} {te : TE} {vs : List Nat} {σ : L2.St} {H1 : Hp} {D : Addr} {Qd : Hp → Prop} (hD : H1 D = none) (hG : ∀ H, Same H1 H → G H) (hn : n ≤ 100000) (out : Nat → Option α)
    (hs : ∀ i x H H', i < n → Same H1 H → Y i H x H' → ∀ (Ky : V → Hp → Prop) (Kn : Hp → Prop), (∀ d, out i = some d → ∀ y H4, Same H H4 → R H4 y d → Ky y H4) → (out i = none → ∀ H3, Same H H3 → Kn H3) →
      g x (wipe σ vs) H' fun σ2 H2 => wipe σ2 vs = wipe σ vs ∧ tt σ2 H2 fun b H3 => if b = true then te σ2 H3 Ky else Kn H3)
    (hd : ∀ H xs, Same H1 H → H D = some (.lst xs) → Paired (R H) xs ((List.range n).filterMap out) → Qd H) :
    ∃ W : Nat → Nat → Hp → Prop, (∃ m, W 0 m (upd H1 D (.lst []))) ∧ ∀ i m H, W i m H →
      (J.stop i H ∧ Qd H) ∨ (J.go i H ∧ ∃ Nx : Hp → Prop, (∀ H', Nx H' → ∃ m', m' < m ∧ W (i + 1) m' H') ∧ ∀ x H', J.yld i H x H' → g x (wipe σ vs) H' fun σ2 H2 => wipe σ2 vs = wipe σ vs ∧ tt σ2 H2 fun b H3 =>
        if b = true then te σ2 H3 fun y H4 => ∃ acc, H4 D = some (.lst acc) ∧ acc.length < sizeLine ∧ Nx (upd H4 D (.lst (acc ++ [y]))) else Nx H3) := by
  refine lc_it w (fun i H => i ≤ n ∧ Same H1 H ∧ ∃ xs, H D = some (.lst xs) ∧ xs.length ≤ i ∧ Paired (R H) xs ((List.range i).filterMap out)) ⟨Nat.zero_le _, same_new hD _, [], upd_same, Nat.le_refl _, .nil⟩ (fun i H _ p => hG H p.2.1) (fun i x H H' hi p y => ?_) (fun H ⟨_, h1, xs, h2, _, h3⟩ => hd H xs h1 h2 h3)
  obtain ⟨_, p1, xs, p2, p3, p4⟩ := p
  refine hs i x H H' hi p1 y _ _ (fun d ed z H4 e4 hz => ⟨xs, e4 _ _ p2, Evl.sz_lt (by omega), hi, same_upd (p1.trans e4) hD, xs ++ [z], upd_same, by rw [List.length_append]; simp; omega, ?_⟩) (fun ed H3 e3 => ⟨hi, p1.trans e3, xs, e3 _ _ p2, by omega, ?_⟩)
  · rw [List.range_succ, List.filterMap_append]
    have e1 : [i].filterMap out = [d] := by simp [ed]
    rw [e1]
    have kt : KeepT H4 (upd H4 D (.lst (xs ++ [z]))) := KeepT.upd (not_tup_lst (e4 _ _ p2))
    exact paired_snoc (p4.mono fun a b h => hR _ _ _ _ ((KeepT.of_same e4).trans kt) h) (hR _ _ _ _ kt hz)
  · rw [List.range_succ, List.filterMap_append]
    have e1 : [i].filterMap out = [] := by simp [ed]
    rw [e1, List.append_nil]
    exact p4.mono fun a b h => hR _ _ _ _ (KeepT.of_same e3) h
/-- calls by keywords -/
theorem calK_of {P : Program} {w : World} {K : PySem.W.Frag} {mg : Str → Option Value} {base : Heap} {x : Str} {st : Stmt} {N ps ks : List Str} {k : Nat} {sp : Sp} {gV : List V → List V} (D : Def K mg x st ps) (S : FnScope N ps (defScope st)) (len : ∀ vs H Q E, sp vs H Q E → vs.length = ps.length)
    (g : List Value → List Value) (h0 : 0 < ps.length) (rel : ∀ {zs : List V} {ws : List Value}, Vals zs ws → Vals (gV zs) (g ws))
    (hb : ∀ (kV doc pm : Value) (an : Option Addr) (cdv ct : Value) (ws : List Value), (g ws).length = ps.length → bindArgs (PySem.W.fnOf x x (defArgs st) (defBody st) (defScope st) .none kV doc pm an cdv ct) ⟨[], ks.zip ws⟩ = pure (ps.zip (g ws)))
    (hbody : ∀ (f : Addr) (cdv : Value) (A : Around) (outer : List Env) (s : Shared) (H : Hp) (vs : List V) (Q : VK) (E : XK), Room k (A.deeper (envOfC x (defScope st) s.heap.objs.size f cdv)) → sp vs H Q E →
      ∃ t, PSs (cxOf CX0 P w K mg base N x (defScope st) f cdv A outer s H E).nox (defBody st) t ∧ t { nx := fun _ H' => Q .non H', rt := Q } (start N vs) H) : CalK P w K mg base (k + 1) x ps ks gV sp := by
  obtain ⟨f, fd, F, hm, _⟩ := D.ex
  refine ⟨f, fd, g, F.ok S len (hbody f), hm, F.kp, h0, fun s ws hl => ?_, rel⟩
  obtain ⟨oc, od, kV, doc, pm, an, cdv, ct, osl, rfl, lk, hcd⟩ := F.ex
  exact .of_eq (hb kV doc pm an cdv ct ws hl)
section
variable {P : Program} {w : World} {K : PySem.W.Frag} {mg : Str → Option Value} {base : Heap}
theorem pow_sub {m : Nat} : ((2 ^ m : Nat) : Int) - 1 = ((2 ^ m - 1 : Nat) : Int) := by
  have := Nat.two_pow_pos m
  omega
def spWorthIn (K : PySem.W.Frag) : Sp := fun vs H Q _ => ∃ (a b : Addr) (xs : List V) (m : Nat) (ts : Ties), vs = [.ref a] ∧ NetAt K H a b xs m ts ∧ Good m ts ∧ ∀ H', Same H H' → Q (wv m ts (2 ^ m - 1)) H'
theorem ok_worth_in (D : Def K mg "worth_in" sWorthIn pWorthIn) (cWorthsByBits : Cal P w K mg base 3 "worths_by_bits" pWorthsByBits (spWorths K)) : Cal P w K mg base 4 "worth_in" pWorthIn (spWorthIn K) := by
  refine cal_of D scWorthIn (fun vs H Q E h => ?_) (fun f cdv A outer s H vs Q E hr h => ?_)
  · obtain ⟨a, b, xs, m, ts, rfl, _⟩ := h; rfl
  obtain ⟨a, b, xs, m, ts, rfl, n, hg, q⟩ := h
  have hu := hu_of hr
  have hm := hg.le
  refine ⟨_, (pss_one (ps_ret (pe_dget hu (pe_c cWorthsByBits hr (by decide) rfl (pa_cons (pv 0) pa_nil)) (pe_op op_sub (pe_op op_shlP (pe_int) (pe_ix ix_tup (pv 0) (pe_int) (fun _ _ => rfl))) (pe_int)) (fun _ _ => rfl)))), ?_⟩
  refine ⟨_, rfl, a, b, xs, m, ts, rfl, n, hg, fun d H1 e1 hd => ?_⟩
  have g1 := DGet.k (k := Sum.inl ((2 ^ m - 1 : Nat) : Int)) hd
  rw [kvs_val, if_pos (full_left hg), ← pow_sub] at g1
  exact ⟨_, rfl, a, _, _, _, rfl, rfl, (n.same e1).top, atI_nat (j := 0) rfl, m, rfl, rfl, by omega, _, _, rfl, rfl, _, _, rfl, g1, q _ e1⟩
def spLeftWorthIn (K : PySem.W.Frag) : Sp := fun vs H Q _ => ∃ (a b t : Addr) (xs : List V) (m : Nat) (ts : Ties) (c : Nat), vs = [.ref a, .ref t] ∧ NetAt K H a b xs m ts ∧ Good m ts ∧ SqT K H t (Vn (pcs c)) ∧ c ∈ lefts m ts ∧ ∀ H', Same H H' → Q (wv m ts c) H'
theorem pcs_le7 {m : Nat} {ts : Ties} {c : Nat} (g : Good m ts) (hc : c ∈ lefts m ts) : (pcs c).length ≤ 7 ∧ (∀ x ∈ pcs c, x < m) ∧ ∀ p ∈ ts, p.2 ∈ pcs c → p.1 ∈ pcs c := by
  obtain ⟨h1, h2⟩ := mem_lefts.mp hc
  have := pcs_len h1
  have := g.le
  exact ⟨by omega, fun x hx => pcs_lt h1 hx, fun p hp h => mem_pcs.mpr (h2 p hp (mem_pcs.mp h))⟩
theorem ok_left_worth_in (D : Def K mg "left_worth_in" sLeftWorthIn pLeftWorthIn) (cWorthsByBits : Cal P w K mg base 3 "worths_by_bits" pWorthsByBits (spWorths K)) (cBitsFor : Cal P w K mg base 1 "bits_for" pBitsFor (spBits K)) : Cal P w K mg base 4 "left_worth_in" pLeftWorthIn (spLeftWorthIn K) := by
  refine cal_of D scLeftWorthIn (fun vs H Q E h => ?_) (fun f cdv A outer s H vs Q E hr h => ?_)
  · obtain ⟨a, b, t, xs, m, ts, c, rfl, _⟩ := h; rfl
  obtain ⟨a, b, t, xs, m, ts, c, rfl, n, hg, ht, hc, q⟩ := h
  have hu := hu_of hr
  obtain ⟨p1, p2, _⟩ := pcs_le7 hg hc
  have hm := hg.le
  refine ⟨_, (pss_one (ps_ret (pe_dget hu (pe_c cWorthsByBits hr (by decide) rfl (pa_cons (pv 0) pa_nil)) (pe_c cBitsFor hr (by decide) rfl (pa_cons (pv 1) pa_nil)) (fun _ _ => rfl)))), ?_⟩
  refine ⟨_, rfl, a, b, xs, m, ts, rfl, n, hg, fun d H1 e1 hd => ?_⟩
  refine ⟨_, rfl, t, pcs c, rfl, .inr (seqT e1 ht), by omega, fun x hx => by have := p2 x hx; omega, fun H2 e2 => ?_⟩
  have g1 := DGet.k (k := Sum.inl ((pows (pcs c) : Nat) : Int)) (e2 _ _ hd)
  rw [pows_pcs, kvs_val, if_pos hc] at g1
  rw [pows_pcs]
  exact ⟨_, _, rfl, g1, q _ (e1.trans e2)⟩
def spLeftSure (K : PySem.W.Frag) : Sp := fun vs H Q _ => ∃ (v u : V) (d e : PyData) (m : Nat) (ts : Ties) (c : Nat), vs = [v, u] ∧ Dp K H v d ∧ netAny d m ts ∧ Good m ts ∧ Dp K H u e ∧ nsAny e (pcs c) ∧ c ∈ lefts m ts ∧
  ∀ p a b xs t H', Same H H' → SqT K H' p [.ref a, .ref t] → NetAt K H' a b xs m ts → SqT K H' t (Vn (pcs c)) → Q (.ref p) H'
theorem ok_left_sure (D : Def K mg "left_sure" sLeftSure pLeftSure) (cSureOrder : Cal P w K mg base 6 "sure_order" pSureOrder (spSureOrder K)) (cSureLeft : Cal P w K mg base 5 "sure_left" pSureLeft (spSureLeft K)) : Cal P w K mg base 7 "left_sure" pLeftSure (spLeftSure K) := by
  refine cal_of D scLeftSure (fun vs H Q E h => ?_) (fun f cdv A outer s H vs Q E hr h => ?_)
  · obtain ⟨v, u, d, e, m, ts, c, rfl, _⟩ := h; rfl
  obtain ⟨v, u, d, e, m, ts, c, rfl, hd, hk, hg, he, hk2, hc, q⟩ := h
  have htl := ties_len hg
  obtain ⟨p1, p2, p3⟩ := pcs_le7 hg hc
  refine ⟨_, (pss_cons (ps_set (i := 2) scLeftSure.nd rfl (Or.inl rfl) (pe_c cSureOrder hr (by decide) rfl (pa_cons (pv 0) pa_nil)))
      (pss_one (ps_ret (pe_tup (pa_cons (pv 2) (pa_cons (pe_c cSureLeft hr (by decide) rfl (pa_cons (pv 2) (pa_cons (pv 1) pa_nil))) pa_nil)))))), ?_⟩
  refine ⟨_, rfl, v, d, m, ts, rfl, hd, hk, hg, fun a b xs H1 e1 n => ?_⟩
  refine ⟨_, rfl, _, rfl, _, rfl, a, b, u, e, xs, m, ts, pcs c, rfl, n, by omega, Dp.same e1 he, hk2, by omega, p2, pcs_asc c, p3, fun t H2 e2 ht => ⟨(by show 2 ≤ sizeLine; decide), fun p hp => ?_⟩⟩
  have e3 := same_new hp (.tup [.ref a, .ref t])
  exact q p a b xs t _ ((e1.trans e2).trans e3) (SqT.of upd_same) ((n.same e2).same e3) (seqT e3 ht)
def spWorth (K : PySem.W.Frag) : Sp := fun vs H Q _ => ∃ (v : V) (d : PyData) (m : Nat) (ts : Ties), vs = [v] ∧ Dp K H v d ∧ netAny d m ts ∧ Good m ts ∧ ∀ H', Same H H' → Q (wv m ts (2 ^ m - 1)) H'
theorem len_worth : ∀ vs H Q E, spWorth K vs H Q E → vs.length = pWorth.length := fun vs H Q E h => by
  obtain ⟨v, d, m, ts, rfl, _⟩ := h; rfl
theorem body_worth (cSureOrder : Cal P w K mg base 6 "sure_order" pSureOrder (spSureOrder K)) (cWorthIn : Cal P w K mg base 4 "worth_in" pWorthIn (spWorthIn K)) (f : Addr) (cdv : Value) (A : Around) (outer : List Env) (s : Shared) (H : Hp) (vs : List V) (Q : VK) (E : XK) (hr : Room 6 (A.deeper (envOfC "worth" (defScope sWorth) s.heap.objs.size f cdv))) (h : spWorth K vs H Q E) :
    ∃ t, PSs (cxOf CX0 P w K mg base nWorth "worth" (defScope sWorth) f cdv A outer s H E).nox (defBody sWorth) t ∧ t { nx := fun _ H' => Q .non H', rt := Q } (start nWorth vs) H := by
  obtain ⟨v, d, m, ts, rfl, hd, hk, hg, q⟩ := h
  refine ⟨_, (pss_one (ps_ret (pe_c cWorthIn hr (by decide) rfl (pa_cons (pe_c cSureOrder hr (by decide) rfl (pa_cons (pv 0) pa_nil)) pa_nil)))), ?_⟩
  exact ⟨_, rfl, v, d, m, ts, rfl, hd, hk, hg, fun a b xs H1 e1 n => ⟨a, b, xs, m, ts, rfl, n, hg, fun H2 e2 => q _ (e1.trans e2)⟩⟩
theorem ok_worth (D : Def K mg "worth" sWorth pWorth) (cSureOrder : Cal P w K mg base 6 "sure_order" pSureOrder (spSureOrder K)) (cWorthIn : Cal P w K mg base 4 "worth_in" pWorthIn (spWorthIn K)) : Cal P w K mg base 7 "worth" pWorth (spWorth K) :=
  cal_of D scWorth len_worth (body_worth cSureOrder cWorthIn)
theorem okk_worth (D : Def K mg "worth" sWorth pWorth) (cSureOrder : Cal P w K mg base 6 "sure_order" pSureOrder (spSureOrder K)) (cWorthIn : Cal P w K mg base 4 "worth_in" pWorthIn (spWorthIn K)) : CalK P w K mg base 7 "worth" pWorth ["order"] id (spWorth K) :=
  calK_of D scWorth len_worth id (by decide) (fun r => r) (fun _ _ _ _ _ _ ws hl => match ws, hl with | [_], _ => rfl) (body_worth cSureOrder cWorthIn)
def spWorthLeft (K : PySem.W.Frag) : Sp := fun vs H Q _ => ∃ (v u : V) (d e : PyData) (m : Nat) (ts : Ties) (c : Nat), vs = [v, u] ∧ Dp K H v d ∧ netAny d m ts ∧ Good m ts ∧ Dp K H u e ∧ nsAny e (pcs c) ∧ c ∈ lefts m ts ∧ ∀ H', Same H H' → Q (wv m ts c) H'
theorem len_worth_left : ∀ vs H Q E, spWorthLeft K vs H Q E → vs.length = pWorthLeft.length := fun vs H Q E h => by
  obtain ⟨v, u, d, e, m, ts, c, rfl, _⟩ := h; rfl
theorem body_worth_left (cLeftSure : Cal P w K mg base 7 "left_sure" pLeftSure (spLeftSure K)) (cLeftWorthIn : Cal P w K mg base 4 "left_worth_in" pLeftWorthIn (spLeftWorthIn K)) (f : Addr) (cdv : Value) (A : Around) (outer : List Env) (s : Shared) (H : Hp) (vs : List V) (Q : VK) (E : XK) (hr : Room 7 (A.deeper (envOfC "worth_left" (defScope sWorthLeft) s.heap.objs.size f cdv))) (h : spWorthLeft K vs H Q E) :
    ∃ t, PSs (cxOf CX0 P w K mg base nWorthLeft "worth_left" (defScope sWorthLeft) f cdv A outer s H E).nox (defBody sWorthLeft) t ∧ t { nx := fun _ H' => Q .non H', rt := Q } (start nWorthLeft vs) H := by
  obtain ⟨v, u, d, e, m, ts, c, rfl, hd, hk, hg, he, hk2, hc, q⟩ := h
  refine ⟨_, (pss_cons (ps_asg (pe_c cLeftSure hr (by decide) rfl (pa_cons (pv 0) (pa_cons (pv 1) pa_nil))) (pg_tup rfl (pgs_cons (pg_name (i := 2) scWorthLeft.nd rfl (Or.inl rfl)) (pgs_cons (pg_name (i := 3) scWorthLeft.nd rfl (Or.inl rfl)) pgs_nil))))
      (pss_one (ps_ret (pe_c cLeftWorthIn hr (by decide) rfl (pa_cons (pv 2) (pa_cons (pv 3) pa_nil)))))), ?_⟩
  exact ⟨_, rfl, _, rfl, v, u, d, e, m, ts, c, rfl, hd, hk, hg, he, hk2, hc, fun p a b xs t H1 e1 hp n ht => ⟨p, _, rfl, hp, rfl, _, _, rfl, _, _, rfl, rfl, _, rfl, _, rfl, a, b, t, xs, m, ts, c, rfl, n, hg, ht, hc, fun H2 e2 => q _ (e1.trans e2)⟩⟩
theorem ok_worth_left (D : Def K mg "worth_left" sWorthLeft pWorthLeft) (cLeftSure : Cal P w K mg base 7 "left_sure" pLeftSure (spLeftSure K)) (cLeftWorthIn : Cal P w K mg base 4 "left_worth_in" pLeftWorthIn (spLeftWorthIn K)) : Cal P w K mg base 8 "worth_left" pWorthLeft (spWorthLeft K) :=
  cal_of D scWorthLeft len_worth_left (body_worth_left cLeftSure cLeftWorthIn)
theorem vals_rev2 {zs : List V} {ws : List Value} (r : Vals zs ws) : Vals zs.reverse ws.reverse := by
  induction r with
  | nil => exact .nil
  | cons h _ ih =>
    rw [List.reverse_cons, List.reverse_cons]
    exact Paired.snoc ih h
theorem two_of {ws : List Value} (h : ws.reverse.length = 2) : ws.length = 2 := by rw [List.length_reverse] at h; exact h
theorem okk_worth_left (D : Def K mg "worth_left" sWorthLeft pWorthLeft) (cLeftSure : Cal P w K mg base 7 "left_sure" pLeftSure (spLeftSure K)) (cLeftWorthIn : Cal P w K mg base 4 "left_worth_in" pLeftWorthIn (spLeftWorthIn K)) : CalK P w K mg base 8 "worth_left" pWorthLeft ["left", "order"] List.reverse (spWorthLeft K) :=
  calK_of D scWorthLeft len_worth_left List.reverse (by decide) vals_rev2 (fun _ _ _ _ _ _ ws hl => match ws, two_of hl with | [_, _], _ => rfl) (body_worth_left cLeftSure cLeftWorthIn)
def spIsWon (K : PySem.W.Frag) : Sp := fun vs H Q _ => ∃ (v u : V) (d e : PyData) (m : Nat) (ts : Ties) (c : Nat), vs = [v, u] ∧ Dp K H v d ∧ netAny d m ts ∧ Good m ts ∧ Dp K H u e ∧ nsAny e (pcs c) ∧ c ∈ lefts m ts ∧ ∀ H', Same H H' → Q (.bl (decide (W m ts c ≠ 0))) H'
theorem len_is_won : ∀ vs H Q E, spIsWon K vs H Q E → vs.length = pIsWon.length := fun vs H Q E h => by
  obtain ⟨v, u, d, e, m, ts, c, rfl, _⟩ := h; rfl
theorem body_is_won (cWorthLeft : Cal P w K mg base 8 "worth_left" pWorthLeft (spWorthLeft K)) (f : Addr) (cdv : Value) (A : Around) (outer : List Env) (s : Shared) (H : Hp) (vs : List V) (Q : VK) (E : XK) (hr : Room 8 (A.deeper (envOfC "is_won" (defScope sIsWon) s.heap.objs.size f cdv))) (h : spIsWon K vs H Q E) :
    ∃ t, PSs (cxOf CX0 P w K mg base nIsWon "is_won" (defScope sIsWon) f cdv A outer s H E).nox (defBody sIsWon) t ∧ t { nx := fun _ H' => Q .non H', rt := Q } (start nIsWon vs) H := by
  obtain ⟨v, u, d, e, m, ts, c, rfl, hd, hk, hg, he, hk2, hc, q⟩ := h
  refine ⟨_, (pss_one (ps_ret (pe_cmpR op_gt (pe_c cWorthLeft hr (by decide) rfl (pa_cons (pv 0) (pa_cons (pv 1) pa_nil))) (pe_int) (nomark _)))), ?_⟩
  refine ⟨_, rfl, _, rfl, v, u, d, e, m, ts, c, rfl, hd, hk, hg, he, hk2, hc, fun H1 e1 => ⟨_, _, rfl, rfl, ?_⟩⟩
  show Q (.bl (decide ((0 : Int) < (W m ts c : Nat)))) H1
  have e2 : decide ((0 : Int) < (W m ts c : Nat)) = decide (W m ts c ≠ 0) := decide_eq_decide.mpr (by omega)
  rw [e2]
  exact q _ e1
theorem ok_is_won (D : Def K mg "is_won" sIsWon pIsWon) (cWorthLeft : Cal P w K mg base 8 "worth_left" pWorthLeft (spWorthLeft K)) : Cal P w K mg base 9 "is_won" pIsWon (spIsWon K) := cal_of D scIsWon len_is_won (body_is_won cWorthLeft)
theorem okk_is_won (D : Def K mg "is_won" sIsWon pIsWon) (cWorthLeft : Cal P w K mg base 8 "worth_left" pWorthLeft (spWorthLeft K)) : CalK P w K mg base 9 "is_won" pIsWon ["left", "order"] List.reverse (spIsWon K) :=
  calK_of D scIsWon len_is_won List.reverse (by decide) vals_rev2 (fun _ _ _ _ _ _ ws hl => match ws, two_of hl with | [_, _], _ => rfl) (body_is_won cWorthLeft)
end
end K13

set_option Elab.async false
set_option linter.all false
set_option maxRecDepth 100000
set_option maxHeartbeats 4000000
/-! The walk, part 9: lost lefts, by worth. -/
namespace K13
open PySem PySem.Spec PyProof.Rows L2
theorem pe_lcountK {X : Cx} {K : PySem.W.Frag} {o e : Expr} {es : List Expr} {to : TE} {t : TA} {apos cpos : Pos} (hK : X.K = K) (ho : PE X o to) (ha : PA X (e :: es) t)
    (hbase : attributeBase o "count" X.env (eval o X.env) = eval o X.env := by rfl)
    (hfew : ((backTo cpos (starEach (e :: es) X.env)).all (fun x => !x.1) && (backToKw cpos (keywordEach [] X.env)).all (fun x => x.1.isSome)
      && decide ((e :: es).length + ([] : List Keyword).length + (if ([] : List Keyword).isEmpty then 0 else 1) < 30)) = true := by rfl)
    (hline : (apos.endLine == cpos.line) = true := by rfl) (hs : starEach (e :: es) X.env = (false, eval e X.env) :: starEach es X.env := by rfl) (hplain : (backTo cpos (starEach es X.env)).any (·.1) = false := by rfl) :
    PE X (.Call (.Attribute o "count" apos) (e :: es) [] cpos) (tBM K "list" (rCntI K) to t) := by
  subst hK
  exact pe_bm PySem.F.plainAttrs_list PySem.F.slot_list_count PySem.F.type_list_count mt_lcount ho ha hbase hfew hline hs hplain
theorem W_zero {m : Nat} {ts : Ties} (g : Good m ts) : W m ts 0 = 0 := by
  rw [W_eq g (zero_left m ts)]; rfl
def losts (m : Nat) (ts : Ties) : List Nat := (lefts m ts).filter fun b => W m ts b == 0
theorem losts_head {m : Nat} {ts : Ties} (g : Good m ts) {b : Nat} (h : (losts m ts)[0]? = some b) : b = 0 := by
  have ha : (losts m ts).Pairwise (· < ·) := (lefts_asc m ts).filter _
  have h0 : 0 ∈ losts m ts := List.mem_filter.mpr ⟨zero_left m ts, by rw [W_zero g]; rfl⟩
  obtain ⟨j, hj, e⟩ := List.mem_iff_getElem.mp h0
  obtain ⟨hi, e2⟩ := List.getElem?_eq_some_iff.mp h
  by_cases hz : j = 0
  · subst hz; rw [← e2, e]
  · have := List.pairwise_iff_getElem.mp ha 0 j hi hj (by omega)
    omega
def mx (l : List Nat) : Nat := l.foldl max 0
theorem mx_from : ∀ (l : List Nat) (a : Nat), a ≤ l.foldl max a ∧ (∀ x ∈ l, x ≤ l.foldl max a) ∧ (l.foldl max a = a ∨ l.foldl max a ∈ l)
  | [], a => ⟨Nat.le_refl _, fun x h => (by cases h), .inl rfl⟩
  | y :: l, a => by
    obtain ⟨h1, h2, h3⟩ := mx_from l (max a y)
    rw [List.foldl_cons]
    refine ⟨by omega, fun x hx => ?_, ?_⟩
    · rcases List.mem_cons.mp hx with z | z
      · subst z; omega
      · exact h2 x z
    · rcases h3 with z | z
      · by_cases h : a ≤ y
        · right
          rw [z, Nat.max_eq_right h]
          exact List.mem_cons_self
        · left
          rw [z, Nat.max_eq_left (by omega)]
      · exact .inr (List.mem_cons_of_mem _ z)
theorem mx_uniq {l : List Nat} {m : Nat} (h : m ∈ l) (k : ∀ y ∈ l, y ≤ m) : mx l = m := by
  obtain ⟨h1, h2, h3⟩ := mx_from l 0
  have := h2 m h
  unfold mx
  rcases h3 with z | z
  · omega
  · have := k _ z
    omega
theorem mx_perm {l r : List Nat} (p : l.Perm r) (h : r ≠ []) : mx l = mx r := by
  obtain ⟨h1, h2, h3⟩ := mx_from r 0
  cases r with
  | nil => exact absurd rfl h
  | cons a r =>
    have hm : mx (a :: r) ∈ a :: r := by
      rcases h3 with z | z
      · have := h2 a List.mem_cons_self
        unfold mx
        rw [z, show (0 : Nat) = a by omega]
        exact List.mem_cons_self
      · exact z
    exact mx_uniq (p.mem_iff.mpr hm) fun y hy => h2 y (p.mem_iff.mp hy)
theorem count_nat (l : List Nat) (k : Nat) : (l.map fun (j : Nat) => (j : Int)).count (k : Int) = l.count k := by
  induction l with
  | nil => rfl
  | cons a l ih =>
    rw [List.map_cons, List.count_cons, List.count_cons, ih]
    have : ((a : Int) == (k : Int)) = (a == k) := by
      by_cases h : a = k
      · subst h; simp
      · have h2 : (a : Int) ≠ (k : Int) := by omega
        rw [beq_eq_false_iff_ne.mpr h, beq_eq_false_iff_ne.mpr h2]
    rw [this]
def worthsL (m : Nat) (ts : Ties) : List Nat := (lefts m ts).map (W m ts)
def cnts (m : Nat) (ts : Ties) : List Nat := (List.range (mx (worthsL m ts) + 1)).map fun k => (worthsL m ts).count k
theorem worthsL_le {m : Nat} {ts : Ties} (g : Good m ts) : ∀ x ∈ worthsL m ts, x ≤ 7 := fun x hx => by
  obtain ⟨b, hb, rfl⟩ := List.mem_map.mp hx
  have := W_le g hb
  have := g.le
  omega
theorem kvs_snd (m : Nat) (ts : Ties) : (kvs (wv m ts) (lefts m ts)).map (·.2) = Vn (worthsL m ts) := by
  unfold kvs worthsL
  rw [List.map_map]
  show _ = ((lefts m ts).map (W m ts)).map _
  rw [List.map_map]; rfl
theorem not_tup_frz {H : Hp} {p : Addr} {o : Obj} {ys : List (Key × V)} (h : H p = some (.frz o (.dK ys))) : ∀ xs, ¬ Rd H p (.tup xs) := fun xs q => by
  rcases q with q | ⟨o, q⟩ <;> rw [h] at q <;> cases q
theorem same_unlock {H H5 : Hp} {d : Addr} {o : Obj} {u : HO} (hd : H d = some u) (e : Same (upd H d (.frz o u)) H5) : Same H (upd H5 d u) := fun b v hb => by
  by_cases z : b = d
  · subst z
    rw [hd] at hb
    cases hb
    exact upd_same
  · rw [upd_ne z]
    exact e b v (by rw [upd_ne z]; exact hb)
section
variable {P : Program} {w : World} {K : PySem.W.Frag} {mg : Str → Option Value} {base : Heap}
def spLost (K : PySem.W.Frag) : Sp := fun vs H Q _ => ∃ (v : V) (d : PyData) (m : Nat) (ts : Ties), vs = [v] ∧ Dp K H v d ∧ netAny d m ts ∧ Good m ts ∧
  ∀ L ys bs H', Same H H' → H L = none → H' L = some (.lst ys) → bs.Perm (losts m ts) → Lexed bs → Paired (PcsAt H') ys bs → Q (.ref L) H'
theorem len_lost_lefts : ∀ vs H Q E, spLost K vs H Q E → vs.length = pLostLefts.length := fun vs H Q E h => by
  obtain ⟨v, d, m, ts, rfl, _⟩ := h; rfl
theorem body_lost_lefts (T : Txt mg) (cSureOrder : Cal P w K mg base 6 "sure_order" pSureOrder (spSureOrder K)) (cWorthsByBits : Cal P w K mg base 3 "worths_by_bits" pWorthsByBits (spWorths K)) (cPiecesFor : Cal P w K mg base 1 "pieces_for" pPiecesFor (spPieces K))
    (f : Addr) (cdv : Value) (A : Around) (outer : List Env) (s : Shared) (H : Hp) (vs : List V) (Q : VK) (E : XK) (hr : Room 6 (A.deeper (envOfC "lost_lefts" (defScope sLostLefts) s.heap.objs.size f cdv))) (h : spLost K vs H Q E) :
    ∃ t, PSs (cxOf CX0 P w K mg base nLostLefts "lost_lefts" (defScope sLostLefts) f cdv A outer s H E).nox (defBody sLostLefts) t ∧ t { nx := fun _ H' => Q .non H', rt := Q } (start nLostLefts vs) H := by
  obtain ⟨v, d, m, ts, rfl, hd, hk, hg, q⟩ := h
  have hu := hu_of hr
  have hm := hg.le
  have hpw := pow_le7 hm
  have hll := lefts_len m ts
  refine ⟨_, (pss_cons (ps_set (i := 1) scLostLefts.nd rfl (Or.inr rfl) (pe_c cWorthsByBits hr (by decide) rfl (pa_cons (pe_c cSureOrder hr (by decide) rfl (pa_cons (pv 0) pa_nil)) pa_nil)))
      (pss_one (ps_ret (pe_callB (cr_sortT1 hr.units) rfl T.sorted b_sorted (pa_cons (pe_lock (pe_lc (own := [("bits", 2)]) rfl scLostLefts.nd (pi_keys (pv 1)) (blkOk_by (N := nLostLefts) (sc := defScope sLostLefts) (by decide +kernel)) (fun _ _ _ _ _ => pg_name (i := 2) scLostLefts.nd rfl (Or.inl rfl)) (fun _ _ _ _ _ => pts_one (pt_cmpR op_eq (pe_dget hu (pv 1) (pv 2) (fun _ _ => rfl)) (pe_int) (nomark _))) (fun _ _ _ _ _ => pe_c cPiecesFor hr (by decide) rfl (pa_cons (pv 2) pa_nil)))) pa_nil))))), ?_⟩
  refine ⟨_, rfl, v, d, m, ts, rfl, hd, hk, hg, fun a b xs H1 e1 n => ⟨a, b, xs, m, ts, rfl, n, hg, fun dd H2 e2 hdd => ?_⟩⟩
  refine ⟨dd, _, hdd, True.intro, fun od => ⟨_, rfl, dd, od, rfl, .inl ⟨_, upd_same, fun L hL => ?_⟩⟩⟩
  have hLd : L ≠ dd := fun z => by rw [z, upd_same] at hL; cases hL
  refine lc_rel (R := PcsAt) (fun _ _ _ _ e h => h.keep e) (walk_keys (d := dd) (o := od) (kvs := kvs (wv m ts) (lefts m ts))) hL (fun H' e => e _ _ upd_same) (by rw [kvs_len]; omega) (fun j => if (W m ts ((lefts m ts).getD j 0) == 0) = true then some ((lefts m ts).getD j 0) else none) (fun j x H3 H4 hj e3 y Ky Kn hy hn => ?_) (fun H3 ys e3 hL3 hys => ?_)
  · obtain ⟨rfl, k, z, hkz, rfl⟩ := y
    unfold kvs at hkz
    rw [List.getElem?_map] at hkz
    obtain ⟨c, hc, hcz⟩ := Option.map_eq_some_iff.mp hkz
    cases hcz
    rw [getD_of hc] at hy hn
    have hcm := List.mem_of_getElem? hc
    have hc7 : c < 2 ^ 7 := Nat.lt_of_lt_of_le (mem_lefts.mp hcm).1 (Nat.pow_le_pow_right (by omega) hm)
    have g1 : DGet H4 dd (.int (c : Int)) (some (wv m ts c)) := .inl ⟨_, Sum.inl (c : Int), .inr ⟨od, e3 _ _ upd_same⟩, rfl, by rw [kvs_val, if_pos hcm]⟩
    refine ⟨rfl, _, rfl, _, rfl, _, _, rfl, g1, rfl, (W m ts c == 0), ?_, ?_⟩
    · refine congrArg V.bl ?_
      by_cases h : W m ts c = 0
      · rw [decide_eq_true (show wv m ts c = V.int 0 from by show V.int ((W m ts c : Nat) : Int) = V.int 0; rw [h]; rfl), h]; rfl
      · rw [decide_eq_false (fun z => h (by have := V.int.inj z; omega))]
        exact (beq_eq_false_iff_ne.mpr h).symm
    cases hcc : (W m ts c == 0) with
    | true => exact iteT ⟨_, rfl, c, rfl, hc7, fun t H5 e5 ht => hy c (by rw [if_pos hcc]) _ _ e5 ⟨t, rfl, ht⟩⟩
    | false => exact iteF (hn (by rw [hcc]; rfl) _ (Same.refl _))
  · have e4 : Same H2 (upd H3 dd (.dK (kvs (wv m ts) (lefts m ts)))) := same_unlock hdd e3
    have hfz := e3 _ _ upd_same
    have kt : KeepT H3 (upd H3 dd (.dK (kvs (wv m ts) (lefts m ts)))) := KeepT.upd (not_tup_frz hfz)
    have hfm : ((List.range (kvs (wv m ts) (lefts m ts)).length).filterMap fun j => if (W m ts ((lefts m ts).getD j 0) == 0) = true then some ((lefts m ts).getD j 0) else none) = losts m ts := by
      rw [kvs_len, fm_if (fun j => W m ts ((lefts m ts).getD j 0) == 0) (fun j => (lefts m ts).getD j 0)]
      have e : (List.range (lefts m ts).length).map (fun j => (lefts m ts).getD j 0) = lefts m ts := by
        have := range_getD (lefts m ts) 0 id
        rw [List.map_id] at this
        exact this
      unfold losts
      conv => rhs; rw [← e]
      rw [List.filter_map]; rfl
    rw [hfm] at hys
    have hys2 : Paired (PcsAt (upd H3 dd (.dK (kvs (wv m ts) (lefts m ts))))) ys (losts m ts) := hys.mono fun _ _ h => h.keep kt
    refine ⟨hfz, L, ys, keyOf (upd H3 dd (.dK (kvs (wv m ts) (lefts m ts)))), rfl, SqL.of (by rw [upd_ne hLd]; exact hL3), fun x hx => ?_, fun x hx => ?_, fun zs p hp1 hp2 hp3 => ?_⟩
    · obtain ⟨c, _, t, rfl, ht⟩ := paired_left hys2 x hx
      refine ⟨t, rfl, ?_⟩
      rw [keyOf_eq ht, ← vn_ints]
      exact .inl ht
    · obtain ⟨c, hc, t, rfl, ht⟩ := paired_get hys2 hx
      rw [keyOf_eq ht, losts_head hg hc]; rfl
    · obtain ⟨bs, p1, p2⟩ := paired_perm hp1 hys2
      have e5 := e4.trans (same_new hp3 (.lst zs))
      refine q p zs bs _ ((e1.trans e2).trans e5) (((e1.trans e2).trans e4).free hp3) upd_same p1 ?_ (p2.mono fun _ _ h => h.keep (KeepT.of_same (same_new hp3 _)))
      refine paired_pw (S := fun b c => HT.lexLt (key c) (key b) = false) (fun x y c e hx hy hxy => ?_) p2 hp2
      obtain ⟨t, rfl, ht⟩ := hx
      obtain ⟨u, rfl, hu'⟩ := hy
      rw [keyOf_eq ht, keyOf_eq hu'] at hxy
      exact hxy
theorem ok_lost_lefts (T : Txt mg) (D : Def K mg "lost_lefts" sLostLefts pLostLefts) (cSureOrder : Cal P w K mg base 6 "sure_order" pSureOrder (spSureOrder K)) (cWorthsByBits : Cal P w K mg base 3 "worths_by_bits" pWorthsByBits (spWorths K)) (cPiecesFor : Cal P w K mg base 1 "pieces_for" pPiecesFor (spPieces K)) : Cal P w K mg base 7 "lost_lefts" pLostLefts (spLost K) :=
  cal_of D scLostLefts len_lost_lefts (body_lost_lefts T cSureOrder cWorthsByBits cPiecesFor)
theorem okk_lost_lefts (T : Txt mg) (D : Def K mg "lost_lefts" sLostLefts pLostLefts) (cSureOrder : Cal P w K mg base 6 "sure_order" pSureOrder (spSureOrder K)) (cWorthsByBits : Cal P w K mg base 3 "worths_by_bits" pWorthsByBits (spWorths K)) (cPiecesFor : Cal P w K mg base 1 "pieces_for" pPiecesFor (spPieces K)) : CalK P w K mg base 7 "lost_lefts" pLostLefts ["order"] id (spLost K) :=
  calK_of D scLostLefts len_lost_lefts id (by decide) (fun r => r) (fun _ _ _ _ _ _ ws hl => match ws, hl with | [_], _ => rfl) (body_lost_lefts T cSureOrder cWorthsByBits cPiecesFor)
def spByWorth (K : PySem.W.Frag) : Sp := fun vs H Q _ => ∃ (v : V) (d : PyData) (m : Nat) (ts : Ties), vs = [v] ∧ Dp K H v d ∧ netAny d m ts ∧ Good m ts ∧ ∀ t H', Same H H' → SqT K H' t (Vn (cnts m ts)) → Q (.ref t) H'
theorem len_by_worth : ∀ vs H Q E, spByWorth K vs H Q E → vs.length = pByWorth.length := fun vs H Q E h => by
  obtain ⟨v, d, m, ts, rfl, _⟩ := h; rfl
theorem body_by_worth (T : Txt mg) (cSureOrder : Cal P w K mg base 6 "sure_order" pSureOrder (spSureOrder K)) (cWorthsByBits : Cal P w K mg base 3 "worths_by_bits" pWorthsByBits (spWorths K))
    (f : Addr) (cdv : Value) (A : Around) (outer : List Env) (s : Shared) (H : Hp) (vs : List V) (Q : VK) (E : XK) (hr : Room 6 (A.deeper (envOfC "by_worth" (defScope sByWorth) s.heap.objs.size f cdv))) (h : spByWorth K vs H Q E) :
    ∃ t, PSs (cxOf CX0 P w K mg base nByWorth "by_worth" (defScope sByWorth) f cdv A outer s H E).nox (defBody sByWorth) t ∧ t { nx := fun _ H' => Q .non H', rt := Q } (start nByWorth vs) H := by
  obtain ⟨v, d, m, ts, rfl, hd, hk, hg, q⟩ := h
  have hm := hg.le
  have hpw := pow_le7 hm
  have hll := lefts_len m ts
  refine ⟨_, (pss_cons (ps_set (i := 1) scByWorth.nd rfl (Or.inr rfl) (pe_listVals rfl (pe_c cWorthsByBits hr (by decide) rfl (pa_cons (pe_c cSureOrder hr (by decide) rfl (pa_cons (pv 0) pa_nil)) pa_nil)) rfl T.list_ b_list))
      (pss_one (ps_ret (pe_callTy call_tuple_of rfl T.tuple_ b_tuple (pa_cons (pe_lc (own := [("number", 2)]) rfl scByWorth.nd (pi_range1 (by rfl) T.range (pa_cons (pe_op op_add (pe_callB (cr_max rfl) rfl T.max b_max (pa_cons (pv 1) pa_nil)) (pe_int)) pa_nil)) (blkOk_by (N := nByWorth) (sc := defScope sByWorth) (by decide +kernel)) (fun _ _ _ _ _ => pg_name (i := 2) scByWorth.nd rfl (Or.inl rfl)) (fun _ _ _ _ _ => pts_nil) (fun _ _ _ _ _ => pe_lcountK (K := K) rfl (pv 1) (pa_cons (pv 2) pa_nil))) pa_nil))))), ?_⟩
  refine ⟨_, rfl, v, d, m, ts, rfl, hd, hk, hg, fun a b xs H1 e1 n => ⟨a, b, xs, m, ts, rfl, n, hg, fun dd H2 e2 hdd => ⟨dd, _, rfl, hdd, fun p hp => ?_⟩⟩⟩
  rw [kvs_snd]
  have e3 := e2.trans (same_new hp (.lst (Vn (worthsL m ts))))
  have h0 : W m ts 0 ∈ worthsL m ts := List.mem_map.mpr ⟨0, zero_left m ts, rfl⟩
  refine ⟨_, rfl, p, (worthsL m ts).map (fun (k : Nat) => (k : Int)), rfl, by rw [← vn_ints]; exact SqL.of upd_same, by rw [List.length_map]; exact List.length_pos_of_mem h0, fun M hM1 hM2 => ?_⟩
  obtain ⟨M', hM', rfl⟩ := List.mem_map.mp hM1
  have hmx := mx_uniq hM' fun y hy => by have := hM2 _ (List.mem_map.mpr ⟨y, hy, rfl⟩); omega
  have hM7 := worthsL_le hg M' hM'
  refine ⟨_, _, rfl, rfl, _, rfl, by omega, by omega, fun L hL => ?_⟩
  have en : ((M' : Int) + 1).toNat = M' + 1 := by omega
  rw [en]
  refine lc_map (K := K) (walk_range0 (n := M' + 1)) hL (fun _ _ => True.intro) (by omega) (fun i => .int ((worthsL m ts).count i : Nat)) (fun _ _ => rfl) (fun i x H3 H4 hi e4 y Ky hy => ?_) (fun H3 ys e4 hL3 hys => ?_)
  · obtain ⟨rfl, rfl⟩ := y
    have hp4 := e4 _ _ (upd_same (H := H2) (a := p) (o := .lst (Vn (worthsL m ts))))
    refine ⟨rfl, _, rfl, tyv_list (SqL.of hp4), _, rfl, p, (worthsL m ts).map (fun (k : Nat) => (k : Int)), (i : Int), rfl, rfl, by rw [← vn_ints]; exact SqL.of hp4, ?_⟩
    rw [count_nat]
    exact hy _ _ (Same.refl _) (.int _)
  · have hys' : DpAll K H3 ys ((cnts m ts).map fun (k : Nat) => PyData.int (k : Int)) := by
      unfold cnts
      rw [hmx, List.map_map]
      exact hys
    rw [dpa_ns hys'] at hL3
    exact ⟨L, _, rfl, .inl ⟨SqL.of hL3, fun l hl => q _ _ (((e1.trans e3).trans e4).trans (same_new hl _)) (SqT.of upd_same)⟩⟩
theorem ok_by_worth (T : Txt mg) (D : Def K mg "by_worth" sByWorth pByWorth) (cSureOrder : Cal P w K mg base 6 "sure_order" pSureOrder (spSureOrder K)) (cWorthsByBits : Cal P w K mg base 3 "worths_by_bits" pWorthsByBits (spWorths K)) : Cal P w K mg base 7 "by_worth" pByWorth (spByWorth K) :=
  cal_of D scByWorth len_by_worth (body_by_worth T cSureOrder cWorthsByBits)
theorem okk_by_worth (T : Txt mg) (D : Def K mg "by_worth" sByWorth pByWorth) (cSureOrder : Cal P w K mg base 6 "sure_order" pSureOrder (spSureOrder K)) (cWorthsByBits : Cal P w K mg base 3 "worths_by_bits" pWorthsByBits (spWorths K)) : CalK P w K mg base 7 "by_worth" pByWorth ["order"] id (spByWorth K) :=
  calK_of D scByWorth len_by_worth id (by decide) (fun r => r) (fun _ _ _ _ _ _ ws hl => match ws, hl with | [_], _ => rfl) (body_by_worth T cSureOrder cWorthsByBits)
end
end K13

set_option Elab.async false
set_option linter.all false
set_option maxRecDepth 100000
set_option maxHeartbeats 4000000
/-! The law's own walk, part 1: box, take, cells. -/
namespace K13
open PySem PySem.Spec PyProof.Rows L2
/-- the list that the law's draws come from, behind at most t of them -/
def TinAt (t : Nat) (H : Hp) (a : Addr) : Prop := ∃ b s c : Int, H a = some (.lst [.int b, .int s, .int c]) ∧ 0 ≤ c ∧ c ≤ (t : Int)
theorem TinAt.mono {t u : Nat} {H : Hp} {a : Addr} (h : TinAt t H a) (k : t ≤ u) : TinAt u H a := by
  obtain ⟨b, s, c, h1, h2, h3⟩ := h
  exact ⟨b, s, c, h1, h2, by omega⟩
theorem TinAt.same {t : Nat} {H H' : Hp} {a : Addr} (h : TinAt t H a) (e : Same H H') : TinAt t H' a := by
  obtain ⟨b, s, c, h1, h2, h3⟩ := h
  exact ⟨b, s, c, e _ _ h1, h2, h3⟩
/-- all stands but what lies at a -/
def Off (a : Addr) (H H' : Hp) : Prop := ∀ b o, b ≠ a → H b = some o → H' b = some o
theorem Off.refl (a : Addr) (H : Hp) : Off a H H := fun _ _ _ h => h
theorem Off.trans {a : Addr} {H H1 H2 : Hp} (h : Off a H H1) (k : Off a H1 H2) : Off a H H2 := fun b o ne q => k b o ne (h b o ne q)
theorem Off.of_same {a : Addr} {H H' : Hp} (e : Same H H') : Off a H H' := fun b o _ q => e b o q
theorem Off.upd {a : Addr} {H : Hp} {o : HO} : Off a H (upd H a o) := fun b u ne q => by rw [upd_ne ne]; exact q
theorem Off.upd2 {a p : Addr} {H H' : Hp} {o : HO} (h : Off a H H') (hp : H p = none) : Off a H (L2.upd H' p o) := fun b u ne q => by
  rw [upd_ne (ne_of_none q hp)]
  exact h b u ne q
theorem Off.keep {a : Addr} {H H' : Hp} {t : Nat} (h : Off a H H') (ht : TinAt t H a) : KeepT H H' := by
  obtain ⟨b, s, c, h1, _⟩ := ht
  exact .off h (not_tup_lst h1)
theorem Off.free {a : Addr} {H H' : Hp} {t : Nat} (h : Off a H H') (ht : TinAt t H' a) {p : Addr} (hp : H' p = none) : H p = none := by
  obtain ⟨b, s, c, h1, _⟩ := ht
  cases e : H p with
  | none => rfl
  | some o => rw [h p o (fun z => by rw [z, h1] at hp; cases hp) e] at hp; cases hp
theorem TinAt.ne {t : Nat} {H : Hp} {a p : Addr} (h : TinAt t H a) (hp : H p = none) : p ≠ a := fun z => by
  obtain ⟨b, s, c, h1, _⟩ := h
  rw [z, h1] at hp; cases hp
section
variable {P : Program} {w : World} {K : PySem.W.Frag} {mg : Str → Option Value} {base : Heap}
def spTake : Sp := fun vs H Q _ => ∃ (a : Addr) (k t : Nat), vs = [.ref a, .int (k : Int)] ∧ 0 < k ∧ k ≤ 1000 ∧ TinAt t H a ∧ t ≤ 1000000 ∧ ∀ (r : Nat) H', r < k → Off a H H' → TinAt (t + 1) H' a → Q (.int (r : Int)) H'
theorem emod_nat {x : Int} {k : Nat} (h : 0 < k) : ∃ r : Nat, x % (k : Int) = (r : Int) ∧ r < k := by
  have h1 := Int.emod_nonneg x (show (k : Int) ≠ 0 by omega)
  have h2 := Int.emod_lt_of_pos x (show (0 : Int) < (k : Int) by omega)
  exact ⟨(x % (k : Int)).toNat, by omega, by omega⟩
theorem wide_ok (x : Int) : -(2 ^ 64) < x % 40009 + 7 ∧ x % 40009 + 7 < 2 ^ 64 := by
  have h1 := Int.emod_nonneg x (show (40009 : Int) ≠ 0 by omega)
  have h2 := Int.emod_lt_of_pos x (show (0 : Int) < 40009 by omega)
  omega
theorem ok_law_take (T : Txt mg) (D : Def K mg "_law_take" sLwTake pLwTake) : Cal P w K mg base 1 "_law_take" pLwTake spTake := by
  refine cal_of D scLwTake (fun vs H Q E h => ?_) (fun f cdv A outer s H vs Q E hr h => ?_)
  · obtain ⟨a, k, t, rfl, _⟩ := h; rfl
  obtain ⟨a, k, t, rfl, hk, hk2, ⟨b, s', c, ha, hc1, hc2⟩, ht, q⟩ := h
  refine ⟨_, (pss_cons (ps_if (pt_cmpR op_gt (pe_ix ix_list (pv 0) (pe_int) (fun _ _ => rfl)) (pe_int) (nomark _)) (pss_cons (ps_set (i := 2) scLwTake.nd rfl (Or.inl rfl) (pe_op op_mod (pe_callTy call_int1 rfl T.int_ b_int (pa_cons (pe_ix ix_list (pv 0) (pe_int) (fun _ _ => rfl)) pa_nil)) (pv 1)))
      (pss_cons (ps_asg (pe_op op_fdiv (pe_ix ix_list (pv 0) (pe_int) (fun _ _ => rfl)) (pv 1)) (pg_sub (pv 0) (pe_int) set_list))
      (pss_one (ps_ret (pv 2))))) pss_nil)
      (pss_cons (ps_asg (pe_op op_add (pe_ix ix_list (pv 0) (pe_int) (fun _ _ => rfl)) (pe_int)) (pg_sub (pv 0) (pe_int) set_list))
      (pss_cons (ps_set (i := 3) scLwTake.nd rfl (Or.inl rfl) (pe_op op_mod (pe_callTy call_int1 rfl T.int_ b_int (pa_cons (pe_op op_mul (pe_op op_add (pe_ix ix_list (pv 0) (pe_int) (fun _ _ => rfl)) (pe_op op_mul (pe_int) (pe_ix ix_list (pv 0) (pe_int) (fun _ _ => rfl)))) (pe_op op_add (pe_int) (pe_ix ix_list (pv 0) (pe_int) (fun _ _ => rfl)))) pa_nil)) (pe_int)))
      (pss_cons (ps_set (i := 4) scLwTake.nd rfl (Or.inl rfl) (pe_op op_add (pe_op op_mod (pe_callTy call_int1 rfl T.int_ b_int (pa_cons (pv 3) pa_nil)) (pe_int)) (pe_int)))
      (pss_cons (ps_set (i := 5) scLwTake.nd rfl (Or.inl rfl) (pe_op op_mod (pe_callTy call_int1 rfl T.int_ b_int (pa_cons (pe_op op_mul (pe_op op_add (pe_op op_add (pv 3) (pe_ix ix_list (pv 0) (pe_int) (fun _ _ => rfl))) (pe_op op_fdiv (pe_ix ix_list (pv 0) (pe_int) (fun _ _ => rfl)) (pe_int))) (pv 4)) pa_nil)) (pe_int)))
      (pss_one (ps_ret (pe_op op_mod (pe_callTy call_int1 rfl T.int_ b_int (pa_cons (pe_op op_fdiv (pe_op op_mod (pe_callTy call_int1 rfl T.int_ b_int (pa_cons (pe_op op_add (pe_op op_mul (pv 5) (pe_int)) (pv 3)) pa_nil)) (pe_int)) (pe_int)) pa_nil)) (pv 1))))))))), ?_⟩
  have fin : ∀ (x : Int) (H' : Hp), Off a H H' → TinAt (t + 1) H' a → Q (.int (x % (k : Int))) H' := fun x H' h1 h2 => by
    obtain ⟨r, hr1, hr2⟩ := emod_nat (x := x) hk
    rw [hr1]
    exact q r H' hr2 h1 h2
  have hk0 : (0 : Int) < (k : Int) := by omega
  refine ⟨_, rfl, a, _, _, _, rfl, rfl, SqL.of ha, atI_nat (j := 0) rfl, _, _, rfl, rfl, decide (0 < b), rfl, ?_⟩
  by_cases hb : 0 < b
  · rw [decide_eq_true hb]
    refine iteT ?_
    refine ⟨_, rfl, a, _, _, _, rfl, rfl, SqL.of ha, atI_nat (j := 0) rfl, .inl ⟨_, rfl, _, rfl, _, _, rfl, rfl, hk0, ?_⟩⟩
    refine ⟨_, rfl, a, _, _, _, rfl, rfl, SqL.of ha, atI_nat (j := 0) rfl, _, rfl, _, _, rfl, rfl, ⟨by omega, by omega⟩, ?_⟩
    exact ⟨_, rfl, a, _, _, 0, rfl, rfl, ha, rfl, _, rfl, fin b _ Off.upd ⟨_, _, _, upd_same, hc1, by omega⟩⟩
  · rw [decide_eq_false hb]
    refine iteF ?_
    have hct : c + 1 ≤ ((t + 1 : Nat) : Int) := by omega
    refine ⟨_, rfl, a, _, _, _, rfl, rfl, SqL.of ha, atI_nat (j := 2) rfl, _, _, rfl, rfl, _, rfl, a, _, _, 2, rfl, rfl, ha, rfl, ?_⟩
    have ha1 : (upd H a (.lst ([V.int b, V.int s', V.int c].set 2 (.int (c + 1))))) a = some (.lst [.int b, .int s', .int (c + 1)]) := upd_same
    refine ⟨_, rfl, a, _, _, _, rfl, rfl, SqL.of ha1, atI_nat (j := 1) rfl, _, rfl, a, _, _, _, rfl, rfl, SqL.of ha1, atI_nat (j := 2) rfl, _, _, rfl, rfl, .inl ⟨by omega, by omega⟩, _, _, rfl, rfl, _, rfl, a, _, _, _, rfl, rfl, SqL.of ha1, atI_nat (j := 2) rfl, _, _, rfl, rfl,
      _, _, rfl, rfl, .inr ⟨by omega, by omega⟩, .inl ⟨_, rfl, _, _, rfl, rfl, by show (0 : Int) < 2147483647; omega, ?_⟩⟩
    refine ⟨_, rfl, .inl ⟨_, rfl, _, _, rfl, rfl, by show (0 : Int) < 40009; omega, _, _, rfl, rfl, ?_⟩⟩
    refine ⟨_, rfl, _, rfl, a, _, _, _, rfl, rfl, SqL.of ha1, atI_nat (j := 2) rfl, _, _, rfl, rfl, _, rfl, a, _, _, _, rfl, rfl, SqL.of ha1, atI_nat (j := 1) rfl, _, _, rfl, rfl, ⟨by omega, by omega⟩, _, _, rfl, rfl, _, rfl, _, _, rfl, rfl, .inr (wide_ok _), .inl ⟨_, rfl, _, _, rfl, rfl, by show (0 : Int) < 2147483629; omega, ?_⟩⟩
    exact ⟨_, rfl, _, _, rfl, rfl, .inr ⟨by omega, by omega⟩, _, rfl, _, _, rfl, rfl, .inl ⟨_, rfl, _, _, rfl, rfl, by show (0 : Int) < 2147483587; omega, _, _, rfl, rfl, ⟨by omega, by omega⟩, .inl ⟨_, rfl, _, rfl, _, _, rfl, rfl, hk0, fin _ _ Off.upd ⟨_, _, _, ha1, by omega, hct⟩⟩⟩⟩
def spBox (K : PySem.W.Frag) : Sp := fun vs H Q _ => ∃ (a : Addr) (z : Int) (zs : List Int), vs = [.ref a, .int 0] ∧ SqL K H a ((z :: zs).map V.int) ∧ ∀ p, H p = none → ∀ b s, Q (.ref p) (upd H p (.lst [.int b, .int s, .int 0]))
theorem ok_law_box (T : Txt mg) (D : Def K mg "_law_box" sLwBox pLwBox) : Cal P w K mg base 1 "_law_box" pLwBox (spBox K) := by
  refine cal_of D scLwBox (fun vs H Q E h => ?_) (fun f cdv A outer s H vs Q E hr h => ?_)
  · obtain ⟨a, z, zs, rfl, _⟩ := h; rfl
  obtain ⟨a, z, zs, rfl, ha, q⟩ := h
  refine ⟨_, (pss_cons (ps_set (i := 2) scLwBox.nd rfl (Or.inl rfl) (pe_ifExp (pt_cmpR op_lt (pv 1) (pe_callB call_len_seq rfl T.len b_len (pa_cons (pv 0) pa_nil)) (nomark _)) (pe_ix ix_list (pv 0) (pv 1) (fun _ _ => rfl)) (pe_int)))
      (pss_one (ps_ret (pe_lst (pa_cons (pe_op op_mul (pe_callB call_abs rfl T.abs b_abs (pa_cons (pv 2) pa_nil)) (pe_callTy call_int1 rfl T.int_ b_int (pa_cons (pe_cmpR op_ge (pe_callB call_abs rfl T.abs b_abs (pa_cons (pv 2) pa_nil)) (pe_op op_pow (pe_int) (pe_int)) (nomark _)) pa_nil))) (pa_cons (pe_op op_add (pe_op op_add (pe_op op_mod (pe_callTy call_int1 rfl T.int_ b_int (pa_cons (pv 2) pa_nil)) (pe_int)) (pe_op op_mul (pe_int) (pv 1))) (pe_int)) (pa_cons (pe_int) pa_nil))))))), ?_⟩
  refine ⟨_, rfl, _, rfl, a, _, rfl, .inl ha, _, _, rfl, rfl, true, congrArg V.bl (decide_eq_true (by rw [List.length_map, List.length_cons]; omega)), iteT ?_⟩
  refine ⟨_, rfl, _, rfl, a, _, _, _, rfl, rfl, ha, atI_nat (j := 0) rfl, ?_⟩
  refine ⟨_, rfl, _, rfl, _, rfl, _, rfl, _, _, rfl, rfl, ⟨by omega, by omega, by decide⟩, _, _, rfl, rfl, .inr ⟨_, rfl, _, _, rfl, rfl, .inr ⟨by split <;> omega, by split <;> omega⟩, ?_⟩⟩
  refine ⟨_, rfl, .inl ⟨_, rfl, _, _, rfl, rfl, by show (0 : Int) < 2305843009213693951; omega, _, rfl, _, _, rfl, rfl, .inl ⟨by omega, by omega⟩, _, _, rfl, rfl, _, _, rfl, rfl, (by show 3 ≤ sizeLine; decide), fun p hp => q p hp _ _⟩⟩
def spCells (K : PySem.W.Frag) : Sp := fun vs H Q _ => ∃ (a : Addr) (ns : List Int), vs = [.ref a, .int 1] ∧ SqL K H a (ns.map V.int) ∧ ns.length ≤ 1000 ∧ ∀ L z zs H', Same H H' → H' L = some (.lst ((z :: zs).map V.int)) → Q (.ref L) H'
theorem cut_ints (ns : List Int) (lo hi : Option Int) : ∃ ms : List Int, cutV (ns.map V.int) lo hi = ms.map V.int ∧ ms.length ≤ ns.length := by
  refine ⟨(ns.drop (HT.sIx ns.length 0 lo)).take (HT.sIx ns.length ns.length hi - HT.sIx ns.length 0 lo), ?_, by rw [List.length_take, List.length_drop]; omega⟩
  unfold cutV
  rw [List.length_map, List.map_take, List.map_drop]
theorem ok_law_cells (T : Txt mg) (D : Def K mg "_law_cells" sLwCells pLwCells) : Cal P w K mg base 1 "_law_cells" pLwCells (spCells K) := by
  refine cal_of D scLwCells (fun vs H Q E h => ?_) (fun f cdv A outer s H vs Q E hr h => ?_)
  · obtain ⟨a, ns, rfl, _⟩ := h; rfl
  obtain ⟨a, ns, rfl, ha, hl, q⟩ := h
  obtain ⟨ms, hms, hml⟩ := cut_ints ns none (some 1)
  obtain ⟨rs, hrs, hrl⟩ := cut_ints ns (some 1) (some 63)
  refine ⟨_, (pss_cons (ps_set (i := 2) scLwCells.nd rfl (Or.inl rfl) (pe_orT (pe_callTy call_list_of rfl T.list_ b_list (pa_cons (pe_slice sl_list (pv 0) po_none (po_some (pv 1))) pa_nil)) (pe_one (pe_lst (pa_cons (pe_int) pa_nil)))))
      (pss_cons (ps_for PassesOwn.never rfl (pi_enum (by rfl) T.enumerate (pa_cons (pe_slice sl_list (pv 0) (po_some (pv 1)) (po_some (pe_int))) pa_nil)) (pg_tup rfl (pgs_cons (pg_name (i := 3) scLwCells.nd rfl (Or.inl rfl)) (pgs_cons (pg_name (i := 4) scLwCells.nd rfl (Or.inl rfl)) pgs_nil))) (pss_cons (ps_set (i := 5) scLwCells.nd rfl (Or.inl rfl) (pe_op op_mod (pe_callTy call_int1 rfl T.int_ b_int (pa_cons (pv 3) pa_nil)) (pv 1)))
      (pss_one (ps_asg (pe_op op_add (pe_ix ix_list (pv 2) (pv 5) (fun _ _ => rfl)) (pe_op op_mul (pv 4) (pe_op op_add (pv 3) (pe_int)))) (pg_sub (pv 2) (pv 5) set_list)))))
      (pss_one (ps_ret (pv 2))))), ?_⟩
  refine ⟨_, rfl, _, rfl, 1, rfl, a, _, rfl, ha, fun p hp => ?_⟩
  rw [hms]
  refine ⟨p, _, rfl, .inl (SqL.of upd_same), fun l hl' => ?_⟩
  have e1 := (same_new hp (.lst (ms.map V.int))).trans (same_new hl' (.lst (ms.map V.int)))
  have hl0 : H l = none := (same_new hp _).free hl'
  refine ⟨!(ms.map V.int).isEmpty, .inl ⟨_, SqL.of upd_same, rfl⟩, ?_⟩
  cases ms with
  | nil =>
    refine iteF ⟨(by show 1 ≤ sizeLine; decide), fun L hL => ?_⟩
    have e2 := e1.trans (same_new hL (.lst [.int 0]))
    have hL0 : H L = none := e1.free hL
    refine ⟨_, rfl, _, rfl, 1, rfl, 63, rfl, a, _, rfl, e2.seq ha, fun R hR => ?_⟩
    rw [hrs]
    have hLR : L ≠ R := fun z => by rw [← z, upd_same] at hR; cases hR
    refine ⟨R, _, rfl, SqL.of upd_same, ?_⟩
    refine for_it (walk_enum (K := K) (xs := rs.map V.int)) (fun i σ H' => ∃ v3 v4 v5 z zs, σ = [some (.ref a), some (.int 1), some (.ref L), v3, v4, v5] ∧ Same H H' ∧ H' L = some (.lst ((z :: zs).map V.int)) ∧ H' R = some (.lst (rs.map V.int)))
      ⟨_, _, _, 0, [], rfl, e2.trans (same_new hR _), by rw [upd_ne hLR, upd_same]; rfl, upd_same⟩ (fun i σ H' _ h => SqL.of h.choose_spec.choose_spec.choose_spec.choose_spec.choose_spec.2.2.2) (fun i x σ H2 H3 hi h y => ?_) (fun σ H2 h => ?_)
    · obtain ⟨v3, v4, v5, z, zs, rfl, e3, hLx, hRx⟩ := h
      obtain ⟨T', x1, x2, rfl, hT', rfl, hx1, hx2⟩ := y
      have hx1 : some (V.int (i : Int)) = some x1 := hx1
      have hx2 : (rs.map V.int)[i]? = some x2 := hx2
      cases hx1
      rw [List.getElem?_map] at hx2
      obtain ⟨r, hr', rfl⟩ := Option.map_eq_some_iff.mp hx2
      rw [List.length_map] at hi
      have e4 := same_new hT' (.tup [.int (i : Int), .int r])
      have hLy := e4 _ _ hLx
      have hRy := e4 _ _ hRx
      refine ⟨T', _, rfl, SqT.of upd_same, rfl, _, _, rfl, _, _, rfl, rfl, ?_⟩
      refine ⟨_, rfl, .inl ⟨_, rfl, _, rfl, _, _, rfl, rfl, (by show (0 : Int) < 1; omega), ?_⟩⟩
      have em : (i : Int) % 1 = 0 := Int.emod_one _
      refine ⟨_, rfl, _, rfl, L, _, 0, _, rfl, congrArg V.int em, SqL.of hLy, atI_nat (j := 0) rfl, _, rfl, _, rfl, _, _, rfl, rfl, _, _, rfl, rfl, .inr ⟨by omega, by omega⟩, _, _, rfl, rfl, ?_⟩
      refine ⟨_, rfl, _, rfl, L, _, 0, 0, rfl, congrArg V.int em, hLy, ixN_nat (j := 0) (by rw [List.length_map, List.length_cons]; omega), _, _, _, z + r * ((i : Int) + 2), zs, rfl, same_upd (e3.trans e4) hL0, upd_same, by rw [upd_ne (fun z => hLR z.symm)]; exact hRy⟩
    · obtain ⟨v3, v4, v5, z, zs, rfl, e3, hLx, hRx⟩ := h
      exact ⟨_, rfl, q L z zs _ e3 hLx⟩
  | cons z0 zs0 =>
    refine iteT ?_
    refine ⟨_, rfl, _, rfl, 1, rfl, 63, rfl, a, _, rfl, e1.seq ha, fun R hR => ?_⟩
    rw [hrs]
    have hLR : l ≠ R := fun z => by rw [← z, upd_same] at hR; cases hR
    refine ⟨R, _, rfl, SqL.of upd_same, ?_⟩
    refine for_it (walk_enum (K := K) (xs := rs.map V.int)) (fun i σ H' => ∃ v3 v4 v5 z zs, σ = [some (.ref a), some (.int 1), some (.ref l), v3, v4, v5] ∧ Same H H' ∧ H' l = some (.lst ((z :: zs).map V.int)) ∧ H' R = some (.lst (rs.map V.int)))
      ⟨_, _, _, z0, zs0, rfl, e1.trans (same_new hR _), by rw [upd_ne hLR, upd_same], upd_same⟩ (fun i σ H' _ h => SqL.of h.choose_spec.choose_spec.choose_spec.choose_spec.choose_spec.2.2.2) (fun i x σ H2 H3 hi h y => ?_) (fun σ H2 h => ?_)
    · obtain ⟨v3, v4, v5, z, zs, rfl, e3, hLx, hRx⟩ := h
      obtain ⟨T', x1, x2, rfl, hT', rfl, hx1, hx2⟩ := y
      have hx1 : some (V.int (i : Int)) = some x1 := hx1
      have hx2 : (rs.map V.int)[i]? = some x2 := hx2
      cases hx1
      rw [List.getElem?_map] at hx2
      obtain ⟨r, hr', rfl⟩ := Option.map_eq_some_iff.mp hx2
      rw [List.length_map] at hi
      have e4 := same_new hT' (.tup [.int (i : Int), .int r])
      have hLy := e4 _ _ hLx
      have hRy := e4 _ _ hRx
      refine ⟨T', _, rfl, SqT.of upd_same, rfl, _, _, rfl, _, _, rfl, rfl, ?_⟩
      refine ⟨_, rfl, .inl ⟨_, rfl, _, rfl, _, _, rfl, rfl, (by show (0 : Int) < 1; omega), ?_⟩⟩
      have em : (i : Int) % 1 = 0 := Int.emod_one _
      refine ⟨_, rfl, _, rfl, l, _, 0, _, rfl, congrArg V.int em, SqL.of hLy, atI_nat (j := 0) rfl, _, rfl, _, rfl, _, _, rfl, rfl, _, _, rfl, rfl, .inr ⟨by omega, by omega⟩, _, _, rfl, rfl, ?_⟩
      refine ⟨_, rfl, _, rfl, l, _, 0, 0, rfl, congrArg V.int em, hLy, ixN_nat (j := 0) (by rw [List.length_map, List.length_cons]; omega), _, _, _, z + r * ((i : Int) + 2), zs, rfl, same_upd (e3.trans e4) hl0, upd_same, by rw [upd_ne (fun z => hLR z.symm)]; exact hRy⟩
    · obtain ⟨v3, v4, v5, z, zs, rfl, e3, hLx, hRx⟩ := h
      exact ⟨_, rfl, q l z zs _ e3 hLx⟩
end
end K13

set_option Elab.async false
set_option linter.all false
set_option maxRecDepth 100000
set_option maxHeartbeats 4000000
/-! The law's own walk, part 2: lists, same. -/
namespace K13
open PySem PySem.Spec PyProof.Rows L2 RZ
/-- what is new in H' -/
def nw (H H' : Hp) : Hp := fun b => match H b with | none => H' b | some _ => none
theorem nw_at {H H' : Hp} {b : Addr} (h : H b = none) : nw H H' b = H' b := by unfold nw; rw [h]
theorem nw_off {H H' : Hp} {b : Addr} {o : HO} (h : nw H H' b = some o) : H b = none ∧ H' b = some o := by
  unfold nw at h
  cases e : H b with
  | none => rw [e] at h; exact ⟨rfl, h⟩
  | some u => rw [e] at h; cases h
theorem nw_same {H H' : Hp} : Same (nw H H') H' := fun b o h => (nw_off h).2
theorem nw_mono {H H1 H2 H3 : Hp} (e : Same H H1) (k : Same H2 H3) : Same (nw H1 H2) (nw H H3) := fun b o h => by
  obtain ⟨h1, h2⟩ := nw_off h
  rw [nw_at (e.free h1)]
  exact k _ _ h2
def nx (H1 : Hp) (D : Addr) (H : Hp) : Hp := fun b => if b = D then none else nw H1 H b
theorem nx_off {H1 H : Hp} {D b : Addr} {o : HO} (h : nx H1 D H b = some o) : b ≠ D ∧ nw H1 H b = some o := by
  unfold nx at h
  by_cases e : b = D
  · rw [if_pos e] at h; cases h
  · rw [if_neg e] at h; exact ⟨e, h⟩
theorem nx_at {H1 H : Hp} {D b : Addr} (h : b ≠ D) : nx H1 D H b = nw H1 H b := by unfold nx; rw [if_neg h]
theorem lc_fresh {K : PySem.W.Frag} {J : It} {n : Nat} {G : Hp → Prop} {Y : Nat → Hp → V → Hp → Prop} (w : Walk J n G Y) {g : TG} {te : TE} {vs : List Nat} {σ : L2.St} {H1 : Hp} {D : Addr} {Qd : Hp → Prop} (hD : H1 D = none) (hG : ∀ H, Same H1 H → G H) (hn : n ≤ 100000) (f : Nat → PyData)
    (hs : ∀ i x H H', i < n → Same H1 H → Y i H x H' → ∀ (Ky : V → Hp → Prop), (∀ y H4, Same H H4 → Dp K (nw H H4) y (f i) → Ky y H4) → g x (wipe σ vs) H' fun σ2 H2 => wipe σ2 vs = wipe σ vs ∧ te σ2 H2 Ky)
    (hd : ∀ H, Same H1 H → Dp K (nw H1 H) (.ref D) (.list ((List.range n).map f)) → Qd H) :
    ∃ W : Nat → Nat → Hp → Prop, (∃ m, W 0 m (upd H1 D (.lst []))) ∧ ∀ i m H, W i m H →
      (J.stop i H ∧ Qd H) ∨ (J.go i H ∧ ∃ Nx : Hp → Prop, (∀ H', Nx H' → ∃ m', m' < m ∧ W (i + 1) m' H') ∧ ∀ x H', J.yld i H x H' → g x (wipe σ vs) H' fun σ2 H2 => wipe σ2 vs = wipe σ vs ∧ tYes σ2 H2 fun b H3 =>
        if b = true then te σ2 H3 fun y H4 => ∃ acc, H4 D = some (.lst acc) ∧ acc.length < sizeLine ∧ Nx (upd H4 D (.lst (acc ++ [y]))) else Nx H3) := by
  refine lc_it w (fun i H => i ≤ n ∧ Same H1 H ∧ ∃ xs, H D = some (.lst xs) ∧ xs.length = i ∧ DpAll K (nx H1 D H) xs ((List.range i).map f)) ⟨Nat.zero_le _, same_new hD _, [], upd_same, rfl, .nil⟩ (fun i H _ p => hG H p.2.1) (fun i x H H' hi p y => ?_) (fun H ⟨_, h1, xs, h2, _, h3⟩ => hd H h1 ?_)
  · obtain ⟨_, p1, xs, p2, p3, p4⟩ := p
    refine hs i x H H' hi p1 y _ (fun z H4 e4 hz => ⟨xs, e4 _ _ p2, Evl.sz_lt (by omega), hi, same_upd (p1.trans e4) hD, xs ++ [z], upd_same, by rw [List.length_append, p3]; rfl, ?_⟩)
    have s1 : Same (nx H1 D H) (nx H1 D (upd H4 D (.lst (xs ++ [z])))) := fun b o h => by
      obtain ⟨a1, a2⟩ := nx_off h
      obtain ⟨a3, a4⟩ := nw_off a2
      rw [nx_at a1, nw_at a3, upd_ne a1]
      exact e4 _ _ a4
    have s2 : Same (nw H H4) (nx H1 D (upd H4 D (.lst (xs ++ [z])))) := fun b o h => by
      obtain ⟨a3, a4⟩ := nw_off h
      have a1 : b ≠ D := fun z => by rw [z, p2] at a3; cases a3
      rw [nx_at a1, nw_at (p1.free a3), upd_ne a1]
      exact a4
    rw [List.range_succ, List.map_append]
    exact dpa_snoc (DpAll.same s1 p4) (Dp.same s2 hz)
  · have s : Same (nx H1 D H) (nw H1 H) := fun b o h => (nx_off h).2
    exact .lst (SqL.of (by rw [nw_at hD]; exact h2)) (DpAll.same s h3)
/-! ### lists in the place of tuples -/
mutual
def lstD : PyData → PyData
  | .list ds => .list (lstDs ds)
  | .tuple ds => .list (lstDs ds)
  | d => d
def lstDs : List PyData → List PyData
  | [] => []
  | d :: ds => lstD d :: lstDs ds
end
theorem lstDs_map : ∀ ds : List PyData, lstDs ds = ds.map lstD
  | [] => by rw [lstDs]; rfl
  | d :: ds => by rw [lstDs, lstDs_map ds]; rfl
theorem lst_net (m : Nat) (ts : Ties) : lstD (netD m ts) = netL m ts := by
  have h : lstDs (ts.map pD) = ts.map pL := by
    rw [lstDs_map, List.map_map]
    refine List.map_congr_left fun p _ => ?_
    simp [pD, pL, lstD, lstDs]
  simp [netD, netL, tsD, tsL, lstD, lstDs, h]
theorem lst_ns (l : List Nat) : lstD (nsD l) = nsL l := by
  have h : lstDs (l.map fun (k : Nat) => PyData.int (k : Int)) = l.map fun (k : Nat) => PyData.int (k : Int) := by
    rw [lstDs_map, List.map_map]
    exact List.map_congr_left fun p _ => by simp [lstD]
  simp [nsD, nsL, lstD, h]
/-- ints, truths, lists and tuples, n deep -/
def okE : Nat → PyData → Prop
  | 0, _ => False
  | _ + 1, .int _ => True
  | _ + 1, .bool _ => True
  | n + 1, .list ds => ds.length ≤ 1000 ∧ ∀ d ∈ ds, okE n d
  | n + 1, .tuple ds => ds.length ≤ 1000 ∧ ∀ d ∈ ds, okE n d
  | _ + 1, _ => False
theorem tyx_bl {K : PySem.W.Frag} {H : Hp} {b : Bool} : TyX K H (.bl b) (.type "bool") := .base (.bl b)
theorem kit_bool_int {K : PySem.W.Frag} : PySem.W.kitOne K (.type "bool") (.type "int") = some true := kit_ty (by decide +kernel)
theorem walk_zipT {K : PySem.W.Frag} {a b : Addr} {xs ys : List V} {n : Nat} (hn : n = min xs.length ys.length) : Walk (ItzT K a b) n (fun H => SqT K H a xs ∧ SqT K H b ys) (YPair (fun i => xs[i]?) (fun i => ys[i]?)) := by
  subst hn
  refine ⟨fun i _ hi q => ?_, fun _ q => ⟨xs, ys, q.1, q.2, by omega⟩, fun i H v H' _ q y => ?_⟩
  · have h1 : i < xs.length := by omega
    have h2 : i < ys.length := by omega
    exact ⟨xs, ys, xs[i], ys[i], q.1, q.2, by simp [h1], by simp [h2]⟩
  · obtain ⟨T, x, z, h1, h2, h3, h4, h5⟩ := y
    exact ⟨T, x, z, h1, h2, h3, h4 xs q.1, h5 ys q.2⟩
section
variable {P : Program} {w : World} {K : PySem.W.Frag} {mg : Str → Option Value} {base : Heap}
def spLists (K : PySem.W.Frag) (n : Nat) : Sp := fun vs H Q _ => ∃ (v : V) (d : PyData), vs = [v] ∧ Dp K H v d ∧ okD n d ∧ ∀ y H', Same H H' → Dp K (nw H H') y (lstD d) → Q y H'
theorem ok_law_lists (T : Txt mg) (D : Def K mg "_law_lists" sLwLists pLwLists) : ∀ n : Nat, Cal P w K mg base n "_law_lists" pLwLists (spLists K n)
  | 0 => cal_none D fun vs H Q E h => by
    obtain ⟨v, d, _, _, hk, _⟩ := h
    exact hk
  | n + 1 => by
    have ih := ok_law_lists T D n
    refine cal_of D scLwLists (fun vs H Q E h => ?_) (fun f cdv A outer s H vs Q E hr h => ?_)
    · obtain ⟨v, d, rfl, _⟩ := h; rfl
    obtain ⟨v, d, rfl, hd, hk, q⟩ := h
    refine ⟨_, (pss_one (ps_ret (pe_ifExp (pt_val (pe_callB call_isiT rfl T.isi b_isinstance (pa_cons (pv 0) (pa_cons (pe_tup (pa_cons (pe_bltn (v := .ty "list") rfl T.list_ b_list rfl) (pa_cons (pe_bltn (v := .ty "tuple") rfl T.tuple_ b_tuple rfl) pa_nil))) pa_nil)))) (pe_lc (own := [("_law_bit", 1)]) rfl scLwLists.nd (pi_seq (pv 0)) (blkOk_by (N := nLwLists) (sc := defScope sLwLists) (by decide +kernel)) (fun _ _ _ _ _ => pg_name (i := 1) scLwLists.nd rfl (Or.inl rfl)) (fun _ _ _ _ _ => pts_nil) (fun _ _ _ _ _ => pe_c ih hr (Nat.le_refl _) rfl (pa_cons (pv 1) pa_nil))) (pv 0)))), ?_⟩
    refine ⟨_, rfl, (by show 2 ≤ sizeLine; decide), fun p hp => ?_⟩
    have e0 := same_new hp (.tup [.ty "list", .ty "tuple"])
    cases d with
    | int i =>
      rw [dp_int hd]
      exact ⟨_, p, _, _, _, false, rfl, upd_same, cls_lt, tyx_int, kit_lt_int, false, rfl, iteF ⟨_, rfl, q _ _ e0 (by simp only [lstD]; exact .int i)⟩⟩
    | list ds =>
      obtain ⟨a, xs, rfl, hs, ha⟩ := dp_lst hd
      have hl := dpa_len ha
      refine ⟨_, p, _, _, _, true, rfl, upd_same, cls_lt, tyx_lst (e0.seq hs), kit_lt_lst, true, rfl, iteT ⟨_, rfl, a, xs, rfl, .inl ⟨e0.seq hs, fun L hL => ?_⟩⟩⟩
      refine lc_fresh (K := K) (walk_list (K := K) (xs := xs)) hL (fun H' e => e.seq (e0.seq hs)) (by have := hk.1; omega) (fun i => lstD (ds.getD i .none)) (fun i x H1 H2 hi e1 y Ky hy => ?_) (fun H1 e1 hx => ?_)
      · obtain ⟨rfl, hx⟩ := y
        obtain ⟨e, he, hxe⟩ := dpa_get ha hx
        refine ⟨rfl, _, rfl, x, e, rfl, Dp.same (e0.trans e1) hxe, hk.2 e (List.mem_of_getElem? he), fun y H3 e3 h3 => hy y H3 e3 ?_⟩
        rw [getD_of he]
        exact h3
      · rw [hl, range_getD] at hx
        refine q _ _ (e0.trans e1) ?_
        rw [lstD, lstDs_map]
        exact Dp.same (nw_mono e0 (Same.refl _)) hx
    | tuple ds =>
      obtain ⟨a, xs, rfl, hs, ha⟩ := dp_tup hd
      have hl := dpa_len ha
      refine ⟨_, p, _, _, _, true, rfl, upd_same, cls_lt, tyx_tup (seqT e0 hs), kit_lt_tup, true, rfl, iteT ⟨_, rfl, a, xs, rfl, .inr ⟨seqT e0 hs, fun L hL => ?_⟩⟩⟩
      refine lc_fresh (K := K) (walk_tup (K := K) (xs := xs)) hL (fun H' e => seqT e (seqT e0 hs)) (by have := hk.1; omega) (fun i => lstD (ds.getD i .none)) (fun i x H1 H2 hi e1 y Ky hy => ?_) (fun H1 e1 hx => ?_)
      · obtain ⟨rfl, hx⟩ := y
        obtain ⟨e, he, hxe⟩ := dpa_get ha hx
        refine ⟨rfl, _, rfl, x, e, rfl, Dp.same (e0.trans e1) hxe, hk.2 e (List.mem_of_getElem? he), fun y H3 e3 h3 => hy y H3 e3 ?_⟩
        rw [getD_of he]
        exact h3
      · rw [hl, range_getD] at hx
        refine q _ _ (e0.trans e1) ?_
        rw [lstD, lstDs_map]
        exact Dp.same (nw_mono e0 (Same.refl _)) hx
    | none => exact hk.elim
    | bool b => exact hk.elim
    | str x => exact hk.elim
    | dict kvs => exact hk.elim
def spSame (K : PySem.W.Frag) (n : Nat) : Sp := fun vs H Q _ => ∃ (v u : V) (d : PyData), vs = [v, u] ∧ Dp K H v d ∧ Dp K H u d ∧ okE n d ∧ ∀ H', Same H H' → Q (.bl true) H'
theorem ok_law_same (T : Txt mg) (D : Def K mg "_law_same" sLwSame pLwSame) : ∀ n : Nat, Cal P w K mg base n "_law_same" pLwSame (spSame K n)
  | 0 => cal_none D fun vs H Q E h => by
    obtain ⟨v, u, d, _, _, _, hk, _⟩ := h
    exact hk
  | n + 1 => by
    have ih := ok_law_same T D n
    refine cal_of D scLwSame (fun vs H Q E h => ?_) (fun f cdv A outer s H vs Q E hr h => ?_)
    · obtain ⟨v, u, d, rfl, _⟩ := h; rfl
    obtain ⟨v, u, d, rfl, hd, hd2, hk, q⟩ := h
    refine ⟨_, (pss_cons (ps_if (pt_val (pe_callB call_isiT rfl T.isi b_isinstance (pa_cons (pv 1) (pa_cons (pe_tup (pa_cons (pe_bltn (v := .ty "list") rfl T.list_ b_list rfl) (pa_cons (pe_bltn (v := .ty "tuple") rfl T.tuple_ b_tuple rfl) pa_nil))) pa_nil)))) (pss_cons (ps_if (PW.pt (pw_or (pt_cmpR op_ne (pe_callB call_isi rfl T.isi b_isinstance (pa_cons (pv 0) (pa_cons (pe_bltn (v := .ty "list") rfl T.list_ b_list rfl) pa_nil))) (pe_callB call_isi rfl T.isi b_isinstance (pa_cons (pv 1) (pa_cons (pe_bltn (v := .ty "list") rfl T.list_ b_list rfl) pa_nil))) (nomark _)) (pw_or1 (pt_cmpR op_ne (pe_callB call_isi rfl T.isi b_isinstance (pa_cons (pv 0) (pa_cons (pe_bltn (v := .ty "tuple") rfl T.tuple_ b_tuple rfl) pa_nil))) (pe_callB call_isi rfl T.isi b_isinstance (pa_cons (pv 1) (pa_cons (pe_bltn (v := .ty "tuple") rfl T.tuple_ b_tuple rfl) pa_nil))) (nomark _))))) (pss_one (ps_ret (pe_bl))) pss_nil)
      (pss_one (ps_ret (pe_and (pe_cmpR op_eq (pe_callB call_len_seq rfl T.len b_len (pa_cons (pv 0) pa_nil)) (pe_callB call_len_seq rfl T.len b_len (pa_cons (pv 1) pa_nil)) (nomark _)) (pe_one (pe_callB (cr_all rfl) rfl T.all b_all (pa_cons (pe_lc (own := [("_law_mine", 2), ("_law_its", 3)]) rfl scLwSame.nd (pi_zipA (by rfl) T.zip (pa_cons (pv 0) (pa_cons (pv 1) pa_nil))) (blkOk_by (N := nLwSame) (sc := defScope sLwSame) (by decide +kernel)) (fun _ _ _ _ _ => pg_tupK (K := K) (n := 2) rfl rfl (pgs_cons (pg_name (i := 2) scLwSame.nd rfl (Or.inl rfl)) (pgs_cons (pg_name (i := 3) scLwSame.nd rfl (Or.inl rfl)) pgs_nil))) (fun _ _ _ _ _ => pts_nil) (fun _ _ _ _ _ => pe_c ih hr (Nat.le_refl _) rfl (pa_cons (pv 2) (pa_cons (pv 3) pa_nil)))) pa_nil))))))) pss_nil)
      (pss_cons (ps_if (PW.pt (pw_or (pt_cmp (pc_isN (pv 1))) (pw_or1 (pt_val (pe_callB call_isiT rfl T.isi b_isinstance (pa_cons (pv 1) (pa_cons (pe_tup (pa_cons (pe_bltn (v := .ty "bool") rfl T.bool_ b_bool rfl) (pa_cons (pe_bltn (v := .ty "str") rfl T.str_ b_str rfl) pa_nil))) pa_nil))))))) (pss_one (ps_ret (pe_and (pe_cmpR (op_eqD hr.units) (pv 0) (pv 1) (nomark _)) (pe_and (pe_cmpR op_eq (pe_callB call_isi rfl T.isi b_isinstance (pa_cons (pv 0) (pa_cons (pe_bltn (v := .ty "bool") rfl T.bool_ b_bool rfl) pa_nil))) (pe_callB call_isi rfl T.isi b_isinstance (pa_cons (pv 1) (pa_cons (pe_bltn (v := .ty "bool") rfl T.bool_ b_bool rfl) pa_nil))) (nomark _)) (pe_one (pe_cmpR op_eq (pe_cmp (pc_isN (pv 0)) rfl) (pe_cmp (pc_isN (pv 1)) rfl) (nomark _))))))) pss_nil)
      (pss_one (ps_ret (pe_and (pe_callB call_isi rfl T.isi b_isinstance (pa_cons (pv 0) (pa_cons (pe_bltn (v := .ty "int") rfl T.int_ b_int rfl) pa_nil))) (pe_and (pe_not (pe_callB call_isi rfl T.isi b_isinstance (pa_cons (pv 0) (pa_cons (pe_bltn (v := .ty "bool") rfl T.bool_ b_bool rfl) pa_nil)))) (pe_one (pe_cmpR (op_eqD hr.units) (pv 0) (pv 1) (nomark _))))))))), ?_⟩
    refine ⟨_, rfl, (by show 2 ≤ sizeLine; decide), fun p hp => ?_⟩
    have e0 := same_new hp (.tup [.ty "list", .ty "tuple"])
    cases d with
    | int i =>
      obtain rfl := dp_int hd
      obtain rfl := dp_int hd2
      refine ⟨_, p, _, _, _, false, rfl, upd_same, cls_lt, tyx_int, kit_lt_int, false, rfl, iteF ?_⟩
      refine ⟨_, rfl, false, rfl, iteF ⟨_, rfl, (by show 2 ≤ sizeLine; decide), fun p2 hp2 => ?_⟩⟩
      have e1 := e0.trans (same_new hp2 (.tup [.ty "bool", .ty "str"]))
      refine ⟨_, p2, _, _, _, false, rfl, upd_same, cls_bs, tyx_int, kit_bs_int, false, rfl, iteF ?_⟩
      refine ⟨_, rfl, _, _, _, _, _, rfl, .ty _, tyx_int, kit_int_int, true, rfl, iteT ?_⟩
      refine ⟨_, rfl, _, _, _, _, _, rfl, .ty _, tyx_int, kit_int_bool, false, rfl, true, rfl, iteT ?_⟩
      refine ⟨_, rfl, _, rfl, .int i, .int i, .int i, .int i, rfl, rfl, ?_⟩
      show Q (.bl (PyData.eqv (.int i) (.int i))) _
      rw [show PyData.eqv (.int i) (.int i) = true from by simp [PyData.eqv]]
      exact q _ e1
    | bool b =>
      obtain rfl := dp_bool hd
      obtain rfl := dp_bool hd2
      refine ⟨_, p, _, _, _, false, rfl, upd_same, cls_lt, tyx_bl, kit_lt_bool, false, rfl, iteF ?_⟩
      refine ⟨_, rfl, false, rfl, iteF ⟨_, rfl, (by show 2 ≤ sizeLine; decide), fun p2 hp2 => ?_⟩⟩
      have e1 := e0.trans (same_new hp2 (.tup [.ty "bool", .ty "str"]))
      refine ⟨_, p2, _, _, _, true, rfl, upd_same, cls_bs, tyx_bl, kit_bs_bool, true, rfl, iteT ?_⟩
      refine ⟨_, rfl, _, rfl, .bool b, .bool b, .bl b, .bl b, rfl, rfl, true, ?_, iteT ?_⟩
      · exact congrArg V.bl (by simp [PyData.eqv])
      refine ⟨_, rfl, _, _, _, _, _, rfl, .ty _, tyx_bl, kit_bool_bool, _, rfl, _, _, _, _, _, rfl, .ty _, tyx_bl, kit_bool_bool, rfl, true, rfl, iteT ?_⟩
      refine ⟨_, rfl, _, rfl, rfl, ?_⟩
      exact q _ e1
    | list ds =>
      obtain ⟨a, xs, rfl, hs, ha⟩ := dp_lst hd
      obtain ⟨b, ys, rfl, hs2, hb⟩ := dp_lst hd2
      have hl := dpa_len ha
      have hl2 := dpa_len hb
      have hlen := hk.1
      refine ⟨_, p, _, _, _, true, rfl, upd_same, cls_lt, tyx_lst (e0.seq hs2), kit_lt_lst, true, rfl, iteT ?_⟩
      refine ⟨_, rfl, _, _, _, _, _, rfl, .ty _, tyx_lst (e0.seq hs), kit_lst_lst, _, rfl, _, _, _, _, _, rfl, .ty _, tyx_lst (e0.seq hs2), kit_lst_lst, rfl, false, by simp, iteF ?_⟩
      refine ⟨_, rfl, _, _, _, _, _, rfl, .ty _, tyx_lst (e0.seq hs), kit_lst_tup, _, rfl, _, _, _, _, _, rfl, .ty _, tyx_lst (e0.seq hs2), kit_lst_tup, rfl, false, by simp, iteF ?_⟩
      refine ⟨_, rfl, a, xs, rfl, .inl (e0.seq hs), _, rfl, b, ys, rfl, .inl (e0.seq hs2), rfl, true, congrArg V.bl (decide_eq_true (by rw [hl, hl2])), iteT ?_⟩
      refine ⟨_, rfl, _, rfl, a, b, xs, ys, rfl, .inl ⟨e0.seq hs, e0.seq hs2, fun L hL => ?_⟩⟩
      refine lc_map (K := K) (walk_zip (K := K) (a := a) (b := b) (xs := xs) (ys := ys) (n := ds.length) (by omega)) hL (fun H' e => ⟨e.seq (e0.seq hs), e.seq (e0.seq hs2)⟩) (by omega) (fun _ => .bool true) (fun _ _ => rfl) (fun i x H1 H2 hi e1 y Ky hy => ?_) (fun H1 zs e1 hL1 hx => all_ok hL1 hx (q _ (e0.trans e1)))
      obtain ⟨T', x1, x2, rfl, hT', rfl, hx1, hx2⟩ := y
      have hx1 : xs[i]? = some x1 := hx1
      have hx2 : ys[i]? = some x2 := hx2
      have e3 := same_new hT' (.tup [x1, x2])
      obtain ⟨d1, h1, g1⟩ := dpa_get ha hx1
      obtain ⟨d2, h2, g2⟩ := dpa_get hb hx2
      rw [h1] at h2
      cases h2
      have e4 := (e0.trans e1).trans e3
      refine ⟨T', _, rfl, SqT.of upd_same, rfl, _, _, rfl, _, _, rfl, rfl, rfl, ?_⟩
      exact ⟨_, rfl, _, rfl, x1, x2, d1, rfl, Dp.same e4 g1, Dp.same e4 g2, hk.2 d1 (List.mem_of_getElem? h1), fun H5 e5 => hy _ _ (e3.trans e5) (.bl true)⟩
    | tuple ds =>
      obtain ⟨a, xs, rfl, hs, ha⟩ := dp_tup hd
      obtain ⟨b, ys, rfl, hs2, hb⟩ := dp_tup hd2
      have hl := dpa_len ha
      have hl2 := dpa_len hb
      have hlen := hk.1
      refine ⟨_, p, _, _, _, true, rfl, upd_same, cls_lt, tyx_tup (seqT e0 hs2), kit_lt_tup, true, rfl, iteT ?_⟩
      refine ⟨_, rfl, _, _, _, _, _, rfl, .ty _, tyx_tup (seqT e0 hs), kit_tup_lst, _, rfl, _, _, _, _, _, rfl, .ty _, tyx_tup (seqT e0 hs2), kit_tup_lst, rfl, false, by simp, iteF ?_⟩
      refine ⟨_, rfl, _, _, _, _, _, rfl, .ty _, tyx_tup (seqT e0 hs), kit_tup_tup, _, rfl, _, _, _, _, _, rfl, .ty _, tyx_tup (seqT e0 hs2), kit_tup_tup, rfl, false, by simp, iteF ?_⟩
      refine ⟨_, rfl, a, xs, rfl, .inr (seqT e0 hs), _, rfl, b, ys, rfl, .inr (seqT e0 hs2), rfl, true, congrArg V.bl (decide_eq_true (by rw [hl, hl2])), iteT ?_⟩
      refine ⟨_, rfl, _, rfl, a, b, xs, ys, rfl, .inr ⟨seqT e0 hs, seqT e0 hs2, fun L hL => ?_⟩⟩
      refine lc_map (K := K) (walk_zipT (K := K) (a := a) (b := b) (xs := xs) (ys := ys) (n := ds.length) (by omega)) hL (fun H' e => ⟨seqT e (seqT e0 hs), seqT e (seqT e0 hs2)⟩) (by omega) (fun _ => .bool true) (fun _ _ => rfl) (fun i x H1 H2 hi e1 y Ky hy => ?_) (fun H1 zs e1 hL1 hx => all_ok hL1 hx (q _ (e0.trans e1)))
      obtain ⟨T', x1, x2, rfl, hT', rfl, hx1, hx2⟩ := y
      have hx1 : xs[i]? = some x1 := hx1
      have hx2 : ys[i]? = some x2 := hx2
      have e3 := same_new hT' (.tup [x1, x2])
      obtain ⟨d1, h1, g1⟩ := dpa_get ha hx1
      obtain ⟨d2, h2, g2⟩ := dpa_get hb hx2
      rw [h1] at h2
      cases h2
      have e4 := (e0.trans e1).trans e3
      refine ⟨T', _, rfl, SqT.of upd_same, rfl, _, _, rfl, _, _, rfl, rfl, rfl, ?_⟩
      exact ⟨_, rfl, _, rfl, x1, x2, d1, rfl, Dp.same e4 g1, Dp.same e4 g2, hk.2 d1 (List.mem_of_getElem? h1), fun H5 e5 => hy _ _ (e3.trans e5) (.bl true)⟩
    | none => exact hk.elim
    | str x => exact hk.elim
    | dict kvs => exact hk.elim
end
end K13

set_option Elab.async false
set_option linter.all false
set_option maxRecDepth 100000
set_option maxHeartbeats 4000000
/-! The law's own walk, part 3: orders made. -/
namespace K13
open PySem PySem.Spec PyProof.Rows L2 RZ
theorem rev_get {m i : Nat} (h : i < m) : (List.range m).reverse[i]? = some (m - 1 - i) := by
  rw [List.getElem?_reverse (by rw [List.length_range]; exact h), List.length_range, List.getElem?_range (by omega)]
theorem flow_next (m : Nat) (ps : Ties) {i : Nat} (h : i < m) : (((List.range m).reverse.take (i + 1)).flatMap fun low => ps.filter fun p => p.1 == low) = (((List.range m).reverse.take i).flatMap fun low => ps.filter fun p => p.1 == low) ++ ps.filter fun p => p.1 == m - 1 - i := by
  rw [List.take_succ, rev_get h, List.flatMap_append]
  simp
theorem filt_next {ps : Ties} {j : Nat} {p : Nat × Nat} (h : ps[j]? = some p) (low : Nat) : (ps.take (j + 1)).filter (fun p => p.1 == low) = (ps.take j).filter (fun p => p.1 == low) ++ (if p.1 = low then [p] else []) := by
  rw [List.take_succ, h, List.filter_append]
  congr 1
  by_cases e : p.1 = low <;> simp [e]
theorem int_eq_dec (a b : Nat) : decide (V.int (a : Int) = V.int (b : Int)) = decide (a = b) := decide_eq_decide.mpr ⟨fun z => by have := V.int.inj z; omega, fun z => by rw [z]⟩
theorem dpa_list_dp {K : PySem.W.Frag} {H : Hp} {L : Addr} {xs : List V} {ds : List PyData} (h : H L = some (.lst xs)) (hx : DpAll K H xs ds) : Dp K H (.ref L) (.list ds) := .lst (SqL.of h) hx
theorem okD_ints (l : List Nat) (h : l.length ≤ 1000) : okD 2 (.list (l.map fun (k : Nat) => PyData.int (k : Int))) := ok_nsL h
theorem Off.set {S : Addr} {H H' : Hp} (h : Off S H H') {o : HO} : Off S H (L2.upd H' S o) := h.trans .upd
theorem Off.same {S : Addr} {H H' : Hp} (h : Off S H H') {H0 : Hp} (e : Same H0 H) (hS : H0 S = none) : Same H0 H' := fun b o q => h b o (fun z => by rw [z, hS] at q; cases q) (e b o q)
theorem Off.keepL {S : Addr} {H H' : Hp} {ys : List V} (h : Off S H H') (hS : H S = some (.lst ys)) : KeepT H H' := .off h (not_tup_lst hS)
theorem walk_rangeE {lo : Int} {c n k : Nat} (h : lo = (k : Int)) (h2 : c = n) : Walk (Itr lo c) n (fun _ => True) (YFn fun i => .int ((k + i : Nat) : Int)) := by
  subst h; subst h2; exact walk_rangeN
theorem overs_data (m : Nat) (A : List Nat) (i : Nat) : ((List.range (m - (i + 1))).filterMap fun j => if (A.getD i 0).testBit (i + 1 + j) = true then some (PyData.int ((i + 1 + j : Nat) : Int)) else none) = (overs m A i).map fun (k : Nat) => PyData.int (k : Int) := by
  rw [fm_if (fun j => (A.getD i 0).testBit (i + 1 + j)) (fun j => PyData.int ((i + 1 + j : Nat) : Int))]
  unfold overs
  rw [List.range'_eq_map_range, List.filter_map, List.map_map]; rfl
theorem overs_len (m : Nat) (A : List Nat) (i : Nat) : (overs m A i).length ≤ m := by
  have h := List.length_filter_le (fun own => (A.getD i 0).testBit own) (List.range' (i + 1) (m - (i + 1)))
  rw [List.length_range'] at h
  unfold overs
  omega
theorem netAt_len (m : Nat) (A : List Nat) (i : Nat) : (netAt m A i).length ≤ m := by
  unfold netAt
  rw [List.length_map]
  exact Nat.le_trans (List.length_filter_le _ _) (overs_len m A i)
theorem nets_len (m : Nat) (A : List Nat) : ∀ i, ((List.range i).flatMap (netAt m A)).length ≤ i * m
  | 0 => by simp
  | i + 1 => by
    have h1 := nets_len m A i
    have h2 := netAt_len m A i
    rw [List.range_succ, List.flatMap_append, List.length_append, Nat.succ_mul]
    simp only [List.flatMap_cons, List.flatMap_nil, List.append_nil]
    omega
theorem eqv_nil (l : List Nat) : PyData.eqv (.list (l.map fun (k : Nat) => PyData.int (k : Int))) (.list []) = l.isEmpty := by
  rw [PyData.eqv]
  cases l with
  | nil => simp [PyData.eqvAll]
  | cons a l => simp [PyData.eqvAll]
section
variable {P : Program} {w : World} {K : PySem.W.Frag} {mg : Str → Option Value} {base : Heap}
def spNet (K : PySem.W.Frag) : Sp := fun vs H Q _ => ∃ (l : Addr) (xs : List V) (m : Nat) (ps : Ties), vs = [.int (m : Int), .ref l] ∧ SqL K H l xs ∧ DpAll K H xs (ps.map pD) ∧ m ≤ 7 ∧ ps.length ≤ 1000 ∧ (∀ p ∈ ps, p.1 < p.2 ∧ p.2 < m) ∧
  ∀ v H', Same H H' → Dp K H' v (netD m (netOf m ps)) → Q v H'
theorem ok_law_net (T : Txt mg) (D : Def K mg "_law_net" sLwNet pLwNet) : Cal P w K mg base 1 "_law_net" pLwNet (spNet K) := by
  refine cal_of D scLwNet (fun vs H Q E h => ?_) (fun f cdv A outer s H vs Q E hr h => ?_)
  · obtain ⟨l, xs, m, ps, rfl, _⟩ := h; rfl
  obtain ⟨l, xs, m, ps, rfl, hl, hxs, hm, hpl, hrg, q⟩ := h
  have hxl : xs.length = ps.length := by rw [dpa_len hxs, List.length_map]
  refine ⟨_, (pss_cons (ps_set (i := 2) scLwNet.nd rfl (Or.inr rfl) (pe_lc (own := [("_law_k", 3)]) rfl scLwNet.nd (pi_range1 (by rfl) T.range (pa_cons (pv 0) pa_nil)) (blkOk_by (N := nLwNet) (sc := defScope sLwNet) (by decide +kernel)) (fun _ _ _ _ _ => pg_name (i := 3) scLwNet.nd rfl (Or.inl rfl)) (fun _ _ _ _ _ => pts_nil) (fun _ _ _ _ _ => pe_op op_shlP (pe_int) (pv 3))))
      (pss_cons (ps_for PassesOwn.never rfl (pi_range3 (by rfl) T.range (pa_cons (pe_op op_sub (pv 0) (pe_int)) (pa_cons (pe_un un_neg (pe_int)) (pa_cons (pe_un un_neg (pe_int)) pa_nil)))) (pg_name (i := 4) scLwNet.nd rfl (Or.inr rfl)) (pss_one (ps_for PassesOwn.never rfl (pi_list (pv 1)) (pg_name (i := 5) scLwNet.nd rfl (Or.inl rfl)) (pss_one (ps_if (pt_cmpR op_eq (pe_ix ix_tup (pv 5) (pe_int) (fun _ _ => rfl)) (pv 4) (nomark _)) (pss_one (ps_asg (pe_op op_orN (pe_ix ix_list (pv 2) (pv 4) (fun _ _ => rfl)) (pe_ix ix_list (pv 2) (pe_ix ix_tup (pv 5) (pe_int) (fun _ _ => rfl)) (fun _ _ => rfl))) (pg_sub (pv 2) (pv 4) set_list))) pss_nil)))))
      (pss_cons (ps_set (i := 6) scLwNet.nd rfl (Or.inl rfl) (pe_lst pa_nil))
      (pss_cons (ps_for PassesOwn.never rfl (pi_range1 (by rfl) T.range (pa_cons (pv 0) pa_nil)) (pg_name (i := 4) scLwNet.nd rfl (Or.inr rfl)) (pss_cons (ps_setLc (i := 7) (own := [("_law_own", 8)]) rfl scLwNet.nd rfl rfl (sw_true rfl rfl rfl (by decide +kernel)) (pi_range2 (by rfl) T.range (pa_cons (pe_op op_add (pv 4) (pe_int)) (pa_cons (pv 0) pa_nil))) (blkOk_by (N := nLwNet) (sc := defScope sLwNet) (by decide +kernel)) (fun _ _ _ _ _ => pg_name (i := 8) scLwNet.nd rfl (Or.inl rfl)) (fun _ _ _ _ _ => pts_one (pt_cmpR op_eq (pe_op op_andN (pe_op op_shrM (pe_ix (r := rIxL K) ix_list (pv 2) (pv 4) (fun _ _ => rfl)) (pv 8)) (pe_int)) (pe_int) (nomark _))) (fun _ _ _ _ _ => pv 8))
      (pss_one (ps_for PassesOwn.never rfl (pi_list (pv 7)) (pg_name (i := 8) scLwNet.nd rfl (Or.inr rfl)) (pss_one (ps_if (pt_cmpR (op_eqD hr.units) (pe_lc (own := [("_law_its", 9)]) rfl scLwNet.nd (pi_list (pv 7)) (blkOk_by (N := nLwNet) (sc := defScope sLwNet) (by decide +kernel)) (fun _ _ _ _ _ => pg_name (i := 9) scLwNet.nd rfl (Or.inl rfl)) (fun _ _ _ _ _ => pts_one (PW.pt (pw_and (pt_cmpR op_ne (pv 9) (pv 8) (nomark _)) (pw_and1 (pt_cmpR op_eq (pe_op op_andN (pe_op op_shrM (pe_ix (r := rIxL K) ix_list (pv 2) (pv 9) (fun _ _ => rfl)) (pv 8)) (pe_int)) (pe_int) (nomark _)))))) (fun _ _ _ _ _ => pv 9)) (pe_lst pa_nil) (nomark _)) (pss_one (ps_expr (pe_bm PySem.F.plainAttrs_list PySem.F.slot_list_append PySem.F.type_list_append mt_append (pv 6) (pa_cons (pe_tup (pa_cons (pv 4) (pa_cons (pv 8) pa_nil))) pa_nil)))) pss_nil))))))
      (pss_one (ps_ret (pe_tup (pa_cons (pv 0) (pa_cons (pe_callTy call_tuple_of rfl T.tuple_ b_tuple (pa_cons (pv 6) pa_nil)) pa_nil))))))))), ?_⟩
  refine ⟨_, rfl, (m : Int), rfl, by omega, by omega, fun L hL => ?_⟩
  rw [Int.toNat_natCast]
  refine lc_map (K := K) (walk_range0 (n := m)) hL (fun _ _ => True.intro) (by omega) (fun j => .int ((2 ^ j : Nat) : Int)) (fun _ _ => rfl) (fun i x H1 H2 hi e1 y Ky hy => ?_) (fun H1 ys e1 hL1 hx => ?_)
  · obtain ⟨rfl, rfl⟩ := y
    exact ⟨rfl, _, rfl, i, rfl, rfl, by omega, hy _ _ (Same.refl _) (.int _)⟩
  have hx' : DpAll K H1 ys ((ups0 m).map fun (k : Nat) => PyData.int (k : Int)) := by
    unfold ups0
    rw [List.map_map]
    exact hx
  rw [dpa_ns hx'] at hL1
  refine ⟨_, rfl, _, _, rfl, rfl, _, rfl, _, rfl, _, _, _, _, rfl, RgC.neg (by omega) (by omega) (by omega) (by omega), ?_⟩
  have hlen : (m : Int) - 1 - -1 = (m : Int) := by omega
  rw [hlen, Int.toNat_natCast]
  refine for_it (walk_down (n := m) rfl) (fun i σ H' => ∃ v3 v4 v5, σ = [some (.int (m : Int)), some (.ref l), some (.ref L), v3, v4, v5, none, none, none, none] ∧ Same H H' ∧ H' L = some (.lst (Vn ((((List.range m).reverse.take i).flatMap fun low => ps.filter fun p => p.1 == low).foldl upd1 (ups0 m)))))
    ⟨none, none, none, rfl, e1, hL1⟩ (fun _ _ _ _ _ => True.intro) (fun i x σ H2 H3 hi h y => ?_) (fun σ H2 h => ?_)
  · obtain ⟨v3, v4, v5, rfl, e2, hLx⟩ := h
    obtain ⟨rfl, rfl⟩ := y
    generalize hf : (((List.range m).reverse.take i).flatMap fun low => ps.filter fun p => p.1 == low).foldl upd1 (ups0 m) = fl at hLx
    have hfl : fl.length = m := by rw [← hf, fold_length, ups0_length]
    have hlow : m - 1 - i < m := by omega
    have hnext : (((List.range m).reverse.take (i + 1)).flatMap fun low => ps.filter fun p => p.1 == low).foldl upd1 (ups0 m) = (ps.filter fun p => p.1 == m - 1 - i).foldl upd1 fl := by rw [flow_next m ps hi, List.foldl_append, hf]
    generalize m - 1 - i = low at hlow hnext
    refine ⟨_, rfl, l, rfl, ⟨_, e2.seq hl⟩, ?_⟩
    refine for_it (walk_list (K := K) (xs := xs)) (fun j σ H' => ∃ v5, σ = [some (.int (m : Int)), some (.ref l), some (.ref L), v3, some (.int (low : Int)), v5, none, none, none, none] ∧ Same H H' ∧ H' L = some (.lst (Vn (((ps.take j).filter fun p => p.1 == low).foldl upd1 fl))))
      ⟨_, rfl, e2, hLx⟩ (fun j σ H' _ h => h.choose_spec.2.1.seq hl) (fun j x σ H4 H5 hj h y => ?_) (fun σ H4 h => ?_)
    · obtain ⟨v5, rfl, e3, hLy⟩ := h
      obtain ⟨rfl, hx⟩ := y
      obtain ⟨d, hdp, hxd⟩ := dpa_get hxs hx
      rw [List.getElem?_map] at hdp
      obtain ⟨p, hp, rfl⟩ := Option.map_eq_some_iff.mp hdp
      obtain ⟨t, rfl, ht⟩ := dp_pair (Dp.same e3 hxd)
      have hpr := hrg p (List.mem_of_getElem? hp)
      have hgl : (((ps.take j).filter fun p => p.1 == low).foldl upd1 fl).length = m := by rw [fold_length, hfl]
      refine ⟨_, rfl, t, _, _, _, rfl, rfl, ht, atI_nat (j := 0) rfl, _, rfl, rfl, decide (p.1 = low), congrArg V.bl (int_eq_dec _ _), ?_⟩
      have hn := filt_next hp low
      by_cases he : p.1 = low
      · rw [decide_eq_true he]
        refine iteT ?_
        subst he
        refine ⟨_, rfl, _, rfl, L, _, _, _, rfl, rfl, SqL.of hLy, atI_nat (vn_get (by omega)), _, rfl, _, rfl, t, _, _, _, rfl, rfl, ht, atI_nat (j := 1) rfl, L, _, _, _, rfl, rfl, SqL.of hLy, atI_nat (vn_get (by omega)), _, _, rfl, rfl, ?_⟩
        refine ⟨_, rfl, _, rfl, L, _, _, p.1, rfl, rfl, hLy, ixN_nat (by rw [List.length_map]; omega), _, rfl, same_upd e3 hL, ?_⟩
        rw [upd_same, vn_set, hn, if_pos rfl, List.foldl_append]; rfl
      · rw [decide_eq_false he]
        refine iteF ⟨_, rfl, e3, ?_⟩
        rw [hn, if_neg he, List.append_nil]
        exact hLy
    · obtain ⟨v5, rfl, e3, hLy⟩ := h
      rw [hxl, List.take_length] at hLy
      refine ⟨_, _, _, rfl, e3, ?_⟩
      rw [hnext]
      exact hLy
  obtain ⟨v3, v4, v5, rfl, e2, hLx⟩ := h
  have hfull : (List.range m).reverse.take m = (List.range m).reverse := List.take_of_length_le (by rw [List.length_reverse, List.length_range]; exact Nat.le_refl _)
  rw [hfull] at hLx
  have hLa : H2 L = some (.lst (Vn (aboves m ps))) := hLx
  have hal : (aboves m ps).length = m := closeBy_length m _
  clear hLx
  generalize hA : aboves m ps = AA at hLa hal
  have hnet : netOf m ps = (List.range m).flatMap (netAt m AA) := by unfold netOf netTies; rw [hA]
  rw [hnet] at q
  clear hnet
  refine ⟨(by show 0 ≤ sizeLine; decide), fun S hS => ?_⟩
  have hSL : L ≠ S := fun z => by rw [z, hS] at hLa; cases hLa
  have hS0 : H S = none := e2.free hS
  refine ⟨_, rfl, (m : Int), rfl, by omega, by omega, ?_⟩
  rw [Int.toNat_natCast]
  -- the lists that grow
  refine for_it (walk_range0 (n := m)) (fun i σ H' => ∃ v3 v4 v5 v7 v8 v9 ys, σ = [some (.int (m : Int)), some (.ref l), some (.ref L), v3, v4, v5, some (.ref S), v7, v8, v9] ∧ Same H2 H' ∧ H' S = some (.lst ys) ∧ DpAll K H' ys (((List.range i).flatMap (netAt m AA)).map pD))
    ⟨_, _, _, _, _, _, [], rfl, same_new hS _, upd_same, .nil⟩ (fun _ _ _ _ _ => True.intro) (fun i x σ H3 H4 hi h y => ?_) (fun σ H3 h => ?_)
  · obtain ⟨v3, v4, v5, v7, v8, v9, ys, rfl, e3, hSx, hys⟩ := h
    obtain ⟨rfl, rfl⟩ := y
    have hL3 := e3 _ _ hLa
    refine ⟨_, rfl, _, _, rfl, rfl, _, rfl, _, _, rfl, ⟨by omega, by omega, by omega, by omega⟩, fun O hO => ?_⟩
    refine lc_data (K := K) (walk_rangeE (k := i + 1) (n := m - (i + 1)) (by omega) (by omega)) hO (fun _ _ => True.intro) (by omega) (fun j => if (AA.getD i 0).testBit (i + 1 + j) = true then some (.int ((i + 1 + j : Nat) : Int)) else none) (fun j d _ e => by split at e <;> cases e; rfl) (fun j x H5 H6 hj e4 y Ky Kn hy hn => ?_) (fun H5 zs e4 hO5 hzs => ?_)
    · obtain ⟨rfl, rfl⟩ := y
      refine ⟨rfl, _, rfl, _, rfl, L, _, _, _, rfl, rfl, SqL.of (e4 _ _ hL3), atI_nat (vn_get (i := i) (by omega)), _, rfl, AA.getD i 0, i + 1 + j, rfl, rfl, AA.getD i 0 / 2 ^ (i + 1 + j), 1, rfl, rfl, ?_⟩
      rw [shr_odd]
      refine one_bit ?_
      cases hbi : (AA.getD i 0).testBit (i + 1 + j) with
      | true => exact iteT ⟨_, rfl, hy _ (by rw [if_pos hbi]) _ _ (Same.refl _) (.int _)⟩
      | false => exact iteF (hn (by rw [hbi]; rfl) _ (Same.refl _))
    rw [overs_data] at hzs
    rw [dpa_ns hzs] at hO5
    have hov := overs_len m AA i
    have hovm : ∀ x ∈ overs m AA i, x < m := fun x hx => (mem_overs.mp hx).2.1
    have hOS : O ≠ S := fun z => by rw [z, hSx] at hO; cases hO
    have hS5 := e4 _ _ hSx
    have hL5 := e4 _ _ hL3
    have hnl := nets_len m AA i
    have him : i * m ≤ 49 := Nat.le_trans (Nat.mul_le_mul (by omega : i ≤ 7) hm) (by decide)
    refine ⟨_, rfl, O, rfl, ⟨_, SqL.of hO5⟩, ?_⟩
    refine for_it (walk_list (K := K) (xs := Vn (overs m AA i))) (fun j σ H' => ∃ v8 v9 ys, σ = [some (.int (m : Int)), some (.ref l), some (.ref L), v3, some (.int (i : Int)), v5, some (.ref S), some (.ref O), v8, v9] ∧ Off S H5 H' ∧ H' S = some (.lst ys) ∧ DpAll K H' ys ((((List.range i).flatMap (netAt m AA)) ++ (((overs m AA i).take j).filter (keeps m AA i)).map fun own => (i, own)).map pD))
      ⟨_, _, ys, rfl, Off.refl _ _, hS5, by rw [List.take_zero]; simpa using DpAll.same e4 hys⟩ (fun j σ H' _ h => SqL.of (h.choose_spec.choose_spec.choose_spec.2.1 _ _ hOS hO5)) (fun j x σ H6 H7 hj h y => ?_) (fun σ H6 h => ?_)
    · obtain ⟨v8, v9, ys, rfl, e5, hSy, hys⟩ := h
      obtain ⟨rfl, hx⟩ := y
      rw [List.getElem?_map] at hx
      obtain ⟨o, ho, rfl⟩ := Option.map_eq_some_iff.mp hx
      have hom := hovm o (List.mem_of_getElem? ho)
      have hO6 := e5 _ _ hOS hO5
      have hL6 := e5 _ _ hSL hL5
      refine ⟨_, rfl, O, rfl, ⟨_, SqL.of hO6⟩, fun C hC => ?_⟩
      refine lc_data (K := K) (walk_list (K := K) (xs := Vn (overs m AA i))) hC (fun H' e => SqL.of (e _ _ hO6)) (by rw [List.length_map]; omega) (fun jj => if ((overs m AA i).getD jj 0 != o && (AA.getD ((overs m AA i).getD jj 0) 0).testBit o) = true then some (.int ((overs m AA i).getD jj 0 : Nat)) else none) (fun j d _ e => by split at e <;> cases e; rfl) (fun jj x H8 H9 hjj e6 y Ky Kn hy hn => ?_) (fun H8 cs e6 hC8 hcs => ?_)
      · obtain ⟨rfl, hx⟩ := y
        rw [List.getElem?_map] at hx
        obtain ⟨z, hz, rfl⟩ := Option.map_eq_some_iff.mp hx
        have hzm := hovm z (List.mem_of_getElem? hz)
        rw [getD_of hz] at hy hn
        refine ⟨rfl, _, rfl, _, rfl, rfl, (z != o), ?_, ?_⟩
        · refine congrArg V.bl ?_
          rw [int_eq_dec]; rfl
        cases hzo : (z != o) with
        | false => exact iteF (iteF (hn (by rw [hzo]; rfl) _ (Same.refl _)))
        | true =>
          refine iteT ?_
          refine ⟨_, rfl, _, rfl, L, _, _, _, rfl, rfl, SqL.of (e6 _ _ hL6), atI_nat (vn_get (i := z) (by omega)), _, rfl, AA.getD z 0, o, rfl, rfl, AA.getD z 0 / 2 ^ o, 1, rfl, rfl, ?_⟩
          rw [shr_odd]
          refine one_bit ?_
          cases hbi : (AA.getD z 0).testBit o with
          | true => exact iteT ⟨_, rfl, hy _ (by rw [hzo, hbi]; rfl) _ _ (Same.refl _) (.int _)⟩
          | false => exact iteF (hn (by rw [hzo, hbi]; rfl) _ (Same.refl _))
      rw [List.length_map, fm_gen (overs m AA i) 0 (fun z => z != o && (AA.getD z 0).testBit o) (fun z => PyData.int (z : Nat))] at hcs
      have hfl := Nat.le_trans (List.length_filter_le (fun z => z != o && (AA.getD z 0).testBit o) (overs m AA i)) hov
      refine ⟨(by show 0 ≤ sizeLine; decide), fun E0 hE0 => ?_⟩
      have e7 := e6.trans (same_new hE0 (.lst []))
      refine ⟨_, .list [], Dp.same (same_new hE0 _) (dpa_list_dp hC8 hcs), .lst (SqL.of upd_same) .nil, okD_shaped (okD_ints _ (by omega)) (by omega), rfl, keeps m AA i o, congrArg V.bl (eqv_nil _), ?_⟩
      have hSz := e7 _ _ hSy
      have hyl : ys.length ≤ 49 + 7 := by
        rw [dpa_len hys, List.length_map, List.length_append, List.length_map]
        have := Nat.le_trans (List.length_filter_le (keeps m AA i) ((overs m AA i).take j)) (List.length_take_le' j _)
        omega
      have hnext : ((overs m AA i).take (j + 1)).filter (keeps m AA i) = ((overs m AA i).take j).filter (keeps m AA i) ++ (if keeps m AA i o = true then [o] else []) := by
        rw [List.take_succ, ho, List.filter_append]
        congr 1
        cases h : keeps m AA i o <;> simp [h]
      cases hkp : keeps m AA i o with
      | true =>
        rw [hkp, if_pos rfl] at hnext
        refine iteT ⟨_, rfl, tyv_list (SqL.of hSz), _, rfl, _, rfl, (by show 2 ≤ sizeLine; decide), fun t ht => ⟨S, ys, _, rfl, rfl, (same_new ht _) _ _ hSz, Evl.sz_lt (by omega), _, _, ys ++ [.ref t], rfl, ?_, upd_same, ?_⟩⟩
        · exact Off.set (fun b u ne q => (e7.trans (same_new ht _)) _ _ (e5 b u ne q))
        · have hre : ((List.range i).flatMap (netAt m AA) ++ (((overs m AA i).take j).filter (keeps m AA i) ++ [o]).map fun own => (i, own)).map pD = (((List.range i).flatMap (netAt m AA)) ++ (((overs m AA i).take j).filter (keeps m AA i)).map fun own => (i, own)).map pD ++ [pD (i, o)] := by
            simp only [List.map_append, List.append_assoc, List.map_cons, List.map_nil]
          rw [hnext, hre]
          have e8 := e7.trans (same_new ht (.tup [.int (i : Int), .int (o : Int)]))
          have kt : KeepT _ (upd _ S (.lst (ys ++ [.ref t]))) := KeepT.upd (not_tup_lst ((same_new ht (.tup [.int (i : Int), .int (o : Int)])) _ _ hSz))
          exact dpa_append (DpAll.keep kt (noLs_ts _) (DpAll.same e8 hys)) (.cons (Dp.keep kt (noL_p _) (pair_dp (p := (i, o)) (SqT.of upd_same))) .nil)
      | false =>
        rw [hkp, if_neg (by simp), List.append_nil] at hnext
        refine iteF ⟨_, _, ys, rfl, fun b u ne q => e7 _ _ (e5 b u ne q), hSz, ?_⟩
        rw [hnext]
        exact DpAll.same e7 hys
    · obtain ⟨v8, v9, ys, rfl, e5, hSy, hys⟩ := h
      rw [List.length_map, List.take_length] at hys
      refine ⟨_, _, _, _, _, _, ys, rfl, fun b u hb => ?_, hSy, ?_⟩
      · exact e5 b u (fun z => by rw [z, hS] at hb; cases hb) (e4 _ _ (e3 _ _ hb))
      · rw [List.range_succ, List.flatMap_append]
        simpa [netAt] using hys
  · obtain ⟨v3, v4, v5, v7, v8, v9, ys, rfl, e3, hSx, hys⟩ := h
    refine ⟨_, rfl, _, rfl, S, ys, rfl, .inl ⟨SqL.of hSx, fun t ht => ⟨(by show 2 ≤ sizeLine; decide), fun p hp => ?_⟩⟩⟩
    have e4 := same_new ht (.tup ys)
    have e5 := same_new hp (.tup [.int (m : Int), .ref t])
    refine q _ _ ((e2.trans e3).trans (e4.trans e5)) (.tup (SqT.of upd_same) (.cons (.int _) (.cons (Dp.same e5 (.tup (SqT.of upd_same) (DpAll.same e4 hys))) .nil)))
end
end K13

set_option Elab.async false
set_option linter.all false
set_option maxRecDepth 100000
set_option maxHeartbeats 4000000
/-! The law's own walk, part 4: orders drawn. -/
namespace K13
open PySem PySem.Spec PyProof.Rows L2 RZ
theorem dp_of {K : PySem.W.Frag} {H : Hp} {z k : Int} (h : z = k) : Dp K H (.int z) (.int k) := by
  subst h; exact .int z
section
variable {P : Program} {w : World} {K : PySem.W.Frag} {mg : Str → Option Value} {base : Heap}
def spPut (K : PySem.W.Frag) : Sp := fun vs H Q _ => ∃ (a b a2 b2 : Addr) (xs xs2 : List V) (m n : Nat) (ts us : Ties), vs = [.ref a, .ref a2] ∧ NetAt K H a b xs m ts ∧ NetAt K H a2 b2 xs2 n us ∧ Good m ts ∧ Good n us ∧ m + n ≤ 7 ∧
  ∀ v ts' H', Same H H' → Good (m + n) ts' → Dp K H' v (netD (m + n) ts') → Q v H'
theorem shift_data (m : Nat) (us : Ties) : (shift m us).map pD = us.map fun p => pD (p.1 + m, p.2 + m) := by
  unfold shift
  rw [List.map_map]; rfl
theorem ok_law_aside (T : Txt mg) (D : Def K mg "_law_aside" sLwAside pLwAside) : Cal P w K mg base 1 "_law_aside" pLwAside (spPut K) := by
  refine cal_of D scLwAside (fun vs H Q E h => ?_) (fun f cdv A outer s H vs Q E hr h => ?_)
  · obtain ⟨a, b, a2, b2, xs, xs2, m, n, ts, us, rfl, _⟩ := h; rfl
  obtain ⟨a, b, a2, b2, xs, xs2, m, n, ts, us, rfl, n1, n2, g1, g2, hmn, q⟩ := h
  have hl1 := ties_len g1
  have hl2 := ties_len g2
  have hx1 := n1.len
  have hx2 := n2.len
  refine ⟨_, (pss_one (ps_ret (pe_tup (pa_cons (pe_op op_add (pe_ix ix_tup (pv 0) (pe_int) (fun _ _ => rfl)) (pe_ix ix_tup (pv 1) (pe_int) (fun _ _ => rfl))) (pa_cons (pe_op op_catA (pe_ix ix_tup (pv 0) (pe_int) (fun _ _ => rfl)) (pe_callTy call_tuple_of rfl T.tuple_ b_tuple (pa_cons (pe_lc (own := [("_law_own", 2)]) rfl scLwAside.nd (pi_tup (pe_ix ix_tup (pv 1) (pe_int) (fun _ _ => rfl))) (blkOk_by (N := nLwAside) (sc := defScope sLwAside) (by decide +kernel)) (fun _ _ _ _ _ => pg_name (i := 2) scLwAside.nd rfl (Or.inl rfl)) (fun _ _ _ _ _ => pts_nil) (fun _ _ _ _ _ => pe_tup (pa_cons (pe_op op_add (pe_ix (r := rIxT K) ix_tup (pv 2) (pe_int) (fun _ _ => rfl)) (pe_ix (r := rIxT K) ix_tup (pv 0) (pe_int) (fun _ _ => rfl))) (pa_cons (pe_op op_add (pe_ix (r := rIxT K) ix_tup (pv 2) (pe_int) (fun _ _ => rfl)) (pe_ix (r := rIxT K) ix_tup (pv 0) (pe_int) (fun _ _ => rfl))) pa_nil)))) pa_nil))) pa_nil))))), ?_⟩
  refine ⟨_, rfl, a, _, _, _, rfl, rfl, n1.top, atI_nat (j := 0) rfl, _, rfl, a2, _, _, _, rfl, rfl, n2.top, atI_nat (j := 0) rfl, _, _, rfl, rfl, ?_⟩
  refine ⟨_, rfl, a, _, _, _, rfl, rfl, n1.top, atI_nat (j := 1) rfl, _, rfl, a2, _, _, _, rfl, rfl, n2.top, atI_nat (j := 1) rfl, b2, rfl, ⟨_, n2.tie⟩, fun L hL => ?_⟩
  refine lc_map (K := K) (walk_tup (K := K) (xs := xs2)) hL (fun H' e => seqT e n2.tie) (by omega) (fun i => pD ((us.getD i (0, 0)).1 + m, (us.getD i (0, 0)).2 + m)) (fun _ _ => noL_p _) (fun i x H1 H2 hi e1 y Ky hy => ?_) (fun H1 ys e1 hL1 hys => ?_)
  · obtain ⟨rfl, hx⟩ := y
    obtain ⟨p, t, hp, rfl, ht⟩ := n2.get hx
    rw [getD_of hp] at hy
    have ht1 := seqT e1 ht
    have hn1 := seqT e1 n1.top
    refine ⟨rfl, _, rfl, t, _, _, _, rfl, rfl, ht1, atI_nat (j := 0) rfl, _, rfl, a, _, _, _, rfl, rfl, hn1, atI_nat (j := 0) rfl, _, _, rfl, rfl, _, rfl, t, _, _, _, rfl, rfl, ht1, atI_nat (j := 1) rfl, _, rfl, a, _, _, _, rfl, rfl, hn1, atI_nat (j := 0) rfl, _, _, rfl, rfl, (by show 2 ≤ sizeLine; decide), fun q hq => ?_⟩
    exact hy _ _ (same_new hq _) (pair_dp (p := (p.1 + m, p.2 + m)) (SqT.of upd_same))
  · rw [hx2, range_getD us (0, 0) (fun p => pD (p.1 + m, p.2 + m)), ← shift_data] at hys
    have hyl : ys.length = us.length := by rw [dpa_len hys, List.length_map]; unfold shift; rw [List.length_map]
    have hgd := aside_good g1 g2 hmn
    refine ⟨L, ys, rfl, .inl ⟨SqL.of hL1, fun l hl => ?_⟩⟩
    have e2 := e1.trans (same_new hl (.tup ys))
    have hys2 := DpAll.same (same_new hl (.tup ys)) hys
    have n3 := n1.same e2
    refine ⟨b, l, xs, ys, rfl, rfl, n3.tie, SqT.of upd_same, Evl.sz_of (by omega), fun h0 => ?_, fun _ h0 => ?_, fun _ _ c hc => ?_⟩
    · subst h0
      have ht0 : ts = [] := List.eq_nil_of_length_eq_zero (by rw [← hx1]; rfl)
      subst ht0
      refine ⟨(by show 2 ≤ sizeLine; decide), fun p hp => ?_⟩
      have e3 := same_new hp (.tup [.int ((m : Int) + (n : Int)), .ref l])
      exact q _ _ _ (e2.trans e3) hgd (.tup (SqT.of upd_same) (.cons (dp_of (by omega)) (.cons (.tup (seqT e3 (SqT.of upd_same)) (DpAll.same e3 hys2)) .nil)))
    · subst h0
      have ht0 : us = [] := List.eq_nil_of_length_eq_zero (by rw [← hyl]; rfl)
      subst ht0
      refine ⟨(by show 2 ≤ sizeLine; decide), fun p hp => ?_⟩
      have e3 := same_new hp (.tup [.int ((m : Int) + (n : Int)), .ref b])
      have e4 : ts ++ shift m [] = ts := by unfold shift; simp
      rw [e4] at hgd
      exact q _ _ _ (e2.trans e3) hgd (.tup (SqT.of upd_same) (.cons (dp_of (by omega)) (.cons (.tup (seqT e3 n3.tie) (DpAll.same e3 n3.all)) .nil)))
    · refine ⟨(by show 2 ≤ sizeLine; decide), fun p hp => ?_⟩
      have e3 := same_new hc (.tup (xs ++ ys))
      have e4 := same_new hp (.tup [.int ((m : Int) + (n : Int)), .ref c])
      refine q _ _ _ ((e2.trans e3).trans e4) hgd (.tup (SqT.of upd_same) (.cons (dp_of (by omega)) (.cons (.tup (seqT e4 (SqT.of upd_same)) (DpAll.same e4 ?_)) .nil)))
      rw [List.map_append]
      exact dpa_append (DpAll.same e3 n3.all) (DpAll.same e3 hys2)
theorem over_len (m n : Nat) : ∀ i, ((List.range i).flatMap fun low => (List.range n).map fun k => (low, m + k)).length = i * n
  | 0 => by simp
  | i + 1 => by
    rw [List.range_succ, List.flatMap_append, List.length_append, over_len m n i, Nat.succ_mul]
    simp
theorem ok_law_heap (T : Txt mg) (D : Def K mg "_law_heap" sLwHeap pLwHeap) (cLwAside : Cal P w K mg base 1 "_law_aside" pLwAside (spPut K)) (cLwNet : Cal P w K mg base 1 "_law_net" pLwNet (spNet K)) : Cal P w K mg base 2 "_law_heap" pLwHeap (spPut K) := by
  refine cal_of D scLwHeap (fun vs H Q E h => ?_) (fun f cdv A outer s H vs Q E hr h => ?_)
  · obtain ⟨a, b, a2, b2, xs, xs2, m, n, ts, us, rfl, _⟩ := h; rfl
  obtain ⟨a, b, a2, b2, xs, xs2, m, n, ts, us, rfl, n1, n2, g1, g2, hmn, q⟩ := h
  refine ⟨_, (pss_cons (ps_set (i := 2) scLwHeap.nd rfl (Or.inl rfl) (pe_c cLwAside hr (by decide) rfl (pa_cons (pv 0) (pa_cons (pv 1) pa_nil))))
      (pss_cons (ps_set (i := 3) scLwHeap.nd rfl (Or.inl rfl) (pe_lst pa_nil))
      (pss_cons (ps_for PassesOwn.never rfl (pi_range1 (by rfl) T.range (pa_cons (pe_ix ix_tup (pv 0) (pe_int) (fun _ _ => rfl)) pa_nil)) (pg_name (i := 4) scLwHeap.nd rfl (Or.inr rfl)) (pss_one (ps_set (i := 3) scLwHeap.nd rfl (Or.inl rfl) (pe_op op_cat (pv 3) (pe_lc (own := [("_law_k", 5)]) rfl scLwHeap.nd (pi_range1 (by rfl) T.range (pa_cons (pe_ix ix_tup (pv 1) (pe_int) (fun _ _ => rfl)) pa_nil)) (blkOk_by (N := nLwHeap) (sc := defScope sLwHeap) (by decide +kernel)) (fun _ _ _ _ _ => pg_name (i := 5) scLwHeap.nd rfl (Or.inl rfl)) (fun _ _ _ _ _ => pts_nil) (fun _ _ _ _ _ => pe_tup (pa_cons (pv 4) (pa_cons (pe_op op_add (pe_ix (r := rIxT K) ix_tup (pv 0) (pe_int) (fun _ _ => rfl)) (pv 5)) pa_nil))))))))
      (pss_one (ps_ret (pe_c cLwNet hr (by decide) rfl (pa_cons (pe_ix ix_tup (pv 2) (pe_int) (fun _ _ => rfl)) (pa_cons (pe_op op_cat (pe_callTy call_list_of rfl T.list_ b_list (pa_cons (pe_ix ix_tup (pv 2) (pe_int) (fun _ _ => rfl)) pa_nil)) (pv 3)) pa_nil)))))))), ?_⟩
  refine ⟨_, rfl, _, rfl, a, b, a2, b2, xs, xs2, m, n, ts, us, rfl, n1, n2, g1, g2, hmn, fun v wt H1 e1 gw hv => ?_⟩
  obtain ⟨wa, wb, wxs, rfl, nw1⟩ := dp_net hv
  refine ⟨(by show 0 ≤ sizeLine; decide), fun G0 hG0 => ?_⟩
  have e2 := same_new hG0 (.lst [])
  refine ⟨_, rfl, a, _, _, _, rfl, rfl, (n1.same (e1.trans e2)).top, atI_nat (j := 0) rfl, _, rfl, by omega, by omega, ?_⟩
  rw [Int.toNat_natCast]
  refine for_it (walk_range0 (n := m)) (fun i σ H' => ∃ v4 v5 G ys, σ = [some (.ref a), some (.ref a2), some (.ref wa), some (.ref G), v4, v5] ∧ Same H1 H' ∧ H' G = some (.lst ys) ∧ DpAll K H' ys (((List.range i).flatMap fun low => (List.range n).map fun k => (low, m + k)).map pD))
    ⟨_, _, G0, [], rfl, e2, upd_same, .nil⟩ (fun _ _ _ _ _ => True.intro) (fun i x σ H2 H3 hi h y => ?_) (fun σ H2 h => ?_)
  · obtain ⟨v4, v5, G, ys, rfl, e3, hG, hys⟩ := h
    obtain ⟨rfl, rfl⟩ := y
    have n3 := n1.same (e1.trans e3)
    have n4 := n2.same (e1.trans e3)
    have him : i * n ≤ 49 := Nat.le_trans (Nat.mul_le_mul (by omega : i ≤ 7) (by omega : n ≤ 7)) (by decide)
    have hyl : ys.length = i * n := by rw [dpa_len hys, List.length_map, over_len]
    refine ⟨_, rfl, _, rfl, a2, _, _, _, rfl, rfl, n4.top, atI_nat (j := 0) rfl, _, rfl, by omega, by omega, fun L hL => ?_⟩
    rw [Int.toNat_natCast]
    refine lc_map (K := K) (walk_range0 (n := n)) hL (fun _ _ => True.intro) (by omega) (fun k => pD (i, m + k)) (fun _ _ => noL_p _) (fun k x H4 H5 hk e4 y Ky hy => ?_) (fun H4 zs e4 hL4 hzs => ?_)
    · obtain ⟨rfl, rfl⟩ := y
      refine ⟨rfl, _, rfl, _, rfl, a, _, _, _, rfl, rfl, (n3.same e4).top, atI_nat (j := 0) rfl, _, rfl, _, _, rfl, rfl, (by show 2 ≤ sizeLine; decide), fun p hp => ?_⟩
      exact hy _ _ (same_new hp _) (pair_dp (p := (i, m + k)) (SqT.of upd_same))
    · have hzl : zs.length = n := by rw [dpa_len hzs, List.length_map, List.length_range]
      refine ⟨G, L, ys, zs, rfl, rfl, e4 _ _ hG, hL4, Evl.sz_of (by omega), fun G2 hG2 => ?_⟩
      have e5 := e4.trans (same_new hG2 (.lst (ys ++ zs)))
      refine ⟨_, _, G2, ys ++ zs, rfl, e3.trans e5, upd_same, ?_⟩
      rw [List.range_succ, List.flatMap_append, List.map_append]
      refine dpa_append (DpAll.same e5 hys) ?_
      have e6 : ([i].flatMap fun low => (List.range n).map fun k => (low, m + k)).map pD = (List.range n).map fun k => pD (i, m + k) := by simp
      rw [e6]
      exact DpAll.same (same_new hG2 _) hzs
  · obtain ⟨v4, v5, G, ys, rfl, e3, hG, hys⟩ := h
    have n3 := nw1.same e3
    have him : m * n ≤ 49 := Nat.le_trans (Nat.mul_le_mul (by omega : m ≤ 7) (by omega : n ≤ 7)) (by decide)
    have hyl : ys.length = m * n := by rw [dpa_len hys, List.length_map, over_len]
    have hwl := ties_len gw
    have hwx := n3.len
    refine ⟨_, rfl, wa, _, _, _, rfl, rfl, n3.top, atI_nat (j := 0) rfl, _, rfl, wa, _, _, _, rfl, rfl, n3.top, atI_nat (j := 1) rfl, wb, wxs, rfl, .inr n3.tie, fun l hl => ?_⟩
    have e4 := same_new hl (.lst wxs)
    refine ⟨_, rfl, l, G, wxs, ys, rfl, rfl, upd_same, e4 _ _ hG, Evl.sz_of (by omega), fun c hc => ?_⟩
    have e5 := same_new hc (.lst (wxs ++ ys))
    have hrg : ∀ p ∈ wt ++ ((List.range m).flatMap fun low => (List.range n).map fun k => (low, m + k)), p.1 < p.2 ∧ p.2 < m + n := fun p hp => by
      rcases List.mem_append.mp hp with h | h
      · exact gw.rng p h
      · obtain ⟨low, h1, h2⟩ := List.mem_flatMap.mp h
        obtain ⟨k, h3, rfl⟩ := List.mem_map.mp h2
        rw [List.mem_range] at h1 h3
        exact ⟨by show low < m + k; omega, by show m + k < m + n; omega⟩
    refine ⟨c, wxs ++ ys, m + n, _, rfl, SqL.of upd_same, ?_, hmn, ?_, hrg, fun v H5 e6 hv => q _ _ _ ((e1.trans e3).trans ((e4.trans e5).trans e6)) (net_good hmn hrg) hv⟩
    · rw [List.map_append]
      exact dpa_append (DpAll.same (e4.trans e5) n3.all) (DpAll.same (e4.trans e5) hys)
    · rw [List.length_append, over_len]; omega
/-- pairs drawn in a comprehension -/
theorem lc_pairs {J : It} {n : Nat} {G : Hp → Prop} {Y : Nat → Hp → V → Hp → Prop} (w : Walk J n G Y) {g : TG} {tt : TT} {te : TE} {vs : List Nat} {σ : L2.St} {H1 : Hp} {D a : Addr} {Qd : Hp → Prop} {t0 : Nat} (c m : Nat) (hD : H1 D = none) (hT : TinAt t0 H1 a) (hG : ∀ H, G H) (hn : n ≤ 100)
    (hs : ∀ i x H H' t, i < n → Off a H1 H → TinAt t H a → t ≤ t0 + c * i → Y i H x H' → ∀ (Ky : V → Hp → Prop) (Kn : Hp → Prop), (∀ p : Nat × Nat, p.1 < p.2 → p.2 < m → ∀ y H4 t', Off a H H4 → TinAt t' H4 a → t' ≤ t + c → Dp K H4 y (pD p) → Ky y H4) → (∀ H3 t', Off a H H3 → TinAt t' H3 a → t' ≤ t + c → Kn H3) →
      g x (wipe σ vs) H' fun σ2 H2 => wipe σ2 vs = wipe σ vs ∧ tt σ2 H2 fun b H3 => if b = true then te σ2 H3 Ky else Kn H3)
    (hd : ∀ (H : Hp) (xs : List V) (ps : Ties) (t : Nat), Off a H1 H → TinAt t H a → t ≤ t0 + c * n → H D = some (.lst xs) → DpAll K H xs (ps.map pD) → ps.length ≤ n → (∀ p ∈ ps, p.1 < p.2 ∧ p.2 < m) → Qd H) :
    ∃ W : Nat → Nat → Hp → Prop, (∃ m, W 0 m (upd H1 D (.lst []))) ∧ ∀ i m H, W i m H →
      (J.stop i H ∧ Qd H) ∨ (J.go i H ∧ ∃ Nx : Hp → Prop, (∀ H', Nx H' → ∃ m', m' < m ∧ W (i + 1) m' H') ∧ ∀ x H', J.yld i H x H' → g x (wipe σ vs) H' fun σ2 H2 => wipe σ2 vs = wipe σ vs ∧ tt σ2 H2 fun b H3 =>
        if b = true then te σ2 H3 fun y H4 => ∃ acc, H4 D = some (.lst acc) ∧ acc.length < sizeLine ∧ Nx (upd H4 D (.lst (acc ++ [y]))) else Nx H3) := by
  have hDa := hT.ne hD
  refine lc_it w (fun i H => i ≤ n ∧ Off a H1 H ∧ ∃ xs ps t, TinAt t H a ∧ t ≤ t0 + c * i ∧ H D = some (.lst xs) ∧ DpAll K H xs (List.map pD ps) ∧ ps.length ≤ i ∧ (∀ p ∈ ps, p.1 < p.2 ∧ p.2 < m))
    ⟨Nat.zero_le _, Off.of_same (same_new hD _), [], [], t0, hT.same (same_new hD _), by omega, upd_same, .nil, Nat.le_refl _, fun p h => by cases h⟩ (fun i H _ p => hG H) (fun i x H H' hi p y => ?_) (fun H ⟨_, h1, xs, ps, t, h2, h3, h4, h5, h6, h7⟩ => hd H xs ps t h1 h2 h3 h4 h5 h6 h7)
  obtain ⟨_, p1, xs, ps, t, p2, p3, p4, p5, p6, p7⟩ := p
  have hc : c * (i + 1) = c * i + c := Nat.mul_succ c i
  refine hs i x H H' t hi p1 p2 p3 y _ _ (fun p hp1 hp2 z H4 t' o4 ti4 ht' hz => ?_) (fun H3 t' o3 ti3 ht' => ⟨hi, p1.trans o3, xs, ps, t', ti3, by omega, o3 _ _ hDa p4, DpAll.keep (o3.keep p2) (noLs_ts _) p5, by omega, p7⟩)
  have hD4 := o4 _ _ hDa p4
  have hxl : xs.length = ps.length := by rw [dpa_len p5, List.length_map]
  have kt : KeepT H4 (upd H4 D (.lst (xs ++ [z]))) := KeepT.upd (not_tup_lst hD4)
  refine ⟨xs, hD4, Evl.sz_lt (by omega), hi, (p1.trans o4).upd2 hD, xs ++ [z], ps ++ [p], t', ?_, by omega, upd_same, ?_, by rw [List.length_append]; simp; omega, fun r hr => ?_⟩
  · obtain ⟨b, s, c', h1, h2, h3⟩ := ti4
    exact ⟨b, s, c', by rw [upd_ne (fun z => hDa z.symm)]; exact h1, h2, h3⟩
  · rw [List.map_append]
    exact dpa_append (DpAll.keep ((o4.keep p2).trans kt) (noLs_ts _) p5) (.cons (Dp.keep kt (noL_p _) hz) .nil)
  · rcases List.mem_append.mp hr with h | h
    · exact p7 r h
    · rw [List.mem_singleton] at h
      subst h
      exact ⟨hp1, hp2⟩
def spLoose (K : PySem.W.Frag) : Sp := fun vs H Q _ => ∃ (a : Addr) (m t : Nat), vs = [.ref a, .int (m : Int)] ∧ m ≤ 7 ∧ TinAt t H a ∧ t ≤ 1000 ∧ ∀ v ts H' t', Off a H H' → TinAt t' H' a → t' ≤ t + 60 → Good m ts → Dp K H' v (netD m ts) → Q v H'
theorem ok_law_loose_net (T : Txt mg) (D : Def K mg "_law_loose_net" sLwLooseNet pLwLooseNet) (cLwTake : Cal P w K mg base 1 "_law_take" pLwTake spTake) (cLwNet : Cal P w K mg base 1 "_law_net" pLwNet (spNet K)) : Cal P w K mg base 2 "_law_loose_net" pLwLooseNet (spLoose K) := by
  refine cal_of D scLwLooseNet (fun vs H Q E h => ?_) (fun f cdv A outer s H vs Q E hr h => ?_)
  · obtain ⟨a, m, t, rfl, _⟩ := h; rfl
  obtain ⟨a, m, t, rfl, hm, hT, ht, q⟩ := h
  refine ⟨_, (pss_cons (ps_asg (pe_tup (pa_cons (pe_op op_add (pe_int) (pe_c cLwTake hr (by decide) rfl (pa_cons (pv 0) (pa_cons (pe_int) pa_nil)))) (pa_cons (pe_lst pa_nil) pa_nil))) (pg_tup rfl (pgs_cons (pg_name (i := 2) scLwLooseNet.nd rfl (Or.inr rfl)) (pgs_cons (pg_name (i := 3) scLwLooseNet.nd rfl (Or.inl rfl)) pgs_nil))))
      (pss_cons (ps_for PassesOwn.never rfl (pi_range1 (by rfl) T.range (pa_cons (pv 1) pa_nil)) (pg_name (i := 4) scLwLooseNet.nd rfl (Or.inr rfl)) (pss_one (ps_set (i := 3) scLwLooseNet.nd rfl (Or.inl rfl) (pe_op op_cat (pv 3) (pe_lc (own := [("_law_low_so", 5)]) rfl scLwLooseNet.nd (pi_range1 (by rfl) T.range (pa_cons (pv 4) pa_nil)) (blkOk_by (N := nLwLooseNet) (sc := defScope sLwLooseNet) (by decide +kernel)) (fun _ _ _ _ _ => pg_name (i := 5) scLwLooseNet.nd rfl (Or.inl rfl)) (fun _ _ _ _ _ => pts_one (pt_cmpR op_eq (pe_c cLwTake hr (by decide) rfl (pa_cons (pv 0) (pa_cons (pv 2) pa_nil))) (pe_int) (nomark _))) (fun _ _ _ _ _ => pe_tup (pa_cons (pv 5) (pa_cons (pv 4) pa_nil))))))))
      (pss_one (ps_ret (pe_c cLwNet hr (by decide) rfl (pa_cons (pv 1) (pa_cons (pv 3) pa_nil))))))), ?_⟩
  refine ⟨_, rfl, a, 4, t, rfl, by omega, by omega, hT, by omega, fun r H1 hr1 o1 hT1 => ⟨_, _, rfl, rfl, (by show 0 ≤ sizeLine; decide), fun G0 hG0 => ⟨(by show 2 ≤ sizeLine; decide), fun tp htp => ⟨tp, _, rfl, SqT.of upd_same, rfl, _, _, rfl, _, _, rfl, rfl, ?_⟩⟩⟩⟩
  have eG : Same (upd H1 G0 (.lst [])) (upd (upd H1 G0 (.lst [])) tp (.tup [.int (2 + (r : Int)), .ref G0])) := same_new htp _
  have hGt := eG _ _ (upd_same (H := H1) (a := G0) (o := .lst []))
  have e1 : Same H1 (upd (upd H1 G0 (.lst [])) tp (.tup [.int (2 + (r : Int)), .ref G0])) := (same_new hG0 _).trans eG
  refine ⟨_, rfl, (m : Int), rfl, by omega, by omega, ?_⟩
  rw [Int.toNat_natCast]
  refine for_it (walk_range0 (n := m)) (fun i σ H' => ∃ v4 v5 G ys ps t', σ = [some (.ref a), some (.int (m : Int)), some (.int (2 + (r : Int))), some (.ref G), v4, v5] ∧ Off a H H' ∧ TinAt t' H' a ∧ t' ≤ t + 1 + 7 * i ∧ G ≠ a ∧ H' G = some (.lst ys) ∧ DpAll K H' ys (List.map pD ps) ∧ ps.length ≤ 7 * i ∧ ∀ p ∈ ps, p.1 < p.2 ∧ p.2 < m)
    ⟨_, _, G0, [], [], t + 1, rfl, o1.trans (Off.of_same e1), hT1.same e1, by omega, hT1.ne hG0, hGt, .nil, by simp, fun p h => by cases h⟩ (fun _ _ _ _ _ => True.intro) (fun i x σ H2 H3 hi h y => ?_) (fun σ H2 h => ?_)
  · obtain ⟨v4, v5, G, ys, ps, t', rfl, o2, hT2, ht2, hGa, hG, hys, hpl, hrg⟩ := h
    obtain ⟨rfl, rfl⟩ := y
    refine ⟨_, rfl, _, rfl, _, rfl, by omega, by omega, fun L hL => ?_⟩
    rw [Int.toNat_natCast]
    refine lc_pairs (K := K) (walk_range0 (n := i)) 1 m hL hT2 (fun _ => True.intro) (by omega) (fun j x H4 H5 t4 hj o4 hT4 ht4 y Ky Kn hy hn => ?_) (fun H4 zs qs t4 o4 hT4 ht4 hL4 hzs hql hqr => ?_)
    · obtain ⟨rfl, rfl⟩ := y
      refine ⟨rfl, _, rfl, _, rfl, a, 2 + r, t4, congrArg (fun z => [V.ref a, V.int z]) (by omega), by omega, by omega, hT4, by omega, fun b H6 hb o6 hT6 => ?_⟩
      refine ⟨rfl, decide (b = 0), congrArg V.bl (int_eq_dec b 0), ?_⟩
      by_cases hb0 : b = 0
      · rw [decide_eq_true hb0]
        refine iteT ⟨_, rfl, _, rfl, (by show 2 ≤ sizeLine; decide), fun p hp => ?_⟩
        exact hy (j, i) hj hi _ _ (t4 + 1) (o6.trans (Off.of_same (same_new hp _))) (hT6.same (same_new hp _)) (by omega) (pair_dp (p := (j, i)) (SqT.of upd_same))
      · rw [decide_eq_false hb0]
        exact iteF (hn _ (t4 + 1) o6 hT6 (by omega))
    · have hyl : ys.length = ps.length := by rw [dpa_len hys, List.length_map]
      have hzl : zs.length = qs.length := by rw [dpa_len hzs, List.length_map]
      refine ⟨G, L, ys, zs, rfl, rfl, o4 _ _ hGa hG, hL4, Evl.sz_of (by omega), fun G2 hG2 => ?_⟩
      have e5 := same_new hG2 (.lst (ys ++ zs))
      refine ⟨_, _, G2, ys ++ zs, ps ++ qs, t4, rfl, (o2.trans o4).trans (Off.of_same e5), hT4.same e5, by omega, hT4.ne hG2, upd_same, ?_, by rw [List.length_append]; omega, fun p hp => ?_⟩
      · rw [List.map_append]
        exact dpa_append (DpAll.same e5 (DpAll.keep (o4.keep hT2) (noLs_ts _) hys)) (DpAll.same e5 hzs)
      · rcases List.mem_append.mp hp with h | h
        · exact hrg p h
        · exact hqr p h
  · obtain ⟨v4, v5, G, ys, ps, t', rfl, o2, hT2, ht2, hGa, hG, hys, hpl, hrg⟩ := h
    exact ⟨_, rfl, _, rfl, G, ys, m, ps, rfl, SqL.of hG, hys, hm, by omega, hrg, fun v H3 e3 hv => q v _ _ t' (o2.trans (Off.of_same e3)) (hT2.same e3) (by omega) (net_good hm hrg) hv⟩
end
end K13

set_option Elab.async false
set_option linter.all false
set_option maxRecDepth 100000
set_option maxHeartbeats 4000000
/-! The law's own walk, part 5: an order drawn. -/
namespace K13
open PySem PySem.Spec PyProof.Rows L2 RZ
section
variable {P : Program} {w : World} {K : PySem.W.Frag} {mg : Str → Option Value} {base : Heap}
def spOrder (K : PySem.W.Frag) : Sp := fun vs H Q _ => ∃ (a : Addr) (t : Nat), vs = [.ref a, .int 7] ∧ TinAt t H a ∧ t ≤ 100 ∧ ∀ v m ts H' t', Off a H H' → TinAt t' H' a → t' ≤ t + 300 → Good m ts → Dp K H' v (netD m ts) → Q v H'
theorem Off.list {a p : Addr} {H H' : Hp} {t : Nat} (o : Off a H H') {o' : HO} (hp : H p = some o') (hne : p ≠ a) : H' p = some o' := o _ _ hne hp
/-- what the rest of the drawing of an order does -/
def OrdRest (K : PySem.W.Frag) (tC : TS) : Prop := ∀ (Q : VK) (a : Addr) (M kind t : Nat) (H1 : Hp), 1 ≤ M → M ≤ 7 → TinAt t H1 a → t ≤ 200 → (∀ v m ts H' t', Off a H1 H' → TinAt t' H' a → t' ≤ t + 200 → Good m ts → Dp K H' v (netD m ts) → Q v H') →
  tC { nx := fun _ H' => Q .non H', rt := Q } [some (.ref a), some (.int 7), some (.int (M : Int)), some (.int (kind : Int)), none, none, none, none, none] H1
theorem gt_dec (k M : Nat) : V.bl (decide ((k : Int) < (M : Int))) = V.bl (decide (k < M)) := congrArg V.bl (decide_eq_decide.mpr (by omega))
theorem order_rest4 (T : Txt mg) (cLwTake : Cal P w K mg base 1 "_law_take" pLwTake spTake) (cLwNet : Cal P w K mg base 1 "_law_net" pLwNet (spNet K)) (cLwAside : Cal P w K mg base 1 "_law_aside" pLwAside (spPut K)) (cLwHeap : Cal P w K mg base 2 "_law_heap" pLwHeap (spPut K)) (cLwLooseNet : Cal P w K mg base 2 "_law_loose_net" pLwLooseNet (spLoose K))
    (f : Addr) (cdv : Value) (A : Around) (outer : List Env) (s : Shared) (H : Hp) (E : XK) (hr : Room 2 (A.deeper (envOfC "_law_order" (defScope sLwOrder) s.heap.objs.size f cdv))) :
    ∃ tC, PSs (cxOf CX0 P w K mg base nLwOrder "_law_order" (defScope sLwOrder) f cdv A outer s H E).nox ((defBody sLwOrder).drop 4) tC ∧ OrdRest K tC := by
  refine ⟨_, (pss_cons (ps_if (PW.pt (pw_and (pt_cmpR op_eq (pv 3) (pe_int) (nomark _)) (pw_and1 (pt_cmpR op_gt (pv 2) (pe_int) (nomark _))))) (pss_cons (ps_setLc (i := 8) (own := [("_law_k", 4)]) rfl scLwOrder.nd rfl rfl (sw_true rfl rfl rfl (by decide +kernel)) (pi_range2 (by rfl) T.range (pa_cons (pe_int) (pa_cons (pv 2) pa_nil))) (blkOk_by (N := nLwOrder) (sc := defScope sLwOrder) (by decide +kernel)) (fun _ _ _ _ _ => pg_name (i := 4) scLwOrder.nd rfl (Or.inl rfl)) (fun _ _ _ _ _ => pts_one (pt_cmpR op_gt (pe_c cLwTake hr (by decide) rfl (pa_cons (pv 0) (pa_cons (pe_int) pa_nil))) (pe_int) (nomark _))) (fun _ _ _ _ _ => pe_tup (pa_cons (pe_c cLwTake hr (by decide) rfl (pa_cons (pv 0) (pa_cons (pv 4) pa_nil))) (pa_cons (pv 4) pa_nil))))
      (pss_one (ps_ret (pe_c cLwNet hr (by decide) rfl (pa_cons (pv 2) (pa_cons (pe_op op_cat (pe_lst (pa_cons (pe_tup (pa_cons (pe_int) (pa_cons (pe_int) pa_nil))) (pa_cons (pe_tup (pa_cons (pe_int) (pa_cons (pe_int) pa_nil))) (pa_cons (pe_tup (pa_cons (pe_int) (pa_cons (pe_int) pa_nil))) pa_nil)))) (pv 8)) pa_nil)))))) pss_nil)
      (pss_one (ps_ret (pe_c cLwLooseNet hr (by decide) rfl (pa_cons (pv 0) (pa_cons (pv 2) pa_nil)))))), ?_⟩
  intro Q a M kind t H1 hM1 hM hT ht q
  have loose : ∀ E', spLoose K [.ref a, .int (M : Int)] H1 Q E' := fun E' => ⟨a, M, t, rfl, hM, hT, by omega, fun v ts H4 t4 o4 hT4 ht4 g4 hv => q v M ts H4 t4 o4 hT4 (by omega) g4 hv⟩
  refine ⟨_, rfl, rfl, decide (kind = 3), congrArg V.bl (int_eq_dec kind 3), ?_⟩
  by_cases hk : kind = 3
  · rw [decide_eq_true hk]
    refine iteT ⟨_, rfl, _, _, rfl, rfl, decide (3 < M), gt_dec 3 M, ?_⟩
    by_cases hM3 : 3 < M
    · rw [decide_eq_true hM3]
      refine iteT ?_
      refine ⟨_, rfl, _, _, rfl, ⟨by omega, by omega, by omega, by omega⟩, fun L hL => ?_⟩
      refine lc_pairs (K := K) (walk_rangeE (k := 4) (n := M - 4) (by omega) (by omega)) 2 M hL hT (fun _ => True.intro) (by omega) (fun j x H4 H5 t4 hj o4 hT4 ht4 y Ky Kn hy hn => ?_) (fun H4 zs qs t4 o4 hT4 ht4 hL4 hzs hql hqr => ?_)
      · obtain ⟨rfl, rfl⟩ := y
        refine ⟨rfl, _, rfl, a, 3, t4, rfl, by omega, by omega, hT4, by omega, fun b H6 hb o6 hT6 => ⟨_, _, rfl, rfl, decide (0 < b), gt_dec 0 b, ?_⟩⟩
        by_cases hb0 : 0 < b
        · rw [decide_eq_true hb0]
          refine iteT ⟨_, rfl, _, rfl, a, 4 + j, t4 + 1, rfl, by omega, by omega, hT6, by omega, fun b2 H7 hb2 o7 hT7 => ⟨_, rfl, (by show 2 ≤ sizeLine; decide), fun p hp => ?_⟩⟩
          exact hy (b2, 4 + j) hb2 (by show 4 + j < M; omega) _ _ (t4 + 1 + 1) ((o6.trans o7).trans (Off.of_same (same_new hp _))) (hT7.same (same_new hp _)) (by omega) (pair_dp (p := (b2, 4 + j)) (SqT.of upd_same))
        · rw [decide_eq_false hb0]
          exact iteF (hn _ (t4 + 1) o6 hT6 (by omega))
      · refine ⟨_, rfl, (by show 2 ≤ sizeLine; decide), fun p1 hp1 => ⟨(by show 2 ≤ sizeLine; decide), fun p2 hp2 => ⟨(by show 2 ≤ sizeLine; decide), fun p3 hp3 => ⟨(by show 3 ≤ sizeLine; decide), fun l hl => ?_⟩⟩⟩⟩
        have a1 := same_new hp1 (.tup [.int 0, .int 2])
        have a2 := same_new hp2 (.tup [.int 1, .int 2])
        have a3 := same_new hp3 (.tup [.int 1, .int 3])
        have a4 := same_new hl (.lst [.ref p1, .ref p2, .ref p3])
        have hzl : zs.length = qs.length := by rw [dpa_len hzs, List.length_map]
        refine ⟨_, rfl, l, L, [.ref p1, .ref p2, .ref p3], zs, rfl, rfl, upd_same, (a1.trans (a2.trans (a3.trans a4))) _ _ hL4, Evl.sz_of (by show 3 + zs.length ≤ 100000; omega), fun c hc => ?_⟩
        have a5 := same_new hc (.lst ([.ref p1, .ref p2, .ref p3] ++ zs))
        have hrg : ∀ p ∈ ([(0, 2), (1, 2), (1, 3)] : Ties) ++ qs, p.1 < p.2 ∧ p.2 < M := fun p hp => by
          rcases List.mem_append.mp hp with h | h
          · simp at h
            rcases h with rfl | rfl | rfl
            · exact ⟨by decide, by show 2 < M; omega⟩
            · exact ⟨by decide, by show 2 < M; omega⟩
            · exact ⟨by decide, hM3⟩
          · exact hqr p h
        refine ⟨c, [.ref p1, .ref p2, .ref p3] ++ zs, M, [(0, 2), (1, 2), (1, 3)] ++ qs, rfl, SqL.of upd_same, ?_, hM, by rw [List.length_append]; simp; omega, hrg, fun v H5 e5 hv => ?_⟩
        · rw [List.map_append]
          refine dpa_append (.cons (Dp.same (a2.trans (a3.trans (a4.trans a5))) (pair_dp (p := (0, 2)) (SqT.of upd_same))) (.cons (Dp.same (a3.trans (a4.trans a5)) (pair_dp (p := (1, 2)) (SqT.of upd_same))) (.cons (Dp.same (a4.trans a5) (pair_dp (p := (1, 3)) (SqT.of upd_same))) .nil))) ?_
          exact DpAll.same (a1.trans (a2.trans (a3.trans (a4.trans a5)))) hzs
        · have e6 := a1.trans (a2.trans (a3.trans (a4.trans (a5.trans e5))))
          exact q v _ _ _ t4 (o4.trans (Off.of_same e6)) (hT4.same e6) (by omega) (net_good hM hrg) hv
    · rw [decide_eq_false hM3]
      exact iteF ⟨_, rfl, _, rfl, loose E0⟩
  · rw [decide_eq_false hk]
    exact iteF (iteF ⟨_, rfl, _, rfl, loose E0⟩)
theorem order_rest2 (T : Txt mg) (cLwTake : Cal P w K mg base 1 "_law_take" pLwTake spTake) (cLwNet : Cal P w K mg base 1 "_law_net" pLwNet (spNet K)) (cLwAside : Cal P w K mg base 1 "_law_aside" pLwAside (spPut K)) (cLwHeap : Cal P w K mg base 2 "_law_heap" pLwHeap (spPut K)) (cLwLooseNet : Cal P w K mg base 2 "_law_loose_net" pLwLooseNet (spLoose K))
    (f : Addr) (cdv : Value) (A : Around) (outer : List Env) (s : Shared) (H : Hp) (E : XK) (hr : Room 2 (A.deeper (envOfC "_law_order" (defScope sLwOrder) s.heap.objs.size f cdv))) :
    ∃ tC, PSs (cxOf CX0 P w K mg base nLwOrder "_law_order" (defScope sLwOrder) f cdv A outer s H E).nox ((defBody sLwOrder).drop 2) tC ∧ OrdRest K tC := by
  obtain ⟨tC, hC, rC⟩ := order_rest4 T cLwTake cLwNet cLwAside cLwHeap cLwLooseNet f cdv A outer s H E hr
  refine ⟨_, (pss_cons (ps_if (pt_cmpR op_eq (pv 3) (pe_int) (nomark _)) (pss_one (ps_ret (pe_c cLwNet hr (by decide) rfl (pa_cons (pv 2) (pa_cons (pe_lc (own := [("_law_k", 4)]) rfl scLwOrder.nd (pi_range2 (by rfl) T.range (pa_cons (pe_int) (pa_cons (pv 2) pa_nil))) (blkOk_by (N := nLwOrder) (sc := defScope sLwOrder) (by decide +kernel)) (fun _ _ _ _ _ => pg_name (i := 4) scLwOrder.nd rfl (Or.inl rfl)) (fun _ _ _ _ _ => pts_nil) (fun _ _ _ _ _ => pe_tup (pa_cons (pe_c cLwTake hr (by decide) rfl (pa_cons (pv 0) (pa_cons (pv 4) pa_nil))) (pa_cons (pv 4) pa_nil)))) pa_nil))))) pss_nil)
      (pss_cons (ps_if (PW.pt (pw_and (pt_cmpR op_in_seq (pv 3) (pe_tup (pa_cons (pe_int) (pa_cons (pe_int) pa_nil))) (by with_unfolding_all rfl)) (pw_and1 (pt_cmpR op_gt (pv 2) (pe_int) (nomark _))))) (pss_cons (ps_set (i := 5) scLwOrder.nd rfl (Or.inl rfl) (pe_op op_add (pe_int) (pe_c cLwTake hr (by decide) rfl (pa_cons (pv 0) (pa_cons (pe_op op_sub (pv 2) (pe_int)) pa_nil)))))
      (pss_cons (ps_par (i := 6) (j := 7) rfl scLwOrder.nd rfl rfl (by decide) rfl rfl (pa_cons (pe_c cLwLooseNet hr (by decide) rfl (pa_cons (pv 0) (pa_cons (pv 5) pa_nil))) (pa_cons (pe_c cLwLooseNet hr (by decide) rfl (pa_cons (pv 0) (pa_cons (pe_op op_sub (pv 2) (pv 5)) pa_nil))) pa_nil)) (by rfl))
      (pss_one (ps_ret (pe_ifExp (pt_cmpR op_eq (pv 3) (pe_int) (nomark _)) (pe_c cLwAside hr (by decide) rfl (pa_cons (pv 6) (pa_cons (pv 7) pa_nil))) (pe_c cLwHeap hr (by decide) rfl (pa_cons (pv 6) (pa_cons (pv 7) pa_nil)))))))) pss_nil)
      hC)), ?_⟩
  intro Q a M kind t H1 hM1 hM hT ht q
  -- kind 0: a tree
  refine ⟨_, rfl, rfl, decide (kind = 0), congrArg V.bl (int_eq_dec kind 0), ?_⟩
  by_cases hk0 : kind = 0
  · rw [decide_eq_true hk0]
    refine iteT ?_
    refine ⟨_, rfl, _, rfl, _, _, rfl, ⟨by omega, by omega, by omega, by omega⟩, fun L hL => ?_⟩
    refine lc_pairs (K := K) (walk_rangeE (k := 1) (n := M - 1) (by omega) (by omega)) 1 M hL hT (fun _ => True.intro) (by omega) (fun j x H4 H5 t4 hj o4 hT4 ht4 y Ky Kn hy hn => ?_) (fun H4 zs qs t4 o4 hT4 ht4 hL4 hzs hql hqr => ?_)
    · obtain ⟨rfl, rfl⟩ := y
      refine ⟨rfl, _, rfl, _, rfl, a, 1 + j, t4, rfl, by omega, by omega, hT4, by omega, fun b H6 hb o6 hT6 => ⟨_, rfl, (by show 2 ≤ sizeLine; decide), fun p hp => ?_⟩⟩
      exact hy (b, 1 + j) hb (by show 1 + j < M; omega) _ _ (t4 + 1) (o6.trans (Off.of_same (same_new hp _))) (hT6.same (same_new hp _)) (by omega) (pair_dp (p := (b, 1 + j)) (SqT.of upd_same))
    · exact ⟨L, zs, M, qs, rfl, SqL.of hL4, hzs, hM, by omega, hqr, fun v H5 e5 hv => q v _ _ _ t4 (o4.trans (Off.of_same e5)) (hT4.same e5) (by omega) (net_good hM hqr) hv⟩
  rw [decide_eq_false hk0]
  refine iteF ?_
  -- kinds 1, 2: two put together
  refine ⟨_, rfl, (by show 2 ≤ sizeLine; decide), fun tp htp => ?_⟩
  have e1 := same_new htp (.tup [.int 1, .int 2])
  have hin : inV (.int (kind : Int)) [.int 1, .int 2] = decide (kind = 1 ∨ kind = 2) := by
    have := inV_nat kind [1, 2]
    show inV (.int (kind : Int)) (Vn [1, 2]) = _
    rw [this]
    exact decide_eq_decide.mpr (by simp)
  refine ⟨tp, [.int 1, .int 2], rfl, .inr (SqT.of upd_same), rfl, rfl, decide (kind = 1 ∨ kind = 2), congrArg V.bl hin, ?_⟩
  have o1 : Off a H1 (upd H1 tp (.tup [.int 1, .int 2])) := Off.of_same e1
  have hT1 := hT.same e1
  have next : ∀ t', TinAt t' (upd H1 tp (.tup [.int 1, .int 2])) a → t' ≤ t → _ := fun t' hT' ht' => rC Q a M kind t' _ hM1 hM hT' (by omega) fun v m ts H' t2 o2 hT2 ht2 g2 hv => q v m ts H' t2 (o1.trans o2) hT2 (by omega) g2 hv
  by_cases hk : kind = 1 ∨ kind = 2
  · rw [decide_eq_true hk]
    refine iteT ⟨_, rfl, _, _, rfl, rfl, decide (3 < M), gt_dec 3 M, ?_⟩
    by_cases hM3 : 3 < M
    · rw [decide_eq_true hM3]
      refine iteT ?_
      refine ⟨_, rfl, _, rfl, _, _, rfl, rfl, a, M - 3, t, congrArg (fun z => [V.ref a, V.int z]) (by omega), by omega, by omega, hT1, by omega, fun r H2 hr2 o2 hT2 => ⟨_, _, rfl, rfl, ?_⟩⟩
      refine ⟨_, rfl, _, rfl, a, 2 + r, t + 1, congrArg (fun z => [V.ref a, V.int z]) (by omega), by omega, hT2, by omega, fun v1 us1 H3 t3 o3 hT3 ht3 g1 hv1 => ?_⟩
      refine ⟨_, rfl, _, rfl, _, rfl, _, _, rfl, rfl, a, M - (2 + r), t3, congrArg (fun z => [V.ref a, V.int z]) (by omega), by omega, hT3, by omega, fun v2 us2 H4 t4 o4 hT4 ht4 g2 hv2 => ⟨_, _, rfl, ?_⟩⟩
      obtain ⟨a1, b1, xs1, rfl, n1⟩ := dp_net (Dp.keep (o4.keep hT3) (noL_net _ _) hv1)
      obtain ⟨a2, b2, xs2, rfl, n2⟩ := dp_net hv2
      have put : ∀ E', spPut K [.ref a1, .ref a2] H4 Q E' := fun E' => ⟨a1, b1, a2, b2, xs1, xs2, 2 + r, M - (2 + r), us1, us2, rfl, n1, n2, g1, g2, by omega, fun v ts' H5 e5 g5 hv => q v _ ts' H5 t4 ((((o1.trans o2).trans o3).trans o4).trans (Off.of_same e5)) (hT4.same e5) (by omega) g5 hv⟩
      refine ⟨_, rfl, rfl, decide (kind = 1), congrArg V.bl (int_eq_dec kind 1), ?_⟩
      by_cases h1 : kind = 1
      · rw [decide_eq_true h1]
        exact iteT ⟨_, rfl, _, rfl, put E0⟩
      · rw [decide_eq_false h1]
        exact iteF ⟨_, rfl, _, rfl, put E0⟩
    · rw [decide_eq_false hM3]
      exact iteF (next t hT1 (Nat.le_refl _))
  · rw [decide_eq_false hk]
    exact iteF (iteF (next t hT1 (Nat.le_refl _)))
theorem ok_law_order (T : Txt mg) (D : Def K mg "_law_order" sLwOrder pLwOrder) (cLwTake : Cal P w K mg base 1 "_law_take" pLwTake spTake) (cLwNet : Cal P w K mg base 1 "_law_net" pLwNet (spNet K)) (cLwAside : Cal P w K mg base 1 "_law_aside" pLwAside (spPut K)) (cLwHeap : Cal P w K mg base 2 "_law_heap" pLwHeap (spPut K)) (cLwLooseNet : Cal P w K mg base 2 "_law_loose_net" pLwLooseNet (spLoose K)) : Cal P w K mg base 3 "_law_order" pLwOrder (spOrder K) := by
  refine cal_of D scLwOrder (fun vs H Q E h => ?_) (fun f cdv A outer s H vs Q E hr h => ?_)
  · obtain ⟨a, t, rfl, _⟩ := h; rfl
  obtain ⟨a, t, rfl, hT, ht, q⟩ := h
  obtain ⟨tC, hC, rC⟩ := order_rest2 T cLwTake cLwNet cLwAside cLwHeap cLwLooseNet f cdv A outer s H E hr
  refine ⟨_, (pss_cons (ps_par (i := 2) (j := 3) rfl scLwOrder.nd rfl rfl (by decide) rfl rfl (pa_cons (pe_op op_add (pe_int) (pe_c cLwTake hr (by decide) rfl (pa_cons (pv 0) (pa_cons (pv 1) pa_nil)))) (pa_cons (pe_c cLwTake hr (by decide) rfl (pa_cons (pv 0) (pa_cons (pe_int) pa_nil))) pa_nil)) (by rfl))
      (pss_cons (ps_if (PW.pt (pw_and (pt_cmpR op_lt (pv 2) (pv 1) (nomark _)) (pw_and1 (pt_cmpR op_gt (pe_c cLwTake hr (by decide) rfl (pa_cons (pv 0) (pa_cons (pe_int) pa_nil))) (pe_int) (nomark _))))) (pss_one (ps_set (i := 2) scLwOrder.nd rfl (Or.inl rfl) (pe_op op_sub (pv 1) (pe_c cLwTake hr (by decide) rfl (pa_cons (pv 0) (pa_cons (pe_int) pa_nil)))))) pss_nil)
      hC)), ?_⟩
  refine ⟨_, rfl, _, rfl, a, 7, t, rfl, by omega, by omega, hT, by omega, fun r H1 hr1 o1 hT1 => ⟨_, _, rfl, rfl, ?_⟩⟩
  refine ⟨_, rfl, a, 8, t + 1, rfl, by omega, by omega, hT1, by omega, fun kind H2 hk2 o2 hT2 => ⟨_, _, rfl, ?_⟩⟩
  have o3 := o1.trans o2
  have next : ∀ (M : Nat) (H' : Hp) (t' : Nat), 1 ≤ M → M ≤ 7 → Off a H2 H' → TinAt t' H' a → t' ≤ t + 4 → tC { nx := fun _ H' => Q .non H', rt := Q } [some (.ref a), some (.int 7), some (.int (M : Int)), some (.int (kind : Int)), none, none, none, none, none] H' := fun M H' t' h1 h2 o hT' ht' =>
    rC Q a M kind t' H' h1 h2 hT' (by omega) fun v m ts H4 t4 o4 hT4 ht4 g4 hv => q v m ts H4 t4 ((o3.trans o).trans o4) hT4 (by omega) g4 hv
  have em : (1 : Int) + (r : Int) = ((1 + r : Nat) : Int) := by omega
  refine ⟨_, rfl, _, rfl, _, _, rfl, rfl, decide (1 + r < 7), congrArg V.bl (decide_eq_decide.mpr (by omega)), ?_⟩
  by_cases hm : 1 + r < 7
  · rw [decide_eq_true hm]
    refine iteT ⟨_, rfl, a, 3, t + 1 + 1, rfl, by omega, by omega, hT2, by omega, fun c H3 hc3 o4 hT3 => ⟨_, _, rfl, rfl, decide (0 < c), gt_dec 0 c, ?_⟩⟩
    by_cases hc : 0 < c
    · rw [decide_eq_true hc]
      refine iteT ⟨_, rfl, _, rfl, a, 2, t + 1 + 1 + 1, rfl, by omega, by omega, hT3, by omega, fun e H4 he o5 hT4 => ⟨_, _, rfl, rfl, ?_⟩⟩
      have := next (7 - e) H4 _ (by omega) (by omega) (o4.trans o5) hT4 (by omega)
      have e7 : ((7 - e : Nat) : Int) = 7 - (e : Int) := by omega
      rw [e7] at this
      exact this
    · rw [decide_eq_false hc]
      refine iteF ?_
      have := next (1 + r) H3 _ (by omega) (by omega) o4 hT3 (by omega)
      rw [← em] at this
      exact this
  · rw [decide_eq_false hm]
    refine iteF (iteF ?_)
    have := next (1 + r) H2 _ (by omega) (by omega) (Off.refl _ _) hT2 (by omega)
    rw [← em] at this
    exact this
end
end K13

set_option Elab.async false
set_option linter.all false
set_option maxRecDepth 100000
set_option maxHeartbeats 4000000
/-! The law's own walk, part 6: picks, wins. -/
namespace K13
open PySem PySem.Spec PyProof.Rows L2 RZ
theorem idx_nat {r n : Nat} (h : r < n) : seqIndex? (r : Int) n = some r := by
  unfold seqIndex?
  have h0 : ¬ (r : Int) < 0 := by omega
  simp [h0, h]
section
variable {P : Program} {w : World} {K : PySem.W.Frag} {mg : Str → Option Value} {base : Heap}
def spPick (K : PySem.W.Frag) : Sp := fun vs H Q _ => ∃ (a g : Addr) (xs : List V) (t : Nat), vs = [.ref a, .ref g, .int 6] ∧ SqL K H g xs ∧ xs.length ≤ 1000 ∧ TinAt t H a ∧ t ≤ 1000 ∧
  ∀ F ys H', Off a H H' → H F = none → H' F = some (.lst ys) → (∀ y ∈ ys, y ∈ xs) → Q (.ref F) H'
theorem ok_law_pick (T : Txt mg) (D : Def K mg "_law_pick" sLwPick pLwPick) (cLwTake : Cal P w K mg base 1 "_law_take" pLwTake spTake) : Cal P w K mg base 2 "_law_pick" pLwPick (spPick K) := by
  refine cal_of D scLwPick (fun vs H Q E h => ?_) (fun f cdv A outer s H vs Q E hr h => ?_)
  · obtain ⟨a, g, xs, t, rfl, _⟩ := h; rfl
  obtain ⟨a, g, xs, t, rfl, hg, hl, hT, ht, q⟩ := h
  refine ⟨_, (pss_cons (ps_par (i := 3) (j := 4) rfl scLwPick.nd rfl rfl (by decide) rfl rfl (pa_cons (pe_callTy call_list_of rfl T.list_ b_list (pa_cons (pv 1) pa_nil)) (pa_cons (pe_lst pa_nil) pa_nil)) (by rfl))
      (pss_cons (ps_for PassesOwn.never rfl (pi_range1 (by rfl) T.range (pa_cons (pe_callB (call_min2 rfl) rfl T.min b_min (pa_cons (pe_callTy call_int1 rfl T.int_ b_int (pa_cons (pv 2) pa_nil)) (pa_cons (pe_callB call_len_seq rfl T.len b_len (pa_cons (pv 3) pa_nil)) pa_nil))) pa_nil)) (pg_name (i := 5) scLwPick.nd rfl (Or.inl rfl)) (pss_one (ps_expr (pe_bm PySem.F.plainAttrs_list PySem.F.slot_list_append PySem.F.type_list_append mt_append (pv 4) (pa_cons (pe_bm PySem.F.plainAttrs_list PySem.F.slot_list_pop PySem.F.type_list_pop mt_popAt (pv 3) (pa_cons (pe_c cLwTake hr (by decide) rfl (pa_cons (pv 0) (pa_cons (pe_callB call_len_seq rfl T.len b_len (pa_cons (pv 3) pa_nil)) pa_nil))) pa_nil)) pa_nil)))))
      (pss_one (ps_ret (pv 4))))), ?_⟩
  refine ⟨_, rfl, g, xs, rfl, .inl hg, fun p hp => ⟨(by show 0 ≤ sizeLine; decide), fun F hF => ⟨_, _, rfl, ?_⟩⟩⟩
  have e1 := (same_new hp (.lst xs)).trans (same_new hF (.lst []))
  have hpF : p ≠ F := fun z => by rw [← z, upd_same] at hF; cases hF
  have hF0 : H F = none := (same_new hp (.lst xs)).free hF
  have hpa := hT.ne hp
  have hFa := hT.ne hF0
  refine ⟨_, rfl, .inl ⟨_, rfl, _, rfl, p, xs, rfl, .inl (SqL.of (by rw [upd_ne hpF, upd_same])), _, _, rfl, ?_⟩⟩
  have hN : ∃ N : Nat, (if (xs.length : Int) < 6 then (xs.length : Int) else 6) = (N : Int) ∧ N ≤ 6 ∧ N ≤ xs.length := by
    by_cases h : (xs.length : Int) < 6
    · exact ⟨xs.length, by rw [if_pos h], by omega, Nat.le_refl _⟩
    · exact ⟨6, by rw [if_neg h]; rfl, Nat.le_refl _, by omega⟩
  obtain ⟨N, hN1, hN2, hN3⟩ := hN
  refine ⟨_, congrArg (fun z => [V.int z]) hN1, by omega, by omega, ?_⟩
  rw [Int.toNat_natCast]
  refine for_it (walk_range0 (n := N)) (fun i σ H' => ∃ v5 pool ys t', σ = [some (.ref a), some (.ref g), some (.int 6), some (.ref p), some (.ref F), v5] ∧ Off a H H' ∧ TinAt t' H' a ∧ t' ≤ t + i ∧ H' p = some (.lst pool) ∧ pool.length + i = xs.length ∧ (∀ y ∈ pool, y ∈ xs) ∧ H' F = some (.lst ys) ∧ ys.length = i ∧ ∀ y ∈ ys, y ∈ xs)
    ⟨_, xs, [], t, rfl, Off.of_same e1, hT.same e1, by omega, by rw [upd_ne hpF, upd_same], by omega, fun _ h => h, upd_same, rfl, fun _ h => by cases h⟩ (fun _ _ _ _ _ => True.intro) (fun i x σ H1 H2 hi h y => ?_) (fun σ H1 h => ?_)
  · obtain ⟨v5, pool, ys, t', rfl, o1, hT1, ht1, hp1, hpl, hps, hF1, hyl, hys⟩ := h
    obtain ⟨rfl, rfl⟩ := y
    refine ⟨_, rfl, tyv_list (SqL.of hF1), _, rfl, tyv_list (SqL.of hp1), _, rfl, _, rfl, p, pool, rfl, .inl (SqL.of hp1), a, pool.length, t', rfl, by omega, by omega, hT1, by omega, fun r H2 hr2 o2 hT2 => ?_⟩
    have hp2 := o2 _ _ hpa hp1
    have hF2 := o2 _ _ hFa hF1
    have hget : pool[r]? = some pool[r] := List.getElem?_eq_getElem hr2
    refine ⟨p, pool, (r : Int), r, pool[r], rfl, rfl, hp2, by omega, by omega, idx_nat hr2, hget, ?_⟩
    refine ⟨F, ys, pool[r], rfl, rfl, by rw [upd_ne (fun z => hpF z.symm)]; exact hF2, Evl.sz_lt (by omega), _, pool.eraseIdx r, ys ++ [pool[r]], t' + 1, rfl, ((o1.trans o2).upd2 hp).upd2 hF0, ?_, by omega, ?_, ?_, fun y hy => hps y (List.mem_of_mem_eraseIdx hy), upd_same, by rw [List.length_append, hyl]; rfl, fun y hy => ?_⟩
    · obtain ⟨b, s, c', h1, h2, h3⟩ := hT2
      exact ⟨b, s, c', by rw [upd_ne (fun z => hFa z.symm), upd_ne (fun z => hpa z.symm)]; exact h1, h2, h3⟩
    · rw [upd_ne hpF, upd_same]
    · rw [List.length_eraseIdx_of_lt hr2]; omega
    · rcases List.mem_append.mp hy with h | h
      · exact hys y h
      · rw [List.mem_singleton] at h
        rw [h]
        exact hps _ (List.getElem_mem _)
  · obtain ⟨v5, pool, ys, t', rfl, o1, hT1, ht1, hp1, hpl, hps, hF1, hyl, hys⟩ := h
    exact ⟨_, rfl, q F ys _ o1 hF0 hF1 hys⟩
abbrev wb (m : Nat) (ts : Ties) (b : Nat) : V := .bl (decide (W m ts b ≠ 0))
def spWins (K : PySem.W.Frag) : Sp := fun vs H Q _ => ∃ (a b : Addr) (xs : List V) (m : Nat) (ts : Ties) (c : Nat), vs = [.ref a, .int (c : Int)] ∧ NetAt K H a b xs m ts ∧ Good m ts ∧ c ∈ lefts m ts ∧ ∀ H', Same H H' → Q (wb m ts c) H'
theorem wins_data {m : Nat} {ts : Ties} (g : Good m ts) {c : Nat} (hc : c ∈ lefts m ts) : (!((List.range m).filter fun j => c.testBit j && !decide (W m ts (cutN c (up m ts j)) ≠ 0)).isEmpty) = decide (W m ts c ≠ 0) := by
  have hc2 := (mem_lefts.mp hc).1
  by_cases h : W m ts c ≠ 0
  · rw [decide_eq_true h]
    obtain ⟨k, hk, h0⟩ := (won_iff g hc).mp h
    have hm : k ∈ (List.range m).filter fun j => c.testBit j && !decide (W m ts (cutN c (up m ts j)) ≠ 0) := by
      rw [List.mem_filter]
      exact ⟨List.mem_range.mpr (pcs_lt hc2 hk), by rw [mem_pcs.mp hk, h0]; rfl⟩
    cases hl : (List.range m).filter fun j => c.testBit j && !decide (W m ts (cutN c (up m ts j)) ≠ 0) with
    | nil => rw [hl] at hm; cases hm
    | cons _ _ => rfl
  · rw [decide_eq_false h]
    have : ((List.range m).filter fun j => c.testBit j && !decide (W m ts (cutN c (up m ts j)) ≠ 0)) = [] := by
      rw [List.filter_eq_nil_iff]
      intro j _ hj
      rw [Bool.and_eq_true] at hj
      exact h ((won_iff g hc).mpr ⟨j, mem_pcs.mpr hj.1, by simpa using hj.2⟩)
    rw [this]; rfl
theorem ok_law_wins (T : Txt mg) (D : Def K mg "_law_wins" sLwWins pLwWins) (cLwUps : Cal P w K mg base 1 "_law_ups" pLwUps (spTops K)) (cLwLefts : Cal P w K mg base 2 "_law_lefts" pLwLefts (spLefts K)) : Cal P w K mg base 3 "_law_wins" pLwWins (spWins K) := by
  refine cal_of D scLwWins (fun vs H Q E h => ?_) (fun f cdv A outer s H vs Q E hr h => ?_)
  · obtain ⟨a, b, xs, m, ts, c, rfl, _⟩ := h; rfl
  obtain ⟨a, b, xs, m, ts, c0, rfl, n, hg, hc0, q⟩ := h
  have hu := hu_of hr
  have hm := hg.le
  have hpw := pow_le7 hm
  have hll := lefts_len m ts
  refine ⟨_, (pss_cons (ps_asg (pe_tup (pa_cons (pe_c cLwUps hr (by decide) rfl (pa_cons (pv 0) pa_nil)) (pa_cons (pe_dnewK) pa_nil))) (pg_tup rfl (pgs_cons (pg_name (i := 2) scLwWins.nd rfl (Or.inr rfl)) (pgs_cons (pg_name (i := 3) scLwWins.nd rfl (Or.inr rfl)) pgs_nil))))
      (pss_cons (ps_for PassesOwn.never rfl (pi_list (pe_c cLwLefts hr (by decide) rfl (pa_cons (pv 0) pa_nil))) (pg_name (i := 4) scLwWins.nd rfl (Or.inr rfl)) (pss_one (ps_dput hu (pv 3) (pv 4) (pe_cmpR (op_neD hr.units) (pe_lc (own := [("_law_k", 5)]) rfl scLwWins.nd (pi_range1 (by rfl) T.range (pa_cons (pe_ix ix_tup (pv 0) (pe_int) (fun _ _ => rfl)) pa_nil)) (blkOk_by (N := nLwWins) (sc := defScope sLwWins) (by decide +kernel)) (fun _ _ _ _ _ => pg_name (i := 5) scLwWins.nd rfl (Or.inl rfl)) (fun _ _ _ _ _ => pts_one (PW.pt (pw_and (pt_cmpR op_eq (pe_op op_andN (pe_op op_shrM (pv 4) (pv 5)) (pe_int)) (pe_int) (nomark _)) (pw_and1 (pt_not (pt_val (pe_dget hu (pv 3) (pe_op op_cut (pv 4) (pe_un un_inv (pe_ix (r := rIxL K) ix_list (pv 2) (pv 5) (fun _ _ => rfl)))) (fun _ _ => rfl)))))))) (fun _ _ _ _ _ => pv 5)) (pe_lst pa_nil) (nomark _)) rfl)))
      (pss_one (ps_ret (pe_dget hu (pv 3) (pv 1) (fun _ _ => rfl)))))), ?_⟩
  refine ⟨_, rfl, a, b, xs, m, ts, rfl, n, hg, fun U H1 e1 hU d hd => ⟨(by show 2 ≤ sizeLine; decide), fun t ht => ⟨t, _, rfl, SqT.of upd_same, rfl, _, _, rfl, _, _, rfl, rfl, ?_⟩⟩⟩
  have e2 : Same H1 (upd (upd H1 d (.dK [])) t (.tup [.ref U, .ref d])) := (same_new hd _).trans (same_new ht _)
  have htd : d ≠ t := ne_of_none upd_same ht
  have hd2 : (upd (upd H1 d (.dK [])) t (.tup [.ref U, .ref d])) d = some (.dK []) := by rw [upd_ne htd, upd_same]
  refine ⟨_, rfl, a, b, xs, m, ts, rfl, n.same (e1.trans e2), hg, fun Lf H2 e3 hLf => ?_⟩
  have hd3 := e3 _ _ hd2
  have hLd : Lf ≠ d := fun z => by rw [z, hd3] at hLf; cases hLf
  refine ⟨Lf, rfl, ⟨_, SqL.of hLf⟩, for_it (walk_list (K := K) (xs := Vn (lefts m ts))) (fun i σ H' => ∃ v4 v5, σ = [some (.ref a), some (.int (c0 : Int)), some (.ref U), some (.ref d), v4, v5] ∧ Same H1 H' ∧ H' Lf = some (.lst (Vn (lefts m ts))) ∧ H' d = some (.dK (kvs (wb m ts) ((lefts m ts).take i))))
    ⟨_, _, rfl, e2.trans e3, hLf, hd3⟩ (fun i σ H' _ h => SqL.of h.choose_spec.choose_spec.2.2.1) (fun i x σ H' H'' hi h y => ?_) (fun σ H' h => ?_)⟩
  · obtain ⟨v4, v5, rfl, e4, hLf', hdd⟩ := h
    obtain ⟨rfl, hx⟩ := y
    rw [List.getElem?_map] at hx
    obtain ⟨c, hc, rfl⟩ := Option.map_eq_some_iff.mp hx
    have hcm := List.mem_of_getElem? hc
    have hc2 := (mem_lefts.mp hcm).1
    refine ⟨_, rfl, a, _, _, _, rfl, rfl, (n.same (e1.trans e4)).top, atI_nat (j := 0) rfl, _, rfl, by omega, by omega, fun L hL => ?_⟩
    rw [Int.toNat_natCast]
    refine lc_data (K := K) (walk_range0 (n := m)) hL (fun _ _ => True.intro) (by omega) (fun i => if (c.testBit i && !decide (W m ts (cutN c (up m ts i)) ≠ 0)) = true then some (.int (i : Int)) else none) (fun j d _ e => by split at e <;> cases e; rfl) (fun i x H5 H6 hi e6 y Ky Kn hy hn => ?_) (fun H5 ys e5 hL5 hys => ?_)
    · obtain ⟨rfl, rfl⟩ := y
      refine ⟨rfl, _, rfl, _, rfl, c, i, rfl, rfl, c / 2 ^ i, 1, rfl, rfl, ?_⟩
      rw [shr_odd]
      refine one_bit ?_
      cases hbi : c.testBit i with
      | false => exact iteF (iteF (hn (by rw [hbi]; rfl) _ (Same.refl _)))
      | true =>
        have hk := mem_pcs.mpr hbi
        obtain ⟨b1, b2⟩ := bite_left hg hcm hk
        have g1 := DGet.k (k := Sum.inl ((cutN c (up m ts i) : Nat) : Int)) (e6 _ _ hdd)
        rw [kvs_val, if_pos (mem_take_lt (lefts_asc m ts) hc b1 b2)] at g1
        refine iteT ⟨_, rfl, _, rfl, _, rfl, _, rfl, U, _, _, _, rfl, rfl, SqL.of ((e4.trans e6) _ _ hU), atI_nat (vn_get (i := i) (by rw [ups_length]; exact hi)), _, rfl, _, _, rfl, rfl, _, _, rfl, g1, decide (W m ts (cutN c (up m ts i)) ≠ 0), rfl, ?_⟩
        cases hw : decide (W m ts (cutN c (up m ts i)) ≠ 0) with
        | true => exact iteF (hn (by rw [hbi, hw]; rfl) _ (Same.refl _))
        | false => exact iteT ⟨_, rfl, hy _ (by rw [hbi, hw]; rfl) _ _ (Same.refl _) (.int _)⟩
    rw [fm_if (fun j => c.testBit j && !decide (W m ts (cutN c (up m ts j)) ≠ 0)) (fun k => PyData.int (k : Nat))] at hys
    have hfl := List.length_filter_le (fun j => c.testBit j && !decide (W m ts (cutN c (up m ts j)) ≠ 0)) (List.range m)
    rw [List.length_range] at hfl
    refine ⟨(by show 0 ≤ sizeLine; decide), fun E0 hE0 => ?_⟩
    have e7 := e5.trans (same_new hE0 (.lst []))
    refine ⟨_, .list [], Dp.same (same_new hE0 _) (dpa_list_dp hL5 hys), .lst (SqL.of upd_same) .nil, okD_shaped (okD_ints _ (by omega)) (by omega), rfl, ?_⟩
    have hd8 := e7 _ _ hdd
    have hnt := not_in_take ((lefts_asc m ts).imp fun {a b} z => Nat.ne_of_lt z) hc
    have htl : ((lefts m ts).take i).length ≤ 128 := by have := List.length_take_le' i (lefts m ts); omega
    have hval : V.bl (!PyData.eqv (.list (((List.range m).filter fun j => c.testBit j && !decide (W m ts (cutN c (up m ts j)) ≠ 0)).map fun (k : Nat) => PyData.int (k : Int))) (.list [])) = wb m ts c := by
      rw [eqv_nil, wins_data hg hcm]
    refine ⟨_, rfl, _, rfl, d, _, rfl, DPut.k (k := Sum.inl (c : Int)) hd8 (by rw [kvs_len]; exact Evl.sz_lt (by omega)), _, _, rfl, same_upd (e4.trans e7) hd, ?_, ?_⟩
    · rw [upd_ne hLd]
      exact e7 _ _ hLf'
    · rw [upd_same, List.take_succ, hc]
      refine congrArg (fun z => some (HO.dK z)) ?_
      rw [hval]
      exact kvs_snoc (wb m ts) _ c hnt
  · obtain ⟨v4, v5, rfl, e4, hLf', hdd⟩ := h
    rw [List.length_map, List.take_length] at hdd
    have g1 := DGet.k (k := Sum.inl (c0 : Int)) hdd
    rw [kvs_val, if_pos hc0] at g1
    exact ⟨_, rfl, _, rfl, _, _, rfl, g1, q _ (e1.trans e4)⟩
end
end K13

set_option Elab.async false
set_option linter.all false
set_option maxRecDepth 100000
set_option maxHeartbeats 4000000
/-! The law's own walk, part 7: what is drawn is right. -/
namespace K13
open PySem PySem.Spec PyProof.Rows L2 RZ
/-- the scope of a comprehension that a statement sets -/
def lcScope : Stmt → Scope
  | .Assign _ (.ListComp _ _ sc _) _ => sc
  | st => defScope st
/-- .. as it stands inside a def -/
def lcScopeIn (st : Stmt) (o : Scope) : Scope := { lcScope st with names := (lcScope st).names.map fun (n, k) => if (k == .free && o.kind == .function && o.names.lookup n == some .cell) then (n, .cell) else (n, k) }
theorem pi_listK {X : Cx} {K : PySem.W.Frag} {tg l : Expr} {tl : TE} (hK : X.K = K) (hl : PE X l tl) : PI X tg l (iList K tl) := by
  subst hK; exact pi_list hl
def rLenK (K : PySem.W.Frag) : List V → Hp → VK → Prop := fun xs H Q => ∃ p ys, xs = [.ref p] ∧ (SqL K H p ys ∨ SqT K H p ys) ∧ Q (.int ys.length) H
theorem call_len_seqK {X : Cx} {K : PySem.W.Frag} (hK : X.K = K) : CallR X (.builtin "len") (rLenK K) := by
  subst hK; exact call_len_seq
/-- a row: the tuple of a left's pieces, its worth -/
def RowAt (m : Nat) (ts : Ties) (H : Hp) (v : V) (b : Nat) : Prop := ∃ t p, v = .ref t ∧ Rd H t (.tup [.ref p, wv m ts b]) ∧ Rd H p (.tup (Vn (pcs b)))
theorem RowAt.keep {m : Nat} {ts : Ties} {H H' : Hp} {v : V} {b : Nat} (e : KeepT H H') (h : RowAt m ts H v b) : RowAt m ts H' v b := by
  obtain ⟨t, p, rfl, h1, h2⟩ := h
  exact ⟨t, p, rfl, e _ _ h1, e _ _ h2⟩
theorem RowAt.uniq {m : Nat} {ts : Ties} {H : Hp} {v : V} {b c : Nat} (h : RowAt m ts H v b) (k : RowAt m ts H v c) : b = c := by
  obtain ⟨t, p, rfl, h1, h2⟩ := h
  obtain ⟨t', p', e, k1, k2⟩ := k
  cases e
  have e1 := rd_fun h1 k1
  have e2 : V.ref p = V.ref p' := (List.cons.inj e1).1
  cases e2
  exact pcs_inj (vn_inj (rd_fun h2 k2))
noncomputable def rowB (m : Nat) (ts : Ties) (H : Hp) (x : V) : Nat := by
  classical
  exact if h : ∃ b, RowAt m ts H x b then h.choose else 0
theorem rowB_eq {m : Nat} {ts : Ties} {H : Hp} {x : V} {b : Nat} (h : RowAt m ts H x b) : rowB m ts H x = b := by
  have e : ∃ b, RowAt m ts H x b := ⟨b, h⟩
  unfold rowB
  rw [dif_pos e]
  exact e.choose_spec.uniq h
theorem okE_int {n : Nat} {i : Int} : okE (n + 1) (.int i) := True.intro
theorem okE_bool {n : Nat} {b : Bool} : okE (n + 1) (.bool b) := True.intro
theorem okE_ns {n : Nat} {l : List Nat} (h : l.length ≤ 1000) : okE (n + 2) (nsD l) := ⟨by rw [List.length_map]; exact h, fun d hd => by
  obtain ⟨k, _, rfl⟩ := List.mem_map.mp hd
  exact True.intro⟩
def lostD (bs : List Nat) : PyData := .list (bs.map fun b => nsD (pcs b))
theorem okE_lost {n : Nat} {bs : List Nat} (h : bs.length ≤ 1000) (k : ∀ b ∈ bs, (pcs b).length ≤ 1000) : okE (n + 3) (lostD bs) := ⟨by rw [List.length_map]; exact h, fun d hd => by
  obtain ⟨b, hb, rfl⟩ := List.mem_map.mp hd
  exact okE_ns (k b hb)⟩
theorem paired_getR {α β : Type} {F : α → β → Prop} {xs : List α} {ls : List β} (h : Paired F xs ls) : xs.length = ls.length := h.length
section
variable {P : Program} {w : World} {K : PySem.W.Frag} {mg : Str → Option Value} {base : Heap}
theorem right_rest7 (T : Txt mg) (cLwPick : Cal P w K mg base 2 "_law_pick" pLwPick (spPick K)) (cLwLists : Cal P w K mg base 4 "_law_lists" pLwLists (spLists K 4)) (kWorthLeft : CalK P w K mg base 8 "worth_left" pWorthLeft ["left", "order"] List.reverse (spWorthLeft K)) (kIsWon : CalK P w K mg base 9 "is_won" pIsWon ["left", "order"] List.reverse (spIsWon K))
    (cLwSame : Cal P w K mg base 4 "_law_same" pLwSame (spSame K 4)) (cLwWins : Cal P w K mg base 3 "_law_wins" pLwWins (spWins K)) (cLwBits : Cal P w K mg base 1 "_law_bits" pLwBits (spBits K))
    (f : Addr) (cdv : Value) (A : Around) (outer : List Env) (s : Shared) (H : Hp) (E : XK) (hr : Room 9 (A.deeper (envOfC "_law_right" (defScope sLwRight) s.heap.objs.size f cdv))) :
    ∃ tC, PSs (cxOf CX0 P w K mg base nLwRight "_law_right" (defScope sLwRight) f cdv A outer s H E).nox ((defBody sLwRight).drop 7) tC ∧
      ∀ (Q : VK) (a a1 b1 R : Addr) (xs1 ys : List V) (soft : V) (m t : Nat) (ts : Ties) (bs : List Nat) (v2 v5 v6 v7 v8 v9 v10 v11 : Option V) (H1 : Hp), NetAt K H1 a1 b1 xs1 m ts → Good m ts → (∀ H2, Off a H1 H2 → Dp K H2 soft (netL m ts)) → H1 R = some (.lst ys) → Paired (RowAt m ts H1) ys bs → (∀ b ∈ bs, b ∈ lefts m ts) → bs.length ≤ 1000 →
        TinAt t H1 a → t ≤ 1000 → (∀ H', Q (.bl true) H') → tC { nx := fun _ H' => Q .non H', rt := Q } [some (.ref a), some (.ref a1), v2, some soft, some (.ref R), v5, v6, v7, v8, v9, v10, v11] H1 := by
  refine ⟨_, (pss_cons (ps_for PassesOwn.never rfl (pi_list (pe_c cLwPick hr (by decide) rfl (pa_cons (pv 0) (pa_cons (pv 4) (pa_cons (pe_int) pa_nil))))) (pg_tup rfl (pgs_cons (pg_name (i := 10) scLwRight.nd rfl (Or.inl rfl)) (pgs_cons (pg_name (i := 11) scLwRight.nd rfl (Or.inl rfl)) pgs_nil))) (pss_cons (ps_set (i := 6) scLwRight.nd rfl (Or.inl rfl) (pe_lst (pa_cons (pe_ck kWorthLeft hr (by decide) rfl (pk_cons (pe_c cLwLists hr (by decide) rfl (pa_cons (pv 10) pa_nil)) (pk_cons (pv 1) pk_nil))) (pa_cons (pe_ck kIsWon hr (by decide) rfl (pk_cons (pv 10) (pk_cons (pv 3) pk_nil))) pa_nil))))
      (pss_one (ps_if (pt_not (pt_val (pe_c cLwSame hr (by decide) rfl (pa_cons (pv 6) (pa_cons (pe_lst (pa_cons (pv 11) (pa_cons (pe_c cLwWins hr (by decide) rfl (pa_cons (pv 1) (pa_cons (pe_c cLwBits hr (by decide) rfl (pa_cons (pv 10) pa_nil)) pa_nil))) pa_nil))) pa_nil))))) (pss_one (ps_ret (pe_bl))) pss_nil))))
      (pss_one (ps_ret (pe_bl)))), ?_⟩
  intro Q a a1 b1 R xs1 ys soft m t ts bs v2 v5 v6 v7 v8 v9 v10 v11 H1 n1 hg hsoft hR hrows hbs hbl hT ht q
  have htl := ties_len hg
  have hyl := hrows.length
  refine ⟨_, rfl, _, rfl, a, R, ys, t, rfl, SqL.of hR, by omega, hT, ht, fun F zs H2 o2 hF hzs hmem => ⟨F, rfl, ⟨_, SqL.of hzs⟩, ?_⟩⟩
  have kt := o2.keep hT
  have n2 := n1.keep kt
  refine for_it (walk_list (K := K) (xs := zs)) (fun i σ H' => ∃ v6 v10 v11, σ = [some (.ref a), some (.ref a1), v2, some soft, some (.ref R), v5, v6, v7, v8, v9, v10, v11] ∧ Same H2 H')
    ⟨_, _, _, rfl, Same.refl _⟩ (fun i σ H' _ h => SqL.of (h.choose_spec.choose_spec.choose_spec.2 _ _ hzs)) (fun i x σ H3 H4 hi h y => ?_) (fun σ H3 h => ?_)
  · obtain ⟨v6, v10, v11, rfl, e3⟩ := h
    obtain ⟨rfl, hx⟩ := y
    obtain ⟨b, hb, hrow⟩ := paired_left hrows x (hmem x (List.mem_of_getElem? hx))
    obtain ⟨t1, p, rfl, hr1, hr2⟩ := hrow.keep (kt.trans (KeepT.of_same e3))
    have hbl2 := hbs b hb
    obtain ⟨p1, p2, _⟩ := pcs_le7 hg hbl2
    have hm := hg.le
    have n3 := n2.same e3
    refine ⟨t1, _, rfl, .inl hr1, rfl, _, _, rfl, _, _, rfl, rfl, ?_⟩
    have hp3 : SqT K H4 p (Vn (pcs b)) := .inl hr2
    refine ⟨_, rfl, .ref p, nsD (pcs b), rfl, ns_dp hp3, okD_mono (okD_mono (ok_ns (by omega))), fun y H5 e5 hy => ?_⟩
    rw [lst_ns] at hy
    have n5 := n3.same e5
    refine ⟨_, rfl, .ref a1, y, netD m ts, nsL (pcs b), m, ts, b, rfl, n5.dp, .inl rfl, hg, Dp.same nw_same hy, .inr rfl, hbl2, fun H6 e6 => ?_⟩
    have hs6 := hsoft H6 (o2.trans (Off.of_same (e3.trans (e5.trans e6))))
    refine ⟨_, rfl, _, rfl, soft, .ref p, netL m ts, nsD (pcs b), m, ts, b, rfl, hs6, .inr rfl, hg, ns_dp (seqT (e5.trans e6) hp3), .inl rfl, hbl2, fun H7 e7 => ⟨(by show 2 ≤ sizeLine; decide), fun g hgn => ?_⟩⟩
    have e8 := same_new hgn (.lst [wv m ts b, .bl (decide (W m ts b ≠ 0))])
    have e9 := (e5.trans e6).trans (e7.trans e8)
    refine ⟨_, rfl, _, rfl, _, rfl, _, rfl, p, pcs b, rfl, .inr (seqT e9 hp3), by omega, fun x hx => by have := p2 x hx; omega, fun H9 e10 => ?_⟩
    refine ⟨a1, b1, xs1, m, ts, b, congrArg (fun z : Nat => [V.ref a1, V.int (z : Int)]) (pows_pcs b), (n3.same e9).same e10, hg, hbl2, fun H10 e11 => ⟨(by show 2 ≤ sizeLine; decide), fun du hdu => ?_⟩⟩
    have e12 := same_new hdu (.lst [wv m ts b, wb m ts b])
    have hg2 := (e10.trans (e11.trans e12)) _ _ (upd_same (H := H7) (a := g) (o := .lst [wv m ts b, .bl (decide (W m ts b ≠ 0))]))
    refine ⟨.ref g, .ref du, .list [.int (W m ts b : Nat), .bool (decide (W m ts b ≠ 0))], rfl, .lst (SqL.of hg2) (.cons (.int _) (.cons (.bl _) .nil)), .lst (SqL.of upd_same) (.cons (.int _) (.cons (.bl _) .nil)), ⟨by simp, fun d hd => ?_⟩, fun H11 e13 => ⟨true, rfl, iteF ⟨_, _, _, rfl, ?_⟩⟩⟩
    · simp at hd
      rcases hd with rfl | rfl <;> exact True.intro
    · exact e3.trans (e9.trans (e10.trans (e11.trans (e12.trans e13))))
  · obtain ⟨v6, v10, v11, rfl, e3⟩ := h
    exact q _
end
end K13

set_option Elab.async false
set_option linter.all false
set_option maxRecDepth 100000
set_option maxHeartbeats 4000000
/-! The law's own walk, part 8: what is drawn is right, put together. -/
namespace K13
open PySem PySem.Spec PyProof.Rows L2 RZ
theorem rows_count {m : Nat} {ts : Ties} {bs : List Nat} (hp : bs.Perm (lefts m ts)) (k : Nat) : (bs.filter fun b => W m ts b == k).length = (worthsL m ts).count k := by
  have h1 : (bs.filter fun b => W m ts b == k).length = (bs.map (W m ts)).count k := by
    rw [List.count_eq_countP, List.countP_map, List.countP_eq_length_filter]; rfl
  rw [h1]
  exact (hp.map (W m ts)).count_eq k
theorem rows_ne {m : Nat} {ts : Ties} : worthsL m ts ≠ [] := fun h => by
  have h0 : W m ts 0 ∈ worthsL m ts := List.mem_map.mpr ⟨0, zero_left m ts, rfl⟩
  rw [h] at h0; cases h0
section
variable {P : Program} {w : World} {K : PySem.W.Frag} {mg : Str → Option Value} {base : Heap}
def spRight : Sp := fun vs H Q _ => ∃ (a : Addr), vs = [.ref a] ∧ TinAt 0 H a ∧ ∀ H', Q (.bl true) H'
theorem ok_law_right (T : Txt mg) (D : Def K mg "_law_right" sLwRight pLwRight) (cLwPick : Cal P w K mg base 2 "_law_pick" pLwPick (spPick K)) (cLwLists : Cal P w K mg base 4 "_law_lists" pLwLists (spLists K 4)) (kWorthLeft : CalK P w K mg base 8 "worth_left" pWorthLeft ["left", "order"] List.reverse (spWorthLeft K)) (kIsWon : CalK P w K mg base 9 "is_won" pIsWon ["left", "order"] List.reverse (spIsWon K))
    (cLwSame : Cal P w K mg base 4 "_law_same" pLwSame (spSame K 4)) (cLwWins : Cal P w K mg base 3 "_law_wins" pLwWins (spWins K)) (cLwBits : Cal P w K mg base 1 "_law_bits" pLwBits (spBits K))
    (cLwOrder : Cal P w K mg base 3 "_law_order" pLwOrder (spOrder K)) (cLwWorths : Cal P w K mg base 3 "_law_worths" pLwWorths (spWorths K)) (cLwPieces : Cal P w K mg base 1 "_law_pieces" pLwPieces (spPieces K))
    (kWorth : CalK P w K mg base 7 "worth" pWorth ["order"] id (spWorth K)) (kLostLefts : CalK P w K mg base 7 "lost_lefts" pLostLefts ["order"] id (spLost K)) (kByWorth : CalK P w K mg base 7 "by_worth" pByWorth ["order"] id (spByWorth K)) : Cal P w K mg base 10 "_law_right" pLwRight spRight := by
  refine cal_of D scLwRight (fun vs H Q E h => ?_) (fun f cdv A outer s H vs Q E hr h => ?_)
  · obtain ⟨a, rfl, _⟩ := h; rfl
  obtain ⟨a, rfl, hT, q⟩ := h
  have hu := hu_of hr
  obtain ⟨tC, hC, rC⟩ := right_rest7 T cLwPick cLwLists kWorthLeft kIsWon cLwSame cLwWins cLwBits f cdv A outer s H E hr
  refine ⟨_, (pss_cons (ps_set (i := 1) scLwRight.nd rfl (Or.inl rfl) (pe_c cLwOrder hr (by decide) rfl (pa_cons (pv 0) (pa_cons (pe_int) pa_nil))))
      (pss_cons (ps_asg (pe_tup (pa_cons (pe_c cLwWorths hr (by decide) rfl (pa_cons (pv 1) pa_nil)) (pa_cons (pe_c cLwLists hr (by decide) rfl (pa_cons (pv 1) pa_nil)) pa_nil))) (pg_tup rfl (pgs_cons (pg_name (i := 2) scLwRight.nd rfl (Or.inr rfl)) (pgs_cons (pg_name (i := 3) scLwRight.nd rfl (Or.inl rfl)) pgs_nil))))
      (pss_cons (ps_set (i := 4) scLwRight.nd rfl (Or.inr rfl) (pe_callB (cr_sortPr hr.units) rfl T.sorted b_sorted (pa_cons (pe_lock (pe_lc (own := [("_law_own", 5)]) rfl scLwRight.nd (pi_keys (pv 2)) (blkOk_by (N := nLwRight) (sc := defScope sLwRight) (by decide +kernel)) (fun _ _ _ _ _ => pg_name (i := 5) scLwRight.nd rfl (Or.inl rfl)) (fun _ _ _ _ _ => pts_nil) (fun _ _ _ _ _ => pe_tup (pa_cons (pe_c cLwPieces hr (by decide) rfl (pa_cons (pv 5) pa_nil)) (pa_cons (pe_dget hu (pv 2) (pv 5) (fun _ _ => rfl)) pa_nil))))) pa_nil)))
      (pss_cons (ps_set (i := 6) scLwRight.nd rfl (Or.inl rfl) (pe_lst (pa_cons (pe_ck kWorth hr (by decide) rfl (pk_cons (pv 3) pk_nil)) (pa_cons (pe_ck kLostLefts hr (by decide) rfl (pk_cons (pv 3) pk_nil)) (pa_cons (pe_ck kByWorth hr (by decide) rfl (pk_cons (pv 1) pk_nil)) pa_nil)))))
      (pss_cons (ps_set (i := 7) scLwRight.nd rfl (Or.inl rfl) (pe_callB (cr_max rfl) rfl T.max b_max (pa_cons (pe_lc (own := [("_law_own", 5)]) rfl scLwRight.nd (pi_list (pv 4)) (blkOk_by (N := nLwRight) (sc := defScope sLwRight) (by decide +kernel)) (fun _ _ _ _ _ => pg_name (i := 5) scLwRight.nd rfl (Or.inl rfl)) (fun _ _ _ _ _ => pts_nil) (fun _ _ _ _ _ => pe_ix (r := rIxT K) ix_tup (pv 5) (pe_int) (fun _ _ => rfl))) pa_nil)))
      (pss_cons (ps_setLc (i := 8) (own := [("_law_k", 9)]) rfl scLwRight.nd rfl rfl (sw_true rfl rfl rfl (by decide +kernel)) (pi_range1 (by rfl) T.range (pa_cons (pe_op op_add (pv 7) (pe_int)) pa_nil)) (blkOk_by (N := nLwRight) (sc := defScope sLwRight) (by decide +kernel)) (fun _ _ _ _ _ => pg_name (i := 9) scLwRight.nd rfl (Or.inr rfl)) (fun _ _ _ _ _ => pts_nil) (fun _ _ _ _ _ => pe_callB (call_len_seqK (K := K) rfl) rfl T.len b_len (pa_cons (pe_lc (own := [("_law_own", 5)]) rfl scLwRight.nd (pi_listK (K := K) rfl (pv 4)) (blkOk_by (N := nLwRight) (sc := lcScopeIn ((defBody sLwRight).getD 5 (.Pass ⟨0, 0, 0, 0⟩)) (defScope sLwRight)) (by decide +kernel)) (fun _ _ _ _ _ => pg_name (i := 5) scLwRight.nd rfl (Or.inl rfl)) (fun _ _ _ _ _ => pts_one (pt_cmpR op_eq (pe_ix (r := rIxT K) ix_tup (pv 5) (pe_int) (fun _ _ => rfl)) (pv 9) (nomark _))) (fun _ _ _ _ _ => pe_int)) pa_nil)))
      (pss_cons (ps_if (pt_not (pt_val (pe_c cLwSame hr (by decide) rfl (pa_cons (pv 6) (pa_cons (pe_lst (pa_cons (pe_dget hu (pv 2) (pe_op op_sub (pe_op op_shlP (pe_int) (pe_ix ix_tup (pv 1) (pe_int) (fun _ _ => rfl))) (pe_int)) (fun _ _ => rfl)) (pa_cons (pe_lc (own := [("_law_own", 5)]) rfl scLwRight.nd (pi_list (pv 4)) (blkOk_by (N := nLwRight) (sc := defScope sLwRight) (by decide +kernel)) (fun _ _ _ _ _ => pg_name (i := 5) scLwRight.nd rfl (Or.inl rfl)) (fun _ _ _ _ _ => pts_one (pt_cmpR op_eq (pe_ix (r := rIxT K) ix_tup (pv 5) (pe_int) (fun _ _ => rfl)) (pe_int) (nomark _))) (fun _ _ _ _ _ => pe_ix (r := rIxT K) ix_tup (pv 5) (pe_int) (fun _ _ => rfl))) (pa_cons (pe_callTy call_tuple_of rfl T.tuple_ b_tuple (pa_cons (pv 8) pa_nil)) pa_nil)))) pa_nil))))) (pss_one (ps_ret (pe_bl))) pss_nil)
      hC))))))), ?_⟩
  refine ⟨_, rfl, a, 0, rfl, hT, by omega, fun v m ts H1 t1 o1 hT1 ht1 hg hv => ?_⟩
  obtain ⟨a1, b1, xs1, rfl, n1⟩ := dp_net hv
  have hm := hg.le
  have htl := ties_len hg
  have hpw := pow_le7 hm
  have hll := lefts_len m ts
  -- worths, soft
  refine ⟨_, rfl, a1, b1, xs1, m, ts, rfl, n1, hg, fun d H2 e2 hd => ⟨_, rfl, .ref a1, netD m ts, rfl, (n1.same e2).dp, ok_net (by omega), fun sv H3 e3 hs => ⟨(by show 2 ≤ sizeLine; decide), fun tp htp => ⟨tp, _, rfl, SqT.of upd_same, rfl, _, _, rfl, _, _, rfl, rfl, ?_⟩⟩⟩⟩
  rw [lst_net] at hs
  have e4 : Same H3 (upd H3 tp (.tup [.ref d, sv])) := same_new htp _
  have hT2 := hT1.same e2
  have hsoft : ∀ H4 H5, Same H3 H4 → Off a H4 H5 → Dp K H5 sv (netL m ts) := fun H4 H5 e o => by
    refine Dp.same (fun b u hb => ?_) hs
    obtain ⟨h1, h2⟩ := nw_off hb
    exact o b u (fun z => by
      obtain ⟨x1, x2, x3, h3, _⟩ := hT2
      rw [z, h3] at h1; cases h1) (e b u h2)
  have hd4 := (e3.trans e4) _ _ hd
  have e5 : Same H1 (upd H3 tp (.tup [.ref d, sv])) := e2.trans (e3.trans e4)
  have e35 := e4
  generalize upd H3 tp (.tup [.ref d, sv]) = H4 at e4 hd4 e5 e35
  -- rows
  refine ⟨d, _, hd4, True.intro, fun od => ⟨_, rfl, d, od, rfl, .inl ⟨_, upd_same, fun L hL => ?_⟩⟩⟩
  have hLd : L ≠ d := fun z => by rw [z, upd_same] at hL; cases hL
  refine lc_rel (R := RowAt m ts) (fun _ _ _ _ e h => h.keep e) (walk_keys (d := d) (o := od) (kvs := kvs (wv m ts) (lefts m ts))) hL (fun H' e => e _ _ upd_same) (by rw [kvs_len]; omega) (fun j => some ((lefts m ts).getD j 0)) (fun j x H5 H6 hj e6 y Ky Kn hy hn => ?_) (fun H5 ys e6 hL5 hys => ?_)
  · obtain ⟨rfl, k, z, hkz, rfl⟩ := y
    unfold kvs at hkz
    rw [List.getElem?_map] at hkz
    obtain ⟨c, hc, hcz⟩ := Option.map_eq_some_iff.mp hkz
    cases hcz
    rw [getD_of hc] at hy hn
    have hcm := List.mem_of_getElem? hc
    have hc7 : c < 2 ^ 7 := Nat.lt_of_lt_of_le (mem_lefts.mp hcm).1 (Nat.pow_le_pow_right (by omega) hm)
    refine ⟨rfl, _, rfl, c, rfl, hc7, fun t H7 e7 ht => ?_⟩
    have g1 : DGet H7 d (.int (c : Int)) (some (wv m ts c)) := .inl ⟨_, Sum.inl (c : Int), .inr ⟨od, (e6.trans e7) _ _ upd_same⟩, rfl, by rw [kvs_val, if_pos hcm]⟩
    refine ⟨_, rfl, _, rfl, _, _, rfl, g1, (by show 2 ≤ sizeLine; decide), fun q hq => ?_⟩
    exact hy c rfl _ _ (e7.trans (same_new hq _)) ⟨q, t, rfl, .inl upd_same, (KeepT.of_same (same_new hq _)) _ _ ht⟩
  have hfz := e6 _ _ upd_same
  have e7 : Same H4 (upd H5 d (.dK (kvs (wv m ts) (lefts m ts)))) := same_unlock hd4 e6
  have hd7 : (upd H5 d (.dK (kvs (wv m ts) (lefts m ts)))) d = some (.dK (kvs (wv m ts) (lefts m ts))) := upd_same
  have kt : KeepT H5 (upd H5 d (.dK (kvs (wv m ts) (lefts m ts)))) := KeepT.upd (not_tup_frz hfz)
  have hfm : ((List.range (kvs (wv m ts) (lefts m ts)).length).filterMap fun j => some ((lefts m ts).getD j 0)) = lefts m ts := by
    rw [fm_some, kvs_len]
    have := range_getD (lefts m ts) 0 id
    rw [List.map_id] at this
    exact this
  rw [hfm] at hys
  have hL7 : (upd H5 d (.dK (kvs (wv m ts) (lefts m ts)))) L = some (.lst ys) := by rw [upd_ne hLd]; exact hL5
  have hys2 : Paired (RowAt m ts (upd H5 d (.dK (kvs (wv m ts) (lefts m ts))))) ys (lefts m ts) := hys.mono fun _ _ h => h.keep kt
  refine ⟨hfz, ?_⟩
  generalize upd H5 d (.dK (kvs (wv m ts) (lefts m ts))) = H7 at e7 hd7 hL7 hys2
  refine ⟨L, ys, fun x => (key (rowB m ts H7 x), (W m ts (rowB m ts H7 x) : Nat)), rfl, SqL.of hL7, fun x hx => ?_, fun x hx y hy hxy => ?_, fun zs R hp1 hp2 hR => ?_⟩
  · obtain ⟨c, _, hrow⟩ := paired_left hys2 x hx
    have hb := rowB_eq hrow
    obtain ⟨t, p, rfl, h1, h2⟩ := hrow
    refine ⟨t, p, rfl, ?_, ?_⟩
    · show SqT K H7 t [.ref p, .int (W m ts (rowB m ts H7 (.ref t)) : Nat)]
      rw [hb]; exact .inl h1
    · show SqT K H7 p ((key (rowB m ts H7 (.ref t))).map V.int)
      rw [hb, key, ← vn_ints]; exact .inl h2
  · have := key_inj hxy
    show ((W m ts (rowB m ts H7 x) : Nat) : Int) = (W m ts (rowB m ts H7 y) : Nat)
    rw [this]
  obtain ⟨bs, pb, hzs⟩ := paired_perm hp1 hys2
  have e8 := same_new hR (.lst zs)
  have hlex : Lexed bs := by
    refine paired_pw (S := fun b c => HT.lexLt (key c) (key b) = false) (fun x y c e hx hy hxy => ?_) hzs hp2
    have h1 := rowB_eq hx
    have h2 := rowB_eq hy
    show HT.lexLt (key e) (key c) = false
    rw [← h1, ← h2]
    exact hxy
  have hbm : ∀ b ∈ bs, b ∈ lefts m ts := fun b hb => pb.mem_iff.mp hb
  have hbl : bs.length = (lefts m ts).length := pb.length_eq
  have hzl : zs.length = bs.length := hzs.length
  have hzs8 : Paired (RowAt m ts (upd H7 R (.lst zs))) zs bs := hzs.mono fun _ _ h => h.keep (KeepT.of_same e8)
  have hR8 : (upd H7 R (.lst zs)) R = some (.lst zs) := upd_same
  have hd8 := e8 _ _ hd7
  have e9 : Same H4 (upd H7 R (.lst zs)) := e7.trans e8
  generalize upd H7 R (.lst zs) = H8 at hzs8 hR8 hd8 e9
  -- got
  have e18 : Same H1 H8 := e5.trans e9
  have e38 : Same H3 H8 := e35.trans e9
  refine ⟨_, rfl, sv, netL m ts, m, ts, rfl, hsoft H8 H8 e38 (Off.refl _ _), .inr rfl, hg, fun H9 e10 => ?_⟩
  refine ⟨_, rfl, sv, netL m ts, m, ts, rfl, hsoft H8 H9 e38 (Off.of_same e10), .inr rfl, hg, fun L1 ys1 bs1 H10 e11 _ hL1 hp1' hlex1 hys1 => ?_⟩
  refine ⟨_, rfl, .ref a1, netD m ts, m, ts, rfl, (n1.same (e18.trans (e10.trans e11))).dp, .inl rfl, hg, fun t2 H11 e12 ht2 => ⟨(by show 3 ≤ sizeLine; decide), fun G hG => ?_⟩⟩
  have e13 := same_new hG (.lst [wv m ts (2 ^ m - 1), .ref L1, .ref t2])
  have hbs1 : bs1 = bs.filter fun b => W m ts b == 0 := lexed_uniq (hp1'.trans (pb.filter _).symm) hlex1 (hlex.filter _)
  have hgot : Dp K (upd H11 G (.lst [wv m ts (2 ^ m - 1), .ref L1, .ref t2])) (.ref G) (.list [.int (W m ts (2 ^ m - 1) : Nat), lostD (bs.filter fun b => W m ts b == 0), nsD (cnts m ts)]) := by
    rw [← hbs1]
    refine .lst (SqL.of upd_same) (.cons (.int _) (.cons (Dp.same (e12.trans e13) (dpa_list_dp hL1 (paired_dp hys1))) (.cons (Dp.same e13 (ns_dp ht2)) .nil)))
  have e14 : Same H8 (upd H11 G (.lst [wv m ts (2 ^ m - 1), .ref L1, .ref t2])) := e10.trans (e11.trans (e12.trans e13))
  generalize upd H11 G (.lst [wv m ts (2 ^ m - 1), .ref L1, .ref t2]) = H12 at hgot e14
  -- most
  have rowAt : ∀ {j : Nat} {x : V} {H' : Hp}, zs[j]? = some x → Same H12 H' → ∃ b t p, bs[j]? = some b ∧ b ∈ lefts m ts ∧ x = .ref t ∧ SqT K H' t [.ref p, wv m ts b] ∧ Rd H' p (.tup (Vn (pcs b))) := fun {j x H'} hx e => by
    obtain ⟨b, hb, hrow⟩ := paired_get hzs8 hx
    obtain ⟨t, p, rfl, h1, h2⟩ := hrow.keep (KeepT.of_same (e14.trans e))
    exact ⟨b, t, p, hb, hbm b (List.mem_of_getElem? hb), rfl, .inl h1, h2⟩
  have hR12 := e14 _ _ hR8
  refine ⟨_, rfl, R, rfl, ⟨_, SqL.of hR12⟩, fun Lm hLm => ?_⟩
  refine lc_map (K := K) (walk_list (K := K) (xs := zs)) hLm (fun H' e => SqL.of (e _ _ hR12)) (by omega) (fun i => .int (W m ts (bs.getD i 0) : Nat)) (fun _ _ => rfl) (fun i x H13 H14 hi e15 y Ky hy => ?_) (fun H13 ws e15 hLm2 hws => ?_)
  · obtain ⟨rfl, hx⟩ := y
    obtain ⟨b, t, p, hb, _, rfl, ht, _⟩ := rowAt hx e15
    rw [getD_of hb] at hy
    exact ⟨rfl, _, rfl, t, _, _, _, rfl, rfl, ht, atI_nat (j := 1) rfl, hy _ _ (Same.refl _) (.int _)⟩
  rw [hzl, range_getD bs 0 (fun b => PyData.int (W m ts b : Nat))] at hws
  have hws' : DpAll K H13 ws (((bs.map (W m ts)).map fun (k : Nat) => (k : Int)).map PyData.int) := by
    rw [List.map_map, List.map_map]; exact hws
  rw [dpa_ints hws'] at hLm2
  have pw : (bs.map (W m ts)).Perm (worthsL m ts) := pb.map _
  have hmx : mx (bs.map (W m ts)) = mx (worthsL m ts) := mx_perm pw rows_ne
  refine ⟨Lm, _, rfl, SqL.of hLm2, by rw [List.length_map, pw.length_eq]; exact List.length_pos_iff.mpr rows_ne, fun M hM1 hM2 => ?_⟩
  obtain ⟨M', hM', rfl⟩ := List.mem_map.mp hM1
  have hmM : mx (worthsL m ts) = M' := by
    rw [← hmx]
    exact mx_uniq hM' fun y hy => by have := hM2 _ (List.mem_map.mpr ⟨y, hy, rfl⟩); omega
  have hM7 := worthsL_le hg M' (pw.mem_iff.mp hM')
  -- counts
  refine ⟨_, rfl, _, _, rfl, rfl, _, rfl, by omega, by omega, fun Lc hLc => ?_⟩
  have en : ((M' : Int) + 1).toNat = M' + 1 := by omega
  rw [en]
  have hR13 := e15 _ _ hR12
  refine lc_map (K := K) (walk_range0 (n := M' + 1)) hLc (fun _ _ => True.intro) (by omega) (fun i => .int ((worthsL m ts).count i : Nat)) (fun _ _ => rfl) (fun i x H14 H15 hi e16 y Ky hy => ?_) (fun H14 cs e16 hLc2 hcs => ?_)
  · obtain ⟨rfl, rfl⟩ := y
    have hR15 := e16 _ _ hR13
    refine ⟨rfl, _, rfl, R, rfl, ⟨_, SqL.of hR15⟩, fun Li hLi => ?_⟩
    refine lc_data (K := K) (walk_list (K := K) (xs := zs)) hLi (fun H' e => SqL.of (e _ _ hR15)) (by omega) (fun j => if (W m ts (bs.getD j 0) == i) = true then some (.int 1) else none) (fun j d _ e => by split at e <;> cases e; rfl) (fun j x H16 H17 hj e17 y Ky Kn hy hn => ?_) (fun H16 us e17 hLi2 hus => ?_)
    · obtain ⟨rfl, hx⟩ := y
      obtain ⟨b, t, p, hb, _, rfl, ht, _⟩ := rowAt hx ((e15.trans e16).trans e17)
      rw [getD_of hb] at hy hn
      refine ⟨rfl, _, rfl, t, _, _, _, rfl, rfl, ht, atI_nat (j := 1) rfl, _, rfl, rfl, (W m ts b == i), congrArg V.bl (int_eq_dec (W m ts b) i), ?_⟩
      cases hcc : (W m ts b == i) with
      | true => exact iteT (hy _ (by rw [if_pos hcc]) _ _ (Same.refl _) (.int _))
      | false => exact iteF (hn (by rw [hcc]; rfl) _ (Same.refl _))
    · rw [hzl, fm_gen bs 0 (fun b => W m ts b == i) (fun _ => PyData.int 1)] at hus
      have hul : us.length = (worthsL m ts).count i := by rw [dpa_len hus, List.length_map, rows_count pb]
      refine ⟨Li, us, rfl, .inl (SqL.of hLi2), ?_⟩
      have h2 := hy (.int ((worthsL m ts).count i : Nat)) H16 e17 (.int _)
      rw [← hul] at h2
      exact h2
  have hcs' : DpAll K H14 cs ((cnts m ts).map fun (k : Nat) => PyData.int (k : Int)) := by
    unfold cnts
    rw [hmM, List.map_map]
    exact hcs
  rw [dpa_ns hcs'] at hLc2
  -- the first question
  have e816 : Same H8 H14 := e14.trans (e15.trans e16)
  have g1 := DGet.k (k := Sum.inl ((2 ^ m - 1 : Nat) : Int)) (e816 _ _ hd8)
  rw [kvs_val, if_pos (full_left hg), ← pow_sub] at g1
  have hR14 := e16 _ _ hR13
  refine ⟨_, rfl, _, rfl, _, rfl, a1, _, _, _, rfl, rfl, (n1.same (e18.trans e816)).top, atI_nat (j := 0) rfl, m, rfl, rfl, by omega, _, _, rfl, rfl, _, _, rfl, g1, ?_⟩
  refine ⟨_, rfl, R, rfl, ⟨_, SqL.of hR14⟩, fun Ld hLd' => ?_⟩
  refine lc_rel (R := PcsAt) (fun _ _ _ _ e h => h.keep e) (walk_list (K := K) (xs := zs)) hLd' (fun H' e => SqL.of (e _ _ hR14)) (by omega) (fun j => if (W m ts (bs.getD j 0) == 0) = true then some (bs.getD j 0) else none) (fun j x H15 H16 hj e17 y Ky Kn hy hn => ?_) (fun H15 us e17 hLd2 hus => ?_)
  · obtain ⟨rfl, hx⟩ := y
    obtain ⟨b, t, p, hb, _, rfl, ht, hp⟩ := rowAt hx ((e15.trans e16).trans e17)
    rw [getD_of hb] at hy hn
    refine ⟨rfl, _, rfl, t, _, _, _, rfl, rfl, ht, atI_nat (j := 1) rfl, rfl, (W m ts b == 0), congrArg V.bl (int_eq_dec (W m ts b) 0), ?_⟩
    cases hcc : (W m ts b == 0) with
    | true => exact iteT ⟨_, rfl, t, _, _, _, rfl, rfl, ht, atI_nat (j := 0) rfl, hy b (by rw [if_pos hcc]) _ _ (Same.refl _) ⟨p, rfl, hp⟩⟩
    | false => exact iteF (hn (by rw [hcc]; rfl) _ (Same.refl _))
  have hus2 : Paired (PcsAt H15) us (bs.filter fun b => W m ts b == 0) := by
    rw [hzl, fm_if (fun j => W m ts (bs.getD j 0) == 0) (fun j => bs.getD j 0)] at hus
    have e : (List.range bs.length).map (fun j => bs.getD j 0) = bs := by
      have := range_getD bs 0 id
      rw [List.map_id] at this
      exact this
    have e2 : ((List.range bs.length).filter fun j => W m ts (bs.getD j 0) == 0).map (fun j => bs.getD j 0) = bs.filter fun b => W m ts b == 0 := by
      conv => rhs; rw [← e]
      rw [List.filter_map]; rfl
    rw [← e2]
    exact hus
  refine ⟨_, rfl, Lc, _, rfl, .inl ⟨SqL.of (e17 _ _ hLc2), fun t3 ht3 => ⟨(by show 3 ≤ sizeLine; decide), fun Du hDu => ?_⟩⟩⟩
  have e18' := same_new ht3 (.tup (Vn (cnts m ts)))
  have e19 := same_new hDu (.lst [wv m ts (2 ^ m - 1), .ref Ld, .ref t3])
  have hdue : Dp K (upd (upd H15 t3 (.tup (Vn (cnts m ts)))) Du (.lst [wv m ts (2 ^ m - 1), .ref Ld, .ref t3])) (.ref Du) (.list [.int (W m ts (2 ^ m - 1) : Nat), lostD (bs.filter fun b => W m ts b == 0), nsD (cnts m ts)]) :=
    .lst (SqL.of upd_same) (.cons (.int _) (.cons (Dp.same (e18'.trans e19) (dpa_list_dp hLd2 (paired_dp hus2))) (.cons (Dp.same e19 (ns_dp (SqT.of upd_same))) .nil)))
  have e20 : Same H12 (upd (upd H15 t3 (.tup (Vn (cnts m ts)))) Du (.lst [wv m ts (2 ^ m - 1), .ref Ld, .ref t3])) := e15.trans (e16.trans (e17.trans (e18'.trans e19)))
  have hcl : (cnts m ts).length ≤ 8 := by unfold cnts; rw [hmM, List.length_map, List.length_range]; omega
  have hfl := List.length_filter_le (fun b => W m ts b == 0) bs
  refine ⟨.ref G, .ref Du, _, rfl, Dp.same e20 hgot, hdue, ⟨by simp, fun d hd => ?_⟩, fun H17 e21 => ⟨true, rfl, iteF ?_⟩⟩
  · simp at hd
    rcases hd with rfl | rfl | rfl
    · exact True.intro
    · exact okE_lost (by omega) fun b hb => by have := pcs_le7 hg (hbm b (List.mem_filter.mp hb).1); omega
    · exact okE_ns (by omega)
  -- the rest
  have e22 : Same H8 H17 := e14.trans (e20.trans e21)
  exact rC Q a a1 b1 R xs1 zs sv m t1 ts bs _ _ _ _ _ _ _ _ H17 (n1.same (e18.trans e22)) hg (fun H18 o => hsoft H17 H18 (e38.trans e22) o) (e22 _ _ hR8) (hzs8.mono fun _ _ h => h.keep (KeepT.of_same e22)) hbm (by omega) (hT1.same (e18.trans e22)) (by omega) q
end
end K13

set_option Elab.async false
set_option linter.all false
set_option maxRecDepth 100000
set_option maxHeartbeats 4000000
/-! The law's own walk, part 9: by hand; the law. -/
namespace K13
open PySem PySem.Spec PyProof.Rows L2 RZ
abbrev vee : Ties := [(0, 1), (0, 2)]
abbrev cap : Ties := [(0, 2), (1, 2)]
abbrev three : Ties := [(0, 1), (1, 2)]
abbrev twelve : Ties := [(0, 1), (0, 2), (1, 3), (1, 4), (2, 4), (3, 5), (4, 5)]
theorem good_of {m : Nat} {ts : Ties} (hm : m ≤ 7) (hr : ∀ p ∈ ts, p.1 < p.2 ∧ p.2 < m) (e : netOf m ts = ts) : Good m ts := by
  have := net_good hm hr
  rw [e] at this
  exact this
theorem good_vee : Good 3 vee := good_of (by decide) (by decide) (by decide +kernel)
theorem good_cap : Good 3 cap := good_of (by decide) (by decide) (by decide +kernel)
theorem good_three : Good 3 three := good_of (by decide) (by decide) (by decide +kernel)
theorem good_twelve : Good 6 twelve := good_of (by decide) (by decide) (by decide +kernel)
theorem good_none {m : Nat} (hm : m ≤ 7) : Good m [] := ⟨hm, (fun p h => by cases h), List.Pairwise.nil, (fun a b c h => by cases h)⟩
theorem pcs3 : pcs 3 = [0, 1] := by decide +kernel
theorem pcs1 : pcs 1 = [0] := by decide +kernel
theorem pcs0 : pcs 0 = [] := by decide +kernel
section
variable {K : PySem.W.Frag} {H : Hp}
theorem net2 {p q b a : Addr} (m i j k l : Nat) (h1 : H p = none) (h2 : (upd H p (.tup [.int (i : Int), .int (j : Int)])) q = none) (h3 : (upd (upd H p (.tup [.int (i : Int), .int (j : Int)])) q (.tup [.int (k : Int), .int (l : Int)])) b = none)
    (h4 : (upd (upd (upd H p (.tup [.int (i : Int), .int (j : Int)])) q (.tup [.int (k : Int), .int (l : Int)])) b (.tup [.ref p, .ref q])) a = none) :
    Same H (upd (upd (upd (upd H p (.tup [.int (i : Int), .int (j : Int)])) q (.tup [.int (k : Int), .int (l : Int)])) b (.tup [.ref p, .ref q])) a (.tup [.int (m : Int), .ref b])) ∧
    Dp K (upd (upd (upd (upd H p (.tup [.int (i : Int), .int (j : Int)])) q (.tup [.int (k : Int), .int (l : Int)])) b (.tup [.ref p, .ref q])) a (.tup [.int (m : Int), .ref b])) (.ref a) (netD m [(i, j), (k, l)]) := by
  have e1 := same_new h1 (.tup [.int (i : Int), .int (j : Int)])
  have e2 := same_new h2 (.tup [.int (k : Int), .int (l : Int)])
  have e3 := same_new h3 (.tup [.ref p, .ref q])
  have e4 := same_new h4 (.tup [.int (m : Int), .ref b])
  refine ⟨e1.trans (e2.trans (e3.trans e4)), .tup (SqT.of upd_same) (.cons (.int _) (.cons (Dp.same e4 (.tup (SqT.of upd_same) (.cons (Dp.same (e2.trans e3) (pair_dp (p := (i, j)) (SqT.of upd_same))) (.cons (Dp.same e3 (pair_dp (p := (k, l)) (SqT.of upd_same))) .nil)))) .nil))⟩
theorem net0 {b a : Addr} (m : Nat) (h3 : H b = none) (h4 : (upd H b (.tup [])) a = none) :
    Same H (upd (upd H b (.tup [])) a (.tup [.int (m : Int), .ref b])) ∧ Dp K (upd (upd H b (.tup [])) a (.tup [.int (m : Int), .ref b])) (.ref a) (netD m []) := by
  have e3 := same_new h3 (.tup [])
  have e4 := same_new h4 (.tup [.int (m : Int), .ref b])
  exact ⟨e3.trans e4, .tup (SqT.of upd_same) (.cons (.int _) (.cons (Dp.same e4 (.tup (SqT.of upd_same) .nil)) .nil))⟩
theorem lost_dp {m : Nat} {ts : Ties} {l bs : List Nat} {L : Addr} {ys : List V} (hl : losts m ts = l) (hx : Lexed l) (h : H L = some (.lst ys)) (p : bs.Perm (losts m ts)) (q : Lexed bs) (r : Paired (PcsAt H) ys bs) : Dp K H (.ref L) (lostD l) := by
  have e : bs = l := lexed_uniq (by rw [← hl]; exact p) q hx
  rw [← e]
  exact dpa_list_dp h (paired_dp r)
theorem dp01 {p : Addr} (h : H p = some (.tup [.int 0, .int 1])) : Dp K H (.ref p) (nsD (pcs 3)) := by
  rw [pcs3]; exact ns_dp (l := [0, 1]) (SqT.of h)
theorem dp0 {p : Addr} (h : H p = some (.tup [.int 0])) : Dp K H (.ref p) (nsD (pcs 1)) := by
  rw [pcs1]; exact ns_dp (l := [0]) (SqT.of h)
theorem dpe {p : Addr} (h : H p = some (.tup [])) : Dp K H (.ref p) (nsD (pcs 0)) := by
  rw [pcs0]; exact ns_dp (l := []) (SqT.of h)
theorem netP {b a : Addr} {xs : List V} {m : Nat} {ts : Ties} (hx : DpAll K H xs (ts.map pD)) (h3 : H b = none) (h4 : (upd H b (.tup xs)) a = none) :
    Same H (upd (upd H b (.tup xs)) a (.tup [.int (m : Int), .ref b])) ∧ Dp K (upd (upd H b (.tup xs)) a (.tup [.int (m : Int), .ref b])) (.ref a) (netD m ts) := by
  have e3 := same_new h3 (.tup xs)
  have e4 := same_new h4 (.tup [.int (m : Int), .ref b])
  exact ⟨e3.trans e4, .tup (SqT.of upd_same) (.cons (.int _) (.cons (Dp.same e4 (.tup (SqT.of upd_same) (DpAll.same e3 hx))) .nil))⟩
/-- a list at a, its data -/
def LAt (K : PySem.W.Frag) (H : Hp) (a : Addr) (ds : List PyData) : Prop := ∃ xs, H a = some (.lst xs) ∧ DpAll K H xs ds
theorem LAt.same {H' : Hp} {a : Addr} {ds : List PyData} (e : Same H H') (h : LAt K H a ds) : LAt K H' a ds := by
  obtain ⟨xs, h1, h2⟩ := h
  exact ⟨xs, e _ _ h1, DpAll.same e h2⟩
theorem LAt.mk {p : Addr} {xs : List V} {ds : List PyData} (hp : H p = none) (hx : DpAll K H xs ds) : LAt K (upd H p (.lst xs)) p ds := ⟨xs, upd_same, DpAll.same (same_new hp _) hx⟩
theorem LAt.dp {a : Addr} {ds : List PyData} (h : LAt K H a ds) : Dp K H (.ref a) (.list ds) := by
  obtain ⟨xs, h1, h2⟩ := h
  exact dpa_list_dp h1 h2
/-- [(), (0, 1)] -/
theorem due2 {p q l : Addr} (h1 : H p = none) (h2 : (upd H p (.tup [])) q = none) (h3 : (upd (upd H p (.tup [])) q (.tup [.int 0, .int 1])) l = none) :
    Same H (upd (upd (upd H p (.tup [])) q (.tup [.int 0, .int 1])) l (.lst [.ref p, .ref q])) ∧ Dp K (upd (upd (upd H p (.tup [])) q (.tup [.int 0, .int 1])) l (.lst [.ref p, .ref q])) (.ref l) (lostD [0, 3]) := by
  have e1 := same_new h1 (.tup [])
  have e2 := same_new h2 (.tup [.int 0, .int 1])
  have e3 := same_new h3 (.lst [.ref p, .ref q])
  refine ⟨e1.trans (e2.trans e3), .lst (SqL.of upd_same) ?_⟩
  show DpAll K _ _ [nsD (pcs 0), nsD (pcs 3)]
  rw [pcs0, pcs3]
  exact .cons (Dp.same (e2.trans e3) (.tup (SqT.of upd_same) .nil)) (.cons (Dp.same e3 (ns_dp (l := [0, 1]) (SqT.of upd_same))) .nil)
end
theorem losts_cap : losts 3 cap = [0, 3] := by decide +kernel
theorem losts_two : losts 2 [] = [0, 3] := by decide +kernel
theorem losts_twelve : losts 6 twelve = [0] := by decide +kernel
theorem lex03 : Lexed [0, 3] := by decide +kernel
theorem lex0 : Lexed [0] := by decide +kernel
theorem cnts_vee : cnts 3 vee = [1, 2, 2] := by decide +kernel
theorem cnts_cap : cnts 3 cap = [2, 2, 1] := by decide +kernel
theorem cnts_zero : cnts 0 [] = [1] := by decide +kernel
theorem cnts_twelve : cnts 6 twelve = [1, 3, 2, 2, 1, 1] := by decide +kernel
theorem W_twelve : W 6 twelve 63 = 5 := by decide +kernel
theorem W_vee3 : W 3 vee 3 = 2 := by decide +kernel
theorem W_cap3 : W 3 cap 3 = 0 := by decide +kernel
theorem W_cap1 : W 3 cap 1 ≠ 0 := by decide +kernel
theorem W_cap0 : W 3 cap 0 = 0 := by decide +kernel
theorem in_vee3 : 3 ∈ lefts 3 vee := by decide +kernel
theorem in_cap3 : 3 ∈ lefts 3 cap := by decide +kernel
theorem in_cap1 : 1 ∈ lefts 3 cap := by decide +kernel
theorem in_cap0 : 0 ∈ lefts 3 cap := by decide +kernel
def nets6 : List (Nat × Ties) := [(3, vee), (3, cap), (3, three), (2, []), (0, []), (1, [])]
theorem worth6 : (nets6.map fun n => W n.1 n.2 (2 ^ n.1 - 1)) = [1, 2, 3, 0, 0, 1] := by decide +kernel
theorem good6 : ∀ n ∈ nets6, Good n.1 n.2 := by
  intro n hn
  unfold nets6 at hn
  simp only [List.mem_cons, List.not_mem_nil, or_false] at hn
  rcases hn with rfl | rfl | rfl | rfl | rfl | rfl
  · exact good_vee
  · exact good_cap
  · exact good_three
  · exact good_none (by decide)
  · exact good_none (by decide)
  · exact good_none (by decide)
def d1 : List PyData := [.int 1, .int 2, .int 3, .int 0, .int 0, .int 1, .int 2, .int 0, .int 0]
def d2 : List PyData := [.bool false, .bool true, lostD [0, 3], lostD [0, 3], nsD [1, 2, 2], nsD [2, 2, 1], nsD [1]]
def d3 : List PyData := [.int 5, lostD [0], nsD [1, 3, 2, 2, 1, 1]]
theorem okE_all : okE 4 (.list (((d1 ++ d2) ++ d3) ++ [lostD [0, 3]])) := by
  have hl3 : okE 3 (lostD [0, 3]) := okE_lost (n := 0) (by decide) (by decide +kernel)
  have hl0 : okE 3 (lostD [0]) := okE_lost (n := 0) (by decide) (by decide +kernel)
  refine ⟨by decide, fun d hd => ?_⟩
  unfold d1 d2 d3 at hd
  simp only [List.cons_append, List.nil_append, List.mem_cons, List.not_mem_nil, or_false] at hd
  rcases hd with rfl | rfl | rfl | rfl | rfl | rfl | rfl | rfl | rfl | rfl | rfl | rfl | rfl | rfl | rfl | rfl | rfl | rfl | rfl | rfl <;> first | exact True.intro | exact hl3 | exact hl0 | exact okE_ns (n := 1) (by decide)
section
variable {P : Program} {w : World} {K : PySem.W.Frag} {mg : Str → Option Value} {base : Heap}
theorem d1_dp {H : Hp} : DpAll K H [.int 1, .int 2, .int 3, .int 0, .int 0, .int 1, .int 2, .int 0, .int 0] d1 :=
  .cons (.int _) (.cons (.int _) (.cons (.int _) (.cons (.int _) (.cons (.int _) (.cons (.int _) (.cons (.int _) (.cons (.int _) (.cons (.int _) .nil))))))))
theorem bl_of {H : Hp} {b c : Bool} (h : b = c) : Dp K H (.bl b) (.bool c) := by subst h; exact .bl b
theorem ns_of {H : Hp} {t : Addr} {l r : List Nat} (h : SqT K H t (Vn l)) (e : l = r) : Dp K H (.ref t) (nsD r) := by subst e; exact ns_dp h
def spHand : Sp := fun vs H Q _ => vs = [] ∧ ∀ H', Same H H' → Q (.bl true) H'
theorem ok_by_hand (T : Txt mg) (D : Def K mg "_law_by_hand_right" sLwByHandRight pLwByHandRight) (cWorth : Cal P w K mg base 7 "worth" pWorth (spWorth K)) (cWorthLeft : Cal P w K mg base 8 "worth_left" pWorthLeft (spWorthLeft K)) (cIsWon : Cal P w K mg base 9 "is_won" pIsWon (spIsWon K)) (cLostLefts : Cal P w K mg base 7 "lost_lefts" pLostLefts (spLost K))
    (cByWorth : Cal P w K mg base 7 "by_worth" pByWorth (spByWorth K)) (cLwSame : Cal P w K mg base 4 "_law_same" pLwSame (spSame K 4)) : Cal P w K mg base 10 "_law_by_hand_right" pLwByHandRight spHand := by
  refine cal_of D scLwByHandRight (fun vs H Q E h => ?_) (fun f cdv A outer s H vs Q E hr h => ?_)
  · obtain ⟨rfl, _⟩ := h; rfl
  obtain ⟨rfl, q⟩ := h
  refine ⟨_, (pss_cons (ps_asg (pe_tup (pa_cons (pe_tup (pa_cons (pe_int) (pa_cons (pe_tup (pa_cons (pe_tup (pa_cons (pe_int) (pa_cons (pe_int) pa_nil))) (pa_cons (pe_tup (pa_cons (pe_int) (pa_cons (pe_int) pa_nil))) pa_nil))) pa_nil))) (pa_cons (pe_tup (pa_cons (pe_int) (pa_cons (pe_tup (pa_cons (pe_tup (pa_cons (pe_int) (pa_cons (pe_int) pa_nil))) (pa_cons (pe_tup (pa_cons (pe_int) (pa_cons (pe_int) pa_nil))) pa_nil))) pa_nil))) (pa_cons (pe_tup (pa_cons (pe_int) (pa_cons (pe_tup (pa_cons (pe_tup (pa_cons (pe_int) (pa_cons (pe_int) pa_nil))) (pa_cons (pe_tup (pa_cons (pe_int) (pa_cons (pe_int) pa_nil))) pa_nil))) pa_nil))) pa_nil)))) (pg_tup rfl (pgs_cons (pg_name (i := 0) scLwByHandRight.nd rfl (Or.inl rfl)) (pgs_cons (pg_name (i := 1) scLwByHandRight.nd rfl (Or.inl rfl)) (pgs_cons (pg_name (i := 2) scLwByHandRight.nd rfl (Or.inl rfl)) pgs_nil)))))
      (pss_cons (ps_set (i := 3) scLwByHandRight.nd rfl (Or.inl rfl) (pe_op op_cat (pe_lc (own := [("_law_own", 4)]) rfl scLwByHandRight.nd (pi_tup (pe_tup (pa_cons (pv 0) (pa_cons (pv 1) (pa_cons (pv 2) (pa_cons (pe_tup (pa_cons (pe_int) (pa_cons (pe_tup pa_nil) pa_nil))) (pa_cons (pe_tup (pa_cons (pe_int) (pa_cons (pe_tup pa_nil) pa_nil))) (pa_cons (pe_tup (pa_cons (pe_int) (pa_cons (pe_tup pa_nil) pa_nil))) pa_nil)))))))) (blkOk_by (N := nLwByHandRight) (sc := defScope sLwByHandRight) (by decide +kernel)) (fun _ _ _ _ _ => pg_name (i := 4) scLwByHandRight.nd rfl (Or.inl rfl)) (fun _ _ _ _ _ => pts_nil) (fun _ _ _ _ _ => pe_c cWorth hr (by decide) rfl (pa_cons (pv 4) pa_nil))) (pe_lst (pa_cons (pe_c cWorthLeft hr (by decide) rfl (pa_cons (pv 0) (pa_cons (pe_tup (pa_cons (pe_int) (pa_cons (pe_int) pa_nil))) pa_nil))) (pa_cons (pe_c cWorthLeft hr (by decide) rfl (pa_cons (pv 1) (pa_cons (pe_tup (pa_cons (pe_int) (pa_cons (pe_int) pa_nil))) pa_nil))) (pa_cons (pe_c cWorthLeft hr (by decide) rfl (pa_cons (pv 1) (pa_cons (pe_tup pa_nil) pa_nil))) pa_nil))))))
      (pss_cons (ps_set (i := 5) scLwByHandRight.nd rfl (Or.inl rfl) (pe_lst (pa_cons (pe_int) (pa_cons (pe_int) (pa_cons (pe_int) (pa_cons (pe_int) (pa_cons (pe_int) (pa_cons (pe_int) (pa_cons (pe_int) (pa_cons (pe_int) (pa_cons (pe_int) pa_nil)))))))))))
      (pss_cons (ps_set (i := 3) scLwByHandRight.nd rfl (Or.inl rfl) (pe_op op_cat (pv 3) (pe_lst (pa_cons (pe_c cIsWon hr (by decide) rfl (pa_cons (pv 1) (pa_cons (pe_tup (pa_cons (pe_int) (pa_cons (pe_int) pa_nil))) pa_nil))) (pa_cons (pe_c cIsWon hr (by decide) rfl (pa_cons (pv 1) (pa_cons (pe_tup (pa_cons (pe_int) pa_nil)) pa_nil))) (pa_cons (pe_c cLostLefts hr (by decide) rfl (pa_cons (pv 1) pa_nil)) (pa_cons (pe_c cLostLefts hr (by decide) rfl (pa_cons (pe_tup (pa_cons (pe_int) (pa_cons (pe_tup pa_nil) pa_nil))) pa_nil)) (pa_cons (pe_c cByWorth hr (by decide) rfl (pa_cons (pv 0) pa_nil)) (pa_cons (pe_c cByWorth hr (by decide) rfl (pa_cons (pv 1) pa_nil)) (pa_cons (pe_c cByWorth hr (by decide) rfl (pa_cons (pe_tup (pa_cons (pe_int) (pa_cons (pe_tup pa_nil) pa_nil))) pa_nil)) pa_nil))))))))))
      (pss_cons (ps_set (i := 5) scLwByHandRight.nd rfl (Or.inl rfl) (pe_op op_cat (pv 5) (pe_lst (pa_cons (pe_bl) (pa_cons (pe_bl) (pa_cons (pe_lst (pa_cons (pe_tup pa_nil) (pa_cons (pe_tup (pa_cons (pe_int) (pa_cons (pe_int) pa_nil))) pa_nil))) (pa_cons (pe_lst (pa_cons (pe_tup pa_nil) (pa_cons (pe_tup (pa_cons (pe_int) (pa_cons (pe_int) pa_nil))) pa_nil))) (pa_cons (pe_tup (pa_cons (pe_int) (pa_cons (pe_int) (pa_cons (pe_int) pa_nil)))) (pa_cons (pe_tup (pa_cons (pe_int) (pa_cons (pe_int) (pa_cons (pe_int) pa_nil)))) (pa_cons (pe_tup (pa_cons (pe_int) pa_nil)) pa_nil))))))))))
      (pss_cons (ps_set (i := 6) scLwByHandRight.nd rfl (Or.inl rfl) (pe_tup (pa_cons (pe_int) (pa_cons (pe_tup (pa_cons (pe_tup (pa_cons (pe_int) (pa_cons (pe_int) pa_nil))) (pa_cons (pe_tup (pa_cons (pe_int) (pa_cons (pe_int) pa_nil))) (pa_cons (pe_tup (pa_cons (pe_int) (pa_cons (pe_int) pa_nil))) (pa_cons (pe_tup (pa_cons (pe_int) (pa_cons (pe_int) pa_nil))) (pa_cons (pe_tup (pa_cons (pe_int) (pa_cons (pe_int) pa_nil))) (pa_cons (pe_tup (pa_cons (pe_int) (pa_cons (pe_int) pa_nil))) (pa_cons (pe_tup (pa_cons (pe_int) (pa_cons (pe_int) pa_nil))) pa_nil)))))))) pa_nil))))
      (pss_cons (ps_set (i := 3) scLwByHandRight.nd rfl (Or.inl rfl) (pe_op op_cat (pv 3) (pe_lst (pa_cons (pe_c cWorth hr (by decide) rfl (pa_cons (pv 6) pa_nil)) (pa_cons (pe_c cLostLefts hr (by decide) rfl (pa_cons (pv 6) pa_nil)) (pa_cons (pe_c cByWorth hr (by decide) rfl (pa_cons (pv 6) pa_nil)) pa_nil))))))
      (pss_cons (ps_set (i := 5) scLwByHandRight.nd rfl (Or.inl rfl) (pe_op op_cat (pv 5) (pe_lst (pa_cons (pe_int) (pa_cons (pe_lst (pa_cons (pe_tup pa_nil) pa_nil)) (pa_cons (pe_tup (pa_cons (pe_int) (pa_cons (pe_int) (pa_cons (pe_int) (pa_cons (pe_int) (pa_cons (pe_int) (pa_cons (pe_int) pa_nil))))))) pa_nil))))))
      (pss_cons (ps_set (i := 7) scLwByHandRight.nd rfl (Or.inl rfl) (pe_c cLostLefts hr (by decide) rfl (pa_cons (pv 1) pa_nil)))
      (pss_cons (ps_expr (pe_bm PySem.F.plainAttrs_list PySem.F.slot_list_append PySem.F.type_list_append mt_append (pv 7) (pa_cons (pe_tup pa_nil) pa_nil)))
      (pss_one (ps_ret (pe_c cLwSame hr (by decide) rfl (pa_cons (pe_op op_cat (pv 3) (pe_lst (pa_cons (pe_c cLostLefts hr (by decide) rfl (pa_cons (pv 1) pa_nil)) pa_nil))) (pa_cons (pe_op op_cat (pv 5) (pe_lst (pa_cons (pe_lst (pa_cons (pe_tup pa_nil) (pa_cons (pe_tup (pa_cons (pe_int) (pa_cons (pe_int) pa_nil))) pa_nil))) pa_nil))) pa_nil))))))))))))))), ?_⟩
  have le1 : 1 ≤ sizeLine := by decide
  have le2 : 2 ≤ sizeLine := by decide
  have le3 : 3 ≤ sizeLine := by decide
  have le0 : 0 ≤ sizeLine := by decide
  have le6 : 6 ≤ sizeLine := by decide
  have le7 : 7 ≤ sizeLine := by decide
  have le9 : 9 ≤ sizeLine := by decide
  -- vee, cap, three
  refine ⟨le2, fun p1 h1 => ⟨le2, fun p2 h2 => ⟨le2, fun b1 h3 => ⟨le2, fun av h4 => ?_⟩⟩⟩⟩
  obtain ⟨e1, hv⟩ := net2 (K := K) 3 0 1 0 2 h1 h2 h3 h4
  refine ⟨le2, fun p3 h5 => ⟨le2, fun p4 h6 => ⟨le2, fun b2 h7 => ⟨le2, fun ac h8 => ?_⟩⟩⟩⟩
  obtain ⟨e2, hc⟩ := net2 (K := K) 3 0 2 1 2 h5 h6 h7 h8
  refine ⟨le2, fun p5 h9 => ⟨le2, fun p6 h10 => ⟨le2, fun b3 h11 => ⟨le2, fun at3 h12 => ⟨le3, fun tz htz => ⟨tz, _, rfl, SqT.of upd_same, rfl, _, _, rfl, _, _, rfl, _, _, rfl, rfl, ?_⟩⟩⟩⟩⟩⟩
  obtain ⟨e3, ht⟩ := net2 (K := K) 3 0 1 1 2 h9 h10 h11 h12
  have ez := same_new htz (.tup [.ref av, .ref ac, .ref at3])
  have hv3 := Dp.same (e2.trans (e3.trans ez)) hv
  have hc3 := Dp.same (e3.trans ez) hc
  have ht := Dp.same ez ht
  have e03 := e1.trans (e2.trans (e3.trans ez))
  -- got: worths
  refine ⟨_, rfl, _, rfl, _, rfl, le0, fun b4 h13 => ⟨le2, fun a4 h14 => ?_⟩⟩
  obtain ⟨e4, hn4⟩ := net0 (K := K) 2 h13 h14
  refine ⟨le0, fun b5 h15 => ⟨le2, fun a5 h16 => ?_⟩⟩
  obtain ⟨e5, hn5⟩ := net0 (K := K) 0 h15 h16
  refine ⟨le0, fun b6 h17 => ⟨le2, fun a6 h18 => ?_⟩⟩
  obtain ⟨e6, hn6⟩ := net0 (K := K) 1 h17 h18
  refine ⟨le6, fun tt htt => ⟨tt, rfl, ⟨_, SqT.of upd_same⟩, fun L hL => ?_⟩⟩
  have e7 := same_new htt (.tup [.ref av, .ref ac, .ref at3, .ref a4, .ref a5, .ref a6])
  have hall : DpAll K _ [V.ref av, .ref ac, .ref at3, .ref a4, .ref a5, .ref a6] (nets6.map fun n => netD n.1 n.2) :=
    .cons (Dp.same (e4.trans (e5.trans (e6.trans e7))) hv3) (.cons (Dp.same (e4.trans (e5.trans (e6.trans e7))) hc3) (.cons (Dp.same (e4.trans (e5.trans (e6.trans e7))) ht) (.cons (Dp.same (e5.trans (e6.trans e7)) hn4) (.cons (Dp.same (e6.trans e7) hn5) (.cons (Dp.same e7 hn6) .nil)))))
  have e47 := e4.trans (e5.trans (e6.trans e7))
  have hv7 := Dp.same e47 hv3
  have hc7 := Dp.same e47 hc3
  have e07 := e03.trans e47
  refine lc_map (K := K) (walk_tup (K := K) (xs := [V.ref av, .ref ac, .ref at3, .ref a4, .ref a5, .ref a6])) hL (fun H' e => seqT e (SqT.of upd_same)) (by show 6 ≤ 100000; omega) (fun i => .int (W (nets6.getD i (0, [])).1 (nets6.getD i (0, [])).2 (2 ^ (nets6.getD i (0, [])).1 - 1) : Nat)) (fun _ _ => rfl) (fun i x H1 H2 hi e8 y Ky hy => ?_) (fun H8 xs e8 hL8 hx => ?_)
  · obtain ⟨rfl, hx⟩ := y
    obtain ⟨d, hd, hxd⟩ := dpa_get hall hx
    rw [List.getElem?_map] at hd
    obtain ⟨n, hn, rfl⟩ := Option.map_eq_some_iff.mp hd
    rw [getD_of hn] at hy
    exact ⟨rfl, _, rfl, x, _, n.1, n.2, rfl, Dp.same e8 hxd, .inl rfl, good6 n (List.mem_of_getElem? hn), fun H3 e9 => hy _ _ e9 (.int _)⟩
  have hx1 : DpAll K H8 xs [.int 1, .int 2, .int 3, .int 0, .int 0, .int 1] := by
    have e : ((List.range nets6.length).map fun i => PyData.int (W (nets6.getD i (0, [])).1 (nets6.getD i (0, [])).2 (2 ^ (nets6.getD i (0, [])).1 - 1) : Nat)) = (nets6.map fun n => W n.1 n.2 (2 ^ n.1 - 1)).map fun (k : Nat) => PyData.int (k : Int) := by
      rw [range_getD nets6 (0, []) (fun n => PyData.int (W n.1 n.2 (2 ^ n.1 - 1) : Nat)), List.map_map]; rfl
    rw [worth6] at e
    have e2 := hx
    rw [show [V.ref av, .ref ac, .ref at3, .ref a4, .ref a5, .ref a6].length = nets6.length from rfl, e] at e2
    exact e2
  have hv8 := Dp.same e8 hv7
  have hc8 := Dp.same e8 hc7
  have e08 := e07.trans e8
  clear hx hall hv7 hc7 hv3 hc3 ht hn4 hn5 hn6 e47 e7 e6 e5 e4 e3 e2 e1 hv hc ez e07 e03 e8 htt hL
  -- .. worths of lefts
  refine ⟨_, rfl, le2, fun p hp => ⟨.ref av, .ref p, netD 3 vee, nsD (pcs 3), 3, vee, 3, rfl, Dp.same (same_new hp _) hv8, .inl rfl, good_vee, dp01 upd_same, .inl rfl, in_vee3, fun H9 e9 => ?_⟩⟩
  have e9 := (same_new hp (.tup [.int 0, .int 1])).trans e9
  refine ⟨_, rfl, le2, fun p hp => ⟨.ref ac, .ref p, netD 3 cap, nsD (pcs 3), 3, cap, 3, rfl, Dp.same (e9.trans (same_new hp _)) hc8, .inl rfl, good_cap, dp01 upd_same, .inl rfl, in_cap3, fun H10 e10 => ?_⟩⟩
  have e10 := (same_new hp (.tup [.int 0, .int 1])).trans e10
  refine ⟨_, rfl, le0, fun p hp => ⟨.ref ac, .ref p, netD 3 cap, nsD (pcs 0), 3, cap, 0, rfl, Dp.same (e9.trans (e10.trans (same_new hp _))) hc8, .inl rfl, good_cap, dpe upd_same, .inl rfl, in_cap0, fun H11 e11 => ?_⟩⟩
  have e11 := (same_new hp (.tup [])).trans e11
  refine ⟨le3, fun l2 hl2 => ?_⟩
  have e12 := same_new hl2 (.lst [wv 3 vee 3, wv 3 cap 3, wv 3 cap 0])
  have e812 := e9.trans (e10.trans (e11.trans e12))
  have hxl : xs.length = 6 := dpa_len hx1
  refine ⟨L, l2, xs, _, rfl, rfl, e812 _ _ hL8, upd_same, Evl.sz_of (by rw [hxl]; show 6 + 3 ≤ 100000; omega), fun g1 hg1 => ?_⟩
  have e13 := same_new hg1 (.lst (xs ++ [wv 3 vee 3, wv 3 cap 3, wv 3 cap 0]))
  have hgot1 : DpAll K (upd (upd H11 l2 (.lst [wv 3 vee 3, wv 3 cap 3, wv 3 cap 0])) g1 (.lst (xs ++ [wv 3 vee 3, wv 3 cap 3, wv 3 cap 0]))) (xs ++ [wv 3 vee 3, wv 3 cap 3, wv 3 cap 0]) d1 := by
    refine dpa_append (ds := [.int 1, .int 2, .int 3, .int 0, .int 0, .int 1]) (es := [.int 2, .int 0, .int 0]) (DpAll.same (e812.trans e13) hx1) (.cons (dp_of ?_) (.cons (dp_of ?_) (.cons (dp_of ?_) .nil)))
    · rw [W_vee3]; rfl
    · rw [W_cap3]; rfl
    · rw [W_cap0]; rfl
  have hgl1 : (xs ++ [wv 3 vee 3, wv 3 cap 3, wv 3 cap 0]).length ≤ 9 := by rw [List.length_append, hxl]; exact Nat.le_refl 9
  have hgat : (upd (upd H11 l2 (.lst [wv 3 vee 3, wv 3 cap 3, wv 3 cap 0])) g1 (.lst (xs ++ [wv 3 vee 3, wv 3 cap 3, wv 3 cap 0]))) g1 = some (.lst (xs ++ [wv 3 vee 3, wv 3 cap 3, wv 3 cap 0])) := upd_same
  have e813 := e812.trans e13
  generalize upd (upd H11 l2 (.lst [wv 3 vee 3, wv 3 cap 3, wv 3 cap 0])) g1 (.lst (xs ++ [wv 3 vee 3, wv 3 cap 3, wv 3 cap 0])) = H13 at hgot1 hgat e813 e13
  generalize xs ++ [wv 3 vee 3, wv 3 cap 3, wv 3 cap 0] = gx1 at hgot1 hgat hgl1 e13
  have hv13 := Dp.same e813 hv8
  have hc13 := Dp.same e813 hc8
  have e013 := e08.trans e813
  clear hx1 hv8 hc8 e08 e813 e812 e9 e10 e11 e12 e13 hL8 hl2 hg1 hp
  -- due
  refine ⟨le9, fun u1 hu1 => ?_⟩
  have e14 := same_new hu1 (.lst [.int 1, .int 2, .int 3, .int 0, .int 0, .int 1, .int 2, .int 0, .int 0])
  have hu14 : (upd H13 u1 (.lst [.int 1, .int 2, .int 3, .int 0, .int 0, .int 1, .int 2, .int 0, .int 0])) u1 = some (.lst [.int 1, .int 2, .int 3, .int 0, .int 0, .int 1, .int 2, .int 0, .int 0]) := upd_same
  have hg14 := e14 _ _ hgat
  have hgd14 := DpAll.same e14 hgot1
  have hv14 := Dp.same e14 hv13
  have hc14 := Dp.same e14 hc13
  have e014 := e013.trans e14
  clear e14 e013 hv13 hc13 hgat hgot1
  generalize upd H13 u1 (.lst [.int 1, .int 2, .int 3, .int 0, .int 0, .int 1, .int 2, .int 0, .int 0]) = H14 at *
  -- got, further
  refine ⟨_, rfl, _, rfl, le2, fun p hp => ⟨.ref ac, .ref p, netD 3 cap, nsD (pcs 3), 3, cap, 3, rfl, Dp.same (same_new hp _) hc14, .inl rfl, good_cap, dp01 upd_same, .inl rfl, in_cap3, fun H15 e15 => ?_⟩⟩
  have e15 := (same_new hp (.tup [.int 0, .int 1])).trans e15
  refine ⟨_, rfl, le1, fun p hp => ⟨.ref ac, .ref p, netD 3 cap, nsD (pcs 1), 3, cap, 1, rfl, Dp.same (e15.trans (same_new hp _)) hc14, .inl rfl, good_cap, dp0 upd_same, .inl rfl, in_cap1, fun H16 e16 => ?_⟩⟩
  have e16 := e15.trans ((same_new hp (.tup [.int 0])).trans e16)
  refine ⟨_, rfl, .ref ac, netD 3 cap, 3, cap, rfl, Dp.same e16 hc14, .inl rfl, good_cap, fun L1 ys1 bs1 H17 e17 _ hL1 pm1 lx1 pr1 => ?_⟩
  have w1 := lost_dp (K := K) losts_cap lex03 hL1 pm1 lx1 pr1
  refine ⟨le0, fun b2 hb2 => ⟨le2, fun a2 ha2 => ?_⟩⟩
  obtain ⟨e18, hn2⟩ := net0 (K := K) 2 hb2 ha2
  refine ⟨.ref a2, netD 2 [], 2, [], rfl, hn2, .inl rfl, good_none (by decide), fun L2 ys2 bs2 H19 e19 _ hL2 pm2 lx2 pr2 => ?_⟩
  have w2 := lost_dp (K := K) losts_two lex03 hL2 pm2 lx2 pr2
  have e19 := e18.trans e19
  refine ⟨_, rfl, .ref av, netD 3 vee, 3, vee, rfl, Dp.same (e16.trans (e17.trans e19)) hv14, .inl rfl, good_vee, fun t1 H20 e20 ht1 => ?_⟩
  refine ⟨_, rfl, .ref ac, netD 3 cap, 3, cap, rfl, Dp.same (e16.trans (e17.trans (e19.trans e20))) hc14, .inl rfl, good_cap, fun t2 H21 e21 ht2 => ?_⟩
  refine ⟨le0, fun b3 hb3 => ⟨le2, fun a3 ha3 => ?_⟩⟩
  obtain ⟨e22, hn3⟩ := net0 (K := K) 0 hb3 ha3
  refine ⟨.ref a3, netD 0 [], 0, [], rfl, hn3, .inl rfl, good_none (by decide), fun t3 H23 e23 ht3 => ⟨le7, fun l3 hl3 => ?_⟩⟩
  have e23 := e22.trans e23
  have e24 := same_new hl3 (.lst [.bl (decide (W 3 cap 3 ≠ 0)), .bl (decide (W 3 cap 1 ≠ 0)), .ref L1, .ref L2, .ref t1, .ref t2, .ref t3])
  have e1424 := e16.trans (e17.trans (e19.trans (e20.trans (e21.trans (e23.trans e24)))))
  refine ⟨g1, l3, gx1, _, rfl, rfl, e1424 _ _ hg14, upd_same, Evl.sz_of (by show gx1.length + 7 ≤ 100000; omega), fun g2 hg2 => ?_⟩
  have e25 := same_new hg2 (.lst (gx1 ++ [V.bl (decide (W 3 cap 3 ≠ 0)), .bl (decide (W 3 cap 1 ≠ 0)), .ref L1, .ref L2, .ref t1, .ref t2, .ref t3]))
  have hg25 := upd_same (H := upd H23 l3 (.lst [.bl (decide (W 3 cap 3 ≠ 0)), .bl (decide (W 3 cap 1 ≠ 0)), .ref L1, .ref L2, .ref t1, .ref t2, .ref t3])) (a := g2) (o := .lst (gx1 ++ [V.bl (decide (W 3 cap 3 ≠ 0)), .bl (decide (W 3 cap 1 ≠ 0)), .ref L1, .ref L2, .ref t1, .ref t2, .ref t3]))
  have hgd25 : DpAll K (upd (upd H23 l3 (.lst [.bl (decide (W 3 cap 3 ≠ 0)), .bl (decide (W 3 cap 1 ≠ 0)), .ref L1, .ref L2, .ref t1, .ref t2, .ref t3])) g2 (.lst (gx1 ++ [V.bl (decide (W 3 cap 3 ≠ 0)), .bl (decide (W 3 cap 1 ≠ 0)), .ref L1, .ref L2, .ref t1, .ref t2, .ref t3]))) (gx1 ++ [V.bl (decide (W 3 cap 3 ≠ 0)), .bl (decide (W 3 cap 1 ≠ 0)), .ref L1, .ref L2, .ref t1, .ref t2, .ref t3]) (d1 ++ d2) := by
    refine dpa_append (DpAll.same (e1424.trans e25) hgd14) (.cons (bl_of ?_) (.cons (bl_of ?_) (.cons (Dp.same (e19.trans (e20.trans (e21.trans (e23.trans (e24.trans e25))))) w1) (.cons (Dp.same (e20.trans (e21.trans (e23.trans (e24.trans e25)))) w2) (.cons (Dp.same (e21.trans (e23.trans (e24.trans e25))) (ns_of ht1 cnts_vee)) (.cons (Dp.same (e23.trans (e24.trans e25)) (ns_of ht2 cnts_cap)) (.cons (Dp.same (e24.trans e25) (ns_of ht3 cnts_zero)) .nil)))))))
    · exact decide_eq_false (fun h => h W_cap3)
    · exact decide_eq_true W_cap1
  have hgl2 : (gx1 ++ [V.bl (decide (W 3 cap 3 ≠ 0)), .bl (decide (W 3 cap 1 ≠ 0)), .ref L1, .ref L2, .ref t1, .ref t2, .ref t3]).length ≤ 16 := by rw [List.length_append]; show gx1.length + 7 ≤ 16; omega
  have e1425 := e1424.trans e25
  have hu25 := e1425 _ _ hu14
  have hc25 := Dp.same e1425 hc14
  have e025 := e014.trans e1425
  clear e1425 e1424 e25 e24 e23 e22 e21 e20 e19 e18 e17 e16 e15 e014 hg14 hgd14 hv14 hc14 hu14 ht1 ht2 ht3 w1 w2 hn2 hn3 hL1 hL2 pm1 pm2 lx1 lx2 pr1 pr2 hp hb2 ha2 hb3 ha3 hl3 hg2
  generalize upd (upd H23 l3 (.lst [.bl (decide (W 3 cap 3 ≠ 0)), .bl (decide (W 3 cap 1 ≠ 0)), .ref L1, .ref L2, .ref t1, .ref t2, .ref t3])) g2 (.lst (gx1 ++ [V.bl (decide (W 3 cap 3 ≠ 0)), .bl (decide (W 3 cap 1 ≠ 0)), .ref L1, .ref L2, .ref t1, .ref t2, .ref t3])) = H25 at *
  generalize gx1 ++ [V.bl (decide (W 3 cap 3 ≠ 0)), .bl (decide (W 3 cap 1 ≠ 0)), .ref L1, .ref L2, .ref t1, .ref t2, .ref t3] = gx2 at *
  -- due, further
  refine ⟨_, rfl, le0, fun p hp => ⟨le2, fun p' hp' => ⟨le2, fun k1 hk1 => ?_⟩⟩⟩
  obtain ⟨e26, x1⟩ := due2 (K := K) hp hp' hk1
  refine ⟨le0, fun p2 hp2 => ⟨le2, fun p2' hp2' => ⟨le2, fun k2 hk2 => ?_⟩⟩⟩
  obtain ⟨e27, x2⟩ := due2 (K := K) hp2 hp2' hk2
  refine ⟨le3, fun q1 hq1 => ⟨le3, fun q2 hq2 => ⟨le1, fun q3 hq3 => ⟨le7, fun l hl => ?_⟩⟩⟩⟩
  have e28 := same_new hq1 (.tup [.int 1, .int 2, .int 2])
  have e29 := same_new hq2 (.tup [.int 2, .int 2, .int 1])
  have e30 := same_new hq3 (.tup [.int 1])
  have e31 := same_new hl (.lst [.bl false, .bl true, .ref k1, .ref k2, .ref q1, .ref q2, .ref q3])
  have e2531 := e26.trans (e27.trans (e28.trans (e29.trans (e30.trans e31))))
  refine ⟨u1, l, _, _, rfl, rfl, e2531 _ _ hu25, upd_same, Evl.sz_of (by show 9 + 7 ≤ 100000; omega), fun u2 hu2 => ?_⟩
  have e32 := same_new hu2 (.lst ([.int 1, .int 2, .int 3, .int 0, .int 0, .int 1, .int 2, .int 0, .int 0] ++ [.bl false, .bl true, .ref k1, .ref k2, .ref q1, .ref q2, .ref q3]))
  have e2532 := e2531.trans e32
  have hu32 : LAt K _ u2 (d1 ++ d2) := LAt.mk hu2 (dpa_append d1_dp (.cons (.bl _) (.cons (.bl _) (.cons (Dp.same (e27.trans (e28.trans (e29.trans (e30.trans e31)))) x1) (.cons (Dp.same (e28.trans (e29.trans (e30.trans e31))) x2) (.cons (Dp.same (e29.trans (e30.trans e31)) (ns_dp (l := [1, 2, 2]) (SqT.of upd_same)))
      (.cons (Dp.same (e30.trans e31) (ns_dp (l := [2, 2, 1]) (SqT.of upd_same))) (.cons (Dp.same e31 (ns_dp (l := [1]) (SqT.of upd_same))) .nil))))))))
  have hg32 := e2532 _ _ hg25
  have hgd32 := DpAll.same e2532 hgd25
  have hc32 := Dp.same e2532 hc25
  have e032 := e025.trans e2532
  clear e2532 e32 e2531 e31 e30 e29 e28 e27 e26 x1 x2 hg25 hgd25 hc25 e025 hu25 hp hp' hk1 hp2 hp2' hk2 hq1 hq2 hq3 hl hu2 hu1
  -- twelve
  refine ⟨le2, fun r1 hr1 => ⟨le2, fun r2 hr2 => ⟨le2, fun r3 hr3 => ⟨le2, fun r4 hr4 => ⟨le2, fun r5 hr5 => ⟨le2, fun r6 hr6 => ⟨le2, fun r7 hr7 => ⟨le7, fun bb hbb => ⟨le2, fun aa haa => ?_⟩⟩⟩⟩⟩⟩⟩⟩⟩
  have s1 := same_new hr1 (.tup [.int 0, .int 1])
  have s2 := same_new hr2 (.tup [.int 0, .int 2])
  have s3 := same_new hr3 (.tup [.int 1, .int 3])
  have s4 := same_new hr4 (.tup [.int 1, .int 4])
  have s5 := same_new hr5 (.tup [.int 2, .int 4])
  have s6 := same_new hr6 (.tup [.int 3, .int 5])
  have s7 := same_new hr7 (.tup [.int 4, .int 5])
  have hps : DpAll K _ [V.ref r1, .ref r2, .ref r3, .ref r4, .ref r5, .ref r6, .ref r7] (twelve.map pD) :=
    .cons (Dp.same (s2.trans (s3.trans (s4.trans (s5.trans (s6.trans s7))))) (pair_dp (p := (0, 1)) (SqT.of upd_same))) (.cons (Dp.same (s3.trans (s4.trans (s5.trans (s6.trans s7)))) (pair_dp (p := (0, 2)) (SqT.of upd_same))) (.cons (Dp.same (s4.trans (s5.trans (s6.trans s7))) (pair_dp (p := (1, 3)) (SqT.of upd_same)))
      (.cons (Dp.same (s5.trans (s6.trans s7)) (pair_dp (p := (1, 4)) (SqT.of upd_same))) (.cons (Dp.same (s6.trans s7) (pair_dp (p := (2, 4)) (SqT.of upd_same))) (.cons (Dp.same s7 (pair_dp (p := (3, 5)) (SqT.of upd_same))) (.cons (pair_dp (p := (4, 5)) (SqT.of upd_same)) .nil))))))
  obtain ⟨s8, hz⟩ := netP (K := K) (m := 6) hps hbb haa
  have s18 := s1.trans (s2.trans (s3.trans (s4.trans (s5.trans (s6.trans (s7.trans s8))))))
  -- got, further
  refine ⟨_, rfl, _, rfl, .ref aa, netD 6 twelve, 6, twelve, rfl, hz, .inl rfl, good_twelve, fun H33 e33 => ?_⟩
  refine ⟨_, rfl, .ref aa, netD 6 twelve, 6, twelve, rfl, Dp.same e33 hz, .inl rfl, good_twelve, fun L3 ys3 bs3 H34 e34 _ hL3 pm3 lx3 pr3 => ?_⟩
  have w3 := lost_dp (K := K) losts_twelve lex0 hL3 pm3 lx3 pr3
  refine ⟨_, rfl, .ref aa, netD 6 twelve, 6, twelve, rfl, Dp.same (e33.trans e34) hz, .inl rfl, good_twelve, fun t4 H35 e35 ht4 => ⟨le3, fun l4 hl4 => ?_⟩⟩
  have e36 := same_new hl4 (.lst [wv 6 twelve (2 ^ 6 - 1), .ref L3, .ref t4])
  have e3236 := s18.trans (e33.trans (e34.trans (e35.trans e36)))
  refine ⟨g2, l4, gx2, _, rfl, rfl, e3236 _ _ hg32, upd_same, Evl.sz_of (by show gx2.length + 3 ≤ 100000; omega), fun g3 hg3 => ?_⟩
  have e37 := same_new hg3 (.lst (gx2 ++ [wv 6 twelve (2 ^ 6 - 1), .ref L3, .ref t4]))
  have e3237 := e3236.trans e37
  have hg37 : LAt K _ g3 ((d1 ++ d2) ++ d3) := LAt.mk hg3 (dpa_append (DpAll.same e3236 hgd32) (.cons (dp_of (show ((W 6 twelve (2 ^ 6 - 1) : Nat) : Int) = 5 by rw [show 2 ^ 6 - 1 = 63 from rfl, W_twelve]; rfl)) (.cons (Dp.same (e35.trans e36) w3) (.cons (Dp.same e36 (ns_of ht4 cnts_twelve)) .nil))))
  have hu37 := hu32.same e3237
  have hc37 := Dp.same e3237 hc32
  have e037 := e032.trans e3237
  clear e3237 e37 e3236 e36 e35 e34 e33 w3 s18 s8 hz hps s1 s2 s3 s4 s5 s6 s7 hr1 hr2 hr3 hr4 hr5 hr6 hr7 hbb haa hg3 hl4 ht4 hL3 pm3 lx3 pr3 hg32 hgd32 hu32 hc32 e032
  -- due, further
  refine ⟨_, rfl, le0, fun p hp => ⟨le1, fun k1 hk1 => ⟨le6, fun q1 hq1 => ⟨le3, fun l hl => ?_⟩⟩⟩⟩
  have e38 := same_new hp (.tup [])
  have e39 := same_new hk1 (.lst [.ref p])
  have e40 := same_new hq1 (.tup [.int 1, .int 3, .int 2, .int 2, .int 1, .int 1])
  have e41 := same_new hl (.lst [.int 5, .ref k1, .ref q1])
  have x1 := (LAt.mk (K := K) hk1 (ds := [nsD (pcs 0)]) (.cons (dpe upd_same) .nil)).dp
  have e3741 := e38.trans (e39.trans (e40.trans e41))
  obtain ⟨ux, hu37, hud37⟩ := hu37
  have huxl : ux.length = 16 := dpa_len hud37
  refine ⟨u2, l, ux, _, rfl, rfl, e3741 _ _ hu37, upd_same, Evl.sz_of (by show ux.length + 3 ≤ 100000; omega), fun u3 hu3 => ?_⟩
  have e42 := same_new hu3 (.lst (ux ++ [.int 5, .ref k1, .ref q1]))
  have e3742 := e3741.trans e42
  have hu42 : LAt K _ u3 ((d1 ++ d2) ++ d3) := LAt.mk hu3 (dpa_append (DpAll.same e3741 hud37) (.cons (.int _) (.cons (Dp.same (e40.trans e41) x1) (.cons (Dp.same e41 (ns_dp (l := [1, 3, 2, 2, 1, 1]) (SqT.of upd_same))) .nil))))
  have hg42 := hg37.same e3742
  have hc42 := Dp.same e3742 hc37
  have e042 := e037.trans e3742
  clear e3742 e42 e3741 e41 e40 e39 e38 x1 hp hk1 hq1 hl hu3 hg37 hu37 hud37 hc37 e037
  -- told
  refine ⟨_, rfl, .ref ac, netD 3 cap, 3, cap, rfl, hc42, .inl rfl, good_cap, fun L4 ys4 bs4 H43 e43 hL0 hL4 pm4 lx4 pr4 => ?_⟩
  have hyl : ys4.length = 2 := by rw [pr4.length, pm4.length_eq, losts_cap]; rfl
  refine ⟨_, rfl, tyv_list (SqL.of hL4), le0, fun p hp => ⟨L4, ys4, .ref p, rfl, rfl, (same_new hp _) _ _ hL4, Evl.sz_lt (by omega), ?_⟩⟩
  have e44 := same_upd (o := .lst (ys4 ++ [.ref p])) (e43.trans (same_new hp (.tup []))) hL0
  obtain ⟨gx3, hg44, hgd44⟩ := hg42.same e44
  obtain ⟨ux3, hu44, hud44⟩ := hu42.same e44
  have hgl3 : gx3.length = 19 := dpa_len hgd44
  have huxl3 : ux3.length = 19 := dpa_len hud44
  have hc44 := Dp.same e44 hc42
  have e044 := e042.trans e44
  -- the question
  refine ⟨_, rfl, _, rfl, .ref ac, netD 3 cap, 3, cap, rfl, hc44, .inl rfl, good_cap, fun L5 ys5 bs5 H45 e45 _ hL5 pm5 lx5 pr5 => ⟨le1, fun l5 hl5 => ?_⟩⟩
  have w5 := lost_dp (K := K) losts_cap lex03 hL5 pm5 lx5 pr5
  have e46 := same_new hl5 (.lst [.ref L5])
  refine ⟨g3, l5, gx3, _, rfl, rfl, (e45.trans e46) _ _ hg44, upd_same, Evl.sz_of (by show gx3.length + 1 ≤ 100000; omega), fun g4 hg4 => ?_⟩
  have e47 := same_new hg4 (.lst (gx3 ++ [.ref L5]))
  have hgf := (LAt.mk hg4 (dpa_append (DpAll.same (e45.trans e46) hgd44) (.cons (Dp.same e46 w5) .nil))).dp
  have e4447 := e45.trans (e46.trans e47)
  refine ⟨_, rfl, le0, fun p5 hp5 => ⟨le2, fun p5' hp5' => ⟨le2, fun k5 hk5 => ?_⟩⟩⟩
  obtain ⟨e48, x5⟩ := due2 (K := K) hp5 hp5' hk5
  refine ⟨le1, fun l6 hl6 => ?_⟩
  have e49 := same_new hl6 (.lst [.ref k5])
  refine ⟨u3, l6, ux3, _, rfl, rfl, (e4447.trans (e48.trans e49)) _ _ hu44, upd_same, Evl.sz_of (by show ux3.length + 1 ≤ 100000; omega), fun u4 hu4 => ?_⟩
  have e50 := same_new hu4 (.lst (ux3 ++ [.ref k5]))
  exact ⟨.ref g4, .ref u4, _, rfl, Dp.same (e48.trans (e49.trans e50)) hgf, .lst (SqL.of upd_same) (dpa_append (DpAll.same (e4447.trans (e48.trans (e49.trans e50))) hud44) (.cons (Dp.same (e49.trans e50) x5) .nil)), okE_all, fun H51 e51 => q _ (e044.trans (e4447.trans ((e48.trans (e49.trans e50)).trans e51)))⟩
end
end K13

set_option Elab.async false
set_option linter.all false
set_option maxRecDepth 100000
set_option maxHeartbeats 4000000
/-! The law; all defs put together. -/
namespace K13
open PySem PySem.Spec PyProof.Rows L2 RZ
section
variable {P : Program} {w : World} {K : PySem.W.Frag} {mg : Str → Option Value} {base : Heap}
def spLaw (K : PySem.W.Frag) : Sp := fun vs H Q _ => ∃ (a : Addr) (ns : List Int), vs = [.ref a] ∧ SqL K H a (ns.map V.int) ∧ ns.length ≤ 63 ∧ ∀ H', Q (.bl true) H'
theorem ok_law {f : Addr} {fd : FuncData} (F : Fun K "law" "law" sLaw f fd) (cLwByHandRight : Cal P w K mg base 10 "_law_by_hand_right" pLwByHandRight spHand) (cLwRight : Cal P w K mg base 10 "_law_right" pLwRight spRight) (cLwBox : Cal P w K mg base 1 "_law_box" pLwBox (spBox K)) (cLwCells : Cal P w K mg base 1 "_law_cells" pLwCells (spCells K)) : FnOk P w K mg base CX0 11 f fd pLaw (spLaw K) := by
  refine F.ok scLaw (fun vs H Q E h => ?_) (fun cdv A outer s H vs Q E hr h => ?_)
  · obtain ⟨a, ns, rfl, _⟩ := h; rfl
  obtain ⟨a, ns, rfl, ha, hl, q⟩ := h
  refine ⟨_, (pss_one (ps_ret (pe_and (pe_c0 cLwByHandRight hr (by decide) rfl) (pe_one (pe_c cLwRight hr (by decide) rfl (pa_cons (pe_c cLwBox hr (by decide) rfl (pa_cons (pe_c cLwCells hr (by decide) rfl (pa_cons (pv 0) (pa_cons (pe_int) pa_nil))) (pa_cons (pe_int) pa_nil))) pa_nil)))))), ?_⟩
  refine ⟨rfl, fun H1 e1 => ⟨true, rfl, iteT ?_⟩⟩
  refine ⟨_, rfl, a, ns, rfl, e1.seq ha, by omega, fun L z zs H2 e2 hL => ?_⟩
  exact ⟨L, z, zs, rfl, SqL.of hL, fun p hp b s => ⟨p, rfl, ⟨b, s, 0, upd_same, Int.le_refl 0, Int.le_refl 0⟩, fun H' => q H'⟩⟩
theorem def_mk {h : Heap} {x : Str} {st : Stmt} {ps : List Str} {f : Addr} {oc : Value} {od an : Option Addr} {osl : Array (Option Value)} {kV doc pm cdv ct : Value} (X : K.In h) (G : h.Ns mainGlobals mg)
    (a : PySem.W.nsIn K mainGlobals x = some (some (.ref f))) (l : K.lookup f = some ⟨oc, od, .func (PySem.W.fnOf x x (defArgs st) (defBody st) (defScope st) .none kV doc pm an cdv ct), osl⟩) (c : PySem.W.codeIn K cdv x = true) (k : PySem.W.keepIn K (.ref f) = true)
    (b : ∀ (kV doc pm : Value) (an : Option Addr) (cdv ct : Value) (us : List Value), us.length = ps.length → bindArgs (PySem.W.fnOf x x (defArgs st) (defBody st) (defScope st) .none kV doc pm an cdv ct) ⟨us, []⟩ = pure (ps.zip us)) : Def K mg x st ps := by
  have F := fun_mk (st := st) l c k
  exact ⟨⟨f, _, F, PySem.W.mg_of X G a, F.binds b⟩⟩
theorem ok_all (T : Txt mg) (dIsNumber : Def K mg "is_number" sIsNumber pIsNumber)
    (dIsFrom : Def K mg "is_from" sIsFrom pIsFrom)
    (dIsWithin : Def K mg "is_within" sIsWithin pIsWithin)
    (dIsLong : Def K mg "is_long" sIsLong pIsLong)
    (dTupled : Def K mg "tupled" sTupled pTupled)
    (dAscends : Def K mg "ascends" sAscends pAscends)
    (dAreNumbers : Def K mg "are_numbers" sAreNumbers pAreNumbers)
    (dIsPairOf : Def K mg "is_pair_of" sIsPairOf pIsPairOf)
    (dDirectsBy : Def K mg "directs_by" sDirectsBy pDirectsBy)
    (dUpsBy : Def K mg "ups_by" sUpsBy pUpsBy)
    (dFollowsBy : Def K mg "follows_by" sFollowsBy pFollowsBy)
    (dTiesBy : Def K mg "ties_by" sTiesBy pTiesBy)
    (dTiesOf : Def K mg "ties_of" sTiesOf pTiesOf)
    (dFollowNone : Def K mg "follow_none" sFollowNone pFollowNone)
    (dIsOrder : Def K mg "is_order" sIsOrder pIsOrder)
    (dSureOrder : Def K mg "sure_order" sSureOrder pSureOrder)
    (dArePiecesIn : Def K mg "are_pieces_in" sArePiecesIn pArePiecesIn)
    (dIsLeftIn : Def K mg "is_left_in" sIsLeftIn pIsLeftIn)
    (dSureLeft : Def K mg "sure_left" sSureLeft pSureLeft)
    (dBitsFor : Def K mg "bits_for" sBitsFor pBitsFor)
    (dPiecesFor : Def K mg "pieces_for" sPiecesFor pPiecesFor)
    (dTopsByBits : Def K mg "tops_by_bits" sTopsByBits pTopsByBits)
    (dLeftsByBits : Def K mg "lefts_by_bits" sLeftsByBits pLeftsByBits)
    (dLeastWithout : Def K mg "least_without" sLeastWithout pLeastWithout)
    (dWorthsByBits : Def K mg "worths_by_bits" sWorthsByBits pWorthsByBits)
    (dWorthIn : Def K mg "worth_in" sWorthIn pWorthIn)
    (dLeftWorthIn : Def K mg "left_worth_in" sLeftWorthIn pLeftWorthIn)
    (dLeftSure : Def K mg "left_sure" sLeftSure pLeftSure)
    (dWorth : Def K mg "worth" sWorth pWorth)
    (dWorthLeft : Def K mg "worth_left" sWorthLeft pWorthLeft)
    (dIsWon : Def K mg "is_won" sIsWon pIsWon)
    (dLostLefts : Def K mg "lost_lefts" sLostLefts pLostLefts)
    (dByWorth : Def K mg "by_worth" sByWorth pByWorth)
    (dLwBox : Def K mg "_law_box" sLwBox pLwBox)
    (dLwTake : Def K mg "_law_take" sLwTake pLwTake)
    (dLwCells : Def K mg "_law_cells" sLwCells pLwCells)
    (dLwPick : Def K mg "_law_pick" sLwPick pLwPick)
    (dLwLists : Def K mg "_law_lists" sLwLists pLwLists)
    (dLwSame : Def K mg "_law_same" sLwSame pLwSame)
    (dLwNet : Def K mg "_law_net" sLwNet pLwNet)
    (dLwUps : Def K mg "_law_ups" sLwUps pLwUps)
    (dLwBits : Def K mg "_law_bits" sLwBits pLwBits)
    (dLwPieces : Def K mg "_law_pieces" sLwPieces pLwPieces)
    (dLwLefts : Def K mg "_law_lefts" sLwLefts pLwLefts)
    (dLwLeastOut : Def K mg "_law_least_out" sLwLeastOut pLwLeastOut)
    (dLwWorths : Def K mg "_law_worths" sLwWorths pLwWorths)
    (dLwAside : Def K mg "_law_aside" sLwAside pLwAside)
    (dLwHeap : Def K mg "_law_heap" sLwHeap pLwHeap)
    (dLwOrder : Def K mg "_law_order" sLwOrder pLwOrder)
    (dLwLooseNet : Def K mg "_law_loose_net" sLwLooseNet pLwLooseNet)
    (dLwByHandRight : Def K mg "_law_by_hand_right" sLwByHandRight pLwByHandRight)
    (dLwWins : Def K mg "_law_wins" sLwWins pLwWins)
    (dLwRight : Def K mg "_law_right" sLwRight pLwRight) {f : Addr} {fd : FuncData} (F : Fun K "law" "law" sLaw f fd) : FnOk P w K mg base CX0 11 f fd pLaw (spLaw K) := by
  have cIsNumber := ok_is_number (P := P) (w := w) (base := base) T dIsNumber
  have cIsFrom := ok_is_from (P := P) (w := w) (base := base) dIsFrom cIsNumber
  have cIsWithin := ok_is_within (P := P) (w := w) (base := base) dIsWithin cIsNumber
  have cIsLong := ok_is_long (P := P) (w := w) (base := base) T dIsLong
  have cAreNumbers := ok_are_numbers (P := P) (w := w) (base := base) T dAreNumbers cIsNumber
  have cTupled := ok_tupled (P := P) (w := w) (base := base) T dTupled 4
  have cAscends := ok_ascends (P := P) (w := w) (base := base) T dAscends
  have cIsPairOf := ok_is_pair_of (P := P) (w := w) (base := base) T dIsPairOf cIsLong cAreNumbers
  have cDirectsBy := ok_directs_by (P := P) (w := w) (base := base) T dDirectsBy
  have cUpsBy := ok_ups_by (P := P) (w := w) (base := base) T dUpsBy
  have cFollowsBy := ok_follows_by (P := P) (w := w) (base := base) T dFollowsBy
  have cTiesBy := ok_ties_by (P := P) (w := w) (base := base) T dTiesBy cUpsBy cFollowsBy
  have cTiesOf := ok_ties_of (P := P) (w := w) (base := base) T dTiesOf cDirectsBy cTiesBy
  have cFollowNone := ok_follow_none (P := P) (w := w) (base := base) dFollowNone cTiesOf
  have cIsOrder := ok_is_order (P := P) (w := w) (base := base) T dIsOrder cIsLong cIsFrom cIsPairOf cAscends cFollowNone
  have cSureOrder := ok_sure_order (P := P) (w := w) (base := base) dSureOrder cTupled cIsOrder
  have cArePiecesIn := ok_are_pieces_in (P := P) (w := w) (base := base) T dArePiecesIn cIsWithin
  have cIsLeftIn := ok_is_left_in (P := P) (w := w) (base := base) T dIsLeftIn cArePiecesIn cAscends
  have cSureLeft := ok_sure_left (P := P) (w := w) (base := base) dSureLeft cTupled cIsLeftIn
  have cBitsFor := okbits_for (P := P) (w := w) (base := base) T dBitsFor
  have cPiecesFor := okpieces_for (P := P) (w := w) (base := base) T dPiecesFor
  have cTopsByBits := oktops_by_bits (P := P) (w := w) (base := base) T dTopsByBits
  have cLeftsByBits := ok_lefts_by_bits (P := P) (w := w) (base := base) T dLeftsByBits cBitsFor
  have cLeastWithout := ok_least_without (P := P) (w := w) (base := base) T dLeastWithout
  have cWorthsByBits := okworths_by_bits (P := P) (w := w) (base := base) T dWorthsByBits cTopsByBits cLeftsByBits cLeastWithout cPiecesFor
  have cWorthIn := ok_worth_in (P := P) (w := w) (base := base) dWorthIn cWorthsByBits
  have cLeftWorthIn := ok_left_worth_in (P := P) (w := w) (base := base) dLeftWorthIn cWorthsByBits cBitsFor
  have cLeftSure := ok_left_sure (P := P) (w := w) (base := base) dLeftSure cSureOrder cSureLeft
  have cWorth := ok_worth (P := P) (w := w) (base := base) dWorth cSureOrder cWorthIn
  have cWorthLeft := ok_worth_left (P := P) (w := w) (base := base) dWorthLeft cLeftSure cLeftWorthIn
  have cIsWon := ok_is_won (P := P) (w := w) (base := base) dIsWon cWorthLeft
  have cLostLefts := ok_lost_lefts (P := P) (w := w) (base := base) T dLostLefts cSureOrder cWorthsByBits cPiecesFor
  have cByWorth := ok_by_worth (P := P) (w := w) (base := base) T dByWorth cSureOrder cWorthsByBits
  have cLwTake := ok_law_take (P := P) (w := w) (base := base) T dLwTake
  have cLwBox := ok_law_box (P := P) (w := w) (base := base) T dLwBox
  have cLwCells := ok_law_cells (P := P) (w := w) (base := base) T dLwCells
  have cLwLists := ok_law_lists (P := P) (w := w) (base := base) T dLwLists 4
  have cLwSame := ok_law_same (P := P) (w := w) (base := base) T dLwSame 4
  have cLwNet := ok_law_net (P := P) (w := w) (base := base) T dLwNet
  have cLwAside := ok_law_aside (P := P) (w := w) (base := base) T dLwAside
  have cLwHeap := ok_law_heap (P := P) (w := w) (base := base) T dLwHeap cLwAside cLwNet
  have cLwLooseNet := ok_law_loose_net (P := P) (w := w) (base := base) T dLwLooseNet cLwTake cLwNet
  have cLwOrder := ok_law_order (P := P) (w := w) (base := base) T dLwOrder cLwTake cLwNet cLwAside cLwHeap cLwLooseNet
  have cLwPick := ok_law_pick (P := P) (w := w) (base := base) T dLwPick cLwTake
  have cLwUps := ok_law_ups (P := P) (w := w) (base := base) T dLwUps
  have cLwBits := ok_law_bits (P := P) (w := w) (base := base) T dLwBits
  have cLwPieces := ok_law_pieces (P := P) (w := w) (base := base) T dLwPieces
  have cLwLefts := ok_law_lefts (P := P) (w := w) (base := base) T dLwLefts cLwBits
  have cLwLeastOut := ok_law_least_out (P := P) (w := w) (base := base) T dLwLeastOut
  have cLwWorths := ok_law_worths (P := P) (w := w) (base := base) T dLwWorths cLwUps cLwLefts cLwLeastOut
  have cLwWins := ok_law_wins (P := P) (w := w) (base := base) T dLwWins cLwUps cLwLefts
  have kWorth := okk_worth (P := P) (w := w) (base := base) dWorth cSureOrder cWorthIn
  have kWorthLeft := okk_worth_left (P := P) (w := w) (base := base) dWorthLeft cLeftSure cLeftWorthIn
  have kIsWon := okk_is_won (P := P) (w := w) (base := base) dIsWon cWorthLeft
  have kLostLefts := okk_lost_lefts (P := P) (w := w) (base := base) T dLostLefts cSureOrder cWorthsByBits cPiecesFor
  have kByWorth := okk_by_worth (P := P) (w := w) (base := base) T dByWorth cSureOrder cWorthsByBits
  have cLwRight := ok_law_right T dLwRight cLwPick cLwLists kWorthLeft kIsWon cLwSame cLwWins cLwBits cLwOrder cLwWorths cLwPieces kWorth kLostLefts kByWorth
  have cLwByHandRight := ok_by_hand T dLwByHandRight cWorth cWorthLeft cIsWon cLostLefts cByWorth cLwSame
  exact ok_law F cLwByHandRight cLwRight cLwBox cLwCells
theorem walkAll {l : PySem.W.OpenLaw} {q : Program} {loose : List Str} {XP : (Str → Option Value) → Heap → Prop} {YP : World → Heap → Prop} {d : DefRec} {K : Params → PySem.W.Frag} (hn : l.most = some 63) (hdf : d.params.defaults = [])
    (hY : ∀ (w : World) (h : Heap), YP w h → (K w.params).In h)
    (F : ∀ (w : World) (mg : Str → Option Value) (fa : Addr) (h : Heap), (K w.params).In h → h.Ns mainGlobals mg → mg d.name = some (.ref fa) →
      ∃ fd : FuncData, (∀ (s : Shared) (u : Value), BindsTo s fd ⟨[u], []⟩ [("_law_script", u)]) ∧ ∀ base : Heap, (K w.params).In base → base.Ns mainGlobals mg → FnOk l.prog w (K w.params) mg base CX0 11 fa fd ["_law_script"] (spLaw (K w.params))) :
    PySem.W.WalkO q loose XP YP l.row.toRowW d [] (fun f vs => PySem.call f vs) :=
  L2.walk_of (n := 63) (k := 11) (x := "_law_script") (CX := fun _ => CX0) (sp := fun w => spLaw (K w.params)) hn (by decide) hdf ⟨rfl, by decide, by decide⟩ hY F (fun _ _ a ns hl _ hS => ⟨a, ns, rfl, hS, hl, fun _ => rfl⟩) fun _ _ _ _ _ z => z
theorem txt_mk {h : Heap} (X : K.In h) (G : h.Ns mainGlobals mg) (z0 : PySem.W.nsIn K mainGlobals "isinstance" = some none) (z1 : PySem.W.nsIn K mainGlobals "int" = some none) (z2 : PySem.W.nsIn K mainGlobals "bool" = some none) (z3 : PySem.W.nsIn K mainGlobals "tuple" = some none) (z4 : PySem.W.nsIn K mainGlobals "list" = some none) (z5 : PySem.W.nsIn K mainGlobals "str" = some none) (z6 : PySem.W.nsIn K mainGlobals "dict" = some none) (z7 : PySem.W.nsIn K mainGlobals "len" = some none) (z8 : PySem.W.nsIn K mainGlobals "all" = some none) (z9 : PySem.W.nsIn K mainGlobals "any" = some none) (z10 : PySem.W.nsIn K mainGlobals "sum" = some none) (z11 : PySem.W.nsIn K mainGlobals "max" = some none) (z12 : PySem.W.nsIn K mainGlobals "min" = some none) (z13 : PySem.W.nsIn K mainGlobals "abs" = some none) (z14 : PySem.W.nsIn K mainGlobals "range" = some none) (z15 : PySem.W.nsIn K mainGlobals "sorted" = some none) (z16 : PySem.W.nsIn K mainGlobals "enumerate" = some none) (z17 : PySem.W.nsIn K mainGlobals "zip" = some none)
    (few : ∃ t, PySem.W.nsIn K mainGlobals "FEW" = some (some (.int 2000 t))) : Txt mg := by
  obtain ⟨t, few⟩ := few
  exact ⟨PySem.W.mg_none_of X G z0, PySem.W.mg_none_of X G z1, PySem.W.mg_none_of X G z2, PySem.W.mg_none_of X G z3, PySem.W.mg_none_of X G z4, PySem.W.mg_none_of X G z5, PySem.W.mg_none_of X G z6, PySem.W.mg_none_of X G z7, PySem.W.mg_none_of X G z8, PySem.W.mg_none_of X G z9, PySem.W.mg_none_of X G z10, PySem.W.mg_none_of X G z11, PySem.W.mg_none_of X G z12, PySem.W.mg_none_of X G z13, PySem.W.mg_none_of X G z14, PySem.W.mg_none_of X G z15, PySem.W.mg_none_of X G z16, PySem.W.mg_none_of X G z17, t, PySem.W.mg_of X G few⟩
theorem last {l : PySem.W.OpenLaw} {h : Heap} {fa f : Addr} {oc : Value} {od an : Option Addr} {osl : Array (Option Value)} {kV doc pm cdv ct : Value} (X : K.In h) (G : h.Ns mainGlobals mg) (hfa : mg "law" = some (.ref fa))
    (a : PySem.W.nsIn K mainGlobals "law" = some (some (.ref f))) (lk : K.lookup f = some ⟨oc, od, .func (PySem.W.fnOf "law" "law" (defArgs sLaw) (defBody sLaw) (defScope sLaw) .none kV doc pm an cdv ct), osl⟩) (c : PySem.W.codeIn K cdv "law" = true) (k : PySem.W.keepIn K (.ref f) = true)
    (T : Txt mg) (dIsNumber : Def K mg "is_number" sIsNumber pIsNumber)
    (dIsFrom : Def K mg "is_from" sIsFrom pIsFrom)
    (dIsWithin : Def K mg "is_within" sIsWithin pIsWithin)
    (dIsLong : Def K mg "is_long" sIsLong pIsLong)
    (dTupled : Def K mg "tupled" sTupled pTupled)
    (dAscends : Def K mg "ascends" sAscends pAscends)
    (dAreNumbers : Def K mg "are_numbers" sAreNumbers pAreNumbers)
    (dIsPairOf : Def K mg "is_pair_of" sIsPairOf pIsPairOf)
    (dDirectsBy : Def K mg "directs_by" sDirectsBy pDirectsBy)
    (dUpsBy : Def K mg "ups_by" sUpsBy pUpsBy)
    (dFollowsBy : Def K mg "follows_by" sFollowsBy pFollowsBy)
    (dTiesBy : Def K mg "ties_by" sTiesBy pTiesBy)
    (dTiesOf : Def K mg "ties_of" sTiesOf pTiesOf)
    (dFollowNone : Def K mg "follow_none" sFollowNone pFollowNone)
    (dIsOrder : Def K mg "is_order" sIsOrder pIsOrder)
    (dSureOrder : Def K mg "sure_order" sSureOrder pSureOrder)
    (dArePiecesIn : Def K mg "are_pieces_in" sArePiecesIn pArePiecesIn)
    (dIsLeftIn : Def K mg "is_left_in" sIsLeftIn pIsLeftIn)
    (dSureLeft : Def K mg "sure_left" sSureLeft pSureLeft)
    (dBitsFor : Def K mg "bits_for" sBitsFor pBitsFor)
    (dPiecesFor : Def K mg "pieces_for" sPiecesFor pPiecesFor)
    (dTopsByBits : Def K mg "tops_by_bits" sTopsByBits pTopsByBits)
    (dLeftsByBits : Def K mg "lefts_by_bits" sLeftsByBits pLeftsByBits)
    (dLeastWithout : Def K mg "least_without" sLeastWithout pLeastWithout)
    (dWorthsByBits : Def K mg "worths_by_bits" sWorthsByBits pWorthsByBits)
    (dWorthIn : Def K mg "worth_in" sWorthIn pWorthIn)
    (dLeftWorthIn : Def K mg "left_worth_in" sLeftWorthIn pLeftWorthIn)
    (dLeftSure : Def K mg "left_sure" sLeftSure pLeftSure)
    (dWorth : Def K mg "worth" sWorth pWorth)
    (dWorthLeft : Def K mg "worth_left" sWorthLeft pWorthLeft)
    (dIsWon : Def K mg "is_won" sIsWon pIsWon)
    (dLostLefts : Def K mg "lost_lefts" sLostLefts pLostLefts)
    (dByWorth : Def K mg "by_worth" sByWorth pByWorth)
    (dLwBox : Def K mg "_law_box" sLwBox pLwBox)
    (dLwTake : Def K mg "_law_take" sLwTake pLwTake)
    (dLwCells : Def K mg "_law_cells" sLwCells pLwCells)
    (dLwPick : Def K mg "_law_pick" sLwPick pLwPick)
    (dLwLists : Def K mg "_law_lists" sLwLists pLwLists)
    (dLwSame : Def K mg "_law_same" sLwSame pLwSame)
    (dLwNet : Def K mg "_law_net" sLwNet pLwNet)
    (dLwUps : Def K mg "_law_ups" sLwUps pLwUps)
    (dLwBits : Def K mg "_law_bits" sLwBits pLwBits)
    (dLwPieces : Def K mg "_law_pieces" sLwPieces pLwPieces)
    (dLwLefts : Def K mg "_law_lefts" sLwLefts pLwLefts)
    (dLwLeastOut : Def K mg "_law_least_out" sLwLeastOut pLwLeastOut)
    (dLwWorths : Def K mg "_law_worths" sLwWorths pLwWorths)
    (dLwAside : Def K mg "_law_aside" sLwAside pLwAside)
    (dLwHeap : Def K mg "_law_heap" sLwHeap pLwHeap)
    (dLwOrder : Def K mg "_law_order" sLwOrder pLwOrder)
    (dLwLooseNet : Def K mg "_law_loose_net" sLwLooseNet pLwLooseNet)
    (dLwByHandRight : Def K mg "_law_by_hand_right" sLwByHandRight pLwByHandRight)
    (dLwWins : Def K mg "_law_wins" sLwWins pLwWins)
    (dLwRight : Def K mg "_law_right" sLwRight pLwRight) :
    ∃ fd : FuncData, (∀ (s : Shared) (u : Value), BindsTo s fd ⟨[u], []⟩ [("_law_script", u)]) ∧ ∀ base : Heap, K.In base → base.Ns mainGlobals mg → FnOk l.prog w K mg base CX0 11 fa fd ["_law_script"] (spLaw K) := by
  have e := hfa.symm.trans (PySem.W.mg_of X G a)
  cases e
  have F := fun_mk (st := sLaw) lk c k
  exact ⟨PySem.W.fnOf "law" "law" (defArgs sLaw) (defBody sLaw) (defScope sLaw) .none kV doc pm an cdv ct, fun s v => .of_eq rfl, fun base _ _ => ok_all T dIsNumber dIsFrom dIsWithin dIsLong dTupled dAscends dAreNumbers dIsPairOf dDirectsBy dUpsBy dFollowsBy dTiesBy dTiesOf dFollowNone dIsOrder dSureOrder dArePiecesIn dIsLeftIn dSureLeft dBitsFor dPiecesFor dTopsByBits dLeftsByBits dLeastWithout dWorthsByBits dWorthIn dLeftWorthIn dLeftSure dWorth dWorthLeft dIsWon dLostLefts dByWorth dLwBox dLwTake dLwCells dLwPick dLwLists dLwSame dLwNet dLwUps dLwBits dLwPieces dLwLefts dLwLeastOut dLwWorths dLwAside dLwHeap dLwOrder dLwLooseNet dLwByHandRight dLwWins dLwRight F⟩
end
end K13

open PySem PySem.W PyProof.Rows
set_option Elab.async false
set_option maxRecDepth 100000 in
set_option maxHeartbeats 0 in
theorem PySem.Challenge.cw_eatenorders_k13_whole_worths_beside_all_holds : PySem.Challenge.rw_eatenorders_k13_whole_worths_beside_all.Holds := by
  w_on; o_law; k_head; (case hw => w_witness2)
  k_fill
  refine K13.walkAll (l := PySem.Challenge.rw_eatenorders_k13_whole_worths_beside_all) rfl rfl (fun w h Y => PySem.W.kIn_of Y) ?F
  case F =>
    intro w mg fa h KX G hmg
    refine' K13.last KX G hmg ?al ?ll ?cl ?kl ?T ?dIsNumber ?dIsFrom ?dIsWithin ?dIsLong ?dTupled ?dAscends ?dAreNumbers ?dIsPairOf ?dDirectsBy ?dUpsBy ?dFollowsBy ?dTiesBy ?dTiesOf ?dFollowNone ?dIsOrder ?dSureOrder ?dArePiecesIn ?dIsLeftIn ?dSureLeft ?dBitsFor ?dPiecesFor ?dTopsByBits ?dLeftsByBits ?dLeastWithout ?dWorthsByBits ?dWorthIn ?dLeftWorthIn ?dLeftSure ?dWorth ?dWorthLeft ?dIsWon ?dLostLefts ?dByWorth ?dLwBox ?dLwTake ?dLwCells ?dLwPick ?dLwLists ?dLwSame ?dLwNet ?dLwUps ?dLwBits ?dLwPieces ?dLwLefts ?dLwLeastOut ?dLwWorths ?dLwAside ?dLwHeap ?dLwOrder ?dLwLooseNet ?dLwByHandRight ?dLwWins ?dLwRight
    (case al => k_is); (case ll => k_is); (case cl => k_is); (case kl => k_is)
    case T =>
      refine' K13.txt_mk KX G ?z0 ?z1 ?z2 ?z3 ?z4 ?z5 ?z6 ?z7 ?z8 ?z9 ?z10 ?z11 ?z12 ?z13 ?z14 ?z15 ?z16 ?z17 ?few
      (case z0 => k_is); (case z1 => k_is); (case z2 => k_is); (case z3 => k_is); (case z4 => k_is); (case z5 => k_is); (case z6 => k_is); (case z7 => k_is); (case z8 => k_is); (case z9 => k_is); (case z10 => k_is); (case z11 => k_is); (case z12 => k_is); (case z13 => k_is); (case z14 => k_is); (case z15 => k_is); (case z16 => k_is); (case z17 => k_is)
      (case few => exact ⟨_, by k_is⟩)
    case dIsNumber =>
      refine' K13.def_mk KX G ?a ?l ?c ?k (fun _ _ _ _ _ _ us hl => match us, hl with | [_], _ => rfl)
      (case a => k_is); (case l => k_is); (case c => k_is); (case k => k_is)
    case dIsFrom =>
      refine' K13.def_mk KX G ?a ?l ?c ?k (fun _ _ _ _ _ _ us hl => match us, hl with | [_, _], _ => rfl)
      (case a => k_is); (case l => k_is); (case c => k_is); (case k => k_is)
    case dIsWithin =>
      refine' K13.def_mk KX G ?a ?l ?c ?k (fun _ _ _ _ _ _ us hl => match us, hl with | [_, _, _], _ => rfl)
      (case a => k_is); (case l => k_is); (case c => k_is); (case k => k_is)
    case dIsLong =>
      refine' K13.def_mk KX G ?a ?l ?c ?k (fun _ _ _ _ _ _ us hl => match us, hl with | [_, _], _ => rfl)
      (case a => k_is); (case l => k_is); (case c => k_is); (case k => k_is)
    case dTupled =>
      refine' K13.def_mk KX G ?a ?l ?c ?k (fun _ _ _ _ _ _ us hl => match us, hl with | [_], _ => rfl)
      (case a => k_is); (case l => k_is); (case c => k_is); (case k => k_is)
    case dAscends =>
      refine' K13.def_mk KX G ?a ?l ?c ?k (fun _ _ _ _ _ _ us hl => match us, hl with | [_], _ => rfl)
      (case a => k_is); (case l => k_is); (case c => k_is); (case k => k_is)
    case dAreNumbers =>
      refine' K13.def_mk KX G ?a ?l ?c ?k (fun _ _ _ _ _ _ us hl => match us, hl with | [_], _ => rfl)
      (case a => k_is); (case l => k_is); (case c => k_is); (case k => k_is)
    case dIsPairOf =>
      refine' K13.def_mk KX G ?a ?l ?c ?k (fun _ _ _ _ _ _ us hl => match us, hl with | [_, _], _ => rfl)
      (case a => k_is); (case l => k_is); (case c => k_is); (case k => k_is)
    case dDirectsBy =>
      refine' K13.def_mk KX G ?a ?l ?c ?k (fun _ _ _ _ _ _ us hl => match us, hl with | [_, _], _ => rfl)
      (case a => k_is); (case l => k_is); (case c => k_is); (case k => k_is)
    case dUpsBy =>
      refine' K13.def_mk KX G ?a ?l ?c ?k (fun _ _ _ _ _ _ us hl => match us, hl with | [_], _ => rfl)
      (case a => k_is); (case l => k_is); (case c => k_is); (case k => k_is)
    case dFollowsBy =>
      refine' K13.def_mk KX G ?a ?l ?c ?k (fun _ _ _ _ _ _ us hl => match us, hl with | [_, _, _, _], _ => rfl)
      (case a => k_is); (case l => k_is); (case c => k_is); (case k => k_is)
    case dTiesBy =>
      refine' K13.def_mk KX G ?a ?l ?c ?k (fun _ _ _ _ _ _ us hl => match us, hl with | [_], _ => rfl)
      (case a => k_is); (case l => k_is); (case c => k_is); (case k => k_is)
    case dTiesOf =>
      refine' K13.def_mk KX G ?a ?l ?c ?k (fun _ _ _ _ _ _ us hl => match us, hl with | [_], _ => rfl)
      (case a => k_is); (case l => k_is); (case c => k_is); (case k => k_is)
    case dFollowNone =>
      refine' K13.def_mk KX G ?a ?l ?c ?k (fun _ _ _ _ _ _ us hl => match us, hl with | [_], _ => rfl)
      (case a => k_is); (case l => k_is); (case c => k_is); (case k => k_is)
    case dIsOrder =>
      refine' K13.def_mk KX G ?a ?l ?c ?k (fun _ _ _ _ _ _ us hl => match us, hl with | [_], _ => rfl)
      (case a => k_is); (case l => k_is); (case c => k_is); (case k => k_is)
    case dSureOrder =>
      refine' K13.def_mk KX G ?a ?l ?c ?k (fun _ _ _ _ _ _ us hl => match us, hl with | [_], _ => rfl)
      (case a => k_is); (case l => k_is); (case c => k_is); (case k => k_is)
    case dArePiecesIn =>
      refine' K13.def_mk KX G ?a ?l ?c ?k (fun _ _ _ _ _ _ us hl => match us, hl with | [_, _], _ => rfl)
      (case a => k_is); (case l => k_is); (case c => k_is); (case k => k_is)
    case dIsLeftIn =>
      refine' K13.def_mk KX G ?a ?l ?c ?k (fun _ _ _ _ _ _ us hl => match us, hl with | [_, _], _ => rfl)
      (case a => k_is); (case l => k_is); (case c => k_is); (case k => k_is)
    case dSureLeft =>
      refine' K13.def_mk KX G ?a ?l ?c ?k (fun _ _ _ _ _ _ us hl => match us, hl with | [_, _], _ => rfl)
      (case a => k_is); (case l => k_is); (case c => k_is); (case k => k_is)
    case dBitsFor =>
      refine' K13.def_mk KX G ?a ?l ?c ?k (fun _ _ _ _ _ _ us hl => match us, hl with | [_], _ => rfl)
      (case a => k_is); (case l => k_is); (case c => k_is); (case k => k_is)
    case dPiecesFor =>
      refine' K13.def_mk KX G ?a ?l ?c ?k (fun _ _ _ _ _ _ us hl => match us, hl with | [_], _ => rfl)
      (case a => k_is); (case l => k_is); (case c => k_is); (case k => k_is)
    case dTopsByBits =>
      refine' K13.def_mk KX G ?a ?l ?c ?k (fun _ _ _ _ _ _ us hl => match us, hl with | [_], _ => rfl)
      (case a => k_is); (case l => k_is); (case c => k_is); (case k => k_is)
    case dLeftsByBits =>
      refine' K13.def_mk KX G ?a ?l ?c ?k (fun _ _ _ _ _ _ us hl => match us, hl with | [_], _ => rfl)
      (case a => k_is); (case l => k_is); (case c => k_is); (case k => k_is)
    case dLeastWithout =>
      refine' K13.def_mk KX G ?a ?l ?c ?k (fun _ _ _ _ _ _ us hl => match us, hl with | [_], _ => rfl)
      (case a => k_is); (case l => k_is); (case c => k_is); (case k => k_is)
    case dWorthsByBits =>
      refine' K13.def_mk KX G ?a ?l ?c ?k (fun _ _ _ _ _ _ us hl => match us, hl with | [_], _ => rfl)
      (case a => k_is); (case l => k_is); (case c => k_is); (case k => k_is)
    case dWorthIn =>
      refine' K13.def_mk KX G ?a ?l ?c ?k (fun _ _ _ _ _ _ us hl => match us, hl with | [_], _ => rfl)
      (case a => k_is); (case l => k_is); (case c => k_is); (case k => k_is)
    case dLeftWorthIn =>
      refine' K13.def_mk KX G ?a ?l ?c ?k (fun _ _ _ _ _ _ us hl => match us, hl with | [_, _], _ => rfl)
      (case a => k_is); (case l => k_is); (case c => k_is); (case k => k_is)
    case dLeftSure =>
      refine' K13.def_mk KX G ?a ?l ?c ?k (fun _ _ _ _ _ _ us hl => match us, hl with | [_, _], _ => rfl)
      (case a => k_is); (case l => k_is); (case c => k_is); (case k => k_is)
    case dWorth =>
      refine' K13.def_mk KX G ?a ?l ?c ?k (fun _ _ _ _ _ _ us hl => match us, hl with | [_], _ => rfl)
      (case a => k_is); (case l => k_is); (case c => k_is); (case k => k_is)
    case dWorthLeft =>
      refine' K13.def_mk KX G ?a ?l ?c ?k (fun _ _ _ _ _ _ us hl => match us, hl with | [_, _], _ => rfl)
      (case a => k_is); (case l => k_is); (case c => k_is); (case k => k_is)
    case dIsWon =>
      refine' K13.def_mk KX G ?a ?l ?c ?k (fun _ _ _ _ _ _ us hl => match us, hl with | [_, _], _ => rfl)
      (case a => k_is); (case l => k_is); (case c => k_is); (case k => k_is)
    case dLostLefts =>
      refine' K13.def_mk KX G ?a ?l ?c ?k (fun _ _ _ _ _ _ us hl => match us, hl with | [_], _ => rfl)
      (case a => k_is); (case l => k_is); (case c => k_is); (case k => k_is)
    case dByWorth =>
      refine' K13.def_mk KX G ?a ?l ?c ?k (fun _ _ _ _ _ _ us hl => match us, hl with | [_], _ => rfl)
      (case a => k_is); (case l => k_is); (case c => k_is); (case k => k_is)
    case dLwBox =>
      refine' K13.def_mk KX G ?a ?l ?c ?k (fun _ _ _ _ _ _ us hl => match us, hl with | [_, _], _ => rfl)
      (case a => k_is); (case l => k_is); (case c => k_is); (case k => k_is)
    case dLwTake =>
      refine' K13.def_mk KX G ?a ?l ?c ?k (fun _ _ _ _ _ _ us hl => match us, hl with | [_, _], _ => rfl)
      (case a => k_is); (case l => k_is); (case c => k_is); (case k => k_is)
    case dLwCells =>
      refine' K13.def_mk KX G ?a ?l ?c ?k (fun _ _ _ _ _ _ us hl => match us, hl with | [_, _], _ => rfl)
      (case a => k_is); (case l => k_is); (case c => k_is); (case k => k_is)
    case dLwPick =>
      refine' K13.def_mk KX G ?a ?l ?c ?k (fun _ _ _ _ _ _ us hl => match us, hl with | [_, _, _], _ => rfl)
      (case a => k_is); (case l => k_is); (case c => k_is); (case k => k_is)
    case dLwLists =>
      refine' K13.def_mk KX G ?a ?l ?c ?k (fun _ _ _ _ _ _ us hl => match us, hl with | [_], _ => rfl)
      (case a => k_is); (case l => k_is); (case c => k_is); (case k => k_is)
    case dLwSame =>
      refine' K13.def_mk KX G ?a ?l ?c ?k (fun _ _ _ _ _ _ us hl => match us, hl with | [_, _], _ => rfl)
      (case a => k_is); (case l => k_is); (case c => k_is); (case k => k_is)
    case dLwNet =>
      refine' K13.def_mk KX G ?a ?l ?c ?k (fun _ _ _ _ _ _ us hl => match us, hl with | [_, _], _ => rfl)
      (case a => k_is); (case l => k_is); (case c => k_is); (case k => k_is)
    case dLwUps =>
      refine' K13.def_mk KX G ?a ?l ?c ?k (fun _ _ _ _ _ _ us hl => match us, hl with | [_], _ => rfl)
      (case a => k_is); (case l => k_is); (case c => k_is); (case k => k_is)
    case dLwBits =>
      refine' K13.def_mk KX G ?a ?l ?c ?k (fun _ _ _ _ _ _ us hl => match us, hl with | [_], _ => rfl)
      (case a => k_is); (case l => k_is); (case c => k_is); (case k => k_is)
    case dLwPieces =>
      refine' K13.def_mk KX G ?a ?l ?c ?k (fun _ _ _ _ _ _ us hl => match us, hl with | [_], _ => rfl)
      (case a => k_is); (case l => k_is); (case c => k_is); (case k => k_is)
    case dLwLefts =>
      refine' K13.def_mk KX G ?a ?l ?c ?k (fun _ _ _ _ _ _ us hl => match us, hl with | [_], _ => rfl)
      (case a => k_is); (case l => k_is); (case c => k_is); (case k => k_is)
    case dLwLeastOut =>
      refine' K13.def_mk KX G ?a ?l ?c ?k (fun _ _ _ _ _ _ us hl => match us, hl with | [_], _ => rfl)
      (case a => k_is); (case l => k_is); (case c => k_is); (case k => k_is)
    case dLwWorths =>
      refine' K13.def_mk KX G ?a ?l ?c ?k (fun _ _ _ _ _ _ us hl => match us, hl with | [_], _ => rfl)
      (case a => k_is); (case l => k_is); (case c => k_is); (case k => k_is)
    case dLwAside =>
      refine' K13.def_mk KX G ?a ?l ?c ?k (fun _ _ _ _ _ _ us hl => match us, hl with | [_, _], _ => rfl)
      (case a => k_is); (case l => k_is); (case c => k_is); (case k => k_is)
    case dLwHeap =>
      refine' K13.def_mk KX G ?a ?l ?c ?k (fun _ _ _ _ _ _ us hl => match us, hl with | [_, _], _ => rfl)
      (case a => k_is); (case l => k_is); (case c => k_is); (case k => k_is)
    case dLwOrder =>
      refine' K13.def_mk KX G ?a ?l ?c ?k (fun _ _ _ _ _ _ us hl => match us, hl with | [_, _], _ => rfl)
      (case a => k_is); (case l => k_is); (case c => k_is); (case k => k_is)
    case dLwLooseNet =>
      refine' K13.def_mk KX G ?a ?l ?c ?k (fun _ _ _ _ _ _ us hl => match us, hl with | [_, _], _ => rfl)
      (case a => k_is); (case l => k_is); (case c => k_is); (case k => k_is)
    case dLwByHandRight =>
      refine' K13.def_mk KX G ?a ?l ?c ?k (fun _ _ _ _ _ _ us hl => match us, hl with | [], _ => rfl)
      (case a => k_is); (case l => k_is); (case c => k_is); (case k => k_is)
    case dLwWins =>
      refine' K13.def_mk KX G ?a ?l ?c ?k (fun _ _ _ _ _ _ us hl => match us, hl with | [_, _], _ => rfl)
      (case a => k_is); (case l => k_is); (case c => k_is); (case k => k_is)
    case dLwRight =>
      refine' K13.def_mk KX G ?a ?l ?c ?k (fun _ _ _ _ _ _ us hl => match us, hl with | [_], _ => rfl)
      (case a => k_is); (case l => k_is); (case c => k_is); (case k => k_is)
