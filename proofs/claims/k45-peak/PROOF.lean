import PyProof.Rows.All
import Wide.All
import OpenK.AllK
import Wide.FinOn
import HandS.ForMost
import HandS.DictComp
import HandS.SortInts
import HandS.More
import HandS.Conv
import HandS.IsInst
import HandS.TupMul
import HandS.Style
import KE.SortData
import KE.DataMinMax
import HandS.Words
import HandS.WordsExc
import HandS.Defaults
import HandS.TupLen
import PySem.Challenge.RW_wholestakes_k45_whole_greatest_coins_tha
import KE.KTupSum
import HandS.Iter
import KE.GoesMore
import KE.GoesEnum
import KE.KExcSuper
import HandS.Exc
import HandS.ExcOwn
import HandS.ExcField
import KE.KStateDown
import HandS.Head0
import HandS.Head1
import HandS.Head2
import HandS.HeadEnd
import HandS.HeadHook1
import HandS.HeadHook2
set_option Elab.async false
set_option linter.all false
set_option maxRecDepth 100000
section
/-! Plain law, part 1: what coins a bettor needs for goals (one place). -/
namespace WS
abbrev Prs := List (Int × Int)
/-- rounded up -/
def cdiv (a b : Int) : Int := -(-a / b)
theorem cdiv_le {a b c : Int} (h : 0 < b) : cdiv a b ≤ c ↔ a ≤ c * b := by
  unfold cdiv
  have e := Int.le_ediv_iff_mul_le (a := -c) (b := -a) h
  rw [Int.neg_mul] at e
  constructor
  · intro q
    have := e.mp (by omega)
    omega
  · intro q
    have := e.mpr (by omega)
    omega
theorem le_cdiv {a b : Int} (h : 0 < b) : a ≤ cdiv a b * b := (cdiv_le h).mp (Int.le_refl _)
theorem cdiv_mono {a a' b : Int} (h : 0 < b) (q : a ≤ a') : cdiv a b ≤ cdiv a' b := (cdiv_le h).mpr (Int.le_trans q (le_cdiv h))
theorem cdiv_nonneg {a b : Int} (h : 0 < b) (q : 0 ≤ a) : 0 ≤ cdiv a b := by
  have e := le_cdiv (a := a) h
  rcases Int.lt_or_le (cdiv a b) 0 with c | c
  · have : cdiv a b * b < 0 := Int.mul_neg_of_neg_of_pos c h
    omega
  · exact c
theorem cdiv_lt {a b : Int} (h : 0 < b) : cdiv a b * b < a + b := by
  rcases Int.lt_or_le (cdiv a b * b) (a + b) with c | c
  · exact c
  · have : cdiv a b ≤ cdiv a b - 1 := (cdiv_le h).mpr (by rw [Int.sub_mul]; omega)
    omega
theorem cdiv_add {a b c : Int} (h : 0 < b) : cdiv (a + c * b) b = cdiv a b + c := by
  have e : ∀ d, cdiv (a + c * b) b ≤ d ↔ cdiv a b + c ≤ d := fun d => by
    rw [cdiv_le h]
    have q := cdiv_le (a := a) (b := b) (c := d - c) h
    rw [Int.sub_mul] at q
    constructor
    · intro z
      have := q.mpr (by omega)
      omega
    · intro z
      have := q.mp (by omega)
      omega
  have e1 := (e (cdiv a b + c)).mpr (Int.le_refl _)
  have e2 := (e (cdiv (a + c * b) b)).mp (Int.le_refl _)
  omega
theorem cdiv_zero (b : Int) : cdiv 0 b = 0 := by
  unfold cdiv
  simp
/-- what is laid on one letter when k are kept -/
def lay (k : Int) (q : Int × Int) : Int := if q.1 ≤ k then 0 else cdiv (q.1 - k) q.2
def lays (k : Int) (ps : Prs) : Int := (ps.map (lay k)).sum
def tot (ps : Prs) (k : Int) : Int := k + lays k ps
/-- a number that can be kept -/
def Okk (ps : Prs) (k : Int) : Prop := 0 ≤ k ∧ ∀ q ∈ ps, q.2 = 0 → q.1 ≤ k
/-- pays are none below 0 -/
def Pays (ps : Prs) : Prop := ∀ q ∈ ps, 0 ≤ q.2 ∧ q.2 ≤ 9
def Met (ps : Prs) (c : Int) : Prop := ∃ k, Okk ps k ∧ tot ps k ≤ c
def IsNeed (ps : Prs) (n : Int) : Prop := (∃ k, Okk ps k ∧ tot ps k = n) ∧ ∀ k, Okk ps k → n ≤ tot ps k
theorem IsNeed.uniq {ps : Prs} {n m : Int} (a : IsNeed ps n) (b : IsNeed ps m) : n = m := by
  obtain ⟨⟨k, hk, e⟩, l⟩ := a
  obtain ⟨⟨k', hk', e'⟩, l'⟩ := b
  have := l k' hk'
  have := l' k hk
  omega
theorem IsNeed.met {ps : Prs} {n c : Int} (a : IsNeed ps n) : Met ps c ↔ n ≤ c := by
  obtain ⟨⟨k, hk, e⟩, l⟩ := a
  constructor
  · rintro ⟨k', hk', h⟩
    have := l k' hk'
    omega
  · intro h
    exact ⟨k, hk, by omega⟩
theorem lays_cons (k : Int) (q : Int × Int) (ps : Prs) : lays k (q :: ps) = lay k q + lays k ps := by
  unfold lays
  rw [List.map_cons, List.sum_cons]
theorem lays_nil (k : Int) : lays k [] = 0 := rfl
theorem lay_nonneg {k : Int} {q : Int × Int} (h : 0 ≤ q.2) (hk : q.2 = 0 → q.1 ≤ k) : 0 ≤ lay k q := by
  unfold lay
  split
  · omega
  · rename_i c
    exact cdiv_nonneg (by rcases Int.lt_or_le 0 q.2 with z | z; exact z; exact absurd (hk (by omega)) c) (by omega)
theorem lays_nonneg {k : Int} : ∀ {ps : Prs}, Pays ps → (∀ q ∈ ps, q.2 = 0 → q.1 ≤ k) → 0 ≤ lays k ps
  | [], _, _ => by rw [lays_nil]; exact Int.le_refl _
  | q :: ps, hp, hk => by
    rw [lays_cons]
    have a := lay_nonneg (hp q List.mem_cons_self).1 (hk q List.mem_cons_self)
    have b := lays_nonneg (k := k) (ps := ps) (fun q h => hp q (List.mem_cons_of_mem _ h)) (fun q h => hk q (List.mem_cons_of_mem _ h))
    omega
theorem tot_ge {ps : Prs} {k : Int} (hp : Pays ps) (hk : Okk ps k) : k ≤ tot ps k := by
  have := lays_nonneg hp hk.2
  unfold tot
  omega
theorem tot_all {ps : Prs} {k : Int} (h : ∀ q ∈ ps, q.1 ≤ k) : tot ps k = k := by
  have e : ∀ ps : Prs, (∀ q ∈ ps, q.1 ≤ k) → lays k ps = 0 := by
    intro ps
    induction ps with
    | nil => intro _; rfl
    | cons q r ih =>
      intro h
      rw [lays_cons, ih fun q hq => h q (List.mem_cons_of_mem _ hq)]
      unfold lay
      rw [if_pos (h q List.mem_cons_self)]
      rfl
  unfold tot
  rw [e ps h]
  omega
theorem goals_top (ps : Prs) : ∃ k : Int, 0 ≤ k ∧ ∀ q ∈ ps, q.1 ≤ k := by
  induction ps with
  | nil => exact ⟨0, Int.le_refl _, fun q h => by cases h⟩
  | cons q r ih =>
    obtain ⟨k, hk, h⟩ := ih
    refine ⟨max k q.1, by omega, fun z hz => ?_⟩
    rcases List.mem_cons.mp hz with e | hz
    · subst e; omega
    · have := h z hz; omega
theorem least_of {P : Int → Prop} (n0 : Int) (h0 : P n0) (lo : ∀ n, P n → 0 ≤ n) : ∃ n, P n ∧ ∀ m, P m → n ≤ m := by
  have key : ∀ (m : Nat) (n : Int), P n → n.toNat ≤ m → ∃ n, P n ∧ ∀ m, P m → n ≤ m := by
    intro m
    induction m with
    | zero =>
      intro n hn hm
      refine ⟨n, hn, fun m hm' => ?_⟩
      have := lo n hn
      have := lo m hm'
      omega
    | succ m ih =>
      intro n hn hm
      by_cases c : ∃ z, P z ∧ z < n
      · obtain ⟨z, hz, l⟩ := c
        have := lo z hz
        exact ih z hz (by omega)
      · refine ⟨n, hn, fun z hz => ?_⟩
        rcases Int.lt_or_le z n with q | q
        · exact absurd ⟨z, hz, q⟩ c
        · exact q
  exact key n0.toNat n0 h0 (Nat.le_refl _)
theorem need_ex {ps : Prs} (hp : Pays ps) : ∃ n, IsNeed ps n := by
  obtain ⟨k, hk, h⟩ := goals_top ps
  have ok : Okk ps k := ⟨hk, fun q hq _ => h q hq⟩
  obtain ⟨n, ⟨k', ok', e⟩, l⟩ := least_of (P := fun n => ∃ k, Okk ps k ∧ tot ps k = n) (tot ps k) ⟨k, ok, rfl⟩ fun n ⟨k, o, e⟩ => by
    have := tot_ge hp o
    have := o.1
    omega
  exact ⟨n, ⟨k', ok', e⟩, fun k'' o => l _ ⟨k'', o, rfl⟩⟩
open Classical in
/-- the least coins -/
noncomputable def nd (ps : Prs) : Int := if h : ∃ n, IsNeed ps n then Classical.choose h else 0
theorem nd_is {ps : Prs} (hp : Pays ps) : IsNeed ps (nd ps) := by
  unfold nd
  rw [dif_pos (need_ex hp)]
  exact Classical.choose_spec (need_ex hp)
theorem nd_le {ps : Prs} (hp : Pays ps) {c : Int} : nd ps ≤ c ↔ Met ps c := (nd_is hp).met.symm
theorem nd_eq {ps : Prs} {n : Int} (h : IsNeed ps n) : nd ps = n := by
  unfold nd
  rw [dif_pos ⟨n, h⟩]
  exact (Classical.choose_spec (⟨n, h⟩ : ∃ n, IsNeed ps n)).uniq h
theorem nd_nonneg {ps : Prs} (hp : Pays ps) : 0 ≤ nd ps := by
  obtain ⟨⟨k, o, e⟩, _⟩ := nd_is hp
  have := tot_ge hp o
  have := o.1
  omega
/-! ### goals less, goals more -/
/-- the same pays, no greater goals -/
inductive Sub : Prs → Prs → Prop
  | nil : Sub [] []
  | cons {g g' p : Int} {r r' : Prs} : g ≤ g' → Sub r r' → Sub ((g, p) :: r) ((g', p) :: r')
theorem lay_mono {k g g' p : Int} (hp : 0 ≤ p) (hk : p = 0 → g' ≤ k) (h : g ≤ g') : lay k (g, p) ≤ lay k (g', p) := by
  unfold lay
  show (if g ≤ k then 0 else cdiv (g - k) p) ≤ (if g' ≤ k then 0 else cdiv (g' - k) p)
  by_cases c : g' ≤ k
  · rw [if_pos c, if_pos (by omega)]
    exact Int.le_refl _
  · rw [if_neg c]
    have hp' : 0 < p := by
      rcases Int.lt_or_le 0 p with z | z
      · exact z
      · exact absurd (hk (by omega)) c
    split
    · exact cdiv_nonneg hp' (by omega)
    · exact cdiv_mono hp' (by omega)
theorem Sub.okk {ps ps' : Prs} {k : Int} (s : Sub ps ps') : Okk ps' k → Okk ps k := by
  intro ⟨h0, h⟩
  refine ⟨h0, ?_⟩
  induction s with
  | nil => intro q hq; cases hq
  | cons l s ih =>
    intro q hq z
    rcases List.mem_cons.mp hq with e | hq
    · subst e
      have := h _ List.mem_cons_self z
      simp only at this ⊢
      omega
    · exact ih (fun q hq z => h q (List.mem_cons_of_mem _ hq) z) q hq z
theorem Sub.lays {ps ps' : Prs} {k : Int} (s : Sub ps ps') (hp : Pays ps') (hk : ∀ q ∈ ps', q.2 = 0 → q.1 ≤ k) : lays k ps ≤ lays k ps' := by
  induction s with
  | nil => exact Int.le_refl _
  | @cons g g' p r r' l s ih =>
    rw [lays_cons, lays_cons]
    have a : lay k (g, p) ≤ lay k (g', p) := lay_mono (hp (g', p) List.mem_cons_self).1 (hk (g', p) List.mem_cons_self) l
    have b := ih (fun q h => hp q (List.mem_cons_of_mem _ h)) (fun q h => hk q (List.mem_cons_of_mem _ h))
    omega
theorem Sub.met {ps ps' : Prs} {c : Int} (s : Sub ps ps') (hp : Pays ps') : Met ps' c → Met ps c := by
  rintro ⟨k, o, h⟩
  refine ⟨k, s.okk o, ?_⟩
  have := s.lays hp o.2
  unfold tot at h ⊢
  omega
/-- all goals e more -/
def up (e : Int) (ps : Prs) : Prs := ps.map fun q => (q.1 + e, q.2)
theorem lays_up (k e : Int) : ∀ ps : Prs, lays (k + e) (up e ps) = lays k ps
  | [] => rfl
  | q :: ps => by
    show lays (k + e) ((q.1 + e, q.2) :: up e ps) = _
    rw [lays_cons, lays_cons, lays_up k e ps]
    have : lay (k + e) (q.1 + e, q.2) = lay k q := by
      unfold lay
      show (if q.1 + e ≤ k + e then 0 else cdiv (q.1 + e - (k + e)) q.2) = _
      by_cases c : q.1 ≤ k
      · rw [if_pos c, if_pos (by omega)]
      · rw [if_neg c, if_neg (by omega), show q.1 + e - (k + e) = q.1 - k by omega]
    rw [this]
theorem met_up {ps : Prs} {c e : Int} (he : 0 ≤ e) : Met ps c → Met (up e ps) (c + e) := by
  rintro ⟨k, o, h⟩
  refine ⟨k + e, ⟨by have := o.1; omega, fun q hq z => ?_⟩, ?_⟩
  · obtain ⟨q', hq', rfl⟩ := List.mem_map.mp hq
    have := o.2 q' hq' z
    show q'.1 + e ≤ k + e
    omega
  · unfold tot at h ⊢
    rw [lays_up]
    omega
theorem met_top {ps : Prs} {c : Int} (h0 : 0 ≤ c) (h : ∀ q ∈ ps, q.1 ≤ c) : Met ps c := ⟨c, ⟨h0, fun q hq _ => h q hq⟩, by rw [tot_all h]; exact Int.le_refl _⟩
theorem Met.mono {ps : Prs} {c d : Int} (h : c ≤ d) : Met ps c → Met ps d := fun ⟨k, o, q⟩ => ⟨k, o, by omega⟩
end WS
end
section
/-! Plain law, part 2: where the fewest coins are found; the bound by parts of coins. -/
namespace WS
/-- the reciprocals of the letters with goals above k, in 2520 parts -/
def wt (k : Int) (q : Int × Int) : Int := if q.1 ≤ k then 0 else 2520 / q.2
def wts (k : Int) (ps : Prs) : Int := (ps.map (wt k)).sum
theorem wts_cons (k : Int) (q : Int × Int) (ps : Prs) : wts k (q :: ps) = wt k q + wts k ps := by
  unfold wts
  rw [List.map_cons, List.sum_cons]
theorem pay_cases {p : Int} (h : 0 < p) (h' : p ≤ 9) : p = 1 ∨ p = 2 ∨ p = 3 ∨ p = 4 ∨ p = 5 ∨ p = 6 ∨ p = 7 ∨ p = 8 ∨ p = 9 := by omega
theorem w_pos {p : Int} (h : 0 < p) (h' : p ≤ 9) : 280 ≤ 2520 / p ∧ 2520 / p ≤ 2520 ∧ 2520 / p * p = 2520 := by
  rcases pay_cases h h' with rfl | rfl | rfl | rfl | rfl | rfl | rfl | rfl | rfl <;> decide
/-- above the least that can be kept, a letter with a greater goal pays -/
theorem pos_of {k : Int} {q : Int × Int} (hp : 0 ≤ q.2 ∧ q.2 ≤ 9) (hk : q.2 = 0 → q.1 ≤ k) (c : ¬ q.1 ≤ k) : 0 < q.2 := by
  rcases Int.lt_or_le 0 q.2 with z | z
  · exact z
  · exact absurd (hk (by omega)) c
theorem wt_nonneg {k : Int} {q : Int × Int} (hp : 0 ≤ q.2 ∧ q.2 ≤ 9) (hk : q.2 = 0 → q.1 ≤ k) : 0 ≤ wt k q := by
  unfold wt
  split
  · omega
  · rename_i c
    have := (w_pos (pos_of hp hk c) hp.2).1
    omega
theorem wts_anti {k k' : Int} (l : k ≤ k') : ∀ {ps : Prs}, Pays ps → (∀ q ∈ ps, q.2 = 0 → q.1 ≤ k) → wts k' ps ≤ wts k ps
  | [], _, _ => Int.le_refl _
  | q :: ps, hp, hk => by
    rw [wts_cons, wts_cons]
    have b := wts_anti l (ps := ps) (fun q h => hp q (List.mem_cons_of_mem _ h)) (fun q h => hk q (List.mem_cons_of_mem _ h))
    have n := wt_nonneg (hp q List.mem_cons_self) (hk q List.mem_cons_self)
    have a : wt k' q ≤ wt k q := by
      by_cases c : q.1 ≤ k'
      · have : wt k' q = 0 := if_pos c
        omega
      · have e1 : wt k' q = 2520 / q.2 := if_neg c
        have e2 : wt k q = 2520 / q.2 := if_neg (by omega)
        omega
    omega
/-- no goals between: the same -/
theorem wts_same {k k' : Int} (l : k ≤ k') : ∀ {ps : Prs}, (∀ q ∈ ps, q.1 ≤ k ∨ k' < q.1) → wts k' ps = wts k ps
  | [], _ => rfl
  | q :: ps, h => by
    rw [wts_cons, wts_cons, wts_same l fun q hq => h q (List.mem_cons_of_mem _ hq)]
    have : wt k' q = wt k q := by
      unfold wt
      rcases h q List.mem_cons_self with c | c
      · rw [if_pos c, if_pos (by omega)]
      · rw [if_neg (by omega), if_neg (by omega)]
    rw [this]
/-! ### the turning point -/
/-- t is the first number from m on at which the letters with greater goals come to at most one together -/
structure Turns (ps : Prs) (m t : Int) : Prop where
  ge : m ≤ t
  at_ : wts t ps ≤ 2520
  ahead : ∀ k, m ≤ k → k < t → 2520 < wts k ps
/-- the first of an ascending list, from c on, if the list holds all goals above m that are not below c -/
theorem turn_find {ps : Prs} {m : Int} (hp : Pays ps) (hm : ∀ q ∈ ps, q.2 = 0 → q.1 ≤ m) : ∀ (l : List Int) (c : Int), m ≤ c → (c :: l).Pairwise (· ≤ ·) → (∀ q ∈ ps, q.1 ≤ c ∨ q.1 ∈ l) → (∀ k, m ≤ k → k < c → 2520 < wts k ps) →
    ∃ t, (c :: l).find? (fun k => decide (wts k ps ≤ 2520)) = some t ∧ Turns ps m t
  | l, c, hc, hs, hg, ha => by
    by_cases q : wts c ps ≤ 2520
    · refine ⟨c, ?_, hc, q, ha⟩
      rw [List.find?_cons_of_pos (by simpa using q)]
    · rw [List.find?_cons_of_neg (by simpa using q)]
      cases l with
      | nil =>
        exfalso
        have e : wts c ps = 0 := by
          have e1 : ∀ ps : Prs, (∀ q ∈ ps, q.1 ≤ c) → wts c ps = 0 := by
            intro ps
            induction ps with
            | nil => intro _; rfl
            | cons z r ih =>
              intro h
              rw [wts_cons, ih fun q hq => h q (List.mem_cons_of_mem _ hq)]
              have : wt c z = 0 := if_pos (h z List.mem_cons_self)
              omega
          refine e1 ps fun q hq => ?_
          rcases hg q hq with z | z
          · exact z
          · cases z
        omega
      | cons d l =>
        have hcd : c ≤ d := (List.pairwise_cons.mp hs).1 d List.mem_cons_self
        refine turn_find hp hm l d (by omega) (List.pairwise_cons.mp hs).2 (fun q hq => ?_) fun k hk hd => ?_
        · rcases hg q hq with z | z
          · exact .inl (by omega)
          · rcases List.mem_cons.mp z with e | z
            · exact .inl (by omega)
            · exact .inr z
        · by_cases kc : k < c
          · exact ha k hk kc
          · have e : wts k ps = wts c ps := wts_same (by omega) fun q hq => by
              rcases hg q hq with z | z
              · exact .inl z
              · right
                rcases List.mem_cons.mp z with e | z
                · omega
                · have := (List.pairwise_cons.mp (List.pairwise_cons.mp hs).2).1 _ z
                  omega
            omega
/-! ### steps of a common multiple of the pays -/
structure Mult (ps : Prs) (L : Int) : Prop where
  pos : 0 < L
  dv : ∀ q ∈ ps, 0 < q.2 → L / q.2 * q.2 = L
theorem div_part {L p : Int} (h : 0 < p) (h' : p ≤ 9) (d : L / p * p = L) : 2520 * (L / p) = L * (2520 / p) := by
  have w := (w_pos h h').2.2
  have e1 : 2520 * (L / p) * p = L * (2520 / p) * p := by
    rw [Int.mul_assoc, d, Int.mul_assoc, w, Int.mul_comm]
  exact Int.eq_of_mul_eq_mul_right (by omega) e1
/-- above the turning point a step more costs -/
theorem step_up {ps : Prs} {L k : Int} (hp : Pays ps) (hk : ∀ q ∈ ps, q.2 = 0 → q.1 ≤ k) (M : Mult ps L) : 2520 * (lays k ps - lays (k + L) ps) ≤ L * wts k ps := by
  have hL := M.pos
  have dv := M.dv
  clear M
  induction ps with
  | nil => rw [lays_nil, lays_nil]; show 2520 * (0 - 0) ≤ L * 0; omega
  | cons q r ih =>
    rw [lays_cons, lays_cons, wts_cons, Int.mul_add]
    have b := ih (fun q h => hp q (List.mem_cons_of_mem _ h)) (fun q h => hk q (List.mem_cons_of_mem _ h)) (fun q h => dv q (List.mem_cons_of_mem _ h))
    have hq := hp q List.mem_cons_self
    have hkq := hk q List.mem_cons_self
    have a : 2520 * (lay k q - lay (k + L) q) ≤ L * wt k q := by
      by_cases c : q.1 ≤ k
      · have e1 : lay k q = 0 := if_pos c
        have e2 : lay (k + L) q = 0 := if_pos (by omega)
        have e3 : wt k q = 0 := if_pos c
        rw [e1, e2, e3]; omega
      · have p0 := pos_of hq hkq c
        have d := dv q List.mem_cons_self p0
        have e1 : lay k q = cdiv (q.1 - k) q.2 := if_neg c
        have e3 : wt k q = 2520 / q.2 := if_neg c
        have e4 := div_part p0 hq.2 d
        rw [e3, ← e4]
        have : lay k q - lay (k + L) q ≤ L / q.2 := by
          by_cases c2 : q.1 ≤ k + L
          · have e2 : lay (k + L) q = 0 := if_pos c2
            have : cdiv (q.1 - k) q.2 ≤ L / q.2 := (cdiv_le p0).mpr (by rw [d]; omega)
            omega
          · have e2 : lay (k + L) q = cdiv (q.1 - (k + L)) q.2 := if_neg c2
            have e5 : cdiv (q.1 - k) q.2 = cdiv (q.1 - (k + L)) q.2 + L / q.2 := by
              rw [← cdiv_add p0, d]
              congr 1
              omega
            omega
        omega
    omega
/-- .. below it, a step more spares -/
theorem step_down {ps : Prs} {L k : Int} (hp : Pays ps) (hk : ∀ q ∈ ps, q.2 = 0 → q.1 ≤ k) (M : Mult ps L) : L * wts (k + L - 1) ps ≤ 2520 * (lays k ps - lays (k + L) ps) := by
  have hL := M.pos
  have dv := M.dv
  clear M
  induction ps with
  | nil => rw [lays_nil, lays_nil]; show L * 0 ≤ 2520 * (0 - 0); omega
  | cons q r ih =>
    rw [lays_cons, lays_cons, wts_cons, Int.mul_add]
    have b := ih (fun q h => hp q (List.mem_cons_of_mem _ h)) (fun q h => hk q (List.mem_cons_of_mem _ h)) (fun q h => dv q (List.mem_cons_of_mem _ h))
    have hq := hp q List.mem_cons_self
    have hkq := hk q List.mem_cons_self
    have a : L * wt (k + L - 1) q ≤ 2520 * (lay k q - lay (k + L) q) := by
      by_cases c : q.1 ≤ k + L - 1
      · have e3 : wt (k + L - 1) q = 0 := if_pos c
        have e2 : lay (k + L) q = 0 := if_pos (by omega)
        have := lay_nonneg (k := k) hq.1 hkq
        rw [e3, e2]; omega
      · have p0 := pos_of hq hkq (by omega)
        have d := dv q List.mem_cons_self p0
        have e1 : lay k q = cdiv (q.1 - k) q.2 := if_neg (by omega)
        have e3 : wt (k + L - 1) q = 2520 / q.2 := if_neg c
        have e4 := div_part p0 hq.2 d
        rw [e3, ← e4]
        have e5 : cdiv (q.1 - k) q.2 = cdiv (q.1 - (k + L)) q.2 + L / q.2 := by
          rw [← cdiv_add p0, d]
          congr 1
          omega
        have e6 : lay (k + L) q = cdiv (q.1 - (k + L)) q.2 := by
          by_cases c2 : q.1 ≤ k + L
          · have e2 : lay (k + L) q = 0 := if_pos c2
            have : q.1 - (k + L) = 0 := by omega
            rw [e2, this, cdiv_zero]
          · exact if_neg c2
        omega
    omega
theorem tot_up {ps : Prs} {L k : Int} (hp : Pays ps) (hk : ∀ q ∈ ps, q.2 = 0 → q.1 ≤ k) (M : Mult ps L) (h : wts k ps ≤ 2520) : tot ps k ≤ tot ps (k + L) := by
  have s := step_up hp hk M
  have : L * wts k ps ≤ L * 2520 := Int.mul_le_mul_of_nonneg_left h (Int.le_of_lt M.pos)
  unfold tot
  omega
theorem tot_down {ps : Prs} {L k : Int} (hp : Pays ps) (hk : ∀ q ∈ ps, q.2 = 0 → q.1 ≤ k) (M : Mult ps L) (h : 2520 ≤ wts (k + L - 1) ps) : tot ps (k + L) ≤ tot ps k := by
  have s := step_down hp hk M
  have : L * 2520 ≤ L * wts (k + L - 1) ps := Int.mul_le_mul_of_nonneg_left h (Int.le_of_lt M.pos)
  unfold tot
  omega
/-- the least that can be kept -/
structure Keeps (ps : Prs) (m : Int) : Prop where
  okk : Okk ps m
  least : ∀ k, Okk ps k → m ≤ k
theorem Keeps.iff {ps : Prs} {m : Int} (K : Keeps ps m) (k : Int) : Okk ps k ↔ m ≤ k := by
  refine ⟨K.least k, fun h => ⟨?_, fun q hq z => ?_⟩⟩
  · have := K.okk.1; omega
  · have := K.okk.2 q hq z; omega
/-- a number in the range is as good as any -/
theorem in_range {ps : Prs} {m t L : Int} (hp : Pays ps) (K : Keeps ps m) (T : Turns ps m t) (M : Mult ps L) : ∀ (n : Nat) (k : Int), m ≤ k → (k - t).natAbs ≤ n → ∃ k', max m (t - L) ≤ k' ∧ k' < t + L ∧ tot ps k' ≤ tot ps k := by
  intro n
  induction n with
  | zero =>
    intro k hk hn
    have := M.pos
    exact ⟨k, by omega, by omega, Int.le_refl _⟩
  | succ n ih =>
    intro k hk hn
    have L0 := M.pos
    have ok : ∀ k, m ≤ k → ∀ q ∈ ps, q.2 = 0 → q.1 ≤ k := fun k h => ((K.iff k).mpr h).2
    by_cases c1 : t + L ≤ k
    · obtain ⟨k', h1, h2, h3⟩ := ih (k - L) (by have := T.ge; omega) (by omega)
      refine ⟨k', h1, h2, Int.le_trans h3 ?_⟩
      have w : wts (k - L) ps ≤ 2520 := Int.le_trans (wts_anti (k := t) (by omega) hp (ok t T.ge)) T.at_
      have := tot_up (k := k - L) hp (ok _ (by have := T.ge; omega)) M w
      rwa [show k - L + L = k by omega] at this
    · by_cases c2 : k < t - L
      · obtain ⟨k', h1, h2, h3⟩ := ih (k + L) (by omega) (by omega)
        refine ⟨k', h1, h2, Int.le_trans h3 ?_⟩
        have w := T.ahead (k + L - 1) (by omega) (by omega)
        exact tot_down hp (ok k hk) M (by omega)
      · exact ⟨k, by omega, by omega, Int.le_refl _⟩
/-- the fewest of the range are the coins that are needed -/
theorem need_range {ps : Prs} {m t L n : Int} (hp : Pays ps) (K : Keeps ps m) (T : Turns ps m t) (M : Mult ps L)
    (h1 : ∃ k, max m (t - L) ≤ k ∧ k < t + L ∧ tot ps k = n) (h2 : ∀ k, max m (t - L) ≤ k → k < t + L → n ≤ tot ps k) : IsNeed ps n := by
  obtain ⟨k, a, b, e⟩ := h1
  refine ⟨⟨k, (K.iff k).mpr (by omega), e⟩, fun k o => ?_⟩
  obtain ⟨k', a, b, l⟩ := in_range hp K T M _ k (K.least k o) (Nat.le_refl _)
  exact Int.le_trans (h2 k' a b) l
/-! ### parts of coins -/
/-- 2520 times the coins, if k are kept and any parts may be laid -/
def part (k : Int) (q : Int × Int) : Int := if q.1 ≤ k then 0 else (q.1 - k) * (2520 / q.2)
def parts (k : Int) (ps : Prs) : Int := (ps.map (part k)).sum
theorem parts_cons (k : Int) (q : Int × Int) (ps : Prs) : parts k (q :: ps) = part k q + parts k ps := by
  unfold parts
  rw [List.map_cons, List.sum_cons]
theorem parts_le {k : Int} : ∀ {ps : Prs}, Pays ps → (∀ q ∈ ps, q.2 = 0 → q.1 ≤ k) → parts k ps ≤ 2520 * lays k ps ∧ 2520 * lays k ps ≤ parts k ps + 2520 * (ps.length : Int)
  | [], _, _ => by show (0 : Int) ≤ 2520 * 0 ∧ (2520 : Int) * 0 ≤ 0 + 2520 * 0; omega
  | q :: ps, hp, hk => by
    rw [parts_cons, lays_cons, List.length_cons]
    have b := parts_le (ps := ps) (k := k) (fun q h => hp q (List.mem_cons_of_mem _ h)) (fun q h => hk q (List.mem_cons_of_mem _ h))
    have hq := hp q List.mem_cons_self
    have a : part k q ≤ 2520 * lay k q ∧ 2520 * lay k q ≤ part k q + 2520 := by
      by_cases c : q.1 ≤ k
      · have e1 : part k q = 0 := if_pos c
        have e2 : lay k q = 0 := if_pos c
        omega
      · have p0 := pos_of hq (hk q List.mem_cons_self) c
        have w := w_pos p0 hq.2
        have e1 : part k q = (q.1 - k) * (2520 / q.2) := if_neg c
        have e2 : lay k q = cdiv (q.1 - k) q.2 := if_neg c
        have l1 := le_cdiv (a := q.1 - k) p0
        have l2 := cdiv_lt (a := q.1 - k) p0
        have f : 2520 * cdiv (q.1 - k) q.2 = cdiv (q.1 - k) q.2 * q.2 * (2520 / q.2) := by
          rw [Int.mul_assoc, Int.mul_comm q.2, w.2.2, Int.mul_comm]
        have m1 : (q.1 - k) * (2520 / q.2) ≤ cdiv (q.1 - k) q.2 * q.2 * (2520 / q.2) := Int.mul_le_mul_of_nonneg_right l1 (by omega)
        have m2 : cdiv (q.1 - k) q.2 * q.2 * (2520 / q.2) ≤ ((q.1 - k) + q.2) * (2520 / q.2) := Int.mul_le_mul_of_nonneg_right (by omega) (by omega)
        rw [Int.add_mul, Int.mul_comm q.2, w.2.2] at m2
        rw [e1, e2, f]
        exact ⟨m1, m2⟩
    have := b.1
    have := b.2
    omega
theorem parts_step {k : Int} : ∀ {ps : Prs}, Pays ps → (∀ q ∈ ps, q.2 = 0 → q.1 ≤ k) → parts k ps = parts (k + 1) ps + wts k ps
  | [], _, _ => rfl
  | q :: ps, hp, hk => by
    rw [parts_cons, parts_cons, wts_cons, parts_step (ps := ps) (fun q h => hp q (List.mem_cons_of_mem _ h)) (fun q h => hk q (List.mem_cons_of_mem _ h))]
    have a : part k q = part (k + 1) q + wt k q := by
      by_cases c : q.1 ≤ k
      · have e1 : part k q = 0 := if_pos c
        have e2 : part (k + 1) q = 0 := if_pos (by omega)
        have e3 : wt k q = 0 := if_pos c
        omega
      · have e1 : part k q = (q.1 - k) * (2520 / q.2) := if_neg c
        have e3 : wt k q = 2520 / q.2 := if_neg c
        have e2 : part (k + 1) q = (q.1 - (k + 1)) * (2520 / q.2) := by
          by_cases c2 : q.1 ≤ k + 1
          · have e : part (k + 1) q = 0 := if_pos c2
            rw [e, show q.1 - (k + 1) = 0 by omega, Int.zero_mul]
          · exact if_neg c2
        rw [e1, e2, e3, show q.1 - k = (q.1 - (k + 1)) + 1 by omega, Int.add_mul, Int.one_mul]
    omega
/-- with parts the turning point is the best -/
theorem parts_turn {ps : Prs} {m t : Int} (hp : Pays ps) (K : Keeps ps m) (T : Turns ps m t) : ∀ (n : Nat) (k : Int), m ≤ k → (k - t).natAbs ≤ n → 2520 * t + parts t ps ≤ 2520 * k + parts k ps := by
  intro n
  have ok : ∀ k, m ≤ k → ∀ q ∈ ps, q.2 = 0 → q.1 ≤ k := fun k h => ((K.iff k).mpr h).2
  induction n with
  | zero =>
    intro k hk hn
    have : k = t := by omega
    rw [this]
    exact Int.le_refl _
  | succ n ih =>
    intro k hk hn
    have ge := T.ge
    by_cases c1 : t < k
    · have := ih (k - 1) (by omega) (by omega)
      have s := parts_step (k := k - 1) hp (ok _ (by omega))
      rw [show k - 1 + 1 = k by omega] at s
      have w : wts (k - 1) ps ≤ 2520 := Int.le_trans (wts_anti (k := t) (by omega) hp (ok t ge)) T.at_
      omega
    · by_cases c2 : k < t
      · have := ih (k + 1) (by omega) (by omega)
        have s := parts_step (k := k) hp (ok _ hk)
        have := T.ahead k hk c2
        omega
      · have : k = t := by omega
        rw [this]
        exact Int.le_refl _
/-- THE THIRD FACT, as the code uses it -/
theorem parts_need {ps : Prs} {m t n : Int} (hp : Pays ps) (K : Keeps ps m) (T : Turns ps m t) (N : IsNeed ps n) :
    2520 * t + parts t ps ≤ 2520 * n ∧ 2520 * n ≤ 2520 * t + parts t ps + 2520 * (ps.length : Int) := by
  have ok : ∀ k, m ≤ k → ∀ q ∈ ps, q.2 = 0 → q.1 ≤ k := fun k h => ((K.iff k).mpr h).2
  obtain ⟨⟨k, o, e⟩, l⟩ := N
  constructor
  · have a := parts_turn hp K T _ k (K.least k o) (Nat.le_refl _)
    have b := (parts_le hp o.2).1
    unfold tot at e
    omega
  · have a := l t ((K.iff t).mpr T.ge)
    have b := (parts_le hp (ok t T.ge)).2
    unfold tot at a
    omega
end WS
end
section
/-! Plain law, part 3: tracks, full lots, who gains, tables, the least of them. -/
namespace WS
/-- goals of 0 ask nothing -/
def told (ps : Prs) : Prs := ps.filter fun q => decide (0 < q.1)
theorem lays_told {k : Int} (h0 : 0 ≤ k) : ∀ ps : Prs, lays k (told ps) = lays k ps
  | [] => rfl
  | q :: ps => by
    have ih := lays_told h0 ps
    unfold told at ih ⊢
    by_cases c : 0 < q.1
    · rw [List.filter_cons_of_pos (by simpa using c), lays_cons, lays_cons, ih]
    · rw [List.filter_cons_of_neg (by simpa using c), lays_cons, ih]
      have : lay k q = 0 := if_pos (by omega)
      omega
theorem okk_told {ps : Prs} {k : Int} : Okk (told ps) k ↔ Okk ps k := by
  unfold told
  constructor
  · rintro ⟨h0, h⟩
    refine ⟨h0, fun q hq z => ?_⟩
    by_cases c : 0 < q.1
    · exact h q (List.mem_filter.mpr ⟨hq, by simpa using c⟩) z
    · omega
  · rintro ⟨h0, h⟩
    exact ⟨h0, fun q hq z => h q (List.mem_filter.mp hq).1 z⟩
theorem need_told {ps : Prs} {n : Int} : IsNeed (told ps) n ↔ IsNeed ps n := by
  have e : ∀ k, Okk ps k → tot (told ps) k = tot ps k := fun k o => by
    unfold tot
    rw [lays_told o.1]
  constructor
  · rintro ⟨⟨k, o, h⟩, l⟩
    have o' := okk_told.mp o
    refine ⟨⟨k, o', by rw [← e k o', h]⟩, fun k o => ?_⟩
    rw [← e k o]
    exact l k (okk_told.mpr o)
  · rintro ⟨⟨k, o, h⟩, l⟩
    refine ⟨⟨k, okk_told.mpr o, by rw [e k o, h]⟩, fun k o => ?_⟩
    rw [e k (okk_told.mp o)]
    exact l k (okk_told.mp o)
theorem pays_told {ps : Prs} (h : Pays ps) : Pays (told ps) := fun q hq => h q (List.mem_filter.mp hq).1
/-! ### nets: for each place the letters' (pay, goal) -/
abbrev Net := List (List (Int × Nat))
def st (N : Net) (p : Nat) : List (Int × Nat) := N.getD p []
def prs (N : Net) (x : Nat → Int) (p : Nat) : Prs := (st N p).map fun s => (x s.2, s.1)
structure NetOk (N : Net) : Prop where
  pay : ∀ p, ∀ s ∈ st N p, 0 ≤ s.1 ∧ s.1 ≤ 9
  goal : ∀ p, ∀ s ∈ st N p, s.2 < N.length
theorem NetOk.pays {N : Net} (h : NetOk N) (x : Nat → Int) (p : Nat) : Pays (prs N x p) := by
  intro q hq
  obtain ⟨s, hs, rfl⟩ := List.mem_map.mp hq
  exact h.pay p s hs
theorem sub_of {x y : Nat → Int} : ∀ (l : List (Int × Nat)), (∀ s ∈ l, x s.2 ≤ y s.2) → Sub (l.map fun s => (x s.2, s.1)) (l.map fun s => (y s.2, s.1))
  | [], _ => .nil
  | s :: l, h => .cons (h s List.mem_cons_self) (sub_of l fun s hs => h s (List.mem_cons_of_mem _ hs))
theorem prs_up {N : Net} {x : Nat → Int} {p : Nat} {e : Int} : prs N (fun q => x q + e) p = up e (prs N x p) := by
  unfold prs up
  rw [List.map_map]
  rfl
theorem met_le {N : Net} (h : NetOk N) {x y : Nat → Int} {p : Nat} {c : Int} (l : ∀ s ∈ st N p, x s.2 ≤ y s.2) : Met (prs N y p) c → Met (prs N x p) c :=
  (sub_of (st N p) l).met (h.pays y p)
theorem met_shift {N : Net} {x : Nat → Int} {p : Nat} {c e : Int} (he : 0 ≤ e) (m : Met (prs N x p) c) : Met (prs N (fun q => x q + e) p) (c + e) := by
  rw [prs_up]
  exact met_up he m
theorem Met.nonneg {ps : Prs} (hp : Pays ps) {c : Int} : Met ps c → 0 ≤ c := fun ⟨k, o, h⟩ => by
  have := tot_ge hp o
  have := o.1
  omega
/-! ### full lots -/
def weight (p : Int) : Int := if p > 0 then 2520 / p else 2520
def wb (N : Net) (p : Nat) (L : List Nat) : Int := (((st N p).filter fun s => decide (s.2 ∈ L)).map fun s => weight s.1).sum
def strike (N : Net) (L : List Nat) : List Nat := L.filter fun p => !decide (wb N p L < 2520)
def iter (f : List Nat → List Nat) : Nat → List Nat → List Nat
  | 0, L => L
  | t + 1, L => iter f t (f L)
def full (N : Net) : List Nat := iter (strike N) N.length (List.range N.length)
theorem iter_fix {f : List Nat → List Nat} {L : List Nat} (h : f L = L) : ∀ t, iter f t L = L
  | 0 => rfl
  | t + 1 => by
    show iter f t (f L) = L
    rw [h]
    exact iter_fix h t
theorem iter_add (f : List Nat → List Nat) : ∀ (t u : Nat) (L : List Nat), iter f (t + u) L = iter f u (iter f t L)
  | 0, u, L => by rw [Nat.zero_add]; rfl
  | t + 1, u, L => by
    rw [show t + 1 + u = (t + u) + 1 by omega]
    exact iter_add f t u (f L)
/-- the strikes that came to stay by then -/
theorem full_of {N : Net} {F : List Nat} {t : Nat} (ht : t ≤ N.length) (e : F = iter (strike N) t (List.range N.length)) (h : strike N F = F) : full N = F := by
  unfold full
  rw [show N.length = t + (N.length - t) by omega, iter_add]
  rw [show t + (N.length - t) = N.length by omega, ← e]
  exact iter_fix h _
theorem weight_pos {p : Int} (h : 0 ≤ p ∧ p ≤ 9) : 0 < weight p := by
  unfold weight
  split
  · rename_i c
    have := (w_pos c h.2).1
    omega
  · omega
theorem wb_mono {N : Net} (h : NetOk N) (p : Nat) {L L' : List Nat} (s : ∀ q ∈ L, q ∈ L') : wb N p L ≤ wb N p L' := by
  unfold wb
  have key : ∀ l : List (Int × Nat), (∀ s ∈ l, 0 ≤ s.1 ∧ s.1 ≤ 9) → ((l.filter fun s => decide (s.2 ∈ L)).map fun s => weight s.1).sum ≤ ((l.filter fun s => decide (s.2 ∈ L')).map fun s => weight s.1).sum := by
    intro l
    induction l with
    | nil => intro _; exact Int.le_refl _
    | cons a l ih =>
      intro hl
      have i := ih fun s hs => hl s (List.mem_cons_of_mem _ hs)
      have w := weight_pos (hl a List.mem_cons_self)
      by_cases c : a.2 ∈ L
      · rw [List.filter_cons_of_pos (by simpa using c), List.filter_cons_of_pos (by simpa using s _ c), List.map_cons, List.map_cons, List.sum_cons, List.sum_cons]
        omega
      · rw [List.filter_cons_of_neg (by simpa using c)]
        by_cases c' : a.2 ∈ L'
        · rw [List.filter_cons_of_pos (by simpa using c'), List.map_cons, List.sum_cons]
          omega
        · rw [List.filter_cons_of_neg (by simpa using c')]
          exact i
  exact key _ (h.pay p)
/-- a full lot is in the greatest one -/
theorem full_in {N : Net} (h : NetOk N) {S : List Nat} (hS : ∀ p ∈ S, 2520 ≤ wb N p S) : ∀ (t : Nat) (L : List Nat), (∀ p ∈ S, p ∈ L) → ∀ p ∈ S, p ∈ iter (strike N) t L
  | 0, _, hL => hL
  | t + 1, L, hL => full_in h hS t (strike N L) fun p hp => List.mem_filter.mpr ⟨hL p hp, by
      have := wb_mono h p hL
      have := hS p hp
      simp
      omega⟩
/-! ### hope -/
inductive Reach (N : Net) (p : Nat) : Nat → Prop
  | self : Reach N p p
  | step {q : Nat} {s : Int × Nat} : Reach N p q → s ∈ st N q → Reach N p s.2
theorem Reach.first {N : Net} {p q : Nat} {s : Int × Nat} (hs : s ∈ st N p) (r : Reach N s.2 q) : Reach N p q := by
  induction r with
  | self => exact .step .self hs
  | step _ h ih => exact .step ih h
noncomputable def hope (N : Net) : List Nat := (List.range N.length).filter fun p => @decide (∀ q, Reach N p q → q ∉ full N) (Classical.propDecidable _)
theorem mem_hope {N : Net} {p : Nat} : p ∈ hope N ↔ p < N.length ∧ ∀ q, Reach N p q → q ∉ full N := by
  unfold hope
  rw [List.mem_filter, List.mem_range, @decide_eq_true_iff _ (Classical.propDecidable _)]
theorem hope_closed {N : Net} (h : NetOk N) {p : Nat} (hp : p ∈ hope N) {s : Int × Nat} (hs : s ∈ st N p) : s.2 ∈ hope N :=
  mem_hope.mpr ⟨h.goal p s hs, fun q r => (mem_hope.mp hp).2 q (r.first hs)⟩
/-- among hopeful places none is a full lot -/
theorem hope_sub {N : Net} (h : NetOk N) {S : List Nat} (hS : ∀ p ∈ S, p ∈ hope N) (hne : S ≠ []) : ∃ p ∈ S, wb N p S < 2520 := by
  apply Classical.byContradiction
  intro hno
  have hf : ∀ p ∈ S, 2520 ≤ wb N p S := fun p hp => by
    rcases Int.lt_or_le (wb N p S) 2520 with c | c
    · exact absurd ⟨p, hp, c⟩ hno
    · exact c
  cases S with
  | nil => exact hne rfl
  | cons p S =>
    have hp := List.mem_cons_self (a := p) (l := S)
    refine (mem_hope.mp (hS p hp)).2 p .self ?_
    exact full_in h hf N.length (List.range N.length) (fun q hq => List.mem_range.mpr (mem_hope.mp (hS q hq)).1) p hp
/-! ### a table with bounds -/
/-- goals of a place: above a by one, at the places of S by d more -/
def Holds (N : Net) (S : List Nat) (d : Nat → Int) : Prop := ∀ p ∈ S, ∀ (a : Int) (x : Nat → Int), 0 ≤ a → (∀ s ∈ st N p, x s.2 ≤ a + 1 + (if s.2 ∈ S then d s.2 else 0)) → Met (prs N x p) (a + d p)
/-- how great a table can become -/
def most : Nat → Int
  | 0 => 0
  | m + 1 => 2520 * (most m + 4) + most m
theorem most_nonneg : ∀ m, 0 ≤ most m
  | 0 => Int.le_refl _
  | m + 1 => by
    have := most_nonneg m
    show 0 ≤ 2520 * (most m + 4) + most m
    omega
theorem lays_bound {k u : Int} (hu : 0 ≤ u) {S : List Nat} {x : Nat → Int} : ∀ (l : List (Int × Nat)), (∀ s ∈ l, 0 ≤ s.1 ∧ s.1 ≤ 9) → (∀ s ∈ l, x s.2 ≤ k + (if s.2 ∈ S then u else 0)) →
    (∀ s ∈ l, s.2 ∈ S → 2 ≤ s.1) → 2520 * lays k (l.map fun s => (x s.2, s.1)) ≤ u * (((l.filter fun s => decide (s.2 ∈ S)).map fun s => weight s.1).sum) + 2520 * (l.length : Int)
  | [], _, _, _ => by show (2520 : Int) * 0 ≤ u * 0 + 2520 * 0; omega
  | s :: l, hp, hx, h2 => by
    have ih := lays_bound hu l (fun s hs => hp s (List.mem_cons_of_mem _ hs)) (fun s hs => hx s (List.mem_cons_of_mem _ hs)) (fun s hs => h2 s (List.mem_cons_of_mem _ hs))
    rw [List.map_cons, lays_cons, List.length_cons]
    have hxs := hx s List.mem_cons_self
    have hps := hp s List.mem_cons_self
    by_cases c : s.2 ∈ S
    · rw [List.filter_cons_of_pos (by simpa using c), List.map_cons, List.sum_cons, Int.mul_add u]
      rw [if_pos c] at hxs
      have p2 := h2 s List.mem_cons_self c
      have w := w_pos (p := s.1) (by omega) hps.2
      have ew : weight s.1 = 2520 / s.1 := if_pos (by omega)
      have a : 2520 * lay k (x s.2, s.1) ≤ u * weight s.1 + 2520 := by
        rw [ew]
        by_cases c2 : x s.2 ≤ k
        · have : lay k (x s.2, s.1) = 0 := if_pos c2
          have : 0 ≤ u * (2520 / s.1) := Int.mul_nonneg hu (by omega)
          omega
        · have e : lay k (x s.2, s.1) = cdiv (x s.2 - k) s.1 := if_neg c2
          have l2 := cdiv_lt (a := x s.2 - k) (b := s.1) (by omega)
          have f : 2520 * cdiv (x s.2 - k) s.1 = cdiv (x s.2 - k) s.1 * s.1 * (2520 / s.1) := by
            rw [Int.mul_assoc, Int.mul_comm s.1, w.2.2, Int.mul_comm]
          have m2 : cdiv (x s.2 - k) s.1 * s.1 * (2520 / s.1) ≤ (u + s.1) * (2520 / s.1) := Int.mul_le_mul_of_nonneg_right (by omega) (by omega)
          rw [Int.add_mul, Int.mul_comm s.1, w.2.2] at m2
          rw [e, f]
          exact m2
      omega
    · rw [List.filter_cons_of_neg (by simpa using c)]
      rw [if_neg c] at hxs
      have : lay k (x s.2, s.1) = 0 := if_pos (by omega)
      omega
/-- letters back into a lot that come to less than one pay two or more -/
theorem pay_two {S : List Nat} : ∀ (l : List (Int × Nat)), (∀ s ∈ l, 0 ≤ s.1 ∧ s.1 ≤ 9) → (((l.filter fun s => decide (s.2 ∈ S)).map fun s => weight s.1).sum) < 2520 → ∀ s ∈ l, s.2 ∈ S → 2 ≤ s.1
  | [], _, _, s, hs, _ => by cases hs
  | a :: l, hp, hw, s, hs, c => by
    have nn : ∀ l : List (Int × Nat), (∀ s ∈ l, 0 ≤ s.1 ∧ s.1 ≤ 9) → 0 ≤ ((l.filter fun s => decide (s.2 ∈ S)).map fun s => weight s.1).sum := by
      intro l
      induction l with
      | nil => intro _; exact Int.le_refl _
      | cons b l ih =>
        intro hl
        have i := ih fun s hs => hl s (List.mem_cons_of_mem _ hs)
        have w := weight_pos (hl b List.mem_cons_self)
        by_cases c : b.2 ∈ S
        · rw [List.filter_cons_of_pos (by simpa using c), List.map_cons, List.sum_cons]
          omega
        · rw [List.filter_cons_of_neg (by simpa using c)]
          exact i
    have n1 := nn l fun s hs => hp s (List.mem_cons_of_mem _ hs)
    rcases List.mem_cons.mp hs with e | hs
    · subst e
      rw [List.filter_cons_of_pos (by simpa using c), List.map_cons, List.sum_cons] at hw
      have h9 := hp s List.mem_cons_self
      have : weight s.1 < 2520 := by omega
      rcases (show s.1 = 0 ∨ s.1 = 1 ∨ 2 ≤ s.1 by omega) with z | z | z
      · rw [z] at this; exact absurd this (by decide)
      · rw [z] at this; exact absurd this (by decide)
      · exact z
    · refine pay_two l (fun s hs => hp s (List.mem_cons_of_mem _ hs)) ?_ s hs c
      by_cases ca : a.2 ∈ S
      · rw [List.filter_cons_of_pos (by simpa using ca), List.map_cons, List.sum_cons] at hw
        have := weight_pos (hp a List.mem_cons_self)
        omega
      · rw [List.filter_cons_of_neg (by simpa using ca)] at hw
        exact hw
/-- THE MAIN FACT, by hand: a lot none of whose parts is full has a table -/
theorem table_ex {N : Net} (h : NetOk N) (h3 : ∀ p, (st N p).length ≤ 3) : ∀ (m : Nat) (S : List Nat), S.length = m → (∀ T : List Nat, (∀ p ∈ T, p ∈ S) → T ≠ [] → ∃ p ∈ T, wb N p T < 2520) →
    ∃ d : Nat → Int, (∀ p, 0 ≤ d p ∧ d p ≤ most m) ∧ Holds N S d
  | 0, S, hm, _ => by
    have : S = [] := List.length_eq_zero_iff.mp hm
    subst this
    exact ⟨fun _ => 0, fun p => ⟨Int.le_refl _, Int.le_refl _⟩, fun p hp => by cases hp⟩
  | m + 1, S, hm, hT => by
    obtain ⟨p, hp, hw⟩ := hT S (fun _ h => h) (by intro e; rw [e] at hm; cases hm)
    have hl : (S.erase p).length = m := by
      rw [List.length_erase_of_mem hp, hm]
      rfl
    obtain ⟨d', hd', H'⟩ := table_ex h h3 m (S.erase p) hl fun T hsub => hT T fun q hq => List.mem_of_mem_erase (hsub q hq)
    have hmost := most_nonneg m
    refine ⟨fun q => if q ∈ S.erase p then 2520 * (most m + 4) + d' q else 2520 * (most m + 4), fun q => ?_, fun q hq a x ha hx => ?_⟩
    · have := hd' q
      show 0 ≤ (if q ∈ S.erase p then 2520 * (most m + 4) + d' q else 2520 * (most m + 4)) ∧ (if q ∈ S.erase p then 2520 * (most m + 4) + d' q else 2520 * (most m + 4)) ≤ 2520 * (most m + 4) + most m
      split <;> omega
    · by_cases c : q ∈ S.erase p
      · show Met (prs N x q) (a + (if q ∈ S.erase p then 2520 * (most m + 4) + d' q else 2520 * (most m + 4)))
        rw [if_pos c, ← Int.add_assoc]
        refine H' q c (a + 2520 * (most m + 4)) x (by omega) fun s hs => ?_
        have z := hx s hs
        dsimp only at z
        by_cases cs : s.2 ∈ S.erase p
        · rw [if_pos cs, if_pos (List.mem_of_mem_erase cs)] at z
          rw [if_pos cs]
          omega
        · rw [if_neg cs] at z
          rw [if_neg cs]
          split at z <;> omega
      · have e : q = p := by
          rcases Decidable.em (q = p) with e | e
          · exact e
          · exact absurd ((List.mem_erase_of_ne e).mpr hq) c
        subst e
        show Met (prs N x q) (a + (if q ∈ S.erase q then 2520 * (most m + 4) + d' q else 2520 * (most m + 4)))
        rw [if_neg c]
        refine ⟨a + 1, ⟨by omega, fun z hz e0 => ?_⟩, ?_⟩
        · obtain ⟨s, hs, rfl⟩ := List.mem_map.mp hz
          have y := hx s hs
          by_cases cs : s.2 ∈ S
          · have := pay_two _ (h.pay q) hw s hs cs
            have e0' : s.1 = 0 := e0
            omega
          · rw [if_neg cs] at y
            show x s.2 ≤ a + 1
            omega
        · have b := lays_bound (k := a + 1) (u := 2520 * (most m + 4) + most m) (by omega) (S := S) (x := x) (st N q) (h.pay q) (fun s hs => by
            have y := hx s hs
            dsimp only at y
            by_cases cs : s.2 ∈ S
            · rw [if_pos cs] at y
              rw [if_pos cs]
              have := hd' s.2
              split at y <;> omega
            · rw [if_neg cs] at y
              rw [if_neg cs]
              exact y) (pay_two _ (h.pay q) hw)
          have hw' : ((((st N q).filter fun s => decide (s.2 ∈ S)).map fun s => weight s.1).sum) ≤ 2519 := by
            have : wb N q S < 2520 := hw
            unfold wb at this
            omega
          have hl3 := h3 q
          have m1 : (2520 * (most m + 4) + most m) * ((((st N q).filter fun s => decide (s.2 ∈ S)).map fun s => weight s.1).sum) ≤ (2520 * (most m + 4) + most m) * 2519 := Int.mul_le_mul_of_nonneg_left hw' (by omega)
          unfold tot
          show a + 1 + lays (a + 1) (prs N x q) ≤ a + 2520 * (most m + 4)
          unfold prs
          omega
end WS
end
section
/-! Plain law, part 4: who gains, the least table; what is sure; chains. -/
namespace WS
open Classical
/-- the places of H that are found within so many turns -/
def gst (N : Net) (H : List Nat) (c : Nat → Int) : Nat → Nat → Prop
  | 0, _ => False
  | t + 1, p => gst N H c t p ∨ (p ∈ H ∧ Met (prs N (fun q => c q + if gst N H c t q then 0 else 1) p) (c p))
def Gain (N : Net) (H : List Nat) (c : Nat → Int) (p : Nat) : Prop := ∃ t, gst N H c t p
theorem gst_in {N : Net} {H : List Nat} {c : Nat → Int} : ∀ {t p : Nat}, gst N H c t p → p ∈ H
  | 0, _, h => h.elim
  | _ + 1, _, h => h.elim (fun h => gst_in h) And.left
theorem gst_mono {N : Net} {H : List Nat} {c : Nat → Int} {t p : Nat} : ∀ u, gst N H c t p → gst N H c (t + u) p
  | 0, h => h
  | u + 1, h => .inl (gst_mono u h)
theorem gst_le {N : Net} {H : List Nat} {c : Nat → Int} {t u p : Nat} (l : t ≤ u) (h : gst N H c t p) : gst N H c u p := by
  have := gst_mono (u - t) h
  rwa [show t + (u - t) = u by omega] at this
theorem gst_stay {N : Net} {H : List Nat} {c : Nat → Int} {t : Nat} (h : ∀ p, gst N H c (t + 1) p → gst N H c t p) : ∀ u p, gst N H c (t + u) p → gst N H c t p
  | 0, _, g => g
  | u + 1, p, g => by
    have ih := gst_stay h u
    rcases g with g | ⟨hp, m⟩
    · exact ih p g
    · refine h p (.inr ⟨hp, ?_⟩)
      have e : (fun q => c q + if gst N H c (t + u) q then (0 : Int) else 1) = fun q => c q + if gst N H c t q then (0 : Int) else 1 := by
        funext q
        by_cases z : gst N H c t q
        · rw [if_pos z, if_pos (gst_mono u z)]
        · rw [if_neg z, if_neg fun z' => z (ih q z')]
      have m' : Met (prs N (fun q => c q + if gst N H c (t + u) q then 0 else 1) p) (c p) := m
      rwa [e] at m'
/-- at the end of the turns -/
theorem gain_iff {N : Net} {H : List Nat} {c : Nat → Int} {t : Nat} (h : ∀ p, gst N H c (t + 1) p → gst N H c t p) (p : Nat) : Gain N H c p ↔ gst N H c t p := by
  constructor
  · rintro ⟨u, g⟩
    rcases Nat.le_total u t with l | l
    · exact gst_le l g
    · have := gst_stay h (u - t) p
      rw [show t + (u - t) = u by omega] at this
      exact this g
  · exact fun g => ⟨t, g⟩
theorem gain_in {N : Net} {H : List Nat} {c : Nat → Int} {p : Nat} : Gain N H c p → p ∈ H := fun ⟨_, g⟩ => gst_in g
theorem gain_all {N : Net} {H : List Nat} {c : Nat → Int} : ∀ l : List (Int × Nat), ∃ t, ∀ s ∈ l, Gain N H c s.2 → gst N H c t s.2
  | [] => ⟨0, fun s hs => by cases hs⟩
  | a :: l => by
    obtain ⟨t, ht⟩ := gain_all l
    by_cases g : Gain N H c a.2
    · obtain ⟨u, hu⟩ := id g
      refine ⟨t + u, fun s hs gs => ?_⟩
      rcases List.mem_cons.mp hs with e | hs
      · rw [e]
        exact gst_le (Nat.le_add_left _ _) hu
      · exact gst_mono u (ht s hs gs)
    · refine ⟨t, fun s hs gs => ?_⟩
      rcases List.mem_cons.mp hs with e | hs
      · rw [e] at gs
        exact absurd gs g
      · exact ht s hs gs
theorem gain_closed {N : Net} (ok : NetOk N) {H : List Nat} {c : Nat → Int} {p : Nat} (hp : p ∈ H) (m : Met (prs N (fun q => c q + if Gain N H c q then 0 else 1) p) (c p)) : Gain N H c p := by
  obtain ⟨t, ht⟩ := gain_all (N := N) (H := H) (c := c) (st N p)
  refine ⟨t + 1, .inr ⟨hp, met_le ok (fun s hs => ?_) m⟩⟩
  show c s.2 + (if gst N H c t s.2 then 0 else 1) ≤ c s.2 + (if Gain N H c s.2 then 0 else 1)
  by_cases g : Gain N H c s.2
  · rw [if_pos g, if_pos (ht s hs g)]
    exact Int.le_refl _
  · rw [if_neg g]
    split <;> omega
/-- all gain -/
def Tab (N : Net) (H : List Nat) (c : Nat → Int) : Prop := ∀ p ∈ H, Gain N H c p
/-- .. told by turns -/
def Rk (N : Net) (H : List Nat) (c : Nat → Int) (r : Nat → Nat) : Prop := ∀ p ∈ H, Met (prs N (fun q => c q + if r q < r p then 0 else 1) p) (c p)
theorem first_of {P : Nat → Prop} : ∀ (n : Nat), P n → ∃ m, P m ∧ ∀ k, k < m → ¬ P k
  | n, h => by
    by_cases c : ∃ k, k < n ∧ P k
    · obtain ⟨k, l, hk⟩ := c
      exact first_of k hk
    · exact ⟨n, h, fun k l hk => c ⟨k, l, hk⟩⟩
theorem tab_rk {N : Net} (ok : NetOk N) {H : List Nat} {c : Nat → Int} (T : Tab N H c) : ∃ r, Rk N H c r := by
  refine ⟨fun p => if h : Gain N H c p then Classical.choose (first_of (P := fun t => gst N H c t p) _ (Classical.choose_spec h)) else 0, fun p hp => ?_⟩
  have key : ∀ (q : Nat) (h : Gain N H c q), gst N H c (if h : Gain N H c q then Classical.choose (first_of (P := fun t => gst N H c t q) _ (Classical.choose_spec h)) else 0) q ∧
      ∀ k, k < (if h : Gain N H c q then Classical.choose (first_of (P := fun t => gst N H c t q) _ (Classical.choose_spec h)) else 0) → ¬ gst N H c k q := fun q h => by
    rw [dif_pos h]
    exact Classical.choose_spec (first_of (P := fun t => gst N H c t q) _ (Classical.choose_spec h))
  have g := T p hp
  obtain ⟨k1, k2⟩ := key p g
  revert k1 k2
  generalize hr : (fun p => if h : Gain N H c p then Classical.choose (first_of (P := fun t => gst N H c t p) _ (Classical.choose_spec h)) else 0) = r at *
  have e : ∀ q, (if h : Gain N H c q then Classical.choose (first_of (P := fun t => gst N H c t q) _ (Classical.choose_spec h)) else 0) = r q := fun q => congrFun hr q
  rw [e p]
  intro k1 k2
  cases hrp : r p with
  | zero =>
    rw [hrp] at k1
    exact k1.elim
  | succ u =>
    rw [hrp] at k1 k2
    rcases k1 with k1 | ⟨_, m⟩
    · exact absurd k1 (k2 u (Nat.lt_succ_self _))
    · refine met_le ok (fun s hs => ?_) m
      show c s.2 + (if r s.2 < u + 1 then 0 else 1) ≤ c s.2 + (if gst N H c u s.2 then 0 else 1)
      by_cases gs : gst N H c u s.2
      · have l : r s.2 < u + 1 := by
          have q2 := (key s.2 ⟨u, gs⟩).2
          rw [e] at q2
          rcases Nat.lt_or_ge u (r s.2) with z | z
          · exact absurd gs (q2 u z)
          · omega
        rw [if_pos l]
        split <;> omega
      · rw [if_neg gs]
        split <;> omega
theorem tab_nonneg {N : Net} (ok : NetOk N) {H : List Nat} {c : Nat → Int} (T : Tab N H c) : ∀ p ∈ H, 0 ≤ c p := fun p hp => by
  obtain ⟨r, h⟩ := tab_rk ok T
  exact (h p hp).nonneg (ok.pays _ _)
theorem max_of (f : Nat → Int) : ∀ l : List Nat, l ≠ [] → ∃ a ∈ l, ∀ b ∈ l, f b ≤ f a
  | [], h => absurd rfl h
  | [a], _ => ⟨a, List.mem_cons_self, fun b hb => by rcases List.mem_cons.mp hb with e | hb; rw [e]; exact Int.le_refl _; cases hb⟩
  | a :: b :: l, _ => by
    obtain ⟨m, hm, h⟩ := max_of f (b :: l) (by intro e; cases e)
    by_cases c : f a ≤ f m
    · refine ⟨m, List.mem_cons_of_mem _ hm, fun z hz => ?_⟩
      rcases List.mem_cons.mp hz with e | hz
      · rw [e]; exact c
      · exact h z hz
    · refine ⟨a, List.mem_cons_self, fun z hz => ?_⟩
      rcases List.mem_cons.mp hz with e | hz
      · rw [e]; exact Int.le_refl _
      · have := h z hz; omega
/-- where coins do not gain they are fewer than those of any table -/
theorem below {N : Net} (ok : NetOk N) {H : List Nat} (cl : ∀ p ∈ H, ∀ s ∈ st N p, s.2 ∈ H) {c b : Nat → Int} (T : Tab N H b) (hg : ∀ q ∈ H, Gain N H c q → c q ≤ b q) : ∀ p ∈ H, ¬ Gain N H c p → c p < b p := by
  intro p0 hp0 n0
  apply Classical.byContradiction
  intro hno
  obtain ⟨r, R⟩ := tab_rk ok T
  obtain ⟨a, ha, hmax⟩ := max_of (fun p => c p - b p) (H.filter fun p => decide (¬ Gain N H c p)) (by
    intro e
    have : p0 ∈ H.filter fun p => decide (¬ Gain N H c p) := List.mem_filter.mpr ⟨hp0, by simpa using n0⟩
    rw [e] at this
    cases this)
  have hM : 0 ≤ c a - b a := by
    have := hmax p0 (List.mem_filter.mpr ⟨hp0, by simpa using n0⟩)
    try dsimp only at this
    omega
  have key : ∀ (n : Nat) (p : Nat), r p ≤ n → p ∈ H → ¬ Gain N H c p → c p - b p = c a - b a → False := by
    intro n
    induction n with
    | zero =>
      intro p hr hp hn e
      have m := met_shift (N := N) (e := c a - b a) hM (R p hp)
      refine hn (gain_closed ok hp ?_)
      rw [show b p + (c a - b a) = c p by omega] at m
      refine met_le ok (fun s hs => ?_) m
      show c s.2 + (if Gain N H c s.2 then 0 else 1) ≤ b s.2 + (if r s.2 < r p then 0 else 1) + (c a - b a)
      rw [if_neg (show ¬ r s.2 < r p by omega)]
      have hs2 := cl p hp s hs
      by_cases g : Gain N H c s.2
      · have := hg s.2 hs2 g
        rw [if_pos g]; omega
      · have := hmax s.2 (List.mem_filter.mpr ⟨hs2, by simpa using g⟩)
        try dsimp only at this
        rw [if_neg g]; omega
    | succ n ih =>
      intro p hr hp hn e
      have m := met_shift (N := N) (e := c a - b a) hM (R p hp)
      refine hn (gain_closed ok hp ?_)
      rw [show b p + (c a - b a) = c p by omega] at m
      refine met_le ok (fun s hs => ?_) m
      show c s.2 + (if Gain N H c s.2 then 0 else 1) ≤ b s.2 + (if r s.2 < r p then 0 else 1) + (c a - b a)
      have hs2 := cl p hp s hs
      by_cases g : Gain N H c s.2
      · have := hg s.2 hs2 g
        rw [if_pos g]
        split <;> omega
      · have le := hmax s.2 (List.mem_filter.mpr ⟨hs2, by simpa using g⟩)
        try dsimp only at le
        rw [if_neg g]
        by_cases eq : c s.2 - b s.2 = c a - b a
        · have : ¬ r s.2 < r p := fun l => ih s.2 (by omega) hs2 g eq
          rw [if_neg this]; omega
        · split <;> omega
  have ha' := List.mem_filter.mp ha
  exact key (r a) a (Nat.le_refl _) ha'.1 (by simpa using ha'.2) rfl
/-- the least table -/
structure Least (N : Net) (H : List Nat) (c : Nat → Int) : Prop where
  tab : Tab N H c
  le : ∀ b, Tab N H b → ∀ p ∈ H, c p ≤ b p
theorem Least.uniq {N : Net} {H : List Nat} {c b : Nat → Int} (x : Least N H c) (y : Least N H b) : ∀ p ∈ H, c p = b p := fun p hp => by
  have := x.le b y.tab p hp
  have := y.le c x.tab p hp
  omega
/-- hopeful places have a table, with bounds -/
theorem hope_table {N : Net} (ok : NetOk N) (h3 : ∀ p, (st N p).length ≤ 3) : ∃ d : Nat → Int, (∀ p, 0 ≤ d p ∧ d p ≤ most (hope N).length) ∧ Tab N (hope N) d := by
  obtain ⟨d, hd, H⟩ := table_ex ok h3 _ (hope N) rfl fun T hT hne => hope_sub ok hT hne
  refine ⟨d, hd, fun p hp => ⟨1, .inr ⟨hp, ?_⟩⟩⟩
  have := H p hp 0 (fun q => d q + if gst N (hope N) d 0 q then 0 else 1) (Int.le_refl _) fun s hs => by
    rw [if_pos (hope_closed ok hp hs)]
    show d s.2 + (if gst N (hope N) d 0 s.2 then (0 : Int) else 1) ≤ 0 + 1 + d s.2
    rw [if_neg (show ¬ gst N (hope N) d 0 s.2 from fun z => z)]
    omega
  rwa [Int.zero_add] at this
/-! ### what is sure -/
noncomputable def it (N : Net) (G : Int) : Nat → Nat → Int
  | 0, _ => G
  | t + 1, p => min G (nd (prs N (it N G t) p))
def Sure (N : Net) (p : Nat) (c G : Int) : Prop := ∃ t, it N G t p ≤ c
theorem nd_mono {N : Net} (ok : NetOk N) {x y : Nat → Int} {p : Nat} (l : ∀ s ∈ st N p, x s.2 ≤ y s.2) : nd (prs N x p) ≤ nd (prs N y p) :=
  (nd_le (ok.pays x p)).mpr (met_le ok l ((nd_le (ok.pays y p)).mp (Int.le_refl _)))
theorem it_down {N : Net} (ok : NetOk N) {G : Int} : ∀ t p, it N G (t + 1) p ≤ it N G t p
  | 0, p => by show min G _ ≤ G; omega
  | t + 1, p => by
    have := nd_mono ok (p := p) (x := it N G (t + 1)) (y := it N G t) fun s _ => it_down ok t s.2
    show min G (nd (prs N (it N G (t + 1)) p)) ≤ min G (nd (prs N (it N G t) p))
    omega
theorem it_le {N : Net} (ok : NetOk N) {G : Int} {t : Nat} : ∀ (u : Nat) (p : Nat), it N G (t + u) p ≤ it N G t p
  | 0, _ => Int.le_refl _
  | u + 1, p => Int.le_trans (it_down ok (t + u) p) (it_le ok u p)
theorem it_mono {N : Net} (ok : NetOk N) {G G' : Int} (h : G ≤ G') : ∀ t p, it N G t p ≤ it N G' t p
  | 0, _ => h
  | t + 1, p => by
    have := nd_mono ok (p := p) (x := it N G t) (y := it N G' t) fun s _ => it_mono ok h t s.2
    show min G (nd (prs N (it N G t) p)) ≤ min G' (nd (prs N (it N G' t) p))
    omega
theorem it_nonneg {N : Net} (ok : NetOk N) {G : Int} (h : 0 ≤ G) : ∀ t p, 0 ≤ it N G t p
  | 0, _ => h
  | t + 1, p => by
    have := nd_nonneg (ok.pays (it N G t) p)
    show 0 ≤ min G (nd (prs N (it N G t) p))
    omega
theorem it_top {N : Net} {G : Int} : ∀ t p, it N G t p ≤ G
  | 0, _ => Int.le_refl _
  | t + 1, p => by show min G _ ≤ G; omega
theorem Sure.goal {N : Net} (ok : NetOk N) {p : Nat} {c G G' : Int} (h : G ≤ G') : Sure N p c G' → Sure N p c G := fun ⟨t, l⟩ => ⟨t, Int.le_trans (it_mono ok h t p) l⟩
theorem Sure.coins {N : Net} {p : Nat} {c c' G : Int} (h : c ≤ c') : Sure N p c G → Sure N p c' G := fun ⟨t, l⟩ => ⟨t, Int.le_trans l h⟩
theorem sure_now {N : Net} {p : Nat} {c G : Int} (h : G ≤ c) : Sure N p c G := ⟨0, h⟩
/-- the same at all places of the net -/
def Alike (N : Net) (x y : Nat → Int) : Prop := ∀ p, p < N.length → x p = y p
theorem prs_same {N : Net} (ok : NetOk N) {x y : Nat → Int} (h : Alike N x y) (p : Nat) : prs N x p = prs N y p := by
  unfold prs
  exact List.map_congr_left fun s hs => by rw [h s.2 (ok.goal p s hs)]
/-- come to stay -/
theorem it_stay {N : Net} (ok : NetOk N) {G : Int} {t : Nat} (h : Alike N (it N G (t + 1)) (it N G t)) : ∀ u, Alike N (it N G (t + u)) (it N G t)
  | 0 => fun _ _ => rfl
  | u + 1 => fun p hp => by
    have ih := it_stay ok h u
    have e : it N G (t + (u + 1)) p = it N G (t + 1) p := by
      show min G (nd (prs N (it N G (t + u)) p)) = min G (nd (prs N (it N G t) p))
      rw [prs_same ok ih p]
    rw [e]
    exact h p hp
theorem not_sure {N : Net} (ok : NetOk N) {G c : Int} {t p : Nat} (hp : p < N.length) (h : Alike N (it N G (t + 1)) (it N G t)) (l : c < it N G t p) : ¬ Sure N p c G := by
  rintro ⟨u, hu⟩
  rcases Nat.le_total u t with z | z
  · have := it_le ok (G := G) (t := u) (t - u) p
    rw [show u + (t - u) = t by omega] at this
    omega
  · have := it_stay ok h (u - t) p hp
    rw [show t + (u - t) = u by omega] at this
    omega
/-- the sum over the places -/
noncomputable def sumN (n : Nat) (x : Nat → Int) : Int := ((List.range n).map x).sum
theorem sumN_succ (n : Nat) (x : Nat → Int) : sumN (n + 1) x = sumN n x + x n := by
  unfold sumN
  rw [List.range_succ, List.map_append, List.sum_append, List.map_cons, List.map_nil, List.sum_cons, List.sum_nil]
  omega
theorem sumN_le {x y : Nat → Int} : ∀ n, (∀ p, p < n → x p ≤ y p) → sumN n x ≤ sumN n y
  | 0, _ => Int.le_refl _
  | n + 1, h => by
    rw [sumN_succ, sumN_succ]
    have := sumN_le n fun p hp => h p (by omega)
    have := h n (by omega)
    omega
theorem sumN_lt {x y : Nat → Int} : ∀ n, (∀ p, p < n → x p ≤ y p) → (¬ ∀ p, p < n → x p = y p) → sumN n x < sumN n y
  | 0, _, h => absurd (fun p hp => absurd hp (Nat.not_lt_zero _)) h
  | n + 1, h, hne => by
    rw [sumN_succ, sumN_succ]
    have hl := h n (by omega)
    by_cases c : ∀ p, p < n → x p = y p
    · have := sumN_le n fun p hp => h p (by omega)
      have : x n ≠ y n := fun e => hne fun p hp => by
        rcases Nat.lt_or_ge p n with z | z
        · exact c p z
        · rw [show p = n by omega]; exact e
      omega
    · have := sumN_lt n (fun p hp => h p (by omega)) c
      omega
theorem sumN_nonneg {x : Nat → Int} (h : ∀ p, 0 ≤ x p) : ∀ n, 0 ≤ sumN n x
  | 0 => Int.le_refl _
  | n + 1 => by
    rw [sumN_succ]
    have := sumN_nonneg h n
    have := h n
    omega
theorem sumN_const (G : Int) : ∀ n : Nat, sumN n (fun _ => G) = G * (n : Int)
  | 0 => by show (0 : Int) = G * 0; omega
  | n + 1 => by
    rw [sumN_succ, sumN_const G n, show ((n + 1 : Nat) : Int) = (n : Int) + 1 by omega, Int.mul_add, Int.mul_one]
theorem sum_step {N : Net} (ok : NetOk N) {G : Int} {t : Nat} (h : ¬ Alike N (it N G (t + 1)) (it N G t)) : sumN N.length (it N G (t + 1)) < sumN N.length (it N G t) :=
  sumN_lt _ (fun p _ => it_down ok t p) h
theorem it_ends {N : Net} (ok : NetOk N) {G : Int} (h0 : 0 ≤ G) : ∃ t, Alike N (it N G (t + 1)) (it N G t) := by
  have key : ∀ (n t : Nat), sumN N.length (it N G t) ≤ (n : Int) → ∃ t, Alike N (it N G (t + 1)) (it N G t) := by
    intro n
    induction n with
    | zero =>
      intro t ht
      by_cases c : Alike N (it N G (t + 1)) (it N G t)
      · exact ⟨t, c⟩
      · have := sum_step ok c
        have := sumN_nonneg (it_nonneg ok h0 (t + 1)) N.length
        omega
    | succ n ih =>
      intro t ht
      by_cases c : Alike N (it N G (t + 1)) (it N G t)
      · exact ⟨t, c⟩
      · have := sum_step ok c
        exact ih (t + 1) (by omega)
  exact key (sumN N.length (it N G 0)).toNat 0 (by
    have := sumN_nonneg (it_nonneg ok h0 0) N.length
    omega)
/-- with the coins of a table any goal is sure -/
theorem grows {N : Net} (ok : NetOk N) {H : List Nat} (hH : ∀ p ∈ H, p < N.length) (cl : ∀ p ∈ H, ∀ s ∈ st N p, s.2 ∈ H) {c : Nat → Int} (T : Tab N H c) {G : Int} (h0 : 0 ≤ G) : ∀ p ∈ H, Sure N p (c p) G := by
  intro p0 hp0
  obtain ⟨t, ht⟩ := it_ends ok h0
  apply Classical.byContradiction
  intro hno
  obtain ⟨r, R⟩ := tab_rk ok T
  have h1 : c p0 < it N G t p0 := by
    rcases Int.lt_or_le (c p0) (it N G t p0) with z | z
    · exact z
    · exact absurd ⟨t, z⟩ hno
  obtain ⟨a, ha, hmax⟩ := max_of (fun p => it N G t p - c p) H (by intro e; rw [e] at hp0; cases hp0)
  have hM : 1 ≤ it N G t a - c a := by
    have := hmax p0 hp0
    try dsimp only at this
    omega
  have key : ∀ (n : Nat) (p : Nat), r p ≤ n → p ∈ H → it N G t p - c p = it N G t a - c a → False := by
    intro n
    induction n with
    | zero =>
      intro p hr hp e
      have m := met_shift (N := N) (e := it N G t a - c a - 1) (by omega) (R p hp)
      have m2 : Met (prs N (it N G t) p) (c p + (it N G t a - c a - 1)) := met_le ok (fun s hs => by
        show it N G t s.2 ≤ c s.2 + (if r s.2 < r p then 0 else 1) + (it N G t a - c a - 1)
        rw [if_neg (show ¬ r s.2 < r p by omega)]
        have := hmax s.2 (cl p hp s hs)
        try dsimp only at this
        omega) m
      have := (nd_le (ok.pays _ _)).mpr m2
      have := ht p (hH p hp)
      have e2 : it N G (t + 1) p = min G (nd (prs N (it N G t) p)) := rfl
      omega
    | succ n ih =>
      intro p hr hp e
      have m := met_shift (N := N) (e := it N G t a - c a - 1) (by omega) (R p hp)
      have m2 : Met (prs N (it N G t) p) (c p + (it N G t a - c a - 1)) := met_le ok (fun s hs => by
        show it N G t s.2 ≤ c s.2 + (if r s.2 < r p then 0 else 1) + (it N G t a - c a - 1)
        have le := hmax s.2 (cl p hp s hs)
        try dsimp only at le
        by_cases eq : it N G t s.2 - c s.2 = it N G t a - c a
        · have : ¬ r s.2 < r p := fun l => ih s.2 (by omega) (cl p hp s hs) eq
          rw [if_neg this]; omega
        · split <;> omega) m
      have := (nd_le (ok.pays _ _)).mpr m2
      have := ht p (hH p hp)
      have e2 : it N G (t + 1) p = min G (nd (prs N (it N G t) p)) := rfl
      omega
  exact key (r a) a (Nat.le_refl _) ha rfl
end WS
end
section
/-! Plain law, part 5: chains; the greatest number that is sure. -/
namespace WS
theorem nd_one {g p : Int} (hg : 0 ≤ g) (hp : 0 ≤ p ∧ p ≤ 9) : nd [(g, p)] = cdiv g (max 1 p) := by
  have hP : Pays [(g, p)] := fun q hq => by
    rcases List.mem_cons.mp hq with e | hq
    · subst e; exact hp
    · cases hq
  refine nd_eq ⟨?_, fun k o => ?_⟩
  · rcases (show p = 0 ∨ 1 ≤ p by omega) with z | z
    · subst z
      refine ⟨g, ⟨hg, fun q hq _ => ?_⟩, ?_⟩
      · rcases List.mem_cons.mp hq with e | hq
        · subst e; exact Int.le_refl _
        · cases hq
      · rw [tot_all fun q hq => by
          rcases List.mem_cons.mp hq with e | hq
          · subst e; exact Int.le_refl _
          · cases hq]
        rw [show max (1 : Int) 0 = 1 by decide]
        unfold cdiv
        omega
    · refine ⟨0, ⟨Int.le_refl _, fun q hq e0 => ?_⟩, ?_⟩
      · rcases List.mem_cons.mp hq with e | hq
        · subst e
          have : p = 0 := e0
          omega
        · cases hq
      · unfold tot
        rw [lays_cons, lays_nil]
        unfold lay
        show 0 + ((if g ≤ 0 then 0 else cdiv (g - 0) p) + 0) = _
        rw [show max 1 p = p by omega]
        by_cases c : g ≤ 0
        · rw [if_pos c, show g = 0 by omega, cdiv_zero]
          rfl
        · rw [if_neg c, Int.sub_zero]
          omega
  · have hk := o.1
    refine (cdiv_le (by omega)).mpr ?_
    have t : tot [(g, p)] k = k + lay k (g, p) := by
      unfold tot
      rw [lays_cons, lays_nil]
      omega
    rw [t]
    by_cases c : g ≤ k
    · have e : lay k (g, p) = 0 := if_pos c
      rw [e, Int.add_zero]
      have : k * 1 ≤ k * max 1 p := Int.mul_le_mul_of_nonneg_left (by omega) hk
      omega
    · have e : lay k (g, p) = cdiv (g - k) p := if_neg c
      have p0 : 0 < p := by
        rcases (show p = 0 ∨ 0 < p by omega) with z | z
        · exact absurd (o.2 _ List.mem_cons_self z) c
        · exact z
      rw [e, show max 1 p = p by omega, Int.add_mul]
      have l := le_cdiv (a := g - k) p0
      have : k * 1 ≤ k * p := Int.mul_le_mul_of_nonneg_left (by omega) hk
      omega
/-- the pays of a row of places, multiplied -/
def prodL : List Int → Int
  | [] => 1
  | p :: l => max 1 p * prodL l
theorem prodL_pos : ∀ l : List Int, 1 ≤ prodL l
  | [] => Int.le_refl _
  | p :: l => by
    have a := prodL_pos l
    show 1 ≤ max 1 p * prodL l
    have : 1 * 1 ≤ max 1 p * prodL l := Int.mul_le_mul (by omega) a (by omega) (by omega)
    omega
theorem due_eq : ∀ (l : List Int) (c : Int), l.foldl (fun d p => d * max 1 p) c = c * prodL l
  | [], c => by show c = c * 1; omega
  | p :: l, c => by
    show l.foldl _ (c * max 1 p) = c * (max 1 p * prodL l)
    rw [due_eq l, Int.mul_assoc]
structure Chain (N : Net) (qs : List Int) (q : Int) : Prop where
  len : N.length = qs.length + 1
  at_ : ∀ i p, qs[i]? = some p → st N i = [(p, i + 1)]
  last : st N qs.length = [(q, qs.length)]
  pays : ∀ p ∈ qs, 0 ≤ p ∧ p ≤ 9
  q01 : q = 0 ∨ q = 1
theorem Chain.out {N : Net} {qs : List Int} {q : Int} (C : Chain N qs q) {i : Nat} (h : N.length ≤ i) : st N i = [] := by
  unfold st
  rw [List.getD_eq_getElem?_getD, List.getElem?_eq_none h]
  rfl
theorem Chain.cases {N : Net} {qs : List Int} {q : Int} (C : Chain N qs q) (i : Nat) : (∃ p, qs[i]? = some p ∧ st N i = [(p, i + 1)]) ∨ (i = qs.length ∧ st N i = [(q, i)]) ∨ st N i = [] := by
  rcases (show i < qs.length ∨ i = qs.length ∨ N.length ≤ i by have := C.len; omega) with h | h | h
  · exact .inl ⟨_, List.getElem?_eq_getElem h, C.at_ i _ (List.getElem?_eq_getElem h)⟩
  · right; left
    refine ⟨h, ?_⟩
    have := C.last
    rw [← h] at this
    exact this
  · exact .inr (.inr (C.out h))
theorem Chain.ok {N : Net} {qs : List Int} {q : Int} (C : Chain N qs q) : NetOk N := by
  constructor
  · intro i s hs
    rcases C.cases i with ⟨p, hp, e⟩ | ⟨_, e⟩ | e <;> rw [e] at hs
    · rcases List.mem_cons.mp hs with z | hs
      · rw [z]; exact C.pays p (List.mem_of_getElem? hp)
      · cases hs
    · rcases List.mem_cons.mp hs with z | hs
      · rw [z]
        have := C.q01
        show 0 ≤ q ∧ q ≤ 9
        omega
      · cases hs
    · cases hs
  · intro i s hs
    have hl := C.len
    rcases C.cases i with ⟨p, hp, e⟩ | ⟨h, e⟩ | e <;> rw [e] at hs
    · rcases List.mem_cons.mp hs with z | hs
      · rw [z]
        have := (List.getElem?_eq_some_iff.mp hp).1
        show i + 1 < N.length
        omega
      · cases hs
    · rcases List.mem_cons.mp hs with z | hs
      · rw [z]
        show i < N.length
        omega
      · cases hs
    · cases hs
theorem drop_at {qs : List Int} {i : Nat} {p : Int} (h : qs[i]? = some p) : qs.drop i = p :: qs.drop (i + 1) := by
  obtain ⟨l, e⟩ := List.getElem?_eq_some_iff.mp h
  rw [← e]
  exact List.drop_eq_getElem_cons l
theorem Chain.step {N : Net} {qs : List Int} {q : Int} (C : Chain N qs q) {x : Nat → Int} (hx : ∀ p, 0 ≤ x p) {i : Nat} {p : Int} (h : qs[i]? = some p) : nd (prs N x i) = cdiv (x (i + 1)) (max 1 p) := by
  unfold prs
  rw [C.at_ i p h]
  exact nd_one (hx _) (C.pays p (List.mem_of_getElem? h))
theorem Chain.lst {N : Net} {qs : List Int} {q : Int} (C : Chain N qs q) {x : Nat → Int} (hx : ∀ p, 0 ≤ x p) : nd (prs N x qs.length) = x qs.length := by
  unfold prs
  rw [C.last]
  have e := nd_one (g := x qs.length) (p := q) (hx _) (by have := C.q01; omega)
  rw [show max 1 q = 1 by have := C.q01; omega] at e
  show nd [(x qs.length, q)] = _
  rw [e]
  unfold cdiv
  simp
theorem Chain.low {N : Net} {qs : List Int} {q : Int} (C : Chain N qs q) {G : Int} (h0 : 0 ≤ G) : ∀ (t i : Nat), i ≤ qs.length → G ≤ it N G t i * prodL (qs.drop i)
  | 0, i, _ => by
    have := prodL_pos (qs.drop i)
    have : G * 1 ≤ G * prodL (qs.drop i) := Int.mul_le_mul_of_nonneg_left this h0
    show G ≤ G * prodL (qs.drop i)
    omega
  | t + 1, i, hi => by
    have nn := it_nonneg C.ok h0 t
    have pp := prodL_pos (qs.drop i)
    have g1 : G ≤ G * prodL (qs.drop i) := by
      have : G * 1 ≤ G * prodL (qs.drop i) := Int.mul_le_mul_of_nonneg_left pp h0
      omega
    have g2 : G ≤ nd (prs N (it N G t) i) * prodL (qs.drop i) := by
      rcases (show i < qs.length ∨ i = qs.length by omega) with h | h
      · have hp := List.getElem?_eq_getElem h
        have ih := Chain.low C h0 t (i + 1) (by omega)
        rw [C.step nn hp, drop_at hp]
        show G ≤ cdiv (it N G t (i + 1)) (max 1 qs[i]) * (max 1 qs[i] * prodL (qs.drop (i + 1)))
        have l := le_cdiv (a := it N G t (i + 1)) (b := max 1 qs[i]) (by omega)
        have := prodL_pos (qs.drop (i + 1))
        have m : it N G t (i + 1) * prodL (qs.drop (i + 1)) ≤ cdiv (it N G t (i + 1)) (max 1 qs[i]) * max 1 qs[i] * prodL (qs.drop (i + 1)) := Int.mul_le_mul_of_nonneg_right l (by omega)
        rw [Int.mul_assoc] at m
        omega
      · subst h
        rw [C.lst nn]
        exact Chain.low C h0 t qs.length (Nat.le_refl _)
    show G ≤ min G (nd (prs N (it N G t) i)) * prodL (qs.drop i)
    rcases (show min G (nd (prs N (it N G t) i)) = G ∨ min G (nd (prs N (it N G t) i)) = nd (prs N (it N G t) i) by omega) with e | e <;> rw [e]
    · exact g1
    · exact g2
theorem Chain.high {N : Net} {qs : List Int} {q : Int} (C : Chain N qs q) {G : Int} (h0 : 0 ≤ G) : ∀ (k i : Nat) (c : Int), i + k = qs.length → G ≤ c * prodL (qs.drop i) → it N G k i ≤ c
  | 0, i, c, e, h => by
    rw [show i = qs.length by omega, List.drop_length] at h
    show G ≤ c
    have : c * prodL [] = c := Int.mul_one c
    omega
  | k + 1, i, c, e, h => by
    have hi : i < qs.length := by omega
    have hp := List.getElem?_eq_getElem hi
    rw [drop_at hp] at h
    have h' : G ≤ c * max 1 qs[i] * prodL (qs.drop (i + 1)) := by
      rw [Int.mul_assoc]
      exact h
    have ih := Chain.high C h0 k (i + 1) (c * max 1 qs[i]) (by omega) h'
    have : nd (prs N (it N G k) i) ≤ c := by
      rw [C.step (it_nonneg C.ok h0 k) hp]
      exact (cdiv_le (by omega)).mpr ih
    show min G (nd (prs N (it N G k) i)) ≤ c
    omega
/-- what is sure along a chain -/
theorem Chain.sure {N : Net} {qs : List Int} {q : Int} (C : Chain N qs q) {G c : Int} (h0 : 0 ≤ G) (hc : 0 ≤ c) : Sure N 0 c G ↔ G ≤ c * prodL qs := by
  constructor
  · rintro ⟨t, ht⟩
    have l := C.low h0 t 0 (Nat.zero_le _)
    rw [List.drop_zero] at l
    have := prodL_pos qs
    have : it N G t 0 * prodL qs ≤ c * prodL qs := Int.mul_le_mul_of_nonneg_right ht (by omega)
    omega
  · intro h
    exact ⟨qs.length, C.high h0 qs.length 0 c (by omega) (by rw [List.drop_zero]; exact h)⟩
/-- no place of a chain is hopeful -/
theorem Chain.hope {N : Net} {qs : List Int} {q : Int} (C : Chain N qs q) : hope N = [] := by
  have hl : ∀ k i, i + k = qs.length → Reach N i qs.length := by
    intro k
    induction k with
    | zero =>
      intro i e
      rw [show i = qs.length by omega]
      exact .self
    | succ k ih =>
      intro i e
      have hi : i < qs.length := by omega
      have hp := List.getElem?_eq_getElem hi
      exact Reach.first (s := (qs[i], i + 1)) (by rw [C.at_ i _ hp]; exact List.mem_cons_self) (ih (i + 1) (by omega))
  have hf : qs.length ∈ full N := by
    unfold full
    refine full_in C.ok (S := [qs.length]) (fun p hp => ?_) _ _ (fun p hp => ?_) _ List.mem_cons_self
    · rcases List.mem_cons.mp hp with e | hp
      · subst e
        unfold wb
        rw [C.last]
        rcases C.q01 with z | z <;> rw [z] <;> simp [weight]
      · cases hp
    · rcases List.mem_cons.mp hp with e | hp
      · subst e
        have := C.len
        exact List.mem_range.mpr (by omega)
      · cases hp
  cases e : WS.hope N with
  | nil => rfl
  | cons p l =>
    have hp : p ∈ WS.hope N := by rw [e]; exact List.mem_cons_self
    have h := mem_hope.mp hp
    have := C.len
    exact absurd hf (h.2 _ (hl (qs.length - p) p (by omega)))
/-! ### the greatest number that is sure -/
structure Peak (N : Net) (p : Nat) (c g : Int) : Prop where
  lo : c ≤ g
  hi : g ≤ 1000
  yes : Sure N p c g
  no : ¬ Sure N p c (g + 1)
theorem Peak.iff {N : Net} (ok : NetOk N) {p : Nat} {c g : Int} (P : Peak N p c g) (G : Int) : Sure N p c G ↔ G ≤ g := by
  constructor
  · intro s
    rcases Int.lt_or_le g G with z | z
    · exact absurd (s.goal ok (G := g + 1) (by omega)) P.no
    · exact z
  · exact fun h => P.yes.goal ok h
end WS
end
section
/-! Plain law, part 6: what the program reckons of pairs, as plain functions. -/
namespace WS
def topOf : List Int → Int
  | [] => 0
  | a :: l => max a (topOf l)
theorem topOf_nonneg : ∀ l, 0 ≤ topOf l
  | [] => Int.le_refl _
  | a :: l => by
    have := topOf_nonneg l
    show 0 ≤ max a (topOf l)
    omega
theorem topOf_ge : ∀ {l : List Int} {y : Int}, y ∈ l → y ≤ topOf l
  | a :: l, y, h => by
    show y ≤ max a (topOf l)
    rcases List.mem_cons.mp h with e | h
    · omega
    · have := topOf_ge h
      omega
theorem topOf_mem : ∀ l : List Int, topOf l ∈ 0 :: l
  | [] => List.mem_singleton.mpr rfl
  | a :: l => by
    have ih := topOf_mem l
    show max a (topOf l) ∈ _
    by_cases c : a ≤ topOf l
    · rw [Int.max_eq_right c]
      rcases List.mem_cons.mp ih with e | h
      · rw [e]; exact List.mem_cons_self
      · exact List.mem_cons_of_mem _ (List.mem_cons_of_mem _ h)
    · rw [Int.max_eq_left (by omega)]
      exact List.mem_cons_of_mem _ List.mem_cons_self
/-- the least that can be kept -/
def keepM (ps : Prs) : Int := topOf ((ps.filter fun q => decide (q.2 = 0)).map (·.1))
theorem keepM_is (ps : Prs) : Keeps ps (keepM ps) := by
  refine ⟨⟨topOf_nonneg _, fun q hq h0 => topOf_ge (List.mem_map.mpr ⟨q, List.mem_filter.mpr ⟨hq, decide_eq_true h0⟩, rfl⟩)⟩, fun k hk => ?_⟩
  rcases List.mem_cons.mp (topOf_mem ((ps.filter fun q : Int × Int => decide (q.2 = 0)).map fun q : Int × Int => q.1)) with e | h
  · unfold keepM
    rw [e]
    exact hk.1
  · obtain ⟨q, hq, e⟩ := List.mem_map.mp h
    have h2 := List.mem_filter.mp hq
    unfold keepM
    rw [← e]
    exact hk.2 q h2.1 (of_decide_eq_true h2.2)
/-- the numbers that the turning point is looked for among -/
def marks (ps : Prs) : List Int := keepM ps :: (ps.filter fun q => decide (keepM ps < q.1)).map (·.1)
theorem wts_filter (k : Int) : ∀ ps : Prs, ((ps.filter fun q => decide (k < q.1)).map fun q => 2520 / q.2).sum = wts k ps
  | [] => rfl
  | q :: ps => by
    rw [wts_cons, ← wts_filter k ps]
    unfold wt
    by_cases c : k < q.1
    · rw [List.filter_cons_of_pos (by simpa using c), List.map_cons, List.sum_cons, if_neg (by omega)]
    · rw [List.filter_cons_of_neg (by simpa using c), if_pos (by omega), Int.zero_add]
theorem parts_filter (k : Int) : ∀ ps : Prs, ((ps.filter fun q => decide (k < q.1)).map fun q => (q.1 - k) * (2520 / q.2)).sum = parts k ps
  | [] => rfl
  | q :: ps => by
    rw [parts_cons, ← parts_filter k ps]
    unfold part
    by_cases c : k < q.1
    · rw [List.filter_cons_of_pos (by simpa using c), List.map_cons, List.sum_cons, if_neg (by omega)]
    · rw [List.filter_cons_of_neg (by simpa using c), if_pos (by omega), Int.zero_add]
theorem parts_nonneg {k : Int} : ∀ {ps : Prs}, Pays ps → 0 ≤ parts k ps
  | [], _ => Int.le_refl _
  | q :: ps, h => by
    have ih := parts_nonneg (k := k) (ps := ps) fun q hq => h q (List.mem_cons_of_mem _ hq)
    rw [parts_cons]
    have hq := h q List.mem_cons_self
    have : 0 ≤ part k q := by
      unfold part
      by_cases c : q.1 ≤ k
      · rw [if_pos c]; exact Int.le_refl _
      · rw [if_neg c]
        exact Int.mul_nonneg (by omega) (Int.ediv_nonneg (by omega) hq.1)
    omega
/-- the turning point, as it is found in an ascending list of the marks -/
def turnIn (l : List Int) (ps : Prs) : Int := (l.find? fun k => decide (wts k ps ≤ 2520)).getD (keepM ps)
theorem turnIn_is {ps : Prs} (hp : Pays ps) {l : List Int} (p : l.Perm (marks ps)) (s : l.Pairwise (· ≤ ·)) : ∃ t, l.find? (fun k => decide (wts k ps ≤ 2520)) = some t ∧ Turns ps (keepM ps) t := by
  have hk := keepM_is ps
  have mem : ∀ x, x ∈ l ↔ x ∈ marks ps := fun x => p.mem_iff
  cases l with
  | nil => exact absurd (p.symm.subset List.mem_cons_self) List.not_mem_nil
  | cons c l =>
    have ge : ∀ x ∈ c :: l, keepM ps ≤ x := fun x hx => by
      rcases List.mem_cons.mp ((mem x).mp hx) with e | h
      · omega
      · obtain ⟨q, hq, e⟩ := List.mem_map.mp h
        have := of_decide_eq_true (List.mem_filter.mp hq).2
        omega
    have le : c ≤ keepM ps := by
      have hm : keepM ps ∈ c :: l := (mem _).mpr List.mem_cons_self
      rcases List.mem_cons.mp hm with e | h
      · omega
      · exact (List.pairwise_cons.mp s).1 _ h
    refine turn_find hp (fun q hq => hk.okk.2 q hq) l c (ge c List.mem_cons_self) s (fun q hq => ?_) fun k h1 h2 => by omega
    by_cases g : keepM ps < q.1
    · have hm : q.1 ∈ c :: l := (mem _).mpr (List.mem_cons_of_mem _ (List.mem_map.mpr ⟨q, List.mem_filter.mpr ⟨hq, decide_eq_true g⟩, rfl⟩))
      rcases List.mem_cons.mp hm with e | h
      · exact .inl (by omega)
      · exact .inr h
    · have := ge c List.mem_cons_self
      exact .inl (by omega)
theorem Turns.uniq {ps : Prs} {m t u : Int} (a : Turns ps m t) (b : Turns ps m u) : t = u := by
  rcases Int.lt_trichotomy t u with h | h | h
  · have := b.ahead t a.ge h
    have := a.at_
    omega
  · exact h
  · have := a.ahead u b.ge h
    have := b.at_
    omega
open Classical in
/-- the turning point -/
noncomputable def turnOf (ps : Prs) : Int := if h : ∃ t, Turns ps (keepM ps) t then Classical.choose h else 0
theorem turnOf_eq {ps : Prs} {t : Int} (h : Turns ps (keepM ps) t) : turnOf ps = t := by
  unfold turnOf
  rw [dif_pos ⟨t, h⟩]
  exact (Classical.choose_spec (p := fun t => Turns ps (keepM ps) t) ⟨t, h⟩).uniq h
def mstep (L : Nat) (q : Int × Int) : Nat := if 0 < q.2 then L / Nat.gcd L q.2.toNat * q.2.toNat else L
def multOf (ps : Prs) : Nat := ps.foldl mstep 1
theorem mstep_pos {L : Nat} {q : Int × Int} (h : 0 < L) : 0 < mstep L q := by
  unfold mstep
  split
  · rename_i c
    have h1 : 0 < q.2.toNat := by omega
    have h2 : Nat.gcd L q.2.toNat ≤ L := Nat.gcd_le_left _ h
    exact Nat.mul_pos (Nat.div_pos h2 (Nat.gcd_pos_of_pos_left _ h)) h1
  · exact h
theorem mstep_dvd {L : Nat} {q : Int × Int} : L ∣ mstep L q := by
  unfold mstep
  split
  · have h1 : Nat.gcd L q.2.toNat ∣ L := Nat.gcd_dvd_left _ _
    obtain ⟨d, hd⟩ := Nat.gcd_dvd_right L q.2.toNat
    refine ⟨d, ?_⟩
    have e : L / Nat.gcd L q.2.toNat * (Nat.gcd L q.2.toNat * d) = L * d := by rw [← Nat.mul_assoc, Nat.div_mul_cancel h1]
    rw [← hd] at e
    exact e
  · exact Nat.dvd_refl _
theorem mstep_pay {L : Nat} {q : Int × Int} (h : 0 < q.2) : q.2.toNat ∣ mstep L q := by
  unfold mstep
  rw [if_pos h]
  exact Nat.dvd_mul_left _ _
theorem mstep_le {L : Nat} {q : Int × Int} (h : q.2 ≤ 9) : mstep L q ≤ L * 9 := by
  unfold mstep
  split
  · exact Nat.mul_le_mul (Nat.div_le_self _ _) (by omega)
  · omega
theorem mult_fold : ∀ (ps : Prs) (L : Nat), 0 < L → 0 < ps.foldl mstep L ∧ L ∣ ps.foldl mstep L ∧ ∀ q ∈ ps, 0 < q.2 → q.2.toNat ∣ ps.foldl mstep L
  | [], L, h => ⟨h, Nat.dvd_refl _, fun q hq => by cases hq⟩
  | q :: ps, L, h => by
    obtain ⟨h1, h2, h3⟩ := mult_fold ps (mstep L q) (mstep_pos h)
    refine ⟨h1, Nat.dvd_trans mstep_dvd h2, fun r hr h0 => ?_⟩
    rcases List.mem_cons.mp hr with e | hr
    · rw [e] at h0 ⊢
      exact Nat.dvd_trans (mstep_pay h0) h2
    · exact h3 r hr h0
theorem mult_small : ∀ (ps : Prs) (L : Nat), Pays ps → ps.foldl mstep L ≤ L * 9 ^ ps.length
  | [], L, _ => by show L ≤ L * 9 ^ 0; omega
  | q :: ps, L, h => by
    refine Nat.le_trans (mult_small ps (mstep L q) fun q hq => h q (List.mem_cons_of_mem _ hq)) ?_
    rw [List.length_cons, Nat.pow_succ, Nat.mul_comm (9 ^ ps.length), ← Nat.mul_assoc]
    exact Nat.mul_le_mul_right _ (mstep_le (h q List.mem_cons_self).2)
theorem multOf_is (ps : Prs) : Mult ps (multOf ps : Nat) := by
  obtain ⟨h1, h2, h3⟩ := mult_fold ps 1 (by decide)
  refine ⟨by unfold multOf; omega, fun q hq h0 => ?_⟩
  have hd := h3 q hq h0
  have e : q.2 = ((q.2.toNat : Nat) : Int) := by omega
  have : (q.2 : Int) ∣ ((multOf ps : Nat) : Int) := by
    rw [e]
    exact Int.natCast_dvd_natCast.mpr hd
  exact Int.ediv_mul_cancel this
theorem nd_told {ps : Prs} (h : Pays ps) : nd (told ps) = nd ps := nd_eq (need_told.mpr (nd_is h))
theorem told_len (ps : Prs) : (told ps).length ≤ ps.length := List.length_filter_le _ _
end WS
end
section
/-! Plain law, part 7: raised coins, what stays, the least coins. -/
namespace WS
def raise (c : Nat → Int) (T : List Nat) (m : Int) (p : Nat) : Int := c p + if p ∈ T then m else 0
theorem raise_in {c : Nat → Int} {T : List Nat} {m : Int} {p : Nat} (h : p ∈ T) : raise c T m p = c p + m := by
  unfold raise
  rw [if_pos h]
theorem raise_out {c : Nat → Int} {T : List Nat} {m : Int} {p : Nat} (h : p ∉ T) : raise c T m p = c p := by
  unfold raise
  rw [if_neg h]
  omega
def Stays (N : Net) (H : List Nat) (c : Nat → Int) (T : List Nat) (m : Int) : Prop := ∀ p ∈ T, ¬ Gain N H (raise c T m) p
/-- below each table -/
structure Low (N : Net) (H : List Nat) (c : Nat → Int) : Prop where
  nn : ∀ p ∈ H, 0 ≤ c p
  le : ∀ b, Tab N H b → ∀ p ∈ H, c p ≤ b p
theorem stay_below {N : Net} (ok : NetOk N) {H : List Nat} (cl : ∀ p ∈ H, ∀ s ∈ st N p, s.2 ∈ H) {c : Nat → Int} (L : Low N H c) {T : List Nat} (hT : ∀ p ∈ T, p ∈ H) {m : Int} (S : Stays N H c T m) {b : Nat → Int} (hb : Tab N H b) : ∀ p ∈ T, c p + m < b p := fun p hp => by
  have := below ok cl (c := raise c T m) hb (fun q hq g => by
    have : q ∉ T := fun z => S q z g
    rw [raise_out this]
    exact L.le b hb q hq) p (hT p hp) (S p hp)
  rwa [raise_in hp] at this
theorem low_next {N : Net} (ok : NetOk N) {H : List Nat} (cl : ∀ p ∈ H, ∀ s ∈ st N p, s.2 ∈ H) {c : Nat → Int} (L : Low N H c) {T : List Nat} (hT : ∀ p ∈ T, p ∈ H) {m : Int} (h0 : 0 ≤ m) (S : Stays N H c T m) : Low N H (raise c T (m + 1)) := by
  refine ⟨fun p hp => ?_, fun b hb p hp => ?_⟩
  · have := L.nn p hp
    unfold raise
    split <;> omega
  · by_cases t : p ∈ T
    · have := stay_below ok cl L hT S hb p t
      rw [raise_in t]
      omega
    · rw [raise_out t]
      exact L.le b hb p hp
/-- what is left to a table -/
def gap (H : List Nat) (d c : Nat → Int) : Nat := (H.map fun p => (d p - c p).toNat).sum
theorem gap_le {d c c' : Nat → Int} : ∀ {H : List Nat}, (∀ p ∈ H, c p ≤ c' p) → gap H d c' ≤ gap H d c
  | [], _ => Nat.le_refl _
  | p :: H, h => by
    have a := gap_le (H := H) (d := d) fun q hq => h q (List.mem_cons_of_mem _ hq)
    have b := h p List.mem_cons_self
    show (d p - c' p).toNat + gap H d c' ≤ (d p - c p).toNat + gap H d c
    omega
theorem gap_less {d c c' : Nat → Int} : ∀ {H : List Nat} {p : Nat}, (∀ p ∈ H, c p ≤ c' p) → p ∈ H → c p < c' p → c' p ≤ d p → gap H d c' < gap H d c
  | [], _, _, h, _, _ => absurd h List.not_mem_nil
  | q :: H, p, h, hp, h1, h2 => by
    show (d q - c' q).toNat + gap H d c' < (d q - c q).toNat + gap H d c
    have b := h q List.mem_cons_self
    rcases List.mem_cons.mp hp with e | hp
    · have a := gap_le (H := H) (d := d) fun r hr => h r (List.mem_cons_of_mem _ hr)
      rw [e] at h1 h2
      omega
    · have a := gap_less (H := H) (d := d) (fun r hr => h r (List.mem_cons_of_mem _ hr)) hp h1 h2
      omega
open Classical in
/-- the least table -/
noncomputable def leastC (N : Net) : Nat → Int := if h : ∃ c, Least N (hope N) c then Classical.choose h else fun _ => 0
theorem leastC_eq {N : Net} {c : Nat → Int} (h : Least N (hope N) c) : ∀ p ∈ hope N, leastC N p = c p := fun p hp => by
  unfold leastC
  rw [dif_pos ⟨c, h⟩]
  exact (Classical.choose_spec (p := fun c => Least N (hope N) c) ⟨c, h⟩).uniq h p hp
theorem leastC_is {N : Net} (h : ∃ c, Least N (hope N) c) : Least N (hope N) (leastC N) := by
  unfold leastC
  rw [dif_pos h]
  exact Classical.choose_spec h
open Classical in
/-- a state of the turns -/
theorem gst_next {N : Net} {H : List Nat} {c : Nat → Int} {t : Nat} {b : Nat → Bool} (hb : ∀ p, b p = true ↔ gst N H c t p) (p : Nat) : gst N H c (t + 1) p ↔ b p = true ∨ (p ∈ H ∧ Met (prs N (fun q => c q + if b q then 0 else 1) p) (c p)) := by
  have e : (fun q => c q + if gst N H c t q then (0 : Int) else 1) = fun q => c q + if b q then 0 else 1 := by
    funext q
    by_cases h : gst N H c t q
    · rw [if_pos h, if_pos ((hb q).mpr h)]
    · rw [if_neg h, if_neg fun z => h ((hb q).mp z)]
  show gst N H c t p ∨ (p ∈ H ∧ Met (prs N (fun q => c q + if gst N H c t q then (0 : Int) else 1) p) (c p)) ↔ _
  rw [hb p]
  constructor
  · rintro (h | ⟨h1, h2⟩)
    · exact .inl h
    · refine .inr ⟨h1, ?_⟩
      rw [← e]
      exact h2
  · rintro (h | ⟨h1, h2⟩)
    · exact .inl h
    · refine .inr ⟨h1, ?_⟩
      rw [← e] at h2
      exact h2
open Classical in
theorem gain_congr {N : Net} (ok : NetOk N) {H : List Nat} (cl : ∀ p ∈ H, ∀ s ∈ st N p, s.2 ∈ H) {c c' : Nat → Int} (h : ∀ p ∈ H, c p = c' p) (p : Nat) : Gain N H c p ↔ Gain N H c' p := by
  have key : ∀ {c c' : Nat → Int}, (∀ p ∈ H, c p = c' p) → ∀ t p, gst N H c t p → gst N H c' t p := fun {c c'} h t => by
    induction t with
    | zero => exact fun p g => g.elim
    | succ t ih =>
      intro p g
      rcases g with g | ⟨h1, h2⟩
      · exact .inl (ih p g)
      · refine .inr ⟨h1, ?_⟩
        rw [← h p h1]
        refine met_le ok (fun s hs => ?_) h2
        have hs' := cl p h1 s hs
        rw [← h _ hs']
        by_cases g : gst N H c t s.2
        · rw [if_pos g, if_pos (ih _ g)]
          exact Int.le_refl _
        · rw [if_neg g]
          split <;> omega
  exact ⟨fun ⟨t, g⟩ => ⟨t, key h t p g⟩, fun ⟨t, g⟩ => ⟨t, key (fun p hp => (h p hp).symm) t p g⟩⟩
theorem tab_congr {N : Net} (ok : NetOk N) {H : List Nat} (cl : ∀ p ∈ H, ∀ s ∈ st N p, s.2 ∈ H) {c c' : Nat → Int} (h : ∀ p ∈ H, c p = c' p) (T : Tab N H c) : Tab N H c' := fun p hp => (gain_congr ok cl h p).mp (T p hp)
end WS
end
section
/-! Plain law, part 8: arrows and their net; the coins by looking at all numbers. -/
namespace WS
structure Arr where
  place : Nat
  letter : Nat
  pay : Int
  goal : Nat
def outs (A : List Arr) (p : Nat) : List Arr := A.filter fun a => decide (a.place = p)
def netOf (n : Nat) (A : List Arr) : Net := (List.range n).map fun p => (outs A p).map fun a => (a.pay, a.goal)
theorem netOf_len (n : Nat) (A : List Arr) : (netOf n A).length = n := by unfold netOf; rw [List.length_map, List.length_range]
theorem st_netOf {n : Nat} {A : List Arr} {p : Nat} (h : p < n) : st (netOf n A) p = (outs A p).map fun a => (a.pay, a.goal) := by
  unfold st netOf
  rw [List.getD_eq_getElem?_getD, List.getElem?_map, List.getElem?_range h]
  rfl
theorem st_out {n : Nat} {A : List Arr} {p : Nat} (h : n ≤ p) : st (netOf n A) p = [] := by
  unfold st
  rw [List.getD_eq_getElem?_getD, List.getElem?_eq_none (by rw [netOf_len]; exact h)]
  rfl
structure ArrOk (n : Nat) (A : List Arr) : Prop where
  pos : 0 < n
  few : n ≤ 12
  each : ∀ a ∈ A, a.place < n ∧ a.goal < n ∧ 0 ≤ a.pay ∧ a.pay ≤ 9
  some : ∀ p, p < n → outs A p ≠ []
  three : ∀ p, (outs A p).length ≤ 3
theorem ArrOk.net {n : Nat} {A : List Arr} (h : ArrOk n A) : NetOk (netOf n A) := by
  refine ⟨fun p s hs => ?_, fun p s hs => ?_⟩
  all_goals
    by_cases l : p < n
    · rw [st_netOf l] at hs
      obtain ⟨a, ha, rfl⟩ := List.mem_map.mp hs
      have := h.each a (List.mem_filter.mp ha).1
      first
        | exact ⟨this.2.2.1, this.2.2.2⟩
        | (rw [netOf_len]; exact this.2.1)
    · rw [st_out (by omega)] at hs
      cases hs
theorem ArrOk.st3 {n : Nat} {A : List Arr} (h : ArrOk n A) (p : Nat) : (st (netOf n A) p).length ≤ 3 := by
  by_cases l : p < n
  · rw [st_netOf l, List.length_map]
    exact h.three p
  · rw [st_out (by omega)]
    simp
theorem ArrOk.ne {n : Nat} {A : List Arr} (h : ArrOk n A) {p : Nat} (l : p < n) : st (netOf n A) p ≠ [] := by
  rw [st_netOf l]
  intro e
  exact h.some p l (List.map_eq_nil_iff.mp e)
theorem lays_pos {k : Int} : ∀ {ps : Prs}, (∀ q ∈ ps, 0 ≤ q.2) → (∀ q ∈ ps, q.2 = 0 → q.1 ≤ k) → ((ps.filter fun q => decide (0 < q.2)).map fun q => cdiv (max 0 (q.1 - k)) q.2).sum = lays k ps
  | [], _, _ => rfl
  | q :: ps, hp, h => by
    have ih := lays_pos (k := k) (ps := ps) (fun q hq => hp q (List.mem_cons_of_mem _ hq)) fun q hq => h q (List.mem_cons_of_mem _ hq)
    rw [lays_cons, ← ih]
    by_cases c : 0 < q.2
    · rw [List.filter_cons_of_pos (by simpa using c), List.map_cons, List.sum_cons]
      congr 1
      unfold lay
      by_cases g : q.1 ≤ k
      · rw [if_pos g, Int.max_eq_left (by omega), cdiv_zero]
      · rw [if_neg g, Int.max_eq_right (by omega)]
    · rw [List.filter_cons_of_neg (by simpa using c)]
      have h0 := hp q List.mem_cons_self
      have := h q List.mem_cons_self (by omega)
      unfold lay
      rw [if_pos this, Int.zero_add]
theorem okk_count {k : Int} (hk : 0 ≤ k) (ps : Prs) : (ps.filter fun q => decide (q.2 = 0) && decide (k < q.1)).length = 0 ↔ Okk ps k := by
  rw [List.length_eq_zero_iff, List.filter_eq_nil_iff]
  constructor
  · intro h
    refine ⟨hk, fun q hq h0 => ?_⟩
    have := h q hq
    rw [Bool.and_eq_true, decide_eq_true_iff, decide_eq_true_iff] at this
    omega
  · intro h q hq
    rw [Bool.and_eq_true, decide_eq_true_iff, decide_eq_true_iff]
    intro ⟨h0, h1⟩
    have := h.2 q hq h0
    omega
/-- the best of the numbers below k, and of keeping most -/
structure Best (ps : Prs) (m : Int) (k : Nat) (b : Int) : Prop where
  at_ : ∃ k', Okk ps k' ∧ tot ps k' = b
  top : b ≤ m
  le : ∀ k' : Nat, k' < k → Okk ps (k' : Int) → b ≤ tot ps (k' : Int)
theorem Best.need {ps : Prs} (hp : Pays ps) {m : Int} {k : Nat} {b : Int} (B : Best ps m k b) (hm : m ≤ (k : Int)) : IsNeed ps b := by
  refine ⟨B.at_, fun j hj => ?_⟩
  by_cases l : j < (k : Int)
  · have e : j = ((j.toNat : Nat) : Int) := by have := hj.1; omega
    rw [e] at hj ⊢
    exact B.le _ (by omega) hj
  · have := tot_ge hp hj
    have := B.top
    omega
end WS
end
section
/-! A layer over the hand layer: what stands (P) within what is (H); values told by what they stand for; readings by these. -/
namespace Y
open PySem PySem.Spec L2

/-! ### what stands -/
def Ex (P H : Hp) : Prop := ∀ a o, P a = some o → H a = some o
theorem Ex.refl (P : Hp) : Ex P P := fun _ _ e => e
theorem Ex.trans {P Q R : Hp} (a : Ex P Q) (b : Ex Q R) : Ex P R := fun c o e => b c o (a c o e)
/-- a dict may be locked -/
def Sim (o o' : HO) : Prop := o = o' ∨ ∃ od kvs, o = .dK kvs ∧ o' = .frz od (.dK kvs)
def Le (P H : Hp) : Prop := ∀ a o, P a = some o → ∃ o', H a = some o' ∧ Sim o o'
theorem Ex.le {P H : Hp} (e : Ex P H) : Le P H := fun a o h => ⟨o, e a o h, .inl rfl⟩
theorem Le.refl (P : Hp) : Le P P := (Ex.refl P).le
theorem Le.trans {P Q R : Hp} (a : Le P Q) (b : Le Q R) : Le P R := fun c o e => by
  obtain ⟨o1, h1, s1⟩ := a c o e
  obtain ⟨o2, h2, s2⟩ := b c o1 h1
  refine ⟨o2, h2, ?_⟩
  rcases s1 with rfl | ⟨od, kvs, rfl, rfl⟩
  · exact s2
  · rcases s2 with rfl | ⟨od', kvs', e1, _⟩
    · exact .inr ⟨od, kvs, rfl, rfl⟩
    · cases e1
theorem Le.lst {P H : Hp} (l : Le P H) {a : Addr} {xs : List V} (h : P a = some (.lst xs)) : H a = some (.lst xs) := by
  obtain ⟨o, ho, s⟩ := l a _ h
  rcases s with rfl | ⟨_, _, e, _⟩
  · exact ho
  · cases e
theorem Le.tup {P H : Hp} (l : Le P H) {a : Addr} {xs : List V} (h : P a = some (.tup xs)) : H a = some (.tup xs) := by
  obtain ⟨o, ho, s⟩ := l a _ h
  rcases s with rfl | ⟨_, _, e, _⟩
  · exact ho
  · cases e
theorem Le.ins {P H : Hp} (l : Le P H) {a C dx : Addr} {fs : List (Str × V)} (h : P a = some (.ins C dx fs)) : H a = some (.ins C dx fs) := by
  obtain ⟨o, ho, s⟩ := l a _ h
  rcases s with rfl | ⟨_, _, e, _⟩
  · exact ho
  · cases e
theorem Le.dK {P H : Hp} (l : Le P H) {a : Addr} {kvs : List (Key × V)} (h : Rd P a (.dK kvs)) : Rd H a (.dK kvs) := by
  rcases h with h | ⟨od, h⟩
  · obtain ⟨o, ho, s⟩ := l a _ h
    rcases s with rfl | ⟨od, kvs', e, rfl⟩
    · exact .inl ho
    · cases e
      exact .inr ⟨od, ho⟩
  · obtain ⟨o, ho, s⟩ := l a _ h
    rcases s with rfl | ⟨_, _, e, _⟩
    · exact .inr ⟨od, ho⟩
    · cases e
theorem Le.some {P H : Hp} (l : Le P H) {a : Addr} (h : H a = none) : P a = none := by
  cases e : P a with
  | none => rfl
  | some o =>
    obtain ⟨o', h', _⟩ := l a o e
    rw [h] at h'
    cases h'

/-! ### what a value stands for -/
structure RP where
  r : V → Hp → Prop
  up : ∀ {v : V} {P H : Hp}, Le P H → r v P → r v H
abbrev Reps (Rs : List RP) (xs : List V) (H : Hp) : Prop := Paired (fun (R : RP) v => R.r v H) Rs xs
theorem reps_up {P H : Hp} (l : Le P H) : ∀ {Rs : List RP} {xs : List V}, Reps Rs xs P → Reps Rs xs H
  | _, _, .nil => .nil
  | _, _, .cons h t => .cons (RP.up _ l h) (reps_up l t)
theorem reps_get {H : Hp} : ∀ {Rs : List RP} {xs : List V} {i : Nat} {R : RP}, Reps Rs xs H → Rs[i]? = some R → ∃ v, xs[i]? = some v ∧ R.r v H
  | _, _, 0, _, .cons h t, e => by
    cases (Option.some.inj e)
    exact ⟨_, rfl, h⟩
  | _, _, i + 1, _, .cons h t, e => reps_get (i := i) t e
  | _, _, _, _, .nil, e => by simp at e
def valR (x : V) : RP := ⟨fun v _ => v = x, fun _ h => h⟩
abbrev intR (i : Int) : RP := valR (.int i)
abbrev blR (b : Bool) : RP := valR (.bl b)
abbrev nonR : RP := valR .non
def anyR : RP := ⟨fun _ _ => True, fun _ h => h⟩
def lstR (Rs : List RP) : RP := ⟨fun v P => ∃ p xs, v = .ref p ∧ P p = some (.lst xs) ∧ Reps Rs xs P, fun l ⟨p, xs, e, h, r⟩ => ⟨p, xs, e, l.lst h, reps_up l r⟩⟩
def tupR (Rs : List RP) : RP := ⟨fun v P => ∃ p xs, v = .ref p ∧ P p = some (.tup xs) ∧ Reps Rs xs P, fun l ⟨p, xs, e, h, r⟩ => ⟨p, xs, e, l.tup h, reps_up l r⟩⟩
def dctR (kvs : List (Key × V)) : RP := ⟨fun v P => ∃ d, v = .ref d ∧ Rd P d (.dK kvs), fun l ⟨d, e, h⟩ => ⟨d, e, l.dK h⟩⟩
/-- an instance of the class at C; what its fields stand for -/
def insR (C : Addr) (fs : List (Str × RP)) : RP :=
  ⟨fun v P => ∃ a dx gs, v = .ref a ∧ P a = some (.ins C dx gs) ∧ ∀ f R, (f, R) ∈ fs → ∃ x, gs.lookup f = some x ∧ R.r x P,
   fun l ⟨a, dx, gs, e, h, k⟩ => ⟨a, dx, gs, e, l.ins h, fun f R m => by
     obtain ⟨x, hx, r⟩ := k f R m
     exact ⟨x, hx, R.up l r⟩⟩⟩
/-- one of these -/
def exR {α : Type} (f : α → RP) : RP := ⟨fun v P => ∃ a, (f a).r v P, fun l ⟨a, h⟩ => ⟨a, (f a).up l h⟩⟩
theorem reps_ints {H : Hp} : ∀ {ns : List Int} {xs : List V}, Reps (ns.map fun n => intR n) xs H → xs = ns.map V.int
  | [], _, .nil => rfl
  | n :: ns, _, .cons h t => by
    have e := reps_ints t
    have h' : _ = V.int n := h
    rw [h', e]
    rfl
theorem reps_bls {H : Hp} : ∀ {ns : List Bool} {xs : List V}, Reps (ns.map fun n => blR n) xs H → xs = ns.map V.bl
  | [], _, .nil => rfl
  | n :: ns, _, .cons h t => by
    have e := reps_bls t
    have h' : _ = V.bl n := h
    rw [h', e]
    rfl
theorem ints_reps {H : Hp} : ∀ ns : List Int, Reps (ns.map fun n => intR n) (ns.map V.int) H
  | [] => .nil
  | _ :: ns => .cons rfl (ints_reps ns)
theorem reps_app {H : Hp} : ∀ {Rs Ss : List RP} {xs ys : List V}, Reps Rs xs H → Reps Ss ys H → Reps (Rs ++ Ss) (xs ++ ys) H
  | _, _, _, _, .nil, t => t
  | _, _, _, _, .cons h r, t => .cons h (reps_app r t)

/-! ### the law's own changing things: Z where they stand, J what holds of them -/
structure Wd where
  Z : Addr → Prop
  J : Hp → Prop
  loc : ∀ {H H' : Hp}, (∀ a, Z a → H' a = H a) → J H → J H'
def W0 : Wd := ⟨fun _ => False, fun _ => True, fun _ _ => trivial⟩
/-- from (P, H) to (P', H'): what stood stands; what is new in P' is new -/
structure Stp (W : Wd) (P H P' H' : Hp) : Prop where
  ex : Ex P P'
  le : Le P' H'
  nw : ∀ a, H a ≠ none → P' a ≠ none → P a ≠ none
  kp : ∀ a o, ¬ W.Z a → H a = some o → H' a = some o
  dm : ∀ a, H a ≠ none → H' a ≠ none
  j : W.J H → W.J H'
theorem Stp.refl {W : Wd} {P H : Hp} (l : Le P H) : Stp W P H P H := ⟨Ex.refl P, l, fun _ _ h => h, fun _ _ _ e => e, fun _ h => h, fun h => h⟩
theorem Stp.trans {W : Wd} {P H P' H' P2 H2 : Hp} (a : Stp W P H P' H') (b : Stp W P' H' P2 H2) : Stp W P H P2 H2 :=
  ⟨a.ex.trans b.ex, b.le, fun c h h2 => a.nw c h (b.nw c (a.dm c h) h2), fun c o z e => b.kp c o z (a.kp c o z e), fun c h => b.dm c (a.dm c h), fun h => b.j (a.j h)⟩
/-- where nothing changes but by growing -/
theorem Stp.w {W : Wd} {P H P' H' : Hp} (s : Stp W0 P H P' H') (z : ∀ a, W.Z a → H a ≠ none) : Stp W P H P' H' :=
  ⟨s.ex, s.le, s.nw, fun a o _ e => s.kp a o (fun h => h) e, s.dm, W.loc fun a h => by
    cases e : H a with
    | none => exact absurd e (z a h)
    | some o => exact s.kp a o (fun h => h) e⟩

/-! ### changing things of the def's own -/
inductive Mo where
  | lst (Rs : List RP) | dct (kvs : List (Key × V)) | ins (C dx : Addr) (fs : List (Str × V))
def Mo.at (m : Mo) (p : Addr) (P H : Hp) : Prop := match m with
  | .lst Rs => ∃ xs, H p = some (.lst xs) ∧ Reps Rs xs P
  | .dct kvs => H p = some (.dK kvs)
  | .ins C dx fs => H p = some (.ins C dx fs)
theorem Mo.at_ne {m : Mo} {p : Addr} {P H : Hp} (h : m.at p P H) : H p ≠ none := by
  cases m with
  | lst Rs =>
    obtain ⟨xs, e, _⟩ := h
    rw [e]
    exact fun z => by cases z
  | dct kvs =>
    have e : H p = _ := h
    rw [e]
    exact fun z => by cases z
  | ins C dx fs =>
    have e : H p = _ := h
    rw [e]
    exact fun z => by cases z
abbrev Me := List (Addr × Mo)
structure Hx (W : Wd) (μ : Me) (P H : Hp) : Prop where
  le : Le P H
  z : ∀ a, W.Z a → P a = none ∧ H a ≠ none
  j : W.J H
  mem : ∀ p m, (p, m) ∈ μ → ¬ W.Z p ∧ P p = none ∧ m.at p P H
  nod : (μ.map (·.1)).Nodup
theorem Hx.step {W : Wd} {μ : Me} {P H P' H' : Hp} (h : Hx W μ P H) (s : Stp W P H P' H') : Hx W μ P' H' := by
  have new : ∀ a, P a = none → H a ≠ none → P' a = none := fun a h1 h2 => by
    cases e : P' a with
    | none => rfl
    | some o => exact absurd h1 (s.nw a h2 (by rw [e]; exact fun z => by cases z))
  refine ⟨s.le, fun a z => ⟨new a (h.z a z).1 (h.z a z).2, s.dm a (h.z a z).2⟩, s.j h.j, fun p m hm => ?_, h.nod⟩
  obtain ⟨h1, h2, h3⟩ := h.mem p m hm
  refine ⟨h1, new p h2 (Mo.at_ne h3), ?_⟩
  cases m with
  | lst Rs =>
    obtain ⟨xs, e, r⟩ := h3
    exact ⟨xs, s.kp p _ h1 e, reps_up s.ex.le r⟩
  | dct kvs => exact s.kp p _ h1 h3
  | ins C dx fs => exact s.kp p _ h1 h3
/-- a new object, that will stand -/
theorem Hx.new {W : Wd} {μ : Me} {P H : Hp} (h : Hx W μ P H) {p : Addr} (hp : H p = none) (o : HO) : Stp W P H (upd P p o) (upd H p o) := by
  have pp := h.le.some hp
  refine ⟨fun a u e => ?_, fun a u e => ?_, fun a h1 h2 => ?_, fun a u _ e => ?_, fun a h1 => ?_, W.loc fun a z => ?_⟩
  · rw [upd_ne (ne_of_none e pp)]; exact e
  · by_cases c : a = p
    · subst c
      rw [upd_same] at e ⊢
      exact ⟨_, rfl, .inl (Option.some.inj e).symm⟩
    · rw [upd_ne c] at e ⊢
      exact h.le a u e
  · by_cases c : a = p
    · subst c; exact absurd hp h1
    · rwa [upd_ne c] at h2
  · rw [upd_ne (ne_of_none e hp)]; exact e
  · by_cases c : a = p
    · subst c; rw [upd_same]; exact fun z => by cases z
    · rwa [upd_ne c]
  · exact upd_ne fun c => (h.z a z).2 (by rw [c]; exact hp)
/-- a new object, that may change yet -/
theorem Hx.alloc {W : Wd} {μ : Me} {P H : Hp} (h : Hx W μ P H) {p : Addr} (hp : H p = none) (o : HO) : Stp W P H P (upd H p o) := by
  have s := h.new hp o
  have pp := h.le.some hp
  refine ⟨Ex.refl P, fun a u e => ?_, fun _ _ h => h, s.kp, s.dm, s.j⟩
  rw [upd_ne (ne_of_none e pp)]
  exact h.le a u e

/-! ### the names' values -/
def Sat (ρ : List (Option RP)) (σ : St) (P : Hp) : Prop := ∀ (i : Nat) (R : RP), ρ[i]? = some (some R) → ∃ v, σ[i]? = some (some v) ∧ R.r v P
theorem Sat.up {ρ : List (Option RP)} {σ : St} {P P' : Hp} (s : Sat ρ σ P) (l : Le P P') : Sat ρ σ P' := fun i R e => by
  obtain ⟨v, h, r⟩ := s i R e
  exact ⟨v, h, R.up l r⟩
theorem Sat.set {ρ : List (Option RP)} {σ : St} {P : Hp} (s : Sat ρ σ P) (hl : σ.length = ρ.length) {v : V} {R : RP} (r : R.r v P) (i : Nat) : Sat (ρ.set i (some R)) (σ.set i (some v)) P := fun j S e => by
  by_cases c : i = j
  · subst c
    by_cases l : i < ρ.length
    · rw [List.getElem?_set_self l] at e
      cases (Option.some.inj (Option.some.inj e))
      exact ⟨v, by rw [List.getElem?_set_self (by omega)], r⟩
    · rw [List.getElem?_eq_none (by simpa using l)] at e
      cases e
  · rw [List.getElem?_set_ne c] at e ⊢
    exact s j S e
structure Ok (W : Wd) (ρ : List (Option RP)) (μ : Me) (σ : St) (P H : Hp) : Prop where
  hx : Hx W μ P H
  sat : Sat ρ σ P
  len : σ.length = ρ.length
section
variable {W : Wd} {ρ : List (Option RP)} {μ : Me} {σ : St} {P H P' H' : Hp}
theorem Ok.step (k : Ok W ρ μ σ P H) (s : Stp W P H P' H') : Ok W ρ μ σ P' H' := ⟨k.hx.step s, k.sat.up s.ex.le, k.len⟩
theorem Ok.set (k : Ok W ρ μ σ P H) {v : V} {R : RP} (r : R.r v P) (i : Nat) : Ok W (ρ.set i (some R)) μ (σ.set i (some v)) P H := ⟨k.hx, k.sat.set k.len r i, by rw [List.length_set, List.length_set, k.len]⟩
end

/-! ### readings by what values stand for -/
section
variable (W : Wd) (ρ : List (Option RP)) (μ : Me)
def E (te : TE) (R : RP) : Prop := ∀ σ P H, Ok W ρ μ σ P H → ∀ Q : VK, (∀ v P' H', Stp W P H P' H' → R.r v P' → Q v H') → te σ H Q
def T (tt : TT) (b : Bool) : Prop := ∀ σ P H, Ok W ρ μ σ P H → ∀ Q : Bool → Hp → Prop, (∀ P' H', Stp W P H P' H' → Q b H') → tt σ H Q
def EA (ta : TA) (Rs : List RP) : Prop := ∀ σ P H, Ok W ρ μ σ P H → ∀ Q : List V → Hp → Prop, (∀ vs P' H', Stp W P H P' H' → Reps Rs vs P' → Q vs H') → ta σ H Q
def EO (to : TO) (o : Option Int) : Prop := ∀ σ P H, Ok W ρ μ σ P H → ∀ Q : Option Int → Hp → Prop, (∀ P' H', Stp W P H P' H' → Q o H') → to σ H Q
/-- an operation on two values; on one; a call of a built-in -/
def O2 (r : R2) (Ra Rb R : RP) : Prop := ∀ P H x y, Hx W μ P H → Ra.r x P → Rb.r y P → ∀ Q : VK, (∀ v P' H', Stp W P H P' H' → R.r v P' → Q v H') → r x y H Q
def O1 (r : V → Hp → VK → Prop) (Ra R : RP) : Prop := ∀ P H x, Hx W μ P H → Ra.r x P → ∀ Q : VK, (∀ v P' H', Stp W P H P' H' → R.r v P' → Q v H') → r x H Q
def OC (r : List V → Hp → VK → Prop) (Rs : List RP) (R : RP) : Prop := ∀ P H xs, Hx W μ P H → Reps Rs xs P → ∀ Q : VK, (∀ v P' H', Stp W P H P' H' → R.r v P' → Q v H') → r xs H Q
end
section
variable {W : Wd} {ρ : List (Option RP)} {μ : Me} {ta tb te : TE} {Ra Rb R : RP} {t u : TT}
theorem es_var {i : Nat} (h : ρ[i]? = some (some R)) : E W ρ μ (tVar i) R := fun σ P H k Q q => by
  obtain ⟨v, hv, r⟩ := k.sat i R h
  exact ⟨v, hv, q v P H (Stp.refl k.hx.le) r⟩
theorem es_c {v : V} : E W ρ μ (tC v) (valR v) := fun σ P H k Q q => q v P H (Stp.refl k.hx.le) rfl
theorem es_op {r : R2} (a : E W ρ μ ta Ra) (b : E W ρ μ tb Rb) (o : O2 W μ r Ra Rb R) : E W ρ μ (tOp r ta tb) R := fun σ P H k Q q => by
  refine a σ P H k _ fun x P1 H1 s1 r1 => ?_
  refine b σ P1 H1 (k.step s1) _ fun y P2 H2 s2 r2 => ?_
  exact o P2 H2 x y ((k.step s1).step s2).hx (Ra.up s2.ex.le r1) r2 Q fun v P3 H3 s3 r3 => q v P3 H3 ((s1.trans s2).trans s3) r3
theorem es_un {r : V → Hp → VK → Prop} (a : E W ρ μ ta Ra) (o : O1 W μ r Ra R) : E W ρ μ (tUn r ta) R := fun σ P H k Q q => by
  refine a σ P H k _ fun x P1 H1 s1 r1 => ?_
  exact o P1 H1 x (k.step s1).hx r1 Q fun v P3 H3 s3 r3 => q v P3 H3 (s1.trans s3) r3
theorem ea_nil : EA W ρ μ tNil [] := fun σ P H k Q q => q [] P H (Stp.refl k.hx.le) .nil
theorem ea_cons {tr : TA} {Rs : List RP} (a : E W ρ μ ta Ra) (b : EA W ρ μ tr Rs) : EA W ρ μ (tCons ta tr) (Ra :: Rs) := fun σ P H k Q q => by
  refine a σ P H k _ fun x P1 H1 s1 r1 => ?_
  refine b σ P1 H1 (k.step s1) _ fun xs P2 H2 s2 r2 => ?_
  exact q (x :: xs) P2 H2 (s1.trans s2) (.cons (Ra.up s2.ex.le r1) r2)
theorem es_cb {r : List V → Hp → VK → Prop} {t : TA} {Rs : List RP} (a : EA W ρ μ t Rs) (o : OC W μ r Rs R) : E W ρ μ (tCB r t) R := fun σ P H k Q q => by
  refine a σ P H k _ fun x P1 H1 s1 r1 => ?_
  exact o P1 H1 x (k.step s1).hx r1 Q fun v P3 H3 s3 r3 => q v P3 H3 (s1.trans s3) r3
theorem small_line {n : Nat} (h : n ≤ 100000) : n ≤ sizeLine := by
  rw [sizeLine_eq]
  omega
theorem es_tup {t : TA} {Rs : List RP} (a : EA W ρ μ t Rs) (hl : Rs.length ≤ 100000) : E W ρ μ (tTup t) (tupR Rs) := fun σ P H k Q q => by
  refine a σ P H k _ fun x P1 H1 s1 r1 => ?_
  have k1 := k.step s1
  refine ⟨small_line (by rw [← Paired.length r1]; exact hl), fun p hp => ?_⟩
  have s2 := k1.hx.new hp (.tup x)
  exact q _ _ _ (s1.trans s2) ⟨p, x, rfl, upd_same, reps_up s2.ex.le r1⟩
theorem es_lst {t : TA} {Rs : List RP} (a : EA W ρ μ t Rs) (hl : Rs.length ≤ 100000) : E W ρ μ (tLst t) (lstR Rs) := fun σ P H k Q q => by
  refine a σ P H k _ fun x P1 H1 s1 r1 => ?_
  have k1 := k.step s1
  refine ⟨small_line (by rw [← Paired.length r1]; exact hl), fun p hp => ?_⟩
  have s2 := k1.hx.new hp (.lst x)
  exact q _ _ _ (s1.trans s2) ⟨p, x, rfl, upd_same, reps_up s2.ex.le r1⟩
theorem es_is (a : E W ρ μ te Ra) (h : ∀ v P, Ra.r v P → R.r v P) : E W ρ μ te R := fun σ P H k Q q => a σ P H k Q fun v P' H' s r => q v P' H' s (h v P' r)
theorem es_eq {R' : RP} (a : E W ρ μ te Ra) (h : Ra = R') : E W ρ μ te R' := h ▸ a
/-- the one of several that it is -/
theorem es_ex {α : Type} {f : α → RP} {R : RP} {r : V → Hp → VK → Prop} (a : E W ρ μ ta (exR f)) (o : ∀ x, O1 W μ r (f x) R) : E W ρ μ (tUn r ta) R := fun σ P H k Q q => by
  refine a σ P H k _ fun x P1 H1 s1 ⟨z, r1⟩ => ?_
  exact o z P1 H1 x (k.step s1).hx r1 Q fun v P3 H3 s3 r3 => q v P3 H3 (s1.trans s3) r3
/-! tests -/
theorem et_test {b : Bool} (a : E W ρ μ te (blR b)) : T W ρ μ (tTest te) b := fun σ P H k Q q => a σ P H k _ fun v P' H' s r => ⟨b, r, q P' H' s⟩
theorem et_B {b : Bool} (a : E W ρ μ te (blR b)) : T W ρ μ (tB te) b := fun σ P H k Q q => a σ P H k _ fun v P' H' s r => ⟨b, r, q P' H' s⟩
theorem et_not {b : Bool} (a : T W ρ μ t b) : T W ρ μ (tNot t) (!b) := fun σ P H k Q q => a σ P H k _ fun P' H' s => q P' H' s
theorem et_and {a b : Bool} (h1 : T W ρ μ t a) (h2 : a = true → T W ρ μ u b) : T W ρ μ (tAnd t u) (a && b) := fun σ P H k Q q => by
  refine h1 σ P H k _ fun P1 H1 s1 => ?_
  cases a with
  | true => exact (if_pos rfl).symm ▸ h2 rfl σ P1 H1 (k.step s1) _ fun P2 H2 s2 => q P2 H2 (s1.trans s2)
  | false => exact (if_neg Bool.false_ne_true).symm ▸ q P1 H1 s1
theorem et_or {a b : Bool} (h1 : T W ρ μ t a) (h2 : a = false → T W ρ μ u b) : T W ρ μ (tOr t u) (a || b) := fun σ P H k Q q => by
  refine h1 σ P H k _ fun P1 H1 s1 => ?_
  cases a with
  | true => exact (if_pos rfl).symm ▸ q P1 H1 s1
  | false => exact (if_neg Bool.false_ne_true).symm ▸ h2 rfl σ P1 H1 (k.step s1) _ fun P2 H2 s2 => q P2 H2 (s1.trans s2)
theorem et_yes : T W ρ μ tYes true := fun σ P H k Q q => q P H (Stp.refl k.hx.le)
theorem et_eq {a b : Bool} (h : T W ρ μ t a) (e : a = b) : T W ρ μ t b := e ▸ h
theorem es_andV {a b : Bool} (h1 : E W ρ μ ta (blR a)) (h2 : a = true → E W ρ μ tb (blR b)) : E W ρ μ (tAndV ta tb) (blR (a && b)) := fun σ P H k Q q => by
  refine h1 σ P H k _ fun v P1 H1 s1 r1 => ⟨a, r1, ?_⟩
  cases a with
  | true => exact (if_pos rfl).symm ▸ h2 rfl σ P1 H1 (k.step s1) _ fun v P2 H2 s2 r2 => q v P2 H2 (s1.trans s2) r2
  | false => exact (if_neg Bool.false_ne_true).symm ▸ q _ P1 H1 s1 rfl
theorem es_orV {a b : Bool} (h1 : E W ρ μ ta (blR a)) (h2 : a = false → E W ρ μ tb (blR b)) : E W ρ μ (tOrV ta tb) (blR (a || b)) := fun σ P H k Q q => by
  refine h1 σ P H k _ fun v P1 H1 s1 r1 => ⟨a, r1, ?_⟩
  cases a with
  | true => exact (if_pos rfl).symm ▸ q _ P1 H1 s1 rfl
  | false => exact (if_neg Bool.false_ne_true).symm ▸ h2 rfl σ P1 H1 (k.step s1) _ fun v P2 H2 s2 r2 => q v P2 H2 (s1.trans s2) r2
theorem es_notV {a : Bool} (h1 : E W ρ μ ta (blR a)) : E W ρ μ (tNotV ta) (blR (!a)) := fun σ P H k Q q => h1 σ P H k _ fun v P1 H1 s1 r1 => ⟨a, r1, q _ P1 H1 s1 rfl⟩
theorem es_if {b : Bool} (h : T W ρ μ t b) (h1 : b = true → E W ρ μ ta R) (h2 : b = false → E W ρ μ tb R) : E W ρ μ (tIf t ta tb) R := fun σ P H k Q q => by
  refine h σ P H k _ fun P1 H1 s1 => ?_
  cases b with
  | true => exact (if_pos rfl).symm ▸ h1 rfl σ P1 H1 (k.step s1) _ fun v P2 H2 s2 r2 => q v P2 H2 (s1.trans s2) r2
  | false => exact (if_neg Bool.false_ne_true).symm ▸ h2 rfl σ P1 H1 (k.step s1) _ fun v P2 H2 s2 r2 => q v P2 H2 (s1.trans s2) r2
end

/-! ### promises -/
/-- from (P, H) on, with arguments that stand for args i: what is handed back stands for res i -/
def spOf {ι : Type} (ok : ι → Prop) (args : ι → List RP) (res : ι → RP) : Sp := fun vs H Q _ => ∃ (i : ι) (P : Hp), ok i ∧ Le P H ∧ Reps (args i) vs P ∧ ∀ v P' H', Stp W0 P H P' H' → (res i).r v P' → Q v H'
theorem es_call {W : Wd} {ρ : List (Option RP)} {μ : Me} {ι : Type} {ok : ι → Prop} {args : ι → List RP} {res : ι → RP} {E₁ : XK} {t : TA} (i : ι) (a : EA W ρ μ t (args i)) (h : ok i) : E W ρ μ (tCall (spOf ok args res) [] E₁ t) (res i) := fun σ P H k Q q => by
  refine a σ P H k _ fun x P1 H1 s1 r1 => ?_
  have k1 := k.step s1
  show spOf ok args res (x ++ []) H1 Q E₁
  rw [List.append_nil]
  exact ⟨i, P1, h, k1.hx.le, r1, fun v P2 H2 s2 r2 => q v P2 H2 (s1.trans (s2.w fun a z => (k1.hx.z a z).2)) r2⟩

/-! ### where a body stands: the entry (P0, H0), loops' starts, a locked dict -/
structure Cq where
  W : Wd
  P0 : Hp
  H0 : Hp
  Bs : List (Hp × Hp)
  lk : Option (Addr × Obj × List (Key × V))
def unl : Option (Addr × Obj × List (Key × V)) → Hp → Hp
  | none, H => H
  | some (d, _, kvs), H => upd H d (.dK kvs)
structure At (c : Cq) (ρ : List (Option RP)) (μ : Me) (σ : St) (P H : Hp) : Prop where
  ok : Ok c.W ρ μ σ P H
  ex : Ex c.P0 P
  nw : ∀ a, c.H0 a ≠ none → P a ≠ none → c.P0 a ≠ none
  kp : ∀ a o, ¬ c.W.Z a → c.H0 a = some o → unl c.lk H a = some o
  lc : ∀ d od kvs, c.lk = some (d, od, kvs) → P d ≠ none ∧ H d = some (.frz od (.dK kvs))
  bs : ∀ B ∈ c.Bs, Ex B.1 P ∧ ∀ a o, B.1 a ≠ none → B.2 a = some o → H a = some o
  fr : ∀ p m, (p, m) ∈ μ → c.H0 p = none
section
variable {c : Cq} {ρ ρ' : List (Option RP)} {μ : Me} {σ : St} {P H P' H' : Hp}
theorem not_z (k : Hx c.W μ P H) {a : Addr} (h : P a ≠ none) : ¬ c.W.Z a := fun z => h (k.z a z).1
theorem At.step (a : At c ρ μ σ P H) (s : Stp c.W P H P' H') : At c ρ μ σ P' H' := by
  refine ⟨a.ok.step s, a.ex.trans s.ex, fun b h1 h2 => ?_, fun b o z e => ?_, fun d od kvs e => ?_, fun B hB => ?_, a.fr⟩
  · refine a.nw b h1 ?_
    by_cases z : H b = none
    · cases e : c.H0 b with
      | none => exact absurd e h1
      | some o =>
        by_cases w : c.W.Z b
        · exact absurd z (a.ok.hx.z b w).2
        · have k := a.kp b o w e
          cases hl : c.lk with
          | none =>
            rw [hl] at k
            have k' : H b = some o := k
            rw [z] at k'
            cases k'
          | some q =>
            obtain ⟨d, od, kvs⟩ := q
            rw [hl] at k
            have k' : upd H d (.dK kvs) b = some o := k
            by_cases eb : b = d
            · subst eb
              exact (a.lc _ od kvs hl).1
            · rw [upd_ne eb, z] at k'
              cases k'
    · exact s.nw b z h2
  · have k := a.kp b o z e
    cases hl : c.lk with
    | none =>
      rw [hl] at k
      exact s.kp b o z k
    | some q =>
      obtain ⟨d, od, kvs⟩ := q
      rw [hl] at k
      show upd H' d (.dK kvs) b = some o
      have k' : upd H d (.dK kvs) b = some o := k
      by_cases eb : b = d
      · subst eb
        rw [upd_same] at k' ⊢
        exact k'
      · rw [upd_ne eb] at k' ⊢
        exact s.kp b o z k'
  · obtain ⟨h1, h2⟩ := a.lc d od kvs e
    refine ⟨?_, s.kp d _ (not_z a.ok.hx h1) h2⟩
    cases q : P d with
    | none => exact absurd q h1
    | some o => rw [s.ex d o q]; exact fun z => by cases z
  · obtain ⟨b1, b2⟩ := a.bs B hB
    refine ⟨b1.trans s.ex, fun b o h1 h2 => s.kp b o (not_z a.ok.hx ?_) (b2 b o h1 h2)⟩
    cases q : B.1 b with
    | none => exact absurd q h1
    | some o => rw [b1 b o q]; exact fun z => by cases z
theorem At.set (a : At c ρ μ σ P H) {v : V} {R : RP} (r : R.r v P) (i : Nat) : At c (ρ.set i (some R)) μ (σ.set i (some v)) P H := ⟨a.ok.set r i, a.ex, a.nw, a.kp, a.lc, a.bs, a.fr⟩
/-- an expression is read -/
theorem At.e (a : At c ρ μ σ P H) {te : TE} {R : RP} (h : E c.W ρ μ te R) {Q : VK} (q : ∀ v P' H', At c ρ μ σ P' H' → R.r v P' → Q v H') : te σ H Q :=
  h σ P H a.ok Q fun v P' H' s r => q v P' H' (a.step s) r
theorem At.t (a : At c ρ μ σ P H) {tt : TT} {b : Bool} (h : T c.W ρ μ tt b) {Q : Bool → Hp → Prop} (q : ∀ P' H', At c ρ μ σ P' H' → Q b H') : tt σ H Q :=
  h σ P H a.ok Q fun P' H' s => q P' H' (a.step s)
/-- the whole way from the entry -/
theorem At.all (a : At c ρ μ σ P H) (h : c.lk = none) (h0 : ∀ b, c.W.Z b → c.H0 b ≠ none → H b ≠ none := by exact fun _ z => z.elim) (hj : c.W.J H := by trivial) : Stp c.W c.P0 c.H0 P H := by
  refine ⟨a.ex, a.ok.hx.le, a.nw, fun b o z e => ?_, fun b hb => ?_, fun _ => a.ok.hx.j⟩
  · have := a.kp b o z e
    rw [h] at this
    exact this
  · cases e : c.H0 b with
    | none => exact absurd e hb
    | some o =>
      by_cases z : c.W.Z b
      · exact (a.ok.hx.z b z).2
      · have := a.kp b o z e
        rw [h] at this
        have q : H b = some o := this
        rw [q]
        exact fun z => by cases z
end
end Y
end
section
/-! The layer, part 2: targets, what is walked, comprehensions, statements, loops. -/
namespace Y
open PySem PySem.Spec L2

/-! ### slots -/
theorem wipe_get {σ : St} {i : Nat} : ∀ {vs : List Nat}, (wipe σ vs)[i]? = if i ∈ vs then σ[i]?.map (fun _ => none) else σ[i]?
  | [] => by simp [wipe]
  | v :: vs => by
    have ih := wipe_get (σ := σ) (i := i) (vs := vs)
    unfold wipe
    by_cases c : v = i
    · subst c
      rw [if_pos List.mem_cons_self]
      by_cases l : v < (wipe σ vs).length
      · rw [List.getElem?_set_self l]
        have l' : v < σ.length := by rwa [wipe_length] at l
        rw [List.getElem?_eq_getElem l']
        rfl
      · rw [List.getElem?_eq_none (by simpa using l), List.getElem?_eq_none (by rw [wipe_length] at l; omega)]
        all_goals rfl
    · rw [List.getElem?_set_ne c, ih]
      by_cases m : i ∈ vs
      · rw [if_pos m, if_pos (List.mem_cons_of_mem _ m)]
      · rw [if_neg m, if_neg (by
          intro h
          rcases List.mem_cons.mp h with e | h
          · exact c e.symm
          · exact m h)]
theorem wipe_eq {σ σ' : St} {vs : List Nat} (hl : σ'.length = σ.length) (h : ∀ i, i ∉ vs → σ'[i]? = σ[i]?) : wipe σ' vs = wipe σ vs := by
  refine List.ext_getElem? fun i => ?_
  rw [wipe_get, wipe_get]
  by_cases m : i ∈ vs
  · rw [if_pos m, if_pos m]
    by_cases l : i < σ.length
    · rw [List.getElem?_eq_getElem l, List.getElem?_eq_getElem (by omega : i < σ'.length)]
      rfl
    · rw [List.getElem?_eq_none (by omega), List.getElem?_eq_none (by omega)]
      all_goals rfl
  · rw [if_neg m, if_neg m, h i m]
theorem wipe_wipe {σ : St} {vs : List Nat} : wipe (wipe σ vs) vs = wipe σ vs := wipe_eq (wipe_length σ vs) fun i m => by rw [wipe_get, if_neg m]
def wipeR (ρ : List (Option RP)) : List Nat → List (Option RP)
  | [] => ρ
  | v :: vs => (wipeR ρ vs).set v none
theorem wipeR_length (ρ : List (Option RP)) : ∀ vs, (wipeR ρ vs).length = ρ.length
  | [] => rfl
  | v :: vs => by unfold wipeR; rw [List.length_set, wipeR_length ρ vs]
theorem wipeR_some {ρ : List (Option RP)} {i : Nat} {R : RP} : ∀ {vs : List Nat}, (wipeR ρ vs)[i]? = some (some R) → ρ[i]? = some (some R) ∧ i ∉ vs
  | [], h => ⟨h, by simp⟩
  | v :: vs, h => by
    unfold wipeR at h
    by_cases hi : v = i
    · subst hi
      by_cases hv : v < (wipeR ρ vs).length
      · rw [List.getElem?_set_self hv] at h; cases h
      · rw [List.getElem?_eq_none (by simpa using hv)] at h; cases h
    · rw [List.getElem?_set_ne hi] at h
      obtain ⟨h1, h2⟩ := wipeR_some h
      exact ⟨h1, by simp [Ne.symm hi, h2]⟩
section
variable {W : Wd} {ρ ρ' : List (Option RP)} {μ : Me} {σ : St} {P H P' H' : Hp}
theorem Ok.wipe (k : Ok W ρ μ σ P H) (vs : List Nat) : Ok W (wipeR ρ vs) μ (wipe σ vs) P H := by
  refine ⟨k.hx, fun i R e => ?_, by rw [wipe_length, wipeR_length, k.len]⟩
  obtain ⟨h1, h2⟩ := wipeR_some e
  obtain ⟨v, hv, r⟩ := k.sat i R h1
  exact ⟨v, by rw [wipe_get, if_neg h2]; exact hv, r⟩

/-! ### targets -/
/-- a value that stands for R is stored; js: the slots -/
def Tg (W : Wd) (ρ : List (Option RP)) (μ : Me) (g : TG) (R : RP) (ρ' : List (Option RP)) (js : List Nat) : Prop :=
  ∀ σ P H v, Ok W ρ μ σ P H → R.r v P → ∀ Q : St → Hp → Prop, (∀ σ', Ok W ρ' μ σ' P H → σ'.length = σ.length → (∀ i, i ∉ js → σ'[i]? = σ[i]?) → Q σ' H) → g v σ H Q
def Tgs (W : Wd) (ρ : List (Option RP)) (μ : Me) (g : TGs) (Rs : List RP) (ρ' : List (Option RP)) (js : List Nat) : Prop :=
  ∀ σ P H vs, Ok W ρ μ σ P H → Reps Rs vs P → ∀ Q : St → Hp → Prop, (∀ σ', Ok W ρ' μ σ' P H → σ'.length = σ.length → (∀ i, i ∉ js → σ'[i]? = σ[i]?) → Q σ' H) → g vs σ H Q
theorem tg_name {R : RP} {i : Nat} : Tg W ρ μ (gName i) R (ρ.set i (some R)) [i] := fun σ P H v k r Q q => by
  refine q _ (k.set r i) List.length_set fun j hj => ?_
  exact List.getElem?_set_ne fun e => hj (by rw [e]; exact List.mem_cons_self)
theorem tgs_nil : Tgs W ρ μ gNil [] ρ [] := fun σ P H vs k r Q q => by
  cases r
  exact ⟨rfl, q σ k rfl fun _ _ => rfl⟩
theorem tgs_cons {g : TG} {gs : TGs} {R : RP} {Rs : List RP} {ρ1 ρ2 : List (Option RP)} {js ks : List Nat} (h : Tg W ρ μ g R ρ1 js) (t : Tgs W ρ1 μ gs Rs ρ2 ks) : Tgs W ρ μ (gCons g gs) (R :: Rs) ρ2 (js ++ ks) := fun σ P H vs k r Q q => by
  cases r with
  | cons r1 r2 =>
    refine ⟨_, _, rfl, h σ P H _ k r1 _ fun σ' k' l' a' => ?_⟩
    refine t σ' P H _ k' r2 _ fun σ2 k2 l2 a2 => ?_
    refine q σ2 k2 (l2.trans l') fun i hi => ?_
    rw [a2 i fun z => hi (List.mem_append_right _ z), a' i fun z => hi (List.mem_append_left _ z)]
theorem tg_tup {K : PySem.W.Frag} {n : Nat} {gs : TGs} {Rs : List RP} {js : List Nat} (t : Tgs W ρ μ gs Rs ρ' js) (hn : Rs.length = n) : Tg W ρ μ (gTup K n gs) (tupR Rs) ρ' js := fun σ P H v k ⟨p, xs, e, h, r⟩ Q q =>
  ⟨p, xs, e, SqT.of (k.hx.le.tup h), by rw [← Paired.length r]; exact hn, t σ P H xs k r Q q⟩
end

/-! ### what is walked -/
structure ItOk (W : Wd) (J : It) (Is : List RP) (P' H' : Hp) : Prop where
  go : ∀ (i : Nat) (R : RP) (μ : Me) (P2 H2 : Hp), Is[i]? = some R → Hx W μ P2 H2 → Ex P' P2 → (∀ a o, P' a ≠ none → H' a = some o → H2 a = some o) → J.go i H2 ∧ ∀ v H3, J.yld i H2 v H3 → ∃ P3, Stp W P2 H2 P3 H3 ∧ R.r v P3
  stop : ∀ (i : Nat) (μ : Me) (P2 H2 : Hp), Is.length ≤ i → Hx W μ P2 H2 → Ex P' P2 → (∀ a o, P' a ≠ none → H' a = some o → H2 a = some o) → J.stop i H2
def Src (W : Wd) (ρ : List (Option RP)) (μ : Me) (wi : TI) (Is : List RP) : Prop :=
  ∀ σ P H, Ok W ρ μ σ P H → ∀ R : It → Hp → Prop, (∀ J P' H', Stp W P H P' H' → ItOk W J Is P' H' → R J H') → wi σ H R
section
variable {W : Wd} {ρ ρ' : List (Option RP)} {μ : Me} {σ : St} {P H P' H' : Hp} {te : TE} {Is : List RP} {K : PySem.W.Frag}
theorem it_list {a : Addr} {xs : List V} (h : P' a = some (.lst xs)) (r : Reps Is xs P') : ItOk W (Itl K a) Is P' H' := by
  refine ⟨fun i R μ P2 H2 e k ex _ => ?_, fun i μ P2 H2 e k ex _ => ?_⟩
  · have h2 : H2 a = some (.lst xs) := k.le.lst (ex a _ h)
    obtain ⟨v, hv, rv⟩ := reps_get r e
    refine ⟨⟨xs, v, SqL.of h2, hv⟩, fun v' H3 y => ?_⟩
    obtain ⟨rfl, hy⟩ := y
    have e2 := hy xs (SqL.of h2)
    rw [hv] at e2
    cases e2
    exact ⟨P2, Stp.refl k.le, R.up ex.le rv⟩
  · exact ⟨xs, SqL.of (k.le.lst (ex a _ h)), by rw [← Paired.length r]; exact e⟩
theorem it_tup {a : Addr} {xs : List V} (h : P' a = some (.tup xs)) (r : Reps Is xs P') : ItOk W (Itt K a) Is P' H' := by
  refine ⟨fun i R μ P2 H2 e k ex _ => ?_, fun i μ P2 H2 e k ex _ => ?_⟩
  · have h2 : H2 a = some (.tup xs) := k.le.tup (ex a _ h)
    obtain ⟨v, hv, rv⟩ := reps_get r e
    refine ⟨⟨xs, v, SqT.of h2, hv⟩, fun v' H3 y => ?_⟩
    obtain ⟨rfl, hy⟩ := y
    have e2 := hy xs (SqT.of h2)
    rw [hv] at e2
    cases e2
    exact ⟨P2, Stp.refl k.le, R.up ex.le rv⟩
  · exact ⟨xs, SqT.of (k.le.tup (ex a _ h)), by rw [← Paired.length r]; exact e⟩
theorem it_range {lo : Int} {n : Nat} : ItOk W (Itr lo n) ((List.range n).map fun i => intR (lo + (i : Nat))) P' H' := by
  refine ⟨fun i R μ P2 H2 e k ex _ => ?_, fun i μ P2 H2 e k ex _ => ?_⟩
  · rw [List.getElem?_map] at e
    cases c : (List.range n)[i]? with
    | none => rw [c] at e; cases e
    | some j =>
      rw [c] at e
      cases e
      obtain ⟨l, rfl⟩ := List.getElem?_eq_some_iff.mp c
      rw [List.length_range] at l
      refine ⟨l, fun v' H3 y => ?_⟩
      obtain ⟨rfl, hy⟩ := y
      refine ⟨P2, Stp.refl k.le, ?_⟩
      rw [hy, List.getElem_range]
      rfl
  · show n ≤ i
    simpa using e
/-- a locked dict's keys -/
theorem it_keys {d : Addr} {od : Obj} {kvs : List (Key × V)} (hp : P' d ≠ none) (h : H' d = some (.frz od (.dK kvs))) : ItOk W (Itk d od kvs) (kvs.map fun kv => valR (kV kv.1)) P' H' := by
  refine ⟨fun i R μ P2 H2 e k ex z => ?_, fun i μ P2 H2 e k ex z => ?_⟩
  · rw [List.getElem?_map] at e
    cases c : kvs[i]? with
    | none => rw [c] at e; cases e
    | some kv =>
      rw [c] at e
      cases e
      refine ⟨⟨z d _ hp h, (List.getElem?_eq_some_iff.mp c).1⟩, fun v' H3 y => ?_⟩
      obtain ⟨rfl, k', v, e2, rfl⟩ := y
      rw [c] at e2
      cases e2
      exact ⟨P2, Stp.refl k.le, rfl⟩
  · exact ⟨z d _ hp h, by simpa using e⟩
theorem src_list (h : E W ρ μ te (lstR Is)) : Src W ρ μ (iList K te) Is := fun σ P H k R q => by
  refine h σ P H k _ fun v P1 H1 s1 ⟨a, xs, e, hp, r⟩ => ?_
  exact ⟨a, e, ⟨xs, SqL.of (s1.le.lst hp)⟩, q _ P1 H1 s1 (it_list hp r)⟩
theorem src_tup (h : E W ρ μ te (tupR Is)) : Src W ρ μ (iTup K te) Is := fun σ P H k R q => by
  refine h σ P H k _ fun v P1 H1 s1 ⟨a, xs, e, hp, r⟩ => ?_
  exact ⟨a, e, ⟨xs, SqT.of (s1.le.tup hp)⟩, q _ P1 H1 s1 (it_tup hp r)⟩
theorem reps_one {R : RP} {vs : List V} {P : Hp} (r : Reps [R] vs P) : ∃ v, vs = [v] ∧ R.r v P := by
  cases r with
  | cons h t =>
    cases t
    exact ⟨_, rfl, h⟩
theorem reps_two {R S : RP} {vs : List V} {P : Hp} (r : Reps [R, S] vs P) : ∃ v w, vs = [v, w] ∧ R.r v P ∧ S.r w P := by
  cases r with
  | cons h t =>
    cases t with
    | cons h2 t =>
      cases t
      exact ⟨_, _, rfl, h, h2⟩
theorem src_range1 {ta : TA} {n : Int} (h : EA W ρ μ ta [intR n]) (h0 : -(2 ^ 62) ≤ n ∧ n < 2 ^ 62) : Src W ρ μ (iRng1 ta) ((List.range n.toNat).map fun i => intR (i : Nat)) := fun σ P H k R q => by
  refine h σ P H k _ fun vs P1 H1 s1 r => ?_
  obtain ⟨v, rfl, rfl⟩ := reps_one r
  have e : ((List.range n.toNat).map fun i => intR ((i : Nat) : Int)) = (List.range n.toNat).map fun i => intR (0 + ((i : Nat) : Int)) := List.map_congr_left fun i _ => by rw [Int.zero_add]
  refine ⟨n, rfl, h0.1, h0.2, q _ P1 H1 s1 ?_⟩
  rw [e]
  exact it_range
theorem src_range2 {ta : TA} {lo hi : Int} (h : EA W ρ μ ta [intR lo, intR hi]) (h0 : (-(2 ^ 62) ≤ lo ∧ lo < 2 ^ 62) ∧ (-(2 ^ 62) ≤ hi ∧ hi < 2 ^ 62)) : Src W ρ μ (iRng2 ta) ((List.range (hi - lo).toNat).map fun i => intR (lo + (i : Nat))) := fun σ P H k R q => by
  refine h σ P H k _ fun vs P1 H1 s1 r => ?_
  obtain ⟨v, w, rfl, rfl, rfl⟩ := reps_two r
  exact ⟨lo, hi, rfl, ⟨h0.1.1, h0.1.2, h0.2.1, h0.2.2⟩, q _ P1 H1 s1 it_range⟩

/-! ### comprehensions -/
/-- within: a list at D grows, from (P1, H1) -/
structure Grow (W : Wd) (P1 H1 : Hp) (D : Addr) (P H : Hp) : Prop where
  s : Stp W P1 H1 P H
  d : P D = none
theorem Grow.put {W : Wd} {P1 H1 P H : Hp} {D : Addr} (g : Grow W P1 H1 D P H) (hD : H1 D = none) (z : ∀ a, W.Z a → H1 a ≠ none) (o : HO) : Grow W P1 H1 D P (upd H D o) := by
  refine ⟨⟨g.s.ex, fun a u e => ?_, g.s.nw, fun a u w e => ?_, fun a h => ?_, fun j => ?_⟩, g.d⟩
  · rw [upd_ne (ne_of_none e g.d)]
    exact g.s.le a u e
  · rw [upd_ne (ne_of_none e hD)]
    exact g.s.kp a u w e
  · rw [upd_ne fun e => h (by rw [e]; exact hD)]
    exact g.s.dm a h
  · refine W.loc (fun a w => upd_ne fun e => z a w (by rw [e]; exact hD)) (g.s.j j)
theorem Grow.step {W : Wd} {P1 H1 P H P' H' : Hp} {D : Addr} (g : Grow W P1 H1 D P H) (hd : H D ≠ none) (s : Stp W P H P' H') : Grow W P1 H1 D P' H' := by
  refine ⟨g.s.trans s, ?_⟩
  cases e : P' D with
  | none => rfl
  | some o => exact absurd g.d (s.nw D hd (by rw [e]; exact fun z => by cases z))
/-- at the end it stands -/
theorem Grow.done {W : Wd} {P1 H1 P H : Hp} {D : Addr} (g : Grow W P1 H1 D P H) (hD : H1 D = none) {o : HO} (h : H D = some o) : Stp W P1 H1 (upd P D o) H := by
  refine ⟨fun a u e => ?_, fun a u e => ?_, fun a h1 h2 => ?_, g.s.kp, g.s.dm, g.s.j⟩
  · have e2 := g.s.ex a u e
    rw [upd_ne (ne_of_none e2 g.d)]
    exact e2
  · by_cases c : a = D
    · subst c
      rw [upd_same] at e
      cases e
      exact ⟨_, h, .inl rfl⟩
    · rw [upd_ne c] at e
      exact g.s.le a u e
  · by_cases c : a = D
    · subst c; exact absurd hD h1
    · rw [upd_ne c] at h2
      exact g.s.nw a h1 h2
theorem take_filter {α : Type} (f : α → Bool) {as : List α} {i : Nat} {a : α} (h : as[i]? = some a) : (as.take (i + 1)).filter f = (as.take i).filter f ++ if f a = true then [a] else [] := by
  rw [List.take_add_one, h, List.filter_append]
  cases hp : f a <;> simp [hp]
theorem lc_run {wi : TI} {g : TG} {tt : TT} {vs js : List Nat} {α : Type} {as : List α} {RA RB : α → RP} {f : α → Bool} {ρ' : α → List (Option RP)} (k : Ok W ρ μ σ P H)
    (hs : ∀ R : It → Hp → Prop, (∀ J P' H', Stp W P H P' H' → ItOk W J (as.map RA) P' H' → R J H') → wi σ H R)
    (hg : ∀ a ∈ as, Tg W (wipeR ρ vs) μ g (RA a) (ρ' a) js) (hj : ∀ i ∈ js, i ∈ vs) (ht : ∀ a ∈ as, T W (ρ' a) μ tt (f a)) (he : ∀ a ∈ as, f a = true → E W (ρ' a) μ te (RB a)) (hl : as.length < 100000)
    {Q : VK} (q : ∀ v P' H', Stp W P H P' H' → (lstR ((as.filter f).map RB)).r v P' → Q v H') : tLc wi g tt te vs σ H Q := by
  refine hs _ fun J P1 H1 s1 it => ?_
  have k1 := k.step s1
  intro D hD
  have hz : ∀ a, W.Z a → H1 a ≠ none := fun a z => (k1.hx.z a z).2
  have dz : ¬ W.Z D := fun z => hz D z hD
  have g0 : Grow W P1 H1 D P1 (upd H1 D (.lst [])) := Grow.put ⟨Stp.refl k1.hx.le, k1.hx.le.some hD⟩ hD hz _
  refine ⟨fun i m H' => m = as.length - i ∧ i ≤ as.length ∧ ∃ P2 xs, Grow W P1 H1 D P2 H' ∧ H' D = some (.lst xs) ∧ Reps (((as.take i).filter f).map RB) xs P2, ⟨_, rfl, Nat.zero_le _, P1, [], g0, upd_same, .nil⟩, ?_⟩
  rintro i m H2 ⟨rfl, hi, P2, xs, g2, h2, r2⟩
  have k2 := k1.step g2.s
  have keep : ∀ a o, P1 a ≠ none → H1 a = some o → H2 a = some o := fun a o h e => g2.s.kp a o (not_z (c := ⟨W, P, H, [], none⟩) k1.hx h) e
  by_cases c : i < as.length
  · right
    have ha := List.getElem?_eq_getElem c
    have hm : as[i] ∈ as := List.getElem_mem c
    obtain ⟨hgo, hy⟩ := it.go i (RA as[i]) μ P2 H2 (by rw [List.getElem?_map, ha]; rfl) k2.hx g2.s.ex keep
    refine ⟨hgo, _, fun H' h => ⟨as.length - (i + 1), by omega, h⟩, fun v H3 y => ?_⟩
    obtain ⟨P3, s3, r3⟩ := hy v H3 y
    have g3 := g2.step (by rw [h2]; exact fun z => by cases z) s3
    have h3 : H3 D = some (.lst xs) := s3.kp D _ dz h2
    have k3 := k1.step g3.s
    refine hg _ hm (wipe σ vs) P3 H3 v (k3.wipe vs) r3 _ fun σ' k' l' a' => ?_
    refine ⟨(wipe_eq l' fun i hi => a' i fun z => hi (hj i z)).trans wipe_wipe, ?_⟩
    refine ht _ hm σ' P3 H3 k' _ fun P4 H4 s4 => ?_
    have g4 := g3.step (by rw [h3]; exact fun z => by cases z) s4
    have h4 : H4 D = some (.lst xs) := s4.kp D _ dz h3
    have tf := take_filter f ha
    by_cases b : f as[i] = true
    · rw [if_pos b]
      refine he _ hm b σ' P4 H4 (k'.step s4) _ fun w P5 H5 s5 r5 => ?_
      have g5 := g4.step (by rw [h4]; exact fun z => by cases z) s5
      have h5 : H5 D = some (.lst xs) := s5.kp D _ dz h4
      refine ⟨xs, h5, ?_, rfl, by omega, P5, xs ++ [w], g5.put hD hz _, upd_same, ?_⟩
      · rw [← Paired.length r2, List.length_map]
        have := List.length_filter_le f (as.take i)
        rw [List.length_take] at this
        rw [sizeLine_eq]
        omega
      · rw [tf, if_pos b, List.map_append]
        exact reps_app (reps_up ((s3.trans s4).trans s5).ex.le r2) (.cons r5 .nil)
    · rw [if_neg b]
      refine ⟨rfl, by omega, P4, xs, g4, h4, ?_⟩
      rw [tf, if_neg b, List.append_nil]
      exact reps_up (s3.trans s4).ex.le r2
  · left
    refine ⟨it.stop i μ P2 H2 (by rw [List.length_map]; omega) k2.hx g2.s.ex keep, ?_⟩
    have e : as.take i = as := List.take_of_length_le (by omega)
    rw [e] at r2
    have s := g2.done hD h2
    exact q _ _ _ (s1.trans s) ⟨D, xs, rfl, upd_same, reps_up (fun a u e => ⟨u, by rw [upd_ne (ne_of_none e g2.d)]; exact e, .inl rfl⟩) r2⟩
theorem es_lc {wi : TI} {g : TG} {tt : TT} {vs js : List Nat} {α : Type} {as : List α} {RA RB : α → RP} {f : α → Bool} {ρ' : α → List (Option RP)} (hs : Src W ρ μ wi (as.map RA))
    (hg : ∀ a ∈ as, Tg W (wipeR ρ vs) μ g (RA a) (ρ' a) js) (hj : ∀ i ∈ js, i ∈ vs) (ht : ∀ a ∈ as, T W (ρ' a) μ tt (f a)) (he : ∀ a ∈ as, f a = true → E W (ρ' a) μ te (RB a)) (hl : as.length < 100000) :
    E W ρ μ (tLc wi g tt te vs) (lstR ((as.filter f).map RB)) := fun σ P H k Q q => lc_run k (hs σ P H k) hg hj ht he hl q
/-- without tests -/
theorem es_lc0 {wi : TI} {g : TG} {vs js : List Nat} {α : Type} {as : List α} {RA RB : α → RP} {ρ' : α → List (Option RP)} (hs : Src W ρ μ wi (as.map RA))
    (hg : ∀ a ∈ as, Tg W (wipeR ρ vs) μ g (RA a) (ρ' a) js) (hj : ∀ i ∈ js, i ∈ vs) (he : ∀ a ∈ as, E W (ρ' a) μ te (RB a)) (hl : as.length < 100000) :
    E W ρ μ (tLc wi g tYes te vs) (lstR (as.map RB)) := by
  have h := es_lc (f := fun _ => true) hs hg hj (fun a _ => et_yes) (fun a ha _ => he a ha) hl
  rwa [List.filter_eq_self.mpr fun _ _ => rfl] at h
end
end Y
end
section
/-! The layer, part 3: dict comprehensions, locks, statements, loops. -/
namespace Y
open PySem PySem.Spec L2
section
variable {W : Wd} {ρ ρ' : List (Option RP)} {μ : Me} {σ : St} {P H P' H' : Hp} {te tk tv : TE} {Is : List RP} {K : PySem.W.Frag}
/-! ### a list that may change yet -/
theorem lc_runM {wi : TI} {g : TG} {tt : TT} {vs js : List Nat} {α : Type} {as : List α} {RA RB : α → RP} {f : α → Bool} {ρ' : α → List (Option RP)} (k : Ok W ρ μ σ P H)
    (hs : ∀ R : It → Hp → Prop, (∀ J P' H', Stp W P H P' H' → ItOk W J (as.map RA) P' H' → R J H') → wi σ H R)
    (hg : ∀ a ∈ as, Tg W (wipeR ρ vs) μ g (RA a) (ρ' a) js) (hj : ∀ i ∈ js, i ∈ vs) (ht : ∀ a ∈ as, T W (ρ' a) μ tt (f a)) (he : ∀ a ∈ as, f a = true → E W (ρ' a) μ te (RB a)) (hl : as.length < 100000)
    {Q : VK} (q : ∀ D xs P' H', Stp W P H P' H' → P' D = none → H D = none → H' D = some (.lst xs) → Reps ((as.filter f).map RB) xs P' → Q (.ref D) H') : tLc wi g tt te vs σ H Q := by
  -- the same walk as lc_run, its end told before the list stands
  refine hs _ fun J P1 H1 s1 it => ?_
  have k1 := k.step s1
  intro D hD
  have hz : ∀ a, W.Z a → H1 a ≠ none := fun a z => (k1.hx.z a z).2
  have dz : ¬ W.Z D := fun z => hz D z hD
  have hD0 : H D = none := by
    cases e : H D with
    | none => rfl
    | some o => exact absurd hD (s1.dm D (by rw [e]; exact fun z => by cases z))
  have g0 : Grow W P1 H1 D P1 (upd H1 D (.lst [])) := Grow.put ⟨Stp.refl k1.hx.le, k1.hx.le.some hD⟩ hD hz _
  refine ⟨fun i m H' => m = as.length - i ∧ i ≤ as.length ∧ ∃ P2 xs, Grow W P1 H1 D P2 H' ∧ H' D = some (.lst xs) ∧ Reps (((as.take i).filter f).map RB) xs P2, ⟨_, rfl, Nat.zero_le _, P1, [], g0, upd_same, .nil⟩, ?_⟩
  rintro i m H2 ⟨rfl, hi, P2, xs, g2, h2, r2⟩
  have k2 := k1.step g2.s
  have keep : ∀ a o, P1 a ≠ none → H1 a = some o → H2 a = some o := fun a o h e => g2.s.kp a o (not_z (c := ⟨W, P, H, [], none⟩) k1.hx h) e
  by_cases c : i < as.length
  · right
    have ha := List.getElem?_eq_getElem c
    have hm : as[i] ∈ as := List.getElem_mem c
    obtain ⟨hgo, hy⟩ := it.go i (RA as[i]) μ P2 H2 (by rw [List.getElem?_map, ha]; rfl) k2.hx g2.s.ex keep
    refine ⟨hgo, _, fun H' h => ⟨as.length - (i + 1), by omega, h⟩, fun v H3 y => ?_⟩
    obtain ⟨P3, s3, r3⟩ := hy v H3 y
    have g3 := g2.step (by rw [h2]; exact fun z => by cases z) s3
    have h3 : H3 D = some (.lst xs) := s3.kp D _ dz h2
    have k3 := k1.step g3.s
    refine hg _ hm (wipe σ vs) P3 H3 v (k3.wipe vs) r3 _ fun σ' k' l' a' => ?_
    refine ⟨(wipe_eq l' fun i hi => a' i fun z => hi (hj i z)).trans wipe_wipe, ?_⟩
    refine ht _ hm σ' P3 H3 k' _ fun P4 H4 s4 => ?_
    have g4 := g3.step (by rw [h3]; exact fun z => by cases z) s4
    have h4 : H4 D = some (.lst xs) := s4.kp D _ dz h3
    have tf := take_filter f ha
    by_cases b : f as[i] = true
    · rw [if_pos b]
      refine he _ hm b σ' P4 H4 (k'.step s4) _ fun w P5 H5 s5 r5 => ?_
      have g5 := g4.step (by rw [h4]; exact fun z => by cases z) s5
      have h5 : H5 D = some (.lst xs) := s5.kp D _ dz h4
      refine ⟨xs, h5, ?_, rfl, by omega, P5, xs ++ [w], g5.put hD hz _, upd_same, ?_⟩
      · rw [← Paired.length r2, List.length_map]
        have := List.length_filter_le f (as.take i)
        rw [List.length_take] at this
        rw [sizeLine_eq]
        omega
      · rw [tf, if_pos b, List.map_append]
        exact reps_app (reps_up ((s3.trans s4).trans s5).ex.le r2) (.cons r5 .nil)
    · rw [if_neg b]
      refine ⟨rfl, by omega, P4, xs, g4, h4, ?_⟩
      rw [tf, if_neg b, List.append_nil]
      exact reps_up (s3.trans s4).ex.le r2
  · left
    refine ⟨it.stop i μ P2 H2 (by rw [List.length_map]; omega) k2.hx g2.s.ex keep, ?_⟩
    have e : as.take i = as := List.take_of_length_le (by omega)
    rw [e] at r2
    exact q D xs P2 H2 (s1.trans g2.s) g2.d hD0 h2 r2
/-! ### dict comprehensions, keys that differ -/
theorem valV_none {kvs : List (Key × V)} {k : Key} (h : ∀ p ∈ kvs, p.1 ≠ k) : valV kvs k = none := by
  induction kvs with
  | nil => rfl
  | cons p r ih =>
    rw [valV_neg (h p List.mem_cons_self)]
    exact ih fun q hq => h q (List.mem_cons_of_mem _ hq)
theorem nodup_at {α β : Type} {f : α → β} {as : List α} (h : (as.map f).Nodup) {i : Nat} {a b : α} (ha : as[i]? = some a) (hb : b ∈ as.take i) : f b ≠ f a := by
  obtain ⟨j, hj, e⟩ := List.getElem_of_mem hb
  rw [List.length_take] at hj
  rw [List.getElem_take] at e
  intro eq
  obtain ⟨li, e2⟩ := List.getElem?_eq_some_iff.mp ha
  have h1 : (as.map f)[j]? = some (f a) := by
    rw [List.getElem?_map, List.getElem?_eq_getElem (by omega : j < as.length), e, ← eq]
    rfl
  have h2 : (as.map f)[i]? = some (f a) := by
    rw [List.getElem?_map, ha]
    rfl
  have := nd_ix h h1 h2
  omega
theorem dc_run {wi : TI} {g : TG} {tt : TT} {vs js : List Nat} {α : Type} {as : List α} {RA : α → RP} {kf : α → Key} {vf : α → V} {f : α → Bool} {ρ' : α → List (Option RP)} (k : Ok W ρ μ σ P H)
    (hs : ∀ R : It → Hp → Prop, (∀ J P' H', Stp W P H P' H' → ItOk W J (as.map RA) P' H' → R J H') → wi σ H R)
    (hg : ∀ a ∈ as, Tg W (wipeR ρ vs) μ g (RA a) (ρ' a) js) (hj : ∀ i ∈ js, i ∈ vs) (ht : ∀ a ∈ as, T W (ρ' a) μ tt (f a)) (hk : ∀ a ∈ as, f a = true → E W (ρ' a) μ tk (valR (kV (kf a)))) (hv : ∀ a ∈ as, f a = true → E W (ρ' a) μ tv (valR (vf a)))
    (hn : (as.map kf).Nodup) (hl : as.length < 100000)
    {Q : VK} (q : ∀ v P' H', Stp W P H P' H' → (dctR ((as.filter f).map fun a => (kf a, vf a))).r v P' → Q v H') : tDc wi g tt tk tv vs σ H Q := by
  refine hs _ fun J P1 H1 s1 it => ?_
  have k1 := k.step s1
  intro D hD
  have hz : ∀ a, W.Z a → H1 a ≠ none := fun a z => (k1.hx.z a z).2
  have dz : ¬ W.Z D := fun z => hz D z hD
  have g0 : Grow W P1 H1 D P1 (upd H1 D (.dK [])) := Grow.put ⟨Stp.refl k1.hx.le, k1.hx.le.some hD⟩ hD hz _
  refine ⟨fun i m H' => m = as.length - i ∧ i ≤ as.length ∧ ∃ P2, Grow W P1 H1 D P2 H' ∧ H' D = some (.dK (((as.take i).filter f).map fun a => (kf a, vf a))), ⟨_, rfl, Nat.zero_le _, P1, g0, upd_same⟩, ?_⟩
  rintro i m H2 ⟨rfl, hi, P2, g2, h2⟩
  have k2 := k1.step g2.s
  have keep : ∀ a o, P1 a ≠ none → H1 a = some o → H2 a = some o := fun a o h e => g2.s.kp a o (not_z (c := ⟨W, P, H, [], none⟩) k1.hx h) e
  by_cases c : i < as.length
  · right
    have ha := List.getElem?_eq_getElem c
    have hm : as[i] ∈ as := List.getElem_mem c
    obtain ⟨hgo, hy⟩ := it.go i (RA as[i]) μ P2 H2 (by rw [List.getElem?_map, ha]; rfl) k2.hx g2.s.ex keep
    refine ⟨hgo, _, fun H' h => ⟨as.length - (i + 1), by omega, h⟩, fun v H3 y => ?_⟩
    obtain ⟨P3, s3, r3⟩ := hy v H3 y
    have g3 := g2.step (by rw [h2]; exact fun z => by cases z) s3
    have h3 := s3.kp D _ dz h2
    have k3 := k1.step g3.s
    refine hg _ hm (wipe σ vs) P3 H3 v (k3.wipe vs) r3 _ fun σ' k' l' a' => ?_
    refine ⟨(wipe_eq l' fun i hi => a' i fun z => hi (hj i z)).trans wipe_wipe, ?_⟩
    refine ht _ hm σ' P3 H3 k' _ fun P4 H4 s4 => ?_
    have g4 := g3.step (by rw [h3]; exact fun z => by cases z) s4
    have h4 := s4.kp D _ dz h3
    have tf := take_filter f ha
    by_cases b : f as[i] = true
    · rw [if_pos b]
      refine hk _ hm b σ' P4 H4 (k'.step s4) _ fun w P5 H5 s5 r5 => ?_
      have g5 := g4.step (by rw [h4]; exact fun z => by cases z) s5
      have h5 := s5.kp D _ dz h4
      refine hv _ hm b σ' P5 H5 ((k'.step s4).step s5) _ fun z P6 H6 s6 r6 => ?_
      have g6 := g5.step (by rw [h5]; exact fun z => by cases z) s6
      have h6 := s6.kp D _ dz h5
      have r6' : z = vf as[i] := r6
      refine ⟨_, kf as[i], r5, h6, ?_, rfl, by omega, P6, g6.put hD hz _, ?_⟩
      · rw [List.length_map]
        have := List.length_filter_le f (as.take i)
        rw [List.length_take] at this
        rw [sizeLine_eq]
        omega
      · rw [upd_same, putK_new, tf, if_pos b, List.map_append, r6']
        · rfl
        · refine valV_none fun p hp => ?_
          obtain ⟨b', hb', rfl⟩ := List.mem_map.mp hp
          exact nodup_at hn ha (List.mem_filter.mp hb').1
    · rw [if_neg b]
      refine ⟨rfl, by omega, P4, g4, ?_⟩
      rw [tf, if_neg b, List.append_nil]
      exact h4
  · left
    refine ⟨it.stop i μ P2 H2 (by rw [List.length_map]; omega) k2.hx g2.s.ex keep, ?_⟩
    have e : as.take i = as := List.take_of_length_le (by omega)
    rw [e] at h2
    exact q _ _ _ (s1.trans (g2.done hD h2)) ⟨D, rfl, .inl upd_same⟩
theorem es_dc {wi : TI} {g : TG} {tt : TT} {vs js : List Nat} {α : Type} {as : List α} {RA : α → RP} {kf : α → Key} {vf : α → V} {f : α → Bool} {ρ' : α → List (Option RP)} (hs : Src W ρ μ wi (as.map RA))
    (hg : ∀ a ∈ as, Tg W (wipeR ρ vs) μ g (RA a) (ρ' a) js) (hj : ∀ i ∈ js, i ∈ vs) (ht : ∀ a ∈ as, T W (ρ' a) μ tt (f a)) (hk : ∀ a ∈ as, f a = true → E W (ρ' a) μ tk (valR (kV (kf a)))) (hv : ∀ a ∈ as, f a = true → E W (ρ' a) μ tv (valR (vf a)))
    (hn : (as.map kf).Nodup) (hl : as.length < 100000) : E W ρ μ (tDc wi g tt tk tv vs) (dctR ((as.filter f).map fun a => (kf a, vf a))) := fun σ P H k Q q => dc_run k (hs σ P H k) hg hj ht hk hv hn hl q

/-! ### a dict is locked while its keys are walked (or stands locked) -/
def tLk (t : TE) : TE := fun σ H Q => tLockE t σ H Q ∨ t σ H Q
def tLkS (t : TS) : TS := fun D σ H => tLock t D σ H ∨ t D σ H
theorem pe_lk {X : Cx} {e : Expr} {t : TE} (h : PE X e t) : PE X e (tLk t) := ⟨fun pins s σ H Q I q => q.elim (fun q => (pe_lock h).run pins s σ H Q I q) fun q => h.run pins s σ H Q I q⟩
theorem ps_lk {X : Cx} {st : Stmt} {t : TS} (h : PS X st t) : PS X st (tLkS t) := ⟨fun pins s σ H D I q => q.elim (fun q => (ps_lock h).run pins s σ H D I q) fun q => h.run pins s σ H D I q⟩
theorem Ok.lock {d : Addr} {od : Obj} {kvs : List (Key × V)} (k : Ok W ρ μ σ P H) (hp : P d = some (.dK kvs)) : Ok W ρ μ σ P (upd H d (.frz od (.dK kvs))) := by
  refine ⟨⟨fun a o e => ?_, fun a z => ?_, W.loc (fun a z => upd_ne fun e => ?_) k.hx.j, fun p m hm => ?_, k.hx.nod⟩, k.sat, k.len⟩
  · by_cases c : a = d
    · subst c
      rw [hp] at e
      cases e
      exact ⟨_, upd_same, .inr ⟨od, kvs, rfl, rfl⟩⟩
    · rw [upd_ne c]
      exact k.hx.le a o e
  · have := k.hx.z a z
    refine ⟨this.1, ?_⟩
    rw [upd_ne fun e => by rw [e, hp] at this; exact absurd this.1 (fun z => by cases z)]
    exact this.2
  · have := (k.hx.z a z).1
    rw [e, hp] at this
    cases this
  · obtain ⟨h1, h2, h3⟩ := k.hx.mem p m hm
    have ne : p ≠ d := fun e => by rw [e, hp] at h2; cases h2
    refine ⟨h1, h2, ?_⟩
    cases m with
    | lst Rs =>
      obtain ⟨xs, e, r⟩ := h3
      exact ⟨xs, by rw [upd_ne ne]; exact e, r⟩
    | dct kv =>
      show upd H d _ p = _
      rw [upd_ne ne]
      exact h3
    | ins C dx fs =>
      show upd H d _ p = _
      rw [upd_ne ne]
      exact h3
theorem es_lk {t : TE} {i : Nat} {kvs : List (Key × V)} {R : RP} (hi : ρ[i]? = some (some (dctR kvs)))
    (h : ∀ σ P H d od, Ok W ρ μ σ P H → σ[i]? = some (some (.ref d)) → P d ≠ none → H d = some (.frz od (.dK kvs)) → ∀ Q : VK, (∀ v P' H', Stp W P H P' H' → R.r v P' → Q v H') → t σ H Q) : E W ρ μ (tLk t) R := fun σ P H k Q q => by
  obtain ⟨v, hv, d, rfl, hd⟩ := k.sat i _ hi
  have hpd : P d ≠ none := by
    rcases hd with e | ⟨_, e⟩ <;> rw [e] <;> exact fun z => by cases z
  rcases k.hx.le.dK hd with e | ⟨od, e⟩
  · left
    have hp : P d = some (.dK kvs) := by
      rcases hd with e2 | ⟨od, e2⟩
      · exact e2
      · obtain ⟨o', h', s⟩ := k.hx.le d _ e2
        rw [e] at h'
        cases h'
        rcases s with z | ⟨_, _, z, _⟩ <;> cases z
    refine ⟨d, .dK kvs, e, trivial, fun od => ?_⟩
    refine h σ P _ d od (k.lock hp) hv hpd upd_same _ fun v P1 H1 s1 r1 => ?_
    have dz : ¬ W.Z d := not_z (c := ⟨W, P, H, [], none⟩) k.hx hpd
    have h1 : H1 d = some (.frz od (.dK kvs)) := s1.kp d _ dz upd_same
    have p1 : P1 d = some (.dK kvs) := s1.ex d _ hp
    refine ⟨h1, q v P1 _ ⟨s1.ex, fun a o z => ?_, fun a h2 h3 => ?_, fun a o w z => ?_, fun a z => ?_, fun j => ?_⟩ r1⟩
    · by_cases c : a = d
      · subst c
        rw [p1] at z
        cases z
        exact ⟨_, upd_same, .inl rfl⟩
      · rw [upd_ne c]
        exact s1.le a o z
    · refine s1.nw a ?_ h3
      by_cases c : a = d
      · subst c; rw [upd_same]; exact fun z => by cases z
      · rwa [upd_ne c]
    · by_cases c : a = d
      · subst c
        rw [e] at z
        rw [upd_same]
        exact z
      · rw [upd_ne c]
        exact s1.kp a o w (by rw [upd_ne c]; exact z)
    · by_cases c : a = d
      · subst c; rw [upd_same]; exact fun z => by cases z
      · rw [upd_ne c]
        exact s1.dm a (by rwa [upd_ne c])
    · refine W.loc (fun a z => ?_) (s1.j (W.loc (fun a z => ?_) j))
      · exact upd_ne fun e => dz (e ▸ z)
      · exact upd_ne fun e => dz (e ▸ z)
  · right
    exact h σ P H d od k hv hpd e Q q
theorem keys_run {i : Nat} {d : Addr} {od : Obj} {kvs : List (Key × V)} (l : Le P H) (hv : σ[i]? = some (some (.ref d))) (hp : P d ≠ none) (h : H d = some (.frz od (.dK kvs))) :
    ∀ R : It → Hp → Prop, (∀ J P' H', Stp W P H P' H' → ItOk W J (kvs.map fun kv => valR (kV kv.1)) P' H' → R J H') → iKeys (tVar i) σ H R := fun R q =>
  ⟨_, hv, d, od, rfl, .inl ⟨kvs, h, q _ P H (Stp.refl l) (it_keys hp h)⟩⟩
/-- [e for x in d if ..] -/
theorem es_lcK {g : TG} {tt : TT} {vs js : List Nat} {i : Nat} {kvs : List (Key × V)} {RB : Key × V → RP} {f : Key × V → Bool} {ρ' : Key × V → List (Option RP)} (hi : ρ[i]? = some (some (dctR kvs)))
    (hg : ∀ a ∈ kvs, Tg W (wipeR ρ vs) μ g (valR (kV a.1)) (ρ' a) js) (hj : ∀ i ∈ js, i ∈ vs) (ht : ∀ a ∈ kvs, T W (ρ' a) μ tt (f a)) (he : ∀ a ∈ kvs, f a = true → E W (ρ' a) μ te (RB a)) (hl : kvs.length < 100000) :
    E W ρ μ (tLk (tLc (iKeys (tVar i)) g tt te vs)) (lstR ((kvs.filter f).map RB)) :=
  es_lk hi fun σ P H d od k hv hp h Q q => lc_run k (keys_run k.hx.le hv hp h) hg hj ht he hl q
/-- {k: v for x in d if ..} -/
theorem es_dcK {g : TG} {tt : TT} {vs js : List Nat} {i : Nat} {kvs : List (Key × V)} {kf : Key × V → Key} {vf : Key × V → V} {f : Key × V → Bool} {ρ' : Key × V → List (Option RP)} (hi : ρ[i]? = some (some (dctR kvs)))
    (hg : ∀ a ∈ kvs, Tg W (wipeR ρ vs) μ g (valR (kV a.1)) (ρ' a) js) (hj : ∀ i ∈ js, i ∈ vs) (ht : ∀ a ∈ kvs, T W (ρ' a) μ tt (f a)) (hk : ∀ a ∈ kvs, f a = true → E W (ρ' a) μ tk (valR (kV (kf a)))) (hv : ∀ a ∈ kvs, f a = true → E W (ρ' a) μ tv (valR (vf a)))
    (hn : (kvs.map kf).Nodup) (hl : kvs.length < 100000) :
    E W ρ μ (tLk (tDc (iKeys (tVar i)) g tt tk tv vs)) (dctR ((kvs.filter f).map fun a => (kf a, vf a))) :=
  es_lk hi fun σ P H d od k hv' hp h Q q => dc_run k (keys_run k.hx.le hv' hp h) hg hj ht hk hv hn hl q
end

/-! ### statements -/
section
variable {c : Cq} {ρ ρ' : List (Option RP)} {μ : Me} {σ : St} {P H : Hp} {te tk tv : TE} {R : RP} {D : Ends} {t u : TS}
theorem sq (h : t { D with nx := u D } σ H) : tSeq t u D σ H := h
theorem q_set {i : Nat} (a : At c ρ μ σ P H) (e : E c.W ρ μ te R) (k : ∀ v P' H', At c (ρ.set i (some R)) μ (σ.set i (some v)) P' H' → D.nx (σ.set i (some v)) H') : tAsg te (gName i) D σ H :=
  a.e e fun v P' H' a' r => k v P' H' (a'.set r i)
theorem At.tg {g : TG} {js : List Nat} {v : V} (a : At c ρ μ σ P H) (h : Tg c.W ρ μ g R ρ' js) (r : R.r v P) {Q : St → Hp → Prop} (k : ∀ σ', At c ρ' μ σ' P H → Q σ' H) : g v σ H Q :=
  h σ P H v a.ok r Q fun σ' k' _ _ => k σ' ⟨k', a.ex, a.nw, a.kp, a.lc, a.bs, a.fr⟩
/-- a, b = e -/
theorem q_tg {g : TG} {js : List Nat} (a : At c ρ μ σ P H) (e : E c.W ρ μ te R) (h : Tg c.W ρ μ g R ρ' js) (k : ∀ σ' P' H', At c ρ' μ σ' P' H' → D.nx σ' H') : tAsg te g D σ H :=
  a.e e fun v P' H' a' r => a'.tg h r fun σ' a2 => k σ' P' H' a2
theorem q_par {i j : Nat} {ta : TA} {R1 R2 : RP} (a : At c ρ μ σ P H) (e : EA c.W ρ μ ta [R1, R2]) (k : ∀ σ' P' H', At c ((ρ.set i (some R1)).set j (some R2)) μ σ' P' H' → D.nx σ' H') : tPar i j ta D σ H :=
  e σ P H a.ok _ fun vs P' H' s r => by
    obtain ⟨v, w, rfl, r1, r2⟩ := reps_two r
    exact ⟨v, w, rfl, k _ P' H' (((a.step s).set r1 i).set r2 j)⟩
theorem q_aug {i : Nat} {f : Int → Int → Int} {x y : Int} (a : At c ρ μ σ P H) (hi : ρ[i]? = some (some (intR x))) (e : E c.W ρ μ te (intR y)) (k : ∀ v P' H', At c (ρ.set i (some (intR (f x y)))) μ (σ.set i (some v)) P' H' → D.nx (σ.set i (some v)) H') : tAug i te (ipI f) D σ H := by
  obtain ⟨v, hv, rfl⟩ := a.ok.sat i _ hi
  refine ⟨_, hv, a.e e fun v P' H' a' r => ?_⟩
  exact ⟨x, y, rfl, r, k _ P' H' (a'.set (R := intR (f x y)) rfl i)⟩
theorem q_if {tt : TT} {b : Bool} (a : At c ρ μ σ P H) (h : T c.W ρ μ tt b) (h1 : b = true → ∀ P' H', At c ρ μ σ P' H' → t D σ H') (h2 : b = false → ∀ P' H', At c ρ μ σ P' H' → u D σ H') : tIfS tt t u D σ H := by
  refine a.t h fun P' H' a' => ?_
  cases b with
  | true => exact (if_pos rfl).symm ▸ h1 rfl P' H' a'
  | false => exact (if_neg Bool.false_ne_true).symm ▸ h2 rfl P' H' a'
theorem q_drop (a : At c ρ μ σ P H) (e : E c.W ρ μ te R) (k : ∀ P' H', At c ρ μ σ P' H' → D.nx σ H') : tDrop te D σ H := a.e e fun v P' H' a' r => k P' H' a'
theorem q_ret (a : At c ρ μ σ P H) (e : E c.W ρ μ te R) (k : ∀ v P' H', At c ρ μ σ P' H' → R.r v P' → D.rt v H') : tRet te D σ H := a.e e k
/-- .. from a def's entry -/
theorem q_end (a : At c ρ μ σ P H) (e : E c.W ρ μ te R) (hl : c.lk = none) (hW : c.W = W0) (k : ∀ v P' H', Stp W0 c.P0 c.H0 P' H' → R.r v P' → D.rt v H') : tRet te D σ H := a.e e fun v P' H' a' r => by
  refine k v P' H' ?_ r
  have := a'.all hl (fun b z => by rw [hW] at z; exact z.elim) a'.ok.hx.j
  rw [hW] at this
  exact this
/-! changing things -/
theorem At.put {j : Nat} {p : Addr} {m m' : Mo} {o : HO} (a : At c ρ μ σ P H) (hj : μ[j]? = some (p, m)) (h' : m'.at p P (upd H p o)) : At c ρ (μ.set j (p, m')) σ P (upd H p o) := by
  have hm : (p, m) ∈ μ := List.mem_of_getElem? hj
  obtain ⟨z1, z2, z3⟩ := a.ok.hx.mem p m hm
  have ne : ∀ b, P b ≠ none → b ≠ p := fun b h e => h (by rw [e]; exact z2)
  have mem' : ∀ q m2, (q, m2) ∈ μ.set j (p, m') → (q = p ∧ m2 = m') ∨ ((q, m2) ∈ μ ∧ q ≠ p) := fun q m2 h => by
    obtain ⟨i, hi⟩ := List.getElem?_of_mem h
    by_cases c : j = i
    · subst c
      rw [List.getElem?_set_self (List.getElem?_eq_some_iff.mp hj).1] at hi
      cases (Option.some.inj hi)
      exact .inl ⟨rfl, rfl⟩
    · rw [List.getElem?_set_ne c] at hi
      refine .inr ⟨List.mem_of_getElem? hi, fun e => ?_⟩
      subst e
      have h1 : (μ.map (·.1))[j]? = some q := by rw [List.getElem?_map, hj]; rfl
      have h2 : (μ.map (·.1))[i]? = some q := by rw [List.getElem?_map, hi]; rfl
      exact c (nd_ix a.ok.hx.nod h1 h2)
  refine ⟨⟨⟨fun b u e => ?_, fun b z => ?_, c.W.loc (fun b z => upd_ne fun e => z1 (e ▸ z)) a.ok.hx.j, fun q m2 hq => ?_, ?_⟩, a.ok.sat, a.ok.len⟩, a.ex, a.nw, fun b u w e => ?_, fun d od kvs e => ?_, fun B hB => ?_, fun q m2 hq => ?_⟩
  · rw [upd_ne (ne b (by rw [e]; exact fun z => by cases z))]
    exact a.ok.hx.le b u e
  · rw [upd_ne (show b ≠ p from fun e => z1 (e ▸ z))]
    exact a.ok.hx.z b z
  · rcases mem' q m2 hq with ⟨rfl, rfl⟩ | ⟨hq, nq⟩
    · exact ⟨z1, z2, h'⟩
    · obtain ⟨y1, y2, y3⟩ := a.ok.hx.mem q m2 hq
      refine ⟨y1, y2, ?_⟩
      cases m2 with
      | lst Rs =>
        obtain ⟨xs, e, r⟩ := y3
        exact ⟨xs, by rw [upd_ne nq]; exact e, r⟩
      | dct kv =>
        show upd H p o q = _
        rw [upd_ne nq]
        exact y3
      | ins C dx fs =>
        show upd H p o q = _
        rw [upd_ne nq]
        exact y3
  · have e : (μ.set j (p, m')).map (·.1) = μ.map (·.1) := by
      rw [List.map_set]
      refine List.ext_getElem? fun i => ?_
      by_cases c : j = i
      · subst c
        rw [List.getElem?_set_self (by rw [List.length_map]; exact (List.getElem?_eq_some_iff.mp hj).1), List.getElem?_map, hj]
        rfl
      · rw [List.getElem?_set_ne c]
    rw [e]
    exact a.ok.hx.nod
  · have k := a.kp b u w e
    have nb : b ≠ p := fun z => by rw [z, a.fr p m hm] at e; cases e
    cases hl : c.lk with
    | none =>
      rw [hl] at k
      show upd H p o b = some u
      rw [upd_ne nb]
      exact k
    | some q =>
      obtain ⟨d, od, kvs⟩ := q
      rw [hl] at k
      show upd (upd H p o) d (.dK kvs) b = some u
      have k' : upd H d (.dK kvs) b = some u := k
      by_cases eb : b = d
      · subst eb
        rw [upd_same] at k' ⊢
        exact k'
      · rw [upd_ne eb] at k' ⊢
        rw [upd_ne nb]
        exact k'
  · obtain ⟨y1, y2⟩ := a.lc d od kvs e
    exact ⟨y1, by rw [upd_ne (ne d y1)]; exact y2⟩
  · obtain ⟨b1, b2⟩ := a.bs B hB
    refine ⟨b1, fun b u w e => ?_⟩
    have : P b ≠ none := by
      cases q : B.1 b with
      | none => exact absurd q w
      | some o => rw [b1 b o q]; exact fun z => by cases z
    rw [upd_ne (ne b this)]
    exact b2 b u w e
  · rcases mem' q m2 hq with ⟨rfl, rfl⟩ | ⟨hq, _⟩
    · exact a.fr _ m hm
    · exact a.fr q m2 hq
/-- xs.append(e), xs a list of ours -/
theorem q_app {K : PySem.W.Frag} {i j : Nat} {p : Addr} {Rs : List RP} (a : At c ρ μ σ P H) (hi : ρ[i]? = some (some (valR (.ref p)))) (hj : μ[j]? = some (p, .lst Rs)) (e : E c.W ρ μ te R) (hl : Rs.length < 100000)
    (k : ∀ P' H', At c ρ (μ.set j (p, .lst (Rs ++ [R]))) σ P' H' → D.nx σ H') : tDrop (tBM K "list" rAppend (tVar i) (tCons te tNil)) D σ H := by
  obtain ⟨v, hv, rfl⟩ := a.ok.sat i _ hi
  have hm : (p, Mo.lst Rs) ∈ μ := List.mem_of_getElem? hj
  obtain ⟨z1, z2, xs, z3, z4⟩ := a.ok.hx.mem p _ hm
  refine ⟨_, hv, .inl ⟨rfl, xs, SqL.of z3⟩, a.e e fun v P' H' a' r => ?_⟩
  obtain ⟨y1, y2, ys, y3, y4⟩ := a'.ok.hx.mem p _ hm
  refine ⟨p, ys, v, rfl, rfl, y3, ?_, k P' _ (a'.put hj ⟨ys ++ [v], upd_same, reps_app y4 (.cons r .nil)⟩)⟩
  rw [← Paired.length y4, sizeLine_eq]
  omega
/-- d[k] = v, d a dict of ours -/
theorem q_dput {i j : Nat} {p : Addr} {kvs : List (Key × V)} {kk : Key} {x : V} (a : At c ρ μ σ P H) (hi : ρ[i]? = some (some (valR (.ref p)))) (hj : μ[j]? = some (p, .dct kvs)) (ek : E c.W ρ μ tk (valR (kV kk))) (ev : E c.W ρ μ tv (valR x)) (hl : kvs.length < 100000)
    (k : ∀ P' H', At c ρ (μ.set j (p, .dct (putK kvs kk x))) σ P' H' → D.nx σ H') : sDPut (tVar i) tk tv D σ H := by
  obtain ⟨v, hv, rfl⟩ := a.ok.sat i _ hi
  have hm : (p, Mo.dct kvs) ∈ μ := List.mem_of_getElem? hj
  refine a.e ev fun v P1 H1 a1 r1 => ⟨_, hv, a1.e ek fun w P2 H2 a2 r2 => ?_⟩
  obtain ⟨y1, y2, y3⟩ := a2.ok.hx.mem p _ hm
  have r1' : v = x := r1
  have r2' : w = kV kk := r2
  subst r1'
  subst r2'
  exact ⟨p, _, rfl, DPut.k y3 (by rw [sizeLine_eq]; omega), k P2 _ (a2.put hj upd_same)⟩
theorem reps_set {H : Hp} {R : RP} {v : V} (r : R.r v H) : ∀ {Rs : List RP} {xs : List V} (i : Nat), Reps Rs xs H → Reps (Rs.set i R) (xs.set i v) H
  | _, _, _, .nil => .nil
  | _, _, 0, .cons _ t => .cons r t
  | _, _, i + 1, .cons h t => .cons h (reps_set r i t)
/-- xs[i] = e, xs a list of ours -/
theorem q_setL {i j : Nat} {p : Addr} {Rs : List RP} {n : Nat} (a : At c ρ μ σ P H) (hi : ρ[i]? = some (some (valR (.ref p)))) (hj : μ[j]? = some (p, .lst Rs)) (e : E c.W ρ μ te R) (ek : E c.W ρ μ tk (intR (n : Nat))) (hn : n < Rs.length)
    (k : ∀ P' H', At c ρ (μ.set j (p, .lst (Rs.set n R))) σ P' H' → D.nx σ H') : tAsg te (gSub (tVar i) tk rSetL) D σ H := by
  obtain ⟨v, hv, rfl⟩ := a.ok.sat i _ hi
  have hm : (p, Mo.lst Rs) ∈ μ := List.mem_of_getElem? hj
  refine a.e e fun v P1 H1 a1 r1 => ⟨_, hv, ek σ P1 H1 a1.ok _ fun w P2 H2 s2 r2 => ?_⟩
  have a2 := a1.step s2
  obtain ⟨y1, y2, ys, y3, y4⟩ := a2.ok.hx.mem p _ hm
  have r2' : w = .int (n : Nat) := r2
  subst r2'
  have hl : ys.length = Rs.length := (Paired.length y4).symm
  refine ⟨p, ys, (n : Nat), n, rfl, rfl, y3, ?_, k P2 _ (a2.put hj ⟨ys.set n v, upd_same, reps_set ?_ n y4⟩)⟩
  · unfold ixN
    rw [if_pos (by omega), if_pos (by omega)]
    simp
  · exact R.up s2.ex.le r1
end
end Y
end
section
/-! The layer, part 4: things of the def's own made, frozen, lent; loops. -/
namespace Y
open PySem PySem.Spec L2
section
variable {c : Cq} {ρ ρ' : List (Option RP)} {μ : Me} {σ : St} {P H P' H' : Hp} {te tk tv : TE} {R : RP} {D : Ends} {t u : TS}
/-- a new thing of the def's own -/
theorem At.own {p : Addr} {m : Mo} {o : HO} (a : At c ρ μ σ P H) (hp : H p = none) (h : m.at p P (upd H p o)) (i : Nat) (h0 : c.H0 p = none) : At c (ρ.set i (some (valR (.ref p)))) ((p, m) :: μ) (σ.set i (some (.ref p))) P (upd H p o) := by
  have s := a.ok.hx.alloc hp o
  have a1 := (a.step s).set (R := valR (.ref p)) (v := .ref p) rfl i
  refine ⟨⟨⟨a1.ok.hx.le, a1.ok.hx.z, a1.ok.hx.j, fun q m2 hq => ?_, ?_⟩, a1.ok.sat, a1.ok.len⟩, a1.ex, a1.nw, a1.kp, a1.lc, a1.bs, fun q m2 hq => ?_⟩
  · rcases List.mem_cons.mp hq with e | hq
    · cases e
      exact ⟨fun z => (a.ok.hx.z _ z).2 hp, a.ok.hx.le.some hp, h⟩
    · exact a1.ok.hx.mem q m2 hq
  · show (p :: μ.map (·.1)).Nodup
    refine List.nodup_cons.mpr ⟨fun hm => ?_, a.ok.hx.nod⟩
    obtain ⟨⟨q, m2⟩, hq, rfl⟩ := List.mem_map.mp hm
    exact Mo.at_ne (a.ok.hx.mem q m2 hq).2.2 hp
  · rcases List.mem_cons.mp hq with e | hq
    · cases e
      exact h0
    · exact a1.fr q m2 hq
theorem At.h0 (a : At c ρ μ σ P H) {p : Addr} (hp : H p = none) : c.H0 p = none := by
  cases e : c.H0 p with
  | none => rfl
  | some o =>
    by_cases z : c.W.Z p
    · exact absurd hp (a.ok.hx.z p z).2
    · have k := a.kp p o z e
      cases hl : c.lk with
      | none =>
        rw [hl] at k
        have k' : H p = some o := k
        rw [hp] at k'
        cases k'
      | some q =>
        obtain ⟨d, od, kvs⟩ := q
        rw [hl] at k
        have k' : upd H d (.dK kvs) p = some o := k
        by_cases eb : p = d
        · subst eb
          rw [(a.lc _ od kvs hl).2] at hp
          cases hp
        · rw [upd_ne eb, hp] at k'
          cases k'
/-- x = [..] -/
theorem q_newL {i : Nat} {ta : TA} {Rs : List RP} (a : At c ρ μ σ P H) (e : EA c.W ρ μ ta Rs) (hl : Rs.length ≤ 100000)
    (k : ∀ p σ' P' H', At c (ρ.set i (some (valR (.ref p)))) ((p, .lst Rs) :: μ) σ' P' H' → D.nx σ' H') : tAsg (tLst ta) (gName i) D σ H :=
  e σ P H a.ok _ fun vs P1 H1 s r => by
    refine ⟨small_line (by rw [← Paired.length r]; exact hl), fun p hp => ?_⟩
    have a1 := a.step s
    exact k p _ _ _ (a1.own (m := .lst Rs) hp ⟨vs, upd_same, r⟩ i (a1.h0 hp))
/-- x = {} -/
theorem q_newD {i : Nat} (a : At c ρ μ σ P H) (k : ∀ p σ' P' H', At c (ρ.set i (some (valR (.ref p)))) ((p, .dct []) :: μ) σ' P' H' → D.nx σ' H') : tAsg tDNewK (gName i) D σ H := fun p hp =>
  k p _ _ _ (a.own (m := .dct []) hp upd_same i (a.h0 hp))
/-- x = {k: v} -/
theorem q_newD1 {i : Nat} {kk : Key} {x : V} (a : At c ρ μ σ P H) (ek : E c.W ρ μ tk (valR (kV kk))) (ev : E c.W ρ μ tv (valR x)) (k : ∀ p σ' P' H', At c (ρ.set i (some (valR (.ref p)))) ((p, .dct [(kk, x)]) :: μ) σ' P' H' → D.nx σ' H') : tAsg (tDisp [(tk, tv)]) (gName i) D σ H := by
  intro p hp
  have s := a.ok.hx.alloc hp (.dK [])
  refine ek σ P _ (a.step s).ok _ fun v P1 H1 s1 r1 => ?_
  refine ev σ P1 H1 ((a.step s).step s1).ok _ fun w P2 H2 s2 r2 => ?_
  have r1' : v = kV kk := r1
  have r2' : w = x := r2
  subst r1'
  subst r2'
  have z : ¬ c.W.Z p := fun z => (a.ok.hx.z p z).2 hp
  have h2 : H2 p = some (.dK []) := s2.kp p _ z (s1.kp p _ z upd_same)
  have pp := a.ok.hx.le.some hp
  have p1 : P1 p = none := by
    cases e : P1 p with
    | none => rfl
    | some o => exact absurd pp (s1.nw p (by rw [upd_same]; exact fun z => by cases z) (by rw [e]; exact fun z => by cases z))
  have p2 : P2 p = none := by
    cases e : P2 p with
    | none => rfl
    | some o => exact absurd p1 (s2.nw p (by rw [s1.kp p _ z upd_same]; exact fun z => by cases z) (by rw [e]; exact fun z => by cases z))
  refine ⟨h2, [(kk, w)], rfl, by show 1 ≤ 15; decide, ?_⟩
  -- the dict was laid ahead of its pairs: the state with it, of the def's own
  have a0 := (a.own (m := .dct []) hp upd_same i (a.h0 hp))
  have a1 := (a0.step s1).step s2
  have e1 := a1.put (j := 0) (m' := .dct [(kk, w)]) (o := .dK [(kk, w)]) rfl upd_same
  exact k p _ _ _ e1
/-- x = [e for ..], to be changed yet -/
theorem q_newLc {wi : TI} {g : TG} {tt : TT} {vs js : List Nat} {i : Nat} {α : Type} {as : List α} {RA RB : α → RP} {f : α → Bool} {ρ' : α → List (Option RP)} (a : At c ρ μ σ P H) (hs : Src c.W ρ μ wi (as.map RA))
    (hg : ∀ a ∈ as, Tg c.W (wipeR ρ vs) μ g (RA a) (ρ' a) js) (hj : ∀ i ∈ js, i ∈ vs) (ht : ∀ a ∈ as, T c.W (ρ' a) μ tt (f a)) (he : ∀ a ∈ as, f a = true → E c.W (ρ' a) μ te (RB a)) (hl : as.length < 100000)
    (k : ∀ p σ' P' H', At c (ρ.set i (some (valR (.ref p)))) ((p, .lst ((as.filter f).map RB)) :: μ) σ' P' H' → D.nx σ' H') : tAsg (tLc wi g tt te vs) (gName i) D σ H := by
  refine lc_runM a.ok (hs σ P H a.ok) hg hj ht he hl fun p xs P1 H1 s h1 h2 h3 r => ?_
  have a1 := (a.step s).set (R := valR (.ref p)) (v := .ref p) rfl i
  refine k p _ P1 H1 ⟨⟨⟨a1.ok.hx.le, a1.ok.hx.z, a1.ok.hx.j, fun q m2 hq => ?_, ?_⟩, a1.ok.sat, a1.ok.len⟩, a1.ex, a1.nw, a1.kp, a1.lc, a1.bs, fun q m2 hq => ?_⟩
  · rcases List.mem_cons.mp hq with e | hq
    · cases e
      exact ⟨fun z => (a.ok.hx.z _ z).2 h2, h1, xs, h3, r⟩
    · exact a1.ok.hx.mem q m2 hq
  · show (p :: μ.map (·.1)).Nodup
    refine List.nodup_cons.mpr ⟨fun hm => ?_, a.ok.hx.nod⟩
    obtain ⟨⟨q, m2⟩, hq, rfl⟩ := List.mem_map.mp hm
    exact Mo.at_ne (a.ok.hx.mem q m2 hq).2.2 h2
  · rcases List.mem_cons.mp hq with e | hq
    · cases e
      exact a.h0 h2
    · exact a1.fr q m2 hq
def Mo.rp : Mo → RP
  | .lst Rs => lstR Rs
  | .dct kvs => dctR kvs
  | .ins C dx fs => ⟨fun v P => ∃ p, v = .ref p ∧ P p = some (.ins C dx fs), fun l ⟨p, e, h⟩ => ⟨p, e, l.ins h⟩⟩
theorem Mo.at_stand {m : Mo} {p : Addr} (h : m.at p P H) (hp : P p = none) : ∃ o, H p = some o ∧ m.rp.r (.ref p) (upd P p o) := by
  cases m with
  | lst Rs =>
    obtain ⟨xs, e, r⟩ := h
    exact ⟨_, e, p, xs, rfl, upd_same, reps_up (fun a u e => ⟨u, by rw [upd_ne (ne_of_none e hp)]; exact e, .inl rfl⟩) r⟩
  | dct kvs => exact ⟨_, h, p, rfl, .inl upd_same⟩
  | ins C dx fs => exact ⟨_, h, p, rfl, upd_same⟩
theorem sub_erase {μ : Me} {j : Nat} {q : Addr × Mo} (h : q ∈ μ.eraseIdx j) : q ∈ μ := List.mem_of_mem_eraseIdx h
/-- what stands and one thing more -/
theorem Hx.stand {W : Wd} {j : Nat} {p : Addr} {m : Mo} (k : Hx W μ P H) (hj : μ[j]? = some (p, m)) : ∃ o, H p = some o ∧ P p = none ∧ m.rp.r (.ref p) (upd P p o) ∧ Hx W (μ.eraseIdx j) (upd P p o) H := by
  have hm : (p, m) ∈ μ := List.mem_of_getElem? hj
  obtain ⟨z1, z2, z3⟩ := k.mem p m hm
  obtain ⟨o, ho, r⟩ := Mo.at_stand z3 z2
  refine ⟨o, ho, z2, r, fun a u e => ?_, fun a z => ?_, k.j, fun q m2 hq => ?_, ?_⟩
  · by_cases e2 : a = p
    · subst e2
      rw [upd_same] at e
      cases e
      exact ⟨_, ho, .inl rfl⟩
    · rw [upd_ne e2] at e
      exact k.le a u e
  · exact ⟨by rw [upd_ne (show a ≠ p from fun e => z1 (e ▸ z))]; exact (k.z a z).1, (k.z a z).2⟩
  · obtain ⟨y1, y2, y3⟩ := k.mem q m2 (sub_erase hq)
    have nq : q ≠ p := fun e => by
      subst e
      obtain ⟨i, hi⟩ := List.getElem?_of_mem hq
      rw [List.getElem?_eraseIdx] at hi
      have h1 : (μ.map (·.1))[j]? = some q := by rw [List.getElem?_map, hj]; rfl
      by_cases l : i < j
      · rw [if_pos l] at hi
        have h2 : (μ.map (·.1))[i]? = some q := by rw [List.getElem?_map, hi]; rfl
        have := nd_ix k.nod h1 h2
        omega
      · rw [if_neg l] at hi
        have h2 : (μ.map (·.1))[i + 1]? = some q := by rw [List.getElem?_map, hi]; rfl
        have := nd_ix k.nod h1 h2
        omega
    refine ⟨y1, by rw [upd_ne nq]; exact y2, ?_⟩
    cases m2 with
    | lst Rs =>
      obtain ⟨xs, e, r⟩ := y3
      exact ⟨xs, e, reps_up (fun a u e => ⟨u, by rw [upd_ne (ne_of_none e z2)]; exact e, .inl rfl⟩) r⟩
    | dct kv => exact y3
    | ins C dx fs => exact y3
  · exact List.Sublist.nodup (List.Sublist.map _ (List.eraseIdx_sublist _ _)) k.nod
theorem Ex.upd {p : Addr} {o : HO} (h : P p = none) : Ex P (upd P p o) := fun a u e => by
  rw [upd_ne (ne_of_none e h)]
  exact e
/-- it changes no more: it stands -/
theorem At.freeze {j i : Nat} {p : Addr} {m : Mo} (a : At c ρ μ σ P H) (hj : μ[j]? = some (p, m)) (hi : ρ[i]? = some (some (valR (.ref p)))) : ∃ P', At c (ρ.set i (some m.rp)) (μ.eraseIdx j) σ P' H := by
  obtain ⟨o, ho, hp, r, k⟩ := a.ok.hx.stand hj
  have ex : Ex P (upd P p o) := Ex.upd hp
  have hm : (p, m) ∈ μ := List.mem_of_getElem? hj
  obtain ⟨v, hv, rfl⟩ := a.ok.sat i _ hi
  refine ⟨upd P p o, ⟨k, fun l S e => ?_, by rw [List.length_set]; exact a.ok.len⟩, a.ex.trans ex, fun b h1 h2 => ?_, a.kp, fun d od kvs e => ?_, fun B hB => ?_, fun q m2 hq => a.fr q m2 (sub_erase hq)⟩
  · by_cases e2 : i = l
    · subst e2
      rw [List.getElem?_set_self (List.getElem?_eq_some_iff.mp hi).1] at e
      cases (Option.some.inj (Option.some.inj e))
      exact ⟨_, hv, r⟩
    · rw [List.getElem?_set_ne e2] at e
      obtain ⟨w, hw, rw'⟩ := a.ok.sat l S e
      exact ⟨w, hw, S.up ex.le rw'⟩
  · by_cases e2 : b = p
    · subst e2
      exact absurd (a.fr _ m hm) h1
    · rw [upd_ne e2] at h2
      exact a.nw b h1 h2
  · obtain ⟨y1, y2⟩ := a.lc d od kvs e
    refine ⟨?_, y2⟩
    rw [upd_ne fun e => y1 (by rw [e]; exact hp)]
    exact y1
  · obtain ⟨b1, b2⟩ := a.bs B hB
    exact ⟨b1.trans ex, b2⟩
end
section
variable {W : Wd} {ρ : List (Option RP)} {μ : Me} {te : TE} {tt : TT} {R : RP}
theorem Ok.lend {σ : St} {P H : Hp} {j i : Nat} {p : Addr} {m : Mo} (k : Ok W ρ μ σ P H) (hj : μ[j]? = some (p, m)) (hi : ρ[i]? = some (some (valR (.ref p)))) : ∃ o, P p = none ∧ Ok W (ρ.set i (some m.rp)) (μ.eraseIdx j) σ (upd P p o) H := by
  obtain ⟨o, ho, hp, r, kx⟩ := k.hx.stand hj
  obtain ⟨v, hv, rfl⟩ := k.sat i _ hi
  refine ⟨o, hp, kx, fun l S e => ?_, by rw [List.length_set]; exact k.len⟩
  by_cases e2 : i = l
  · subst e2
    rw [List.getElem?_set_self (List.getElem?_eq_some_iff.mp hi).1] at e
    cases (Option.some.inj (Option.some.inj e))
    exact ⟨_, hv, r⟩
  · rw [List.getElem?_set_ne e2] at e
    obtain ⟨w, hw, rw'⟩ := k.sat l S e
    exact ⟨w, hw, S.up (Ex.upd hp).le rw'⟩
theorem lend_back {P P1 H H1 : Hp} {p : Addr} {o : HO} (hp : P p = none) (s : Stp W (upd P p o) H P1 H1) : Stp W P H P H1 :=
  ⟨Ex.refl P, fun a u e => s.le a u (s.ex a u (by rw [upd_ne (ne_of_none e hp)]; exact e)), fun _ _ h => h, s.kp, s.dm, s.j⟩
/-- a test reads a thing of the def's own -/
theorem et_lend {b : Bool} {j : Nat} {p : Addr} {m : Mo} (i : Nat) (hj : μ[j]? = some (p, m)) (hi : ρ[i]? = some (some (valR (.ref p)))) (h : T W (ρ.set i (some m.rp)) (μ.eraseIdx j) tt b) : T W ρ μ tt b := fun σ P H k Q q => by
  obtain ⟨o, hp, k'⟩ := k.lend hj hi
  exact h σ _ H k' Q fun P1 H1 s => q P H1 (lend_back hp s)
/-- an expression does, its value is none of the heap -/
theorem es_lend {x : V} {j : Nat} {p : Addr} {m : Mo} (i : Nat) (hj : μ[j]? = some (p, m)) (hi : ρ[i]? = some (some (valR (.ref p)))) (h : E W (ρ.set i (some m.rp)) (μ.eraseIdx j) te (valR x)) : E W ρ μ te (valR x) := fun σ P H k Q q => by
  obtain ⟨o, hp, k'⟩ := k.lend hj hi
  exact h σ _ H k' Q fun v P1 H1 s r => q v P H1 (lend_back hp s) r
end

/-! ### loops -/
def Cq.push (c : Cq) (B : Hp × Hp) : Cq := { c with Bs := B :: c.Bs }
section
variable {c : Cq} {ρ ρ' : List (Option RP)} {μ μ' : Me} {σ : St} {P H P' H' : Hp} {D : Ends} {t u : TS}
theorem At.push (a : At c ρ μ σ P H) : At (c.push (P, H)) ρ μ σ P H := ⟨a.ok, a.ex, a.nw, a.kp, a.lc, fun B hB => by
  rcases List.mem_cons.mp hB with e | hB
  · subst e
    exact ⟨Ex.refl P, fun _ _ _ e => e⟩
  · exact a.bs B hB, a.fr⟩
theorem At.pop {B : Hp × Hp} (a : At (c.push B) ρ μ σ P H) : At c ρ μ σ P H := ⟨a.ok, a.ex, a.nw, a.kp, a.lc, fun B hB => a.bs B (List.mem_cons_of_mem _ hB), a.fr⟩
/-- what holds between two turns: x says more of the state -/
def Iv {X : Type} (ok : Nat → X → Prop) (ρi : Nat → X → List (Option RP)) (μi : Nat → X → Me) (c : Cq) (k : Nat) : St → Hp → Prop := fun σ H => ∃ x P, ok k x ∧ At c (ρi k x) (μi k x) σ P H
theorem for_run {wi : TI} {g : TG} {tb : TS} {α : Type} {as : List α} {RA : α → RP} {X : Type} (ok : Nat → X → Prop) (ρi : Nat → X → List (Option RP)) (μi : Nat → X → Me) {ρt : Nat → X → α → List (Option RP)} {js : List Nat}
    (hs : ∀ R : It → Hp → Prop, (∀ J P' H', At c ρ μ σ P' H' → ItOk c.W J (as.map RA) P' H' → R J H') → wi σ H R)
    (h0 : ∀ P' H', At c ρ μ σ P' H' → ∃ x, ok 0 x ∧ At c (ρi 0 x) (μi 0 x) σ P' H')
    (hg : ∀ k x a, as[k]? = some a → ok k x → Tg c.W (ρi k x) (μi k x) g (RA a) (ρt k x a) js)
    (hb : ∀ B k x a σ P H, as[k]? = some a → ok k x → At (c.push B) (ρt k x a) (μi k x) σ P H → tb { D with nx := Iv ok ρi μi (c.push B) (k + 1), ct := Iv ok ρi μi (c.push B) (k + 1), bk := D.nx } σ H)
    (hd : ∀ x σ P H, ok as.length x → At c (ρi as.length x) (μi as.length x) σ P H → D.nx σ H) : tFor wi g tb D σ H := by
  refine hs _ fun J P1 H1 a1 it => ?_
  refine ⟨fun i m σ H => m = as.length - i ∧ i ≤ as.length ∧ Iv ok ρi μi (c.push (P1, H1)) i σ H, ?_, ?_⟩
  · obtain ⟨x, hx, ax⟩ := h0 P1 H1 a1
    exact ⟨_, rfl, Nat.zero_le _, x, P1, hx, ax.push⟩
  rintro i m σ2 H2 ⟨rfl, hi, x, P2, hx, a2⟩
  obtain ⟨b1, b2⟩ := a2.bs (P1, H1) List.mem_cons_self
  by_cases l : i < as.length
  · right
    have ha := List.getElem?_eq_getElem l
    obtain ⟨hgo, hy⟩ := it.go i (RA as[i]) (μi i x) P2 H2 (by rw [List.getElem?_map, ha]; rfl) a2.ok.hx b1 b2
    refine ⟨hgo, _, fun σ' H' h => ⟨as.length - (i + 1), by omega, rfl, by omega, h⟩, fun v H3 y => ?_⟩
    obtain ⟨P3, s3, r3⟩ := hy v H3 y
    exact (a2.step s3).tg (hg i x _ ha hx) r3 fun σ' a3 => hb _ i x _ σ' P3 H3 ha hx a3
  · left
    have e : i = as.length := by omega
    subst e
    exact ⟨it.stop _ (μi _ x) P2 H2 (by rw [List.length_map]; exact Nat.le_refl _) a2.ok.hx b1 b2, hd x σ2 P2 H2 hx a2.pop⟩
theorem q_for {wi : TI} {g : TG} {tb : TS} {α : Type} {as : List α} {RA : α → RP} {X : Type} (ok : Nat → X → Prop) (ρi : Nat → X → List (Option RP)) (μi : Nat → X → Me) {ρt : Nat → X → α → List (Option RP)} {js : List Nat}
    (a : At c ρ μ σ P H) (hs : Src c.W ρ μ wi (as.map RA))
    (h0 : ∀ P' H', At c ρ μ σ P' H' → ∃ x, ok 0 x ∧ At c (ρi 0 x) (μi 0 x) σ P' H')
    (hg : ∀ k x a, as[k]? = some a → ok k x → Tg c.W (ρi k x) (μi k x) g (RA a) (ρt k x a) js)
    (hb : ∀ B k x a σ P H, as[k]? = some a → ok k x → At (c.push B) (ρt k x a) (μi k x) σ P H → tb { D with nx := Iv ok ρi μi (c.push B) (k + 1), ct := Iv ok ρi μi (c.push B) (k + 1), bk := D.nx } σ H)
    (hd : ∀ x σ P H, ok as.length x → At c (ρi as.length x) (μi as.length x) σ P H → D.nx σ H) : tFor wi g tb D σ H :=
  for_run ok ρi μi (fun R q => hs σ P H a.ok R fun J P' H' s it => q J P' H' (a.step s) it) h0 hg hb hd
/-- the keys of a dict, locked by this loop or locked already; the body neither breaks nor hands back -/
theorem q_forK {j : Nat} {g : TG} {tb : TS} {kvs : List (Key × V)} {X : Type} (ok : Nat → X → Prop) (ρi : Nat → X → List (Option RP)) (μi : Nat → X → Me) {ρt : Nat → X → Key × V → List (Option RP)} {js : List Nat}
    (a : At c ρ μ σ P H) (hl : c.lk = none) (hi : ρ[j]? = some (some (dctR kvs)))
    (h0 : ∀ c', c'.W = c.W → ∀ P' H', At c' ρ μ σ P' H' → ∃ x, ok 0 x ∧ At c' (ρi 0 x) (μi 0 x) σ P' H')
    (hg : ∀ k x a, kvs[k]? = some a → ok k x → Tg c.W (ρi k x) (μi k x) g (valR (kV a.1)) (ρt k x a) js)
    (hb : ∀ c', c'.W = c.W → ∀ rt bk k x a σ P H, kvs[k]? = some a → ok k x → At c' (ρt k x a) (μi k x) σ P H → tb ⟨Iv ok ρi μi c' (k + 1), rt, bk, Iv ok ρi μi c' (k + 1)⟩ σ H)
    (hd : ∀ x σ P H, ok kvs.length x → At c (ρi kvs.length x) (μi kvs.length x) σ P H → D.nx σ H) : tLkS (tFor (iKeys (tVar j)) g tb) D σ H := by
  obtain ⟨v, hv, d, rfl, hrd⟩ := a.ok.sat j _ hi
  have hpd : P d ≠ none := by
    rcases hrd with e | ⟨_, e⟩ <;> rw [e] <;> exact fun z => by cases z
  rcases a.ok.hx.le.dK hrd with e | ⟨od, e⟩
  · left
    have hp : P d = some (.dK kvs) := by
      rcases hrd with e2 | ⟨od, e2⟩
      · exact e2
      · obtain ⟨o', h', s⟩ := a.ok.hx.le d _ e2
        rw [e] at h'
        cases h'
        rcases s with z | ⟨_, _, z, _⟩ <;> cases z
    refine ⟨d, .dK kvs, e, trivial, fun od => ?_⟩
    have al : At ⟨c.W, c.P0, c.H0, [(P, upd H d (.frz od (.dK kvs)))], some (d, od, kvs)⟩ ρ μ σ P (upd H d (.frz od (.dK kvs))) := by
      refine ⟨a.ok.lock hp, a.ex, a.nw, fun b o z e2 => ?_, fun d' od' kvs' e2 => ?_, fun B hB => ?_, a.fr⟩
      · have k := a.kp b o z e2
        rw [hl] at k
        have k' : H b = some o := k
        show upd (upd H d _) d (.dK kvs) b = some o
        by_cases eb : b = d
        · subst eb
          rw [upd_same]
          rw [e] at k'
          exact k'
        · rw [upd_ne eb, upd_ne eb]
          exact k'
      · cases e2
        exact ⟨hpd, upd_same⟩
      · rcases List.mem_cons.mp hB with e2 | hB
        · subst e2
          exact ⟨Ex.refl P, fun _ _ _ e => e⟩
        · cases hB
    refine for_run (c := ⟨c.W, c.P0, c.H0, [(P, upd H d (.frz od (.dK kvs)))], some (d, od, kvs)⟩) (as := kvs) (RA := fun kv => valR (kV kv.1)) ok ρi μi (ρ := ρ) (μ := μ) (js := js) (ρt := ρt)
      (fun R q => ⟨_, hv, d, od, rfl, .inl ⟨kvs, upd_same, q _ P _ al (it_keys hpd upd_same)⟩⟩) (fun P' H' a' => h0 ⟨c.W, c.P0, c.H0, [(P, upd H d (.frz od (.dK kvs)))], some (d, od, kvs)⟩ rfl P' H' a') hg (fun B k x b σ1 P1 H1 h1 h2 h3 => hb ((Cq.mk c.W c.P0 c.H0 [(P, upd H d (.frz od (.dK kvs)))] (some (d, od, kvs))).push B) rfl _ _ k x b σ1 P1 H1 h1 h2 h3) fun x σ2 P2 H2 hx a2 => ?_
    obtain ⟨y1, y2⟩ := a2.lc d od kvs rfl
    obtain ⟨b1, b2⟩ := a2.bs _ List.mem_cons_self
    have p2 : P2 d = some (.dK kvs) := b1 d _ hp
    refine ⟨y2, hd x σ2 P2 _ hx ⟨⟨⟨fun b o z => ?_, fun b z => ?_, c.W.loc (fun b z => upd_ne fun e => ?_) a2.ok.hx.j, fun q m2 hq => ?_, a2.ok.hx.nod⟩, a2.ok.sat, a2.ok.len⟩, a2.ex, a2.nw, fun b o z e2 => ?_, fun d' od' kvs' e2 => ?_, fun B hB => ?_, a2.fr⟩⟩
    · by_cases eb : b = d
      · subst eb
        rw [p2] at z
        cases z
        exact ⟨_, upd_same, .inl rfl⟩
      · rw [upd_ne eb]
        exact a2.ok.hx.le b o z
    · have h := a2.ok.hx.z b z
      refine ⟨h.1, ?_⟩
      rw [upd_ne fun e => y1 (by rw [← e]; exact h.1)]
      exact h.2
    · exact not_z a2.ok.hx y1 (e ▸ z)
    · obtain ⟨z1, z2, z3⟩ := a2.ok.hx.mem q m2 hq
      have nq : q ≠ d := fun e => y1 (by rw [← e]; exact z2)
      refine ⟨z1, z2, ?_⟩
      cases m2 with
      | lst Rs =>
        obtain ⟨xs, e, r⟩ := z3
        exact ⟨xs, by rw [upd_ne nq]; exact e, r⟩
      | dct kv =>
        show upd H2 d _ q = _
        rw [upd_ne nq]
        exact z3
      | ins C dx fs =>
        show upd H2 d _ q = _
        rw [upd_ne nq]
        exact z3
    · have k := a2.kp b o z e2
      rw [hl]
      exact k
    · rw [hl] at e2
      cases e2
    · obtain ⟨c1, c2⟩ := a.bs B hB
      refine ⟨c1.trans b1, fun b o h1 h2 => ?_⟩
      have hb : H b = some o := c2 b o h1 h2
      by_cases eb : b = d
      · subst eb
        rw [e] at hb
        rw [upd_same]
        exact hb
      · rw [upd_ne eb]
        refine b2 b o ?_ (by show upd H d _ b = some o; rw [upd_ne eb]; exact hb)
        show P b ≠ none
        cases q : B.1 b with
        | none => exact absurd q h1
        | some u => rw [c1 b u q]; exact fun z => by cases z
  · right
    refine for_run (as := kvs) (RA := fun kv => valR (kV kv.1)) ok ρi μi (ρ := ρ) (μ := μ) (js := js) (ρt := ρt) (fun R q => ⟨_, hv, d, od, rfl, .inl ⟨kvs, e, q _ P H a (it_keys hpd e)⟩⟩) (fun P' H' a' => h0 c rfl P' H' a') hg
      (fun B k x b σ P H h1 h2 h3 => hb (c.push B) rfl _ _ k x b σ P H h1 h2 h3) hd
/-- while -/
theorem q_while {tc : TT} {tb : TS} {X : Type} (ok : X → Prop) (m : X → Nat) (ρi : X → List (Option RP)) (μi : X → Me) (b : X → Bool) (h0 : ∃ x, ok x ∧ At c (ρi x) (μi x) σ P H) (ht : ∀ x, ok x → T c.W (ρi x) (μi x) tc (b x))
    (hs : ∀ x σ P H, ok x → b x = true → At c (ρi x) (μi x) σ P H → tb { D with nx := fun σ H => ∃ x' P, m x' < m x ∧ ok x' ∧ At c (ρi x') (μi x') σ P H, ct := fun σ H => ∃ x' P, m x' < m x ∧ ok x' ∧ At c (ρi x') (μi x') σ P H, bk := D.nx } σ H)
    (hd : ∀ x σ P H, ok x → b x = false → At c (ρi x) (μi x) σ P H → D.nx σ H) : tWhile tc tb D σ H := by
  obtain ⟨x, hx, ax⟩ := h0
  refine ⟨fun k σ H => ∃ x P, k = m x ∧ ok x ∧ At c (ρi x) (μi x) σ P H, ⟨_, x, P, rfl, hx, ax⟩, ?_⟩
  rintro k σ1 H1 ⟨x, P1, rfl, hx, a1⟩
  refine a1.t (ht x hx) fun P2 H2 a2 => ?_
  cases e : b x with
  | true =>
    refine (if_pos rfl).symm ▸ ⟨_, fun σ' H' h => ?_, hs x σ1 P2 H2 hx e a2⟩
    obtain ⟨x', P', l, h1, h2⟩ := h
    exact ⟨m x', l, x', P', rfl, h1, h2⟩
  | false => exact (if_neg Bool.false_ne_true).symm ▸ hd x σ1 P2 H2 hx e a2
end
end Y
end
section
/-! The layer, part 5: operators and built-ins: one reading for each, and what it gives by what the values stand for. -/
namespace Y
open PySem PySem.Spec L2
/-! ### data -/
def Tells (K : PySem.W.Frag) (R : RP) (d : PyData) : Prop := ∀ v P H, Le P H → R.r v P → Dp K H v d
section
variable {K : PySem.W.Frag}
theorem tells_int {i : Int} : Tells K (intR i) (.int i) := fun v P H l r => by
  have e : v = .int i := r
  subst e
  exact .int i
theorem tells_bl {b : Bool} : Tells K (blR b) (.bool b) := fun v P H l r => by
  have e : v = .bl b := r
  subst e
  exact .bl b
theorem tells_non : Tells K nonR .none := fun v P H l r => by
  have e : v = .non := r
  subst e
  exact .non
theorem tells_str {x : Str} : Tells K (valR (.str x)) (.str x) := fun v P H l r => by
  have e : v = .str x := r
  subst e
  exact .str x
theorem tells_all {P H : Hp} (l : Le P H) : ∀ {Rs : List RP} {ds : List PyData} {xs : List V}, Paired (Tells K) Rs ds → Reps Rs xs P → DpAll K H xs ds
  | _, _, _, .nil, .nil => .nil
  | _, _, _, .cons h t, .cons r s => .cons (h _ _ _ l r) (tells_all l t s)
theorem tells_tup {Rs : List RP} {ds : List PyData} (h : Paired (Tells K) Rs ds) : Tells K (tupR Rs) (.tuple ds) := fun v P H l ⟨p, xs, e, hp, r⟩ => by
  subst e
  exact .tup (SqT.of (l.tup hp)) (tells_all l h r)
theorem tells_lst {Rs : List RP} {ds : List PyData} (h : Paired (Tells K) Rs ds) : Tells K (lstR Rs) (.list ds) := fun v P H l ⟨p, xs, e, hp, r⟩ => by
  subst e
  exact .lst (SqL.of (l.lst hp)) (tells_all l h r)
theorem tells_map {α : Type} {f : α → RP} {g : α → PyData} (h : ∀ a, Tells K (f a) (g a)) : ∀ l : List α, Paired (Tells K) (l.map f) (l.map g)
  | [] => .nil
  | a :: l => .cons (h a) (tells_map h l)
theorem eqvAll_ints : ∀ ns ms : List Int, PyData.eqvAll (ns.map .int) (ms.map .int) = decide (ns = ms)
  | [], [] => by simp [PyData.eqvAll]
  | [], _ :: _ => by simp [PyData.eqvAll]
  | _ :: _, [] => by simp [PyData.eqvAll]
  | n :: ns, m :: ms => by
    rw [List.map_cons, List.map_cons, PySem.W.eqv_all_cons, eqvAll_ints ns ms]
    by_cases c : n = m <;> simp [PyData.eqv, c]
theorem depthAll_ints (ns : List Int) : PyData.depthAll (ns.map .int) = 0 := PySem.W.depth_ints ns
theorem canLay_ints : ∀ ns : List Int, PyData.canLayAll0 (ns.map .int) = true
  | [] => by simp [PyData.canLayAll0]
  | n :: ns => by
    rw [List.map_cons]
    simp [PyData.canLayAll0, PyData.canLay0, canLay_ints ns]
end
/-! ### operators -/
def uAdd : R2 := fun x y H Q => rI0 (fun i j => .int (i + j)) x y H Q ∨ rCat x y H Q
def uSub : R2 := rI0 fun i j => .int (i - j)
def uMul (K : PySem.W.Frag) : R2 := fun x y H Q => rI CMul (fun i j => .int (i * j)) x y H Q ∨ rRep x y H Q
def uDiv : R2 := rI CDiv fun i j => .int (i / j)
def uMod : R2 := rI (fun _ j => 0 < j) fun i j => .int (i % j)
def uPow : R2 := rI CPow fun i j => .int (i ^ j.toNat)
def uNeg : V → Hp → VK → Prop := rU fun i => .int (-i)
def rLtD (K : PySem.W.Frag) : R2 := fun x y H Q => ∃ d e, Dp K H x d ∧ Dp K H y e ∧ PySem.W.alike d e = true ∧ d ≠ .none ∧ d.depth ≤ 60 ∧ Q (.bl (PySem.W.dataLt d e)) H
def uLt (K : PySem.W.Frag) : R2 := fun x y H Q => rI0 (fun i j => .bl (decide (i < j))) x y H Q ∨ rLtD K x y H Q
def uLe : R2 := rI0 fun i j => .bl (decide (i ≤ j))
def uGt : R2 := rI0 fun i j => .bl (decide (j < i))
def uGe : R2 := rI0 fun i j => .bl (decide (j ≤ i))
def uEq (K : PySem.W.Frag) : R2 := fun x y H Q => rEq x y H Q ∨ rEqD K x y H Q
def uNe (K : PySem.W.Frag) : R2 := fun x y H Q => rNe x y H Q ∨ rNeD K x y H Q
def uIs : R2 := fun x y H Q => y = .non ∧ Q (.bl (decide (x = .non))) H
def uIsNot : R2 := fun x y H Q => y = .non ∧ Q (.bl (!decide (x = .non))) H
def rInD : R2 := fun y x H Q => ∃ a o, x = .ref a ∧ DGet H a y o ∧ Q (.bl o.isSome) H
def rNotInD : R2 := fun y x H Q => ∃ a o, x = .ref a ∧ DGet H a y o ∧ Q (.bl (!o.isSome)) H
def rInStr : R2 := fun x y H Q => ∃ i j, x = .str i ∧ y = .str j ∧ Q (.bl (!(Builtin.Str.occurrences j i 0 j.length 1).isEmpty)) H
def uIn (K : PySem.W.Frag) : R2 := fun x y H Q => rIn K false x y H Q ∨ rInD x y H Q ∨ rInStr x y H Q
def uNotIn (K : PySem.W.Frag) : R2 := fun x y H Q => rIn K true x y H Q ∨ rNotInD x y H Q
section
variable {X : Cx}
theorem op_uAdd : OpR X (binaryOp .Add) uAdd := OpR.or op_add op_cat
theorem op_uSub : OpR X (binaryOp .Sub) uSub := op_sub
theorem op_uMul : OpR X (binaryOp .Mult) (uMul X.K) := OpR.or op_mul op_rep
theorem op_uDiv : OpR X (binaryOp .FloorDiv) uDiv := op_fdiv
theorem op_uMod : OpR X (binaryOp .Mod) uMod := op_mod
theorem op_uPow : OpR X (binaryOp .Pow) uPow := op_pow
theorem un_uNeg : UnR X (unaryOp .USub) uNeg := un_neg
theorem op_ltD (hu : X.A.units + 64 < cLine) : OpR X (compareOp .Lt) (rLtD X.K) := by
  intro pins s σ H x y v u Q I rx ry h
  obtain ⟨d, e, hd, he, ha, hn, hz, q⟩ := h
  obtain ⟨as, r1⟩ := Dp.reads I d x v hd rx
  obtain ⟨bs, r2⟩ := Dp.reads I e y u he ry
  have lt := PySem.W.rcLt_alike d e X.A s v u as bs r1 r2 ha hn (by have := Nat.min_le_left d.depth e.depth; omega)
  exact lt X.prog X.w X.xe _ ⟨.bl _, H, I, rfl, q⟩
theorem op_uLt (hu : X.A.units + 64 < cLine) : OpR X (compareOp .Lt) (uLt X.K) := OpR.or op_lt (op_ltD hu)
theorem op_uLe : OpR X (compareOp .LtE) uLe := op_le
theorem op_uGt : OpR X (compareOp .Gt) uGt := op_gt
theorem op_uGe : OpR X (compareOp .GtE) uGe := op_ge
theorem op_uEq (hu : X.A.units + 64 < cLine) : OpR X (compareOp .Eq) (uEq X.K) := OpR.or op_eq (op_eqD hu)
theorem op_uNe (hu : X.A.units + 64 < cLine) : OpR X (compareOp .NotEq) (uNe X.K) := OpR.or op_ne (op_neD hu)
theorem op_uIs : OpR X (compareOp .Is) uIs := op_isN
theorem op_uIsNot : OpR X (compareOp .IsNot) uIsNot := op_notN
theorem op_inD (hu : X.A.units + 1 < cLine) : OpR X (compareOp .In) rInD := by
  intro pins s σ H y x u v Q I ry rx h
  obtain ⟨a, o, rfl, g, q⟩ := h
  obtain rfl : v = Value.ref a := rx
  exact d_in hu I g ry fun s' I' => ⟨.bl _, H, I', rfl, q⟩
theorem op_notInD (hu : X.A.units + 1 < cLine) : OpR X (compareOp .NotIn) rNotInD := by
  intro pins s σ H y x u v Q I ry rx h
  obtain ⟨a, o, rfl, g, q⟩ := h
  obtain rfl : v = Value.ref a := rx
  exact d_notIn hu I g ry fun s' I' => ⟨.bl _, H, I', rfl, q⟩
theorem op_uIn (hu : X.A.units + 1 < cLine) : OpR X (compareOp .In) (uIn X.K) := OpR.or op_in_seq (OpR.or (op_inD hu) op_in_str)
theorem op_uNotIn (hu : X.A.units + 1 < cLine) : OpR X (compareOp .NotIn) (uNotIn X.K) := OpR.or op_notIn_seq (op_notInD hu)
end
/-! what they give -/
section
variable {W : Wd} {μ : Me} {K : PySem.W.Frag}
theorem o2_val {r : R2} {x y z : V} (h : ∀ H (Q : VK), Q z H → r x y H Q) : O2 W μ r (valR x) (valR y) (valR z) := fun P H v w k r1 r2 Q q => by
  have e1 : v = x := r1
  have e2 : w = y := r2
  subst e1
  subst e2
  exact h H Q (q z P H (Stp.refl k.le) rfl)
theorem o2_add {i j : Int} : O2 W μ uAdd (intR i) (intR j) (intR (i + j)) := o2_val fun H Q q => .inl ⟨i, j, rfl, rfl, q⟩
theorem o2_cat {Rs Ss : List RP} (h : Rs.length + Ss.length ≤ 100000) : O2 W μ uAdd (lstR Rs) (lstR Ss) (lstR (Rs ++ Ss)) := fun P H v w k ⟨p, xs, e1, h1, r1⟩ ⟨q', ys, e2, h2, r2⟩ Q q => by
  subst e1
  subst e2
  refine .inr ⟨p, q', xs, ys, rfl, rfl, k.le.lst h1, k.le.lst h2, small_line (by rw [← Paired.length r1, ← Paired.length r2]; exact h), fun n hn => ?_⟩
  have s := k.new hn (.lst (xs ++ ys))
  exact q _ _ _ s ⟨n, _, rfl, upd_same, reps_up s.ex.le (reps_app r1 r2)⟩
theorem o2_sub {i j : Int} : O2 W μ uSub (intR i) (intR j) (intR (i - j)) := o2_val fun H Q q => ⟨i, j, rfl, rfl, q⟩
theorem o2_mul {i j : Int} (h : CMul i j) : O2 W μ (uMul K) (intR i) (intR j) (intR (i * j)) := o2_val fun H Q q => .inl ⟨i, j, rfl, rfl, h, q⟩
/-- [x] * n -/
theorem reps_rep {P : Hp} {R : RP} {x : V} (r : R.r x P) : ∀ n : Nat, Reps (List.replicate n R) (List.replicate n [x]).flatten P
  | 0 => .nil
  | n + 1 => by
    rw [List.replicate_succ, List.replicate_succ, List.flatten_cons]
    exact .cons r (reps_rep r n)
theorem o2_rep1 {R : RP} {k : Int} (h : 0 ≤ k ∧ k ≤ 100000) : O2 W μ (uMul K) (lstR [R]) (intR k) (lstR (List.replicate k.toNat R)) := fun P H v w kk ⟨p, xs, e1, h1, r1⟩ r2 Q q => by
  subst e1
  have e2 : w = .int k := r2
  subst e2
  obtain ⟨x, rfl, rx⟩ := reps_one r1
  refine .inr ⟨p, k, [x], rfl, rfl, kk.le.lst h1, by omega, by omega, ?_, fun n hn => ?_⟩
  · rw [sizeLine_eq]
    show 1 * k.toNat ≤ 16777216
    omega
  · have s := kk.new hn (.lst (List.replicate k.toNat [x]).flatten)
    exact q _ _ _ s ⟨n, _, rfl, upd_same, reps_up s.ex.le (reps_rep rx k.toNat)⟩
theorem o2_div {i j : Int} (h : 0 < j ∧ j < 1073741824) : O2 W μ uDiv (intR i) (intR j) (intR (i / j)) := o2_val fun H Q q => ⟨i, j, rfl, rfl, h, q⟩
theorem o2_mod {i j : Int} (h : 0 < j) : O2 W μ uMod (intR i) (intR j) (intR (i % j)) := o2_val fun H Q q => ⟨i, j, rfl, rfl, h, q⟩
theorem o2_pow {i j : Int} (h : CPow i j) : O2 W μ uPow (intR i) (intR j) (intR (i ^ j.toNat)) := o2_val fun H Q q => ⟨i, j, rfl, rfl, h, q⟩
theorem o1_neg {i : Int} : O1 W μ uNeg (intR i) (intR (-i)) := fun P H v k r Q q => by
  have e : v = .int i := r
  subst e
  exact ⟨i, rfl, q _ P H (Stp.refl k.le) rfl⟩
theorem o2_lt {i j : Int} : O2 W μ (uLt K) (intR i) (intR j) (blR (decide (i < j))) := o2_val fun H Q q => .inl ⟨i, j, rfl, rfl, q⟩
theorem o2_ltD {Ra Rb : RP} {d e : PyData} (h1 : Tells K Ra d) (h2 : Tells K Rb e) (ha : PySem.W.alike d e = true) (hn : d ≠ .none) (hz : d.depth ≤ 60) : O2 W μ (uLt K) Ra Rb (blR (PySem.W.dataLt d e)) := fun P H v w k r1 r2 Q q =>
  .inr ⟨d, e, h1 v P H k.le r1, h2 w P H k.le r2, ha, hn, hz, q _ P H (Stp.refl k.le) rfl⟩
theorem o2_le {i j : Int} : O2 W μ uLe (intR i) (intR j) (blR (decide (i ≤ j))) := o2_val fun H Q q => ⟨i, j, rfl, rfl, q⟩
theorem o2_gt {i j : Int} : O2 W μ uGt (intR i) (intR j) (blR (decide (j < i))) := o2_val fun H Q q => ⟨i, j, rfl, rfl, q⟩
theorem o2_ge {i j : Int} : O2 W μ uGe (intR i) (intR j) (blR (decide (j ≤ i))) := o2_val fun H Q q => ⟨i, j, rfl, rfl, q⟩
theorem o2_eqI {i j : Int} : O2 W μ (uEq K) (intR i) (intR j) (blR (decide (i = j))) := o2_val fun H Q q => .inl ⟨rfl, by
  have e : decide (V.int i = V.int j) = decide (i = j) := by simp
  rw [e]
  exact q⟩
theorem o2_neB {i j : Bool} : O2 W μ (uNe K) (blR i) (blR j) (blR (!decide (i = j))) := o2_val fun H Q q => .inl ⟨rfl, by
  have e : decide (V.bl i = V.bl j) = decide (i = j) := by simp
  rw [e]
  exact q⟩
theorem o2_neI {i j : Int} : O2 W μ (uNe K) (intR i) (intR j) (blR (!decide (i = j))) := o2_val fun H Q q => .inl ⟨rfl, by
  have e : decide (V.int i = V.int j) = decide (i = j) := by simp
  rw [e]
  exact q⟩
theorem o2_eqD {Ra Rb : RP} {d e : PyData} (h1 : Tells K Ra d) (h2 : Tells K Rb e) (hd : SeqAt.shaped d = true) (he : SeqAt.shaped e = true) : O2 W μ (uEq K) Ra Rb (blR (PyData.eqv d e)) := fun P H v w k r1 r2 Q q =>
  .inr ⟨d, e, h1 v P H k.le r1, h2 w P H k.le r2, hd, he, q _ P H (Stp.refl k.le) rfl⟩
theorem o2_neD {Ra Rb : RP} {d e : PyData} (h1 : Tells K Ra d) (h2 : Tells K Rb e) (hd : SeqAt.shaped d = true) (he : SeqAt.shaped e = true) : O2 W μ (uNe K) Ra Rb (blR (!PyData.eqv d e)) := fun P H v w k r1 r2 Q q =>
  .inr ⟨d, e, h1 v P H k.le r1, h2 w P H k.le r2, hd, he, q _ P H (Stp.refl k.le) rfl⟩
theorem shaped_tupI (ns : List Int) : SeqAt.shaped (.tuple (ns.map .int)) = true := by
  unfold SeqAt.shaped
  simp [PyData.canLay0, canLay_ints, PyData.depth, depthAll_ints]
theorem shaped_lstI (ns : List Int) : SeqAt.shaped (.list (ns.map .int)) = true := by
  unfold SeqAt.shaped
  simp [PyData.canLay0, canLay_ints, PyData.depth, depthAll_ints]
theorem o2_eqT {ns ms : List Int} : O2 W μ (uEq K) (tupR (ns.map fun n => intR n)) (tupR (ms.map fun n => intR n)) (blR (decide (ns = ms))) := by
  have h := o2_eqD (W := W) (μ := μ) (K := K) (tells_tup (tells_map (f := fun n => intR n) (g := PyData.int) (fun a => tells_int) ns)) (tells_tup (tells_map (f := fun n => intR n) (g := PyData.int) (fun a => tells_int) ms)) (shaped_tupI ns) (shaped_tupI ms)
  have e : PyData.eqv (.tuple (ns.map .int)) (.tuple (ms.map .int)) = decide (ns = ms) := by
    rw [PyData.eqv, eqvAll_ints]
  rw [← e]
  exact h
theorem o2_eqL {ns ms : List Int} : O2 W μ (uEq K) (lstR (ns.map fun n => intR n)) (lstR (ms.map fun n => intR n)) (blR (decide (ns = ms))) := by
  have h := o2_eqD (W := W) (μ := μ) (K := K) (tells_lst (tells_map (f := fun n => intR n) (g := PyData.int) (fun a => tells_int) ns)) (tells_lst (tells_map (f := fun n => intR n) (g := PyData.int) (fun a => tells_int) ms)) (shaped_lstI ns) (shaped_lstI ms)
  have e : PyData.eqv (.list (ns.map .int)) (.list (ms.map .int)) = decide (ns = ms) := by
    rw [PyData.eqv, eqvAll_ints]
  rw [← e]
  exact h
theorem o2_is {x : V} : O2 W μ uIs (valR x) nonR (blR (decide (x = .non))) := o2_val fun H Q q => ⟨rfl, q⟩
theorem o2_isnot {x : V} : O2 W μ uIsNot (valR x) nonR (blR (!decide (x = .non))) := o2_val fun H Q q => ⟨rfl, q⟩
/-- None is asked of a tuple, a list -/
theorem o2_isT {Rs : List RP} : O2 W μ uIs (tupR Rs) nonR (blR false) := fun P H v w k ⟨p, xs, e, h, r⟩ r2 Q q => by
  subst e
  refine ⟨r2, ?_⟩
  have e : decide (V.ref p = V.non) = false := decide_eq_false fun z => by cases z
  rw [e]
  exact q _ P H (Stp.refl k.le) rfl
theorem o2_isnotT {Rs : List RP} : O2 W μ uIsNot (tupR Rs) nonR (blR true) := fun P H v w k ⟨p, xs, e, h, r⟩ r2 Q q => by
  subst e
  refine ⟨r2, ?_⟩
  have e : (!decide (V.ref p = V.non)) = true := by rw [decide_eq_false (show ¬ V.ref p = V.non from fun z => by cases z)]; rfl
  rw [e]
  exact q _ P H (Stp.refl k.le) rfl
theorem flat_ints : ∀ ns : List Int, (ns.map V.int).all flatV = true
  | [] => rfl
  | _ :: ns => flat_ints ns
theorem inV_ints (i : Int) : ∀ ns : List Int, inV (.int i) (ns.map V.int) = decide (i ∈ ns)
  | [] => by simp [inV]
  | n :: ns => by
    have ih := inV_ints i ns
    unfold inV at ih ⊢
    rw [List.map_cons, List.any_cons, ih]
    by_cases c : i = n
    · subst c; simp [eqV]
    · simp [eqV, c, Ne.symm c]
theorem o2_inL {i : Int} {ns : List Int} : O2 W μ (uIn K) (intR i) (lstR (ns.map fun n => intR n)) (blR (decide (i ∈ ns))) := fun P H v w k r1 ⟨p, xs, e, h, r⟩ Q q => by
  have e1 : v = .int i := r1
  subst e1
  subst e
  have e2 := reps_ints r
  subst e2
  refine .inl ⟨p, _, rfl, .inl (SqL.of (k.le.lst h)), rfl, flat_ints ns, ?_⟩
  show Q (.bl (if false = true then _ else inV (.int i) (ns.map V.int))) H
  rw [if_neg Bool.false_ne_true, inV_ints]
  exact q _ P H (Stp.refl k.le) rfl
theorem o2_inT {i : Int} {ns : List Int} : O2 W μ (uIn K) (intR i) (tupR (ns.map fun n => intR n)) (blR (decide (i ∈ ns))) := fun P H v w k r1 ⟨p, xs, e, h, r⟩ Q q => by
  have e1 : v = .int i := r1
  subst e1
  subst e
  have e2 := reps_ints r
  subst e2
  refine .inl ⟨p, _, rfl, .inr (SqT.of (k.le.tup h)), rfl, flat_ints ns, ?_⟩
  show Q (.bl (if false = true then _ else inV (.int i) (ns.map V.int))) H
  rw [if_neg Bool.false_ne_true, inV_ints]
  exact q _ P H (Stp.refl k.le) rfl
theorem o2_ninL {i : Int} {ns : List Int} : O2 W μ (uNotIn K) (intR i) (lstR (ns.map fun n => intR n)) (blR (!decide (i ∈ ns))) := fun P H v w k r1 ⟨p, xs, e, h, r⟩ Q q => by
  have e1 : v = .int i := r1
  subst e1
  subst e
  have e2 := reps_ints r
  subst e2
  refine .inl ⟨p, _, rfl, .inl (SqL.of (k.le.lst h)), rfl, flat_ints ns, ?_⟩
  show Q (.bl (if true = true then !inV (.int i) (ns.map V.int) else _)) H
  rw [if_pos rfl, inV_ints]
  exact q _ P H (Stp.refl k.le) rfl
theorem dget_of {H : Hp} {d : Addr} {kvs : List (Key × V)} (h : Rd H d (.dK kvs)) (kk : Key) : DGet H d (kV kk) (valV kvs kk) := .inl ⟨kvs, kk, h, rfl, rfl⟩
theorem o2_inD {kk : Key} {kvs : List (Key × V)} : O2 W μ (uIn K) (valR (kV kk)) (dctR kvs) (blR (valV kvs kk).isSome) := fun P H v w k r1 ⟨d, e, h⟩ Q q => by
  have e1 : v = kV kk := r1
  subst e1
  subst e
  exact .inr (.inl ⟨d, _, rfl, dget_of (k.le.dK h) kk, q _ P H (Stp.refl k.le) rfl⟩)
theorem o2_ninD {kk : Key} {kvs : List (Key × V)} : O2 W μ (uNotIn K) (valR (kV kk)) (dctR kvs) (blR (!(valV kvs kk).isSome)) := fun P H v w k r1 ⟨d, e, h⟩ Q q => by
  have e1 : v = kV kk := r1
  subst e1
  subst e
  exact .inr ⟨d, _, rfl, dget_of (k.le.dK h) kk, q _ P H (Stp.refl k.le) rfl⟩
theorem o2_inS {x y : Str} : O2 W μ (uIn K) (valR (.str x)) (valR (.str y)) (blR (!(Builtin.Str.occurrences y x 0 y.length 1).isEmpty)) := o2_val fun H Q q => .inr (.inr ⟨x, y, rfl, rfl, q⟩)
/-! places -/
theorem o2_ixL {Rs : List RP} {i : Int} {R : RP} (h0 : 0 ≤ i) (h : Rs[i.toNat]? = some R) : O2 W μ (rIx K) (lstR Rs) (intR i) R := fun P H v w k ⟨p, xs, e, hp, r⟩ r2 Q q => by
  have e2 : w = .int i := r2
  subst e
  subst e2
  obtain ⟨x, hx, rx⟩ := reps_get r h
  refine .inl ⟨p, xs, i, x, rfl, rfl, SqL.of (k.le.lst hp), ?_, q _ P H (Stp.refl k.le) rx⟩
  have := atI_nat hx
  rwa [Int.toNat_of_nonneg h0] at this
theorem o2_ixT {Rs : List RP} {i : Int} {R : RP} (h0 : 0 ≤ i) (h : Rs[i.toNat]? = some R) : O2 W μ (rIx K) (tupR Rs) (intR i) R := fun P H v w k ⟨p, xs, e, hp, r⟩ r2 Q q => by
  have e2 : w = .int i := r2
  subst e
  subst e2
  obtain ⟨x, hx, rx⟩ := reps_get r h
  refine .inr (.inl ⟨p, xs, i, x, rfl, rfl, SqT.of (k.le.tup hp), ?_, q _ P H (Stp.refl k.le) rx⟩)
  have := atI_nat hx
  rwa [Int.toNat_of_nonneg h0] at this
theorem o2_ixS {z : Str} {i : Int} {c : Nat} (h0 : 0 ≤ i) (hz : z.length ≤ 100000) (h : z.cps.toList[i.toNat]? = some c) : O2 W μ (rIx K) (valR (.str z)) (intR i) (valR (.str ⟨#[c]⟩)) := o2_val fun H Q q => by
  refine .inr (.inr ⟨z, i, c, rfl, rfl, small_line hz, ?_, q⟩)
  have := atI_nat h
  rwa [Int.toNat_of_nonneg h0] at this
end
/-! ### built-ins -/
def cLen (K : PySem.W.Frag) : List V → Hp → VK → Prop := fun xs H Q => (∃ p ys, xs = [.ref p] ∧ (SqL K H p ys ∨ SqT K H p ys) ∧ Q (.int ys.length) H) ∨ ((∃ z, xs = [.str z] ∧ z.length ≤ sizeLine ∧ Q (.int z.length) H) ∨ ∃ a kvs, xs = [V.ref a] ∧ Rd H a (.dK kvs) ∧ Q (.int kvs.length) H)
def rMinP (K : PySem.W.Frag) : List V → Hp → VK → Prop := fun vs H Q => ∃ (a : Addr) (ts : List V) (qs : List (Int × Int)), vs = [V.ref a] ∧ SqL K H a ts ∧ DpAll K H ts (qs.map fun q => .tuple [.int q.1, .int q.2]) ∧ qs ≠ [] ∧
  ∀ (i : Nat) (t : V) (m : Int × Int), ts[i]? = some t → qs[i]? = some m → (∀ q ∈ qs, m.1 ≤ q.1) → Q t H
def cMax (K : PySem.W.Frag) : List V → Hp → VK → Prop := fun vs H Q => rMax K vs H Q ∨ ∃ i j, vs = [.int i, .int j] ∧ Q (.int (if j > i then j else i)) H
def cMin (K : PySem.W.Frag) : List V → Hp → VK → Prop := fun vs H Q => rMinP K vs H Q ∨ ∃ i j, vs = [.int i, .int j] ∧ Q (.int (if j < i then j else i)) H
def rSortDI : List V → Hp → VK → Prop := fun xs H Q => ∃ (a : Addr) (kvs : List (Key × V)) (ks : List Int), xs = [.ref a] ∧ Rd H a (.dK kvs) ∧ kvs.map (·.1) = ks.map Sum.inl ∧ ks.length < 64 ∧
    ∀ (ys : List Int) (p : Addr), ys.Perm ks → ys.Pairwise (· ≤ ·) → H p = none → Q (.ref p) (upd H p (.lst (ys.map V.int)))
/-- a list of data that ascends stays as it is: a new list -/
def rSortD (K : PySem.W.Frag) : List V → Hp → VK → Prop := fun xs H Q => ∃ (a : Addr) (ts : List V) (ds : List PyData), xs = [.ref a] ∧ SqL K H a ts ∧ DpAll K H ts ds ∧ PySem.W.AllAlike ds ∧ PySem.W.Sortable ds ∧ (∀ d ∈ ds, d.depth ≤ 60) ∧ ds.Pairwise (fun d e => PySem.W.dataLt e d = false) ∧
    ∀ p, H p = none → Q (.ref p) (upd H p (.lst ts))
def cSorted (K : PySem.W.Frag) : List V → Hp → VK → Prop := fun xs H Q => rSortedI K xs H Q ∨ rSortDI xs H Q ∨ rSortD K xs H Q
def cTuple (K : PySem.W.Frag) : List V → Hp → VK → Prop := fun xs H Q => ∃ p ys, xs = [.ref p] ∧ ((SqL K H p ys ∧ ∀ l, H l = none → Q (.ref l) (upd H l (.tup ys))) ∨ (SqT K H p ys ∧ Q (.ref p) H))
def cInt : List V → Hp → VK → Prop := fun xs H Q => (∃ i, xs = [.int i] ∧ Q (.int i) H) ∨ ∃ k, xs = [.bl k] ∧ Q (.int (if k then 1 else 0)) H
def cAbs : List V → Hp → VK → Prop := fun xs H Q => ∃ i, xs = [.int i] ∧ Q (.int (if i < 0 then -i else i)) H
section
variable {X : Cx}
theorem call_lenD' : CallR X (.builtin "len") (fun xs H Q => ∃ a kvs, xs = [V.ref a] ∧ Rd H a (.dK kvs) ∧ Q (.int kvs.length) H) := by
  intro pins s σ H xs us Q I r h
  obtain ⟨a, kvs, rfl, hd, q⟩ := h
  obtain ⟨u, rfl, ru⟩ := vals1 r
  obtain rfl : u = Value.ref a := ru
  exact d_len I hd fun t s' I' => ⟨.int _, H, I', ⟨t, rfl⟩, q⟩
theorem cr_len : CallR X (.builtin "len") (cLen X.K) := CallR.or call_len_seq (CallR.or call_len_str call_lenD')
theorem minD_at : ∀ (qs : List (Int × Int)) (q : Int × Int) (m : Int × Int), PySem.W.minD (.tuple [.int q.1, .int q.2]) (qs.map fun q => .tuple [.int q.1, .int q.2]) = .tuple [.int m.1, .int m.2] → ∀ z ∈ q :: qs, m.1 ≤ z.1 := by
  have lt : ∀ a b : Int × Int, PySem.W.dataLt (.tuple [.int a.1, .int a.2]) (.tuple [.int b.1, .int b.2]) = true → a.1 ≤ b.1 := fun a b h => by
    rw [PySem.W.dataLt_pair rfl rfl] at h
    by_cases c : a.1 = b.1
    · omega
    · rw [if_neg (by simp [PyData.eqv, c]), PySem.W.dataLt_int] at h
      have := of_decide_eq_true h
      omega
  have ge : ∀ a b : Int × Int, PySem.W.dataLt (.tuple [.int a.1, .int a.2]) (.tuple [.int b.1, .int b.2]) = false → b.1 ≤ a.1 := fun a b h => by
    rw [PySem.W.dataLt_pair rfl rfl] at h
    by_cases c : a.1 = b.1
    · omega
    · rw [if_neg (by simp [PyData.eqv, c]), PySem.W.dataLt_int] at h
      have := of_decide_eq_false h
      omega
  intro qs
  induction qs with
  | nil =>
    intro q m h z hz
    rcases List.mem_cons.mp hz with e | hz
    · subst e
      unfold PySem.W.minD at h
      simp only [List.map_nil, List.foldl_nil, PyData.tuple.injEq, List.cons.injEq, PyData.int.injEq] at h
      omega
    · cases hz
  | cons a r ih =>
    intro q m h z hz
    unfold PySem.W.minD at h ih
    rw [List.map_cons, List.foldl_cons] at h
    by_cases c : PySem.W.dataLt (.tuple [.int a.1, .int a.2]) (.tuple [.int q.1, .int q.2]) = true
    · rw [if_pos c] at h
      have := ih a m h
      have l := lt a q c
      rcases List.mem_cons.mp hz with e | hz
      · subst e
        have := this a List.mem_cons_self
        omega
      · exact this z hz
    · rw [if_neg c] at h
      have := ih q m h
      have l := ge a q (by simpa using c)
      rcases List.mem_cons.mp hz with e | hz
      · subst e
        exact this z List.mem_cons_self
      · rcases List.mem_cons.mp hz with e | hz
        · subst e
          have := this q List.mem_cons_self
          omega
        · exact this z (List.mem_cons_of_mem _ hz)
theorem dp_at {K : PySem.W.Frag} {H : Hp} : ∀ {ts : List V} {ds : List PyData} {i : Nat} {t : V}, DpAll K H ts ds → ts[i]? = some t → ∃ d, ds[i]? = some d ∧ Dp K H t d
  | _, _, 0, _, .cons h _, e => by
    cases (Option.some.inj e)
    exact ⟨_, rfl, h⟩
  | _, _, i + 1, _, .cons _ r, e => dp_at (i := i) r e
  | _, _, _, _, .nil, e => by simp at e
theorem dp_len {K : PySem.W.Frag} {H : Hp} : ∀ {ts : List V} {ds : List PyData}, DpAll K H ts ds → ts.length = ds.length
  | _, _, .nil => rfl
  | _, _, .cons _ t => congrArg (· + 1) (dp_len t)
theorem depth_pairs : ∀ qs : List (Int × Int), PyData.depthAll (qs.map fun q => .tuple [.int q.1, .int q.2]) ≤ 1
  | [] => by simp [PyData.depthAll]
  | q :: qs => by
    have := depth_pairs qs
    rw [List.map_cons]
    simp only [PyData.depthAll, PyData.depth]
    omega
theorem alike_pair (a b : Int × Int) : PySem.W.alike (.tuple [.int a.1, .int a.2]) (.tuple [.int b.1, .int b.2]) = true := by simp [PySem.W.alike, PySem.W.alikeAll]
theorem vals_back_at {xs : List V} {us : List Value} (r : Vals xs us) {i : Nat} {u : Value} (h : us[i]? = some u) : ∃ x, xs[i]? = some x ∧ RelV x u := by
  cases e : xs[i]? with
  | none => rw [r.none_of e] at h; cases h
  | some x =>
    obtain ⟨u', h', r'⟩ := r.get e
    rw [h] at h'
    cases h'
    exact ⟨x, rfl, r'⟩
theorem cr_minP (hc : X.calm = true) (hu : X.A.units + 64 < cLine) : CallR X (.builtin "min") (rMinP X.K) := by
  intro pins s σ H xs us Q I r h
  obtain ⟨a, ts, qs, rfl, hl, hd, hne, q⟩ := h
  obtain ⟨u, rfl, ru⟩ := vals1 r
  obtain rfl : u = Value.ref a := ru
  obtain ⟨its, rv, pl, hz⟩ := I.list hl
  obtain ⟨as, rd⟩ := Dp.readsAll I _ ts its hd rv
  cases qs with
  | nil => exact absurd rfl hne
  | cons q0 qs =>
    have isq : ∀ x ∈ PyData.tuple [.int q0.1, .int q0.2] :: qs.map (fun q => PyData.tuple [.int q.1, .int q.2]), ∃ b : Int × Int, x = .tuple [.int b.1, .int b.2] := fun x hx => by
      rcases List.mem_cons.mp hx with e | hx
      · exact ⟨q0, e⟩
      · obtain ⟨b, _, rfl⟩ := List.mem_map.mp hx
        exact ⟨b, rfl⟩
    have al : ∀ x ∈ PyData.tuple [.int q0.1, .int q0.2] :: qs.map (fun q => PyData.tuple [.int q.1, .int q.2]), ∀ y ∈ PyData.tuple [.int q0.1, .int q0.2] :: qs.map (fun q => PyData.tuple [.int q.1, .int q.2]), PySem.W.alike x y = true := fun x hx y hy => by
      obtain ⟨b, rfl⟩ := isq x hx
      obtain ⟨c, rfl⟩ := isq y hy
      exact alike_pair b c
    refine PySem.W.min_list_data (I.ok.hd hc) pl.isList (x := .tuple [.int q0.1, .int q0.2]) (xs := qs.map fun q => .tuple [.int q.1, .int q.2]) (as := as) (by rw [List.toList_toArray]; exact rd) ⟨al, fun x hx => ?_⟩ ?_ fun i v h' tk bs hv rv' kp => ?_
    · obtain ⟨b, rfl⟩ := isq x hx
      exact fun z => by cases z
    · have := depth_pairs (q0 :: qs)
      rw [List.map_cons] at this
      omega
    · have I' : Inv X pins σ H { s with heap := h', toks := tk } := I.kept kp
      rw [List.getElem?_toArray] at hv
      obtain ⟨t, ht, rt⟩ := vals_back_at rv hv
      obtain ⟨d, hd', dp⟩ := dp_at hd ht
      obtain ⟨cs, r3⟩ := Dp.reads I' d t v dp rt
      rw [List.getElem?_map] at hd'
      cases hq : (q0 :: qs)[i]? with
      | none => rw [hq] at hd'; cases hd'
      | some m =>
        rw [hq] at hd'
        have hd'' : PyData.tuple [.int m.1, .int m.2] = d := Option.some.inj hd'
        subst hd''
        have mem : PySem.W.minD (.tuple [.int q0.1, .int q0.2]) (qs.map fun q => .tuple [.int q.1, .int q.2]) = .tuple [.int m.1, .int m.2] := by
          have isP : ∀ (l : List (Int × Int)) (q : Int × Int), ∃ z : Int × Int, PySem.W.minD (.tuple [.int q.1, .int q.2]) (l.map fun q => .tuple [.int q.1, .int q.2]) = .tuple [.int z.1, .int z.2] := by
            intro l
            induction l with
            | nil => intro q; exact ⟨q, rfl⟩
            | cons b l ih =>
              intro q
              unfold PySem.W.minD at ih ⊢
              rw [List.map_cons, List.foldl_cons]
              by_cases c : PySem.W.dataLt (.tuple [.int b.1, .int b.2]) (.tuple [.int q.1, .int q.2]) = true
              · rw [if_pos c]; exact ih b
              · rw [if_neg c]; exact ih q
          obtain ⟨z, hz⟩ := isP qs q0
          rw [hz] at rv' ⊢
          exact PySem.W.alike_unique _ _ v _ _ (alike_pair z m) rv' r3
        exact ⟨t, H, I', rt, q i t m ht hq (minD_at qs q0 m mem)⟩
theorem cr_maxU (hc : X.calm = true) : CallR X (.builtin "max") (cMax X.K) := CallR.or (cr_max hc) (call_max2 hc)
theorem cr_minU (hc : X.calm = true) (hu : X.A.units + 64 < cLine) : CallR X (.builtin "min") (cMin X.K) := CallR.or (cr_minP hc hu) (call_min2 hc)
end
end Y
end
section
/-! The layer, part 6: more built-ins, slices, fields, dicts. -/
namespace Y
open PySem PySem.Spec L2
/-! ### a tuple times one is itself -/
theorem tuple_times_one (l : Addr) (items : Array Value) (n : Nat) (dd : Option Addr) (sl : Array (Option Value)) (u : Tok) :
    Meets (Builtin.«tuple.__mul__» ⟨[.ref l, .int 1 u], []⟩) (fun _ R s => s.heap.get? l = some { cls := .type "tuple", dict := dd, data := .seq items n, slots := sl } ∧ R (.ok (.ret (.ref l))) s) :=
  .of_wp fun prog w A R s h => by
    obtain ⟨hp, g, d, tk, os⟩ := s
    obtain ⟨hl, h⟩ := h
    have f1 := AutoSeq1.idx_int
    have one : (items.isEmpty || (1 : Int) == 1) = true := by simp
    wp_walk using wpAny_loadPart' hl
    exact ⟨_, rfl, h⟩
def rRepT1 (K : PySem.W.Frag) : R2 := fun x y H Q => ∃ l xs, x = .ref l ∧ y = .int 1 ∧ SqT K H l xs ∧ Q (.ref l) H
def uMulT (K : PySem.W.Frag) : R2 := fun x y H Q => uMul K x y H Q ∨ rRepT K x y H Q ∨ rRepT1 K x y H Q
section
variable {X : Cx}
theorem op_repT1 : OpR X (binaryOp .Mult) (rRepT1 X.K) := by
  intro pins s σ H x y v u Q I rx ry h
  obtain ⟨l, xs, rfl, rfl, hT, q⟩ := h
  cases rx
  obtain ⟨t, rfl⟩ := ry
  obtain ⟨its, r, ⟨⟨cls, dd, data, sl⟩, ho, hc, n, hd⟩, hs⟩ := I.tuple hT
  simp only at hc hd
  subst hc hd
  have h1 : s.TypeIs (.ref l) "tuple" := ⟨_, ho, rfl⟩
  have m1 := int_rmul_tuple 1 t l its.toArray n dd sl
  have m2 := tuple_times_one l its.toArray n dd sl t
  exact wpAny_binaryOp_repeat_ref (T := "tuple") (U := "int") (by decide) h1 (fun s' => typeIs_int s' 1 t) noFill_tuple_mul F.fills_int_mul F.slot_int_rmul repeat_tuple F.slot_int_index.lookup
    (call_meets F.slot_int_rmul (typeIs_int s 1 t) F.entry_int_rmul (F.args_int_rmul_2 _ _) m1
      ⟨ho, rfl, h1, call_meets F.slot_tuple_mul h1 F.entry_tuple_mul (F.args_tuple_mul_2 _ _) m2 ⟨ho, .ref l, H, I, rfl, q⟩⟩)
theorem op_uMulT : OpR X (binaryOp .Mult) (uMulT X.K) := OpR.or op_uMul (OpR.or op_repT op_repT1)
end
section
variable {W : Wd} {ρ : List (Option RP)} {μ : Me} {K : PySem.W.Frag} {te td tk ta : TE} {Rs : List RP} {R : RP}
theorem o2_mulT {i j : Int} (h : CMul i j) : O2 W μ (uMulT K) (intR i) (intR j) (intR (i * j)) := fun P H v w k r1 r2 Q q => .inl (o2_mul h P H v w k r1 r2 Q q)
theorem o2_repL {R : RP} {k : Int} (h : 0 ≤ k ∧ k ≤ 100000) : O2 W μ (uMulT K) (lstR [R]) (intR k) (lstR (List.replicate k.toNat R)) := fun P H v w kk r1 r2 Q q => .inl (o2_rep1 h P H v w kk r1 r2 Q q)
/-- (x,) * n -/
theorem o2_repT {R : RP} {k : Int} (h : 1 ≤ k ∧ k ≤ 1000) : O2 W μ (uMulT K) (tupR [R]) (intR k) (tupR (List.replicate k.toNat R)) := fun P H v w kk ⟨p, xs, e1, h1, r1⟩ r2 Q q => by
  subst e1
  have e2 : w = .int k := r2
  subst e2
  obtain ⟨x, rfl, rx⟩ := reps_one r1
  by_cases c : k = 1
  · subst c
    exact .inr (.inr ⟨p, [x], rfl, rfl, SqT.of (kk.le.tup h1), q _ P H (Stp.refl kk.le) ⟨p, [x], rfl, h1, .cons rx .nil⟩⟩)
  · refine .inr (.inl ⟨p, k, [x], rfl, rfl, SqT.of (kk.le.tup h1), by simp, by omega, h.2, by show 1 ≤ 1000; decide, fun n hn => ?_⟩)
    have s := kk.new hn (.tup (List.replicate k.toNat [x]).flatten)
    exact q _ _ _ s ⟨n, _, rfl, upd_same, reps_up s.ex.le (reps_rep rx k.toNat)⟩
/-! ### calls of built-ins -/
theorem oc_lenL : OC W μ (cLen K) [lstR Rs] (intR (Rs.length : Nat)) := fun P H xs k r Q q => by
  obtain ⟨v, rfl, p, ys, rfl, h, r'⟩ := reps_one r
  refine .inl ⟨p, ys, rfl, .inl (SqL.of (k.le.lst h)), ?_⟩
  rw [← Paired.length r']
  exact q _ P H (Stp.refl k.le) rfl
theorem oc_lenT : OC W μ (cLen K) [tupR Rs] (intR (Rs.length : Nat)) := fun P H xs k r Q q => by
  obtain ⟨v, rfl, p, ys, rfl, h, r'⟩ := reps_one r
  refine .inl ⟨p, ys, rfl, .inr (SqT.of (k.le.tup h)), ?_⟩
  rw [← Paired.length r']
  exact q _ P H (Stp.refl k.le) rfl
theorem oc_lenD {kvs : List (Key × V)} : OC W μ (cLen K) [dctR kvs] (intR (kvs.length : Nat)) := fun P H xs k r Q q => by
  obtain ⟨v, rfl, d, rfl, h⟩ := reps_one r
  exact .inr (.inr ⟨d, kvs, rfl, k.le.dK h, q _ P H (Stp.refl k.le) rfl⟩)
theorem oc_lenS {z : Str} (h : z.length ≤ 100000) : OC W μ (cLen K) [valR (.str z)] (intR (z.length : Nat)) := fun P H xs k r Q q => by
  obtain ⟨v, rfl, rfl⟩ := reps_one r
  exact .inr (.inl ⟨z, rfl, small_line h, q _ P H (Stp.refl k.le) rfl⟩)
/-- .. of a list of the def's own -/
theorem oc_lenM {p : Addr} {j : Nat} (hj : μ[j]? = some (p, .lst Rs)) : OC W μ (cLen K) [valR (.ref p)] (intR (Rs.length : Nat)) := fun P H xs k r Q q => by
  obtain ⟨v, rfl, rfl⟩ := reps_one r
  obtain ⟨_, _, ys, h, r'⟩ := k.mem p _ (List.mem_of_getElem? hj)
  refine .inl ⟨p, ys, rfl, .inl (SqL.of h), ?_⟩
  rw [← Paired.length r']
  exact q _ P H (Stp.refl k.le) rfl
theorem oc_sum {ns : List Int} : OC W μ (rSum K) [lstR (ns.map fun n => intR n)] (intR ns.sum) := fun P H xs k r Q q => by
  obtain ⟨v, rfl, p, ys, rfl, h, r'⟩ := reps_one r
  have e := reps_ints r'
  subst e
  exact ⟨p, ns, rfl, SqL.of (k.le.lst h), q _ P H (Stp.refl k.le) rfl⟩
theorem oc_sumT {ns : List Int} : OC W μ (fun vs H Q => ∃ (a : Addr) (ms : List Int), vs = [V.ref a] ∧ SqT K H a (ms.map V.int) ∧ Q (.int ms.sum) H) [tupR (ns.map fun n => intR n)] (intR ns.sum) := fun P H xs k r Q q => by
  obtain ⟨v, rfl, p, ys, rfl, h, r'⟩ := reps_one r
  have e := reps_ints r'
  subst e
  exact ⟨p, ns, rfl, SqT.of (k.le.tup h), q _ P H (Stp.refl k.le) rfl⟩
theorem oc_max1 {ns : List Int} {m : Int} (hm : m ∈ ns) (h : ∀ y ∈ ns, y ≤ m) : OC W μ (cMax K) [lstR (ns.map fun n => intR n)] (intR m) := fun P H xs k r Q q => by
  obtain ⟨v, rfl, p, ys, rfl, hp, r'⟩ := reps_one r
  have e := reps_ints r'
  subst e
  refine .inl ⟨p, ns, rfl, SqL.of (k.le.lst hp), List.length_pos_of_mem hm, fun m' h1 h2 => ?_⟩
  have a := h m' h1
  have b := h2 m hm
  have e : m' = m := by omega
  subst e
  exact q _ P H (Stp.refl k.le) rfl
theorem oc_max2 {i j : Int} : OC W μ (cMax K) [intR i, intR j] (intR (max i j)) := fun P H xs k r Q q => by
  obtain ⟨v, w, rfl, rfl, rfl⟩ := reps_two r
  refine .inr ⟨i, j, rfl, ?_⟩
  have e : (if j > i then j else i) = max i j := by split <;> omega
  rw [e]
  exact q _ P H (Stp.refl k.le) rfl
theorem oc_min2 {i j : Int} : OC W μ (cMin K) [intR i, intR j] (intR (min i j)) := fun P H xs k r Q q => by
  obtain ⟨v, w, rfl, rfl, rfl⟩ := reps_two r
  refine .inr ⟨i, j, rfl, ?_⟩
  have e : (if j < i then j else i) = min i j := by split <;> omega
  rw [e]
  exact q _ P H (Stp.refl k.le) rfl
def pairR (q : Int × Int) : RP := tupR [intR q.1, intR q.2]
theorem tells_pair (q : Int × Int) : Tells K (pairR q) (.tuple [.int q.1, .int q.2]) := tells_tup (.cons tells_int (.cons tells_int .nil))
/-- the fewest first, whatever stands second -/
theorem oc_minP {qs : List (Int × Int)} {n : Int} (h1 : ∃ q ∈ qs, q.1 = n) (h2 : ∀ q ∈ qs, n ≤ q.1) : OC W μ (cMin K) [lstR (qs.map pairR)] (tupR [intR n, anyR]) := fun P H xs k r Q q => by
  obtain ⟨v, rfl, p, ys, rfl, hp, r'⟩ := reps_one r
  obtain ⟨q0, hq0, e0⟩ := h1
  refine .inl ⟨p, ys, qs, rfl, SqL.of (k.le.lst hp), tells_all k.le (tells_map (f := pairR) (g := fun q => .tuple [.int q.1, .int q.2]) tells_pair qs) r', (fun e => by rw [e] at hq0; cases hq0), fun i t m ht hm hl => ?_⟩
  obtain ⟨t', ht', rt⟩ := reps_get r' (i := i) (R := pairR m) (by rw [List.getElem?_map, hm]; rfl)
  rw [ht] at ht'
  cases ht'
  have a := hl q0 hq0
  have b := h2 m (List.mem_of_getElem? hm)
  have e : m.1 = n := by omega
  obtain ⟨p', zs, e', hp', rz⟩ := rt
  refine q _ P H (Stp.refl k.le) ⟨p', zs, e', hp', ?_⟩
  cases rz with
  | cons z1 z2 =>
    cases z2 with
    | cons z3 z4 =>
      cases z4
      rw [← e]
      exact .cons z1 (.cons trivial .nil)
/-- ascending -/
def srt (ns : List Int) : List Int := ns.mergeSort fun a b => decide (a ≤ b)
theorem srt_perm (ns : List Int) : (srt ns).Perm ns := List.mergeSort_perm _ _
theorem srt_up (ns : List Int) : (srt ns).Pairwise (· ≤ ·) := by
  have h := List.pairwise_mergeSort (le := fun a b : Int => decide (a ≤ b)) (fun a b c h1 h2 => by simp at h1 h2 ⊢; omega) (fun a b => by simp; omega) ns
  exact h.imp fun h => by simpa using h
theorem srt_uniq {ns ms : List Int} (p : ms.Perm ns) (s : ms.Pairwise (· ≤ ·)) : ms = srt ns := (p.trans (srt_perm ns).symm).eq_of_pairwise (fun x y _ _ h1 h2 => Int.le_antisymm h1 h2) s (srt_up ns)
theorem oc_sortI {ns : List Int} : OC W μ (cSorted K) [lstR (ns.map fun n => intR n)] (lstR ((srt ns).map fun n => intR n)) := fun P H xs k r Q q => by
  obtain ⟨v, rfl, p, ys, rfl, hp, r'⟩ := reps_one r
  have e := reps_ints r'
  subst e
  refine .inl ⟨p, ns, rfl, SqL.of (k.le.lst hp), fun ms n h1 h2 hn => ?_⟩
  rw [srt_uniq h1 h2]
  have s := k.new hn (.lst ((srt ns).map V.int))
  exact q _ _ _ s ⟨n, _, rfl, upd_same, ints_reps _⟩
theorem oc_sortDI {kvs : List (Key × V)} {ks : List Int} (h : kvs.map (·.1) = ks.map Sum.inl) (hl : ks.length < 64) : OC W μ (cSorted K) [dctR kvs] (lstR ((srt ks).map fun n => intR n)) := fun P H xs k r Q q => by
  obtain ⟨v, rfl, d, rfl, hd⟩ := reps_one r
  refine .inr (.inl ⟨d, kvs, ks, rfl, k.le.dK hd, h, hl, fun ms n h1 h2 hn => ?_⟩)
  rw [srt_uniq h1 h2]
  have s := k.new hn (.lst ((srt ks).map V.int))
  exact q _ _ _ s ⟨n, _, rfl, upd_same, ints_reps _⟩
theorem oc_sortD {ds : List PyData} (h : Paired (Tells K) Rs ds) (h1 : PySem.W.AllAlike ds) (h2 : PySem.W.Sortable ds) (h3 : ∀ d ∈ ds, d.depth ≤ 60) (h4 : ds.Pairwise fun d e => PySem.W.dataLt e d = false) : OC W μ (cSorted K) [lstR Rs] (lstR Rs) := fun P H xs k r Q q => by
  obtain ⟨v, rfl, p, ys, rfl, hp, r'⟩ := reps_one r
  refine .inr (.inr ⟨p, ys, ds, rfl, SqL.of (k.le.lst hp), tells_all k.le h r', h1, h2, h3, h4, fun n hn => ?_⟩)
  have s := k.new hn (.lst ys)
  exact q _ _ _ s ⟨n, _, rfl, upd_same, reps_up s.ex.le r'⟩
theorem oc_tupL : OC W μ (cTuple K) [lstR Rs] (tupR Rs) := fun P H xs k r Q q => by
  obtain ⟨v, rfl, p, ys, rfl, hp, r'⟩ := reps_one r
  refine ⟨p, ys, rfl, .inl ⟨SqL.of (k.le.lst hp), fun n hn => ?_⟩⟩
  have s := k.new hn (.tup ys)
  exact q _ _ _ s ⟨n, _, rfl, upd_same, reps_up s.ex.le r'⟩
theorem oc_int {i : Int} : OC W μ cInt [intR i] (intR i) := fun P H xs k r Q q => by
  obtain ⟨v, rfl, rfl⟩ := reps_one r
  exact .inl ⟨i, rfl, q _ P H (Stp.refl k.le) rfl⟩
theorem oc_intB {b : Bool} : OC W μ cInt [blR b] (intR (if b then 1 else 0)) := fun P H xs k r Q q => by
  obtain ⟨v, rfl, rfl⟩ := reps_one r
  exact .inr ⟨b, rfl, q _ P H (Stp.refl k.le) rfl⟩
theorem oc_abs {i : Int} : OC W μ cAbs [intR i] (intR (if i < 0 then -i else i)) := fun P H xs k r Q q => by
  obtain ⟨v, rfl, rfl⟩ := reps_one r
  exact ⟨i, rfl, q _ P H (Stp.refl k.le) rfl⟩
theorem oc_any {bs : List Bool} : OC W μ (rAny K) [lstR (bs.map fun b => blR b)] (blR (bs.any id)) := fun P H xs k r Q q => by
  obtain ⟨v, rfl, p, ys, rfl, hp, r'⟩ := reps_one r
  have e := reps_bls r'
  subst e
  exact ⟨p, bs, rfl, SqL.of (k.le.lst hp), q _ P H (Stp.refl k.le) rfl⟩
theorem oc_all {bs : List Bool} : OC W μ (rAll K) [lstR (bs.map fun b => blR b)] (blR (bs.all id)) := fun P H xs k r Q q => by
  obtain ⟨v, rfl, p, ys, rfl, hp, r'⟩ := reps_one r
  have e := reps_bls r'
  subst e
  exact ⟨p, bs, rfl, SqL.of (k.le.lst hp), q _ P H (Stp.refl k.le) rfl⟩
def tyS : V → Option String
  | .non => some "NoneType" | .bl _ => some "bool" | .int _ => some "int" | .str _ => some "str" | _ => none
theorem tyS_ok {H : Hp} : ∀ {x : V} {s : String}, tyS x = some s → TyX K H x (.type s)
  | .non, _, e => by cases e; exact .base .non
  | .bl b, _, e => by cases e; exact .base (.bl b)
  | .int i, _, e => by cases e; exact .base (.int i)
  | .str z, _, e => by cases e; exact .base (.str z)
theorem oc_isi {x : V} {s n : String} {b : Bool} (h : tyS x = some s) (hk : kitB s n = some b) : OC W μ (rIsi K) [valR x, valR (.ty n)] (blR b) := fun P H xs k r Q q => by
  obtain ⟨v, w, rfl, rfl, rfl⟩ := reps_two r
  exact ⟨_, .ty n, .type s, .type n, b, rfl, .ty n, tyS_ok h, kit_ty hk, q _ P H (Stp.refl k.le) rfl⟩
theorem oc_isiT {n : String} {b : Bool} (hk : kitB "tuple" n = some b) : OC W μ (rIsi K) [tupR Rs, valR (.ty n)] (blR b) := fun P H xs k r Q q => by
  obtain ⟨v, w, rfl, ⟨p, ys, rfl, hp, r'⟩, rfl⟩ := reps_two r
  exact ⟨_, .ty n, .type "tuple", .type n, b, rfl, .ty n, .base (.tup (k.le.tup hp)), kit_ty hk, q _ P H (Stp.refl k.le) rfl⟩
/-! ### range as a list; slices -/
theorem es_listRg {n : Int} (a : E W ρ μ ta (intR n)) (h : 0 ≤ n ∧ n ≤ 100000) : E W ρ μ (tLstRg (tRg1 ta)) (lstR ((List.range n.toNat).map fun i => intR (i : Nat))) := fun σ P H k Q q => by
  refine a σ P H k _ fun v P1 H1 s1 r1 => ⟨n, r1, RgOk.of_le (Int.le_refl _) (by omega) (by decide) h.1, fun p hp => ?_⟩
  have s := (k.step s1).hx.new hp (.lst (rgV 0 n))
  refine q _ _ _ (s1.trans s) ⟨p, _, rfl, upd_same, ?_⟩
  unfold rgV
  rw [Int.sub_zero]
  have key : ∀ l : List Nat, Reps (l.map fun i => intR (i : Nat)) (l.map fun i => V.int (0 + ((i : Nat) : Int))) (upd P1 p (.lst ((List.range n.toNat).map fun i => V.int (0 + ((i : Nat) : Int))))) := by
    intro l
    induction l with
    | nil => exact .nil
    | cons a l ih => exact .cons (by show V.int (0 + (a : Int)) = V.int (a : Int); rw [Int.zero_add]) ih
  exact key _
/-- the script: known to the object -/
def scrR (K : PySem.W.Frag) (ns : List Int) : RP := ⟨fun v P => ∃ a, v = .ref a ∧ SqL K P a (ns.map V.int), fun l ⟨a, e, h⟩ => ⟨a, e, by
  rcases h with h | h
  · rcases h with h | ⟨o, h⟩
    · exact .inl (.inl (l.lst h))
    · obtain ⟨o', h', s⟩ := l a _ h
      rcases s with rfl | ⟨_, _, z, _⟩
      · exact .inl (.inr ⟨o, h'⟩)
      · cases z
  · exact .inr h⟩⟩
theorem es_slScr {ns : List Int} {tp : TE} {n : Nat} (a : E W ρ μ te (scrR K ns)) (b : E W ρ μ tp (intR (n : Nat))) (h : ns.length ≤ n) : E W ρ μ (tSl (rSlL K) te tNoPart (tPart tp)) (lstR (ns.map fun n => intR n)) := fun σ P H k Q q => by
  refine a σ P H k _ fun v P1 H1 s1 ⟨p, e, hs⟩ => ?_
  have k1 := k.step s1
  refine b σ P1 H1 k1 _ fun w P2 H2 s2 r2 => ⟨n, r2, ?_⟩
  have k2 := k1.step s2
  obtain ⟨p', e', hs'⟩ := (scrR K ns).up (s2.ex.le.trans k2.hx.le) (⟨p, e, hs⟩ : (scrR K ns).r v P1)
  refine ⟨p', _, e', hs', fun d hd => ?_⟩
  have c : cutV (ns.map V.int) none (some (n : Int)) = ns.map V.int := by
    unfold cutV
    rw [HT.sIx_none, HT.sIx_nat, List.drop_zero, Nat.sub_zero]
    exact List.take_of_length_le (by rw [List.length_map]; omega)
  rw [c]
  have s := k2.hx.new hd (.lst (ns.map V.int))
  exact q _ _ _ ((s1.trans s2).trans s) ⟨d, _, rfl, upd_same, ints_reps ns⟩
/-- t[:n] of a longer tuple -/
theorem reps_take {H : Hp} : ∀ (n : Nat) {Rs : List RP} {xs : List V}, Reps Rs xs H → Reps (Rs.take n) (xs.take n) H
  | 0, _, _, _ => .nil
  | _ + 1, _, _, .nil => .nil
  | n + 1, _, _, .cons h t => .cons h (reps_take n t)
theorem es_slT {tp : TE} {n : Nat} (a : E W ρ μ te (tupR Rs)) (b : E W ρ μ tp (intR (n : Nat))) (h : n < Rs.length) : E W ρ μ (tSl (rSlT K) te tNoPart (tPart tp)) (tupR (Rs.take n)) := fun σ P H k Q q => by
  refine a σ P H k _ fun v P1 H1 s1 ⟨p, xs, e, hp, r⟩ => ?_
  have k1 := k.step s1
  refine b σ P1 H1 k1 _ fun w P2 H2 s2 r2 => ⟨n, r2, ?_⟩
  have k2 := k1.step s2
  have hl : xs.length = Rs.length := (Paired.length r).symm
  refine ⟨p, xs, e, SqT.of (k2.hx.le.tup (s2.ex _ _ hp)), ?_, fun d hd => ?_⟩
  · rw [HT.sIx_nat]
    omega
  · have c : cutV xs none (some (n : Int)) = xs.take n := by
      unfold cutV
      rw [HT.sIx_none, HT.sIx_nat, List.drop_zero, Nat.sub_zero, Nat.min_eq_left (by omega)]
    rw [c]
    have s := k2.hx.new hd (.tup (xs.take n))
    exact q _ _ _ ((s1.trans s2).trans s) ⟨d, _, rfl, upd_same, reps_up (s2.ex.trans s.ex).le (reps_take n r)⟩
theorem reps_rev {H : Hp} : ∀ {Rs : List RP} {xs : List V}, Reps Rs xs H → Reps Rs.reverse xs.reverse H
  | _, _, .nil => .nil
  | _, _, .cons h t => by
    rw [List.reverse_cons, List.reverse_cons]
    exact reps_app (reps_rev t) (.cons h .nil)
theorem es_revL (a : E W ρ μ te (lstR Rs)) : E W ρ μ (tRevL K te) (lstR Rs.reverse) := fun σ P H k Q q => by
  refine a σ P H k _ fun v P1 H1 s1 ⟨p, xs, e, hp, r⟩ => ?_
  have k1 := k.step s1
  refine ⟨p, xs, e, SqL.of (k1.hx.le.lst hp), fun d hd => ?_⟩
  have s := k1.hx.new hd (.lst xs.reverse)
  exact q _ _ _ (s1.trans s) ⟨d, _, rfl, upd_same, reps_up s.ex.le (reps_rev r)⟩
/-! ### fields, dicts -/
theorem es_fld {C : Addr} {f : Str} {fs : List (Str × RP)} (a : E W ρ μ ta (insR C fs)) (cl : Cls K C) (na : NoAttr K C f) (h : (f, R) ∈ fs) : E W ρ μ (tFld K ta f) R := fun σ P H k Q q => by
  refine a σ P H k _ fun v P1 H1 s1 ⟨p, dx, gs, e, hp, g⟩ => ?_
  obtain ⟨x, hx, rx⟩ := g f R h
  exact ⟨p, C, dx, gs, x, e, s1.le.ins hp, cl, na, hx, q _ P1 H1 s1 rx⟩
theorem es_dget {kvs : List (Key × V)} {kk : Key} {x : V} (a : E W ρ μ td (dctR kvs)) (b : E W ρ μ tk (valR (kV kk))) (h : valV kvs kk = some x) : E W ρ μ (tDGet td tk) (valR x) := fun σ P H k Q q => by
  refine a σ P H k _ fun v P1 H1 s1 ⟨d, e, hd⟩ => ?_
  refine b σ P1 H1 (k.step s1) _ fun w P2 H2 s2 r2 => ?_
  have e2 : w = kV kk := r2
  subst e2
  refine ⟨d, x, e, ?_, q _ P2 H2 (s1.trans s2) rfl⟩
  rw [← h]
  exact dget_of ((s2.ex.le.trans s2.le).dK hd) kk
theorem es_dget2 {kvs : List (Key × V)} {kk : Key} {x : V} {tx : TE} (a : E W ρ μ td (dctR kvs)) (b : E W ρ μ tk (valR (kV kk))) (c : E W ρ μ tx (valR x)) : E W ρ μ (tDGet2 td tk tx) (valR ((valV kvs kk).getD x)) := fun σ P H k Q q => by
  refine a σ P H k _ fun v P1 H1 s1 ⟨d, e, hd⟩ => ⟨d, e, .inl ⟨kvs, s1.le.dK hd⟩, ?_⟩
  refine b σ P1 H1 (k.step s1) _ fun w P2 H2 s2 r2 => ?_
  refine c σ P2 H2 ((k.step s1).step s2) _ fun z P3 H3 s3 r3 => ?_
  have e2 : w = kV kk := r2
  have e3 : z = x := r3
  subst e2
  subst e3
  exact ⟨_, dget_of (((s2.ex.trans s3.ex).le.trans s3.le).dK hd) kk, q _ P3 H3 ((s1.trans s2).trans s3) rfl⟩
end
section
variable {X : Cx}
theorem cr_sortD (hu : X.A.units + 80 < cLine) : CallR X (.builtin "sorted") (rSortD X.K) := by
  intro pins s σ H xs us Q I r h
  obtain ⟨a, ts, ds, rfl, hl, hd, h1, h2, h3, h4, q⟩ := h
  obtain ⟨u, rfl, ru⟩ := vals1 r
  obtain rfl : u = Value.ref a := ru
  obtain ⟨its, rv, pl, hz⟩ := I.list hl
  have each : ∀ {ts : List V} {its : List Value} {ds : List PyData}, Vals ts its → DpAll X.K H ts ds → PySem.W.EachIs (fun v d => ∃ as, Reads s.heap v d as) its ds ∧ PySem.W.EachIs (fun v (p : V × PyData) => RelV p.1 v ∧ ∃ as, Reads s.heap v p.2 as) its (ts.zip ds) := by
    intro ts its ds r d
    induction r generalizing ds with
    | nil => cases d; exact ⟨.nil, .nil⟩
    | cons h t ih =>
      cases d with
      | cons d1 d2 =>
        obtain ⟨i1, i2⟩ := ih d2
        exact ⟨.cons (Dp.reads I _ _ _ d1 h) i1, .cons ⟨h, Dp.reads I _ _ _ d1 h⟩ i2⟩
  obtain ⟨e1, e2⟩ := each rv hd
  have hlen : ts.length = ds.length := dp_len hd
  have mp : (ts.zip ds).map (fun p => p.2) = ds := by rw [List.map_snd_zip]; omega
  have keep : (ts.zip ds).mergeSort (PySem.W.dataLe false fun p => p.2) = ts.zip ds := by
    refine List.mergeSort_of_pairwise ?_
    have h5 : ((ts.zip ds).map fun p => p.2).Pairwise fun d e => PySem.W.dataLt e d = false := by rw [mp]; exact h4
    refine (List.pairwise_map.mp h5).imp fun {p q} hpq => ?_
    show (!PySem.W.dataLt q.2 p.2) = true
    rw [hpq]
    rfl
  refine PySem.W.sorted_data (R := fun v (p : V × PyData) => RelV p.1 v) (enc := fun p : V × PyData => p.2) (bs := ts.zip ds) pl.isList (e2.mono fun _ _ h => h.1) (e2.mono fun _ _ h => h.2) (by rw [mp]; exact h1) (by rw [mp]; exact h2) (by rw [List.length_zip]; omega)
    (fun b hb => by have := h3 b.2 (List.of_mem_zip hb).2; omega) fun out ho he => ?_
  rw [keep] at he
  have vo : Vals ts out := by
    have back : ∀ {l : List (V × PyData)} {us : List Value}, PySem.W.EachIs (fun v (p : V × PyData) => RelV p.1 v) us l → Vals (l.map fun p => p.1) us := by
      intro l us h
      induction h with
      | nil => exact .nil
      | cons a _ ih => exact .cons a ih
    have b := back he
    rwa [List.map_fst_zip (by omega)] at b
  obtain ⟨n, hn⟩ := PyProof.Rows.sortedAll_at s.heap its (List.toArray out)
  refine ⟨.ref (s.heap.objs.size + 1), _, I.laid (t' := s.toks) (o := .lst ts) (fun b o e => PyProof.Rows.sortedAll_old e) (Nat.le_succ _) ⟨hz, out, n, vo, hn⟩, rfl, q _ (I.hok.fresh (Nat.le_succ _))⟩
theorem cr_sorted' (hc : X.calm = true) (hu : X.A.units + 80 < cLine) : CallR X (.builtin "sorted") (cSorted X.K) := CallR.or cr_sortedI (CallR.or (call_sortedDI hc) (cr_sortD hu))
end
end Y
end
section
/-! The layer, part 7: defs, their promises, calls of them. -/
namespace Y
open PySem PySem.Spec L2
open PyProof.Rows (envOfC)
def top (i : Nat) : Stmt := PySem.Challenge.pw_wholestakes_k45_whole_greatest_coins_tha.main.body.getD i (.Pass ⟨0, 0, 0, 0⟩)
def inClass (s : Stmt) (i : Nat) : Stmt := match s with
  | .ClassDef (body := b) .. => b.getD i (.Pass ⟨0, 0, 0, 0⟩)
  | _ => .Pass ⟨0, 0, 0, 0⟩
/-! ### what the top has written -/
structure Txt (K : PySem.W.Frag) (mg : Str → Option Value) : Prop where
  isinstance : mg "isinstance" = none
  int : mg "int" = none
  bool : mg "bool" = none
  str : mg "str" = none
  len : mg "len" = none
  all : mg "all" = none
  any : mg "any" = none
  range : mg "range" = none
  sum : mg "sum" = none
  list : mg "list" = none
  sorted : mg "sorted" = none
  tuple : mg "tuple" = none
  max : mg "max" = none
  min : mg "min" = none
  enumerate : mg "enumerate" = none
  abs : mg "abs" = none
  WHOLE : ∃ t, mg "WHOLE" = some (.int 2520 t)
  MOST_PLACES : ∃ t, mg "MOST_PLACES" = some (.int 12 t)
  MOST_ARROWS : ∃ t, mg "MOST_ARROWS" = some (.int 60 t)
  MOST_PAY : ∃ t, mg "MOST_PAY" = some (.int 9 t)
  MOST_GOAL : ∃ t, mg "MOST_GOAL" = some (.int 1000 t)
  LETTERS : ∃ t, mg "LETTERS" = some (.str "abcdefghijklmnopqrstuvwxyz" t)
theorem bo_isinstance : bootBuiltins "isinstance" = some (.builtin "isinstance") := by decide +kernel
theorem bo_int : bootBuiltins "int" = some (.type "int") := by decide +kernel
theorem bo_bool : bootBuiltins "bool" = some (.type "bool") := by decide +kernel
theorem bo_str : bootBuiltins "str" = some (.type "str") := by decide +kernel
theorem bo_tuple : bootBuiltins "tuple" = some (.type "tuple") := by decide +kernel
theorem bo_len : bootBuiltins "len" = some (.builtin "len") := by decide +kernel
theorem bo_all : bootBuiltins "all" = some (.builtin "all") := by decide +kernel
theorem bo_any : bootBuiltins "any" = some (.builtin "any") := by decide +kernel
theorem bo_sum : bootBuiltins "sum" = some (.builtin "sum") := by decide +kernel
theorem bo_sorted : bootBuiltins "sorted" = some (.builtin "sorted") := by decide +kernel
theorem bo_max : bootBuiltins "max" = some (.builtin "max") := by decide +kernel
theorem bo_min : bootBuiltins "min" = some (.builtin "min") := by decide +kernel
theorem bo_abs : bootBuiltins "abs" = some (.builtin "abs") := by decide +kernel
section
variable {X : Cx}
theorem p_int {x : Str} {i : Int} {pos : Pos} (hg : Gl X x) (h : ∃ t, X.mg x = some (.int i t)) (hd : (x == ("__debug__" : Str)) = false := by decide) : PE X (.Name x pos) (tC (.int i)) := by
  obtain ⟨t, ht⟩ := h
  exact pe_glob hg ht ⟨t, rfl⟩ hd
theorem p_str {x z : Str} {pos : Pos} (hg : Gl X x) (h : ∃ t, X.mg x = some (.str z t)) (hd : (x == ("__debug__" : Str)) = false := by decide) : PE X (.Name x pos) (tC (.str z)) := by
  obtain ⟨t, ht⟩ := h
  exact pe_glob hg ht ⟨t, rfl⟩ hd
end
theorem _root_.L2.Room.units2 {k : Nat} {A : Around} (r : Room k A) : A.units + 80 < cLine := by have := r.un; omega
/-! ### a def's entry -/
def entryR (N : List Str) (Rs : List RP) : List (Option RP) := Rs.map some ++ List.replicate (N.length - Rs.length) none
theorem reps_at {H : Hp} : ∀ {Rs : List RP} {xs : List V}, Reps Rs xs H → ∀ {m : Nat} {i : Nat} {R : RP}, (Rs.map some ++ List.replicate m (none : Option RP))[i]? = some (some R) → ∃ v, (xs.map some ++ List.replicate m (none : Option V))[i]? = some (some v) ∧ R.r v H
  | _, _, .nil, m, i, R, e => by
    rw [List.map_nil, List.nil_append, List.getElem?_replicate] at e
    split at e <;> cases e
  | _, _, .cons h t, m, 0, R, e => by
    cases (Option.some.inj (Option.some.inj e))
    exact ⟨_, rfl, h⟩
  | _, _, .cons h t, m, i + 1, R, e => reps_at t (m := m) (i := i) e
theorem entry_at {N : List Str} {Rs : List RP} {vs : List V} {P H : Hp} (l : Le P H) (r : Reps Rs vs P) : At ⟨W0, P, H, [], none⟩ (entryR N Rs) [] (L2.start N vs) P H := by
  have hl : Rs.length = vs.length := Paired.length r
  refine ⟨⟨⟨l, fun a z => z.elim, trivial, fun p m h => absurd h List.not_mem_nil, List.nodup_nil⟩, fun i R e => ?_, ?_⟩, Ex.refl P, fun a _ h => h, fun a o _ e => e, fun d od kvs (e : none = some _) => (nomatch e), fun B h => absurd h List.not_mem_nil, fun p m h => absurd h List.not_mem_nil⟩
  · have := reps_at r (m := N.length - Rs.length) e
    unfold L2.start
    rw [← hl]
    exact this
  · unfold L2.start entryR
    rw [List.length_append, List.length_append, List.length_map, List.length_map, hl]
    simp
/-! ### promises -/
structure Callee (P : Program) (w : World) (K : PySem.W.Frag) (mg : Str → Option Value) (base : Heap) (x : Str) (ps : List Str) (k : Nat) (sp : Sp) : Prop where
  ex : ∃ f fd, FnOk P w K mg base CX0 k f fd ps sp ∧ mg x = some (.ref f) ∧ PySem.W.keepIn K (.ref f) = true ∧ Binds K fd ps []
theorem pe_callC {X : Cx} {x : Str} {ps : List Str} {k : Nat} {sp : Sp} {p pos : Pos} {e : Expr} {es : List Expr} {t : TA} (c : Callee X.prog X.w X.K X.mg X.base x ps k sp) (hr : Room k X.A) (hg : Gl X x) (ha : PA X (e :: es) t) (hdb : (x == ("__debug__" : Str)) = false := by decide)
    (he : starEach (e :: es) X.env = (false, eval e X.env) :: starEach es X.env := by rfl) (hpl : (backTo pos (starEach es X.env)).any (·.1) = false := by rfl) : PE X (.Call (.Name x p) (e :: es) [] pos) (tCall sp [] E0 t) := by
  obtain ⟨f, fd, F, hm, hk, hb⟩ := c.ex
  exact pe_call F hr hg hm hk hb .nil pass0 ha hdb he hpl
def DefAt (K : PySem.W.Frag) (mg : Str → Option Value) (x : Str) (st : Stmt) : Prop := ∃ f fd, FunD K x x (defArgs st) (defBody st) (defScope st) [] [] f fd ∧ mg x = some (.ref f)
abbrev BindsL (x : Str) (st : Stmt) (ps : List Str) : Prop := ∀ (kV doc pm : Value) (an : Option Addr) (cdv ct : Value) (us : List Value), us.length = ps.length → bindArgs (PySem.W.fnOf x x (defArgs st) (defBody st) (defScope st) .none kV doc pm an cdv ct) ⟨us, []⟩ = pure (ps.zip us)
section
variable {P : Program} {w : World} {K : PySem.W.Frag} {mg : Str → Option Value} {base : Heap}
/-- what a def's body keeps -/
theorem DefAt.ok {ι : Type} {ok : ι → Prop} {args : ι → List RP} {res : ι → RP} {x : Str} {st : Stmt} {N ps : List Str} {k : Nat} (d : DefAt K mg x st) (S : FnScope N ps (defScope st)) (hb : BindsL x st ps) (hl : ∀ i, ok i → (args i).length = ps.length)
    (hbody : ∀ (f : Addr) (cdv : Value) (A : Around) (outer : List Env) (s : Shared) (H : Hp) (E : XK), Room k (A.deeper (envOfC x (defScope st) s.heap.objs.size f cdv)) →
      ∃ t, PSs (cxOf CX0 P w K mg base N x (defScope st) f cdv A outer s H E).nox (defBody st) t ∧ ∀ (i : ι) (P H : Hp) (σ : St) (Q : VK), ok i → At ⟨W0, P, H, [], none⟩ (entryR N (args i)) [] σ P H →
        (∀ v P' H', Stp W0 P H P' H' → (res i).r v P' → Q v H') → t { nx := fun _ H' => Q .non H', rt := Q } σ H) : Callee P w K mg base x ps (k + 1) (spOf ok args res) := by
  obtain ⟨f, fd, F, hm⟩ := d
  refine ⟨f, fd, F.ok S (fun vs H Q E h => ?_) (fun cdv A outer s H vs Q E hr h => ?_), hm, F.kp, F.bindsN hb⟩
  · obtain ⟨i, P, hi, _, r, _⟩ := h
    rw [← hl i hi, Paired.length r]
  · obtain ⟨i, P, hi, l, r, q⟩ := h
    obtain ⟨t, h1, h2⟩ := hbody f cdv A outer s H E hr
    exact ⟨t, h1.nox, h2 i P H (L2.start N vs) Q hi (entry_at l r) q⟩
end
end Y
end
section
/-! The layer, part 8: further readings. -/
namespace Y
open PySem PySem.Spec L2
section
variable {W : Wd} {ρ : List (Option RP)} {μ : Me} {K : PySem.W.Frag} {ta tb tc td tk : TE} {Ra Rb Rc R : RP} {Rs : List RP} {r r' : R2}
theorem es_chain {b c : Bool} (a : E W ρ μ ta Ra) (h : E W ρ μ tb Rb) (h3 : E W ρ μ tc Rc) (o : O2 W μ r Ra Rb (blR b)) (o' : O2 W μ r' Rb Rc (blR c)) : E W ρ μ (tChain r r' ta tb tc) (blR (b && c)) := fun σ P H k Q q => by
  refine a σ P H k _ fun x P1 H1 s1 r1 => ?_
  refine h σ P1 H1 (k.step s1) _ fun y P2 H2 s2 r2 => ?_
  have k2 := (k.step s1).step s2
  refine o P2 H2 x y k2.hx (Ra.up s2.ex.le r1) r2 _ fun z P3 H3 s3 r3 => ⟨b, r3, ?_⟩
  have k3 := k2.step s3
  cases b with
  | true =>
    refine (if_pos rfl).symm ▸ ?_
    refine h3 σ P3 H3 k3 _ fun w P4 H4 s4 r4 => ?_
    exact o' P4 H4 y w (k3.step s4).hx (Rb.up (s3.ex.trans s4.ex).le r2) r4 Q fun v P5 H5 s5 r5 => q v P5 H5 ((((s1.trans s2).trans s3).trans s4).trans s5) r5
  | false => exact (if_neg Bool.false_ne_true).symm ▸ q _ P3 H3 ((s1.trans s2).trans s3) rfl
theorem o2_inDI {i : Int} {kvs : List (Key × V)} : O2 W μ (uIn K) (intR i) (dctR kvs) (blR (valV kvs (.inl i)).isSome) := o2_inD (kk := .inl i)
theorem o2_ninDI {i : Int} {kvs : List (Key × V)} : O2 W μ (uNotIn K) (intR i) (dctR kvs) (blR (!(valV kvs (.inl i)).isSome)) := o2_ninD (kk := .inl i)
theorem es_dgetI {kvs : List (Key × V)} {i : Int} {x : V} (a : E W ρ μ td (dctR kvs)) (b : E W ρ μ tk (intR i)) (h : valV kvs (.inl i) = some x) : E W ρ μ (tDGet td tk) (valR x) := es_dget (kk := .inl i) a b h
theorem es_dget2I {kvs : List (Key × V)} {i : Int} {x : V} {tx : TE} (a : E W ρ μ td (dctR kvs)) (b : E W ρ μ tk (intR i)) (c : E W ρ μ tx (valR x)) : E W ρ μ (tDGet2 td tk tx) (valR ((valV kvs (.inl i)).getD x)) := es_dget2 (kk := .inl i) a b c
theorem o2_ninT {i : Int} {ns : List Int} : O2 W μ (uNotIn K) (intR i) (tupR (ns.map fun n => intR n)) (blR (!decide (i ∈ ns))) := fun P H v w k r1 ⟨p, xs, e, h, r⟩ Q q => by
  have e1 : v = .int i := r1
  subst e1
  subst e
  have e2 := reps_ints r
  subst e2
  refine .inl ⟨p, _, rfl, .inr (SqT.of (k.le.tup h)), rfl, flat_ints ns, ?_⟩
  show Q (.bl (if true = true then !inV (.int i) (ns.map V.int) else _)) H
  rw [if_pos rfl, inV_ints]
  exact q _ P H (Stp.refl k.le) rfl
/-- is it None: of a value that is an int -/
theorem o2_isI {i : Int} : O2 W μ uIs (intR i) nonR (blR false) := fun P H v w k r1 r2 Q q => by
  have e1 : v = .int i := r1
  subst e1
  refine ⟨r2, ?_⟩
  exact q _ P H (Stp.refl k.le) rfl
theorem es_eqI {te : TE} {i j : Int} (a : E W ρ μ te (intR i)) (h : i = j) : E W ρ μ te (intR j) := h ▸ a
theorem es_eqB {te : TE} {i j : Bool} (a : E W ρ μ te (blR i)) (h : i = j) : E W ρ μ te (blR j) := h ▸ a
end
/-! ### the sum of a tuple -/
def rSumT (K : PySem.W.Frag) : List V → Hp → VK → Prop := fun vs H Q => ∃ (a : Addr) (ms : List Int), vs = [V.ref a] ∧ SqT K H a (ms.map V.int) ∧ Q (.int ms.sum) H
def cSum (K : PySem.W.Frag) : List V → Hp → VK → Prop := fun vs H Q => rSum K vs H Q ∨ rSumT K vs H Q
theorem cr_sumT {X : Cx} (hc : X.calm = true) : CallR X (.builtin "sum") (rSumT X.K) := by
  intro pins s σ H xs us Q I r h
  obtain ⟨a, ns, rfl, ht, q⟩ := h
  obtain ⟨u, rfl, ru⟩ := vals1 r
  obtain rfl : u = Value.ref a := ru
  obtain ⟨its, rv, p, hz⟩ := I.tuple ht
  have hi := rv.ints
  obtain ⟨ys, e1⟩ := hi.allInts.items
  have hn : numsOf its.toArray.toList = ns := by rw [show its.toArray.toList = its from rfl, hi.numsOf]
  have hT : s.heap.IsTuple a its.toArray := p
  rw [e1] at hT hn
  rw [nums_intItems] at hn
  refine PySem.W.ktm_sumG (I.ok.hd hc) hT fun h' tk t' hk => ?_
  rw [preSum_eq, List.take_of_length_le (by simp), hn]
  exact ⟨.int _, H, I.kept hk, ⟨_, rfl⟩, q⟩
theorem cr_sumU {X : Cx} (hc : X.calm = true) : CallR X (.builtin "sum") (cSum X.K) := CallR.or (cr_sum hc) (cr_sumT hc)
section
variable {W : Wd} {μ : Me} {K : PySem.W.Frag}
theorem oc_sumL {ns : List Int} : OC W μ (cSum K) [lstR (ns.map fun n => intR n)] (intR ns.sum) := fun P H xs k r Q q => .inl (oc_sum P H xs k r Q q)
theorem oc_sumT' {ns : List Int} : OC W μ (cSum K) [tupR (ns.map fun n => intR n)] (intR ns.sum) := fun P H xs k r Q q => .inr (oc_sumT P H xs k r Q q)
end
end Y
end
section
/-! The layer, part 9: enumerate of a tuple. -/
namespace PySem
open AutoSeq1 (wpAny_loadPart')
set_option maxHeartbeats 1000000 in
/-- enumerate(v), v told by how its iterator begins -/
theorem enum_one {v : Value} {o : Obj} {H : Heap → Prop} (B : Begins v o H) (hv : ∀ obj : Value, Builtin.SmallTypes.fitsIndex 0 = true) :
    Meets (Builtin.«enumerate.__new__» ⟨[.type "enumerate", v], []⟩) (fun _ R s => H s.heap ∧
      R (.ok (.ret (.ref (s.heap.push o).objs.size))) { s with heap := (s.heap.push o).push { cls := .type "enumerate", data := .fields #[.none, .bool false, .ref s.heap.objs.size, rawInt 0, .none, .none] } }) :=
  .of_wp fun prog w A R s h => by
    obtain ⟨hp, g, d, tk, os⟩ := s
    obtain ⟨h1, h⟩ := h
    have hsub := sub_enumerate
    have begin_ : ∀ {A' : Around} {E : Value → Shared → Prop} {Q : Value → Shared → Prop}, Q (.ref hp.objs.size) ⟨hp.push o, g, d, tk, os⟩ → wpAny (model prog w) A' (pyIter v) Q E ⟨hp, g, d, tk, os⟩ :=
      fun q => B.iter prog w _ _ ⟨hp, g, d, tk, os⟩ _ h1 q
    wp_walk using begin_
    refine wpAny_stack_any fun st => wpAny_pure ?_
    split
    · rename_i c _ _ _ _ _
      cases (c == Value.type "enumerate") <;> (wp_walk using begin_; exact ⟨_, rfl, h⟩)
    · wp_walk using begin_
      exact ⟨_, rfl, h⟩
section
variable {prog : Program} {w : World} {A : Around} {E : Value → Shared → Prop} {s : Shared}
theorem enum_of_one {v : Value} {o : Obj} {H : Heap → Prop} {Q : Value → Shared → Prop} (B : Begins v o H) (h1 : H s.heap)
    (h : ∀ h', IsEnum h' (s.heap.objs.size + 1) s.heap.objs.size 0 .none → h'.get? s.heap.objs.size = some o → h'.objs.size = s.heap.objs.size + 2 →
      (∀ b o, s.heap.get? b = some o → h'.get? b = some o) → Q (.ref (s.heap.objs.size + 1)) { s with heap := h' }) : wpAny (model prog w) A (call (.type "enumerate") [v]) Q E s := by
  refine callType_new F.called_enumerate (by decide) (F.typeCall_enumerate_1 _) (F.newCall_enumerate_1 _) (fun obj => F.args_object_init_2 obj _) F.entry_enumerate_new (enum_one B fun _ => by decide) ⟨h1, ?_⟩
  have hz : (s.heap.push o).objs.size = s.heap.objs.size + 1 := Heap.size_push ..
  have he : IsEnum ((s.heap.push o).push { cls := .type "enumerate", data := .fields #[.none, .bool false, .ref s.heap.objs.size, rawInt 0, .none, .none] }) (s.heap.objs.size + 1) s.heap.objs.size 0 .none := by
    have q := Heap.get?_push_size (s.heap.push o) (o := { cls := .type "enumerate", data := .fields #[.none, .bool false, .ref s.heap.objs.size, rawInt 0, .none, .none] }) rfl
    rw [hz] at q
    exact q
  show _ ∧ _
  rw [hz]
  exact ⟨⟨_, he, rfl⟩, h _ he (Heap.get?_push_of_some _ (Heap.get?_push_size _ B.free)) (by rw [Heap.size_push, hz]) fun b o x => Heap.get?_push_of_some _ (Heap.get?_push_of_some _ x)⟩
/-- enumerate's end over a tuple, the iterator at or behind the tuple's end -/
theorem wpAny_pyNext_enum_endT {e it t : Addr} {i : Nat} {items : Array Value} {c : Int} {old : Value} {Q : Option Value → Shared → Prop} (hh : A.in1.handled = none) (he : IsEnum s.heap e it c old) (hit : s.heap.IsTupleIter it t i) (ht : s.heap.IsTuple t items)
    (hx : items[i]? = none) (hQ : ∀ h', Heap.ExtBut it s.heap h' → Q none { s with heap := h' }) : wpAny (model prog w) A (pyNext (.ref e)) Q E s := by
  have hT : s.TypeIs (.ref e) "enumerate" := ⟨_, he, rfl⟩
  unfold pyNext
  refine wpAny_bind (wpAny_attempt (wpAny_callSpecial?_slot (name := Str.ofString "__next__") hT F.slot_enumerate_next (wpAny_call_entry F.slot_enumerate_next hT F.entry_enumerate_next ?_ (F.args_enumerate_next_1 _))))
  show wpAny _ _ (field (.ref e) 2 >>= _) _ _ _
  refine wpAny_bind (wpAny_field he rfl (x := .ref it) rfl ?_)
  refine wpAny_bind (wpAny_nextOf_tuple_end hh hit ht hx fun h' x he' hx' => ?_)
  obtain ⟨o, ho, hc⟩ := hx'
  exact wpAny_bind (wpAny_isInstance (T := "StopIteration") (b := true) ⟨o, ho, hc⟩ isSubtype_stop (wpAny_pure (hQ _ he')))
end
end PySem
namespace Y
open PySem PySem.Spec L2
/-- the tuple at a, each item in a new pair -/
def ItT (K : PySem.W.Frag) (a : Addr) : It where
  go := fun i H => ∃ (xs : List V) (x : V), SqT K H a xs ∧ xs[i]? = some x
  yld := fun i H v H' => ∃ T x, v = .ref T ∧ H T = none ∧ H' = upd H T (.tup [.int (i : Nat), x]) ∧ ∀ xs, SqT K H a xs → xs[i]? = some x
  stop := fun i H => ∃ xs : List V, SqT K H a xs ∧ xs.length ≤ i
theorem turn_enumT {P : Program} {w : World} {K : PySem.W.Frag} {elts : List Expr} {kk : Nat} {tpos : Pos} (a e it : Addr) :
    Turn P w K (.Tuple elts kk tpos) (ItT K a) [e, it] e (fun i h => (∃ old, IsEnum h e it ((i : Nat) : Int) old) ∧ h.IsTupleIter it a i ∧ e ≠ it) := by
  refine ⟨by simp, fun i h st b hb => ?_, fun i h h' st k => ?_, ?_, ?_, fun A i s Q E st h => ?_⟩
  · obtain ⟨⟨old, he⟩, ⟨o, ho, hc, hd⟩, _⟩ := st
    have hb' : b = e ∨ b = it := by simpa using hb
    rcases hb' with z | z <;> rw [z]
    · exact ⟨_, he, fun v q => nomatch q⟩
    · exact ⟨o, ho, fun v q => by rw [hd] at q; cases q⟩
  · obtain ⟨⟨old, he⟩, hi, hne⟩ := st
    exact ⟨⟨old, k e (by simp) _ he⟩, hi.at fun o q => k it (by simp) o q, hne⟩
  · intro X hP hw hK hc i pins s σ H E I hf st hg
    subst hP hw hK
    obtain ⟨⟨old, he⟩, hit, hne⟩ := st
    obtain ⟨xs, x, hq, hx⟩ := hg
    obtain ⟨its, rv, p, hz⟩ := I.tuple hq
    have p' : s.heap.IsTuple a its.toArray := p
    obtain ⟨u, hu, ru⟩ := rv.get hx
    have hel : e < s.heap.objs.size := Heap.lt_size he
    have hil : it < s.heap.objs.size := by obtain ⟨_, q, _⟩ := hit; exact Heap.lt_size q
    have hai : a ≠ it := fun z => by
      obtain ⟨o1, q1, c1, _⟩ := hit
      obtain ⟨o2, q2, c2, _⟩ := p'
      rw [z] at q2
      rw [q1] at q2
      cases q2
      rw [c1] at c2
      injection c2 with c2
      exact absurd c2 (by decide)
    have hae : a ≠ e := fun z => by
      obtain ⟨o2, q2, c2, _⟩ := p'
      have q1 := he
      unfold IsEnum at q1
      rw [z] at q2
      rw [q1] at q2
      cases q2
      injection c2 with c2
      exact absurd c2 (by decide)
    have D := Draws.tuple (prog := X.prog) (w := X.w) (A := X.A.in1) (I.ok.hd hc) it a hai its.toArray
    have hlt : i < its.toArray.size := by
      have := (List.getElem?_eq_some_iff.mp hu).1
      simpa using this
    refine wpAny_pyNext_enum_itemD (fp := [it, a]) D he ⟨hit, p'⟩ hlt hne (by simp [hne, Ne.symm hae]) fun z h' tk hz' ho hit' hT hsz hk => ?_
    have hz2 : its.toArray[i]? = some z := hz'
    have ez : z = u := by
      have : its.toArray[i]? = some u := by simpa using hu
      rw [this] at hz2
      exact (Option.some.inj hz2).symm
    subst ez
    refine ⟨_, rfl, wpAny_letOwnedTupleGo_enum (s := { s with heap := h', toks := tk + 1 }) ho fun h'' he' sb => ?_⟩
    have hT2 : h''.get? s.heap.objs.size = some { cls := .type "tuple", data := .seq #[.int i tk, z] } := (sb.2 _ (Nat.ne_of_gt hel)).trans hT
    have new : ObjOk X.prog X.w (upd H s.heap.objs.size (.tup [.int (i : Nat), x])) h'' s.heap.objs.size (.tup [.int (i : Nat), x]) :=
      ⟨by show 2 ≤ sizeLine; decide, [.int i tk, z], .cons ⟨_, rfl⟩ (.cons ru .nil), ⟨_, hT2, rfl, _, rfl⟩⟩
    have I1 : L2.Inv X pins σ (upd H s.heap.objs.size (.tup [.int (i : Nat), x])) { s with heap := h'', toks := tk + 1 } :=
      I.turnedNew (ch := [e, it]) (fun b ob hb q => (sb.2 b (fun z => hb (by simp [z]))).trans (hk b ob (fun z => hb (by simp [z])) (fun z => hb (by simp [z])) q)) hf (Nat.le_refl _) new
    refine ⟨.ref s.heap.objs.size, _, I1, rfl, ⟨_, x, rfl, I.hok.fresh (Nat.le_refl _), rfl, fun ys hy => ?_⟩, ⟨⟨z, ?_⟩, hit'.1.at fun o q => (sb.2 it (Ne.symm hne)).trans q, hne⟩, fun b hb => ?_⟩
    · rw [I.tuple_inj hy hq]
      exact hx
    · have e1 : ((i + 1 : Nat) : Int) = (i : Int) + 1 := by omega
      rw [e1]
      exact he'
    · have hb' : b = e ∨ b = it := by simpa using hb
      have lt : b < s.heap.objs.size := by rcases hb' with z | z <;> rw [z] <;> assumption
      rw [upd_ne (Nat.ne_of_lt lt)]
      exact (hf b hb).1
  · intro X hP hw hK hc i pins s σ H E I hf st hg
    subst hP hw hK
    obtain ⟨⟨old, he⟩, hit, hne⟩ := st
    obtain ⟨xs, hq, hx⟩ := hg
    obtain ⟨its, rv, p, hz⟩ := I.tuple hq
    have p' : s.heap.IsTuple a its.toArray := p
    obtain ⟨f0, f1, f2, f3, f4, f5⟩ := hf it (by simp)
    have hl := rv.length
    have hai : a ≠ it := fun z => by
      obtain ⟨o1, q1, c1, _⟩ := hit
      obtain ⟨o2, q2, c2, _⟩ := p'
      rw [z] at q2
      rw [q1] at q2
      cases q2
      rw [c1] at c2
      injection c2 with c2
      exact absurd c2 (by decide)
    have hh := I.ok.hd hc
    have hT : Builtin.SmallTypes.fitsIndex 0 = true := by decide
    have D := Draws.tuple (prog := X.prog) (w := X.w) (A := X.A.in1) hh it a hai its.toArray
    obtain ⟨o, ho, hc2, n, hd2⟩ := p'
    refine wpAny_pyNext_enum_endT hh he hit ⟨o, ho, hc2, n, hd2⟩ (by simp; omega) fun h' eb => ⟨rfl, I.turned (t' := s.toks) (fun b o hb q => eb b o hb q) f0 f1 f3 f4 f5⟩
  · obtain ⟨⟨_, he⟩, _⟩ := st
    exact wpAny_pyIter_enum he h
def iEnumT (K : PySem.W.Frag) (ta : TA) : TI := fun σ H R => ta σ H fun vs H1 => ∃ a xs, vs = [.ref a] ∧ SqT K H1 a xs ∧ R (ItT K a) H1
theorem pi_enumT {X : Cx} {e : Expr} {ta : TA} {p pos tpos : Pos} {elts : List Expr} {kk : Nat} (hg : Gl X "enumerate") (hm : X.mg "enumerate" = none) (ha : PA X [e] ta) (hs : starEach [e] X.env = [(false, eval e X.env)] := by rfl) :
    PI X (.Tuple elts kk tpos) (.Call (.Name "enumerate" p) [e] [] pos) (iEnumT X.K ta) := by
  refine ⟨fun pins s σ H R I h => ?_⟩
  refine PyProof.Rows.Call_ (ld_blt I hg hm PyProof.Rows.boot_enumerate (PyProof.Rows.callWith_type1 (thn (ha.run pos pins s σ H _ I h) fun us s1 ⟨vs, H1, I1, r1, q1⟩ => ?_) hs rfl))
  obtain ⟨a, xs, ex, hq, q⟩ := q1
  subst ex
  obtain ⟨u, rfl, ru⟩ := vals1 r1
  obtain rfl : u = Value.ref a := ru
  obtain ⟨its, rv, p', hz⟩ := I1.tuple hq
  have p2 : s1.heap.IsTuple a its.toArray := p'
  refine enum_of_one (begins_tuple a its.toArray) p2 fun h' he hit hsz hk => wpAny_pyIter_enum he ?_
  have I2 : L2.Inv X pins σ H1 { s1 with heap := h' } := I1.kept (t' := s1.toks) hk
  refine ⟨s1.heap.objs.size + 1, [s1.heap.objs.size + 1, s1.heap.objs.size], _, _, H1, rfl, I2, turn_enumT a (s1.heap.objs.size + 1) s1.heap.objs.size, ⟨⟨.none, he⟩, ⟨_, hit, rfl, rfl⟩, Nat.succ_ne_self _⟩, fun b hb => ?_, q⟩
  have hb' : b = s1.heap.objs.size + 1 ∨ b = s1.heap.objs.size := by simpa using hb
  have hle : s1.heap.objs.size ≤ b := by rcases hb' with z | z <;> rw [z] <;> omega
  exact I1.fpOk hle (I1.hok.fresh hle)
/-- .. what is walked -/
theorem src_enumT {W : Wd} {ρ : List (Option RP)} {μ : Me} {ta : TA} {K : PySem.W.Frag} {n : Nat} {f : Nat → RP} (a : EA W ρ μ ta [tupR ((List.range n).map f)]) : Src W ρ μ (iEnumT K ta) ((List.range n).map fun i => tupR [intR (i : Nat), f i]) := fun σ P H k R q => by
  refine a σ P H k _ fun vs P1 H1 s1 r => ?_
  obtain ⟨v, rfl, t, xs, rfl, hp, r'⟩ := reps_one r
  have k1 := k.step s1
  refine ⟨t, xs, rfl, SqT.of (k1.hx.le.tup hp), q _ P1 H1 s1 ⟨fun i R2 μ2 P2 H2 e k2 ex _ => ?_, fun i μ2 P2 H2 e k2 ex _ => ?_⟩⟩
  · rw [List.getElem?_map] at e
    cases c : (List.range n)[i]? with
    | none => rw [c] at e; cases e
    | some j =>
      rw [c] at e
      cases e
      obtain ⟨l, ej⟩ := List.getElem?_eq_some_iff.mp c
      rw [List.getElem_range] at ej
      subst ej
      have h2 : H2 t = some (.tup xs) := k2.le.tup (ex t _ hp)
      obtain ⟨v, hv, rv⟩ := reps_get (i := i) (R := f i) r' (by rw [List.getElem?_map, c]; rfl)
      refine ⟨⟨xs, v, SqT.of h2, hv⟩, fun w H3 ⟨T, x, ew, hT, eH, hx⟩ => ?_⟩
      subst ew eH
      have e3 := hx xs (SqT.of h2)
      rw [hv] at e3
      cases e3
      have s := k2.new hT (.tup [.int (i : Nat), v])
      exact ⟨_, s, T, _, rfl, upd_same, .cons rfl (.cons ((f i).up (ex.trans s.ex).le rv) .nil)⟩
  · have h2 : H2 t = some (.tup xs) := k2.le.tup (ex t _ hp)
    refine ⟨xs, SqT.of h2, ?_⟩
    rw [← Paired.length r', List.length_map]
    simpa using e
end Y
end
section
/-! The layer, part 10: places, steps, tracks as values. -/
namespace Y
open PySem PySem.Spec L2
abbrev natsR (L : List Nat) : List RP := L.map fun p => intR ((p : Nat) : Int)
abbrev sR (s : Int × Nat) : RP := tupR [anyR, intR s.1, intR ((s.2 : Nat) : Int)]
abbrev stR (l : List (Int × Nat)) : RP := lstR (l.map sR)
def trackR (C : Addr) (N : WS.Net) : RP := insR C [("places", intR ((N.length : Nat) : Int)), ("kept_arrows", lstR (N.map stR))]
/-- the nets that come here -/
structure NW (N : WS.Net) : Prop where
  ok : WS.NetOk N
  few : N.length ≤ 12
  some : 0 < N.length
  three : ∀ p, (WS.st N p).length ≤ 3
structure TC (K : PySem.W.Frag) (C : Addr) : Prop where
  cls : Cls K C
  p : NoAttr K C "places"
  k : NoAttr K C "kept_arrows"
  a : NoAttr K C "arrows"
theorem natsR_eq (L : List Nat) : natsR L = (L.map fun p => ((p : Nat) : Int)).map fun n => intR n := by
  unfold natsR
  rw [List.map_map]
  rfl
theorem mem_cast {i : Nat} {L : List Nat} : ((i : Nat) : Int) ∈ L.map (fun p => ((p : Nat) : Int)) ↔ i ∈ L := by
  constructor
  · intro h
    obtain ⟨j, hj, e⟩ := List.mem_map.mp h
    have : j = i := by omega
    exact this ▸ hj
  · exact fun h => List.mem_map.mpr ⟨i, h, rfl⟩
section
variable {W : Wd} {ρ : List (Option RP)} {μ : Me} {K : PySem.W.Frag} {te : TE} {C : Addr}
theorem dec_cast (i : Nat) (L : List Nat) : decide (((i : Nat) : Int) ∈ L.map (fun p => ((p : Nat) : Int))) = decide (i ∈ L) := by
  by_cases h : i ∈ L
  · rw [decide_eq_true h, decide_eq_true (mem_cast.mpr h)]
  · rw [decide_eq_false h, decide_eq_false fun z => h (mem_cast.mp z)]
theorem o2_inNL {i : Nat} {L : List Nat} : O2 W μ (uIn K) (intR ((i : Nat) : Int)) (lstR (natsR L)) (blR (decide (i ∈ L))) := by
  rw [natsR_eq, ← dec_cast]
  exact o2_inL
theorem o2_inNT {i : Nat} {L : List Nat} : O2 W μ (uIn K) (intR ((i : Nat) : Int)) (tupR (natsR L)) (blR (decide (i ∈ L))) := by
  rw [natsR_eq, ← dec_cast]
  exact o2_inT
theorem o2_ninNL {i : Nat} {L : List Nat} : O2 W μ (uNotIn K) (intR ((i : Nat) : Int)) (lstR (natsR L)) (blR (!decide (i ∈ L))) := by
  rw [natsR_eq, ← dec_cast]
  exact o2_ninL
theorem o2_ninNT {i : Nat} {L : List Nat} : O2 W μ (uNotIn K) (intR ((i : Nat) : Int)) (tupR (natsR L)) (blR (!decide (i ∈ L))) := by
  rw [natsR_eq, ← dec_cast]
  exact o2_ninT
theorem es_places {N : WS.Net} (t : TC K C) (a : E W ρ μ te (trackR C N)) : E W ρ μ (tFld K te "places") (intR ((N.length : Nat) : Int)) := es_fld a t.cls t.p (by simp)
theorem es_kept {N : WS.Net} (t : TC K C) (a : E W ρ μ te (trackR C N)) : E W ρ μ (tFld K te "kept_arrows") (lstR (N.map stR)) := es_fld a t.cls t.k (by simp)
theorem src_range0 {ta : TA} {n : Nat} (h : EA W ρ μ ta [intR ((n : Nat) : Int)]) (h0 : n < 100000) : Src W ρ μ (iRng1 ta) (natsR (List.range n)) := by
  have e := src_range1 (n := ((n : Nat) : Int)) h ⟨by omega, by omega⟩
  rw [Int.toNat_natCast] at e
  exact e
end
/-- a value that is None or is not -/
def rkR (b : Bool) : RP := ⟨fun v _ => decide (v = V.non) = b, fun _ h => h⟩
theorem o2_isRk {W : Wd} {μ : Me} {b : Bool} : O2 W μ uIs (rkR b) nonR (blR b) := fun P H v w k r1 r2 Q q => by
  refine ⟨r2, ?_⟩
  have r1 : decide (v = V.non) = b := r1
  rw [r1]
  exact q _ P H (Stp.refl k.le) rfl
theorem rk_set {n p : Nat} {b : Nat → Bool} {c : Bool} : ((List.range n).map fun q => rkR (b q)).set p (rkR c) = (List.range n).map fun q => rkR (if q = p then c else b q) := by
  refine List.ext_getElem? fun i => ?_
  by_cases e : p = i
  · subst e
    by_cases l : p < n
    · rw [List.getElem?_set_self (by simpa using l), List.getElem?_map, List.getElem?_range l]
      simp
    · rw [List.getElem?_eq_none (by simp; omega), List.getElem?_eq_none (by simp; omega)]
  · rw [List.getElem?_set_ne e, List.getElem?_map, List.getElem?_map]
    by_cases l : i < n
    · rw [List.getElem?_range l]
      simp [Ne.symm e]
    · rw [List.getElem?_eq_none (by simp; omega)]
      rfl
end Y
namespace Y
open PySem PySem.Spec L2
theorem o2_isnotRk {W : Wd} {μ : Me} {b : Bool} : O2 W μ uIsNot (rkR b) nonR (blR (!b)) := fun P H v w k r1 r2 Q q => by
  refine ⟨r2, ?_⟩
  have r1 : decide (v = V.non) = b := r1
  rw [r1]
  exact q _ P H (Stp.refl k.le) rfl
end Y
end
section
/-! The layer, part 11: the rules with the written part named. -/
namespace Y
open PySem PySem.Spec L2
section
variable {X : Cx} (K : PySem.W.Frag) (h : X.K = K)
include h
theorem op_uMulTK : OpR X (binaryOp .Mult) (uMulT K) := h ▸ op_uMulT
theorem op_uLtK (hu : X.A.units + 64 < cLine) : OpR X (compareOp .Lt) (uLt K) := h ▸ op_uLt hu
theorem op_uEqK (hu : X.A.units + 64 < cLine) : OpR X (compareOp .Eq) (uEq K) := h ▸ op_uEq hu
theorem op_uNeK (hu : X.A.units + 64 < cLine) : OpR X (compareOp .NotEq) (uNe K) := h ▸ op_uNe hu
theorem op_uInK (hu : X.A.units + 1 < cLine) : OpR X (compareOp .In) (uIn K) := h ▸ op_uIn hu
theorem op_uNotInK (hu : X.A.units + 1 < cLine) : OpR X (compareOp .NotIn) (uNotIn K) := h ▸ op_uNotIn hu
theorem ix_seqK : IxR X (rIx K) := h ▸ ix_seq
theorem sl_tupK : SlR X (rSlT K) := h ▸ sl_tup
theorem sl_listK : SlR X (rSlL K) := h ▸ sl_list
theorem pg_tupK {es : List Expr} {k : Nat} {t : TGs} {n : Nat} {pos : Pos} (hc : X.calm = true) (ht : PGs X es t) (hn : (assignEach es X.env).length = n := by rfl) (hst : (assignEach es X.env).findIdx? (·.1) = none := by rfl) : PG X (.Tuple es k pos) (gTup K n t) := h ▸ pg_tup hc ht hn hst
theorem pe_fldK {e : Expr} {f : Str} {pos : Pos} {ta : TE} (he : PE X e ta) (hb : attributeBase e f X.env (eval e X.env) = eval e X.env) : PE X (.Attribute e f pos) (tFld K ta f) := h ▸ pe_fld he hb
theorem cr_lenK : CallR X (.builtin "len") (cLen K) := h ▸ cr_len
theorem cr_sumUK (hc : X.calm = true) : CallR X (.builtin "sum") (cSum K) := h ▸ cr_sumU hc
theorem cr_maxUK (hc : X.calm = true) : CallR X (.builtin "max") (cMax K) := h ▸ cr_maxU hc
theorem cr_minUK (hc : X.calm = true) (hu : X.A.units + 64 < cLine) : CallR X (.builtin "min") (cMin K) := h ▸ cr_minU hc hu
theorem cr_sortedK (hc : X.calm = true) (hu : X.A.units + 80 < cLine) : CallR X (.builtin "sorted") (cSorted K) := h ▸ cr_sorted' hc hu
theorem cr_anyK (hc : X.calm = true) : CallR X (.builtin "any") (rAny K) := h ▸ cr_any hc
theorem cr_allK (hc : X.calm = true) : CallR X (.builtin "all") (rAll K) := h ▸ cr_all hc
theorem ca_isiK : CallR X (.builtin "isinstance") (rIsi K) := h ▸ call_isi
theorem pi_listK {tg l : Expr} {tl : TE} (hl : PE X l tl) : PI X tg l (iList K tl) := h ▸ pi_list hl
theorem pi_tupK {tg l : Expr} {tl : TE} (hl : PE X l tl) : PI X tg l (iTup K tl) := h ▸ pi_tup hl
end
section
variable {X : Cx}
theorem call_tupK (K : PySem.W.Frag) (h : X.K = K) : CallR X (.type "tuple") (cTuple K) := h ▸ call_tuple_of
end
end Y
namespace Y
open PySem PySem.Spec L2
section
variable {c : Cq} {ρ ρ' : List (Option RP)} {μ : Me} {σ : St} {P H : Hp}
theorem At.weak (a : At c ρ μ σ P H) (hl : ρ'.length = ρ.length) (h : ∀ (i : Nat) (R : RP), ρ'[i]? = some (some R) → ρ[i]? = some (some R)) : At c ρ' μ σ P H :=
  ⟨⟨a.ok.hx, fun i R e => a.ok.sat i R (h i R e), by rw [hl]; exact a.ok.len⟩, a.ex, a.nw, a.kp, a.lc, a.bs, a.fr⟩
/-- a name is forgotten -/
theorem At.drop (a : At c ρ μ σ P H) (i : Nat) : At c (ρ.set i none) μ σ P H := a.weak List.length_set fun j R e => by
  by_cases z : i = j
  · subst z
    by_cases l : i < ρ.length
    · rw [List.getElem?_set_self l] at e; cases e
    · rw [List.getElem?_eq_none (by simpa using l)] at e; cases e
  · rwa [List.getElem?_set_ne z] at e
theorem At.mo {μ' : Me} (a : At c ρ μ σ P H) (e : μ = μ') : At c ρ μ' σ P H := e ▸ a
theorem At.rs (a : At c ρ μ σ P H) (e : ρ = ρ') : At c ρ' μ σ P H := e ▸ a
end
end Y
namespace Y
open PySem PySem.Spec L2
abbrev rksR (n : Nat) (b : Nat → Bool) : List RP := (List.range n).map fun q => rkR (b q)
theorem rks_congr {n : Nat} {b b' : Nat → Bool} (h : ∀ q, q < n → b q = b' q) : rksR n b = rksR n b' := List.map_congr_left fun q hq => by rw [h q (List.mem_range.mp hq)]
theorem lst1 {p : Addr} {Rs Rs' : List RP} (h : Rs = Rs') : [(p, Mo.lst Rs)] = [(p, Mo.lst Rs')] := h ▸ rfl
end Y
end
section
/-! The layer, part 12: a dict comprehension stored in a local; what is one of several. -/
namespace L2
open PySem PySem.Spec PyProof.Rows
section
variable {X : Cx}
theorem sw_trueD {kx vx : Expr} {gs : List Comprehension} {scope : Scope} {pos py : Pos} {y : Str} {l : Nat} {env : Env} (hk : env.scope.kind = .function) (hy : env.scope.names.lookup y = some .local) (hl : (py.line == pos.line) = true)
    (ha : (scope.names.any fun (n, k) => n == y && (k == .local || k == .cell)) = false) : swapsWith (.DictComp kx vx gs scope pos) (some (.Name y py)) l env = pure true := by
  have ky : env.kindOf y = some .local := hy
  have hb : env.blockKind = .function := by unfold Env.blockKind; rw [hk]; rfl
  unfold swapsWith
  simp only [hb, ky, ha, Expr.pos, hl]
  rfl
/-- name = {k: v for ..} on one line -/
theorem ps_setDc {i : Nat} {y : Str} {py : Pos} {kx vx tg iter : Expr} {ifs : List Expr} {scope : Scope} {own : List (Str × Nat)} {pos spos : Pos} {wi : TI} {g : TG} {tt : TT} {tk tv : TE} (hc : X.calm = true) (hN : X.N.Nodup) (hy : X.N[i]? = some y) (hyl : X.env.scope.names.lookup y = some .local)
    (hsw : swapsWith (.DictComp kx vx [⟨tg, iter, ifs, 0⟩] scope pos) (some (.Name y py)) spos.line X.env = pure true) (hi : PI X tg iter wi) (ok : BlkOk X.N X.env.scope scope own)
    (hg : ∀ (s : Shared) (H : Hp) (C : Addr) (cl : List (Str × Addr)) (fp : List Addr), PG (X.blk s H scope (compEnvC scope cl C X.env) fp) tg g) (ht : ∀ (s : Shared) (H : Hp) (C : Addr) (cl : List (Str × Addr)) (fp : List Addr), PTs (X.blk s H scope (compEnvC scope cl C X.env) fp) ifs tt)
    (hk : ∀ (s : Shared) (H : Hp) (C : Addr) (cl : List (Str × Addr)) (fp : List Addr), PE (X.blk s H scope (compEnvC scope cl C X.env) fp) kx tk) (he : ∀ (s : Shared) (H : Hp) (C : Addr) (cl : List (Str × Addr)) (fp : List Addr), PE (X.blk s H scope (compEnvC scope cl C X.env) fp) vx tv)
    (hs : ∀ x, foldedSetIterable iter X.env x = pure x := by intro _; rfl) :
    PS X (.Assign [.Name y py] (.DictComp kx vx [⟨tg, iter, ifs, 0⟩] scope pos) spos) (tAsg (tDc wi g tt tk tv (own.map (·.2))) (gName i)) := by
  refine ⟨fun pins s σ H D I h => ?_⟩
  rw [exec_Assign_Name_used _ _ _ _ hsw]
  refine wpAny_bind (wpAny_standAt (wpAny_bind ?_))
  have hd : tDc wi g tt tk tv (own.map (·.2)) σ H (fun x H1 => gName i x σ H1 D.nx) := h
  show wpAny _ X.A (do let _ ← comprehension (.DictComp kx vx [⟨tg, iter, ifs, 0⟩] scope pos) scope X.env (firstIterPos [⟨tg, iter, ifs, 0⟩] pos) newDict false (eval iter X.env) (some (assign (.Name y py) X.env))) _ _ s
  refine wpAny_bind (thn (dc_core (Qf := fun _ s' => SP X pins D .next s') hc hN I hi ok hg ht hk he hs hd fun L C s' m H' I' q hn f => ?_) fun _ s' hq => wpAny_pure (wpAny_pure hq))
  show wpAny _ _ (assign (.Name y py) X.env (.ref L)) _ _ _
  refine wpAny_assign_Name (store_ok2 (v := V.ref L) I' hN hy (.inl hyl) rfl (fun s2 I2 ⟨a, sb, ha⟩ => ?_) (.inr hyl))
  obtain ⟨f0, f1, f2, f3, f4, f5⟩ := f
  have apart : C ≠ a := by
    rcases ha with z | z
    · rw [z]; exact f1
    · exact fun e => f4 y a z e.symm
  exact ⟨m, hn.sameBut sb apart, fun h3 sb3 => ⟨_, H', I2.turned (t' := s2.toks) (fun b o hb e => (sb3.2 b hb).trans e) f0 f1 f3 f4 f5, q⟩⟩
end
end L2
namespace Y
open PySem PySem.Spec L2
section
variable {c : Cq} {ρ ρ' : List (Option RP)} {μ : Me} {σ : St} {P H : Hp} {te : TE} {R : RP} {D : Ends} {i : Nat}
/-- .. over a dict's keys -/
theorem q_setLk (a : At c ρ μ σ P H) (e : E c.W ρ μ (tLk te) R) (k : ∀ v P' H', At c (ρ.set i (some R)) μ (σ.set i (some v)) P' H' → D.nx (σ.set i (some v)) H') : tLkS (tAsg te (gName i)) D σ H :=
  a.e (Q := fun v H' => D.nx (σ.set i (some v)) H') e fun v P' H' a' r => k v P' H' (a'.set r i)
/-- the one of several -/
theorem At.one {α : Type} {f : α → RP} {Pr : α → Prop} (a : At c ρ μ σ P H) {v : V} (hv : ∃ x, Pr x ∧ (f x).r v P) (i : Nat) (hi : σ[i]? = some (some v)) (hl : i < ρ.length) : ∃ x, Pr x ∧ At c (ρ.set i (some (f x))) μ σ P H := by
  obtain ⟨x, hx, r⟩ := hv
  refine ⟨x, hx, ⟨a.ok.hx, fun j S e => ?_, by rw [List.length_set]; exact a.ok.len⟩, a.ex, a.nw, a.kp, a.lc, a.bs, a.fr⟩
  by_cases z : i = j
  · subst z
    rw [List.getElem?_set_self hl] at e
    cases (Option.some.inj (Option.some.inj e))
    exact ⟨v, hi, r⟩
  · rw [List.getElem?_set_ne z] at e
    exact a.ok.sat j S e
end
/-- one of those that f tells, for which Pr -/
def oneR {α : Type} (Pr : α → Prop) (f : α → RP) : RP := ⟨fun v P => ∃ x, Pr x ∧ (f x).r v P, fun l ⟨x, h, r⟩ => ⟨x, h, (f x).up l r⟩⟩
section
variable {c : Cq} {ρ ρ' : List (Option RP)} {μ : Me} {σ : St} {P H : Hp} {te : TE} {R : RP} {D : Ends} {i : Nat}
theorem At.pick {α : Type} {f : α → RP} {Pr : α → Prop} (a : At c ρ μ σ P H) (i : Nat) (h : ρ[i]? = some (some (oneR Pr f))) : ∃ x, Pr x ∧ At c (ρ.set i (some (f x))) μ σ P H := by
  obtain ⟨v, hv, r⟩ := a.ok.sat i _ h
  exact a.one r i hv (List.getElem?_eq_some_iff.mp h).1
/-- x = e, e one of several -/
theorem q_setOne {α : Type} {f : α → RP} {Pr : α → Prop} (a : At c ρ μ σ P H) (e : E c.W ρ μ te (oneR Pr f)) (hl : i < ρ.length) (k : ∀ x, Pr x → ∀ v P' H', At c (ρ.set i (some (f x))) μ (σ.set i (some v)) P' H' → D.nx (σ.set i (some v)) H') : tAsg te (gName i) D σ H :=
  q_set a e fun v P' H' a' => by
    obtain ⟨x, hx, a2⟩ := a'.pick i (by rw [List.getElem?_set_self hl])
    rw [List.set_set] at a2
    exact k x hx v P' H' a2
end
section
variable {W : Wd} {ρ : List (Option RP)} {μ : Me} {K : PySem.W.Frag} {te ta tb : TE} {R : RP}
theorem es_one {α : Type} {f : α → RP} {Pr : α → Prop} (x : α) (h : Pr x) (a : E W ρ μ te (f x)) : E W ρ μ te (oneR Pr f) := es_is a fun v P r => ⟨x, h, r⟩
/-- a call whose arguments are one of several -/
theorem es_callX {ι : Type} {ok : ι → Prop} {args : ι → List RP} {res : ι → RP} {E₁ : XK} {t : TA} {Rs : List RP} (a : EA W ρ μ t Rs) (h : ∀ vs P, Reps Rs vs P → ∃ i, ok i ∧ Reps (args i) vs P ∧ ∀ v P', (res i).r v P' → R.r v P') : E W ρ μ (tCall (spOf ok args res) [] E₁ t) R := fun σ P H k Q q => by
  refine a σ P H k _ fun x P1 H1 s1 r1 => ?_
  have k1 := k.step s1
  obtain ⟨i, hi, ri, hr⟩ := h x P1 r1
  show spOf ok args res (x ++ []) H1 Q E₁
  rw [List.append_nil]
  exact ⟨i, P1, hi, k1.hx.le, ri, fun v P2 H2 s2 r2 => q v P2 H2 (s1.trans (s2.w fun a z => (k1.hx.z a z).2)) (hr v P2 r2)⟩
/-- a dict: which places are keys -/
def setR (b : Nat → Bool) : RP := ⟨fun v P => ∃ d kvs, v = .ref d ∧ Rd P d (.dK kvs) ∧ ∀ p : Nat, (valV kvs (.inl ((p : Nat) : Int))).isSome = b p, fun l ⟨d, kvs, e, h, q⟩ => ⟨d, kvs, e, l.dK h, q⟩⟩
theorem setR_of {kvs : List (Key × V)} {b : Nat → Bool} (h : ∀ p : Nat, (valV kvs (.inl ((p : Nat) : Int))).isSome = b p) : ∀ v P, (dctR kvs).r v P → (setR b).r v P := fun v P ⟨d, e, r⟩ => ⟨d, kvs, e, r, h⟩
theorem o2_inSet {p : Nat} {b : Nat → Bool} : O2 W μ (uIn K) (intR ((p : Nat) : Int)) (setR b) (blR (b p)) := fun P H v w k r1 ⟨d, kvs, e, h, hb⟩ Q q => by
  rw [← hb p] at q
  exact o2_inD (kk := .inl ((p : Nat) : Int)) P H v w k r1 ⟨d, e, h⟩ Q q
theorem o2_ninSet {p : Nat} {b : Nat → Bool} : O2 W μ (uNotIn K) (intR ((p : Nat) : Int)) (setR b) (blR (!b p)) := fun P H v w k r1 ⟨d, kvs, e, h, hb⟩ Q q => by
  rw [← hb p] at q
  exact o2_ninD (kk := .inl ((p : Nat) : Int)) P H v w k r1 ⟨d, e, h⟩ Q q
abbrev tabK (hs : List Nat) (c : Nat → Int) : List (Key × V) := hs.map fun p => ((Sum.inl ((p : Nat) : Int) : Key), V.int (c p))
end
end Y
namespace Y
open PySem PySem.Spec L2
theorem o2_one {W : Wd} {μ : Me} {α : Type} {Pr : α → Prop} {f g : α → RP} {r : R2} {Rb : RP} (h : ∀ x, Pr x → O2 W μ r (f x) Rb (g x)) : O2 W μ r (oneR Pr f) Rb (oneR Pr g) := fun P H v w k ⟨x, hx, r1⟩ r2 Q q =>
  h x hx P H v w k r1 r2 Q fun v' P' H' s r' => q v' P' H' s ⟨x, hx, r'⟩
end Y
end
section
/-! The defs, part 1: checks. -/
namespace Y
open PySem PySem.Spec L2
open PyProof.Rows (envOfC)
local macro_rules | `(tactic| walk_at "e") => `(tactic| repeat (first
  | exact es_c | exact es_var rfl | exact ea_nil | exact et_yes | with_reducible apply ea_cons | with_reducible apply es_op | with_reducible apply es_cb | with_reducible apply es_un | with_reducible apply es_tup | with_reducible apply es_lst | exact Nat.le_of_ble_eq_true rfl
  | with_reducible apply es_chain | with_reducible apply et_test | with_reducible apply et_B | with_reducible apply et_not | with_reducible apply es_notV
  | exact o2_add | exact o2_sub | exact o2_lt | exact o2_le | exact o2_gt | exact o2_ge | exact o2_eqI | exact o2_neI | exact o1_neg | exact o2_is | exact o2_isnot | exact o2_inDI | exact o2_ninDI | exact o2_inNL | exact o2_inNT | exact o2_ninNL | exact o2_ninNT | exact o2_inL | exact o2_inT | exact o2_ninL | exact o2_ninT | exact o2_eqT | exact o2_eqL
  | exact oc_lenL | exact oc_lenT | exact oc_lenD | exact oc_sumL | exact oc_sumT' | exact oc_max2 | exact oc_min2 | exact oc_sortI | exact oc_tupL | exact oc_int | exact oc_intB | exact oc_abs | exact oc_any | exact oc_all
  | exact o2_div (by constructor <;> omega) | exact o2_mod (by omega) | exact o2_mulT (by first | (left; constructor <;> omega) | (right; constructor <;> omega)) | exact o2_ixL (by omega) rfl | exact o2_ixT (by omega) rfl))
abbrev s_is_integer : Stmt := top 8
abbrev n_is_integer : List Str := ["thing"]
theorem sc_is_integer : FnScope n_is_integer ["thing"] (defScope s_is_integer) := ⟨rfl, rfl, rfl, by decide +kernel, rfl, by decide +kernel, by decide +kernel⟩
abbrev s_is_within : Stmt := top 9
abbrev n_is_within : List Str := ["thing", "least", "most"]
theorem sc_is_within : FnScope n_is_within ["thing", "least", "most"] (defScope s_is_within) := ⟨rfl, rfl, rfl, by decide +kernel, rfl, by decide +kernel, by decide +kernel⟩
abbrev s_is_from : Stmt := top 10
abbrev n_is_from : List Str := ["thing", "least"]
theorem sc_is_from : FnScope n_is_from ["thing", "least"] (defScope s_is_from) := ⟨rfl, rfl, rfl, by decide +kernel, rfl, by decide +kernel, by decide +kernel⟩
abbrev s_rounded_up : Stmt := top 17
abbrev n_rounded_up : List Str := ["top", "bottom"]
theorem sc_rounded_up : FnScope n_rounded_up ["top", "bottom"] (defScope s_rounded_up) := ⟨rfl, rfl, rfl, by decide +kernel, rfl, by decide +kernel, by decide +kernel⟩
abbrev s_common_divisor : Stmt := top 15
abbrev n_common_divisor : List Str := ["one", "other"]
theorem sc_common_divisor : FnScope n_common_divisor ["one", "other"] (defScope s_common_divisor) := ⟨rfl, rfl, rfl, by decide +kernel, rfl, by decide +kernel, by decide +kernel⟩
abbrev s_lowest : Stmt := top 16
abbrev n_lowest : List Str := ["top", "bottom", "divisor"]
theorem sc_lowest : FnScope n_lowest ["top", "bottom"] (defScope s_lowest) := ⟨rfl, rfl, rfl, by decide +kernel, rfl, by decide +kernel, by decide +kernel⟩
abbrev s_check_many : Stmt := top 13
abbrev n_check_many : List Str := ["number", "most"]
theorem sc_check_many : FnScope n_check_many ["number", "most"] (defScope s_check_many) := ⟨rfl, rfl, rfl, by decide +kernel, rfl, by decide +kernel, by decide +kernel⟩
abbrev s_check_coins : Stmt := top 14
abbrev n_check_coins : List Str := ["thing"]
theorem sc_check_coins : FnScope n_check_coins ["thing"] (defScope s_check_coins) := ⟨rfl, rfl, rfl, by decide +kernel, rfl, by decide +kernel, by decide +kernel⟩
section
variable {P : Program} {w : World} {K : PySem.W.Frag} {mg : Str → Option Value} {base : Heap}
abbrev sp_is_integer : Sp := spOf (fun _ : Int => True) (fun n => [intR n]) (fun _ => blR true)
theorem ok_is_integer (T : Txt K mg) (d : DefAt K mg "is_integer" s_is_integer) : Callee P w K mg base "is_integer" ["thing"] 1 sp_is_integer := by
  refine d.ok sc_is_integer (fun _ _ _ _ _ _ us hl => match us, hl with | [_], _ => rfl) (fun _ _ => rfl) fun f cdv A outer s H E1 hr => ⟨_, (pss_one (ps_ret (pe_and (pe_callB (ca_isiK K rfl) (by rfl) T.isinstance bo_isinstance (pa_cons (pv 0) (pa_cons (pe_bltn (v := .ty "int") (by rfl) T.int bo_int rfl) pa_nil))) (pe_one (pe_not (pe_callB (ca_isiK K rfl) (by rfl) T.isinstance bo_isinstance (pa_cons (pv 0) (pa_cons (pe_bltn (v := .ty "bool") (by rfl) T.bool bo_bool rfl) pa_nil)))))))), fun n P H σ Q _ a q => ?_⟩
  (try dsimp only [tNext]); refine q_end a (es_andV (a := true) (b := true) ?_ fun _ => es_notV (a := false) ?_) rfl rfl (by exact q)
  · walk_at "e"
    exact (oc_isi (x := .int n) (s := "int") (n := "int") (b := true) rfl (by decide +kernel))
  · walk_at "e"
    exact (oc_isi (x := .int n) (s := "int") (n := "bool") (b := false) rfl (by decide +kernel))
abbrev sp_is_within : Sp := spOf (fun _ : Int × Int × Int => True) (fun i => [intR i.1, intR i.2.1, intR i.2.2]) (fun i => blR (decide (i.2.1 ≤ i.1) && decide (i.1 ≤ i.2.2)))
theorem ok_is_within (T : Txt K mg) (d : DefAt K mg "is_within" s_is_within) (c_is_integer : Callee P w K mg base "is_integer" ["thing"] 1 sp_is_integer) : Callee P w K mg base "is_within" ["thing", "least", "most"] 2 sp_is_within := by
  refine d.ok sc_is_within (fun _ _ _ _ _ _ us hl => match us, hl with | [_, _, _], _ => rfl) (fun _ _ => rfl) fun f cdv A outer s H E1 hr => ⟨_, (pss_one (ps_ret (pe_and (pe_callC c_is_integer (hr.mono (by decide)) (by rfl) (pa_cons (pv 0) pa_nil)) (pe_one (pe_chain op_uLe op_uLe (pv 1) (pv 0) (pv 2)))))), fun ⟨n, l, m⟩ P H σ Q _ a q => ?_⟩
  (try dsimp only [tNext]); refine q_end a (es_eqB (es_andV (a := true) (b := decide (l ≤ n) && decide (n ≤ m)) (es_call n ?_ trivial) fun _ => ?_) (Bool.true_and _)) rfl rfl (by exact q)
  · walk_at "e"
  · walk_at "e"
abbrev sp_is_from : Sp := spOf (fun _ : Int × Int => True) (fun i => [intR i.1, intR i.2]) (fun i => blR (decide (i.2 ≤ i.1)))
theorem ok_is_from (T : Txt K mg) (d : DefAt K mg "is_from" s_is_from) (c_is_integer : Callee P w K mg base "is_integer" ["thing"] 1 sp_is_integer) : Callee P w K mg base "is_from" ["thing", "least"] 2 sp_is_from := by
  refine d.ok sc_is_from (fun _ _ _ _ _ _ us hl => match us, hl with | [_, _], _ => rfl) (fun _ _ => rfl) fun f cdv A outer s H E1 hr => ⟨_, (pss_one (ps_ret (pe_and (pe_callC c_is_integer (hr.mono (by decide)) (by rfl) (pa_cons (pv 0) pa_nil)) (pe_one (pe_cmpR op_uGe (pv 0) (pv 1) (nomark _)))))), fun ⟨n, l⟩ P H σ Q _ a q => ?_⟩
  (try dsimp only [tNext]); refine q_end a (es_eqB (es_andV (a := true) (b := decide (l ≤ n)) (es_call n ?_ trivial) fun _ => ?_) (Bool.true_and _)) rfl rfl (by exact q)
  · walk_at "e"
  · walk_at "e"
abbrev sp_rounded_up : Sp := spOf (fun i : Int × Int => 0 < i.2 ∧ i.2 ≤ 9) (fun i => [intR i.1, intR i.2]) (fun i => intR (-(-i.1 / i.2)))
theorem ok_rounded_up (T : Txt K mg) (d : DefAt K mg "rounded_up" s_rounded_up) : Callee P w K mg base "rounded_up" ["top", "bottom"] 1 sp_rounded_up := by
  refine d.ok sc_rounded_up (fun _ _ _ _ _ _ us hl => match us, hl with | [_, _], _ => rfl) (fun _ _ => rfl) fun f cdv A outer s H E1 hr => ⟨_, (pss_one (ps_ret (pe_un un_uNeg (pe_op op_uDiv (pe_un un_uNeg (pv 0)) (pv 1))))), fun ⟨n, l⟩ P H σ Q ⟨h1, h2⟩ a q => ?_⟩
  (try dsimp only [tNext]); refine q_end a ?_ rfl rfl (by exact q)
  simp only at h1 h2
  walk_at "e"
abbrev sp_common_divisor : Sp := spOf (fun _ : Nat × Nat => True) (fun i => [intR (i.1 : Nat), intR (i.2 : Nat)]) (fun i => intR (Nat.gcd i.1 i.2 : Nat))
theorem ok_common_divisor (T : Txt K mg) (d : DefAt K mg "common_divisor" s_common_divisor) : Callee P w K mg base "common_divisor" ["one", "other"] 1 sp_common_divisor := by
  refine d.ok sc_common_divisor (fun _ _ _ _ _ _ us hl => match us, hl with | [_, _], _ => rfl) (fun _ _ => rfl) fun f cdv A outer s H E1 hr => ⟨_, (pss_cons (ps_while PassesOwn.never (pt_cmpR op_uGt (pv 1) pe_int (nomark _))
  (pss_one (ps_par (i := 0) (j := 1) (by rfl) sc_common_divisor.nd rfl rfl (by decide) rfl rfl (pa_cons (pv 1) (pa_cons (pe_op op_uMod (pv 0) (pv 1)) pa_nil)) (by rfl))))
  (pss_one (ps_ret (pv 0)))), fun ⟨n, l⟩ P H σ Q _ a q => ?_⟩
  (try dsimp only [tNext]); refine sq (q_while (fun x : Nat × Nat => Nat.gcd x.1 x.2 = Nat.gcd n l) (fun x => x.2) (fun x => [some (intR (x.1 : Nat)), some (intR (x.2 : Nat))]) (fun _ => []) (fun x => decide (0 < x.2)) ⟨(n, l), rfl, a⟩ (fun x hx => ?_) (fun x σ P H hx hb a => ?_) fun x σ P H hx hb a => ?_)
  · refine et_eq (a := decide ((0 : Int) < (x.2 : Nat))) ?_ (by simp)
    walk_at "e"
  · have hb : 0 < x.2 := of_decide_eq_true hb
    (try dsimp only [tNext]); refine q_par (R1 := intR (x.2 : Nat)) (R2 := intR ((x.1 : Int) % (x.2 : Nat))) a (by walk_at "e") fun σ' P' H' a' => ⟨(x.2, x.1 % x.2), P', Nat.mod_lt _ hb, ?_, ?_⟩
    · show Nat.gcd x.2 (x.1 % x.2) = _
      rw [← hx, Nat.gcd_comm x.2, ← Nat.gcd_rec, Nat.gcd_comm]
    · rw [← Int.natCast_emod] at a'
      exact a'
  · have hb : ¬ 0 < x.2 := of_decide_eq_false hb
    have e : x.2 = 0 := by omega
    rw [e, Nat.gcd_zero_right] at hx
    dsimp only
    (try dsimp only [tNext]); refine q_end a (es_eqI (i := (x.1 : Nat)) (by walk_at "e") ?_) rfl rfl (by exact q)
    rw [hx]
abbrev sp_lowest : Sp := spOf (fun i : Nat × Nat => 0 < i.2 ∧ i.2 < 1000000) (fun i => [intR (i.1 : Nat), intR (i.2 : Nat)]) (fun i => tupR [intR ((i.1 / Nat.gcd i.1 i.2 : Nat)), intR ((i.2 / Nat.gcd i.1 i.2 : Nat))])
theorem ok_lowest (T : Txt K mg) (d : DefAt K mg "lowest" s_lowest) (c_common_divisor : Callee P w K mg base "common_divisor" ["one", "other"] 1 sp_common_divisor) : Callee P w K mg base "lowest" ["top", "bottom"] 2 sp_lowest := by
  refine d.ok sc_lowest (fun _ _ _ _ _ _ us hl => match us, hl with | [_, _], _ => rfl) (fun _ _ => rfl) fun f cdv A outer s H E1 hr => ⟨_, (pss_cons (ps_set (i := 2) sc_lowest.nd rfl (Or.inl rfl) (pe_callC c_common_divisor (hr.mono (by decide)) (by rfl) (pa_cons (pv 0) (pa_cons (pv 1) pa_nil))))
  (pss_one (ps_ret (pe_tup (pa_cons (pe_op op_uDiv (pv 0) (pv 2)) (pa_cons (pe_op op_uDiv (pv 1) (pv 2)) pa_nil)))))), fun ⟨n, l⟩ P H σ Q ⟨h1, h2⟩ a q => ?_⟩
  simp only at h1 h2
  have g1 : 0 < Nat.gcd n l := Nat.gcd_pos_of_pos_right _ h1
  have g2 : Nat.gcd n l ≤ l := Nat.gcd_le_right _ h1
  (try dsimp only [tNext]); refine sq (q_set (R := intR (Nat.gcd n l : Nat)) a (es_call (n, l) (by walk_at "e") trivial) fun v P1 H1 a1 => ?_)
  dsimp only
  (try dsimp only [tNext]); refine q_end a1 ?_ rfl rfl (by exact q)
  rw [Int.natCast_ediv, Int.natCast_ediv]
  walk_at "e"
abbrev sp_check_coins : Sp := spOf (fun n : Int => 0 ≤ n) (fun n => [intR n]) (fun _ => nonR)
theorem ok_check_coins (T : Txt K mg) (d : DefAt K mg "check_coins" s_check_coins) (c_is_from : Callee P w K mg base "is_from" ["thing", "least"] 2 sp_is_from) : Callee P w K mg base "check_coins" ["thing"] 3 sp_check_coins := by
  refine d.ok sc_check_coins (fun _ _ _ _ _ _ us hl => match us, hl with | [_], _ => rfl) (fun _ _ => rfl) fun f cdv A outer s H E1 hr => ⟨_, (pss_one (ps_if (pt_not (pt_val (pe_callC c_is_from (hr.mono (by decide)) (by rfl) (pa_cons (pv 0) (pa_cons pe_int pa_nil))))) (pss_one ps_never) pss_nil)), fun n P H σ Q h a q => ?_⟩
  (try dsimp only [tNext]); refine q_if a (b := false) ?_ (fun e => by cases e) fun _ P1 H1 a1 => q .non P1 H1 (a1.all rfl) rfl
  refine et_eq (et_not (et_B (es_call (n, 0) (by walk_at "e") trivial))) ?_
  simpa using h
abbrev sp_check_many0 : Sp := spOf (fun i : Int × Int => i.1 ≤ i.2) (fun i => [intR i.1, intR i.2]) (fun _ => nonR)
theorem ok_check_many0 (T : Txt K mg) (d : DefAt K mg "check_many" s_check_many) : Callee P w K mg base "check_many" ["number", "most"] 1 sp_check_many0 := by
  refine d.ok sc_check_many (fun _ _ _ _ _ _ us hl => match us, hl with | [_, _], _ => rfl) (fun _ _ => rfl) fun f cdv A outer s H E1 hr => ⟨_, (pss_one (ps_if (pt_cmpR op_uGt (pv 0) (pv 1) (nomark _)) (pss_one ps_never) pss_nil)), fun ⟨n, m⟩ P H σ Q h a q => ?_⟩
  (try dsimp only [tNext]); refine q_if a (b := false) (et_eq (b := false) (a := decide (m < n)) (by walk_at "e") ?_) (fun e => by cases e) fun _ P1 H1 a1 => q .non P1 H1 (a1.all rfl) rfl
  have h : n ≤ m := h
  exact decide_eq_false (by omega)
end
end Y
end
section
/-! The defs, part 2: steps, lots. -/
namespace Y
open PySem PySem.Spec L2
open PyProof.Rows (envOfC)
local macro_rules | `(tactic| walk_at "e") => `(tactic| repeat (first
  | exact es_c | exact es_var rfl | exact ea_nil | exact et_yes | with_reducible apply ea_cons | with_reducible apply es_op | with_reducible apply es_cb | with_reducible apply es_un | with_reducible apply es_tup | with_reducible apply es_lst | exact Nat.le_of_ble_eq_true rfl
  | with_reducible apply es_chain | with_reducible apply et_test | with_reducible apply et_B | with_reducible apply et_not | with_reducible apply es_notV
  | exact o2_add | exact o2_sub | exact o2_lt | exact o2_le | exact o2_gt | exact o2_ge | exact o2_eqI | exact o2_neI | exact o1_neg | exact o2_is | exact o2_isnot | exact o2_inDI | exact o2_ninDI | exact o2_inNL | exact o2_inNT | exact o2_ninNL | exact o2_ninNT | exact o2_inL | exact o2_inT | exact o2_ninL | exact o2_ninT | exact o2_eqT | exact o2_eqL
  | exact oc_lenL | exact oc_lenT | exact oc_lenD | exact oc_sumL | exact oc_sumT' | exact oc_max2 | exact oc_min2 | exact oc_sortI | exact oc_tupL | exact oc_int | exact oc_intB | exact oc_abs | exact oc_any | exact oc_all
  | exact o2_div (by constructor <;> omega) | exact o2_mod (by omega) | exact o2_mulT (by first | (left; constructor <;> omega) | (right; constructor <;> omega)) | exact o2_ixL (by omega) rfl | exact o2_ixT (by omega) rfl))
abbrev s_steps_of : Stmt := top 27
abbrev n_steps_of : List Str := ["track", "place"]
theorem sc_steps_of : FnScope n_steps_of ["track", "place"] (defScope s_steps_of) := ⟨rfl, rfl, rfl, by decide +kernel, rfl, by decide +kernel, by decide +kernel⟩
abbrev s_weight : Stmt := top 31
abbrev n_weight : List Str := ["pay"]
theorem sc_weight : FnScope n_weight ["pay"] (defScope s_weight) := ⟨rfl, rfl, rfl, by decide +kernel, rfl, by decide +kernel, by decide +kernel⟩
abbrev s_weight_back : Stmt := top 32
abbrev n_weight_back : List Str := ["track", "place", "lot", "letter", "pay", "goal"]
theorem sc_weight_back : FnScope n_weight_back ["track", "place", "lot"] (defScope s_weight_back) := ⟨rfl, rfl, rfl, by decide +kernel, rfl, by decide +kernel, by decide +kernel⟩
abbrev s_ranks_of : Stmt := top 33
abbrev n_ranks_of : List Str := ["track", "found", "kept", "struck", "turn", "place"]
theorem sc_ranks_of : FnScope n_ranks_of ["track"] (defScope s_ranks_of) := ⟨rfl, rfl, rfl, by decide +kernel, rfl, by decide +kernel, by decide +kernel⟩
abbrev s_full_places : Stmt := top 34
abbrev n_full_places : List Str := ["track", "place", "rank"]
theorem sc_full_places : FnScope n_full_places ["track"] (defScope s_full_places) := ⟨rfl, rfl, rfl, by decide +kernel, rfl, by decide +kernel, by decide +kernel⟩
section
variable {P : Program} {w : World} {K : PySem.W.Frag} {mg : Str → Option Value} {base : Heap} {C : Addr}
abbrev sp_steps_of (C : Addr) : Sp := spOf (fun i : WS.Net × Nat => i.2 < i.1.length) (fun i => [trackR C i.1, intR (i.2 : Nat)]) (fun i => stR (WS.st i.1 i.2))
theorem ok_steps_of (T : Txt K mg) (tc : TC K C) (d : DefAt K mg "steps_of" s_steps_of) : Callee P w K mg base "steps_of" ["track", "place"] 1 (sp_steps_of C) := by
  refine d.ok sc_steps_of (fun _ _ _ _ _ _ us hl => match us, hl with | [_, _], _ => rfl) (fun _ _ => rfl) fun f cdv A outer s H E1 hr => ⟨_, (pss_one (ps_ret (pe_ix (ix_seqK K rfl) (pe_fldK K rfl (pv 0) rfl) (pv 1) (fun _ _ => rfl)))), fun ⟨N, p⟩ P H σ Q h a q => ?_⟩
  have h : p < N.length := h
  (try dsimp only [tNext]); refine q_end a (es_op (es_kept tc (es_var (R := trackR C N) rfl)) (es_var rfl) (o2_ixL (by omega) ?_)) rfl rfl (by exact q)
  rw [Int.toNat_natCast, List.getElem?_map, List.getElem?_eq_getElem h]
  unfold WS.st
  rw [List.getD_eq_getElem?_getD, List.getElem?_eq_getElem h]
  rfl
abbrev sp_weight : Sp := spOf (fun p : Int => 0 ≤ p ∧ p ≤ 9) (fun p => [intR p]) (fun p => intR (WS.weight p))
theorem ok_weight (T : Txt K mg) (d : DefAt K mg "weight" s_weight) : Callee P w K mg base "weight" ["pay"] 1 sp_weight := by
  refine d.ok sc_weight (fun _ _ _ _ _ _ us hl => match us, hl with | [_], _ => rfl) (fun _ _ => rfl) fun f cdv A outer s H E1 hr => ⟨_, (pss_one (ps_ret (pe_ifExp (pt_cmpR op_uGt (pv 0) pe_int (nomark _)) (pe_op op_uDiv (p_int (by rfl) T.WHOLE) (pv 0)) (p_int (by rfl) T.WHOLE)))), fun p P H σ Q ⟨h1, h2⟩ a q => ?_⟩
  (try dsimp only [tNext]); refine q_end a (es_if (b := decide (0 < p)) (by walk_at "e") (fun e => ?_) fun e => ?_) rfl rfl (by exact q)
  · have e : 0 < p := of_decide_eq_true e
    refine es_eqI (i := 2520 / p) (by walk_at "e") ?_
    unfold WS.weight
    rw [if_pos (by omega)]
  · have e : ¬ 0 < p := of_decide_eq_false e
    refine es_eqI (i := 2520) (by walk_at "e") ?_
    unfold WS.weight
    rw [if_neg (by omega)]
abbrev sp_weight_back (C : Addr) : Sp := spOf (fun i : WS.Net × Nat × List Nat => NW i.1 ∧ i.2.1 < i.1.length) (fun i => [trackR C i.1, intR (i.2.1 : Nat), lstR (natsR i.2.2)]) (fun i => intR (WS.wb i.1 i.2.1 i.2.2))
theorem ok_weight_back (T : Txt K mg) (d : DefAt K mg "weight_back" s_weight_back) (c_steps_of : Callee P w K mg base "steps_of" ["track", "place"] 1 (sp_steps_of C)) (c_weight : Callee P w K mg base "weight" ["pay"] 1 sp_weight) :
    Callee P w K mg base "weight_back" ["track", "place", "lot"] 2 (sp_weight_back C) := by
  refine d.ok sc_weight_back (fun _ _ _ _ _ _ us hl => match us, hl with | [_, _, _], _ => rfl) (fun _ _ => rfl) fun f cdv A outer s H E1 hr => ⟨_, (pss_one (ps_ret (pe_callB (cr_sumUK K rfl rfl) (by rfl) T.sum bo_sum (pa_cons (pe_lc (own := [("letter", 3), ("pay", 4), ("goal", 5)]) (by rfl) sc_weight_back.nd (pi_listK K rfl (pe_callC c_steps_of (hr.mono (by decide)) (by rfl) (pa_cons (pv 0) (pa_cons (pv 1) pa_nil)))) (blkOk_by (own := [("letter", 3), ("pay", 4), ("goal", 5)]) (N := n_weight_back) (sc := defScope s_weight_back) (by decide +kernel)) (fun _ _ _ _ _ => (pg_tupK (n := 3) K rfl rfl (pgs_cons (pg_name (i := 3) sc_weight_back.nd rfl (Or.inl rfl)) (pgs_cons (pg_name (i := 4) sc_weight_back.nd rfl (Or.inl rfl)) (pgs_cons (pg_name (i := 5) sc_weight_back.nd rfl (Or.inl rfl)) pgs_nil))))) (fun _ _ _ _ _ => (pts_one (pt_cmpR (op_uInK K rfl (hu_of hr)) (pv 5) (pv 2) (by rfl)))) (fun _ _ _ _ _ => (pe_callC c_weight (hr.mono (by decide)) (by rfl) (pa_cons (pv 4) pa_nil)))) pa_nil)))), fun ⟨N, p, L⟩ P H σ Q ⟨hn, hp⟩ a q => ?_⟩
  have hn : NW N := hn
  have hp : p < N.length := hp
  (try dsimp only [tNext]); refine q_end a (es_cb (ea_cons (es_eq (es_lc (as := WS.st N p) (RA := sR) (f := fun s => decide (s.2 ∈ L)) (RB := fun s => intR (WS.weight s.1))
    (src_list (es_call (N, p) (by walk_at "e") hp)) (fun s hs => tg_tup (tgs_cons tg_name (tgs_cons tg_name (tgs_cons tg_name tgs_nil))) rfl) (by decide) (fun s hs => ?_) (fun s hs _ => ?_) (by have := hn.three p; omega))
    (R' := lstR ((((WS.st N p).filter fun s => decide (s.2 ∈ L)).map fun s => WS.weight s.1).map fun n => intR n)) (by rw [List.map_map]; rfl)) ea_nil) oc_sumL) rfl rfl (by exact q)
  · walk_at "e"
  · exact es_call s.1 (by walk_at "e") (hn.ok.pay p s hs)
abbrev sp_ranks_of (C : Addr) : Sp := spOf (fun N : WS.Net => NW N) (fun N => [trackR C N]) (fun N => tupR (rksR N.length fun p => decide (p ∈ WS.full N)))
theorem ok_ranks_of (T : Txt K mg) (tc : TC K C) (d : DefAt K mg "ranks_of" s_ranks_of) (c_weight_back : Callee P w K mg base "weight_back" ["track", "place", "lot"] 2 (sp_weight_back C)) : Callee P w K mg base "ranks_of" ["track"] 3 (sp_ranks_of C) := by
  refine d.ok sc_ranks_of (fun _ _ _ _ _ _ us hl => match us, hl with | [_], _ => rfl) (fun _ _ => rfl) fun f cdv A outer s H E1 hr => ⟨_, (pss_cons (ps_set (i := 1) sc_ranks_of.nd rfl (Or.inr rfl) (pe_lc (own := [("place", 5)]) (by rfl) sc_ranks_of.nd (pi_range1 (by rfl) T.range (pa_cons (pe_fldK K rfl (pv 0) rfl) pa_nil)) (blkOk_by (own := [("place", 5)]) (N := n_ranks_of) (sc := defScope s_ranks_of) (by decide +kernel)) (fun _ _ _ _ _ => (pg_name (i := 5) sc_ranks_of.nd rfl (Or.inl rfl))) (fun _ _ _ _ _ => pts_nil) (fun _ _ _ _ _ => pe_non)))
  (pss_cons (ps_set (i := 2) sc_ranks_of.nd rfl (Or.inr rfl) (pe_listRg rfl (by rfl) T.list (prg_1 (by rfl) T.range (pe_fldK K rfl (pv 0) rfl))))
  (pss_cons (ps_set (i := 3) sc_ranks_of.nd rfl (Or.inl rfl) (pv 2))
  (pss_cons (ps_set (i := 4) sc_ranks_of.nd rfl (Or.inl rfl) pe_int)
  (pss_cons (ps_while PassesOwn.never (pt_cmpR op_uGt (pe_callB (cr_lenK K rfl) (by rfl) T.len bo_len (pa_cons (pv 3) pa_nil)) pe_int (nomark _))
  (pss_cons (ps_aug (i := 4) sc_ranks_of.nd rfl (Or.inl rfl) pe_int ip_add)
  (pss_cons (ps_setLc (i := 3) (own := [("place", 5)]) (by rfl) sc_ranks_of.nd rfl rfl (sw_true rfl rfl rfl (by decide +kernel)) (pi_listK K rfl (pv 2)) (blkOk_by (own := [("place", 5)]) (N := n_ranks_of) (sc := defScope s_ranks_of) (by decide +kernel)) (fun _ _ _ _ _ => (pg_name (i := 5) sc_ranks_of.nd rfl (Or.inl rfl))) (fun _ _ _ _ _ => (pts_one (pt_cmpR (op_uLtK K rfl hr.units) (pe_callC c_weight_back (hr.mono (by decide)) (by rfl) (pa_cons (pv 0) (pa_cons (pv 5) (pa_cons (pv 2) pa_nil)))) (p_int (by rfl) T.WHOLE) (nomark _)))) (fun _ _ _ _ _ => (pv 5)))
  (pss_cons (ps_for PassesOwn.never rfl (pi_listK K rfl (pv 3)) (pg_name (i := 5) sc_ranks_of.nd rfl (Or.inl rfl))
  (pss_one (ps_asg (pv 4) (pg_sub (pv 1) (pv 5) set_list))))
  (pss_one (ps_set (i := 2) sc_ranks_of.nd rfl (Or.inr rfl) (pe_lc (own := [("place", 5)]) (by rfl) sc_ranks_of.nd (pi_listK K rfl (pv 2)) (blkOk_by (own := [("place", 5)]) (N := n_ranks_of) (sc := defScope s_ranks_of) (by decide +kernel)) (fun _ _ _ _ _ => (pg_name (i := 5) sc_ranks_of.nd rfl (Or.inl rfl))) (fun _ _ _ _ _ => (pts_one (pt_cmpR op_uIs (pe_ix (ix_seqK K rfl) (pv 1) (pv 5) (fun _ _ => rfl)) pe_non (nomark _)))) (fun _ _ _ _ _ => (pv 5)))))))))
  (pss_one (ps_ret (pe_callTy (call_tupK K rfl) (by rfl) T.tuple bo_tuple (pa_cons (pv 1) pa_nil))))))))), fun N P H σ Q hn a q => ?_⟩
  have hf := hn.few
  (try dsimp only [tNext]); refine sq (q_newLc (as := List.range N.length) (RA := fun p => intR (p : Nat)) (f := fun _ => true) (RB := fun _ => rkR true) a (src_range0 (ea_cons (es_places tc (es_var (R := trackR C N) rfl)) ea_nil) (by omega)) (fun _ _ => tg_name) (by decide) (fun _ _ => et_yes) (fun _ _ _ => es_is es_c fun v P h => by rw [show v = V.non from h]; rfl) (by rw [List.length_range]; omega) fun p σ1 P1 H1 a1 => ?_)
  (try dsimp only [tNext]); refine sq (q_set (R := lstR (natsR (List.range N.length))) a1 (es_eq (es_listRg (es_places tc (es_var (R := trackR C N) rfl)) ⟨by omega, by omega⟩) (by rw [Int.toNat_natCast])) fun v2 P2 H2 a2 => ?_)
  (try dsimp only [tNext]); refine sq (q_set (R := lstR (natsR (List.range N.length))) a2 (es_var rfl) fun v3 P3 H3 a3 => ?_)
  (try dsimp only [tNext]); refine sq (q_set (R := intR 0) a3 es_c fun v4 P4 H4 a4 => ?_)
  (try dsimp only [tNext]); refine sq (q_while (X := List Nat × List Nat × Int) (fun x => (∃ t, t + x.1.length ≤ N.length ∧ x.1 = WS.iter (WS.strike N) t (List.range N.length)) ∧ (x.2.1 = [] → WS.strike N x.1 = x.1) ∧ ∀ q ∈ x.1, q < N.length) (fun x => x.1.length + if x.2.1 = [] then 0 else 1)
    (fun x => [some (trackR C N), some (valR (.ref p)), some (lstR (natsR x.1)), some (lstR (natsR x.2.1)), some (intR x.2.2), none]) (fun x => [(p, .lst (rksR N.length fun q => decide (q ∈ x.1)))]) (fun x => decide (0 < x.2.1.length))
    ⟨(List.range N.length, List.range N.length, 0), ⟨⟨0, by simp, rfl⟩, fun e => ?_, fun q hq => List.mem_range.mp hq⟩, a4.mo ?_⟩ (fun x hx => ?_) (fun x σ P H hx hb a => ?_) fun x σ P H hx hb a => ?_)
  · have := congrArg List.length (show List.range N.length = [] from e)
    rw [List.length_range] at this
    have h0 := hn.some
    have h2 : N.length = 0 := this
    omega
  · refine lst1 ?_
    rw [List.filter_eq_self.mpr fun _ _ => rfl]
    refine List.map_congr_left fun q hq => ?_
    show rkR true = rkR (decide (q ∈ List.range N.length))
    rw [decide_eq_true hq]
  · refine et_eq (a := decide ((0 : Int) < ((natsR x.2.1).length : Nat))) (by walk_at "e") ?_
    rw [List.length_map]
    simp
  · obtain ⟨L, S, tu⟩ := x
    obtain ⟨⟨t, ht, eL⟩, hS, hlt⟩ := hx
    simp only at ht eL hS hlt hb a ⊢
    have hS0 : S ≠ [] := fun e => by rw [e] at hb; cases hb
    have lL : L.length ≤ 12 := by omega
    let S' := L.filter fun q => decide (WS.wb N q L < 2520)
    (try dsimp only [tNext]); refine sq (q_aug (x := tu) (y := 1) a rfl es_c fun v5 P5 H5 a5 => ?_)
    (try dsimp only [tNext]); refine sq (q_set (R := lstR (natsR S')) a5 (es_lc (as := L) (RA := fun q => intR (q : Nat)) (f := fun q => decide (WS.wb N q L < 2520)) (RB := fun q => intR (q : Nat)) (src_list (es_var rfl)) (fun _ _ => tg_name) (by decide) (fun q hq => ?_) (fun q hq _ => by walk_at "e") (by omega)) fun v6 P6 H6 a6 => ?_)
    · refine et_test (es_op (es_call (N, q, L) ?_ ⟨hn, hlt q hq⟩) es_c o2_lt)
      walk_at "e"
    (try dsimp only [tNext]); refine sq (q_for (as := S') (RA := fun q => intR (q : Nat)) (X := Unit) (fun _ _ => True) (fun _ _ => [some (trackR C N), some (valR (.ref p)), some (lstR (natsR L)), some (lstR (natsR S')), some (intR (tu + 1)), none])
      (fun k _ => [(p, .lst (rksR N.length fun q => decide (q ∈ L) && !decide (q ∈ S'.take k)))]) a6 (src_list (es_var rfl)) (fun P' H' a' => ⟨(), trivial, a'.mo ?_⟩) (fun k x q hq _ => tg_name) (fun B k x q σ P H hk _ a => ?_) fun x σ P H _ a => ?_)
    · exact lst1 (rks_congr fun q _ => by simp)
    · have hq : q ∈ S' := List.mem_of_getElem? hk
      have hqL : q ∈ L := (List.mem_filter.mp hq).1
      (try dsimp only [tNext]); refine q_setL (i := 1) (j := 0) (R := rkR false) (n := q) a rfl rfl (es_is (es_var (R := intR (tu + 1)) rfl) fun v P h => by rw [show v = V.int _ from h]; rfl) (es_var rfl) (by rw [List.length_map, List.length_range]; exact hlt q hqL) fun P' H' a' => ⟨(), P', trivial, (a'.drop 5).mo ?_⟩
      show [(p, Mo.lst ((rksR N.length _).set q (rkR false)))] = _
      rw [rk_set]
      refine lst1 (rks_congr fun z _ => ?_)
      rw [List.take_add_one, hk]
      by_cases e : z = q
      · rw [if_pos e]
        simp [e]
      · rw [if_neg e]
        simp [e]
    · have e1 : S'.take S'.length = S' := List.take_length
      have es : L.filter (fun q => decide (q ∈ L) && !decide (q ∈ S')) = WS.strike N L := by
        unfold WS.strike
        refine List.filter_congr fun q hq => ?_
        rw [decide_eq_true hq, Bool.true_and]
        congr 1
        by_cases h : WS.wb N q L < 2520
        · have hm : q ∈ S' := List.mem_filter.mpr ⟨hq, decide_eq_true h⟩
          rw [decide_eq_true h, decide_eq_true hm]
        · have hm : ¬ q ∈ S' := fun z => h (of_decide_eq_true (List.mem_filter.mp z).2)
          rw [decide_eq_false h, decide_eq_false hm]
      (try dsimp only [tNext]); refine q_set (R := lstR (natsR (WS.strike N L))) a (es_eq (es_lc (as := L) (RA := fun q => intR (q : Nat)) (f := fun q => decide (q ∈ L) && !decide (q ∈ S')) (RB := fun q => intR (q : Nat)) (src_list (es_var rfl)) (fun _ _ => tg_name) (by decide) (fun q hq => ?_) (fun q hq _ => by walk_at "e") (by omega)) (by rw [es])) fun v7 P7 H7 a7 => ?_
      · refine et_lend 1 (j := 0) rfl rfl (et_test (es_op (es_op (es_var (R := lstR _) rfl) (es_var (R := intR (q : Nat)) rfl) (o2_ixL (by omega) (R := rkR (decide (q ∈ L) && !decide (q ∈ S'))) ?_)) es_c o2_isRk))
        rw [Int.toNat_natCast, List.getElem?_map, List.getElem?_range (hlt q hq), e1]
        rfl
      · have hsub : ∀ q ∈ WS.strike N L, q ∈ L := fun q hq => (List.mem_filter.mp hq).1
        have hle : (WS.strike N L).length ≤ L.length := List.length_filter_le _ _
        have hmu : ∀ q, (decide (q ∈ L) && !decide (q ∈ S'.take S'.length)) = decide (q ∈ WS.strike N L) := fun q => by
          rw [e1]
          by_cases h : q ∈ WS.strike N L
          · have h2 : q ∈ L.filter (fun q => decide (q ∈ L) && !decide (q ∈ S')) := by rw [es]; exact h
            rw [decide_eq_true h]
            exact (List.mem_filter.mp h2).2
          · rw [decide_eq_false h]
            by_cases hL : q ∈ L
            · cases z : (decide (q ∈ L) && !decide (q ∈ S')) with
              | false => rfl
              | true => exact absurd (es ▸ List.mem_filter.mpr ⟨hL, z⟩) h
            · rw [decide_eq_false hL]
              rfl
        have hno : S' = [] → WS.strike N L = L := fun e => by
          refine List.filter_eq_self.mpr fun q hq => ?_
          by_cases h : WS.wb N q L < 2520
          · have hm : q ∈ S' := List.mem_filter.mpr ⟨hq, decide_eq_true h⟩
            rw [e] at hm
            cases hm
          · rw [decide_eq_false h]
            rfl
        have hless : S' ≠ [] → (WS.strike N L).length < L.length := fun e => by
          obtain ⟨q, hq⟩ := List.exists_mem_of_ne_nil _ e
          have h1 := List.mem_filter.mp hq
          refine Nat.lt_of_le_of_ne hle fun e2 => ?_
          have h2 := List.length_filter_eq_length_iff.mp e2 q h1.1
          rw [h1.2] at h2
          cases h2
        refine ⟨(WS.strike N L, S', tu + 1), P7, ?_, ⟨?_, ?_, ?_⟩, a7.mo ?_⟩
        · show (WS.strike N L).length + (if S' = [] then 0 else 1) < L.length + (if S = [] then 0 else 1)
          rw [if_neg hS0]
          by_cases e : S' = []
          · rw [if_pos e]
            omega
          · rw [if_neg e]
            have := hless e
            omega
        · by_cases e : S' = []
          · exact ⟨t, by have := hno e; show t + (WS.strike N L).length ≤ _; rw [this]; exact ht, by show WS.strike N L = _; rw [hno e]; exact eL⟩
          · refine ⟨t + 1, ?_, ?_⟩
            · have := hless e
              show t + 1 + (WS.strike N L).length ≤ _
              omega
            · rw [WS.iter_add, ← eL]
              rfl
        · intro e
          show WS.strike N (WS.strike N L) = WS.strike N L
          rw [hno e, hno e]
        · exact fun q hq => hlt q (hsub q hq)
        · exact lst1 (rks_congr fun q _ => hmu q)
  · obtain ⟨L, S, tu⟩ := x
    obtain ⟨⟨t, ht, eL⟩, hS, hlt⟩ := hx
    simp only at ht eL hS hlt hb a ⊢
    have hS0 : S = [] := by
      have := of_decide_eq_false hb
      exact List.eq_nil_of_length_eq_zero (by omega)
    have e := WS.full_of (by omega) eL (hS hS0)
    obtain ⟨P', a'⟩ := a.freeze (j := 0) (i := 1) rfl rfl
    (try dsimp only [tNext]); refine q_end a' (es_cb (ea_cons (es_var (R := lstR _) rfl) ea_nil) oc_tupL) rfl rfl (by rw [e] at q; exact q)
end
end Y
end
section
/-! The defs, part 3: full places, what is reached, hopeful places. -/
namespace WS
open Classical in
/-- the places that are reached, ascending -/
noncomputable def reachL (N : Net) (p : Nat) : List Nat := (List.range N.length).filter fun q => decide (Reach N p q)
open Classical in
theorem mem_reachL {N : Net} {p q : Nat} : q ∈ reachL N p ↔ q < N.length ∧ Reach N p q := by
  unfold reachL
  rw [List.mem_filter, List.mem_range, decide_eq_true_iff]
def lack (n : Nat) (F : List Nat) : Nat := ((List.range n).filter fun q => !decide (q ∈ F)).length
theorem lack_less {n z : Nat} {F : List Nat} (h : z < n) (hz : z ∉ F) : lack n (F ++ [z]) < lack n F := by
  unfold lack
  have e : (List.range n).filter (fun q => !decide (q ∈ F ++ [z])) = ((List.range n).filter fun q => !decide (q ∈ F)).filter fun q => !decide (q = z) := by
    rw [List.filter_filter]
    refine List.filter_congr fun q _ => ?_
    by_cases a : q ∈ F <;> by_cases b : q = z <;> simp [a, b]
  rw [e]
  refine Nat.lt_of_le_of_ne (List.length_filter_le _ _) fun e2 => ?_
  have := List.length_filter_eq_length_iff.mp e2 z (List.mem_filter.mpr ⟨List.mem_range.mpr h, by simpa using hz⟩)
  simp at this
theorem nodup_few {n : Nat} {L : List Nat} (h : L.Nodup) (hl : ∀ x ∈ L, x < n) : L.length ≤ n := by
  have p : L.Perm ((List.range n).filter fun q => decide (q ∈ L)) := by
    refine (List.perm_ext_iff_of_nodup h (List.Nodup.sublist List.filter_sublist List.nodup_range)).mpr fun q => ?_
    rw [List.mem_filter, List.mem_range, decide_eq_true_iff]
    exact ⟨fun m => ⟨hl q m, m⟩, fun m => m.2⟩
  rw [p.length_eq]
  have := List.length_filter_le (fun q => decide (q ∈ L)) (List.range n)
  rwa [List.length_range] at this
/-- found so far (F), to be looked at yet (D) -/
structure Seek (N : Net) (p : Nat) (F D : List Nat) : Prop where
  nod : F.Nodup
  nodD : D.Nodup
  all : ∀ z ∈ F, Reach N p z ∧ z < N.length
  sub : ∀ z ∈ D, z ∈ F
  mem : p ∈ F
  cl : ∀ z ∈ F, z ∉ D → ∀ s ∈ st N z, s.2 ∈ F
theorem Seek.end_ {N : Net} {p : Nat} {F : List Nat} (S : Seek N p F []) : F.Perm (reachL N p) := by
  have all : ∀ q, Reach N p q → q ∈ F := fun q r => by
    induction r with
    | self => exact S.mem
    | step r hs ih => exact S.cl _ ih List.not_mem_nil _ hs
  refine (List.perm_ext_iff_of_nodup S.nod (List.Nodup.sublist List.filter_sublist List.nodup_range)).mpr fun q => ?_
  refine Iff.trans ?_ mem_reachL.symm
  exact ⟨fun h => ⟨(S.all q h).2, (S.all q h).1⟩, fun h => all q h.2⟩
end WS
namespace Y
open PySem PySem.Spec L2
open PyProof.Rows (envOfC)
local macro_rules | `(tactic| walk_at "e") => `(tactic| repeat (first
  | exact es_c | exact es_var rfl | exact ea_nil | exact et_yes | with_reducible apply ea_cons | with_reducible apply es_op | with_reducible apply es_cb | with_reducible apply es_un | with_reducible apply es_tup | with_reducible apply es_lst | exact Nat.le_of_ble_eq_true rfl
  | with_reducible apply es_chain | with_reducible apply et_test | with_reducible apply et_B | with_reducible apply et_not | with_reducible apply es_notV
  | exact o2_add | exact o2_sub | exact o2_lt | exact o2_le | exact o2_gt | exact o2_ge | exact o2_eqI | exact o2_neI | exact o1_neg | exact o2_is | exact o2_isnot | exact o2_inDI | exact o2_ninDI | exact o2_inNL | exact o2_inNT | exact o2_ninNL | exact o2_ninNT | exact o2_inL | exact o2_inT | exact o2_ninL | exact o2_ninT | exact o2_eqT | exact o2_eqL
  | exact oc_lenL | exact oc_lenT | exact oc_lenD | exact oc_sumL | exact oc_sumT' | exact oc_max2 | exact oc_min2 | exact oc_sortI | exact oc_tupL | exact oc_int | exact oc_intB | exact oc_abs | exact oc_any | exact oc_all
  | exact o2_div (by constructor <;> omega) | exact o2_mod (by omega) | exact o2_mulT (by first | (left; constructor <;> omega) | (right; constructor <;> omega)) | exact o2_ixL (by omega) rfl | exact o2_ixT (by omega) rfl))
abbrev s_reached_from : Stmt := top 28
abbrev n_reached_from : List Str := ["track", "place", "found", "todo", "letter", "pay", "goal"]
theorem sc_reached_from : FnScope n_reached_from ["track", "place"] (defScope s_reached_from) := ⟨rfl, rfl, rfl, by decide +kernel, rfl, by decide +kernel, by decide +kernel⟩
abbrev s_hopeful_places : Stmt := top 35
abbrev n_hopeful_places : List Str := ["track", "full", "found", "place", "goal"]
theorem sc_hopeful_places : FnScope n_hopeful_places ["track"] (defScope s_hopeful_places) := ⟨rfl, rfl, rfl, by decide +kernel, rfl, by decide +kernel, by decide +kernel⟩
abbrev markK (F : List Nat) : List (Key × V) := F.map fun q => ((Sum.inl ((q : Nat) : Int) : Key), V.bl true)
theorem val_map : ∀ {F : List Nat} {g : Nat → V} {q : Nat}, valV (F.map fun q => ((Sum.inl ((q : Nat) : Int) : Key), g q)) (.inl ((q : Nat) : Int)) = if q ∈ F then some (g q) else none
  | [], _, _ => by simp [valV]
  | p :: F, g, q => by
    rw [List.map_cons]
    by_cases e : p = q
    · subst e
      rw [valV_pos rfl]
      simp
    · rw [valV_neg (fun z => e (by have := Sum.inl.inj z; omega)), val_map]
      by_cases h : q ∈ F <;> simp [h, Ne.symm e]
section
variable {c : Cq} {ρ : List (Option RP)} {μ : Me} {σ : St} {P H : Hp} {K : PySem.W.Frag}
/-- xs.pop() -/
theorem q_popped {i j : Nat} {p : Addr} {Rs : List RP} {R : RP} (a : At c ρ μ σ P H) (hi : ρ[i]? = some (some (valR (.ref p)))) (hj : μ[j]? = some (p, .lst (Rs ++ [R]))) {Q : VK} (k : ∀ v H', At c ρ (μ.set j (p, .lst Rs)) σ P H' → R.r v P → Q v H') : tBM0 K "list" rPop (tVar i) σ H Q := by
  obtain ⟨v, hv, rfl⟩ := a.ok.sat i _ hi
  have hm : (p, Mo.lst (Rs ++ [R])) ∈ μ := List.mem_of_getElem? hj
  obtain ⟨z1, z2, xs, z3, z4⟩ := a.ok.hx.mem p _ hm
  have hl : xs.length = Rs.length + 1 := by rw [← Paired.length z4]; simp
  have r1 := reps_take Rs.length z4
  rw [List.take_left] at r1
  obtain ⟨v, hv2, rv⟩ := reps_get z4 (i := Rs.length) (R := R) (by simp)
  refine ⟨_, hv, .inl ⟨rfl, xs, SqL.of z3⟩, p, xs, v, rfl, rfl, z3, by rw [show xs.length - 1 = Rs.length by omega]; exact hv2, k v _ (a.put hj ⟨xs.dropLast, upd_same, ?_⟩) rv⟩
  rw [List.dropLast_eq_take, show xs.length - 1 = Rs.length by omega]
  exact r1
end
section
variable {P : Program} {w : World} {K : PySem.W.Frag} {mg : Str → Option Value} {base : Heap} {C : Addr}
noncomputable abbrev fullL (N : WS.Net) : List Nat := (List.range N.length).filter fun p => decide (p ∈ WS.full N)
abbrev sp_full_places (C : Addr) : Sp := spOf (fun N : WS.Net => NW N) (fun N => [trackR C N]) (fun N => tupR (natsR (fullL N)))
theorem ok_full_places (T : Txt K mg) (d : DefAt K mg "full_places" s_full_places) (c_ranks_of : Callee P w K mg base "ranks_of" ["track"] 3 (sp_ranks_of C)) : Callee P w K mg base "full_places" ["track"] 4 (sp_full_places C) := by
  refine d.ok sc_full_places (fun _ _ _ _ _ _ us hl => match us, hl with | [_], _ => rfl) (fun _ _ => rfl) fun f cdv A outer s H E1 hr => ⟨_, (pss_one (ps_ret (pe_callTy (call_tupK K rfl) (by rfl) T.tuple bo_tuple (pa_cons (pe_lc (own := [("place", 1), ("rank", 2)]) (by rfl) sc_full_places.nd (pi_enumT (by rfl) T.enumerate (pa_cons (pe_callC c_ranks_of (hr.mono (by decide)) (by rfl) (pa_cons (pv 0) pa_nil)) pa_nil)) (blkOk_by (own := [("place", 1), ("rank", 2)]) (N := n_full_places) (sc := defScope s_full_places) (by decide +kernel)) (fun _ _ _ _ _ => (pg_tupK (n := 2) K rfl rfl (pgs_cons (pg_name (i := 1) sc_full_places.nd rfl (Or.inl rfl)) (pgs_cons (pg_name (i := 2) sc_full_places.nd rfl (Or.inl rfl)) pgs_nil)))) (fun _ _ _ _ _ => (pts_one (pt_cmpR op_uIs (pv 2) pe_non (nomark _)))) (fun _ _ _ _ _ => (pv 1))) pa_nil)))), fun N P0 H0 σ0 Q hn a q => ?_⟩
  have hn : NW N := hn
  have hf := hn.few
  (try dsimp only [tNext]); refine q_end a (es_cb (ea_cons (es_lc (as := List.range N.length) (RA := fun p => tupR [intR (p : Nat), rkR (decide (p ∈ WS.full N))]) (f := fun p => decide (p ∈ WS.full N)) (RB := fun p => intR (p : Nat))
    (src_enumT (f := fun p => rkR (decide (p ∈ WS.full N))) (ea_cons (es_call N (by walk_at "e") hn) ea_nil)) (fun p hp => tg_tup (tgs_cons tg_name (tgs_cons tg_name tgs_nil)) rfl) (by decide) (fun p hp => ?_) (fun p hp _ => by walk_at "e") (by rw [List.length_range]; omega)) ea_nil) oc_tupL) rfl rfl (by exact q)
  exact et_test (es_op (es_var rfl) es_c o2_isRk)
abbrev sp_reached_from (C : Addr) : Sp := spOf (fun i : WS.Net × Nat => NW i.1 ∧ i.2 < i.1.length) (fun i => [trackR C i.1, intR (i.2 : Nat)]) (fun i => tupR (natsR (WS.reachL i.1 i.2)))
theorem ok_reached_from (T : Txt K mg) (d : DefAt K mg "reached_from" s_reached_from) (c_steps_of : Callee P w K mg base "steps_of" ["track", "place"] 1 (sp_steps_of C)) : Callee P w K mg base "reached_from" ["track", "place"] 2 (sp_reached_from C) := by
  refine d.ok sc_reached_from (fun _ _ _ _ _ _ us hl => match us, hl with | [_, _], _ => rfl) (fun _ _ => rfl) fun f cdv A outer s H E1 hr => ⟨_, (pss_cons (ps_set (i := 2) sc_reached_from.nd rfl (Or.inl rfl) (pe_disp (pps_cons (pv 1) pe_bl pps_nil) (by rfl) (by rfl) (fun z => by cases z) (by decide)))
  (pss_cons (ps_set (i := 3) sc_reached_from.nd rfl (Or.inl rfl) (pe_lst (pa_cons (pv 1) pa_nil)))
  (pss_cons (ps_while PassesOwn.never (pt_cmpR op_uGt (pe_callB (cr_lenK K rfl) (by rfl) T.len bo_len (pa_cons (pv 3) pa_nil)) pe_int (nomark _))
  (pss_one (ps_for PassesOwn.never rfl (pi_listK K rfl (pe_callC c_steps_of (hr.mono (by decide)) (by rfl) (pa_cons (pv 0) (pa_cons (pe_bm0 PySem.F.plainAttrs_list PySem.F.slot_list_pop PySem.F.type_list_pop mt_pop (pv 3)) pa_nil)))) (pg_tupK (n := 3) K rfl rfl (pgs_cons (pg_name (i := 4) sc_reached_from.nd rfl (Or.inl rfl)) (pgs_cons (pg_name (i := 5) sc_reached_from.nd rfl (Or.inl rfl)) (pgs_cons (pg_name (i := 6) sc_reached_from.nd rfl (Or.inl rfl)) pgs_nil))))
  (pss_one (ps_if (pt_cmpR (op_uNotInK K rfl (hu_of hr)) (pv 6) (pv 2) (by rfl)) (pss_cons (ps_dput (hu_of hr) (pv 2) (pv 6) pe_bl rfl)
  (pss_one (ps_expr (pe_bm PySem.F.plainAttrs_list PySem.F.slot_list_append PySem.F.type_list_append mt_append (pv 3) (pa_cons (pv 6) pa_nil))))) pss_nil)))))
  (pss_one (ps_ret (pe_callTy (call_tupK K rfl) (by rfl) T.tuple bo_tuple (pa_cons (pe_callB (cr_sortedK K rfl rfl hr.units2) (by rfl) T.sorted bo_sorted (pa_cons (pv 2) pa_nil)) pa_nil))))))), fun ⟨N, p⟩ P0 H0 σ0 Q ⟨hn, hp⟩ a q => ?_⟩
  have hn : NW N := hn
  have hp : p < N.length := hp
  have hf := hn.few
  (try dsimp only [tNext]); refine sq (q_newD1 (kk := .inl (p : Nat)) (x := .bl true) a (es_var rfl) es_c fun pf σ1 P1 H1 a1 => ?_)
  (try dsimp only [tNext]); refine sq (q_newL (Rs := [intR (p : Nat)]) a1 (by walk_at "e") (by simp) fun pt σ2 P2 H2 a2 => ?_)
  (try dsimp only [tNext]); refine sq (q_while (X := List Nat × List Nat) (fun x => WS.Seek N p x.1 x.2) (fun x => 2 * WS.lack N.length x.1 + x.2.length)
    (fun x => [some (trackR C N), some (intR (p : Nat)), some (valR (.ref pf)), some (valR (.ref pt)), none, none, none]) (fun x => [(pt, .lst (natsR x.2)), (pf, .dct (markK x.1))]) (fun x => decide (0 < x.2.length))
    ⟨([p], [p]), ⟨by simp, by simp, fun z hz => by rw [List.mem_singleton.mp hz]; exact ⟨.self, hp⟩, fun z h => h, List.mem_singleton.mpr rfl, fun z h1 h2 => absurd h1 h2⟩, a2⟩ (fun x hx => ?_) (fun x σ P H hx hb a => ?_) fun x σ P H hx hb a => ?_)
  · refine et_eq (a := decide ((0 : Int) < ((natsR x.2).length : Nat))) (et_test (es_op (es_cb (ea_cons (es_var rfl) ea_nil) (oc_lenM (j := 0) rfl)) es_c o2_gt)) ?_
    rw [List.length_map]
    simp
  · obtain ⟨F, D⟩ := x
    have hx : WS.Seek N p F D := hx
    have hne : D ≠ [] := fun e => by rw [e] at hb; cases hb
    obtain ⟨D0, z, eD⟩ : ∃ D0 z, D = D0 ++ [z] := ⟨D.dropLast, D.getLast hne, (List.dropLast_concat_getLast hne).symm⟩
    subst eD
    have hzF : z ∈ F := hx.sub z (by simp)
    have hzn := (hx.all z hzF).2
    dsimp only at a
    have a := a.mo (μ' := [(pt, .lst (natsR D0 ++ [intR (z : Nat)])), (pf, .dct (markK F))]) (by simp [natsR])
    refine for_run (c := ⟨W0, P0, H0, [], none⟩) (as := WS.st N z) (RA := sR) (X := List Nat × List Nat) (ρ := [some (trackR C N), some (intR (p : Nat)), some (valR (.ref pf)), some (valR (.ref pt)), none, none, none]) (μ := [(pt, .lst (natsR D0)), (pf, .dct (markK F))])
      (fun k x => x.1.Nodup ∧ x.2.Nodup ∧ (∀ y ∈ x.1, WS.Reach N p y ∧ y < N.length) ∧ (∀ y ∈ x.2, y ∈ x.1) ∧ (∀ y ∈ F, y ∈ x.1) ∧ (∀ y ∈ x.1, y ∉ x.2 → y = z ∨ ∀ s ∈ WS.st N y, s.2 ∈ x.1) ∧ (∀ s ∈ (WS.st N z).take k, s.2 ∈ x.1) ∧ 2 * WS.lack N.length x.1 + x.2.length ≤ 2 * WS.lack N.length F + D0.length)
      (fun _ _ => [some (trackR C N), some (intR (p : Nat)), some (valR (.ref pf)), some (valR (.ref pt)), none, none, none]) (fun _ x => [(pt, .lst (natsR x.2)), (pf, .dct (markK x.1))])
      (fun R q => ?_) (fun P' H' a' => ⟨(F, D0), ?_, a'⟩) (fun k x s hk _ => tg_tup (tgs_cons tg_name (tgs_cons tg_name (tgs_cons tg_name tgs_nil))) rfl) (fun B k x s σ P H hk hx1 a => ?_) fun x σ P H hx1 a => ?_
    · obtain ⟨v0, hv0, r0⟩ := a.ok.sat 0 _ rfl
      refine ⟨v0, hv0, q_popped (i := 3) (j := 0) a rfl rfl fun v H' a' r => ?_⟩
      refine ⟨(N, z), P, hzn, a'.ok.hx.le, .cons r0 (.cons r .nil), fun u P2 H2 s2 r2 => ?_⟩
      obtain ⟨pa, xs, rfl, hpa, rx⟩ := r2
      exact ⟨pa, rfl, ⟨xs, SqL.of (s2.le.lst hpa)⟩, q _ P2 H2 (a'.step (s2.w fun b w => (a'.ok.hx.z b w).2)) (it_list hpa rx)⟩
    · refine ⟨hx.nod, (List.nodup_append.mp hx.nodD).1, hx.all, fun y h => hx.sub y (by simp [h]), fun y h => h, fun y h1 h2 => ?_, fun s h => by simp at h, Nat.le_refl _⟩
      by_cases e : y = z
      · exact .inl e
      · exact .inr (hx.cl y h1 (by simp [h2, e]))
    · obtain ⟨F1, D1⟩ := x
      obtain ⟨i1, i0, i2, i3, i4, i5, i6, i7⟩ := hx1
      have hs : s ∈ WS.st N z := List.mem_of_getElem? hk
      have hg := hn.ok.goal z s hs
      have htk : (WS.st N z).take (k + 1) = (WS.st N z).take k ++ [s] := by rw [List.take_add_one, hk]; rfl
      have hl1 : F1.length ≤ N.length := WS.nodup_few i1 fun y h => (i2 y h).2
      have hl2 : D1.length ≤ N.length := WS.nodup_few i0 fun y h => (i2 y (i3 y h)).2
      (try dsimp only [tNext]); refine q_if a (b := !decide (s.2 ∈ F1)) ?_ (fun e P' H' a' => ?_) (fun e P' H' a' => ?_)
      · refine et_eq (et_lend 2 (j := 1) rfl rfl (et_test (es_op (es_var (R := intR ((s.2 : Nat) : Int)) rfl) (es_var rfl) (o2_ninDI (kvs := markK F1))))) ?_
        rw [val_map]
        by_cases h : s.2 ∈ F1 <;> simp [h]
      · have e : s.2 ∉ F1 := by simpa using e
        (try dsimp only [tNext]); refine sq (q_dput (i := 2) (j := 1) (kk := .inl ((s.2 : Nat) : Int)) (x := .bl true) a' rfl rfl (es_var rfl) es_c (by simp only [List.length_map]; omega) fun P2 H2 a2 => ?_)
        (try dsimp only [tNext]); refine q_app (i := 3) (j := 0) (R := intR ((s.2 : Nat) : Int)) a2 rfl rfl (es_var rfl) (by simp only [List.length_map]; omega) fun P3 H3 a3 => ⟨(F1 ++ [s.2], D1 ++ [s.2]), P3, ⟨?_, ?_, ?_, ?_, ?_, ?_, ?_, ?_⟩, (((a3.drop 4).drop 5).drop 6).mo ?_⟩
        · rw [List.nodup_append]
          exact ⟨i1, by simp, fun y h1 w h2 => by rw [List.mem_singleton.mp h2]; exact fun z => e (z ▸ h1)⟩
        · rw [List.nodup_append]
          exact ⟨i0, by simp, fun y h1 w h2 => by rw [List.mem_singleton.mp h2]; exact fun z => e (z ▸ i3 y h1)⟩
        · intro y hy
          rcases List.mem_append.mp hy with h | h
          · exact i2 y h
          · rw [List.mem_singleton.mp h]
            exact ⟨.step (i2 z (i4 z hzF)).1 hs, hg⟩
        · intro y hy
          rcases List.mem_append.mp hy with h | h
          · exact List.mem_append_left _ (i3 y h)
          · exact List.mem_append_right _ h
        · exact fun y h => List.mem_append_left _ (i4 y h)
        · intro y h1 h2
          rcases List.mem_append.mp h1 with h | h
          · rcases i5 y h (fun w => h2 (List.mem_append_left _ w)) with r | r
            · exact .inl r
            · exact .inr fun s hs => List.mem_append_left _ (r s hs)
          · exact absurd (List.mem_append_right _ h) h2
        · intro t ht
          rw [htk] at ht
          rcases List.mem_append.mp ht with h | h
          · exact List.mem_append_left _ (i6 t h)
          · rw [List.mem_singleton.mp h]
            simp
        · have := WS.lack_less hg e
          show 2 * WS.lack N.length (F1 ++ [s.2]) + (D1 ++ [s.2]).length ≤ _
          rw [List.length_append, List.length_singleton]
          have i7 : 2 * WS.lack N.length F1 + D1.length ≤ 2 * WS.lack N.length F + D0.length := i7
          omega
        · have hv : valV (markK F1) (.inl ((s.2 : Nat) : Int)) = none := by rw [val_map, if_neg e]
          show [(pt, Mo.lst (natsR D1 ++ [intR ((s.2 : Nat) : Int)])), (pf, Mo.dct (putK (markK F1) (.inl ((s.2 : Nat) : Int)) (.bl true)))] = [(pt, Mo.lst (natsR (D1 ++ [s.2]))), (pf, Mo.dct (markK (F1 ++ [s.2])))]
          rw [putK_new _ hv]
          simp [natsR, markK]
      · have e : s.2 ∈ F1 := by simpa using e
        refine ⟨(F1, D1), P', ⟨i1, i0, i2, i3, i4, i5, fun t ht => ?_, i7⟩, ((a'.drop 4).drop 5).drop 6⟩
        rw [htk] at ht
        rcases List.mem_append.mp ht with h | h
        · exact i6 t h
        · rw [List.mem_singleton.mp h]
          exact e
    · obtain ⟨F1, D1⟩ := x
      obtain ⟨i1, i0, i2, i3, i4, i5, i6, i7⟩ := hx1
      rw [List.take_length] at i6
      refine ⟨(F1, D1), P, ?_, ⟨i1, i0, i2, i3, i4 p hx.mem, fun y h1 h2 => ?_⟩, a⟩
      · show 2 * WS.lack N.length F1 + D1.length < 2 * WS.lack N.length F + (D0 ++ [z]).length
        rw [List.length_append, List.length_singleton]
        have i7 : 2 * WS.lack N.length F1 + D1.length ≤ 2 * WS.lack N.length F + D0.length := i7
        omega
      · rcases i5 y h1 h2 with r | r
        · rw [r]
          exact i6
        · exact r
  · obtain ⟨F, D⟩ := x
    have hx : WS.Seek N p F D := hx
    have hD : D = [] := List.eq_nil_of_length_eq_zero (by have := of_decide_eq_false hb; simp only at this; omega)
    subst hD
    obtain ⟨P', a'⟩ := a.freeze (j := 1) (i := 2) rfl rfl
    have hpm := hx.end_
    have hl := WS.nodup_few hx.nod fun y h => (hx.all y h).2
    have es : (WS.reachL N p).map (fun q => ((q : Nat) : Int)) = srt (F.map fun q => ((q : Nat) : Int)) := by
      refine srt_uniq (hpm.symm.map _) ?_
      refine List.pairwise_map.mpr ((List.Pairwise.sublist List.filter_sublist List.pairwise_lt_range).imp fun h => ?_)
      omega
    (try dsimp only [tNext]); refine q_end a' (es_cb (ea_cons (es_cb (ea_cons (es_var (R := dctR (markK F)) rfl) ea_nil) (oc_sortDI (ks := F.map fun q => ((q : Nat) : Int)) (by rw [List.map_map, List.map_map]; rfl) (by rw [List.length_map]; omega))) ea_nil) oc_tupL) rfl rfl (by rw [natsR_eq, es] at q; exact q)
noncomputable abbrev sp_hopeful_places (C : Addr) : Sp := spOf (fun N : WS.Net => NW N) (fun N => [trackR C N]) (fun N => tupR (natsR (WS.hope N)))
theorem ok_hopeful_places (T : Txt K mg) (tc : TC K C) (d : DefAt K mg "hopeful_places" s_hopeful_places) (c_full_places : Callee P w K mg base "full_places" ["track"] 4 (sp_full_places C)) (c_reached_from : Callee P w K mg base "reached_from" ["track", "place"] 2 (sp_reached_from C)) :
    Callee P w K mg base "hopeful_places" ["track"] 5 (sp_hopeful_places C) := by
  refine d.ok sc_hopeful_places (fun _ _ _ _ _ _ us hl => match us, hl with | [_], _ => rfl) (fun _ _ => rfl) fun f cdv A outer s H E1 hr => ⟨_, (pss_cons (ps_set (i := 1) sc_hopeful_places.nd rfl (Or.inr rfl) (pe_callC c_full_places (hr.mono (by decide)) (by rfl) (pa_cons (pv 0) pa_nil)))
  (pss_cons (ps_set (i := 2) sc_hopeful_places.nd rfl (Or.inl rfl) (pe_lst pa_nil))
  (pss_cons (ps_for PassesOwn.never rfl (pi_range1 (by rfl) T.range (pa_cons (pe_fldK K rfl (pv 0) rfl) pa_nil)) (pg_name (i := 3) sc_hopeful_places.nd rfl (Or.inl rfl))
  (pss_one (ps_if (pt_not (pt_val (pe_callB (cr_anyK K rfl rfl) (by rfl) T.any bo_any (pa_cons (pe_lc (own := [("goal", 4)]) (by rfl) sc_hopeful_places.nd (pi_tupK K rfl (pe_callC c_reached_from (hr.mono (by decide)) (by rfl) (pa_cons (pv 0) (pa_cons (pv 3) pa_nil)))) (blkOk_by (own := [("goal", 4)]) (N := n_hopeful_places) (sc := defScope s_hopeful_places) (by decide +kernel)) (fun _ _ _ _ _ => (pg_name (i := 4) sc_hopeful_places.nd rfl (Or.inl rfl))) (fun _ _ _ _ _ => pts_nil) (fun _ _ _ _ _ => (pe_cmpR (op_uInK K rfl (hu_of hr)) (pv 4) (pv 1) (by rfl)))) pa_nil)))) (pss_one (ps_expr (pe_bm PySem.F.plainAttrs_list PySem.F.slot_list_append PySem.F.type_list_append mt_append (pv 2) (pa_cons (pv 3) pa_nil)))) pss_nil)))
  (pss_one (ps_ret (pe_callTy (call_tupK K rfl) (by rfl) T.tuple bo_tuple (pa_cons (pv 2) pa_nil))))))), fun N P0 H0 σ0 Q hn a q => ?_⟩
  have hn : NW N := hn
  have hf := hn.few
  (try dsimp only [tNext]); refine sq (q_set (R := tupR (natsR (fullL N))) a (es_call N (by walk_at "e") hn) fun v P1 H1 a1 => ?_)
  (try dsimp only [tNext]); refine sq (q_newL (Rs := []) a1 ea_nil (by simp) fun pt σ2 P2 H2 a2 => ?_)
  have hop : ∀ p, p < N.length → (decide (p ∈ WS.hope N)) = !((WS.reachL N p).map fun g => decide (g ∈ fullL N)).any id := fun p hp => by
    by_cases h : p ∈ WS.hope N
    · rw [decide_eq_true h]
      have : ((WS.reachL N p).map fun g => decide (g ∈ fullL N)).any id = false := by
        rw [List.any_eq_false]
        intro b hb
        obtain ⟨g, hg, rfl⟩ := List.mem_map.mp hb
        have h1 := (WS.mem_hope.mp h).2 g (WS.mem_reachL.mp hg).2
        have h2 : g ∉ fullL N := fun z => h1 (of_decide_eq_true (List.mem_filter.mp z).2)
        simp [h2]
      rw [this]
      rfl
    · rw [decide_eq_false h]
      have : ((WS.reachL N p).map fun g => decide (g ∈ fullL N)).any id = true := by
        refine Classical.byContradiction fun hne => h (WS.mem_hope.mpr ⟨hp, fun g r hg => hne ?_⟩)
        have hgn : g < N.length := by
          have key : ∀ (t : Nat) (L : List Nat), (∀ x ∈ L, x < N.length) → ∀ x ∈ WS.iter (WS.strike N) t L, x < N.length := fun t => by
            induction t with
            | zero => exact fun L h => h
            | succ t ih => exact fun L h => ih _ fun x hx => h x (List.mem_filter.mp hx).1
          exact key _ _ (fun x hx => List.mem_range.mp hx) g hg
        rw [List.any_eq_true]
        exact ⟨decide (g ∈ fullL N), List.mem_map.mpr ⟨g, WS.mem_reachL.mpr ⟨hgn, r⟩, rfl⟩, decide_eq_true (List.mem_filter.mpr ⟨List.mem_range.mpr hgn, decide_eq_true hg⟩)⟩
      rw [this]
      rfl
  (try dsimp only [tNext]); refine sq (q_for (as := List.range N.length) (RA := fun p => intR (p : Nat)) (X := Unit) (fun _ _ => True) (fun _ _ => [some (trackR C N), some (tupR (natsR (fullL N))), some (valR (.ref pt)), none, none])
    (fun k _ => [(pt, .lst (natsR (((List.range N.length).take k).filter fun p => decide (p ∈ WS.hope N))))]) a2 (src_range0 (ea_cons (es_places tc (es_var (R := trackR C N) rfl)) ea_nil) (by omega)) (fun P' H' a' => ⟨(), trivial, a'⟩) (fun k x p hk _ => tg_name) (fun B k x p σ P H hk _ a => ?_) fun x σ P H _ a => ?_)
  · have hp : p < N.length := List.mem_range.mp (List.mem_of_getElem? hk)
    have htk := take_filter (fun p => decide (p ∈ WS.hope N)) hk
    (try dsimp only [tNext]); refine q_if a (b := decide (p ∈ WS.hope N)) ?_ (fun e P' H' a' => ?_) (fun e P' H' a' => ?_)
    · rw [hop p hp]
      refine et_not (et_B (es_cb (ea_cons (es_eq (es_lc0 (as := WS.reachL N p) (RA := fun g => intR (g : Nat)) (RB := fun g => blR (decide (g ∈ fullL N))) (src_tup (es_call (N, p) (by walk_at "e") ⟨hn, hp⟩)) (fun _ _ => tg_name) (by decide) (fun g hg => by walk_at "e") (Nat.lt_of_le_of_lt (List.length_filter_le _ _) (by rw [List.length_range]; omega)))
        (R' := lstR (((WS.reachL N p).map fun g => decide (g ∈ fullL N)).map fun b => blR b)) (by rw [List.map_map]; rfl)) ea_nil) oc_any))
    · (try dsimp only [tNext]); refine q_app (i := 2) (j := 0) (R := intR (p : Nat)) a' rfl rfl (es_var rfl) ?_ fun P3 H3 a3 => ⟨(), P3, trivial, (a3.drop 3).mo ?_⟩
      · rw [List.length_map]
        refine Nat.lt_of_le_of_lt (List.length_filter_le _ _) ?_
        rw [List.length_take, List.length_range]
        omega
      · show [(pt, Mo.lst (natsR _ ++ [intR (p : Nat)]))] = [(pt, Mo.lst (natsR _))]
        rw [htk, if_pos e]
        simp [natsR]
    · refine ⟨(), P', trivial, (a'.drop 3).mo ?_⟩
      show [(pt, Mo.lst (natsR _))] = [(pt, Mo.lst (natsR _))]
      rw [htk, if_neg (by rw [e]; exact Bool.false_ne_true), List.append_nil]
  · obtain ⟨P', a'⟩ := a.freeze (j := 0) (i := 2) rfl rfl
    have e : ((List.range N.length).take (List.range N.length).length).filter (fun p => decide (p ∈ WS.hope N)) = WS.hope N := by
      rw [List.take_length]
      have h0 : WS.hope N = (List.range N.length).filter fun p => @decide (∀ q, WS.Reach N p q → q ∉ WS.full N) (Classical.propDecidable _) := rfl
      conv => rhs; rw [h0]
      refine List.filter_congr fun p hp => ?_
      by_cases h : p ∈ WS.hope N
      · rw [decide_eq_true h]
        exact (@decide_eq_true _ (Classical.propDecidable _) (WS.mem_hope.mp h).2).symm
      · rw [decide_eq_false h]
        exact (@decide_eq_false _ (Classical.propDecidable _) fun z => h (WS.mem_hope.mpr ⟨List.mem_range.mp hp, z⟩)).symm
    (try dsimp only [tNext]); refine q_end a' (es_cb (ea_cons (es_var (R := lstR _) rfl) ea_nil) oc_tupL) rfl rfl (by rw [← e] at q; exact q)
end
end Y
end
section
/-! The defs, part 4: goals. -/
namespace Y
open PySem PySem.Spec L2
open PyProof.Rows (envOfC)
local macro_rules | `(tactic| walk_at "e") => `(tactic| repeat (first
  | exact es_c | exact es_var rfl | exact ea_nil | exact et_yes | with_reducible apply ea_cons | with_reducible apply es_op | with_reducible apply es_cb | with_reducible apply es_un | with_reducible apply es_tup | with_reducible apply es_lst | exact Nat.le_of_ble_eq_true rfl
  | with_reducible apply es_chain | with_reducible apply et_test | with_reducible apply et_B | with_reducible apply et_not | with_reducible apply es_notV
  | exact o2_add | exact o2_sub | exact o2_lt | exact o2_le | exact o2_gt | exact o2_ge | exact o2_eqI | exact o2_neI | exact o1_neg | exact o2_is | exact o2_isnot | exact o2_inDI | exact o2_ninDI | exact o2_inNL | exact o2_inNT | exact o2_ninNL | exact o2_ninNT | exact o2_inL | exact o2_inT | exact o2_ninL | exact o2_ninT | exact o2_eqT | exact o2_eqL
  | exact oc_lenL | exact oc_lenT | exact oc_lenD | exact oc_sumL | exact oc_sumT' | exact oc_max2 | exact oc_min2 | exact oc_sortI | exact oc_tupL | exact oc_int | exact oc_intB | exact oc_abs | exact oc_any | exact oc_all
  | exact o2_div (by constructor <;> omega) | exact o2_mod (by omega) | exact o2_mulT (by first | (left; constructor <;> omega) | (right; constructor <;> omega)) | exact o2_ixL (by omega) rfl | exact o2_ixT (by omega) rfl))
abbrev s_told_pairs : Stmt := top 37
abbrev n_told_pairs : List Str := ["pairs", "goal", "pay"]
theorem sc_told_pairs : FnScope n_told_pairs ["pairs"] (defScope s_told_pairs) := ⟨rfl, rfl, rfl, by decide +kernel, rfl, by decide +kernel, by decide +kernel⟩
abbrev s_least_stake : Stmt := top 38
abbrev n_least_stake : List Str := ["pairs", "kept", "found", "goal", "pay"]
theorem sc_least_stake : FnScope n_least_stake ["pairs", "kept"] (defScope s_least_stake) := ⟨rfl, rfl, rfl, by decide +kernel, rfl, by decide +kernel, by decide +kernel⟩
abbrev s_total : Stmt := top 39
abbrev n_total : List Str := ["pairs", "kept"]
theorem sc_total : FnScope n_total ["pairs", "kept"] (defScope s_total) := ⟨rfl, rfl, rfl, by decide +kernel, rfl, by decide +kernel, by decide +kernel⟩
abbrev s_must_keep : Stmt := top 40
abbrev n_must_keep : List Str := ["pairs", "goal", "pay"]
theorem sc_must_keep : FnScope n_must_keep ["pairs"] (defScope s_must_keep) := ⟨rfl, rfl, rfl, by decide +kernel, rfl, by decide +kernel, by decide +kernel⟩
abbrev s_turning : Stmt := top 41
abbrev n_turning : List Str := ["pairs", "kept", "goal", "pay"]
theorem sc_turning : FnScope n_turning ["pairs"] (defScope s_turning) := ⟨rfl, rfl, rfl, by decide +kernel, rfl, by decide +kernel, by decide +kernel⟩
abbrev s_common_multiple : Stmt := top 42
abbrev n_common_multiple : List Str := ["pairs", "found", "goal", "pay"]
theorem sc_common_multiple : FnScope n_common_multiple ["pairs"] (defScope s_common_multiple) := ⟨rfl, rfl, rfl, by decide +kernel, rfl, by decide +kernel, by decide +kernel⟩
abbrev s_best_kept : Stmt := top 43
abbrev n_best_kept : List Str := ["pairs", "least", "turn", "round_of", "low", "kept"]
theorem sc_best_kept : FnScope n_best_kept ["pairs", "least"] (defScope s_best_kept) := ⟨rfl, rfl, rfl, by decide +kernel, rfl, by decide +kernel, by decide +kernel⟩
abbrev s_needed : Stmt := top 44
abbrev n_needed : List Str := ["pairs", "told"]
theorem sc_needed : FnScope n_needed ["pairs"] (defScope s_needed) := ⟨rfl, rfl, rfl, by decide +kernel, rfl, by decide +kernel, by decide +kernel⟩
abbrev s_parts_needed : Stmt := top 45
abbrev n_parts_needed : List Str := ["pairs", "bottom", "goal", "pay", "told", "kept", "more"]
theorem sc_parts_needed : FnScope n_parts_needed ["pairs"] (defScope s_parts_needed) := ⟨rfl, rfl, rfl, by decide +kernel, rfl, by decide +kernel, by decide +kernel⟩
abbrev prsR (ps : WS.Prs) : RP := lstR (ps.map pairR)
theorem tgP {W : Wd} {ρ : List (Option RP)} {μ : Me} {K : PySem.W.Frag} {i j : Nat} {q : Int × Int} : Tg W ρ μ (gTup K 2 (gCons (gName i) (gCons (gName j) gNil))) (pairR q) ((ρ.set i (some (intR q.1))).set j (some (intR q.2))) ([i] ++ ([j] ++ [])) :=
  tg_tup (tgs_cons tg_name (tgs_cons tg_name tgs_nil)) rfl
section
variable {P : Program} {w : World} {K : PySem.W.Frag} {mg : Str → Option Value} {base : Heap} {C : Addr}
abbrev sp_told_pairs : Sp := spOf (fun ps : WS.Prs => ps.length ≤ 3) (fun ps => [prsR ps]) (fun ps => prsR (WS.told ps))
theorem ok_told_pairs (T : Txt K mg) (d : DefAt K mg "told_pairs" s_told_pairs) : Callee P w K mg base "told_pairs" ["pairs"] 1 sp_told_pairs := by
  refine d.ok sc_told_pairs (fun _ _ _ _ _ _ us hl => match us, hl with | [_], _ => rfl) (fun _ _ => rfl) fun f cdv A outer s H E1 hr => ⟨_, (pss_one (ps_ret (pe_lc (own := [("goal", 1), ("pay", 2)]) (by rfl) sc_told_pairs.nd (pi_listK K rfl (pv 0)) (blkOk_by (own := [("goal", 1), ("pay", 2)]) (N := n_told_pairs) (sc := defScope s_told_pairs) (by decide +kernel)) (fun _ _ _ _ _ => (pg_tupK (n := 2) K rfl rfl (pgs_cons (pg_name (i := 1) sc_told_pairs.nd rfl (Or.inl rfl)) (pgs_cons (pg_name (i := 2) sc_told_pairs.nd rfl (Or.inl rfl)) pgs_nil)))) (fun _ _ _ _ _ => (pts_one (PW.pt (pw_and (pt_cmpR op_uIsNot (pv 1) pe_non (nomark _)) (pw_and1 (pt_cmpR op_uGt (pv 1) pe_int (nomark _))))))) (fun _ _ _ _ _ => (pe_tup (pa_cons (pv 1) (pa_cons (pv 2) pa_nil))))))), fun ps P0 H0 σ0 Q h3 a q => ?_⟩
  have h3 : ps.length ≤ 3 := h3
  (try dsimp only [tNext]); refine q_end a (es_lc (as := ps) (RA := pairR) (f := fun q => decide (0 < q.1)) (RB := pairR) (src_list (es_var rfl)) (fun q hq => tgP) (by decide) (fun q hq => ?_) (fun q hq _ => ?_) (by omega)) rfl rfl (by exact q)
  · exact et_eq (et_and (a := true) (b := decide (0 < q.1)) (et_test (es_eqB (es_op (es_var (R := intR q.1) rfl) es_c o2_isnot) (by simp))) fun _ => et_test (es_op (es_var rfl) es_c o2_gt)) (Bool.true_and _)
  · exact es_tup (ea_cons (es_var rfl) (ea_cons (es_var rfl) ea_nil)) (by simp)
abbrev sp_least_stake : Sp := spOf (fun i : WS.Prs × Int => i.1.length ≤ 3 ∧ WS.Pays i.1 ∧ ∀ q ∈ i.1, q.2 = 0 → q.1 ≤ i.2) (fun i => [prsR i.1, intR i.2]) (fun i => tupR ((i.1.map (WS.lay i.2)).map fun n => intR n))
theorem ok_least_stake (T : Txt K mg) (d : DefAt K mg "least_stake" s_least_stake) (c_rounded_up : Callee P w K mg base "rounded_up" ["top", "bottom"] 1 sp_rounded_up) : Callee P w K mg base "least_stake" ["pairs", "kept"] 2 sp_least_stake := by
  refine d.ok sc_least_stake (fun _ _ _ _ _ _ us hl => match us, hl with | [_, _], _ => rfl) (fun _ _ => rfl) fun f cdv A outer s H E1 hr => ⟨_, (pss_cons (ps_set (i := 2) sc_least_stake.nd rfl (Or.inl rfl) (pe_lst pa_nil))
  (pss_cons (ps_for PassesOwn.never rfl (pi_listK K rfl (pv 0)) (pg_tupK (n := 2) K rfl rfl (pgs_cons (pg_name (i := 3) sc_least_stake.nd rfl (Or.inl rfl)) (pgs_cons (pg_name (i := 4) sc_least_stake.nd rfl (Or.inl rfl)) pgs_nil)))
  (pss_one (ps_expr (pe_bm PySem.F.plainAttrs_list PySem.F.slot_list_append PySem.F.type_list_append mt_append (pv 2) (pa_cons (pe_ifExp (PW.pt (pw_or (pt_cmpR op_uIs (pv 3) pe_non (nomark _)) (pw_or1 (pt_cmpR op_uLe (pv 3) (pv 1) (nomark _))))) pe_int (pe_callC c_rounded_up (hr.mono (by decide)) (by rfl) (pa_cons (pe_op op_uSub (pv 3) (pv 1)) (pa_cons (pv 4) pa_nil)))) pa_nil)))))
  (pss_one (ps_ret (pe_callTy (call_tupK K rfl) (by rfl) T.tuple bo_tuple (pa_cons (pv 2) pa_nil)))))), fun ⟨ps, k⟩ P0 H0 σ0 Q ⟨h3, hp, hk⟩ a q => ?_⟩
  simp only at h3 hp hk
  (try dsimp only [tNext]); refine sq (q_newL (Rs := []) a ea_nil (by simp) fun pt σ2 P2 H2 a2 => ?_)
  (try dsimp only [tNext]); refine sq (q_for (as := ps) (RA := pairR) (X := Unit) (fun _ _ => True) (fun _ _ => [some (prsR ps), some (intR k), some (valR (.ref pt)), none, none]) (fun n _ => [(pt, .lst (((ps.take n).map (WS.lay k)).map fun n => intR n))])
    a2 (src_list (es_var rfl)) (fun P' H' a' => ⟨(), trivial, a'⟩) (fun n x r hn _ => tgP) (fun B n x r σ P H hn _ a => ?_) fun x σ P H _ a => ?_)
  · have hr : r ∈ ps := List.mem_of_getElem? hn
    have hr1 := hp r hr
    (try dsimp only [tNext]); refine q_app (i := 2) (j := 0) (R := intR (WS.lay k r)) a rfl rfl ?_ (by simp only [List.length_map, List.length_take]; omega) fun P3 H3 a3 => ⟨(), P3, trivial, ((a3.drop 3).drop 4).mo ?_⟩
    · refine es_if (b := decide (r.1 ≤ k)) ?_ (fun e => ?_) fun e => ?_
      · exact et_eq (et_or (a := false) (b := decide (r.1 ≤ k)) (et_test (es_eqB (es_op (es_var (R := intR r.1) rfl) es_c o2_is) (by simp))) fun _ => et_test (es_op (es_var rfl) (es_var rfl) o2_le)) (Bool.false_or _)
      · have e : r.1 ≤ k := of_decide_eq_true e
        refine es_eqI (i := 0) es_c ?_
        unfold WS.lay
        rw [if_pos e]
      · have e : ¬ r.1 ≤ k := of_decide_eq_false e
        have h0 := WS.pos_of hr1 (hk r hr) e
        refine es_eqI (es_call (r.1 - k, r.2) ?_ ⟨h0, hr1.2⟩) ?_
        · walk_at "e"
        · unfold WS.lay
          rw [if_neg e]
          rfl
    · show [(pt, Mo.lst (_ ++ [intR (WS.lay k r)]))] = [(pt, Mo.lst _)]
      rw [List.take_add_one, hn]
      simp
  · obtain ⟨P', a'⟩ := a.freeze (j := 0) (i := 2) rfl rfl
    (try dsimp only [tNext]); refine q_end a' (es_cb (ea_cons (es_var (R := lstR _) rfl) ea_nil) oc_tupL) rfl rfl (by rw [List.take_length]; exact q)
abbrev sp_total : Sp := spOf (fun i : WS.Prs × Int => i.1.length ≤ 3 ∧ WS.Pays i.1 ∧ ∀ q ∈ i.1, q.2 = 0 → q.1 ≤ i.2) (fun i => [prsR i.1, intR i.2]) (fun i => intR (WS.tot i.1 i.2))
theorem ok_total (T : Txt K mg) (d : DefAt K mg "total" s_total) (c_least_stake : Callee P w K mg base "least_stake" ["pairs", "kept"] 2 sp_least_stake) : Callee P w K mg base "total" ["pairs", "kept"] 3 sp_total := by
  refine d.ok sc_total (fun _ _ _ _ _ _ us hl => match us, hl with | [_, _], _ => rfl) (fun _ _ => rfl) fun f cdv A outer s H E1 hr => ⟨_, (pss_one (ps_ret (pe_op op_uAdd (pv 1) (pe_callB (cr_sumUK K rfl rfl) (by rfl) T.sum bo_sum (pa_cons (pe_callC c_least_stake (hr.mono (by decide)) (by rfl) (pa_cons (pv 0) (pa_cons (pv 1) pa_nil))) pa_nil))))), fun ⟨ps, k⟩ P0 H0 σ0 Q h a q => ?_⟩
  (try dsimp only [tNext]); refine q_end a (es_op (es_var rfl) (es_cb (ea_cons (es_call (ps, k) (by walk_at "e") h) ea_nil) oc_sumT') o2_add) rfl rfl (by exact q)
abbrev sp_must_keep : Sp := spOf (fun ps : WS.Prs => ps.length ≤ 3) (fun ps => [prsR ps]) (fun ps => intR (WS.keepM ps))
theorem ok_must_keep (T : Txt K mg) (d : DefAt K mg "must_keep" s_must_keep) : Callee P w K mg base "must_keep" ["pairs"] 1 sp_must_keep := by
  refine d.ok sc_must_keep (fun _ _ _ _ _ _ us hl => match us, hl with | [_], _ => rfl) (fun _ _ => rfl) fun f cdv A outer s H E1 hr => ⟨_, (pss_one (ps_ret (pe_callB (cr_maxUK K rfl rfl) (by rfl) T.max bo_max (pa_cons (pe_op op_uAdd (pe_lst (pa_cons pe_int pa_nil)) (pe_lc (own := [("goal", 1), ("pay", 2)]) (by rfl) sc_must_keep.nd (pi_listK K rfl (pv 0)) (blkOk_by (own := [("goal", 1), ("pay", 2)]) (N := n_must_keep) (sc := defScope s_must_keep) (by decide +kernel)) (fun _ _ _ _ _ => (pg_tupK (n := 2) K rfl rfl (pgs_cons (pg_name (i := 1) sc_must_keep.nd rfl (Or.inl rfl)) (pgs_cons (pg_name (i := 2) sc_must_keep.nd rfl (Or.inl rfl)) pgs_nil)))) (fun _ _ _ _ _ => (pts_one (pt_cmpR (op_uEqK K rfl hr.units) (pv 2) pe_int (nomark _)))) (fun _ _ _ _ _ => (pv 1)))) pa_nil)))), fun ps P0 H0 σ0 Q h3 a q => ?_⟩
  have h3 : ps.length ≤ 3 := h3
  have hl := List.length_filter_le (fun q : Int × Int => decide (q.2 = 0)) ps
  (try dsimp only [tNext]); refine q_end a (es_cb (ea_cons (es_eq (es_op (es_lst (ea_cons es_c ea_nil) (by simp)) (es_lc (as := ps) (RA := pairR) (f := fun q => decide (q.2 = 0)) (RB := fun q => intR q.1) (src_list (es_var rfl)) (fun q hq => tgP) (by decide) (fun q hq => ?_) (fun q hq _ => es_var rfl) (by omega)) (o2_cat (by simp only [List.length_map, List.length_singleton]; omega)))
    (R' := lstR ((0 :: (ps.filter fun q => decide (q.2 = 0)).map (·.1)).map fun n => intR n)) (by rw [List.map_cons, List.map_map]; rfl)) ea_nil) (oc_max1 (m := WS.keepM ps) (WS.topOf_mem _) fun y hy => ?_)) rfl rfl (by exact q)
  · exact et_test (es_op (es_var (R := intR q.2) rfl) es_c o2_eqI)
  · rcases List.mem_cons.mp hy with e | h
    · rw [e]
      exact WS.topOf_nonneg _
    · exact WS.topOf_ge h
abbrev sp_turning : Sp := spOf (fun ps : WS.Prs => ps.length ≤ 3 ∧ WS.Pays ps) (fun ps => [prsR ps]) (fun ps => intR (WS.turnOf ps))
theorem ok_turning (T : Txt K mg) (d : DefAt K mg "turning" s_turning) (c_must_keep : Callee P w K mg base "must_keep" ["pairs"] 1 sp_must_keep) : Callee P w K mg base "turning" ["pairs"] 2 sp_turning := by
  refine d.ok sc_turning (fun _ _ _ _ _ _ us hl => match us, hl with | [_], _ => rfl) (fun _ _ => rfl) fun f cdv A outer s H E1 hr => ⟨_, (pss_cons (ps_for PassesOwn.never rfl (pi_listK K rfl (pe_callB (cr_sortedK K rfl rfl hr.units2) (by rfl) T.sorted bo_sorted (pa_cons (pe_op op_uAdd (pe_lst (pa_cons (pe_callC c_must_keep (hr.mono (by decide)) (by rfl) (pa_cons (pv 0) pa_nil)) pa_nil)) (pe_lc (own := [("goal", 2), ("pay", 3)]) (by rfl) sc_turning.nd (pi_listK K rfl (pv 0)) (blkOk_by (own := [("goal", 2), ("pay", 3)]) (N := n_turning) (sc := defScope s_turning) (by decide +kernel)) (fun _ _ _ _ _ => (pg_tupK (n := 2) K rfl rfl (pgs_cons (pg_name (i := 2) sc_turning.nd rfl (Or.inl rfl)) (pgs_cons (pg_name (i := 3) sc_turning.nd rfl (Or.inl rfl)) pgs_nil)))) (fun _ _ _ _ _ => (pts_one (pt_cmpR op_uGt (pv 2) (pe_callC c_must_keep (hr.mono (by decide)) (by rfl) (pa_cons (pv 0) pa_nil)) (nomark _)))) (fun _ _ _ _ _ => (pv 2)))) pa_nil))) (pg_name (i := 1) sc_turning.nd rfl (Or.inr rfl))
  (pss_one (ps_if (pt_cmpR op_uLe (pe_callB (cr_sumUK K rfl rfl) (by rfl) T.sum bo_sum (pa_cons (pe_lc (own := [("goal", 2), ("pay", 3)]) (by rfl) sc_turning.nd (pi_listK K rfl (pv 0)) (blkOk_by (own := [("goal", 2), ("pay", 3)]) (N := n_turning) (sc := defScope s_turning) (by decide +kernel)) (fun _ _ _ _ _ => (pg_tupK (n := 2) K rfl rfl (pgs_cons (pg_name (i := 2) sc_turning.nd rfl (Or.inl rfl)) (pgs_cons (pg_name (i := 3) sc_turning.nd rfl (Or.inl rfl)) pgs_nil)))) (fun _ _ _ _ _ => (pts_one (pt_cmpR op_uGt (pv 2) (pv 1) (nomark _)))) (fun _ _ _ _ _ => (pe_op op_uDiv (p_int (by rfl) T.WHOLE) (pv 3)))) pa_nil)) (p_int (by rfl) T.WHOLE) (nomark _)) (pss_one (ps_ret (pv 1))) pss_nil)))
  (pss_one (ps_ret (pe_callC c_must_keep (hr.mono (by decide)) (by rfl) (pa_cons (pv 0) pa_nil))))), fun ps P0 H0 σ0 Q ⟨h3, hp⟩ a q => ?_⟩
  have h3 : ps.length ≤ 3 := h3
  have hp : WS.Pays ps := hp
  have hl := List.length_filter_le (fun q : Int × Int => decide (WS.keepM ps < q.1)) ps
  obtain ⟨t, ht, hT⟩ := WS.turnIn_is hp (srt_perm (WS.marks ps)) (srt_up (WS.marks ps))
  have et : WS.turnOf ps = t := WS.turnOf_eq hT
  (try dsimp only [tNext]); refine sq (q_for (as := srt (WS.marks ps)) (RA := fun n => intR n) (X := Unit) (fun n _ => ∀ k ∈ (srt (WS.marks ps)).take n, ¬ WS.wts k ps ≤ 2520) (fun _ _ => [some (prsR ps), none, none, none]) (fun _ _ => []) a
    (src_list (es_cb (ea_cons (es_eq (es_op (es_lst (ea_cons (es_call ps (by walk_at "e") h3) ea_nil) (by simp)) (es_lc (as := ps) (RA := pairR) (f := fun q => decide (WS.keepM ps < q.1)) (RB := fun q => intR q.1) (src_list (es_var rfl)) (fun q hq => tgP) (by decide) (fun q hq => ?_) (fun q hq _ => es_var rfl) (by omega)) (o2_cat (by simp only [List.length_map, List.length_singleton]; omega)))
      (R' := lstR ((WS.marks ps).map fun n => intR n)) (by unfold WS.marks; rw [List.map_cons, List.map_map]; rfl)) ea_nil) oc_sortI)) (fun P' H' a' => ⟨(), fun k hk => absurd hk (by simp), a'⟩) (fun n x k hk _ => tg_name) (fun B n x k σ P H hk hx a => ?_) fun x σ P H hx a => ?_)
  · exact et_test (es_op (es_var (R := intR q.1) rfl) (es_call ps (by walk_at "e") h3) o2_gt)
  · have hkm : k ∈ WS.marks ps := (srt_perm (WS.marks ps)).subset (List.mem_of_getElem? hk)
    have hmk : WS.keepM ps ≤ k := by
      rcases List.mem_cons.mp hkm with e | h
      · omega
      · obtain ⟨q, hq, e⟩ := List.mem_map.mp h
        have := of_decide_eq_true (List.mem_filter.mp hq).2
        omega
    (try dsimp only [tNext]); refine q_if a (b := decide (WS.wts k ps ≤ 2520)) ?_ (fun e P' H' a' => ?_) (fun e P' H' a' => ⟨(), P', ?_, a'.drop 1⟩)
    · refine et_test (es_op (es_eqI (es_cb (ea_cons (es_eq (es_lc (as := ps) (RA := pairR) (f := fun q => decide (k < q.1)) (RB := fun q => intR (2520 / q.2)) (src_list (es_var rfl)) (fun q hq => tgP) (by decide) (fun q hq => et_test (es_op (es_var (R := intR q.1) rfl) (es_var rfl) o2_gt)) (fun q hq h => ?_) (by omega))
        (R' := lstR (((ps.filter fun q => decide (k < q.1)).map fun q => 2520 / q.2).map fun n => intR n)) (by rw [List.map_map]; rfl)) ea_nil) oc_sumL) (WS.wts_filter k ps)) es_c o2_le)
      have h : k < q.1 := of_decide_eq_true h
      have h0 := WS.pos_of (k := k) (hp q hq) (fun e => by have := (WS.keepM_is ps).okk.2 q hq e; omega) (by omega)
      have h9 := (hp q hq).2
      walk_at "e"
    · have e : WS.wts k ps ≤ 2520 := of_decide_eq_true e
      have ek : t = k := by
        have h1 : (srt (WS.marks ps)).find? (fun k => decide (WS.wts k ps ≤ 2520)) = some k := by
          rw [← List.take_append_drop n (srt (WS.marks ps)), List.find?_append]
          rw [List.find?_eq_none.mpr fun z hz => by simpa using hx z hz]
          have hd : (srt (WS.marks ps)).drop n = k :: (srt (WS.marks ps)).drop (n + 1) := by
            obtain ⟨l, e⟩ := List.getElem?_eq_some_iff.mp hk
            rw [List.drop_eq_getElem_cons l, e]
          rw [hd, List.find?_cons_of_pos (by simpa using e)]
          rfl
        rw [ht] at h1
        exact Option.some.inj h1
      (try dsimp only [tNext]); refine q_end a' (es_var (R := intR k) rfl) rfl rfl (by rw [et, ek] at q; exact q)
    · intro z hz
      rw [List.take_add_one, hk] at hz
      rcases List.mem_append.mp hz with h | h
      · exact hx z h
      · have hz2 : z = k := by simpa using h
        rw [hz2]
        exact of_decide_eq_false e
  · rw [List.take_length] at hx
    have := List.find?_some ht
    have hm := List.mem_of_find?_eq_some ht
    exact absurd (of_decide_eq_true this) (hx t hm)
theorem gcd_cast (a : Nat) (b : Int) (h : 0 ≤ b) : (b : Int) = ((b.toNat : Nat) : Int) := by omega
abbrev sp_common_multiple : Sp := spOf (fun ps : WS.Prs => ps.length ≤ 3 ∧ WS.Pays ps) (fun ps => [prsR ps]) (fun ps => intR ((WS.multOf ps : Nat) : Int))
theorem ok_common_multiple (T : Txt K mg) (d : DefAt K mg "common_multiple" s_common_multiple) (c_common_divisor : Callee P w K mg base "common_divisor" ["one", "other"] 1 sp_common_divisor) : Callee P w K mg base "common_multiple" ["pairs"] 2 sp_common_multiple := by
  refine d.ok sc_common_multiple (fun _ _ _ _ _ _ us hl => match us, hl with | [_], _ => rfl) (fun _ _ => rfl) fun f cdv A outer s H E1 hr => ⟨_, (pss_cons (ps_set (i := 1) sc_common_multiple.nd rfl (Or.inl rfl) pe_int)
  (pss_cons (ps_for PassesOwn.never rfl (pi_listK K rfl (pv 0)) (pg_tupK (n := 2) K rfl rfl (pgs_cons (pg_name (i := 2) sc_common_multiple.nd rfl (Or.inl rfl)) (pgs_cons (pg_name (i := 3) sc_common_multiple.nd rfl (Or.inl rfl)) pgs_nil)))
  (pss_one (ps_if (pt_cmpR op_uGt (pv 3) pe_int (nomark _)) (pss_one (ps_set (i := 1) sc_common_multiple.nd rfl (Or.inl rfl) (pe_op (op_uMulTK K rfl) (pe_op op_uDiv (pv 1) (pe_callC c_common_divisor (hr.mono (by decide)) (by rfl) (pa_cons (pv 1) (pa_cons (pv 3) pa_nil)))) (pv 3)))) pss_nil)))
  (pss_one (ps_ret (pv 1))))), fun ps P0 H0 σ0 Q ⟨h3, hp⟩ a q => ?_⟩
  have h3 : ps.length ≤ 3 := h3
  have hp : WS.Pays ps := hp
  (try dsimp only [tNext]); refine sq (q_set (R := intR 1) a es_c fun v P1 H1 a1 => ?_)
  (try dsimp only [tNext]); refine sq (q_for (as := ps) (RA := pairR) (X := Unit) (fun _ _ => True) (fun n _ => [some (prsR ps), some (intR (((ps.take n).foldl WS.mstep 1 : Nat) : Int)), none, none]) (fun _ _ => []) a1 (src_list (es_var rfl)) (fun P' H' a' => ⟨(), trivial, a'⟩) (fun n x r hn _ => tgP) (fun B n x r σ P H hn _ a => ?_) fun x σ P H _ a => ?_)
  · have hr : r ∈ ps := List.mem_of_getElem? hn
    have hr1 := hp r hr
    have hpos := (WS.mult_fold (ps.take n) 1 (by decide)).1
    have hf : (ps.take (n + 1)).foldl WS.mstep 1 = WS.mstep ((ps.take n).foldl WS.mstep 1) r := by rw [List.take_add_one, hn, List.foldl_append]; rfl
    generalize (ps.take n).foldl WS.mstep 1 = L at hpos hf a
    (try dsimp only [tNext]); refine q_if a (b := decide (0 < r.2)) (et_test (es_op (es_var (R := intR r.2) rfl) es_c o2_gt)) (fun e P' H' a' => ?_) (fun e P' H' a' => ⟨(), P', trivial, ((a'.drop 2).drop 3).rs ?_⟩)
    · have e : 0 < r.2 := of_decide_eq_true e
      have er : r.2 = ((r.2.toNat : Nat) : Int) := by omega
      have g1 : 0 < Nat.gcd L r.2.toNat := Nat.gcd_pos_of_pos_left _ hpos
      have g2 : Nat.gcd L r.2.toNat ≤ r.2.toNat := Nat.gcd_le_right _ (by omega)
      (try dsimp only [tNext]); refine q_set (R := intR ((WS.mstep L r : Nat) : Int)) a' (es_eqI (i := ((L : Nat) : Int) / ((Nat.gcd L r.2.toNat : Nat) : Int) * r.2) (es_op (es_op (es_var rfl) (es_call (L, r.2.toNat) ?_ trivial) (o2_div ⟨?_, ?_⟩)) (es_var rfl) (o2_mulT ?_)) ?_) fun v2 P2 H2 a2 => ⟨(), P2, trivial, ((a2.drop 2).drop 3).rs ?_⟩
      · exact ea_cons (es_var rfl) (ea_cons (es_eqI (es_var (R := intR r.2) rfl) er) ea_nil)
      · show (0 : Int) < ((Nat.gcd L r.2.toNat : Nat) : Int)
        omega
      · show ((Nat.gcd L r.2.toNat : Nat) : Int) < 1073741824
        omega
      · right
        omega
      · unfold WS.mstep
        rw [if_pos e, Int.natCast_mul, Int.natCast_ediv, ← er]
      · dsimp only
        rw [hf]
        rfl
    · have e : ¬ 0 < r.2 := of_decide_eq_false e
      dsimp only
      rw [hf]
      unfold WS.mstep
      rw [if_neg e]
      rfl
  · (try dsimp only [tNext]); refine q_end a (es_var rfl) rfl rfl (by rw [List.take_length]; exact q)
theorem min_at (f : Nat → Int) {n : Nat} (h : 0 < n) : ∃ i, i < n ∧ ∀ j, j < n → f i ≤ f j := by
  obtain ⟨i, hi, h2⟩ := WS.max_of (fun i => - f i) (List.range n) (fun e => by have := congrArg List.length e; rw [List.length_range] at this; exact absurd this (by simp; omega))
  exact ⟨i, List.mem_range.mp hi, fun j hj => by have := h2 j (List.mem_range.mpr hj); omega⟩
noncomputable abbrev sp_best_kept : Sp := spOf (fun ps : WS.Prs => ps.length ≤ 3 ∧ WS.Pays ps ∧ ∀ q ∈ ps, q.1 < 2 ^ 61) (fun ps => [prsR ps, intR (WS.keepM ps)]) (fun ps => tupR [intR (WS.nd ps), anyR])
theorem ok_best_kept (T : Txt K mg) (d : DefAt K mg "best_kept" s_best_kept) (c_turning : Callee P w K mg base "turning" ["pairs"] 2 sp_turning) (c_common_multiple : Callee P w K mg base "common_multiple" ["pairs"] 2 sp_common_multiple)
    (c_total : Callee P w K mg base "total" ["pairs", "kept"] 3 sp_total) : Callee P w K mg base "best_kept" ["pairs", "least"] 4 sp_best_kept := by
  refine d.ok sc_best_kept (fun _ _ _ _ _ _ us hl => match us, hl with | [_, _], _ => rfl) (fun _ _ => rfl) fun f cdv A outer s H E1 hr => ⟨_, (pss_cons (ps_set (i := 2) sc_best_kept.nd rfl (Or.inl rfl) (pe_callC c_turning (hr.mono (by decide)) (by rfl) (pa_cons (pv 0) pa_nil)))
  (pss_cons (ps_set (i := 3) sc_best_kept.nd rfl (Or.inl rfl) (pe_callC c_common_multiple (hr.mono (by decide)) (by rfl) (pa_cons (pv 0) pa_nil)))
  (pss_cons (ps_set (i := 4) sc_best_kept.nd rfl (Or.inl rfl) (pe_callB (cr_maxUK K rfl rfl) (by rfl) T.max bo_max (pa_cons (pv 1) (pa_cons (pe_op op_uSub (pv 2) (pv 3)) pa_nil))))
  (pss_one (ps_ret (pe_callB (cr_minUK K rfl rfl hr.units) (by rfl) T.min bo_min (pa_cons (pe_lc (own := [("kept", 5)]) (by rfl) sc_best_kept.nd (pi_range2 (by rfl) T.range (pa_cons (pv 4) (pa_cons (pe_op op_uAdd (pe_callB (cr_maxUK K rfl rfl) (by rfl) T.max bo_max (pa_cons (pv 4) (pa_cons (pv 2) pa_nil))) (pv 3)) pa_nil))) (blkOk_by (own := [("kept", 5)]) (N := n_best_kept) (sc := defScope s_best_kept) (by decide +kernel)) (fun _ _ _ _ _ => (pg_name (i := 5) sc_best_kept.nd rfl (Or.inl rfl))) (fun _ _ _ _ _ => pts_nil) (fun _ _ _ _ _ => (pe_tup (pa_cons (pe_callC c_total (hr.mono (by decide)) (by rfl) (pa_cons (pv 0) (pa_cons (pv 5) pa_nil))) (pa_cons (pv 5) pa_nil))))) pa_nil))))))), fun ps P0 H0 σ0 Q ⟨h3, hp, hb⟩ a q => ?_⟩
  have h3 : ps.length ≤ 3 := h3
  have hp : WS.Pays ps := hp
  have hb : ∀ q ∈ ps, q.1 < 2 ^ 61 := hb
  obtain ⟨t, ht, hT⟩ := WS.turnIn_is hp (srt_perm (WS.marks ps)) (srt_up (WS.marks ps))
  have et : WS.turnOf ps = t := WS.turnOf_eq hT
  have hK := WS.keepM_is ps
  have hM := WS.multOf_is ps
  have hL : WS.multOf ps ≤ 729 := by
    have := WS.mult_small ps 1 hp
    have h9 : 9 ^ ps.length ≤ 9 ^ 3 := Nat.pow_le_pow_right (by decide) h3
    unfold WS.multOf
    omega
  have hm0 : 0 ≤ WS.keepM ps := hK.okk.1
  have tb : t < 2 ^ 61 := by
    have hm := (srt_perm (WS.marks ps)).subset (List.mem_of_find?_eq_some ht)
    rcases List.mem_cons.mp hm with e | h
    · rw [e]
      rcases List.mem_cons.mp (WS.topOf_mem ((ps.filter fun q : Int × Int => decide (q.2 = 0)).map fun q : Int × Int => q.1)) with e | h
      · unfold WS.keepM
        rw [e]
        decide
      · obtain ⟨q, hq, e⟩ := List.mem_map.mp h
        unfold WS.keepM
        rw [← e]
        exact hb q (List.mem_filter.mp hq).1
    · obtain ⟨q, hq, e⟩ := List.mem_map.mp h
      rw [← e]
      exact hb q (List.mem_filter.mp hq).1
  have tm := hT.ge
  have Lp := hM.pos
  generalize hLe : WS.multOf ps = L at hM hL Lp
  generalize hme : WS.keepM ps = m at hK hT hm0 tm a
  let lo : Int := max m (t - (L : Int))
  have hlo : 0 ≤ lo ∧ lo ≤ t := by show 0 ≤ max m (t - (L : Int)) ∧ max m (t - (L : Int)) ≤ t; omega
  have hlom : m ≤ lo := by show m ≤ max m (t - (L : Int)); omega
  let n : Nat := (max lo t + (L : Int) - lo).toNat
  have hn : (n : Int) = t + L - lo ∧ n < 100000 ∧ 0 < n := by
    have : t - (L : Int) ≤ lo := by show t - (L : Int) ≤ max m (t - (L : Int)); omega
    show (((max lo t + (L : Int) - lo).toNat : Nat) : Int) = _ ∧ (max lo t + (L : Int) - lo).toNat < 100000 ∧ 0 < (max lo t + (L : Int) - lo).toNat
    omega
  obtain ⟨i, hi, hmin⟩ := min_at (fun i => WS.tot ps (lo + (i : Nat))) hn.2.2
  have need : WS.IsNeed ps (WS.tot ps (lo + (i : Nat))) := WS.need_range hp hK hT hM ⟨lo + (i : Nat), by show lo ≤ _; omega, by omega, rfl⟩ fun k h1 h2 => by
    have h1 : lo ≤ k := h1
    have := hmin (k - lo).toNat (by omega)
    rw [show lo + (((k - lo).toNat : Nat) : Int) = k by omega] at this
    exact this
  have en := WS.nd_eq need
  (try dsimp only [tNext]); refine sq (q_set (R := intR t) a (es_eqI (es_call ps (by walk_at "e") ⟨h3, hp⟩) et) fun v1 P1 H1 a1 => ?_)
  (try dsimp only [tNext]); refine sq (q_set (R := intR ((L : Nat) : Int)) a1 (es_eqI (es_call ps (by walk_at "e") ⟨h3, hp⟩) (by rw [hLe])) fun v2 P2 H2 a2 => ?_)
  (try dsimp only [tNext]); refine sq (q_set (R := intR lo) a2 (es_cb (ea_cons (es_var rfl) (ea_cons (es_op (es_var rfl) (es_var rfl) o2_sub) ea_nil)) oc_max2) fun v3 P3 H3 a3 => ?_)
  (try dsimp only [tNext]); refine q_end a3 (es_cb (ea_cons (es_eq (es_lc0 (as := List.range n) (RA := fun i => intR (lo + ((i : Nat) : Int))) (RB := fun i => pairR (WS.tot ps (lo + ((i : Nat) : Int)), lo + ((i : Nat) : Int))) (src_range2 (lo := lo) (hi := max lo t + (L : Int)) ?_ ⟨⟨by omega, by omega⟩, by omega, by omega⟩) (fun _ _ => tg_name) (by decide) (fun j hj => ?_) (by rw [List.length_range]; omega))
    (R' := lstR (((List.range n).map fun i => (WS.tot ps (lo + ((i : Nat) : Int)), lo + ((i : Nat) : Int))).map pairR)) (by rw [List.map_map]; rfl)) ea_nil) (oc_minP (n := WS.nd ps) ?_ ?_)) rfl rfl (by exact q)
  · exact ea_cons (es_var rfl) (ea_cons (es_op (es_cb (ea_cons (es_var (R := intR lo) rfl) (ea_cons (es_var (R := intR t) rfl) ea_nil)) oc_max2) (es_var rfl) o2_add) ea_nil)
  · have hj := List.mem_range.mp hj
    refine es_tup (ea_cons (es_call (ps, lo + ((j : Nat) : Int)) (by walk_at "e") ⟨h3, hp, fun q hq e => ?_⟩) (ea_cons (es_var rfl) ea_nil)) (by simp)
    have := hK.okk.2 q hq e
    show q.1 ≤ lo + (j : Int)
    omega
  · exact ⟨_, List.mem_map.mpr ⟨i, List.mem_range.mpr hi, rfl⟩, en.symm⟩
  · intro r hr
    obtain ⟨j, hj, rfl⟩ := List.mem_map.mp hr
    rw [en]
    exact hmin j (List.mem_range.mp hj)
noncomputable abbrev sp_needed : Sp := spOf (fun ps : WS.Prs => ps.length ≤ 3 ∧ WS.Pays ps ∧ ∀ q ∈ ps, q.1 < 2 ^ 61) (fun ps => [prsR ps]) (fun ps => tupR [intR (WS.nd ps), anyR])
theorem ok_needed (T : Txt K mg) (d : DefAt K mg "needed" s_needed) (c_told_pairs : Callee P w K mg base "told_pairs" ["pairs"] 1 sp_told_pairs) (c_must_keep : Callee P w K mg base "must_keep" ["pairs"] 1 sp_must_keep)
    (c_best_kept : Callee P w K mg base "best_kept" ["pairs", "least"] 4 sp_best_kept) : Callee P w K mg base "needed" ["pairs"] 5 sp_needed := by
  refine d.ok sc_needed (fun _ _ _ _ _ _ us hl => match us, hl with | [_], _ => rfl) (fun _ _ => rfl) fun f cdv A outer s H E1 hr => ⟨_, (pss_cons (ps_set (i := 1) sc_needed.nd rfl (Or.inl rfl) (pe_callC c_told_pairs (hr.mono (by decide)) (by rfl) (pa_cons (pv 0) pa_nil)))
  (pss_one (ps_ret (pe_callC c_best_kept (hr.mono (by decide)) (by rfl) (pa_cons (pv 1) (pa_cons (pe_callC c_must_keep (hr.mono (by decide)) (by rfl) (pa_cons (pv 1) pa_nil)) pa_nil)))))), fun ps P0 H0 σ0 Q ⟨h3, hp, hb⟩ a q => ?_⟩
  have h3 : ps.length ≤ 3 := h3
  have hp : WS.Pays ps := hp
  have l3 : (WS.told ps).length ≤ 3 := Nat.le_trans (WS.told_len ps) h3
  (try dsimp only [tNext]); refine sq (q_set (R := prsR (WS.told ps)) a (es_call ps (by walk_at "e") h3) fun v1 P1 H1 a1 => ?_)
  (try dsimp only [tNext]); refine q_end a1 (es_call (WS.told ps) (ea_cons (es_var rfl) (ea_cons (es_call (WS.told ps) (by walk_at "e") l3) ea_nil)) ⟨l3, WS.pays_told hp, fun q hq => hb q (List.mem_filter.mp hq).1⟩) rfl rfl (by dsimp only; rw [WS.nd_told hp]; exact q)
def pair1R (q : Int × Int) : RP := tupR [tupR [intR q.1, intR 1], intR q.2]
/-- in 2520 parts -/
noncomputable def top2520 (ps : WS.Prs) : Nat := (WS.turnOf (WS.told ps) * 2520 + WS.parts (WS.turnOf (WS.told ps)) (WS.told ps)).toNat
noncomputable abbrev sp_parts_needed : Sp := spOf (fun ps : WS.Prs => ps.length ≤ 3 ∧ WS.Pays ps) (fun ps => [lstR (ps.map pair1R)]) (fun ps => tupR [intR ((top2520 ps / Nat.gcd (top2520 ps) 2520 : Nat) : Int), intR ((2520 / Nat.gcd (top2520 ps) 2520 : Nat) : Int)])
theorem ok_parts_needed (T : Txt K mg) (d : DefAt K mg "parts_needed" s_parts_needed) (c_common_divisor : Callee P w K mg base "common_divisor" ["one", "other"] 1 sp_common_divisor) (c_turning : Callee P w K mg base "turning" ["pairs"] 2 sp_turning)
    (c_lowest : Callee P w K mg base "lowest" ["top", "bottom"] 2 sp_lowest) : Callee P w K mg base "parts_needed" ["pairs"] 3 sp_parts_needed := by
  refine d.ok sc_parts_needed (fun _ _ _ _ _ _ us hl => match us, hl with | [_], _ => rfl) (fun _ _ => rfl) fun f cdv A outer s H E1 hr => ⟨_, (pss_cons (ps_set (i := 1) sc_parts_needed.nd rfl (Or.inr rfl) pe_int)
  (pss_cons (ps_for PassesOwn.never rfl (pi_listK K rfl (pv 0)) (pg_tupK (n := 2) K rfl rfl (pgs_cons (pg_name (i := 2) sc_parts_needed.nd rfl (Or.inl rfl)) (pgs_cons (pg_name (i := 3) sc_parts_needed.nd rfl (Or.inl rfl)) pgs_nil)))
  (pss_one (ps_if (pt_cmpR op_uIsNot (pv 2) pe_non (nomark _)) (pss_one (ps_set (i := 1) sc_parts_needed.nd rfl (Or.inr rfl) (pe_op (op_uMulTK K rfl) (pe_op op_uDiv (pv 1) (pe_callC c_common_divisor (hr.mono (by decide)) (by rfl) (pa_cons (pv 1) (pa_cons (pe_ix (ix_seqK K rfl) (pv 2) pe_int (fun _ _ => rfl)) pa_nil)))) (pe_ix (ix_seqK K rfl) (pv 2) pe_int (fun _ _ => rfl))))) pss_nil)))
  (pss_cons (ps_setLc (i := 4) (own := [("goal", 2), ("pay", 3)]) (by rfl) sc_parts_needed.nd rfl rfl (sw_true rfl rfl rfl (by decide +kernel)) (pi_listK K rfl (pv 0)) (blkOk_by (own := [("goal", 2), ("pay", 3)]) (N := n_parts_needed) (sc := defScope s_parts_needed) (by decide +kernel)) (fun _ _ _ _ _ => (pg_tupK (n := 2) K rfl rfl (pgs_cons (pg_name (i := 2) sc_parts_needed.nd rfl (Or.inl rfl)) (pgs_cons (pg_name (i := 3) sc_parts_needed.nd rfl (Or.inl rfl)) pgs_nil)))) (fun _ _ _ _ _ => (pts_one (PW.pt (pw_and (pt_cmpR op_uIsNot (pv 2) pe_non (nomark _)) (pw_and1 (pt_cmpR op_uGt (pe_ix (ix_seqK K rfl) (pv 2) pe_int (fun _ _ => rfl)) pe_int (nomark _))))))) (fun _ _ _ _ _ => (pe_tup (pa_cons (pe_op (op_uMulTK K rfl) (pe_ix (ix_seqK K rfl) (pv 2) pe_int (fun _ _ => rfl)) (pe_op op_uDiv (pv 1) (pe_ix (ix_seqK K rfl) (pv 2) pe_int (fun _ _ => rfl)))) (pa_cons (pv 3) pa_nil)))))
  (pss_cons (ps_set (i := 5) sc_parts_needed.nd rfl (Or.inr rfl) (pe_callC c_turning (hr.mono (by decide)) (by rfl) (pa_cons (pv 4) pa_nil)))
  (pss_cons (ps_set (i := 6) sc_parts_needed.nd rfl (Or.inl rfl) (pe_callB (cr_sumUK K rfl rfl) (by rfl) T.sum bo_sum (pa_cons (pe_lc (own := [("goal", 2), ("pay", 3)]) (by rfl) sc_parts_needed.nd (pi_listK K rfl (pv 4)) (blkOk_by (own := [("goal", 2), ("pay", 3)]) (N := n_parts_needed) (sc := defScope s_parts_needed) (by decide +kernel)) (fun _ _ _ _ _ => (pg_tupK (n := 2) K rfl rfl (pgs_cons (pg_name (i := 2) sc_parts_needed.nd rfl (Or.inl rfl)) (pgs_cons (pg_name (i := 3) sc_parts_needed.nd rfl (Or.inl rfl)) pgs_nil)))) (fun _ _ _ _ _ => (pts_one (pt_cmpR op_uGt (pv 2) (pv 5) (nomark _)))) (fun _ _ _ _ _ => (pe_op (op_uMulTK K rfl) (pe_op op_uSub (pv 2) (pv 5)) (pe_op op_uDiv (p_int (by rfl) T.WHOLE) (pv 3))))) pa_nil)))
  (pss_one (ps_ret (pe_callC c_lowest (hr.mono (by decide)) (by rfl) (pa_cons (pe_op op_uAdd (pe_op (op_uMulTK K rfl) (pv 5) (p_int (by rfl) T.WHOLE)) (pv 6)) (pa_cons (pe_op (op_uMulTK K rfl) (p_int (by rfl) T.WHOLE) (pv 1)) pa_nil)))))))))), fun ps P0 H0 σ0 Q ⟨h3, hp⟩ a q => ?_⟩
  have h3 : ps.length ≤ 3 := h3
  have hp : WS.Pays ps := hp
  have l3 : (WS.told ps).length ≤ 3 := Nat.le_trans (WS.told_len ps) h3
  have hpt := WS.pays_told hp
  have hT : ∃ t, WS.Turns (WS.told ps) (WS.keepM (WS.told ps)) t := by
    obtain ⟨t, _, h⟩ := WS.turnIn_is hpt (srt_perm (WS.marks (WS.told ps))) (srt_up (WS.marks (WS.told ps)))
    exact ⟨t, h⟩
  have hTt : WS.Turns (WS.told ps) (WS.keepM (WS.told ps)) (WS.turnOf (WS.told ps)) := by
    obtain ⟨t, h⟩ := hT
    rw [WS.turnOf_eq h]
    exact h
  have hK := WS.keepM_is (WS.told ps)
  have t0 : 0 ≤ WS.turnOf (WS.told ps) := by have := hTt.ge; have := hK.okk.1; omega
  have p0 := WS.parts_nonneg (k := WS.turnOf (WS.told ps)) hpt
  (try dsimp only [tNext]); refine sq (q_set (R := intR 1) a es_c fun v P1 H1 a1 => ?_)
  have tgQ : ∀ {ρ : List (Option RP)} {q : Int × Int}, Tg W0 ρ [] (gTup K 2 (gCons (gName 2) (gCons (gName 3) gNil))) (pair1R q) ((ρ.set 2 (some (tupR [intR q.1, intR 1]))).set 3 (some (intR q.2))) ([2] ++ ([3] ++ [])) := tg_tup (tgs_cons tg_name (tgs_cons tg_name tgs_nil)) rfl
  (try dsimp only [tNext]); refine sq (q_for (as := ps) (RA := pair1R) (X := Unit) (fun _ _ => True) (fun n _ => [some (lstR (ps.map pair1R)), some (intR 1), none, none, none, none, none]) (fun _ _ => []) a1 (src_list (es_var rfl)) (fun P' H' a' => ⟨(), trivial, a'⟩) (fun n x r hn _ => tgQ) (fun B n x r σ P H hn _ a => ?_) fun x σ P H _ a => ?_)
  · (try dsimp only [tNext]); refine q_if a (b := true) (et_test (es_op (es_var (R := tupR _) rfl) es_c o2_isnotT)) (fun e P' H' a' => ?_) (fun e => by cases e)
    (try dsimp only [tNext]); refine q_set (R := intR 1) a' (es_eqI (i := 1 / ((Nat.gcd 1 1 : Nat) : Int) * 1) (es_op (es_op (es_var (R := intR 1) rfl) (es_call (1, 1) (ea_cons (es_var (R := intR 1) rfl) (ea_cons (es_op (es_var (R := tupR [intR r.1, intR 1]) rfl) es_c (o2_ixT (by omega) rfl)) ea_nil)) trivial) (o2_div ⟨by decide, by decide⟩)) (es_op (es_var (R := tupR [intR r.1, intR 1]) rfl) es_c (o2_ixT (by omega) rfl)) (o2_mulT (by left; constructor <;> decide))) (by decide)) fun v2 P2 H2 a2 => ⟨(), P2, trivial, (a2.drop 2).drop 3⟩
  (try dsimp only [tNext]); refine sq (q_set (R := prsR (WS.told ps)) a (es_lc (as := ps) (RA := pair1R) (f := fun q => decide (0 < q.1)) (RB := pairR) (src_list (es_var rfl)) (fun q hq => tgQ) (by decide) (fun q hq => ?_) (fun q hq _ => ?_) (by omega)) fun v2 P2 H2 a2 => ?_)
  · refine et_eq (et_and (a := true) (b := decide (0 < q.1)) (et_test (es_op (es_var (R := tupR [intR q.1, intR 1]) rfl) es_c o2_isnotT)) fun _ => et_test (es_op (es_op (es_var (R := tupR [intR q.1, intR 1]) rfl) es_c (o2_ixT (by omega) rfl)) es_c o2_gt)) (Bool.true_and _)
  · refine es_tup (ea_cons (es_eqI (i := q.1 * (1 / 1)) (es_op (es_op (es_var (R := tupR [intR q.1, intR 1]) rfl) es_c (o2_ixT (by omega) rfl)) (es_op (es_var (R := intR 1) rfl) (es_op (es_var (R := tupR [intR q.1, intR 1]) rfl) es_c (o2_ixT (by omega) rfl)) (o2_div ⟨by decide, by decide⟩)) (o2_mulT (by right; constructor <;> decide))) (by omega)) (ea_cons (es_var rfl) ea_nil)) (by simp)
  (try dsimp only [tNext]); refine sq (q_set (R := intR (WS.turnOf (WS.told ps))) a2 (es_call (WS.told ps) (by walk_at "e") ⟨l3, hpt⟩) fun v3 P3 H3 a3 => ?_)
  (try dsimp only [tNext]); refine sq (q_set (R := intR (WS.parts (WS.turnOf (WS.told ps)) (WS.told ps))) a3 (es_eqI (es_cb (ea_cons (es_eq (es_lc (as := WS.told ps) (RA := pairR) (f := fun q => decide (WS.turnOf (WS.told ps) < q.1)) (RB := fun q => intR ((q.1 - WS.turnOf (WS.told ps)) * (2520 / q.2))) (src_list (es_var rfl)) (fun q hq => tgP) (by decide) (fun q hq => et_test (es_op (es_var (R := intR q.1) rfl) (es_var rfl) o2_gt)) (fun q hq h => ?_) (by omega))
      (R' := lstR ((((WS.told ps).filter fun q => decide (WS.turnOf (WS.told ps) < q.1)).map fun q => (q.1 - WS.turnOf (WS.told ps)) * (2520 / q.2)).map fun n => intR n)) (by rw [List.map_map]; rfl)) ea_nil) oc_sumL) (WS.parts_filter _ _)) fun v4 P4 H4 a4 => ?_)
  · have h : WS.turnOf (WS.told ps) < q.1 := of_decide_eq_true h
    have h0 := WS.pos_of (k := WS.turnOf (WS.told ps)) (hpt q hq) (fun e => by have := hK.okk.2 q hq e; have := hTt.ge; omega) (by omega)
    have h9 := (hpt q hq).2
    have hw := WS.w_pos h0 h9
    refine es_op (es_op (es_var (R := intR q.1) rfl) (es_var rfl) o2_sub) (es_op es_c (es_var (R := intR q.2) rfl) (o2_div ⟨h0, by omega⟩)) (o2_mulT (.inr ⟨by omega, by omega⟩))
  (try dsimp only [tNext]); refine q_end a4 (es_call (top2520 ps, 2520) (ea_cons (es_eqI (es_op (es_op (es_var rfl) es_c (o2_mulT (by right; constructor <;> decide))) (es_var rfl) o2_add) ?_) (ea_cons (es_eqI (es_op es_c (es_var (R := intR 1) rfl) (o2_mulT (by left; constructor <;> decide))) (by rfl)) ea_nil)) ⟨(by decide : 0 < 2520), (by decide : 2520 < 1000000)⟩) rfl rfl (by exact q)
  unfold top2520
  omega
end
end Y
end
section
/-! The defs, part 5: who gains. -/
namespace WS
structure Hs (N : Net) (H : List Nat) : Prop where
  nod : H.Nodup
  lt : ∀ p ∈ H, p < N.length
  cl : ∀ p ∈ H, ∀ s ∈ st N p, s.2 ∈ H
theorem nodup_le {L M : List Nat} (h : L.Nodup) (hM : M.Nodup) (hs : ∀ x ∈ L, x ∈ M) : L.length ≤ M.length := by
  have p : L.Perm (M.filter fun q => decide (q ∈ L)) := by
    refine (List.perm_ext_iff_of_nodup h (List.Nodup.sublist List.filter_sublist hM)).mpr fun q => ?_
    rw [List.mem_filter, decide_eq_true_iff]
    exact ⟨fun m => ⟨hs q m, m⟩, fun m => m.2⟩
  rw [p.length_eq]
  exact List.length_filter_le _ _
theorem hope_hs {N : Net} (ok : NetOk N) : Hs N (hope N) := ⟨List.Nodup.sublist List.filter_sublist List.nodup_range, fun p h => (mem_hope.mp h).1, fun p h s hs => hope_closed ok h hs⟩
end WS
namespace Y
open PySem PySem.Spec L2
open PyProof.Rows (envOfC)
local macro_rules | `(tactic| walk_at "e") => `(tactic| repeat (first
  | exact es_c | exact es_var rfl | exact ea_nil | exact et_yes | with_reducible apply ea_cons | with_reducible apply es_op | with_reducible apply es_cb | with_reducible apply es_un | with_reducible apply es_tup | with_reducible apply es_lst | exact Nat.le_of_ble_eq_true rfl
  | with_reducible apply es_chain | with_reducible apply et_test | with_reducible apply et_B | with_reducible apply et_not | with_reducible apply es_notV
  | exact o2_add | exact o2_sub | exact o2_lt | exact o2_le | exact o2_gt | exact o2_ge | exact o2_eqI | exact o2_neI | exact o1_neg | exact o2_is | exact o2_isnot | exact o2_inDI | exact o2_ninDI | exact o2_inNL | exact o2_inNT | exact o2_ninNL | exact o2_ninNT | exact o2_inL | exact o2_inT | exact o2_ninL | exact o2_ninT | exact o2_eqT | exact o2_eqL
  | exact oc_lenL | exact oc_lenT | exact oc_lenD | exact oc_sumL | exact oc_sumT' | exact oc_max2 | exact oc_min2 | exact oc_sortI | exact oc_tupL | exact oc_int | exact oc_intB | exact oc_abs | exact oc_any | exact oc_all
  | exact o2_div (by constructor <;> omega) | exact o2_mod (by omega) | exact o2_mulT (by first | (left; constructor <;> omega) | (right; constructor <;> omega)) | exact o2_ixL (by omega) rfl | exact o2_ixT (by omega) rfl))
abbrev s_pairs_with : Stmt := top 47
abbrev n_pairs_with : List Str := ["track", "place", "coins", "ahead", "steps", "letter", "pay", "goal"]
theorem sc_pairs_with : FnScope n_pairs_with ["track", "place", "coins", "ahead"] (defScope s_pairs_with) := ⟨rfl, rfl, rfl, by decide +kernel, rfl, by decide +kernel, by decide +kernel⟩
abbrev s_are_enough : Stmt := top 48
abbrev n_are_enough : List Str := ["pairs", "coins", "top", "bottom", "goal", "pay"]
theorem sc_are_enough : FnScope n_are_enough ["pairs", "coins"] (defScope s_are_enough) := ⟨rfl, rfl, rfl, by decide +kernel, rfl, by decide +kernel, by decide +kernel⟩
abbrev s_gaining : Stmt := top 49
abbrev n_gaining : List Str := ["track", "coins", "found", "turn", "changed", "fresh", "place"]
theorem sc_gaining : FnScope n_gaining ["track", "coins"] (defScope s_gaining) := ⟨rfl, rfl, rfl, by decide +kernel, rfl, by decide +kernel, by decide +kernel⟩
abbrev s_raised_by : Stmt := top 50
abbrev n_raised_by : List Str := ["coins", "places", "more", "place"]
theorem sc_raised_by : FnScope n_raised_by ["coins", "places", "more"] (defScope s_raised_by) := ⟨rfl, rfl, rfl, by decide +kernel, rfl, by decide +kernel, by decide +kernel⟩
abbrev s_stays : Stmt := top 51
abbrev n_stays : List Str := ["track", "coins", "places", "more", "found", "place"]
theorem sc_stays : FnScope n_stays ["track", "coins", "places", "more"] (defScope s_stays) := ⟨rfl, rfl, rfl, by decide +kernel, rfl, by decide +kernel, by decide +kernel⟩
abbrev s_greatest_stay : Stmt := top 52
abbrev n_greatest_stay : List Str := ["track", "coins", "places", "low", "high", "middle"]
theorem sc_greatest_stay : FnScope n_greatest_stay ["track", "coins", "places"] (defScope s_greatest_stay) := ⟨rfl, rfl, rfl, by decide +kernel, rfl, by decide +kernel, by decide +kernel⟩
abbrev s_least_by_place : Stmt := top 53
abbrev n_least_by_place : List Str := ["track", "coins", "found", "held", "place"]
theorem sc_least_by_place : FnScope n_least_by_place ["track"] (defScope s_least_by_place) := ⟨rfl, rfl, rfl, by decide +kernel, rfl, by decide +kernel, by decide +kernel⟩
abbrev s_by_place : Stmt := top 54
abbrev n_by_place : List Str := ["track", "found", "place"]
theorem sc_by_place : FnScope n_by_place ["track", "found"] (defScope s_by_place) := ⟨rfl, rfl, rfl, by decide +kernel, rfl, by decide +kernel, by decide +kernel⟩
abbrev s_least_of : Stmt := top 55
abbrev n_least_of : List Str := ["track"]
theorem sc_least_of : FnScope n_least_of ["track"] (defScope s_least_of) := ⟨rfl, rfl, rfl, by decide +kernel, rfl, by decide +kernel, by decide +kernel⟩
abbrev s_least_coins : Stmt := top 56
abbrev n_least_coins : List Str := ["track"]
theorem sc_least_coins : FnScope n_least_coins ["track"] (defScope s_least_coins) := ⟨rfl, rfl, rfl, by decide +kernel, rfl, by decide +kernel, by decide +kernel⟩
theorem parts_bool {top len g T' B' : Int} {c n : Int} (hg : 0 < g) (hT : T' * g = top) (hB : B' * g = 2520) (h1 : top ≤ 2520 * n) (h2 : 2520 * n ≤ top + 2520 * len) : (c * B' < T' → ¬ n ≤ c) ∧ (T' + len * B' ≤ c * B' → n ≤ c) := by
  constructor
  · intro h hn
    have := Int.mul_lt_mul_of_pos_right h hg
    rw [Int.mul_assoc, hB, hT] at this
    omega
  · intro h
    have := Int.mul_le_mul_of_nonneg_right h (Int.le_of_lt hg)
    rw [Int.add_mul, Int.mul_assoc, Int.mul_assoc, hB, hT] at this
    omega
section
variable {P : Program} {w : World} {K : PySem.W.Frag} {mg : Str → Option Value} {base : Heap} {C : Addr}
abbrev ahead (c : Nat → Int) (b : Nat → Bool) (q : Nat) : Int := c q + if b q then 0 else 1
abbrev sp_pairs_with (C : Addr) : Sp := spOf (fun i : WS.Net × Nat × List Nat × (Nat → Int) × (Nat → Bool) => NW i.1 ∧ i.2.1 < i.1.length ∧ ∀ s ∈ WS.st i.1 i.2.1, s.2 ∈ i.2.2.1)
  (fun i => [trackR C i.1, intR ((i.2.1 : Nat) : Int), dctR (tabK i.2.2.1 i.2.2.2.1), setR i.2.2.2.2]) (fun i => prsR (WS.prs i.1 (ahead i.2.2.2.1 i.2.2.2.2) i.2.1))
theorem ok_pairs_with (T : Txt K mg) (d : DefAt K mg "pairs_with" s_pairs_with) (c_steps_of : Callee P w K mg base "steps_of" ["track", "place"] 1 (sp_steps_of C)) : Callee P w K mg base "pairs_with" ["track", "place", "coins", "ahead"] 2 (sp_pairs_with C) := by
  refine d.ok sc_pairs_with (fun _ _ _ _ _ _ us hl => match us, hl with | [_, _, _, _], _ => rfl) (fun _ _ => rfl) fun f cdv A outer s H E1 hr => ⟨_, (pss_cons (ps_set (i := 4) sc_pairs_with.nd rfl (Or.inl rfl) (pe_callC c_steps_of (hr.mono (by decide)) (by rfl) (pa_cons (pv 0) (pa_cons (pv 1) pa_nil))))
  (pss_one (ps_ret (pe_lc (own := [("letter", 5), ("pay", 6), ("goal", 7)]) (by rfl) sc_pairs_with.nd (pi_listK K rfl (pv 4)) (blkOk_by (own := [("letter", 5), ("pay", 6), ("goal", 7)]) (N := n_pairs_with) (sc := defScope s_pairs_with) (by decide +kernel)) (fun _ _ _ _ _ => (pg_tupK (n := 3) K rfl rfl (pgs_cons (pg_name (i := 5) sc_pairs_with.nd rfl (Or.inl rfl)) (pgs_cons (pg_name (i := 6) sc_pairs_with.nd rfl (Or.inl rfl)) (pgs_cons (pg_name (i := 7) sc_pairs_with.nd rfl (Or.inl rfl)) pgs_nil))))) (fun _ _ _ _ _ => pts_nil) (fun _ _ _ _ _ => (pe_tup (pa_cons (pe_op op_uAdd (pe_dget (hu_of hr) (pv 2) (pv 7) (fun _ _ => rfl)) (pe_callTy call_int1 (by rfl) T.int bo_int (pa_cons (pe_cmpR (op_uNotInK K rfl (hu_of hr)) (pv 7) (pv 3) (by rfl)) pa_nil))) (pa_cons (pv 6) pa_nil)))))))), fun ⟨N, p, Hh, cc, b⟩ P0 H0 σ0 Q ⟨hn, hp, hH⟩ a q => ?_⟩
  simp only at hn hp hH
  (try dsimp only [tNext]); refine sq (q_set (R := stR (WS.st N p)) a (es_call (N, p) (by walk_at "e") hp) fun v P1 H1 a1 => ?_)
  (try dsimp only [tNext]); refine q_end a1 (es_eq (es_lc0 (as := WS.st N p) (RA := sR) (RB := fun s => pairR (ahead cc b s.2, s.1)) (src_list (es_var rfl)) (fun s hs => tg_tup (tgs_cons tg_name (tgs_cons tg_name (tgs_cons tg_name tgs_nil))) rfl) (by decide) (fun s hs => ?_) (by have := hn.three p; omega))
    (R' := prsR (WS.prs N (ahead cc b) p)) (by unfold prsR WS.prs; rw [List.map_map]; rfl)) rfl rfl (by exact q)
  have hv : valV (tabK Hh cc) (.inl ((s.2 : Nat) : Int)) = some (V.int (cc s.2)) := by rw [val_map (g := fun p => V.int (cc p)), if_pos (hH s hs)]
  refine es_tup (ea_cons (es_op (es_dgetI (es_var rfl) (es_var rfl) hv) (es_eqI (es_cb (ea_cons (es_op (es_var (R := intR ((s.2 : Nat) : Int)) rfl) (es_var (R := setR b) rfl) o2_ninSet) ea_nil) oc_intB) (j := if b s.2 then 0 else 1) (by cases b s.2 <;> rfl)) o2_add) (ea_cons (es_var rfl) ea_nil)) (by simp)
noncomputable abbrev sp_are_enough : Sp := spOf (fun i : WS.Prs × Int => i.1.length ≤ 3 ∧ WS.Pays i.1 ∧ ∀ q ∈ i.1, q.1 < 2 ^ 61) (fun i => [prsR i.1, intR i.2]) (fun i => blR (decide (WS.nd i.1 ≤ i.2)))
theorem ok_are_enough (T : Txt K mg) (d : DefAt K mg "are_enough" s_are_enough) (c_parts_needed : Callee P w K mg base "parts_needed" ["pairs"] 3 sp_parts_needed) (c_needed : Callee P w K mg base "needed" ["pairs"] 5 sp_needed) :
    Callee P w K mg base "are_enough" ["pairs", "coins"] 6 sp_are_enough := by
  refine d.ok sc_are_enough (fun _ _ _ _ _ _ us hl => match us, hl with | [_, _], _ => rfl) (fun _ _ => rfl) fun f cdv A outer s H E1 hr => ⟨_, (pss_cons (ps_asg (pe_callC c_parts_needed (hr.mono (by decide)) (by rfl) (pa_cons (pe_lc (own := [("goal", 4), ("pay", 5)]) (by rfl) sc_are_enough.nd (pi_listK K rfl (pv 0)) (blkOk_by (own := [("goal", 4), ("pay", 5)]) (N := n_are_enough) (sc := defScope s_are_enough) (by decide +kernel)) (fun _ _ _ _ _ => (pg_tupK (n := 2) K rfl rfl (pgs_cons (pg_name (i := 4) sc_are_enough.nd rfl (Or.inl rfl)) (pgs_cons (pg_name (i := 5) sc_are_enough.nd rfl (Or.inl rfl)) pgs_nil)))) (fun _ _ _ _ _ => pts_nil) (fun _ _ _ _ _ => (pe_tup (pa_cons (pe_tup (pa_cons (pv 4) (pa_cons pe_int pa_nil))) (pa_cons (pv 5) pa_nil))))) pa_nil)) (pg_tupK (n := 2) K rfl rfl (pgs_cons (pg_name (i := 2) sc_are_enough.nd rfl (Or.inl rfl)) (pgs_cons (pg_name (i := 3) sc_are_enough.nd rfl (Or.inl rfl)) pgs_nil))))
  (pss_cons (ps_if (pt_cmpR op_uGt (pv 2) (pe_op (op_uMulTK K rfl) (pv 1) (pv 3)) (nomark _)) (pss_one (ps_ret pe_bl)) pss_nil)
  (pss_one (ps_ret (pe_or (pe_cmpR op_uLe (pe_op op_uAdd (pv 2) (pe_op (op_uMulTK K rfl) (pe_callB (cr_lenK K rfl) (by rfl) T.len bo_len (pa_cons (pv 0) pa_nil)) (pv 3))) (pe_op (op_uMulTK K rfl) (pv 1) (pv 3)) (nomark _)) (pe_one (pe_cmpR op_uLe (pe_ix (ix_seqK K rfl) (pe_callC c_needed (hr.mono (by decide)) (by rfl) (pa_cons (pv 0) pa_nil)) pe_int (fun _ _ => rfl)) (pv 1) (nomark _)))))))), fun ⟨ps, cc⟩ P0 H0 σ0 Q ⟨h3, hp, hb⟩ a q => ?_⟩
  simp only at h3 hp hb
  have hpt := WS.pays_told hp
  obtain ⟨t, _, hT⟩ := WS.turnIn_is hpt (srt_perm (WS.marks (WS.told ps))) (srt_up (WS.marks (WS.told ps)))
  have et : WS.turnOf (WS.told ps) = t := WS.turnOf_eq hT
  have hK := WS.keepM_is (WS.told ps)
  have hN := WS.parts_need hpt hK hT (WS.need_told.mpr (WS.nd_is hp))
  have t0 : 0 ≤ t := by have := hT.ge; have := hK.okk.1; omega
  have p0 := WS.parts_nonneg (k := t) hpt
  have l3 := WS.told_len ps
  have htop : ((top2520 ps : Nat) : Int) = t * 2520 + WS.parts t (WS.told ps) := by
    unfold top2520
    rw [et]
    omega
  have g0 : 0 < Nat.gcd (top2520 ps) 2520 := Nat.gcd_pos_of_pos_right _ (by decide)
  have gT : ((top2520 ps / Nat.gcd (top2520 ps) 2520 : Nat) : Int) * ((Nat.gcd (top2520 ps) 2520 : Nat) : Int) = ((top2520 ps : Nat) : Int) := by
    rw [← Int.natCast_mul, Nat.div_mul_cancel (Nat.gcd_dvd_left _ _)]
  have gB : ((2520 / Nat.gcd (top2520 ps) 2520 : Nat) : Int) * ((Nat.gcd (top2520 ps) 2520 : Nat) : Int) = 2520 := by
    rw [← Int.natCast_mul, Nat.div_mul_cancel (Nat.gcd_dvd_right _ _)]
    rfl
  have bB : 2520 / Nat.gcd (top2520 ps) 2520 ≤ 2520 := Nat.div_le_self _ _
  obtain ⟨f1, f2⟩ := parts_bool (len := (ps.length : Int)) (c := cc) (n := WS.nd ps) (by omega) gT gB (by rw [htop]; omega) (by rw [htop]; omega)
  (try dsimp only [tNext]); refine sq (q_tg (R := tupR [intR ((top2520 ps / Nat.gcd (top2520 ps) 2520 : Nat) : Int), intR ((2520 / Nat.gcd (top2520 ps) 2520 : Nat) : Int)]) a (es_call ps (ea_cons (es_eq (es_lc0 (as := ps) (RA := pairR) (RB := pair1R) (src_list (es_var rfl)) (fun q hq => tgP) (by decide) (fun q hq => ?_) (by omega)) rfl) ea_nil) ⟨h3, hp⟩) (tg_tup (tgs_cons tg_name (tgs_cons tg_name tgs_nil)) rfl) fun σ1 P1 H1 a1 => ?_)
  · exact es_tup (ea_cons (es_tup (ea_cons (es_var rfl) (ea_cons es_c ea_nil)) (by simp)) (ea_cons (es_var rfl) ea_nil)) (by simp)
  dsimp only at a1
  generalize 2520 / Nat.gcd (top2520 ps) 2520 = B' at f1 f2 bB a1
  generalize top2520 ps / Nat.gcd (top2520 ps) 2520 = T' at f1 f2 a1
  have mulB : ∀ x : Int, CMul x ((B' : Nat) : Int) := fun x => .inr ⟨by omega, by omega⟩
  (try dsimp only [tNext]); refine sq (q_if a1 (b := decide (cc * ((B' : Nat) : Int) < ((T' : Nat) : Int))) (et_test (es_op (es_var rfl) (es_op (es_var rfl) (es_var rfl) (o2_mulT (mulB cc))) o2_gt)) (fun e P' H' a' => ?_) fun e P' H' a' => ?_)
  · have e : cc * ((B' : Nat) : Int) < ((T' : Nat) : Int) := of_decide_eq_true e
    (try dsimp only [tNext]); refine q_end a' (es_eqB (i := false) (j := decide (WS.nd ps ≤ cc)) es_c (decide_eq_false (f1 e)).symm) rfl rfl (by exact q)
  · (try dsimp only [tNext]); refine q_end a' (es_eqB (es_orV (a := decide (((T' : Nat) : Int) + ((ps.length : Nat) : Int) * ((B' : Nat) : Int) ≤ cc * ((B' : Nat) : Int))) (b := decide (WS.nd ps ≤ cc)) ?_ fun _ => ?_) (j := decide (WS.nd ps ≤ cc)) ?_) rfl rfl (by exact q)
    · refine es_op (es_op (es_var rfl) (es_op (es_eqI (es_cb (ea_cons (es_var (R := prsR ps) rfl) ea_nil) oc_lenL) (j := ((ps.length : Nat) : Int)) (by rw [List.length_map])) (es_var rfl) (o2_mulT (mulB _))) o2_add) (es_op (es_var rfl) (es_var rfl) (o2_mulT (mulB cc))) o2_le
    · exact es_op (es_op (es_call ps (ea_cons (es_var rfl) ea_nil) ⟨h3, hp, hb⟩) es_c (o2_ixT (by omega) rfl)) (es_var rfl) o2_le
    · by_cases h : ((T' : Nat) : Int) + ((ps.length : Nat) : Int) * ((B' : Nat) : Int) ≤ cc * ((B' : Nat) : Int)
      · rw [decide_eq_true h, decide_eq_true (f2 h)]
        rfl
      · rw [decide_eq_false h, Bool.false_or]
abbrev dS (S : List (Nat × Int)) : List (Key × V) := S.map fun z => ((Sum.inl ((z.1 : Nat) : Int) : Key), V.int z.2)
theorem val_dS (p : Nat) : ∀ S : List (Nat × Int), (valV (dS S) (.inl ((p : Nat) : Int))).isSome = decide (p ∈ S.map (·.1))
  | [] => by simp [valV]
  | z :: S => by
    unfold dS
    rw [List.map_cons, List.map_cons]
    by_cases e : z.1 = p
    · subst e
      rw [valV_pos rfl]
      simp
    · rw [valV_neg (fun h => e (by have := Sum.inl.inj h; omega)), show valV (S.map fun z => ((Sum.inl ((z.1 : Nat) : Int) : Key), V.int z.2)) _ = valV (dS S) _ from rfl, val_dS p S]
      by_cases h : p ∈ S.map (·.1) <;> simp [h, Ne.symm e]
open Classical in
noncomputable abbrev gainB (N : WS.Net) (H : List Nat) (c : Nat → Int) (p : Nat) : Bool := decide (WS.Gain N H c p)
noncomputable abbrev sp_gaining (C : Addr) : Sp := spOf (fun i : WS.Net × List Nat × (Nat → Int) => NW i.1 ∧ WS.Hs i.1 i.2.1 ∧ ∀ p ∈ i.2.1, i.2.2 p < 2 ^ 60) (fun i => [trackR C i.1, dctR (tabK i.2.1 i.2.2)]) (fun i => setR (gainB i.1 i.2.1 i.2.2))
theorem ok_gaining (T : Txt K mg) (d : DefAt K mg "gaining" s_gaining) (c_pairs_with : Callee P w K mg base "pairs_with" ["track", "place", "coins", "ahead"] 2 (sp_pairs_with C)) (c_are_enough : Callee P w K mg base "are_enough" ["pairs", "coins"] 6 sp_are_enough) :
    Callee P w K mg base "gaining" ["track", "coins"] 7 (sp_gaining C) := by
  refine d.ok sc_gaining (fun _ _ _ _ _ _ us hl => match us, hl with | [_, _], _ => rfl) (fun _ _ => rfl) fun f cdv A outer s H E1 hr => ⟨_, (pss_cons (ps_set (i := 2) sc_gaining.nd rfl (Or.inl rfl) pe_dnewK)
  (pss_cons (ps_set (i := 3) sc_gaining.nd rfl (Or.inl rfl) pe_int)
  (pss_cons (ps_set (i := 4) sc_gaining.nd rfl (Or.inl rfl) pe_bl)
  (pss_cons (ps_while PassesOwn.never (pt_val (pv 4))
  (pss_cons (ps_aug (i := 3) sc_gaining.nd rfl (Or.inl rfl) pe_int ip_add)
  (pss_cons (ps_set (i := 5) sc_gaining.nd rfl (Or.inl rfl) (pe_lst pa_nil))
  (pss_cons (ps_lk (ps_for PassesOwn.never rfl (pi_keys (pv 1)) (pg_name (i := 6) sc_gaining.nd rfl (Or.inl rfl))
  (pss_one (ps_if (PW.pt (pw_and (pt_cmpR (op_uNotInK K rfl (hu_of hr)) (pv 6) (pv 2) (by rfl)) (pw_and1 (pt_val (pe_callC c_are_enough (hr.mono (by decide)) (by rfl) (pa_cons (pe_callC c_pairs_with (hr.mono (by decide)) (by rfl) (pa_cons (pv 0) (pa_cons (pv 6) (pa_cons (pv 1) (pa_cons (pv 2) pa_nil))))) (pa_cons (pe_dget (hu_of hr) (pv 1) (pv 6) (fun _ _ => rfl)) pa_nil))))))) (pss_one (ps_expr (pe_bm PySem.F.plainAttrs_list PySem.F.slot_list_append PySem.F.type_list_append mt_append (pv 5) (pa_cons (pv 6) pa_nil)))) pss_nil))))
  (pss_cons (ps_for PassesOwn.never rfl (pi_listK K rfl (pv 5)) (pg_name (i := 6) sc_gaining.nd rfl (Or.inl rfl))
  (pss_one (ps_dput (hu_of hr) (pv 2) (pv 6) (pv 3) rfl)))
  (pss_one (ps_set (i := 4) sc_gaining.nd rfl (Or.inl rfl) (pe_cmpR op_uGt (pe_callB (cr_lenK K rfl) (by rfl) T.len bo_len (pa_cons (pv 5) pa_nil)) pe_int (nomark _)))))))))
  (pss_one (ps_ret (pv 2))))))), fun ⟨N, Hh, cc⟩ P0 H0 σ0 Q ⟨hn, hH, hc⟩ a q => ?_⟩
  simp only at hn hH hc
  have hf := hn.few
  have hl : Hh.length ≤ N.length := WS.nodup_few hH.nod hH.lt
  (try dsimp only [tNext]); refine sq (q_newD a fun pf σ1 P1 H1 a1 => ?_)
  (try dsimp only [tNext]); refine sq (q_set (R := intR 0) a1 es_c fun v2 P2 H2 a2 => ?_)
  (try dsimp only [tNext]); refine sq (q_set (R := blR true) a2 es_c fun v3 P3 H3 a3 => ?_)
  (try dsimp only [tNext]); refine sq (q_while (X := List (Nat × Int) × Int × Bool) (fun x => (x.1.map (·.1)).Nodup ∧ (∀ p ∈ x.1.map (·.1), p ∈ Hh) ∧ (∃ t, ∀ p, decide (p ∈ x.1.map (·.1)) = true ↔ WS.gst N Hh cc t p) ∧ (x.2.2 = false → ∀ p, WS.Gain N Hh cc p ↔ p ∈ x.1.map (·.1)))
    (fun x => (Hh.length - x.1.length) + if x.2.2 then 1 else 0) (fun x => [some (trackR C N), some (dctR (tabK Hh cc)), some (valR (.ref pf)), some (intR x.2.1), some (blR x.2.2), none, none]) (fun x => [(pf, .dct (dS x.1))]) (fun x => x.2.2)
    ⟨([], 0, true), ⟨List.nodup_nil, fun p h => absurd h List.not_mem_nil, ⟨0, fun p => ⟨fun h => by simp at h, fun h => h.elim⟩⟩, fun e => by cases e⟩, a3⟩ (fun x hx => ?_) (fun x σ P H hx hb a => ?_) fun x σ P H hx hb a => ?_)
  · exact et_B (es_var rfl)
  · obtain ⟨S, tu, ch⟩ := x
    obtain ⟨hnd, hsub, ⟨t, ht⟩, hch⟩ := hx
    have hch1 : ch = true := hb
    simp only at hnd hsub ht a ⊢
    let b : Nat → Bool := fun p => decide (p ∈ S.map (·.1))
    have hbS : ∀ p : Nat, (valV (dS S) (.inl ((p : Nat) : Int))).isSome = b p := fun p => val_dS p S
    have lS : S.length ≤ Hh.length := by
      have := WS.nodup_le hnd hH.nod hsub
      rwa [List.length_map] at this
    let cond : Nat → Bool := fun p => !b p && decide (WS.nd (WS.prs N (ahead cc b) p) ≤ cc p)
    (try dsimp only [tNext]); refine sq (q_aug (x := tu) (y := 1) a rfl es_c fun v5 P5 H5 a5 => ?_)
    (try dsimp only [tNext]); refine sq (q_newL (Rs := []) a5 ea_nil (by simp) fun pl σ6 P6 H6 a6 => ?_)
    (try dsimp only [tNext]); refine sq (q_forK (j := 1) (kvs := tabK Hh cc) (X := Unit) (fun _ _ => True) (fun _ _ => [some (trackR C N), some (dctR (tabK Hh cc)), some (valR (.ref pf)), some (intR (tu + 1)), some (blR ch), some (valR (.ref pl)), none]) (fun k _ => [(pl, .lst (natsR ((Hh.take k).filter cond))), (pf, .dct (dS S))])
      a6 rfl rfl (fun c' _ P' H' a' => ⟨(), trivial, a'⟩) (fun k x z hk _ => tg_name) (fun c' hc' rt bk k x z σ P H hk _ a => ?_) fun x σ P H _ a => ?_)
    · rw [List.getElem?_map] at hk
      obtain ⟨p, hp, rfl⟩ := Option.map_eq_some_iff.mp hk
      have hpH : p ∈ Hh := List.mem_of_getElem? hp
      have hpn := hH.lt p hpH
      have hv : valV (tabK Hh cc) (.inl ((p : Nat) : Int)) = some (V.int (cc p)) := by rw [val_map (g := fun p => V.int (cc p)), if_pos hpH]
      have htk := take_filter cond hp
      have a : At c' [some (trackR C N), some (dctR (tabK Hh cc)), some (valR (.ref pf)), some (intR (tu + 1)), some (blR ch), some (valR (.ref pl)), some (intR ((p : Nat) : Int))] [(pl, .lst (natsR ((Hh.take k).filter cond))), (pf, .dct (dS S))] σ P H := a
      have bd : ∀ q ∈ WS.prs N (ahead cc b) p, q.1 < 2 ^ 61 := fun q hq => by
        obtain ⟨s, hs, rfl⟩ := List.mem_map.mp hq
        have := hc _ (hH.cl p hpH s hs)
        show ahead cc b s.2 < 2 ^ 61
        unfold ahead
        split <;> omega
      (try dsimp only [tNext]); refine q_if a (b := cond p) ?_ (fun e P' H' a' => ?_) (fun e P' H' a' => ?_)
      · refine et_lend 2 (j := 1) rfl rfl (et_and (a := !b p) (b := decide (WS.nd (WS.prs N (ahead cc b) p) ≤ cc p)) (et_test (es_op (es_var (R := intR ((p : Nat) : Int)) rfl) (es_is (es_var (R := dctR (dS S)) rfl) (setR_of hbS)) o2_ninSet)) fun _ => et_B (es_call (WS.prs N (ahead cc b) p, cc p)
          (ea_cons (es_call (N, p, Hh, cc, b) (ea_cons (es_var rfl) (ea_cons (es_var rfl) (ea_cons (es_var rfl) (ea_cons (es_is (es_var (R := dctR (dS S)) rfl) (setR_of hbS)) ea_nil)))) ⟨hn, hpn, fun s hs => hH.cl p hpH s hs⟩) (ea_cons (es_dgetI (es_var rfl) (es_var rfl) hv) ea_nil)) ⟨by unfold WS.prs; rw [List.length_map]; exact hn.three p, hn.ok.pays _ p, bd⟩))
      · (try dsimp only [tNext]); refine q_app (i := 5) (j := 0) (R := intR ((p : Nat) : Int)) a' rfl rfl (es_var rfl) ?_ fun P3 H3 a3 => ⟨(), P3, trivial, (a3.drop 6).mo ?_⟩
        · simp only [List.length_map]
          refine Nat.lt_of_le_of_lt (List.length_filter_le _ _) ?_
          rw [List.length_take]
          omega
        · show [(pl, Mo.lst (natsR _ ++ [intR ((p : Nat) : Int)])), (pf, Mo.dct (dS S))] = [(pl, Mo.lst (natsR _)), (pf, Mo.dct (dS S))]
          rw [htk, if_pos e]
          simp [natsR]
      · refine ⟨(), P', trivial, (a'.drop 6).mo ?_⟩
        show [(pl, Mo.lst (natsR _)), (pf, Mo.dct (dS S))] = [(pl, Mo.lst (natsR _)), (pf, Mo.dct (dS S))]
        rw [htk, if_neg (by rw [e]; exact Bool.false_ne_true), List.append_nil]
    have e0 : (tabK Hh cc).length = Hh.length := List.length_map _
    have e1 : Hh.take (tabK Hh cc).length = Hh := by rw [e0, List.take_length]
    have a := a.mo (μ' := [(pl, .lst (natsR (Hh.filter cond))), (pf, .dct (dS S))]) (by rw [e1])
    let F := Hh.filter cond
    have hFn : F.Nodup := List.Nodup.sublist List.filter_sublist hH.nod
    have hFH : ∀ p ∈ F, p ∈ Hh := fun p hp => (List.mem_filter.mp hp).1
    have hFS : ∀ p ∈ F, p ∉ S.map (·.1) := fun p hp => by
      have h1 := (List.mem_filter.mp hp).2
      have h2 : (!b p) = true := ((Bool.and_eq_true _ _).mp h1).1
      cases hb : b p with
      | true => rw [hb] at h2; cases h2
      | false => exact of_decide_eq_false hb
    have lF : F.length ≤ Hh.length := List.length_filter_le _ _
    obtain ⟨P7, a7⟩ := a.freeze (j := 0) (i := 5) rfl rfl
    let S' : Nat → List (Nat × Int) := fun k => S ++ (F.take k).map fun p => (p, tu + 1)
    have hS' : ∀ k, (S' k).map (·.1) = S.map (·.1) ++ F.take k := fun k => by
      show (S ++ (F.take k).map fun p => (p, tu + 1)).map (·.1) = _
      rw [List.map_append, List.map_map]
      congr 1
      exact List.map_id _
    (try dsimp only [tNext]); refine sq (q_for (as := F) (RA := fun p => intR ((p : Nat) : Int)) (X := Unit) (fun _ _ => True) (fun _ _ => [some (trackR C N), some (dctR (tabK Hh cc)), some (valR (.ref pf)), some (intR (tu + 1)), some (blR ch), some (lstR (natsR F)), none]) (fun k _ => [(pf, .dct (dS (S' k)))])
      a7 (src_list (es_var rfl)) (fun P' H' a' => ⟨(), trivial, a'.mo (by show [(pf, Mo.dct (dS S))] = [(pf, Mo.dct (dS (S ++ [])))]; rw [List.append_nil])⟩) (fun k x p hk _ => tg_name) (fun B k x p σ P H hk _ a => ?_) fun x σ P H _ a => ?_)
    · have hpF : p ∈ F := List.mem_of_getElem? hk
      have hnot : p ∉ (S' k).map (·.1) := by
        rw [hS']
        intro h
        rcases List.mem_append.mp h with h | h
        · exact hFS p hpF h
        · exact nodup_at (f := fun p => p) (by rw [List.map_id']; exact hFn) hk h rfl
      have hv : valV (dS (S' k)) (.inl ((p : Nat) : Int)) = none := by
        have := val_dS p (S' k)
        rw [decide_eq_false hnot] at this
        exact Option.isNone_iff_eq_none.mp (by cases z : valV (dS (S' k)) (.inl ((p : Nat) : Int)) with
          | none => rfl
          | some y => rw [z] at this; cases this)
      (try dsimp only [tNext]); refine q_dput (i := 2) (j := 0) (kk := .inl ((p : Nat) : Int)) (x := .int (tu + 1)) a rfl rfl (es_var rfl) (es_var rfl) ?_ fun P3 H3 a3 => ⟨(), P3, trivial, (a3.drop 6).mo ?_⟩
      · show ((S ++ (F.take k).map fun p => (p, tu + 1)).map _).length < 100000
        rw [List.length_map, List.length_append, List.length_map, List.length_take]
        omega
      · show [(pf, Mo.dct (putK (dS (S' k)) (.inl ((p : Nat) : Int)) (.int (tu + 1))))] = [(pf, Mo.dct (dS (S' (k + 1))))]
        rw [putK_new _ hv]
        show [(pf, Mo.dct (dS (S ++ (F.take k).map fun p => (p, tu + 1)) ++ _))] = [(pf, Mo.dct (dS (S ++ (F.take (k + 1)).map fun p => (p, tu + 1))))]
        rw [List.take_add_one, hk]
        simp [dS]
    · have a : At _ _ [(pf, Mo.dct (dS (S' F.length)))] σ P H := a
      have eF := hS' F.length
      rw [List.take_length] at eF
      have lS' : (S' F.length).length = S.length + F.length := by
        show (S ++ (F.take F.length).map fun p => (p, tu + 1)).length = _
        rw [List.length_append, List.length_map, List.take_length]
      have inF : ∀ p, p ∈ F ↔ p ∈ Hh ∧ b p = false ∧ WS.Met (WS.prs N (fun q => cc q + if b q then 0 else 1) p) (cc p) := fun p => by
        rw [List.mem_filter]
        show p ∈ Hh ∧ (!b p && decide (WS.nd (WS.prs N (ahead cc b) p) ≤ cc p)) = true ↔ _
        rw [Bool.and_eq_true, decide_eq_true_iff, WS.nd_le (hn.ok.pays _ p)]
        simp
      have nxt := WS.gst_next ht
      have ht' : ∀ p, decide (p ∈ (S' F.length).map (·.1)) = true ↔ WS.gst N Hh cc (t + 1) p := fun p => by
        rw [nxt p, decide_eq_true_iff, eF, List.mem_append, inF p]
        constructor
        · rintro (h | ⟨h1, _, h2⟩)
          · exact .inl (decide_eq_true h)
          · exact .inr ⟨h1, h2⟩
        · rintro (h | ⟨h1, h2⟩)
          · exact .inl (of_decide_eq_true h)
          · by_cases hb : p ∈ S.map (·.1)
            · exact .inl hb
            · exact .inr ⟨h1, decide_eq_false hb, h2⟩
      (try dsimp only [tNext]); refine q_set (R := blR (decide (0 < F.length))) a (es_eqB (es_op (es_cb (ea_cons (es_var (R := lstR (natsR F)) rfl) ea_nil) oc_lenL) es_c o2_gt) (by rw [List.length_map]; simp)) fun v8 P8 H8 a8 => ⟨(S' F.length, tu + 1, decide (0 < F.length)), P8, ?_, ⟨?_, ?_, ⟨t + 1, ht'⟩, ?_⟩, ((a8.drop 5).drop 6)⟩
      · show (Hh.length - (S' F.length).length) + (if decide (0 < F.length) = true then 1 else 0) < (Hh.length - S.length) + if ch = true then 1 else 0
        have l2 : (S' F.length).length ≤ Hh.length := by
          have hnd2 : ((S' F.length).map (·.1)).Nodup := by
            rw [eF, List.nodup_append]
            exact ⟨hnd, hFn, fun x hx y hy e => hFS y hy (e ▸ hx)⟩
          have := WS.nodup_le hnd2 hH.nod (by rw [eF]; exact fun x hx => (List.mem_append.mp hx).elim (hsub x) (hFH x))
          rwa [List.length_map] at this
        rw [lS'] at l2 ⊢
        rw [hch1, if_pos rfl]
        by_cases h : 0 < F.length
        · rw [decide_eq_true h, if_pos rfl]
          omega
        · rw [decide_eq_false h, if_neg Bool.false_ne_true]
          omega
      · show ((S' F.length).map (·.1)).Nodup
        rw [eF, List.nodup_append]
        exact ⟨hnd, hFn, fun x hx y hy e => hFS y hy (e ▸ hx)⟩
      · show ∀ p ∈ (S' F.length).map (·.1), p ∈ Hh
        rw [eF]
        exact fun x hx => (List.mem_append.mp hx).elim (hsub x) (hFH x)
      · intro h
        have h0 : F = [] := List.eq_nil_of_length_eq_zero (by have := of_decide_eq_false h; omega)
        intro p
        show WS.Gain N Hh cc p ↔ p ∈ (S' F.length).map (·.1)
        rw [WS.gain_iff (t := t) (fun p g => ?_) p, ← ht p, decide_eq_true_iff, eF, h0, List.append_nil]
        have := (ht' p).mpr g
        rw [decide_eq_true_iff, eF, h0, List.append_nil] at this
        exact (ht p).mp (decide_eq_true this)
  · obtain ⟨S, tu, ch⟩ := x
    obtain ⟨hnd, hsub, _, hch⟩ := hx
    have hch := hch hb
    obtain ⟨P', a'⟩ := a.freeze (j := 0) (i := 2) rfl rfl
    (try dsimp only [tNext]); refine q_end a' (es_is (es_var (R := dctR (dS S)) rfl) (setR_of (b := gainB N Hh cc) fun p => ?_)) rfl rfl (by exact q)
    rw [val_dS]
    by_cases h : p ∈ S.map (·.1)
    · rw [decide_eq_true h]
      exact (@decide_eq_true _ (Classical.propDecidable _) ((hch p).mpr h)).symm
    · rw [decide_eq_false h]
      exact (@decide_eq_false _ (Classical.propDecidable _) fun z => h ((hch p).mp z)).symm
end
end Y
end
section
/-! The defs, part 6: the least coins. -/
namespace Y
open PySem PySem.Spec L2
open PyProof.Rows (envOfC)
local macro_rules | `(tactic| walk_at "e") => `(tactic| repeat (first
  | exact es_c | exact es_var rfl | exact ea_nil | exact et_yes | with_reducible apply ea_cons | with_reducible apply es_op | with_reducible apply es_cb | with_reducible apply es_un | with_reducible apply es_tup | with_reducible apply es_lst | exact Nat.le_of_ble_eq_true rfl
  | with_reducible apply es_chain | with_reducible apply et_test | with_reducible apply et_B | with_reducible apply et_not | with_reducible apply es_notV
  | exact o2_add | exact o2_sub | exact o2_lt | exact o2_le | exact o2_gt | exact o2_ge | exact o2_eqI | exact o2_neI | exact o1_neg | exact o2_is | exact o2_isnot | exact o2_inDI | exact o2_ninDI | exact o2_inNL | exact o2_inNT | exact o2_ninNL | exact o2_ninNT | exact o2_inL | exact o2_inT | exact o2_ninL | exact o2_ninT | exact o2_eqT | exact o2_eqL
  | exact oc_lenL | exact oc_lenT | exact oc_lenD | exact oc_sumL | exact oc_sumT' | exact oc_max2 | exact oc_min2 | exact oc_sortI | exact oc_tupL | exact oc_int | exact oc_intB | exact oc_abs | exact oc_any | exact oc_all
  | exact o2_div (by constructor <;> omega) | exact o2_mod (by omega) | exact o2_mulT (by first | (left; constructor <;> omega) | (right; constructor <;> omega)) | exact o2_ixL (by omega) rfl | exact o2_ixT (by omega) rfl))
section
variable {P : Program} {w : World} {K : PySem.W.Frag} {mg : Str → Option Value} {base : Heap} {C : Addr}
def inlN : Key → Nat
  | .inl i => i.toNat
  | .inr _ => 0
theorem inlN_cast (p : Nat) : inlN (.inl ((p : Nat) : Int)) = p := Int.toNat_natCast p
abbrev sp_raised_by : Sp := spOf (fun i : List Nat × (Nat → Int) × List Nat × Int => i.1.Nodup ∧ i.1.length ≤ 12) (fun i => [dctR (tabK i.1 i.2.1), dctR (markK i.2.2.1), intR i.2.2.2]) (fun i => dctR (tabK i.1 (WS.raise i.2.1 i.2.2.1 i.2.2.2)))
theorem ok_raised_by (T : Txt K mg) (d : DefAt K mg "raised_by" s_raised_by) : Callee P w K mg base "raised_by" ["coins", "places", "more"] 1 sp_raised_by := by
  refine d.ok sc_raised_by (fun _ _ _ _ _ _ us hl => match us, hl with | [_, _, _], _ => rfl) (fun _ _ => rfl) fun f cdv A outer s H E1 hr => ⟨_, (pss_one (ps_ret (pe_lk (pe_dc (own := [("place", 3)]) (by rfl) sc_raised_by.nd (pi_keys (pv 0)) (blkOk_by (own := [("place", 3)]) (N := n_raised_by) (sc := defScope s_raised_by) (by decide +kernel)) (fun _ _ _ _ _ => (pg_name (i := 3) sc_raised_by.nd rfl (Or.inl rfl))) (fun _ _ _ _ _ => pts_nil) (fun _ _ _ _ _ => (pv 3)) (fun _ _ _ _ _ => (pe_op op_uAdd (pe_dget (hu_of hr) (pv 0) (pv 3) (fun _ _ => rfl)) (pe_ifExp (pt_cmpR (op_uInK K rfl (hu_of hr)) (pv 3) (pv 1) (by rfl)) (pv 2) pe_int))))))), fun ⟨Hh, cc, T, m⟩ P0 H0 σ0 Q ⟨hn, hl⟩ a q => ?_⟩
  simp only at hn hl
  (try dsimp only [tNext]); refine q_end a (es_eq (es_dcK (i := 0) (kvs := tabK Hh cc) (kf := fun a => a.1) (vf := fun a => V.int (WS.raise cc T m (inlN a.1))) (f := fun _ => true) rfl (fun z hz => tg_name) (by decide) (fun z hz => et_yes) (fun z hz _ => es_var rfl) (fun z hz _ => ?_) ?_ (by rw [List.length_map]; omega)) (R' := dctR (tabK Hh (WS.raise cc T m))) ?_) rfl rfl (by exact q)
  · obtain ⟨p, hp, rfl⟩ := List.mem_map.mp hz
    have hv : valV (tabK Hh cc) (.inl ((p : Nat) : Int)) = some (V.int (cc p)) := by rw [val_map (g := fun p => V.int (cc p)), if_pos hp]
    rw [inlN_cast]
    refine es_eqI (i := cc p + if p ∈ T then m else 0) (es_op (es_dgetI (es_var (R := dctR (tabK Hh cc)) rfl) (es_var (R := intR ((p : Nat) : Int)) rfl) hv) (es_if (b := decide (p ∈ T)) (et_eq (et_test (es_op (es_var (R := intR ((p : Nat) : Int)) rfl) (es_var (R := dctR (markK T)) rfl) o2_inDI)) ?_) (fun e => ?_) fun e => ?_) o2_add) rfl
    · rw [val_map]
      by_cases h : p ∈ T <;> simp [h]
    · rw [if_pos (of_decide_eq_true e)]
      exact es_var rfl
    · rw [if_neg (of_decide_eq_false e)]
      exact es_c
  · rw [List.map_map]
    refine List.Pairwise.map _ (fun x y (h : x ≠ y) => ?_) hn
    show (Sum.inl ((x : Nat) : Int) : Key) ≠ Sum.inl ((y : Nat) : Int)
    intro e
    exact h (by have := Sum.inl.inj e; omega)
  · rw [List.filter_eq_self.mpr fun _ _ => rfl, List.map_map]
    rfl
open Classical in
noncomputable abbrev staysB (N : WS.Net) (H : List Nat) (c : Nat → Int) (T : List Nat) (m : Int) : Bool := decide (WS.Stays N H c T m)
noncomputable abbrev sp_stays (C : Addr) : Sp := spOf (fun i : WS.Net × List Nat × (Nat → Int) × List Nat × Int => NW i.1 ∧ WS.Hs i.1 i.2.1 ∧ i.2.2.2.1.length ≤ 12 ∧ ∀ p ∈ i.2.1, WS.raise i.2.2.1 i.2.2.2.1 i.2.2.2.2 p < 2 ^ 60)
  (fun i => [trackR C i.1, dctR (tabK i.2.1 i.2.2.1), dctR (markK i.2.2.2.1), intR i.2.2.2.2]) (fun i => blR (staysB i.1 i.2.1 i.2.2.1 i.2.2.2.1 i.2.2.2.2))
theorem ok_stays (T : Txt K mg) (d : DefAt K mg "stays" s_stays) (c_raised_by : Callee P w K mg base "raised_by" ["coins", "places", "more"] 1 sp_raised_by) (c_gaining : Callee P w K mg base "gaining" ["track", "coins"] 7 (sp_gaining C)) :
    Callee P w K mg base "stays" ["track", "coins", "places", "more"] 8 (sp_stays C) := by
  refine d.ok sc_stays (fun _ _ _ _ _ _ us hl => match us, hl with | [_, _, _, _], _ => rfl) (fun _ _ => rfl) fun f cdv A outer s H E1 hr => ⟨_, (pss_cons (ps_set (i := 4) sc_stays.nd rfl (Or.inr rfl) (pe_callC c_gaining (hr.mono (by decide)) (by rfl) (pa_cons (pv 0) (pa_cons (pe_callC c_raised_by (hr.mono (by decide)) (by rfl) (pa_cons (pv 1) (pa_cons (pv 2) (pa_cons (pv 3) pa_nil)))) pa_nil))))
  (pss_one (ps_ret (pe_not (pe_callB (cr_anyK K rfl rfl) (by rfl) T.any bo_any (pa_cons (pe_lk (pe_lc (own := [("place", 5)]) (by rfl) sc_stays.nd (pi_keys (pv 2)) (blkOk_by (own := [("place", 5)]) (N := n_stays) (sc := defScope s_stays) (by decide +kernel)) (fun _ _ _ _ _ => (pg_name (i := 5) sc_stays.nd rfl (Or.inl rfl))) (fun _ _ _ _ _ => pts_nil) (fun _ _ _ _ _ => (pe_cmpR (op_uInK K rfl (hu_of hr)) (pv 5) (pv 4) (by rfl))))) pa_nil)))))), fun ⟨N, Hh, cc, T, m⟩ P0 H0 σ0 Q ⟨hn, hH, hT, hb⟩ a q => ?_⟩
  simp only at hn hH hT hb
  have hl : Hh.length ≤ N.length := WS.nodup_few hH.nod hH.lt
  have hf := hn.few
  (try dsimp only [tNext]); refine sq (q_set (R := setR (gainB N Hh (WS.raise cc T m))) a (es_call (N, Hh, WS.raise cc T m) (ea_cons (es_var rfl) (ea_cons (es_call (Hh, cc, T, m) (by walk_at "e") ⟨hH.nod, by show Hh.length ≤ 12; omega⟩) ea_nil)) ⟨hn, hH, hb⟩) fun v P1 H1 a1 => ?_)
  (try dsimp only [tNext]); refine q_end a1 (es_eqB (es_notV (es_cb (ea_cons (es_eq (es_lcK (i := 2) (kvs := markK T) (RB := fun a => blR (gainB N Hh (WS.raise cc T m) (inlN a.1))) (f := fun _ => true) rfl (fun z hz => tg_name) (by decide) (fun z hz => et_yes) (fun z hz _ => ?_) (by rw [List.length_map]; omega))
    (R' := lstR ((T.map (gainB N Hh (WS.raise cc T m))).map fun b => blR b)) ?_) ea_nil) oc_any)) ?_) rfl rfl (by exact q)
  · obtain ⟨p, hp, rfl⟩ := List.mem_map.mp hz
    rw [inlN_cast]
    exact es_op (es_var (R := intR ((p : Nat) : Int)) rfl) (es_var rfl) o2_inSet
  · rw [List.filter_eq_self.mpr fun _ _ => rfl, List.map_map, List.map_map]
    rfl
  · show _ = staysB N Hh cc T m
    by_cases h : WS.Stays N Hh cc T m
    · rw [show staysB N Hh cc T m = true from @decide_eq_true _ (Classical.propDecidable _) h]
      have : (T.map (gainB N Hh (WS.raise cc T m))).any id = false := by
        rw [List.any_eq_false]
        intro b hb
        obtain ⟨p, hp, rfl⟩ := List.mem_map.mp hb
        have := h p hp
        simp [gainB, this]
      rw [this]
      rfl
    · rw [show staysB N Hh cc T m = false from @decide_eq_false _ (Classical.propDecidable _) h]
      have : (T.map (gainB N Hh (WS.raise cc T m))).any id = true := by
        refine Classical.byContradiction fun hne => h fun p hp hg => hne ?_
        rw [List.any_eq_true]
        exact ⟨_, List.mem_map.mpr ⟨p, hp, rfl⟩, @decide_eq_true _ (Classical.propDecidable _) hg⟩
      rw [this]
      rfl
abbrev stayP (N : WS.Net) (H : List Nat) (c : Nat → Int) (T : List Nat) (m : Int) : Prop := 0 ≤ m ∧ WS.Stays N H c T m
structure GsOk (N : WS.Net) (H : List Nat) (c : Nat → Int) (T : List Nat) : Prop where
  nw : NW N
  hs : WS.Hs N H
  low : WS.Low N H c
  ne : T ≠ []
  sub : ∀ p ∈ T, p ∈ H
  few : T.length ≤ 12
  zero : WS.Stays N H c T 0
  tab : ∃ d, WS.Tab N H d ∧ ∀ p, d p ≤ 2 ^ 50
theorem GsOk.small {N : WS.Net} {H : List Nat} {c : Nat → Int} {T : List Nat} (g : GsOk N H c T) {m : Int} (S : WS.Stays N H c T m) : m < 2 ^ 50 := by
  obtain ⟨d, hd, hb⟩ := g.tab
  obtain ⟨p, hp⟩ := List.exists_mem_of_ne_nil _ g.ne
  have h1 := WS.stay_below g.nw.ok g.hs.cl g.low g.sub S hd p hp
  have h2 := g.low.nn p (g.sub p hp)
  have h3 := hb p
  omega
theorem GsOk.cap {N : WS.Net} {H : List Nat} {c : Nat → Int} {T : List Nat} (g : GsOk N H c T) {m : Int} (h : m ≤ 2 ^ 52) : ∀ p ∈ H, WS.raise c T m p < 2 ^ 60 := fun p hp => by
  obtain ⟨d, hd, hb⟩ := g.tab
  have h1 := g.low.le d hd p hp
  have h2 := hb p
  unfold WS.raise
  split <;> omega
abbrev sp_greatest_stay (C : Addr) : Sp := spOf (fun i : WS.Net × List Nat × (Nat → Int) × List Nat => GsOk i.1 i.2.1 i.2.2.1 i.2.2.2) (fun i => [trackR C i.1, dctR (tabK i.2.1 i.2.2.1), dctR (markK i.2.2.2)]) (fun i => oneR (stayP i.1 i.2.1 i.2.2.1 i.2.2.2) fun m => intR m)
theorem ok_greatest_stay (T : Txt K mg) (d : DefAt K mg "greatest_stay" s_greatest_stay) (c_stays : Callee P w K mg base "stays" ["track", "coins", "places", "more"] 8 (sp_stays C)) : Callee P w K mg base "greatest_stay" ["track", "coins", "places"] 9 (sp_greatest_stay C) := by
  refine d.ok sc_greatest_stay (fun _ _ _ _ _ _ us hl => match us, hl with | [_, _, _], _ => rfl) (fun _ _ => rfl) fun f cdv A outer s H E1 hr => ⟨_, (pss_cons (ps_set (i := 3) sc_greatest_stay.nd rfl (Or.inl rfl) pe_int)
  (pss_cons (ps_set (i := 4) sc_greatest_stay.nd rfl (Or.inl rfl) pe_int)
  (pss_cons (ps_while PassesOwn.never (pt_val (pe_callC c_stays (hr.mono (by decide)) (by rfl) (pa_cons (pv 0) (pa_cons (pv 1) (pa_cons (pv 2) (pa_cons (pv 4) pa_nil))))))
  (pss_cons (ps_set (i := 3) sc_greatest_stay.nd rfl (Or.inl rfl) (pv 4))
  (pss_one (ps_set (i := 4) sc_greatest_stay.nd rfl (Or.inl rfl) (pe_op (op_uMulTK K rfl) pe_int (pv 4))))))
  (pss_cons (ps_while PassesOwn.never (pt_cmpR op_uGt (pe_op op_uSub (pv 4) (pv 3)) pe_int (nomark _))
  (pss_cons (ps_set (i := 5) sc_greatest_stay.nd rfl (Or.inl rfl) (pe_op op_uDiv (pe_op op_uAdd (pv 3) (pv 4)) pe_int))
  (pss_one (ps_if (pt_val (pe_callC c_stays (hr.mono (by decide)) (by rfl) (pa_cons (pv 0) (pa_cons (pv 1) (pa_cons (pv 2) (pa_cons (pv 5) pa_nil)))))) (pss_one (ps_set (i := 3) sc_greatest_stay.nd rfl (Or.inl rfl) (pv 5))) (pss_one (ps_set (i := 4) sc_greatest_stay.nd rfl (Or.inl rfl) (pv 5)))))))
  (pss_one (ps_ret (pv 3))))))), fun ⟨N, Hh, cc, T⟩ P0 H0 σ0 Q g a q => ?_⟩
  have g : GsOk N Hh cc T := g
  (try dsimp only [tNext]); refine sq (q_set (R := intR 0) a es_c fun v1 P1 H1 a1 => ?_)
  (try dsimp only [tNext]); refine sq (q_set (R := intR 1) a1 es_c fun v2 P2 H2 a2 => ?_)
  (try dsimp only [tNext]); refine sq (q_while (X := Int × Int) (fun x => 0 ≤ x.1 ∧ x.1 < x.2 ∧ x.2 ≤ 2 * x.1 + 1 ∧ WS.Stays N Hh cc T x.1) (fun x => (2 ^ 50 - x.1).toNat) (fun x => [some (trackR C N), some (dctR (tabK Hh cc)), some (dctR (markK T)), some (intR x.1), some (intR x.2), none]) (fun _ => []) (fun x => staysB N Hh cc T x.2)
    ⟨(0, 1), ⟨by decide, by decide, by decide, g.zero⟩, a2⟩ (fun x hx => ?_) (fun x σ P H hx hb a => ?_) fun x σ P H hx hb a => ?_)
  · obtain ⟨h1, h2, h3, h4⟩ := hx
    have := g.small h4
    exact et_B (es_call (N, Hh, cc, T, x.2) (by walk_at "e") ⟨g.nw, g.hs, g.few, g.cap (m := x.2) (by omega)⟩)
  · obtain ⟨h1, h2, h3, h4⟩ := hx
    have h5 := g.small h4
    have h6 : WS.Stays N Hh cc T x.2 := @of_decide_eq_true _ (Classical.propDecidable _) hb
    have h7 := g.small h6
    (try dsimp only [tNext]); refine sq (q_set (R := intR x.2) a (es_var rfl) fun v3 P3 H3 a3 => ?_)
    (try dsimp only [tNext]); refine q_set (R := intR (2 * x.2)) a3 (es_op es_c (es_var rfl) (o2_mulT (by left; constructor <;> decide))) fun v4 P4 H4 a4 => ⟨(x.2, 2 * x.2), P4, ?_, ⟨by dsimp only; omega, by dsimp only; omega, by dsimp only; omega, h6⟩, a4⟩
    dsimp only
    omega
  · obtain ⟨h1, h2, h3, h4⟩ := hx
    have h5 := g.small h4
    (try dsimp only [tNext]); refine sq (q_while (X := Int × Int) (fun x => 0 ≤ x.1 ∧ x.1 < x.2 ∧ x.2 ≤ 2 ^ 52 ∧ WS.Stays N Hh cc T x.1) (fun x => (x.2 - x.1).toNat) (fun x => [some (trackR C N), some (dctR (tabK Hh cc)), some (dctR (markK T)), some (intR x.1), some (intR x.2), none]) (fun _ => []) (fun x => decide (1 < x.2 - x.1))
      ⟨x, ⟨h1, h2, by omega, h4⟩, a⟩ (fun x hx => ?_) (fun x σ P H hx hb a => ?_) fun x σ P H hx hb a => ?_)
    · walk_at "e"
    · obtain ⟨h1, h2, h3, h4⟩ := hx
      have hb : 1 < x.2 - x.1 := of_decide_eq_true hb
      (try dsimp only [tNext]); refine sq (q_set (R := intR ((x.1 + x.2) / 2)) a (by walk_at "e") fun v3 P3 H3 a3 => ?_)
      (try dsimp only [tNext]); refine q_if a3 (b := staysB N Hh cc T ((x.1 + x.2) / 2)) (et_B (es_call (N, Hh, cc, T, (x.1 + x.2) / 2) (by walk_at "e") ⟨g.nw, g.hs, g.few, g.cap (m := (x.1 + x.2) / 2) (by omega)⟩)) (fun e P' H' a' => ?_) (fun e P' H' a' => ?_)
      · (try dsimp only [tNext]); refine q_set (R := intR ((x.1 + x.2) / 2)) a' (es_var rfl) fun v4 P4 H4 a4 => ⟨((x.1 + x.2) / 2, x.2), P4, ?_, ⟨by dsimp only; omega, by dsimp only; omega, h3, @of_decide_eq_true _ (Classical.propDecidable _) e⟩, a4.drop 5⟩
        dsimp only
        omega
      · (try dsimp only [tNext]); refine q_set (R := intR ((x.1 + x.2) / 2)) a' (es_var rfl) fun v4 P4 H4 a4 => ⟨(x.1, (x.1 + x.2) / 2), P4, ?_, ⟨h1, by dsimp only; omega, by dsimp only; omega, h4⟩, a4.drop 5⟩
        dsimp only
        omega
    · obtain ⟨h1, h2, h3, h4⟩ := hx
      (try dsimp only [tNext]); refine q_end a (es_one (Pr := stayP N Hh cc T) (f := fun m => intR m) x.1 ⟨h1, h4⟩ (es_var rfl)) rfl rfl (by exact q)
end
end Y
end
section
/-! The defs, part 7: the least coins. -/
namespace Y
open PySem PySem.Spec L2
open PyProof.Rows (envOfC)
local macro_rules | `(tactic| walk_at "e") => `(tactic| repeat (first
  | exact es_c | exact es_var rfl | exact ea_nil | exact et_yes | with_reducible apply ea_cons | with_reducible apply es_op | with_reducible apply es_cb | with_reducible apply es_un | with_reducible apply es_tup | with_reducible apply es_lst | exact Nat.le_of_ble_eq_true rfl
  | with_reducible apply es_chain | with_reducible apply et_test | with_reducible apply et_B | with_reducible apply et_not | with_reducible apply es_notV
  | exact o2_add | exact o2_sub | exact o2_lt | exact o2_le | exact o2_gt | exact o2_ge | exact o2_eqI | exact o2_neI | exact o1_neg | exact o2_is | exact o2_isnot | exact o2_inDI | exact o2_ninDI | exact o2_inNL | exact o2_inNT | exact o2_ninNL | exact o2_ninNT | exact o2_inL | exact o2_inT | exact o2_ninL | exact o2_ninT | exact o2_eqT | exact o2_eqL
  | exact oc_lenL | exact oc_lenT | exact oc_lenD | exact oc_sumL | exact oc_sumT' | exact oc_max2 | exact oc_min2 | exact oc_sortI | exact oc_tupL | exact oc_int | exact oc_intB | exact oc_abs | exact oc_any | exact oc_all
  | exact o2_div (by constructor <;> omega) | exact o2_mod (by omega) | exact o2_mulT (by first | (left; constructor <;> omega) | (right; constructor <;> omega)) | exact o2_ixL (by omega) rfl | exact o2_ixT (by omega) rfl))
section
variable {P : Program} {w : World} {K : PySem.W.Frag} {mg : Str → Option Value} {base : Heap} {C : Addr}
noncomputable abbrev sp_least_by_place (C : Addr) : Sp := spOf (fun N : WS.Net => NW N ∧ (WS.hope N).length ≤ 4) (fun N => [trackR C N]) (fun N => dctR (tabK (WS.hope N) (WS.leastC N)))
theorem hope_cap {N : WS.Net} (hn : NW N) (h4 : (WS.hope N).length ≤ 4) : ∃ d, WS.Tab N (WS.hope N) d ∧ ∀ p, d p ≤ 2 ^ 50 := by
  obtain ⟨d, h1, h2⟩ := WS.hope_table hn.ok hn.three
  refine ⟨d, h2, fun p => Int.le_trans (h1 p).2 ?_⟩
  have key : ∀ n, n ≤ 4 → WS.most n ≤ 2 ^ 50 := fun n h => by
    match n, h with
    | 0, _ => decide
    | 1, _ => decide
    | 2, _ => decide
    | 3, _ => decide
    | 4, _ => decide
  exact key _ h4
theorem ok_least_by_place (T : Txt K mg) (d : DefAt K mg "least_by_place" s_least_by_place) (c_hopeful_places : Callee P w K mg base "hopeful_places" ["track"] 5 (sp_hopeful_places C)) (c_gaining : Callee P w K mg base "gaining" ["track", "coins"] 7 (sp_gaining C))
    (c_raised_by : Callee P w K mg base "raised_by" ["coins", "places", "more"] 1 sp_raised_by) (c_greatest_stay : Callee P w K mg base "greatest_stay" ["track", "coins", "places"] 9 (sp_greatest_stay C)) : Callee P w K mg base "least_by_place" ["track"] 10 (sp_least_by_place C) := by
  refine d.ok sc_least_by_place (fun _ _ _ _ _ _ us hl => match us, hl with | [_], _ => rfl) (fun _ _ => rfl) fun f cdv A outer s H E1 hr => ⟨_, (pss_cons (ps_setDc (i := 1) (own := [("place", 4)]) (by rfl) sc_least_by_place.nd rfl rfl (sw_trueD rfl rfl rfl (by decide +kernel)) (pi_tupK K rfl (pe_callC c_hopeful_places (hr.mono (by decide)) (by rfl) (pa_cons (pv 0) pa_nil))) (blkOk_by (own := [("place", 4)]) (N := n_least_by_place) (sc := defScope s_least_by_place) (by decide +kernel)) (fun _ _ _ _ _ => (pg_name (i := 4) sc_least_by_place.nd rfl (Or.inl rfl))) (fun _ _ _ _ _ => pts_nil) (fun _ _ _ _ _ => (pv 4)) (fun _ _ _ _ _ => pe_int))
  (pss_one (ps_while PassesOwn.never (pt_val pe_bl)
  (pss_cons (ps_set (i := 2) sc_least_by_place.nd rfl (Or.inr rfl) (pe_callC c_gaining (hr.mono (by decide)) (by rfl) (pa_cons (pv 0) (pa_cons (pv 1) pa_nil))))
  (pss_cons (ps_lk (ps_setDc (i := 3) (own := [("place", 4)]) (by rfl) sc_least_by_place.nd rfl rfl (sw_trueD rfl rfl rfl (by decide +kernel)) (pi_keys (pv 1)) (blkOk_by (own := [("place", 4)]) (N := n_least_by_place) (sc := defScope s_least_by_place) (by decide +kernel)) (fun _ _ _ _ _ => (pg_name (i := 4) sc_least_by_place.nd rfl (Or.inl rfl))) (fun _ _ _ _ _ => (pts_one (pt_cmpR (op_uNotInK K rfl (hu_of hr)) (pv 4) (pv 2) (by rfl)))) (fun _ _ _ _ _ => (pv 4)) (fun _ _ _ _ _ => pe_bl)))
  (pss_cons (ps_if (pt_cmpR (op_uEqK K rfl hr.units) (pe_callB (cr_lenK K rfl) (by rfl) T.len bo_len (pa_cons (pv 3) pa_nil)) pe_int (nomark _)) (pss_one (ps_ret (pv 1))) pss_nil)
  (pss_one (ps_set (i := 1) sc_least_by_place.nd rfl (Or.inl rfl) (pe_callC c_raised_by (hr.mono (by decide)) (by rfl) (pa_cons (pv 1) (pa_cons (pv 3) (pa_cons (pe_op op_uAdd (pe_callC c_greatest_stay (hr.mono (by decide)) (by rfl) (pa_cons (pv 0) (pa_cons (pv 1) (pa_cons (pv 3) pa_nil)))) pe_int) pa_nil)))))))))))), fun N P0 H0 σ0 Q ⟨hn, h4⟩ a q => ?_⟩
  have hn : NW N := hn
  have h4 : (WS.hope N).length ≤ 4 := h4
  have hH := WS.hope_hs hn.ok
  obtain ⟨d0, hd, hb⟩ := hope_cap hn h4
  have inj : ∀ {Hh : List Nat}, Hh.Nodup → (Hh.map fun p => (Sum.inl ((p : Nat) : Int) : Key)).Nodup := fun {Hh} h => List.Pairwise.map _ (fun x y (h : x ≠ y) => by
    show (Sum.inl ((x : Nat) : Int) : Key) ≠ Sum.inl ((y : Nat) : Int)
    intro e
    exact h (by have := Sum.inl.inj e; omega)) h
  (try dsimp only [tNext]); refine sq (q_set (R := dctR (tabK (WS.hope N) fun _ => 0)) a (es_eq (es_dc (as := WS.hope N) (RA := fun p => intR ((p : Nat) : Int)) (kf := fun p => (Sum.inl ((p : Nat) : Int) : Key)) (vf := fun _ => V.int 0) (f := fun _ => true) (src_tup (es_call N (by walk_at "e") hn)) (fun _ _ => tg_name) (by decide) (fun _ _ => et_yes) (fun p _ _ => es_var rfl) (fun p _ _ => es_c) (inj hH.nod) (by omega)) ?_) fun v1 P1 H1 a1 => ?_)
  · rw [List.filter_eq_self.mpr fun _ _ => rfl]
  (try dsimp only [tNext]); refine q_while (X := Nat → Int) (fun c => WS.Low N (WS.hope N) c) (fun c => WS.gap (WS.hope N) d0 c) (fun c => [some (trackR C N), some (dctR (tabK (WS.hope N) c)), none, none, none]) (fun _ => []) (fun _ => true)
    ⟨fun _ => 0, ⟨fun _ _ => Int.le_refl _, fun b hb p hp => WS.tab_nonneg hn.ok hb p hp⟩, a1⟩ (fun c _ => et_B es_c) (fun c σ P H hL _ a => ?_) fun c σ P H _ hb _ => by cases hb
  have cap : ∀ p ∈ WS.hope N, c p < 2 ^ 60 := fun p hp => by
    have := hL.le d0 hd p hp
    have := hb p
    omega
  let T := (WS.hope N).filter fun p => !gainB N (WS.hope N) c p
  have hT : ∀ p, p ∈ T ↔ p ∈ WS.hope N ∧ ¬ WS.Gain N (WS.hope N) c p := fun p => by
    rw [List.mem_filter]
    show _ ∧ (!gainB N (WS.hope N) c p) = true ↔ _
    by_cases g : WS.Gain N (WS.hope N) c p
    · have : gainB N (WS.hope N) c p = true := @decide_eq_true _ (Classical.propDecidable _) g
      rw [this]
      simp [g]
    · have : gainB N (WS.hope N) c p = false := @decide_eq_false _ (Classical.propDecidable _) g
      rw [this]
      simp [g]
  have lT : T.length ≤ (WS.hope N).length := List.length_filter_le _ _
  (try dsimp only [tNext]); refine sq (q_set (R := setR (gainB N (WS.hope N) c)) a (es_call (N, WS.hope N, c) (by walk_at "e") ⟨hn, hH, cap⟩) fun v2 P2 H2 a2 => ?_)
  (try dsimp only [tNext]); refine sq (q_setLk (R := dctR (markK T)) a2 (es_eq (es_dcK (i := 1) (kvs := tabK (WS.hope N) c) (kf := fun a => a.1) (vf := fun _ => V.bl true) (f := fun a => !gainB N (WS.hope N) c (inlN a.1)) rfl (fun z hz => tg_name) (by decide) (fun z hz => ?_) (fun z hz _ => es_var rfl) (fun z hz _ => es_c) (by rw [List.map_map]; exact inj hH.nod) (by rw [List.length_map]; omega)) ?_) fun v3 P3 H3 a3 => ?_)
  · obtain ⟨p, hp, rfl⟩ := List.mem_map.mp hz
    rw [inlN_cast]
    exact et_test (es_op (es_var (R := intR ((p : Nat) : Int)) rfl) (es_var rfl) o2_ninSet)
  · rw [List.filter_map, List.map_map]
    rfl
  (try dsimp only [tNext]); refine sq (q_if a3 (b := decide (((T.length : Nat) : Int) = 0)) (et_test (es_op (es_eqI (es_cb (ea_cons (es_var (R := dctR (markK T)) rfl) ea_nil) oc_lenD) (j := ((T.length : Nat) : Int)) (by rw [List.length_map])) es_c o2_eqI)) (fun e P' H' a' => ?_) fun e P' H' a' => ?_)
  · have e : T = [] := List.eq_nil_of_length_eq_zero (by have := of_decide_eq_true e; omega)
    have lst : WS.Least N (WS.hope N) c := ⟨fun p hp => Classical.byContradiction fun g => List.not_mem_nil (e ▸ (hT p).mpr ⟨hp, g⟩), hL.le⟩
    (try dsimp only [tNext]); refine q_end a' (es_eq (es_var (R := dctR (tabK (WS.hope N) c)) rfl) (R' := dctR (tabK (WS.hope N) (WS.leastC N))) ?_) rfl rfl (by exact q)
    congr 1
    exact List.map_congr_left fun p hp => by rw [WS.leastC_eq lst p hp]
  · have e : T ≠ [] := fun z => by
      have := of_decide_eq_false e
      rw [z] at this
      exact this rfl
    have sub : ∀ p ∈ T, p ∈ WS.hope N := fun p hp => ((hT p).mp hp).1
    have g : GsOk N (WS.hope N) c T := ⟨hn, hH, hL, e, sub, by omega, fun p hp gg => by
      have : ∀ p ∈ WS.hope N, WS.raise c T 0 p = c p := fun p _ => by unfold WS.raise; split <;> omega
      exact ((hT p).mp hp).2 ((WS.gain_congr hn.ok hH.cl this p).mp gg), ⟨d0, hd, hb⟩⟩
    (try dsimp only [tNext]); refine q_setOne (Pr := stayP N (WS.hope N) c T) (f := fun m => dctR (tabK (WS.hope N) (WS.raise c T (m + 1)))) a' (es_callX (Rs := [dctR (tabK (WS.hope N) c), dctR (markK T), oneR (stayP N (WS.hope N) c T) fun m => intR (m + 1)]) (ea_cons (es_var rfl) (ea_cons (es_var rfl) (ea_cons (es_op (es_call (N, WS.hope N, c, T) (by walk_at "e") g) es_c (o2_one fun m _ => o2_add)) ea_nil))) fun vs P r => ?_) (by simp) fun m hm v P4 H4 a4 => ?_
    · cases r with
      | cons r1 r =>
        cases r with
        | cons r2 r =>
          cases r with
          | cons r3 r =>
            cases r
            obtain ⟨m, hm, r3⟩ := r3
            exact ⟨(WS.hope N, c, T, m + 1), ⟨hH.nod, by show (WS.hope N).length ≤ 12; omega⟩, .cons r1 (.cons r2 (.cons r3 .nil)), fun v P' r => ⟨m, hm, r⟩⟩
    · obtain ⟨h0, hS⟩ := hm
      have nx := WS.low_next hn.ok hH.cl hL sub h0 hS
      obtain ⟨p, hp⟩ := List.exists_mem_of_ne_nil _ e
      refine ⟨WS.raise c T (m + 1), P4, WS.gap_less (fun q hq => ?_) (sub p hp) ?_ (nx.le d0 hd p (sub p hp)), nx, (a4.drop 2).drop 3⟩
      · unfold WS.raise
        split <;> omega
      · rw [WS.raise_in hp]
        omega
noncomputable def lv (N : WS.Net) (p : Nat) : V := if p ∈ WS.hope N then .int (WS.leastC N p) else .non
noncomputable abbrev leastR (N : WS.Net) : RP := tupR ((List.range N.length).map fun p => valR (lv N p))
noncomputable abbrev sp_by_place (C : Addr) : Sp := spOf (fun N : WS.Net => NW N) (fun N => [trackR C N, dctR (tabK (WS.hope N) (WS.leastC N))]) (fun N => leastR N)
theorem ok_by_place (T : Txt K mg) (tc : TC K C) (d : DefAt K mg "by_place" s_by_place) : Callee P w K mg base "by_place" ["track", "found"] 1 (sp_by_place C) := by
  refine d.ok sc_by_place (fun _ _ _ _ _ _ us hl => match us, hl with | [_, _], _ => rfl) (fun _ _ => rfl) fun f cdv A outer s H E1 hr => ⟨_, (pss_one (ps_ret (pe_callTy (call_tupK K rfl) (by rfl) T.tuple bo_tuple (pa_cons (pe_lc (own := [("place", 2)]) (by rfl) sc_by_place.nd (pi_range1 (by rfl) T.range (pa_cons (pe_fldK K rfl (pv 0) rfl) pa_nil)) (blkOk_by (own := [("place", 2)]) (N := n_by_place) (sc := defScope s_by_place) (by decide +kernel)) (fun _ _ _ _ _ => (pg_name (i := 2) sc_by_place.nd rfl (Or.inl rfl))) (fun _ _ _ _ _ => pts_nil) (fun _ _ _ _ _ => (pe_dget2 (hu_of hr) (pv 1) (pv 2) pe_non ⟨rfl, by rfl, rfl, rfl⟩))) pa_nil)))), fun N P0 H0 σ0 Q hn a q => ?_⟩
  have hn : NW N := hn
  have hf := hn.few
  (try dsimp only [tNext]); refine q_end a (es_cb (ea_cons (es_lc0 (as := List.range N.length) (RA := fun p => intR ((p : Nat) : Int)) (RB := fun p => valR (lv N p)) (src_range0 (ea_cons (es_places tc (es_var (R := trackR C N) rfl)) ea_nil) (by omega)) (fun _ _ => tg_name) (by decide) (fun p hp => ?_) (by rw [List.length_range]; omega)) ea_nil) oc_tupL) rfl rfl (by exact q)
  refine es_eq (es_dget2I (kvs := tabK (WS.hope N) (WS.leastC N)) (i := ((p : Nat) : Int)) (x := .non) (es_var rfl) (es_var rfl) es_c) ?_
  rw [val_map (g := fun p => V.int (WS.leastC N p))]
  unfold lv
  by_cases h : p ∈ WS.hope N
  · rw [if_pos h, if_pos h]
    rfl
  · rw [if_neg h, if_neg h]
    rfl
noncomputable abbrev sp_least_of (C : Addr) : Sp := spOf (fun N : WS.Net => NW N ∧ (WS.hope N).length ≤ 4) (fun N => [trackR C N]) (fun N => leastR N)
theorem ok_least_of (T : Txt K mg) (d : DefAt K mg "least_of" s_least_of) (c_by_place : Callee P w K mg base "by_place" ["track", "found"] 1 (sp_by_place C)) (c_least_by_place : Callee P w K mg base "least_by_place" ["track"] 10 (sp_least_by_place C)) :
    Callee P w K mg base "least_of" ["track"] 11 (sp_least_of C) := by
  refine d.ok sc_least_of (fun _ _ _ _ _ _ us hl => match us, hl with | [_], _ => rfl) (fun _ _ => rfl) fun f cdv A outer s H E1 hr => ⟨_, (pss_one (ps_ret (pe_callC c_by_place (hr.mono (by decide)) (by rfl) (pa_cons (pv 0) (pa_cons (pe_callC c_least_by_place (hr.mono (by decide)) (by rfl) (pa_cons (pv 0) pa_nil)) pa_nil))))), fun N P0 H0 σ0 Q h a q => ?_⟩
  (try dsimp only [tNext]); refine q_end a (es_call N (ea_cons (es_var rfl) (ea_cons (es_call N (by walk_at "e") h) ea_nil)) h.1) rfl rfl (by exact q)
theorem ok_least_coins (T : Txt K mg) (d : DefAt K mg "least_coins" s_least_coins) (c_least_of : Callee P w K mg base "least_of" ["track"] 11 (sp_least_of C)) : Callee P w K mg base "least_coins" ["track"] 12 (sp_least_of C) := by
  refine d.ok sc_least_coins (fun _ _ _ _ _ _ us hl => match us, hl with | [_], _ => rfl) (fun _ _ => rfl) fun f cdv A outer s H E1 hr => ⟨_, (pss_one (ps_ret (pe_callC c_least_of (hr.mono (by decide)) (by rfl) (pa_cons (pv 0) pa_nil)))), fun N P0 H0 σ0 Q h a q => ?_⟩
  (try dsimp only [tNext]); refine q_end a (es_call N (by walk_at "e") h) rfl rfl (by exact q)
end
end Y
end
section
/-! The defs, part 8: what is sure. -/
namespace Y
open PySem PySem.Spec L2
open PyProof.Rows (envOfC)
local macro_rules | `(tactic| walk_at "e") => `(tactic| repeat (first
  | exact es_c | exact es_var rfl | exact ea_nil | exact et_yes | with_reducible apply ea_cons | with_reducible apply es_op | with_reducible apply es_cb | with_reducible apply es_un | with_reducible apply es_tup | with_reducible apply es_lst | exact Nat.le_of_ble_eq_true rfl
  | with_reducible apply es_chain | with_reducible apply et_test | with_reducible apply et_B | with_reducible apply et_not | with_reducible apply es_notV
  | exact o2_add | exact o2_sub | exact o2_lt | exact o2_le | exact o2_gt | exact o2_ge | exact o2_eqI | exact o2_neI | exact o1_neg | exact o2_is | exact o2_isnot | exact o2_inDI | exact o2_ninDI | exact o2_inNL | exact o2_inNT | exact o2_ninNL | exact o2_ninNT | exact o2_inL | exact o2_inT | exact o2_ninL | exact o2_ninT | exact o2_eqT | exact o2_eqL
  | exact oc_lenL | exact oc_lenT | exact oc_lenD | exact oc_sumL | exact oc_sumT' | exact oc_max2 | exact oc_min2 | exact oc_sortI | exact oc_tupL | exact oc_int | exact oc_intB | exact oc_abs | exact oc_any | exact oc_all
  | exact o2_div (by constructor <;> omega) | exact o2_mod (by omega) | exact o2_mulT (by first | (left; constructor <;> omega) | (right; constructor <;> omega)) | exact o2_ixL (by omega) rfl | exact o2_ixT (by omega) rfl))
abbrev s_is_place : Stmt := top 25
abbrev n_is_place : List Str := ["track", "thing"]
theorem sc_is_place : FnScope n_is_place ["track", "thing"] (defScope s_is_place) := ⟨rfl, rfl, rfl, by decide +kernel, rfl, by decide +kernel, by decide +kernel⟩
abbrev s_check_place : Stmt := top 26
abbrev n_check_place : List Str := ["track", "thing"]
theorem sc_check_place : FnScope n_check_place ["track", "thing"] (defScope s_check_place) := ⟨rfl, rfl, rfl, by decide +kernel, rfl, by decide +kernel, by decide +kernel⟩
abbrev s_pairs_by : Stmt := top 59
abbrev n_pairs_by : List Str := ["track", "place", "goals", "letter", "pay", "goal"]
theorem sc_pairs_by : FnScope n_pairs_by ["track", "place", "goals"] (defScope s_pairs_by) := ⟨rfl, rfl, rfl, by decide +kernel, rfl, by decide +kernel, by decide +kernel⟩
abbrev s_coins_ahead : Stmt := top 60
abbrev n_coins_ahead : List Str := ["track", "goals", "place"]
theorem sc_coins_ahead : FnScope n_coins_ahead ["track", "goals"] (defScope s_coins_ahead) := ⟨rfl, rfl, rfl, by decide +kernel, rfl, by decide +kernel, by decide +kernel⟩
abbrev s_nearer : Stmt := top 61
abbrev n_nearer : List Str := ["track", "goal", "found", "coins"]
theorem sc_nearer : FnScope n_nearer ["track", "goal", "found"] (defScope s_nearer) := ⟨rfl, rfl, rfl, by decide +kernel, rfl, by decide +kernel, by decide +kernel⟩
abbrev s_soonest_of : Stmt := top 62
abbrev n_soonest_of : List Str := ["track", "place", "coins", "goal", "found", "turn", "later"]
theorem sc_soonest_of : FnScope n_soonest_of ["track", "place", "coins", "goal"] (defScope s_soonest_of) := ⟨rfl, rfl, rfl, by decide +kernel, rfl, by decide +kernel, by decide +kernel⟩
abbrev s_soonest : Stmt := top 63
abbrev n_soonest : List Str := ["track", "place", "coins", "goal"]
theorem sc_soonest : FnScope n_soonest ["track", "place", "coins", "goal"] (defScope s_soonest) := ⟨rfl, rfl, rfl, by decide +kernel, rfl, by decide +kernel, by decide +kernel⟩
abbrev vecL (n : Nat) (x : Nat → Int) : List Int := (List.range n).map x
abbrev vecR (n : Nat) (x : Nat → Int) : RP := tupR ((vecL n x).map fun i => intR i)
theorem vec_at {n : Nat} {x : Nat → Int} {p : Nat} (h : p < n) : ((vecL n x).map fun i => intR i)[(((p : Nat) : Int)).toNat]? = some (intR (x p)) := by
  rw [Int.toNat_natCast, List.getElem?_map, List.getElem?_map, List.getElem?_range h]
  rfl
theorem vec_eq {n : Nat} {x y : Nat → Int} : vecL n x = vecL n y ↔ ∀ p, p < n → x p = y p := by
  constructor
  · intro h p hp
    have e : (vecL n x)[p]? = (vecL n y)[p]? := by rw [h]
    rw [List.getElem?_map, List.getElem?_map, List.getElem?_range hp] at e
    exact Option.some.inj e
  · exact fun h => List.map_congr_left fun p hp => h p (List.mem_range.mp hp)
section
variable {P : Program} {w : World} {K : PySem.W.Frag} {mg : Str → Option Value} {base : Heap} {C : Addr}
abbrev sp_is_place (C : Addr) : Sp := spOf (fun i : WS.Net × Nat => i.2 < i.1.length) (fun i => [trackR C i.1, intR ((i.2 : Nat) : Int)]) (fun i => blR true)
theorem ok_is_place (T : Txt K mg) (tc : TC K C) (d : DefAt K mg "is_place" s_is_place) (c_is_within : Callee P w K mg base "is_within" ["thing", "least", "most"] 2 sp_is_within) : Callee P w K mg base "is_place" ["track", "thing"] 3 (sp_is_place C) := by
  refine d.ok sc_is_place (fun _ _ _ _ _ _ us hl => match us, hl with | [_, _], _ => rfl) (fun _ _ => rfl) fun f cdv A outer s H E1 hr => ⟨_, (pss_one (ps_ret (pe_callC c_is_within (hr.mono (by decide)) (by rfl) (pa_cons (pv 1) (pa_cons pe_int (pa_cons (pe_op op_uSub (pe_fldK K rfl (pv 0) rfl) pe_int) pa_nil)))))), fun ⟨N, p⟩ P0 H0 σ0 Q hp a q => ?_⟩
  have hp : p < N.length := hp
  (try dsimp only [tNext]); refine q_end a (es_eqB (es_call (((p : Nat) : Int), 0, ((N.length : Nat) : Int) - 1) (ea_cons (es_var rfl) (ea_cons es_c (ea_cons (es_op (es_places tc (es_var (R := trackR C N) rfl)) es_c o2_sub) ea_nil))) trivial) ?_) rfl rfl (by exact q)
  rw [Bool.and_eq_true, decide_eq_true_iff, decide_eq_true_iff]
  dsimp only
  omega
abbrev sp_check_place (C : Addr) : Sp := spOf (fun i : WS.Net × Nat => i.2 < i.1.length) (fun i => [trackR C i.1, intR ((i.2 : Nat) : Int)]) (fun i => nonR)
theorem ok_check_place (T : Txt K mg) (d : DefAt K mg "check_place" s_check_place) (c_is_place : Callee P w K mg base "is_place" ["track", "thing"] 3 (sp_is_place C)) : Callee P w K mg base "check_place" ["track", "thing"] 4 (sp_check_place C) := by
  refine d.ok sc_check_place (fun _ _ _ _ _ _ us hl => match us, hl with | [_, _], _ => rfl) (fun _ _ => rfl) fun f cdv A outer s H E1 hr => ⟨_, (pss_one (ps_if (pt_not (pt_val (pe_callC c_is_place (hr.mono (by decide)) (by rfl) (pa_cons (pv 0) (pa_cons (pv 1) pa_nil))))) (pss_one ps_never) pss_nil)), fun ⟨N, p⟩ P0 H0 σ0 Q hp a q => ?_⟩
  (try dsimp only [tNext]); refine q_if a (b := false) (et_eq (et_not (et_B (es_call (N, p) (by walk_at "e") hp))) rfl) (fun e => by cases e) fun _ P1 H1 a1 => q .non P1 H1 (a1.all rfl) rfl
abbrev sp_pairs_by (C : Addr) : Sp := spOf (fun i : WS.Net × Nat × (Nat → Int) => NW i.1 ∧ i.2.1 < i.1.length) (fun i => [trackR C i.1, intR ((i.2.1 : Nat) : Int), vecR i.1.length i.2.2]) (fun i => prsR (WS.prs i.1 i.2.2 i.2.1))
theorem ok_pairs_by (T : Txt K mg) (d : DefAt K mg "pairs_by" s_pairs_by) (c_steps_of : Callee P w K mg base "steps_of" ["track", "place"] 1 (sp_steps_of C)) : Callee P w K mg base "pairs_by" ["track", "place", "goals"] 2 (sp_pairs_by C) := by
  refine d.ok sc_pairs_by (fun _ _ _ _ _ _ us hl => match us, hl with | [_, _, _], _ => rfl) (fun _ _ => rfl) fun f cdv A outer s H E1 hr => ⟨_, (pss_one (ps_ret (pe_lc (own := [("letter", 3), ("pay", 4), ("goal", 5)]) (by rfl) sc_pairs_by.nd (pi_listK K rfl (pe_callC c_steps_of (hr.mono (by decide)) (by rfl) (pa_cons (pv 0) (pa_cons (pv 1) pa_nil)))) (blkOk_by (own := [("letter", 3), ("pay", 4), ("goal", 5)]) (N := n_pairs_by) (sc := defScope s_pairs_by) (by decide +kernel)) (fun _ _ _ _ _ => (pg_tupK (n := 3) K rfl rfl (pgs_cons (pg_name (i := 3) sc_pairs_by.nd rfl (Or.inl rfl)) (pgs_cons (pg_name (i := 4) sc_pairs_by.nd rfl (Or.inl rfl)) (pgs_cons (pg_name (i := 5) sc_pairs_by.nd rfl (Or.inl rfl)) pgs_nil))))) (fun _ _ _ _ _ => pts_nil) (fun _ _ _ _ _ => (pe_tup (pa_cons (pe_ix (ix_seqK K rfl) (pv 2) (pv 5) (fun _ _ => rfl)) (pa_cons (pv 4) pa_nil))))))), fun ⟨N, p, x⟩ P0 H0 σ0 Q ⟨hn, hp⟩ a q => ?_⟩
  simp only at hn hp
  (try dsimp only [tNext]); refine q_end a (es_eq (es_lc0 (as := WS.st N p) (RA := sR) (RB := fun s => pairR (x s.2, s.1)) (src_list (es_call (N, p) (by walk_at "e") hp)) (fun s hs => tg_tup (tgs_cons tg_name (tgs_cons tg_name (tgs_cons tg_name tgs_nil))) rfl) (by decide) (fun s hs => ?_) (by have := hn.three p; omega))
    (R' := prsR (WS.prs N x p)) (by unfold prsR WS.prs; rw [List.map_map]; rfl)) rfl rfl (by exact q)
  refine es_tup (ea_cons (es_op (es_var (R := vecR N.length x) rfl) (es_var (R := intR ((s.2 : Nat) : Int)) rfl) (o2_ixT (by omega) (vec_at (hn.ok.goal p s hs)))) (ea_cons (es_var rfl) ea_nil)) (by simp)
noncomputable abbrev sp_coins_ahead (C : Addr) : Sp := spOf (fun i : WS.Net × (Nat → Int) => NW i.1 ∧ ∀ p, p < i.1.length → i.2 p < 2 ^ 61) (fun i => [trackR C i.1, vecR i.1.length i.2]) (fun i => vecR i.1.length fun p => WS.nd (WS.prs i.1 i.2 p))
theorem ok_coins_ahead (T : Txt K mg) (tc : TC K C) (d : DefAt K mg "coins_ahead" s_coins_ahead) (c_pairs_by : Callee P w K mg base "pairs_by" ["track", "place", "goals"] 2 (sp_pairs_by C)) (c_needed : Callee P w K mg base "needed" ["pairs"] 5 sp_needed) :
    Callee P w K mg base "coins_ahead" ["track", "goals"] 6 (sp_coins_ahead C) := by
  refine d.ok sc_coins_ahead (fun _ _ _ _ _ _ us hl => match us, hl with | [_, _], _ => rfl) (fun _ _ => rfl) fun f cdv A outer s H E1 hr => ⟨_, (pss_one (ps_ret (pe_callTy (call_tupK K rfl) (by rfl) T.tuple bo_tuple (pa_cons (pe_lc (own := [("place", 2)]) (by rfl) sc_coins_ahead.nd (pi_range1 (by rfl) T.range (pa_cons (pe_fldK K rfl (pv 0) rfl) pa_nil)) (blkOk_by (own := [("place", 2)]) (N := n_coins_ahead) (sc := defScope s_coins_ahead) (by decide +kernel)) (fun _ _ _ _ _ => (pg_name (i := 2) sc_coins_ahead.nd rfl (Or.inl rfl))) (fun _ _ _ _ _ => pts_nil) (fun _ _ _ _ _ => (pe_ix (ix_seqK K rfl) (pe_callC c_needed (hr.mono (by decide)) (by rfl) (pa_cons (pe_callC c_pairs_by (hr.mono (by decide)) (by rfl) (pa_cons (pv 0) (pa_cons (pv 2) (pa_cons (pv 1) pa_nil)))) pa_nil)) pe_int (fun _ _ => rfl)))) pa_nil)))), fun ⟨N, x⟩ P0 H0 σ0 Q ⟨hn, hb⟩ a q => ?_⟩
  simp only at hn hb
  have hf := hn.few
  (try dsimp only [tNext]); refine q_end a (es_cb (ea_cons (es_eq (es_lc0 (as := List.range N.length) (RA := fun p => intR ((p : Nat) : Int)) (RB := fun p => intR (WS.nd (WS.prs N x p))) (src_range0 (ea_cons (es_places tc (es_var (R := trackR C N) rfl)) ea_nil) (by omega)) (fun _ _ => tg_name) (by decide) (fun p hp => ?_) (by rw [List.length_range]; omega))
    (R' := lstR ((vecL N.length fun p => WS.nd (WS.prs N x p)).map fun i => intR i)) (by rw [List.map_map]; rfl)) ea_nil) oc_tupL) rfl rfl (by exact q)
  have hp := List.mem_range.mp hp
  refine es_op (es_call (WS.prs N x p) (ea_cons (es_call (N, p, x) (by walk_at "e") ⟨hn, hp⟩) ea_nil) ⟨by unfold WS.prs; rw [List.length_map]; exact hn.three p, hn.ok.pays _ p, fun q hq => ?_⟩) es_c (o2_ixT (by omega) rfl)
  obtain ⟨s, hs, rfl⟩ := List.mem_map.mp hq
  exact hb _ (hn.ok.goal p s hs)
noncomputable abbrev sp_nearer (C : Addr) : Sp := spOf (fun i : WS.Net × Int × (Nat → Int) => NW i.1 ∧ ∀ p, p < i.1.length → i.2.2 p < 2 ^ 61) (fun i => [trackR C i.1, intR i.2.1, vecR i.1.length i.2.2]) (fun i => vecR i.1.length fun p => min i.2.1 (WS.nd (WS.prs i.1 i.2.2 p)))
theorem ok_nearer (T : Txt K mg) (d : DefAt K mg "nearer" s_nearer) (c_coins_ahead : Callee P w K mg base "coins_ahead" ["track", "goals"] 6 (sp_coins_ahead C)) : Callee P w K mg base "nearer" ["track", "goal", "found"] 7 (sp_nearer C) := by
  refine d.ok sc_nearer (fun _ _ _ _ _ _ us hl => match us, hl with | [_, _, _], _ => rfl) (fun _ _ => rfl) fun f cdv A outer s H E1 hr => ⟨_, (pss_one (ps_ret (pe_callTy (call_tupK K rfl) (by rfl) T.tuple bo_tuple (pa_cons (pe_lc (own := [("coins", 3)]) (by rfl) sc_nearer.nd (pi_tupK K rfl (pe_callC c_coins_ahead (hr.mono (by decide)) (by rfl) (pa_cons (pv 0) (pa_cons (pv 2) pa_nil)))) (blkOk_by (own := [("coins", 3)]) (N := n_nearer) (sc := defScope s_nearer) (by decide +kernel)) (fun _ _ _ _ _ => (pg_name (i := 3) sc_nearer.nd rfl (Or.inl rfl))) (fun _ _ _ _ _ => pts_nil) (fun _ _ _ _ _ => (pe_callB (cr_minUK K rfl rfl hr.units) (by rfl) T.min bo_min (pa_cons (pv 1) (pa_cons (pv 3) pa_nil))))) pa_nil)))), fun ⟨N, G, x⟩ P0 H0 σ0 Q ⟨hn, hb⟩ a q => ?_⟩
  simp only at hn hb
  have hf := hn.few
  (try dsimp only [tNext]); refine q_end a (es_cb (ea_cons (es_eq (es_lc0 (as := vecL N.length fun p => WS.nd (WS.prs N x p)) (RA := fun i => intR i) (RB := fun i => intR (min G i)) (src_tup (es_call (N, x) (by walk_at "e") ⟨hn, hb⟩)) (fun _ _ => tg_name) (by decide) (fun p hp => by walk_at "e") (by rw [List.length_map, List.length_range]; omega))
    (R' := lstR ((vecL N.length fun p => min G (WS.nd (WS.prs N x p))).map fun i => intR i)) (by rw [List.map_map, List.map_map]; rfl)) ea_nil) oc_tupL) rfl rfl (by exact q)
open Classical in
noncomputable abbrev sureB (N : WS.Net) (p : Nat) (c G : Int) : Bool := decide (WS.Sure N p c G)
noncomputable abbrev sp_soonest_of (C : Addr) : Sp := spOf (fun i : WS.Net × Nat × Int × Int => NW i.1 ∧ i.2.1 < i.1.length ∧ 0 ≤ i.2.2.2 ∧ i.2.2.2 < 2 ^ 61) (fun i => [trackR C i.1, intR ((i.2.1 : Nat) : Int), intR i.2.2.1, intR i.2.2.2]) (fun i => rkR (!sureB i.1 i.2.1 i.2.2.1 i.2.2.2))
theorem sureB_yes {N : WS.Net} {p : Nat} {c G : Int} (h : WS.Sure N p c G) : sureB N p c G = true := @decide_eq_true _ (Classical.propDecidable _) h
theorem sureB_no {N : WS.Net} {p : Nat} {c G : Int} (h : ¬ WS.Sure N p c G) : sureB N p c G = false := @decide_eq_false _ (Classical.propDecidable _) h
theorem ok_soonest_of (T : Txt K mg) (tc : TC K C) (d : DefAt K mg "soonest_of" s_soonest_of) (c_nearer : Callee P w K mg base "nearer" ["track", "goal", "found"] 7 (sp_nearer C)) : Callee P w K mg base "soonest_of" ["track", "place", "coins", "goal"] 8 (sp_soonest_of C) := by
  refine d.ok sc_soonest_of (fun _ _ _ _ _ _ us hl => match us, hl with | [_, _, _, _], _ => rfl) (fun _ _ => rfl) fun f cdv A outer s H E1 hr => ⟨_, (pss_cons (ps_set (i := 4) sc_soonest_of.nd rfl (Or.inl rfl) (pe_op (op_uMulTK K rfl) (pe_tup (pa_cons (pv 3) pa_nil)) (pe_fldK K rfl (pv 0) rfl)))
  (pss_cons (ps_set (i := 5) sc_soonest_of.nd rfl (Or.inl rfl) pe_int)
  (pss_cons (ps_while PassesOwn.never (pt_cmpR op_uGt (pe_ix (ix_seqK K rfl) (pv 4) (pv 1) (fun _ _ => rfl)) (pv 2) (nomark _))
  (pss_cons (ps_set (i := 6) sc_soonest_of.nd rfl (Or.inl rfl) (pe_callC c_nearer (hr.mono (by decide)) (by rfl) (pa_cons (pv 0) (pa_cons (pv 3) (pa_cons (pv 4) pa_nil)))))
  (pss_cons (ps_if (pt_cmpR (op_uEqK K rfl hr.units) (pv 6) (pv 4) (nomark _)) (pss_one (ps_ret pe_non)) pss_nil)
  (pss_cons (ps_set (i := 4) sc_soonest_of.nd rfl (Or.inl rfl) (pv 6))
  (pss_one (ps_aug (i := 5) sc_soonest_of.nd rfl (Or.inl rfl) pe_int ip_add))))))
  (pss_one (ps_ret (pv 5)))))), fun ⟨N, p, c, G⟩ P0 H0 σ0 Q ⟨hn, hp, h0, hG⟩ a q => ?_⟩
  simp only at hn hp h0 hG
  have hf := hn.few
  have hs := hn.some
  (try dsimp only [tNext]); refine sq (q_set (R := vecR N.length (WS.it N G 0)) a (es_eq (es_op (es_tup (ea_cons (es_var rfl) ea_nil) (by simp)) (es_places tc (es_var (R := trackR C N) rfl)) (o2_repT (by omega))) ?_) fun v1 P1 H1 a1 => ?_)
  · rw [Int.toNat_natCast]
    congr 1
    refine List.ext_getElem? fun i => ?_
    by_cases l : i < N.length
    · rw [List.getElem?_replicate, if_pos l, List.getElem?_map, List.getElem?_map, List.getElem?_range l]
      rfl
    · rw [List.getElem?_eq_none (by simp; omega), List.getElem?_eq_none (by simp; omega)]
  (try dsimp only [tNext]); refine sq (q_set (R := intR 0) a1 es_c fun v2 P2 H2 a2 => ?_)
  (try dsimp only [tNext]); refine sq (q_while (X := Nat) (fun _ => True) (fun t => (WS.sumN N.length (WS.it N G t)).toNat) (fun t => [some (trackR C N), some (intR ((p : Nat) : Int)), some (intR c), some (intR G), some (vecR N.length (WS.it N G t)), some (intR ((t : Nat) : Int)), none]) (fun _ => []) (fun t => decide (c < WS.it N G t p))
    ⟨0, trivial, a2⟩ (fun t _ => ?_) (fun t σ P H _ hb a => ?_) fun t σ P H _ hb a => ?_)
  · exact et_test (es_op (es_op (es_var (R := vecR N.length (WS.it N G t)) rfl) (es_var rfl) (o2_ixT (by omega) (vec_at hp))) (es_var rfl) o2_gt)
  · have hb : c < WS.it N G t p := of_decide_eq_true hb
    (try dsimp only [tNext]); refine sq (q_set (R := vecR N.length (WS.it N G (t + 1))) a (es_call (N, G, WS.it N G t) (by walk_at "e") ⟨hn, fun p _ => by have := WS.it_top (N := N) (G := G) t p; show WS.it N G t p < _; omega⟩) fun v3 P3 H3 a3 => ?_)
    (try dsimp only [tNext]); refine sq (q_if a3 (b := decide (vecL N.length (WS.it N G (t + 1)) = vecL N.length (WS.it N G t))) (et_test (es_op (es_var (R := vecR N.length (WS.it N G (t + 1))) rfl) (es_var (R := vecR N.length (WS.it N G t)) rfl) o2_eqT)) (fun e P' H' a' => ?_) fun e P' H' a' => ?_)
    · have e := of_decide_eq_true e
      (try dsimp only [tNext]); refine q_end a' (es_is (es_c (v := .non)) fun v P r => ?_) rfl rfl (by exact q)
      have r : v = V.non := r
      show decide (v = V.non) = !sureB N p c G
      rw [r, sureB_no (WS.not_sure hn.ok hp (vec_eq.mp e) hb)]
      rfl
    · have e := of_decide_eq_false e
      have al : ¬ WS.Alike N (WS.it N G (t + 1)) (WS.it N G t) := fun z => e (vec_eq.mpr z)
      have lt := WS.sum_step hn.ok al
      have nn := WS.sumN_nonneg (x := WS.it N G (t + 1)) (fun p => WS.it_nonneg hn.ok h0 (t + 1) p) N.length
      (try dsimp only [tNext]); refine sq (q_set (R := vecR N.length (WS.it N G (t + 1))) a' (es_var rfl) fun v4 P4 H4 a4 => ?_)
      (try dsimp only [tNext]); refine q_aug (x := ((t : Nat) : Int)) (y := 1) a4 rfl es_c fun v5 P5 H5 a5 => ⟨t + 1, P5, ?_, trivial, a5.drop 6⟩
      omega
  · have hb : ¬ c < WS.it N G t p := of_decide_eq_false hb
    (try dsimp only [tNext]); refine q_end a (es_is (es_var (R := intR ((t : Nat) : Int)) rfl) fun v P r => ?_) rfl rfl (by exact q)
    have r : v = V.int _ := r
    show decide (v = V.non) = !sureB N p c G
    rw [r, sureB_yes ⟨t, by omega⟩]
    rfl
noncomputable abbrev sp_soonest (C : Addr) : Sp := spOf (fun i : WS.Net × Nat × Int × Int => NW i.1 ∧ i.2.1 < i.1.length ∧ 0 ≤ i.2.2.1 ∧ 0 ≤ i.2.2.2 ∧ i.2.2.2 ≤ 1000) (fun i => [trackR C i.1, intR ((i.2.1 : Nat) : Int), intR i.2.2.1, intR i.2.2.2]) (fun i => rkR (!sureB i.1 i.2.1 i.2.2.1 i.2.2.2))
theorem ok_soonest (T : Txt K mg) (d : DefAt K mg "soonest" s_soonest) (c_check_place : Callee P w K mg base "check_place" ["track", "thing"] 4 (sp_check_place C)) (c_check_coins : Callee P w K mg base "check_coins" ["thing"] 3 sp_check_coins)
    (c_check_many : Callee P w K mg base "check_many" ["number", "most"] 1 sp_check_many0) (c_soonest_of : Callee P w K mg base "soonest_of" ["track", "place", "coins", "goal"] 8 (sp_soonest_of C)) : Callee P w K mg base "soonest" ["track", "place", "coins", "goal"] 9 (sp_soonest C) := by
  refine d.ok sc_soonest (fun _ _ _ _ _ _ us hl => match us, hl with | [_, _, _, _], _ => rfl) (fun _ _ => rfl) fun f cdv A outer s H E1 hr => ⟨_, (pss_cons (ps_expr (pe_callC c_check_place (hr.mono (by decide)) (by rfl) (pa_cons (pv 0) (pa_cons (pv 1) pa_nil))))
  (pss_cons (ps_expr (pe_callC c_check_coins (hr.mono (by decide)) (by rfl) (pa_cons (pv 2) pa_nil)))
  (pss_cons (ps_expr (pe_callC c_check_coins (hr.mono (by decide)) (by rfl) (pa_cons (pv 3) pa_nil)))
  (pss_cons (ps_expr (pe_callC c_check_many (hr.mono (by decide)) (by rfl) (pa_cons (pv 3) (pa_cons (p_int (by rfl) T.MOST_GOAL) pa_nil))))
  (pss_one (ps_ret (pe_callC c_soonest_of (hr.mono (by decide)) (by rfl) (pa_cons (pv 0) (pa_cons (pv 1) (pa_cons (pv 2) (pa_cons (pv 3) pa_nil))))))))))), fun ⟨N, p, c, G⟩ P0 H0 σ0 Q ⟨hn, hp, hc, h0, hG⟩ a q => ?_⟩
  simp only at hn hp hc h0 hG
  (try dsimp only [tNext]); refine sq (q_drop a (es_call (N, p) (by walk_at "e") hp) fun P1 H1 a1 => ?_)
  (try dsimp only [tNext]); refine sq (q_drop a1 (es_call c (by walk_at "e") hc) fun P2 H2 a2 => ?_)
  (try dsimp only [tNext]); refine sq (q_drop a2 (es_call G (by walk_at "e") h0) fun P3 H3 a3 => ?_)
  (try dsimp only [tNext]); refine sq (q_drop a3 (es_call (G, 1000) (by walk_at "e") hG) fun P4 H4 a4 => ?_)
  (try dsimp only [tNext]); refine q_end a4 (es_call (N, p, c, G) (by walk_at "e") ⟨hn, hp, h0, by show G < 2 ^ 61; omega⟩) rfl rfl (by exact q)
end
end Y
end
section
set_option maxHeartbeats 2000000
/-! The own error with a field, over an own error over ValueError: its __init__ asks super().__init__ first. -/
namespace PySem
namespace TMX
open PySem.W PySem.Calls PyProof.Rows PySem.HandSPX
abbrev s_TooMany_init : Stmt := Y.inClass (Y.top 4) 0
abbrev tA : Arguments := L2.defArgs s_TooMany_init
abbrev tB : List Stmt := L2.defBody s_TooMany_init
abbrev tS : Scope := L2.defScope s_TooMany_init
/-- what the written part says of the error, at C, and of its __init__, at fI; cc: the cell __class__, cda: the code -/
structure TmTxt (P : Program) (K : Frag) (mg : Str → Option Value) (C fI cc cda : Addr) : Prop where
  gC : mg "TooMany" = some (.ref C)
  cls : ∃ nm q N bs bm sn sub ab col dd k0 k1 k2 k3 k5, K.lookup C = some (excClassObj nm q C N bs bm true sn sub ab col dd k0 k1 k2 k3 k5 "ValueError.__new__") ∧ refsVE bm = true
  sa : findIn K (.ref C) "__setattr__" = some (some (.builtin "object.__setattr__"))
  noN : findIn K (.ref C) "most" = some none
  iC : findIn K (.ref C) "__init__" = some (some (.ref fI))
  tC : typeIn K (.ref fI) = some (.type "function")
  kC : keepIn K (.ref C) = true
  exC : subIn K (.ref C) (.type "BaseException") = some true
  veC : subIn K (.ref C) (.type "ValueError") = some true
  tyC : typeIn K (.ref C) = some (.type "type")
  te : exmOne K (.ref C) (.ref C) = some true
  xf : L2.XfC K C
  sup : ks_superIn K C C "__init__" = some (some (.builtin "ValueError.__init__"))
  ho : nsIn K cStatics "thirdparty.any" = some none
  mC : mroIn K C (.ref C) = some true
  su : mg "super" = none
  cell : ∃ cl cld csl, K.lookup cc = some ⟨cl, cld, .cell (some (.ref C)), csl⟩
  code : ∃ ccl cdd vs ccs file tf, K.lookup cda = some ⟨ccl, cdd, .fields vs, ccs⟩ ∧ vs[2]? = some (.str file tf) ∧ ((P.main.file : Str) == file) = true
  top : (P.main.scope.names.lookup ("super" : Str)).isSome = false
  fn : ∃ (oc : Value) (od : Option Addr) (doc pm : Value) (an : Option Addr) (ct : Value) (osl : Array (Option Value)),
    K.lookup fI = some ⟨oc, od, .func (ksFn "__init__" "TooMany.__init__" tA tB tS .none .none doc pm an (.ref cda) ct cc), osl⟩ ∧ codeIn K (.ref cda) "TooMany.__init__" = true
section
variable {prog : Program} {w : World} {A : Around} {E : Value → Shared → Prop} {h : Heap} {g : Array GenState} {d : Drawn} {t : Nat} {os : OsState}
variable {nm q : Str} {C N : Addr} {bs bm : List Value} {hdct : Bool} {sn : List Str} {sub : List Value} {ab : Bool} {col : Option Bool} {dd : Option Addr} {k0 k1 k2 k3 k5 : Option Value}
/-- super().__init__(..), the bound wrapper called -/
theorem call_mw {u e t0 : Addr} {rest : List Value} {Q : Value → Shared → Prop}
    (hC : h.get? C = some (excClassObj nm q C N bs bm hdct sn sub ab col dd k0 k1 k2 k3 k5 "ValueError.__new__")) (he : h.get? e = some (excO C t0)) (hu : h.get? u = some (kxs_mw "ValueError.__init__" e)) (hrest : rest.length ≤ sizeLine)
    (hq : ∀ h' t1, (∀ b o, b ≠ e → h.get? b = some o → h'.get? b = some o) → h'.get? e = some (excO C t1) → Q .none ⟨h', g, d, t, os⟩) :
    wpAny (model prog w) A (call (.ref u) rest) Q E ⟨h, g, d, t, os⟩ := by
  refine wpAny_call (codeAny_of_tree ?_)
  show wpAny _ A.in1 (callAny (.ref u) ⟨rest, []⟩) _ _ _
  simp only [callAny]
  refine wpAny_bind (wpAny_load hu ?_)
  simp only [kxs_mw, show (Value.type "method-wrapper" == Value.type "method" || Value.type "method-wrapper" == Value.type "builtin_function_or_method" || Value.type "method-wrapper" == Value.type "method-wrapper") = true by decide, if_true]
  refine W.KFB.if_so (by decide) ?_
  refine wpAny_bind (check_bound_init F.excBase_ValueError.toExcCallFacts hC he rfl ?_)
  refine wpAny_bind (wpAny_pure (wpAny_pure ?_))
  refine ⟨plainId_quiet F.excBase_ValueError.init.plain _, codeAny_builtin F.excBase_ValueError.initEntry ?_⟩
  exact exc_init_tree (cls := .ref C) (t0 := t0) (dv := none) (c2 := .none) (c3 := .none) (b4 := .bool false) he hrest fun h' k e' _ => hq h' _ k e'
end
/-- what __init__ leaves of a fresh error at x -/
structure Inited (h h' : Heap) (x C dx t1 : Addr) (v : Value) : Prop where
  keep : ∀ b o, b ≠ x → h.get? b = some o → h'.get? b = some o
  obj : h'.get? x = some { cls := .ref C, dict := some dx, data := .fields #[.ref t1, .none, .none, .none, .bool false, .none] }
  dbig : h.objs.size ≤ dx
  dne : dx ≠ x
  ns : h'.Ns1 dx (fun y => if y = "most" then some v else none)
section
variable {prog : Program} {w : World} {A : Around} {R : Result → Shared → Prop} {s : Shared} {K : Frag} {mg mb : Str → Option Value} {C fI cc cda : Addr}
theorem tm_init (T : TmTxt prog K mg C fI cc cda) {x t0 : Addr} {v : Value} (X : K.In s.heap) (hg : s.heap.Ns mainGlobals mg) (hb : s.heap.Ns builtinsNs mb) (hms : mb "super" = some (.type "super")) (hlim : s.heap.NoLimit) (hx : s.heap.get? x = some (excO C t0)) (hnx : K.lookup x = none) (hroom : A.depth < recursionLimit)
    (hq : ∀ h' tk dx t1, Inited s.heap h' x C dx t1 v → R (.ok (.ret .none)) { s with heap := h', toks := tk }) :
    codeAny (model prog w) A (.call (.ref fI) ⟨[.ref x, v], []⟩) R s := by
  obtain ⟨oc, od, doc, pm, an, ct, osl, ho, hcd⟩ := T.fn
  obtain ⟨nm, q, N, bs, bm, sn, sub, ab, col, dd, k0, k1, k2, k3, k5, hC, hbm⟩ := T.cls
  obtain ⟨cl, cld, csl, hcell⟩ := T.cell
  obtain ⟨ccl, cdd, vs, ccs, file, tf, hcode, hvs, hfile⟩ := T.code
  have hcl : clsIn K C = some { name := nm, bases := bs, mro := .ref C :: bm, ns := N, qualname := q, hasDict := true, slotNames := sn, subclasses := sub, abstract := ab, collection := col, hasDel := false } := by unfold clsIn; rw [hC] <;> rfl
  refine ks_codeAny_call_defAt (fd := ksFn "__init__" "TooMany.__init__" tA tB tS .none .none doc pm an (.ref cda) ct cc) (binds := [("self", .ref x), ("most", v)]) hroom (X _ _ ho) rfl hlim (codeRec_of X hcd) rfl
    (BindsTo.of_eq (by first | rfl | with_unfolding_all rfl)) (show ∀ x ∈ tS.names, x.2 ≠ .cell from by decide) (locs rfl) (fun h₁ hn hk => ?_) rfl rfl rfl
  have X₁ : K.In h₁ := X.keeps hk
  have hx₁ := hk _ _ hx
  obtain ⟨hp, g, dr, tk, os⟩ := s
  have hcl' : callEnv (ksFn "__init__" "TooMany.__init__" tA tB tS .none .none doc pm an (.ref cda) ct cc) hp.objs.size fI = ksEnv "TooMany.__init__" tS hp.objs.size fI (.ref cda) cc := rfl
  rw [hcl']
  refine ks_wpAt_execs_cons (ks_wpAt_Expr_any (ks_wpAt_MethodCall ?_))
  refine ks_wpAt_super_base (env := ksEnv "TooMany.__init__" tS hp.objs.size fI (.ref cda) cc) rfl rfl (by decide) rfl (X₁ _ _ ho) rfl rfl rfl (X₁ _ _ hcode) rfl hvs hfile T.top ?_
  refine ks_loadName_global rfl rfl (loadGlobal_builtin (env := ksEnv "TooMany.__init__" tS hp.objs.size fI (.ref cda) cc) (hg.keeps hk) T.su (hb.keeps hk) hms ⟨rfl, ?_⟩)
  refine wpAny_loadName_free rfl rfl rfl ⟨_, X₁ _ _ hcell, rfl⟩ ?_
  refine wpAny_loadName_local (v := .ref x) rfl rfl hn (by first | rfl | with_unfolding_all rfl | kernel_rfl) ?_
  refine ks_wpAny_isType_cls (X₁ _ _ hC) rfl ⟨rfl, ?_⟩
  refine ks_wpAny_call_super (X₁ _ _ hC) rfl hx₁ rfl (fun c e => by cases e) (looks_mroIn X₁ T.mC) (fun h2 e2 k2 => ?_)
  have X₂ : K.In h2 := X₁.keeps k2
  have hx₂ := k2 _ _ hx₁
  have hxC : x ≠ C := fun z => by
    have y := X _ _ hC
    rw [← z] at y
    have z2 : hp.get? x = some (excO C t0) := hx
    rw [z2] at y
    cases y
  have hsup := T.sup
  unfold ks_superIn at hsup
  rw [hcl] at hsup
  have I2 : InstAt h2 x (excO C t0) C none := ⟨hx₂, rfl, rfl, trivial⟩
  refine kxs_getMethod kxs_ValueError e2 (looks_opaque X₂ T.ho) (l₀ := .ref C :: bm) (fun A Q E s k q => wpAny_bind ((looks_clsIn X₂ hcl) A _ E s k (wpAny_pure q))) rfl X₂ hsup (I2.type.andThen (looks_subIn X₂ T.veC)) hxC (by decide) ?_
  have k3 : ∀ b o, h2.get? b = some o → (h2.push (kxs_mw "ValueError.__init__" x)).get? b = some o := fun b o e => Heap.get?_push_of_some _ e
  refine kxs_callWith (i := "ValueError.__init__") (x := x) (by first | rfl | with_unfolding_all rfl) (evalArgs_plain (args_cons (Constant_str (args_nil ⟨Heap.get?_push_size _ rfl, ?_⟩)) rfl))
  refine call_mw (k3 _ _ (X₂ _ _ hC)) (k3 _ _ hx₂) (Heap.get?_push_size _ rfl) (by rw [sizeLine_eq]; exact (by decide : 1 ≤ 16777216)) fun h4 t1 k4 hx4 => ?_
  have old : ∀ b o, b ≠ x → h₁.get? b = some o → h4.get? b = some o := fun b o hb e => k4 b o hb (k3 b o (k2 b o e))
  have X₄ : K.In h4 := fun a o e => old a o (fun z => by rw [z, hnx] at e; cases e) (X₁ a o e)
  have hxL : hp.objs.size ≠ x := Nat.ne_of_gt (Heap.lt_size (show hp.get? x = some (excO C t0) from hx))
  have hn4 : h4.Ns hp.objs.size _ := hn.at fun o q => old _ o hxL q
  have ld : ∀ {y : Str} {pos : Pos} {u : Value} {t5 : Nat} {E : Value → Shared → Prop} {Q : Value → Shared → Prop}, (fun x_1 => List.lookup x_1 [(("self" : Str), Value.ref x), ("most", v)].reverse) y = some u → (ksEnv "TooMany.__init__" tS hp.objs.size fI (.ref cda) cc).kindOf y = some .local → (y == ("__debug__" : Str)) = false →
      Q u ⟨h4, g, dr, t5, os⟩ → wpAny (model prog w) (A.deeper (ksEnv "TooMany.__init__" tS hp.objs.size fI (.ref cda) cc)) (eval (.Name y pos) (ksEnv "TooMany.__init__" tS hp.objs.size fI (.ref cda) cc)) Q E ⟨h4, g, dr, t5, os⟩ :=
    fun h1 h2 h3 q => wpAny_Name (wpAny_loadName_local rfl h2 hn4 h1 q) h3
  show wpAt _ _ _ (execs _ _) _ _ _
  refine wpAt_of_wpAny (wpAny_execs_cons (plainObj_wpAny_Assign_Attribute ?_))
  refine ld (u := v) (by first | rfl | with_unfolding_all rfl | kernel_rfl) rfl (by decide) (ld (u := .ref x) (by first | rfl | with_unfolding_all rfl | kernel_rfl) rfl (by decide) ?_)
  refine set_plain X₄ (ox := excO C t1) (od := none) ⟨hx4, rfl, rfl, trivial⟩ T.sa ?_
  refine exc_osa X₄ hx4 hcl (show refsVE (.ref C :: bm) = true from hbm) rfl T.noN (fun h5 tk5 dx k5 dn dne hx5 hn5 => ?_)
  show wpAny _ _ (execs _ _) _ _ _
  have z : hp.objs.size < h4.objs.size := hn4.lt
  exact wpAny_execs_nil (hq h5 tk5 dx t1 ⟨fun b o hb e => k5 b o hb (old b o hb (hk b o e)), hx5, Nat.le_of_lt (Nat.lt_of_lt_of_le z dn), dne, hn5⟩)
/-- a made error -/
structure Made (h h' : Heap) (e C d : Addr) (v : Value) : Prop where
  keep : ∀ b o, h.get? b = some o → h'.get? b = some o
  new : h.objs.size ≤ e
  obj : ∃ oe vs, h'.get? e = some oe ∧ oe.cls = .ref C ∧ oe.dict = some d ∧ oe.data = .fields vs ∧ vs[1]? = some .none
  dbig : h.objs.size ≤ d
  dne : d ≠ e
  ns : h'.Ns1 d (fun y => if y = "most" then some v else none)
theorem tm_made (T : TmTxt prog K mg C fI cc cda) {v : Value} (X : K.In s.heap) (hg : s.heap.Ns mainGlobals mg) (hb : s.heap.Ns builtinsNs mb) (hms : mb "super" = some (.type "super")) (hlim : s.heap.NoLimit) (hroom : A.depth + 1 < recursionLimit)
    (hq : ∀ h' tk e d, Made s.heap h' e C d v → R (.ok (.ret (.ref e))) { s with heap := h', toks := tk }) :
    codeAny (model prog w) A (.call (.ref C) ⟨[v], []⟩) R s := by
  obtain ⟨nm, q, N, bs, bm, sn, sub, ab, col, dd, k0, k1, k2, k3, k5, hC, hbm⟩ := T.cls
  obtain ⟨hp, g, dr, tk, os⟩ := s
  have k : ∀ b o, hp.get? b = some o → ((hp.push (kdv_tup [v])).push (excO C hp.objs.size)).get? b = some o := fun b o e => Heap.get?_push_of_some _ (Heap.get?_push_of_some _ e)
  have hget : ((hp.push (kdv_tup [v])).push (excO C hp.objs.size)).get? (hp.objs.size + 1) = some (excO C hp.objs.size) := by heap_get
  have hnx : K.lookup (hp.objs.size + 1) = none := by
    cases e : K.lookup (hp.objs.size + 1) with
    | none => rfl
    | some o => exact absurd (Nat.lt_of_succ_lt (Heap.lt_size (show hp.get? (hp.objs.size + 1) = some o from X _ _ e))) (Nat.lt_irrefl _)
  refine call_own F.excBase_ValueError (fun X => refsVE_contains X bm hbm) (X _ _ hC) (looks_findIn X T.iC) (fun self => bind_fn X self T.tC) (by rw [sizeLine_eq]; exact (by decide : 1 ≤ 16777216)) ?_
  refine tm_init (s := ⟨(hp.push (kdv_tup [v])).push (excO C hp.objs.size), g, dr, tk, os⟩) T (X.keeps k) (hg.keeps k) (hb.keeps k) hms (hlim.keeps k) hget hnx ?_ fun h' tk' dx t1 ⟨k', hx, dn, dne, hns⟩ => ?_
  · show A.depth + 1 < recursionLimit
    exact hroom
  · have old : ∀ b o, hp.get? b = some o → h'.get? b = some o := fun b o e => k' b o (Nat.ne_of_lt (Nat.lt_succ_of_lt (Heap.lt_size e))) (k b o e)
    have z : hp.objs.size + 1 + 1 ≤ dx := by
      have q := dn
      rw [Heap.size_push, Heap.size_push] at q
      exact q
    exact ⟨rfl, hq h' tk' (hp.objs.size + 1) dx ⟨old, Nat.le_succ _, ⟨_, _, hx, rfl, rfl, rfl, rfl⟩, Nat.le_trans (Nat.le_trans (Nat.le_succ _) (Nat.le_succ _)) z, dne, hns⟩⟩
end
end TMX
end PySem
namespace L2
open PySem PySem.Spec PyProof.Rows
theorem relO_most {v : V} {v' : Value} (r : RelV v v') (f : Str) : RelO (List.lookup f [(("most" : Str), v)]) (if f = "most" then some v' else none) := by
  by_cases c : f = "most"
  · subst c
    rw [if_pos rfl, show List.lookup ("most" : Str) [(("most" : Str), v)] = some v by simp [List.lookup]]
    exact r
  · rw [if_neg c, show List.lookup f [(("most" : Str), v)] = none by simp [List.lookup, show (f == ("most" : Str)) = false by simpa using c]]
    trivial
/-- TooMany(e) -/
def tMkTm (C : Addr) (ta : TA) : St → Hp → XK → Prop := fun σ H Q => ta σ H fun vs H1 => ∃ v, vs = [v] ∧ ∀ d, H1 d = none → Q (.ref C) (some d) (upd H1 d (.xd [(("most" : Str), v)]))
theorem pmk_tm {X : Cx} {C fI cc cda : Addr} {a : Expr} {ta : TA} {p pos : Pos} {k : Nat} (T : PySem.TMX.TmTxt X.prog X.K X.mg C fI cc cda) (hr : Room k X.A) (ha : PA X [a] ta) (hg : Gl X "TooMany" := by rfl)
    (he : starEach (a :: []) X.env = (false, eval a X.env) :: starEach [] X.env := by rfl) (hpl : (backTo pos (starEach [] X.env)).any (·.1) = false := by rfl) :
    PMk X (.Call (.Name "TooMany" p) [a] [] pos) (tMkTm C ta) := by
  intro pins s σ H Q I h
  refine wpAny_Call_Name_kw (ld_glob I hg T.gC ?_)
  refine PySem.W.callWith_K (h₀ := X.base) I.ok.mod.kin T.kC (thn (ha.run pos pins s σ H _ I h) fun us s1 hh => ?_) he hpl
  obtain ⟨vs, H1, I1, r1, v, ev, q1⟩ := hh
  subst ev
  refine ⟨I1.kIn, ?_⟩
  obtain ⟨v', rfl, rv⟩ := vals1 r1
  show wpAny _ _ (call (.ref C) [v']) _ _ _
  have hlim := I1.nolimit
  obtain ⟨mb, hmb, hms⟩ := I1.mod.blt
  have hms := (hms "super" (by decide)).trans (show bootBuiltins "super" = some (.type "super") by decide +kernel)
  have hgl := I1.mod.glob.keeps I1.bk
  have hbl := hmb.keeps I1.bk
  obtain ⟨hp, g, dr, tk, os⟩ := s1
  refine wpAny_call (PySem.TMX.tm_made T I1.kIn hgl hbl hms hlim (by have := hr.dp; omega) fun h' tk' e d M => ?_)
  show MkP X pins σ Q (.ref e) ⟨h', g, dr, tk', os⟩
  obtain ⟨oe, fv, hoe, hc, hd, hdat, h1⟩ := M.obj
  have hns := M.ns
  obtain ⟨G', g1, g2⟩ := restrict h' fun b => decide (b ≠ e)
  have gk : ∀ b, b ≠ e → G'.get? b = h'.get? b := fun b hb => g1 b (decide_eq_true hb)
  have ge : G'.get? e = none := g2 e (by simp)
  have old : ∀ b o, hp.get? b = some o → G'.get? b = some o := fun b o q => (gk b (Nat.ne_of_lt (Nat.lt_of_lt_of_le (Heap.lt_size q) M.new))).trans (M.keep b o q)
  have ob : ObjOk X.prog X.w (upd H1 d (.xd [(("most" : Str), v)])) G' d (.xd [(("most" : Str), v)]) := ⟨_, hns.at (fun o q => (gk d M.dne).trans q), fun f => relO_most rv f⟩
  have J : Inv X pins σ (upd H1 d (.xd [(("most" : Str), v)])) ⟨G', g, dr, tk', os⟩ := I1.laid (t' := tk') old M.dbig ob
  refine ⟨e, oe, fv, ⟨G', g, dr, tk', os⟩, _, .ref C, some d, rfl, J, fun b o q => ?_, ge, hoe, ⟨hc, hd⟩, hdat, h1, ?_, rfl, I1.bare, raises_own T.exC T.tyC, q1 d (I1.hok.fresh M.dbig)⟩
  · by_cases hb : b = e
    · rw [hb] at q
      have q' : G'.get? e = some o := q
      rw [ge] at q'
      cases q'
    · exact (gk b hb).symm.trans q
  · rw [upd_ne (Ne.symm M.dne)]
    exact I1.hok.fresh M.new
/-- raise TooMany(e) -/
def tRaiseTm (C : Addr) (W : WX) (ta : TA) : TS := fun _ σ H => tMkTm C ta σ H fun cls d H' => W cls d σ H'
theorem ps_raiseTm {X : Cx} {C fI cc cda : Addr} {a : Expr} {ta : TA} {W : WX} {p pos pos2 : Pos} {k : Nat} (hc : X.calm = true) (T : PySem.TMX.TmTxt X.prog X.K X.mg C fI cc cda) (hr : Room k X.A) (tk : Takes X W) (ha : PA X [a] ta) (hg : Gl X "TooMany" := by rfl)
    (he : starEach (a :: []) X.env = (false, eval a X.env) :: starEach [] X.env := by rfl) (hpl : (backTo pos (starEach [] X.env)).any (·.1) = false := by rfl) :
    PS X (.Raise (some (.Call (.Name "TooMany" p) [a] [] pos)) none pos2) (tRaiseTm C W ta) := ps_raise hc tk (pmk_tm T hr ha hg he hpl)
end L2
end
section
/-! The layer, part 13: defs that let the own error out. -/
namespace Y
open PySem PySem.Spec L2
open PyProof.Rows (envOfC)
/-- as spOf; many: the own error with 1000 -/
def spX {ι : Type} (C : Addr) (ok : ι → Prop) (args : ι → List RP) (many : ι → Prop) (res : ι → RP) : Sp := fun vs H Q E => ∃ (i : ι) (P : Hp), ok i ∧ Le P H ∧ Reps (args i) vs P ∧ (¬ many i → ∀ v P' H', Stp W0 P H P' H' → (res i).r v P' → Q v H') ∧
  (many i → ∀ d P' H', Stp W0 P H P' H' → H' d = some (.xd [(("most" : Str), .int 1000)]) → E (.ref C) (some d) H')
structure CalleeX (P : Program) (w : World) (K : PySem.W.Frag) (mg : Str → Option Value) (base : Heap) (x : Str) (ps : List Str) (k : Nat) (sp : Sp) : Prop where
  ex : ∃ f fd, FnOk P w K mg base (L2.CX P w) k f fd ps sp ∧ mg x = some (.ref f) ∧ PySem.W.keepIn K (.ref f) = true ∧ Binds K fd ps []
section
variable {X : Cx} {x : Str} {ps : List Str} {k : Nat} {sp : Sp} {p pos : Pos} {e : Expr} {es : List Expr} {t : TA} {W : WX} {E : XK}
theorem pe_callX (c : CalleeX X.prog X.w X.K X.mg X.base x ps k sp) (hr : Room k X.A) (hg : Gl X x) (tk : Takes X W) (hW : ∀ cls d σ H, E cls d H → W cls d σ H) (ha : PA X (e :: es) t) (hdb : (x == ("__debug__" : Str)) = false := by decide)
    (he : starEach (e :: es) X.env = (false, eval e X.env) :: starEach es X.env := by rfl) (hpl : (backTo pos (starEach es X.env)).any (·.1) = false := by rfl) : PE X (.Call (.Name x p) (e :: es) [] pos) (tCall sp [] E t) := by
  obtain ⟨f, fd, F, hm, hk, hb⟩ := c.ex
  exact pe_call F hr hg hm hk hb .nil (passes_call tk hW) ha hdb he hpl
theorem pe_callW (c : CalleeX X.prog X.w X.K X.mg X.base x ps k sp) (hr : Room k X.A) (hg : Gl X x) (tk : Takes X W) (ha : PA X (e :: es) t) (hdb : (x == ("__debug__" : Str)) = false := by decide)
    (he : starEach (e :: es) X.env = (false, eval e X.env) :: starEach es X.env := by rfl) (hpl : (backTo pos (starEach es X.env)).any (·.1) = false := by rfl) : PE X (.Call (.Name x p) (e :: es) [] pos) (tCallS sp (WE W) t) := by
  obtain ⟨f, fd, F, hm, hk, hb⟩ := c.ex
  exact pe_callS F hr hg hm hk hb (fun σ => passAt tk σ) ha hdb he hpl
end
section
variable {P : Program} {w : World} {K : PySem.W.Frag} {mg : Str → Option Value} {base : Heap}
theorem DefAt.okX {ι : Type} {C : Addr} {ok : ι → Prop} {args : ι → List RP} {many : ι → Prop} {res : ι → RP} {x : Str} {st : Stmt} {N ps : List Str} {k : Nat} (d : DefAt K mg x st) (S : FnScope N ps (defScope st)) (hb : BindsL x st ps) (hl : ∀ i, ok i → (args i).length = ps.length)
    (hbody : ∀ (f : Addr) (cdv : Value) (A : Around) (outer : List Env) (s : Shared) (H : Hp) (E : XK), Room k (A.deeper (envOfC x (defScope st) s.heap.objs.size f cdv)) →
      ∃ t, PSs (cxOf (L2.CX P w) P w K mg base N x (defScope st) f cdv A outer s H E) (defBody st) t ∧ ∀ (i : ι) (P H : Hp) (σ : St) (Q : VK), ok i → At ⟨W0, P, H, [], none⟩ (entryR N (args i)) [] σ P H →
        (¬ many i → ∀ v P' H', Stp W0 P H P' H' → (res i).r v P' → Q v H') → (many i → ∀ d P' H', Stp W0 P H P' H' → H' d = some (.xd [(("most" : Str), .int 1000)]) → E (.ref C) (some d) H') → t { nx := fun _ H' => Q .non H', rt := Q } σ H) :
    CalleeX P w K mg base x ps (k + 1) (spX C ok args many res) := by
  obtain ⟨f, fd, F, hm⟩ := d
  refine ⟨f, fd, F.ok S (fun vs H Q E h => ?_) (fun cdv A outer s H vs Q E hr h => ?_), hm, F.kp, F.bindsN hb⟩
  · obtain ⟨i, P, hi, _, r, _⟩ := h
    rw [← hl i hi, Paired.length r]
  · obtain ⟨i, P, hi, l, r, q, q2⟩ := h
    obtain ⟨t, h1, h2⟩ := hbody f cdv A outer s H E hr
    exact ⟨t, h1, h2 i P H (L2.start N vs) Q hi (entry_at l r) q q2⟩
end
section
variable {c : Cq} {ρ : List (Option RP)} {μ : Me} {σ : St} {P H : Hp}
theorem q_callX {ι : Type} {C : Addr} {ok : ι → Prop} {args : ι → List RP} {many : ι → Prop} {res : ι → RP} {E₁ : XK} {t : TA} {Q : VK} (i : ι) (a : At c ρ μ σ P H) (e : EA c.W ρ μ t (args i)) (h : ok i) (k1 : ¬ many i → ∀ v P' H', At c ρ μ σ P' H' → (res i).r v P' → Q v H')
    (k2 : many i → ∀ d P' H', At c ρ μ σ P' H' → H' d = some (.xd [(("most" : Str), .int 1000)]) → E₁ (.ref C) (some d) H') : tCall (spX C ok args many res) [] E₁ t σ H Q := by
  refine e σ P H a.ok _ fun x P1 H1 s1 r1 => ?_
  have a1 := a.step s1
  show spX C ok args many res (x ++ []) H1 Q E₁
  rw [List.append_nil]
  have z := fun b w => (a1.ok.hx.z b w).2
  exact ⟨i, P1, h, a1.ok.hx.le, r1, fun hm v P2 H2 s2 r2 => k1 hm v P2 H2 (a1.step (s2.w z)) r2, fun hm d P2 H2 s2 e2 => k2 hm d P2 H2 (a1.step (s2.w z)) e2⟩
theorem q_callW {ι : Type} {C : Addr} {ok : ι → Prop} {args : ι → List RP} {many : ι → Prop} {res : ι → RP} {W : WX} {t : TA} {Q : VK} (i : ι) (a : At c ρ μ σ P H) (e : EA c.W ρ μ t (args i)) (h : ok i) (k1 : ¬ many i → ∀ v P' H', At c ρ μ σ P' H' → (res i).r v P' → Q v H')
    (k2 : many i → ∀ d P' H', At c ρ μ σ P' H' → H' d = some (.xd [(("most" : Str), .int 1000)]) → W (.ref C) (some d) σ H') : tCallS (spX C ok args many res) (WE W) t σ H Q := by
  refine e σ P H a.ok _ fun x P1 H1 s1 r1 => ?_
  have a1 := a.step s1
  have z := fun b w => (a1.ok.hx.z b w).2
  exact ⟨i, P1, h, a1.ok.hx.le, r1, fun hm v P2 H2 s2 r2 => k1 hm v P2 H2 (a1.step (s2.w z)) r2, fun hm d P2 H2 s2 e2 => k2 hm d P2 H2 (a1.step (s2.w z)) e2⟩
theorem q_raise {C : Addr} {W : WX} {ta : TA} {D : Ends} (a : At c ρ μ σ P H) (e : EA c.W ρ μ ta [intR 1000]) (k : ∀ d P' H', At c ρ μ σ P' H' → H' d = some (.xd [(("most" : Str), .int 1000)]) → W (.ref C) (some d) σ H') : tRaiseTm C W ta D σ H := by
  refine e σ P H a.ok _ fun x P1 H1 s1 r1 => ?_
  obtain ⟨v, rfl, rfl⟩ := reps_one r1
  have a1 := a.step s1
  exact ⟨_, rfl, fun d hd => k d P1 _ (a1.step (a1.ok.hx.alloc hd _)) upd_same⟩
end
end Y
namespace Y
open PySem PySem.Spec L2
theorem At.slot {c : Cq} {ρ : List (Option RP)} {μ : Me} {σ : St} {P H : Hp} (a : At c ρ μ σ P H) (i : Nat) (o : Option V) : At c (ρ.set i none) μ (σ.set i o) P H := by
  refine ⟨⟨a.ok.hx, fun j S e => ?_, by rw [List.length_set, List.length_set]; exact a.ok.len⟩, a.ex, a.nw, a.kp, a.lc, a.bs, a.fr⟩
  by_cases z : i = j
  · subst z
    by_cases l : i < ρ.length
    · rw [List.getElem?_set_self l] at e; cases e
    · rw [List.getElem?_eq_none (by simpa using l)] at e; cases e
  · rw [List.getElem?_set_ne z] at e ⊢
    exact a.ok.sat j S e
end Y
end
section
/-! The defs, part 9: the greatest number that is sure. -/
namespace Y
open PySem PySem.Spec L2
open PyProof.Rows (envOfC)
local macro_rules | `(tactic| walk_at "e") => `(tactic| repeat (first
  | exact es_c | exact es_var rfl | exact ea_nil | exact et_yes | with_reducible apply ea_cons | with_reducible apply es_op | with_reducible apply es_cb | with_reducible apply es_un | with_reducible apply es_tup | with_reducible apply es_lst | exact Nat.le_of_ble_eq_true rfl
  | with_reducible apply es_chain | with_reducible apply et_test | with_reducible apply et_B | with_reducible apply et_not | with_reducible apply es_notV
  | exact o2_add | exact o2_sub | exact o2_lt | exact o2_le | exact o2_gt | exact o2_ge | exact o2_eqI | exact o2_neI | exact o1_neg | exact o2_is | exact o2_isnot | exact o2_inDI | exact o2_ninDI | exact o2_inNL | exact o2_inNT | exact o2_ninNL | exact o2_ninNT | exact o2_inL | exact o2_inT | exact o2_ninL | exact o2_ninT | exact o2_eqT | exact o2_eqL
  | exact oc_lenL | exact oc_lenT | exact oc_lenD | exact oc_sumL | exact oc_sumT' | exact oc_max2 | exact oc_min2 | exact oc_sortI | exact oc_tupL | exact oc_int | exact oc_intB | exact oc_abs | exact oc_any | exact oc_all
  | exact o2_div (by constructor <;> omega) | exact o2_mod (by omega) | exact o2_mulT (by first | (left; constructor <;> omega) | (right; constructor <;> omega)) | exact o2_ixL (by omega) rfl | exact o2_ixT (by omega) rfl))
abbrev s_peak : Stmt := top 64
abbrev n_peak : List Str := ["track", "place", "coins", "least", "low", "high", "half"]
theorem sc_peak : FnScope n_peak ["track", "place", "coins"] (defScope s_peak) := ⟨rfl, rfl, rfl, by decide +kernel, rfl, by decide +kernel, by decide +kernel⟩
abbrev s_law_peak : Stmt := top 76
abbrev n_law_peak : List Str := ["_law_track", "_law_place", "_law_coins", "_law_found", "error"]
theorem sc_law_peak : FnScope n_law_peak ["_law_track", "_law_place", "_law_coins"] (defScope s_law_peak) := ⟨rfl, rfl, rfl, by decide +kernel, rfl, by decide +kernel, by decide +kernel⟩
section
variable {P : Program} {w : World} {K : PySem.W.Frag} {mg : Str → Option Value} {base : Heap} {C CE fI cc cda : Addr}
abbrev sp_check_manyX (CE : Addr) : Sp := spX CE (fun i : Int × Int => i.2 = 1000) (fun i => [intR i.1, intR i.2]) (fun i => i.2 < i.1) (fun _ => nonR)
theorem ok_check_manyX (T : Txt K mg) (tm : PySem.TMX.TmTxt P K mg CE fI cc cda) (d : DefAt K mg "check_many" s_check_many) : CalleeX P w K mg base "check_many" ["number", "most"] 1 (sp_check_manyX CE) := by
  refine d.okX sc_check_many (fun _ _ _ _ _ _ us hl => match us, hl with | [_, _], _ => rfl) (fun _ _ => rfl) fun f cdv A outer s H E1 hr => ⟨_, (pss_one (ps_if (pt_cmpR op_uGt (pv 0) (pv 1) (nomark _)) (pss_one (ps_raiseTm rfl tm hr (takes_of rfl rfl rfl rfl) (pa_cons (pv 1) pa_nil))) pss_nil)), fun ⟨n, m⟩ P0 H0 σ0 Q h a q q2 => ?_⟩
  have h : m = 1000 := h
  subst h
  (try dsimp only [tNext]); refine q_if a (b := decide (1000 < n)) (by walk_at "e") (fun e P' H' a' => ?_) (fun e P' H' a' => ?_)
  · (try dsimp only [tNext]); refine q_raise (C := CE) a' (ea_cons (es_var rfl) ea_nil) fun d P2 H2 a2 hd => q2 (of_decide_eq_true e) d P2 H2 (a2.all rfl) hd
  · exact q (of_decide_eq_false e) .non P' H' (a'.all rfl) rfl
abbrev quiet (N : WS.Net) (p : Nat) (c : Int) : Prop := p ∈ WS.hope N ∧ WS.leastC N p ≤ c
abbrev manyP (N : WS.Net) (p : Nat) (c : Int) : Prop := ¬ quiet N p c ∧ (1000 < c ∨ WS.Sure N p c 1001)
open Classical in
noncomputable def pkR (N : WS.Net) (p : Nat) (c : Int) : RP := if quiet N p c then nonR else oneR (WS.Peak N p c) fun g => intR g
theorem pkR_yes {N : WS.Net} {p : Nat} {c : Int} (h : quiet N p c) : pkR N p c = nonR := by unfold pkR; exact if_pos h
theorem pkR_no {N : WS.Net} {p : Nat} {c : Int} (h : ¬ quiet N p c) : pkR N p c = oneR (WS.Peak N p c) fun g => intR g := by unfold pkR; exact if_neg h
noncomputable abbrev sp_peak (C CE : Addr) : Sp := spX CE (fun i : WS.Net × Nat × Int => NW i.1 ∧ (WS.hope i.1).length ≤ 4 ∧ i.2.1 < i.1.length ∧ 0 ≤ i.2.2) (fun i => [trackR C i.1, intR ((i.2.1 : Nat) : Int), intR i.2.2]) (fun i => manyP i.1 i.2.1 i.2.2) (fun i => pkR i.1 i.2.1 i.2.2)
theorem ok_peak (T : Txt K mg) (d : DefAt K mg "peak" s_peak) (c_check_place : Callee P w K mg base "check_place" ["track", "thing"] 4 (sp_check_place C)) (c_check_coins : Callee P w K mg base "check_coins" ["thing"] 3 sp_check_coins)
    (c_check_many : CalleeX P w K mg base "check_many" ["number", "most"] 1 (sp_check_manyX CE)) (c_least_of : Callee P w K mg base "least_of" ["track"] 11 (sp_least_of C)) (c_soonest_of : Callee P w K mg base "soonest_of" ["track", "place", "coins", "goal"] 8 (sp_soonest_of C)) :
    CalleeX P w K mg base "peak" ["track", "place", "coins"] 12 (sp_peak C CE) := by
  refine d.okX sc_peak (fun _ _ _ _ _ _ us hl => match us, hl with | [_, _, _], _ => rfl) (fun _ _ => rfl) fun f cdv A outer s H E1 hr => ⟨_, (pss_cons (ps_expr (pe_callC c_check_place (hr.mono (by decide)) (by rfl) (pa_cons (pv 0) (pa_cons (pv 1) pa_nil))))
  (pss_cons (ps_expr (pe_callC c_check_coins (hr.mono (by decide)) (by rfl) (pa_cons (pv 2) pa_nil)))
  (pss_cons (ps_set (i := 3) sc_peak.nd rfl (Or.inl rfl) (pe_ix (ix_seqK K rfl) (pe_callC c_least_of (hr.mono (by decide)) (by rfl) (pa_cons (pv 0) pa_nil)) (pv 1) (fun _ _ => rfl)))
  (pss_cons (ps_if (PW.pt (pw_and (pt_cmpR op_uIsNot (pv 3) pe_non (nomark _)) (pw_and1 (pt_cmpR op_uGe (pv 2) (pv 3) (nomark _))))) (pss_one (ps_ret pe_non)) pss_nil)
  (pss_cons (ps_expr (pe_callX c_check_many (hr.mono (by decide)) (by rfl) (takes_of rfl rfl rfl rfl) (fun _ _ _ _ h => h) (pa_cons (pv 2) (pa_cons (p_int (by rfl) T.MOST_GOAL) pa_nil))))
  (pss_cons (ps_if (pt_cmpR op_uIsNot (pe_callC c_soonest_of (hr.mono (by decide)) (by rfl) (pa_cons (pv 0) (pa_cons (pv 1) (pa_cons (pv 2) (pa_cons (pe_op op_uAdd (p_int (by rfl) T.MOST_GOAL) pe_int) pa_nil))))) pe_non (nomark _)) (pss_one (ps_expr (pe_callX c_check_many (hr.mono (by decide)) (by rfl) (takes_of rfl rfl rfl rfl) (fun _ _ _ _ h => h) (pa_cons (pe_op op_uAdd (p_int (by rfl) T.MOST_GOAL) pe_int) (pa_cons (p_int (by rfl) T.MOST_GOAL) pa_nil))))) pss_nil)
  (pss_cons (ps_set (i := 4) sc_peak.nd rfl (Or.inl rfl) (pv 2))
  (pss_cons (ps_set (i := 5) sc_peak.nd rfl (Or.inl rfl) (p_int (by rfl) T.MOST_GOAL))
  (pss_cons (ps_while (passes_of rfl) (pt_cmpR (op_uLtK K rfl hr.units) (pv 4) (pv 5) (nomark _))
  (pss_cons (ps_set (i := 6) sc_peak.nd rfl (Or.inl rfl) (pe_op op_uDiv (pe_op op_uAdd (pe_op op_uAdd (pv 4) (pv 5)) pe_int) pe_int))
  (pss_one (ps_if (pt_cmpR op_uIs (pe_callC c_soonest_of (hr.mono (by decide)) (by rfl) (pa_cons (pv 0) (pa_cons (pv 1) (pa_cons (pv 2) (pa_cons (pv 6) pa_nil))))) pe_non (nomark _)) (pss_one (ps_set (i := 5) sc_peak.nd rfl (Or.inl rfl) (pe_op op_uSub (pv 6) pe_int))) (pss_one (ps_set (i := 4) sc_peak.nd rfl (Or.inl rfl) (pv 6)))))))
  (pss_one (ps_ret (pv 4)))))))))))), fun ⟨N, p, c⟩ P0 H0 σ0 Q ⟨hn, h4, hp, hc⟩ a q q2 => ?_⟩
  simp only at hn h4 hp hc
  (try dsimp only [tNext]); refine sq (q_drop a (es_call (N, p) (by walk_at "e") hp) fun P1 H1 a1 => ?_)
  (try dsimp only [tNext]); refine sq (q_drop a1 (es_call c (by walk_at "e") hc) fun P2 H2 a2 => ?_)
  (try dsimp only [tNext]); refine sq (q_set (R := valR (lv N p)) a2 (es_op (es_call N (by walk_at "e") ⟨hn, h4⟩) (es_var rfl) (o2_ixT (by omega) ?_)) fun v3 P3 H3 a3 => ?_)
  · rw [Int.toNat_natCast, List.getElem?_map, List.getElem?_range hp]
    rfl
  have hq : quiet N p c ∨ ¬ quiet N p c := Classical.em _
  have test : ∃ b : Bool, (b = true ↔ quiet N p c) ∧ Y.T W0 [some (trackR C N), some (intR ((p : Nat) : Int)), some (intR c), some (valR (lv N p)), none, none, none] [] (tAnd (tTest (tOp uIsNot (tVar 3) (tC .non))) (tTest (tOp uGe (tVar 2) (tVar 3)))) b := by
    by_cases hh : p ∈ WS.hope N
    · have e : lv N p = .int (WS.leastC N p) := if_pos hh
      rw [e]
      refine ⟨true && decide (WS.leastC N p ≤ c), ?_, et_and (et_test (es_eqB (es_op (es_var (R := intR (WS.leastC N p)) rfl) es_c o2_isnot) (by simp))) fun _ => et_test (es_op (es_var (R := intR c) rfl) (es_var (R := intR (WS.leastC N p)) rfl) o2_ge)⟩
      rw [Bool.true_and, decide_eq_true_iff]
      exact ⟨fun h => ⟨hh, h⟩, fun h => h.2⟩
    · have e : lv N p = .non := if_neg hh
      rw [e]
      exact ⟨false && true, ⟨fun h => (nomatch h), fun h => absurd h.1 hh⟩, et_and (et_test (es_eqB (es_op (es_var (R := nonR) rfl) es_c o2_isnot) (by simp))) fun z => by cases z⟩
  obtain ⟨b, hb, ht⟩ := test
  (try dsimp only [tNext]); refine sq (q_if a3 (b := b) ht (fun e P' H' a' => ?_) fun e P4 H4 a4 => ?_)
  · have hq := hb.mp e
    refine a'.e (es_c (v := .non)) fun v P5 H5 a5 r => q (fun z => z.1 hq) v P5 H5 (a5.all rfl) ?_
    show (pkR N p c).r v P5
    rw [pkR_yes hq]
    exact r
  have hq : ¬ quiet N p c := fun z => by rw [hb.mpr z] at e; cases e
  (try dsimp only [tNext]); refine sq (q_callX (many := fun i : Int × Int => i.2 < i.1) (c, 1000) a4 (by walk_at "e") rfl (fun hm v P5 H5 a5 r => ?_) fun hm d P5 H5 a5 hd => q2 ⟨hq, .inl hm⟩ d P5 H5 (a5.all rfl) hd)
  have hm : c ≤ 1000 := Int.not_lt.mp hm
  (try dsimp only [tNext]); refine sq (q_if a5 (b := sureB N p c 1001) ?_ (fun e P' H' a' => ?_) fun e P6 H6 a6 => ?_)
  · refine et_eq (et_test (es_op (es_call (N, p, c, 1001) (by walk_at "e") ⟨hn, hp, (by decide : (0 : Int) ≤ 1001), (by decide : (1001 : Int) < 2 ^ 61)⟩) es_c o2_isnotRk)) (by simp)
  · have hs : WS.Sure N p c 1001 := @of_decide_eq_true _ (Classical.propDecidable _) e
    (try dsimp only [tNext]); refine q_callX (many := fun i : Int × Int => i.2 < i.1) (1001, 1000) a' (by walk_at "e") rfl (fun hm => absurd (by decide : (1000 : Int) < 1001) hm) fun hm d P7 H7 a7 hd => q2 ⟨hq, .inr hs⟩ d P7 H7 (a7.all rfl) hd
  have hs : ¬ WS.Sure N p c 1001 := @of_decide_eq_false _ (Classical.propDecidable _) e
  (try dsimp only [tNext]); refine sq (q_set (R := intR c) a6 (es_var rfl) fun v7 P7 H7 a7 => ?_)
  (try dsimp only [tNext]); refine sq (q_set (R := intR 1000) a7 es_c fun v8 P8 H8 a8 => ?_)
  (try dsimp only [tNext]); refine sq (q_while (X := Int × Int) (fun x => c ≤ x.1 ∧ x.1 ≤ x.2 ∧ x.2 ≤ 1000 ∧ WS.Sure N p c x.1 ∧ ¬ WS.Sure N p c (x.2 + 1)) (fun x => (x.2 - x.1).toNat) (fun x => [some (trackR C N), some (intR ((p : Nat) : Int)), some (intR c), none, some (intR x.1), some (intR x.2), none]) (fun _ => []) (fun x => decide (x.1 < x.2))
    ⟨(c, 1000), ⟨Int.le_refl _, hm, Int.le_refl _, WS.sure_now (Int.le_refl _), hs⟩, a8.drop 3⟩ (fun x hx => by walk_at "e") (fun x σ P H hx hb a => ?_) fun x σ P H hx hb a => ?_)
  · obtain ⟨h1, h2, h3, h5, h6⟩ := hx
    have hb : x.1 < x.2 := of_decide_eq_true hb
    (try dsimp only [tNext]); refine sq (q_set (R := intR ((x.1 + x.2 + 1) / 2)) a (by walk_at "e") fun v9 P9 H9 a9 => ?_)
    (try dsimp only [tNext]); refine q_if a9 (b := !sureB N p c ((x.1 + x.2 + 1) / 2)) (et_test (es_op (es_call (N, p, c, (x.1 + x.2 + 1) / 2) (by walk_at "e") ⟨hn, hp, by dsimp only; omega, by dsimp only; omega⟩) es_c o2_isRk)) (fun e P' H' a' => ?_) (fun e P' H' a' => ?_)
    · have hno : ¬ WS.Sure N p c ((x.1 + x.2 + 1) / 2) := fun z => by rw [sureB_yes z] at e; cases e
      (try dsimp only [tNext]); refine q_set (R := intR ((x.1 + x.2 + 1) / 2 - 1)) a' (by walk_at "e") fun v4 P4 H4 a4 => ⟨(x.1, (x.1 + x.2 + 1) / 2 - 1), P4, ?_, ⟨h1, by dsimp only; omega, by dsimp only; omega, h5, ?_⟩, a4.drop 6⟩
      · dsimp only
        omega
      · dsimp only
        rw [show (x.1 + x.2 + 1) / 2 - 1 + 1 = (x.1 + x.2 + 1) / 2 by omega]
        exact hno
    · have hyes : WS.Sure N p c ((x.1 + x.2 + 1) / 2) := Classical.byContradiction fun z => by rw [sureB_no z] at e; cases e
      (try dsimp only [tNext]); refine q_set (R := intR ((x.1 + x.2 + 1) / 2)) a' (es_var rfl) fun v4 P4 H4 a4 => ⟨((x.1 + x.2 + 1) / 2, x.2), P4, ?_, ⟨by dsimp only; omega, by dsimp only; omega, h3, hyes, h6⟩, a4.drop 6⟩
      dsimp only
      omega
  · obtain ⟨h1, h2, h3, h5, h6⟩ := hx
    have hb : ¬ x.1 < x.2 := of_decide_eq_false hb
    have hx2 : x.2 = x.1 := by omega
    rw [hx2] at h6
    refine a.e (es_var (R := intR x.1) rfl) fun v P5 H5 a5 r => q (fun z => z.2.elim (fun z => absurd z (Int.not_lt.mpr hm)) hs) v P5 H5 (a5.all rfl) ?_
    show (pkR N p c).r v P5
    rw [pkR_no hq]
    exact ⟨x.1, ⟨h1, by omega, h5, h6⟩, r⟩
def t_law_peak (K : PySem.W.Frag) (C CE : Addr) : TS := fun D σ H => tAsg (tCallS (sp_peak C CE) (WE (wAs K (.ref CE) 4 (fun a cls d => tAsg (tTup (tCons (tC (.str "many")) (tCons (tXf a cls d CE "most" (tVar 4)) tNil))) (gName 3)) (fun _ _ _ _ => False) D)) (tCons (tVar 0) (tCons (tVar 1) (tCons (tVar 2) tNil)))) (gName 3) D σ H
open Classical in
/-- what the law is told of a peak -/
noncomputable def tellR (N : WS.Net) (p : Nat) (c : Int) : RP := if manyP N p c then tupR [valR (.str "many"), intR 1000] else pkR N p c
theorem tellR_many {N : WS.Net} {p : Nat} {c : Int} (h : manyP N p c) : tellR N p c = tupR [valR (.str "many"), intR 1000] := by unfold tellR; exact if_pos h
theorem tellR_no {N : WS.Net} {p : Nat} {c : Int} (h : ¬ manyP N p c) : tellR N p c = pkR N p c := by unfold tellR; exact if_neg h
noncomputable abbrev sp_law_peak (C : Addr) : Sp := spOf (fun i : WS.Net × Nat × Int => NW i.1 ∧ (WS.hope i.1).length ≤ 4 ∧ i.2.1 < i.1.length ∧ 0 ≤ i.2.2) (fun i => [trackR C i.1, intR ((i.2.1 : Nat) : Int), intR i.2.2]) (fun i => tellR i.1 i.2.1 i.2.2)
theorem ok__law_peak (T : Txt K mg) (tm : PySem.TMX.TmTxt P K mg CE fI cc cda) (d : DefAt K mg "_law_peak" s_law_peak) (c_peak : CalleeX P w K mg base "peak" ["track", "place", "coins"] 12 (sp_peak C CE)) : Callee P w K mg base "_law_peak" ["_law_track", "_law_place", "_law_coins"] 13 (sp_law_peak C) := by
  refine d.ok sc_law_peak (fun _ _ _ _ _ _ us hl => match us, hl with | [_, _, _], _ => rfl) (fun _ _ => rfl) fun f cdv A outer s H E1 hr => ⟨_, pss_cons (ps_set (i := 3) sc_law_peak.nd rfl (Or.inl rfl) pe_non) (pss_cons (t := t_law_peak K C CE) (ps_try_as (i := 4) (tb := fun W => tAsg (tCallS (sp_peak C CE) (WE W) (tCons (tVar 0) (tCons (tVar 1) (tCons (tVar 2) tNil)))) (gName 3)) (ts := fun a cls d => tAsg (tTup (tCons (tC (.str "many")) (tCons (tXf a cls d CE "most" (tVar 4)) tNil))) (gName 3)) (Wout := fun _ _ _ _ => False) rfl rfl sc_law_peak.nd rfl rfl ⟨rfl, by decide, Or.inl tm.gC⟩ takes0
    (fun W pn xe tk _ => pss_one (ps_set (i := 3) sc_law_peak.nd rfl (Or.inl rfl) (by exact (pe_callW c_peak (hr.mono (by decide)) rfl tk (by exact (pa_cons (pv 0) (pa_cons (pv 1) (pa_cons (pv 2) pa_nil))))))))
    (fun a oe cls d pn hz hf => pss_one (ps_set (i := 3) sc_law_peak.nd rfl (Or.inl rfl) (by exact (pe_tup (pa_cons pe_str (pa_cons (pe_xf tm.xf tm.noN hz hf (pv 4)) pa_nil))))))) (pss_one (ps_ret (pv 3)))), fun ⟨N, p, c⟩ P0 H0 σ0 Q ⟨hn, h4, hp, hc⟩ a q => ?_⟩
  simp only at hn h4 hp hc
  (try dsimp only [tNext]); refine sq (q_set (R := nonR) a es_c fun v1 P1 H1 a1 => ?_)
  refine sq ?_
  (try dsimp only [tNext]); refine q_callW (many := fun i : WS.Net × Nat × Int => manyP i.1 i.2.1 i.2.2) (N, p, c) a1 (by walk_at "e") ⟨hn, h4, hp, hc⟩ (fun hm v P2 H2 a2 r => ?_) fun hm d P2 H2 a2 hd => ?_
  · have a3 := a2.set r 3
    exact a3.e (es_var (R := pkR N p c) rfl) fun v P4 H4 a4 r4 => q v P4 H4 (a4.all rfl) (by show (tellR N p c).r v P4; rw [tellR_no hm]; exact r4)
  · refine ⟨true, tm.te, fun _ a0 ha0 => ?_, fun z => (nomatch z)⟩
    have a3 := a2.slot 4 (some (.ref a0))
    have l : 4 < (σ0.set 3 (some v1)).length := by rw [a2.ok.len]; show 4 < 5; decide
    refine ⟨.ref a0, List.getElem?_set_self l, rfl, rfl, d, _, _, rfl, hd, rfl, small_line (by decide), fun t ht => ?_⟩
    have s4 := a3.ok.hx.new ht (.tup [.str "many", .int 1000])
    have a4 := (a3.step s4).set (v := .ref t) (R := tupR [valR (.str "many"), intR 1000]) ⟨t, _, rfl, upd_same, .cons rfl (.cons rfl .nil)⟩ 3
    have a5 := a4.slot 4 none
    exact a5.e (es_var (R := tupR [valR (.str "many"), intR 1000]) rfl) fun v P6 H6 a6 r6 => q v P6 H6 (a6.all rfl) (by show (tellR N p c).r v P6; rw [tellR_many hm]; exact r6)
end
end Y
end
section
/-! The defs, part 10: the law's own reckoning of what is sure. -/
namespace Y
open PySem PySem.Spec L2
open PyProof.Rows (envOfC)
local macro_rules | `(tactic| walk_at "e") => `(tactic| repeat (first
  | exact es_c | exact es_var rfl | exact ea_nil | exact et_yes | with_reducible apply ea_cons | with_reducible apply es_op | with_reducible apply es_cb | with_reducible apply es_un | with_reducible apply es_tup | with_reducible apply es_lst | exact Nat.le_of_ble_eq_true rfl
  | with_reducible apply es_chain | with_reducible apply et_test | with_reducible apply et_B | with_reducible apply et_not | with_reducible apply es_notV
  | exact o2_add | exact o2_sub | exact o2_lt | exact o2_le | exact o2_gt | exact o2_ge | exact o2_eqI | exact o2_neI | exact o1_neg | exact o2_is | exact o2_isnot | exact o2_inDI | exact o2_ninDI | exact o2_inNL | exact o2_inNT | exact o2_ninNL | exact o2_ninNT | exact o2_inL | exact o2_inT | exact o2_ninL | exact o2_ninT | exact o2_eqT | exact o2_eqL
  | exact oc_lenL | exact oc_lenT | exact oc_lenD | exact oc_sumL | exact oc_sumT' | exact oc_max2 | exact oc_min2 | exact oc_sortI | exact oc_tupL | exact oc_int | exact oc_intB | exact oc_abs | exact oc_any | exact oc_all
  | exact o2_div (by constructor <;> omega) | exact o2_mod (by omega) | exact o2_mulT (by first | (left; constructor <;> omega) | (right; constructor <;> omega)) | exact o2_ixL (by omega) rfl | exact o2_ixT (by omega) rfl))
abbrev s_law_steps : Stmt := top 71
abbrev n_law_steps : List Str := ["_law_parts_here", "_law_place", "_law_start", "_law_letter", "_law_pay", "_law_goal"]
theorem sc_law_steps : FnScope n_law_steps ["_law_parts_here", "_law_place"] (defScope s_law_steps) := ⟨rfl, rfl, rfl, by decide +kernel, rfl, by decide +kernel, by decide +kernel⟩
abbrev s_law_up : Stmt := top 72
abbrev n_law_up : List Str := ["_law_top", "_law_bottom"]
theorem sc_law_up : FnScope n_law_up ["_law_top", "_law_bottom"] (defScope s_law_up) := ⟨rfl, rfl, rfl, by decide +kernel, rfl, by decide +kernel, by decide +kernel⟩
abbrev s_law_need : Stmt := top 73
abbrev n_law_need : List Str := ["_law_pairs", "_law_most", "_law_best", "_law_kept", "_law_coins", "_law_goal", "_law_pay"]
theorem sc_law_need : FnScope n_law_need ["_law_pairs"] (defScope s_law_need) := ⟨rfl, rfl, rfl, by decide +kernel, rfl, by decide +kernel, by decide +kernel⟩
abbrev s_law_nearer : Stmt := top 74
abbrev n_law_nearer : List Str := ["_law_parts_here", "_law_goal", "_law_found", "_law_later", "_law_place", "_law_letter", "_law_pay", "_law_there"]
theorem sc_law_nearer : FnScope n_law_nearer ["_law_parts_here", "_law_goal", "_law_found"] (defScope s_law_nearer) := ⟨rfl, rfl, rfl, by decide +kernel, rfl, by decide +kernel, by decide +kernel⟩
abbrev s_law_soonest : Stmt := top 75
abbrev n_law_soonest : List Str := ["_law_parts_here", "_law_place", "_law_coins", "_law_goal", "_law_found", "_law_turn", "_law_later"]
theorem sc_law_soonest : FnScope n_law_soonest ["_law_parts_here", "_law_place", "_law_coins", "_law_goal"] (defScope s_law_soonest) := ⟨rfl, rfl, rfl, by decide +kernel, rfl, by decide +kernel, by decide +kernel⟩
abbrev s_law_peak_right : Stmt := top 77
abbrev n_law_peak_right : List Str := ["_law_track", "_law_parts_here", "_law_place", "_law_coins", "_law_told"]
theorem sc_law_peak_right : FnScope n_law_peak_right ["_law_track", "_law_parts_here", "_law_place", "_law_coins", "_law_told"] (defScope s_law_peak_right) := ⟨rfl, rfl, rfl, by decide +kernel, rfl, by decide +kernel, by decide +kernel⟩
abbrev ltr (c : Nat) : RP := valR (.str ⟨#[c]⟩)
abbrev arrR (a : WS.Arr) : RP := tupR [intR ((a.place : Nat) : Int), ltr a.letter, intR a.pay, intR ((a.goal : Nat) : Int)]
abbrev partsR (n : Nat) (A : List WS.Arr) : RP := tupR [intR ((n : Nat) : Int), tupR (A.map arrR)]
theorem tg4 {W : Wd} {ρ : List (Option RP)} {μ : Me} {K : PySem.W.Frag} {i j k l : Nat} {a : WS.Arr} : Tg W ρ μ (gTup K 4 (gCons (gName i) (gCons (gName j) (gCons (gName k) (gCons (gName l) gNil))))) (arrR a) ((((ρ.set i (some (intR ((a.place : Nat) : Int)))).set j (some (ltr a.letter))).set k (some (intR a.pay))).set l (some (intR ((a.goal : Nat) : Int)))) ([i] ++ ([j] ++ ([k] ++ ([l] ++ [])))) :=
  tg_tup (tgs_cons tg_name (tgs_cons tg_name (tgs_cons tg_name (tgs_cons tg_name tgs_nil)))) rfl
section
variable {P : Program} {w : World} {K : PySem.W.Frag} {mg : Str → Option Value} {base : Heap} {C : Addr}
theorem dec_castI {i j : Nat} : decide (((i : Nat) : Int) = ((j : Nat) : Int)) = decide (i = j) := by
  by_cases h : i = j
  · simp [h]
  · rw [decide_eq_false h, decide_eq_false (by omega)]
abbrev sp_law_steps : Sp := spOf (fun i : Nat × List WS.Arr × Nat => i.2.2 < i.1 ∧ i.2.1.length ≤ 100) (fun i => [partsR i.1 i.2.1, intR ((i.2.2 : Nat) : Int)]) (fun i => stR (WS.st (WS.netOf i.1 i.2.1) i.2.2))
theorem ok__law_steps (T : Txt K mg) (d : DefAt K mg "_law_steps" s_law_steps) : Callee P w K mg base "_law_steps" ["_law_parts_here", "_law_place"] 1 sp_law_steps := by
  refine d.ok sc_law_steps (fun _ _ _ _ _ _ us hl => match us, hl with | [_, _], _ => rfl) (fun _ _ => rfl) fun f cdv A outer s H E1 hr => ⟨_, (pss_one (ps_ret (pe_lc (own := [("_law_start", 2), ("_law_letter", 3), ("_law_pay", 4), ("_law_goal", 5)]) (by rfl) sc_law_steps.nd (pi_tupK K rfl (pe_ix (ix_seqK K rfl) (pv 0) pe_int (fun _ _ => rfl))) (blkOk_by (own := [("_law_start", 2), ("_law_letter", 3), ("_law_pay", 4), ("_law_goal", 5)]) (N := n_law_steps) (sc := defScope s_law_steps) (by decide +kernel)) (fun _ _ _ _ _ => (pg_tupK (n := 4) K rfl rfl (pgs_cons (pg_name (i := 2) sc_law_steps.nd rfl (Or.inl rfl)) (pgs_cons (pg_name (i := 3) sc_law_steps.nd rfl (Or.inl rfl)) (pgs_cons (pg_name (i := 4) sc_law_steps.nd rfl (Or.inl rfl)) (pgs_cons (pg_name (i := 5) sc_law_steps.nd rfl (Or.inl rfl)) pgs_nil)))))) (fun _ _ _ _ _ => (pts_one (pt_cmpR (op_uEqK K rfl hr.units) (pv 2) (pv 1) (nomark _)))) (fun _ _ _ _ _ => (pe_tup (pa_cons (pv 3) (pa_cons (pv 4) (pa_cons (pv 5) pa_nil)))))))), fun ⟨n, As, p⟩ P0 H0 σ0 Q ⟨hp, hl⟩ a q => ?_⟩
  simp only at hp hl
  (try dsimp only [tNext]); refine q_end a (es_eq (es_lc (as := As) (RA := arrR) (f := fun a => decide (a.place = p)) (RB := fun a => sR (a.pay, a.goal)) (src_tup (es_op (es_var (R := partsR n As) rfl) es_c (o2_ixT (by omega) rfl))) (fun a ha => tg4) (by decide) (fun a ha => ?_) (fun a ha _ => ?_) (by omega)) (R' := stR (WS.st (WS.netOf n As) p)) (by rw [WS.st_netOf hp]; unfold WS.outs stR; rw [List.map_map]; rfl)) rfl rfl (by exact q)
  · exact et_eq (et_test (es_op (es_var (R := intR ((a.place : Nat) : Int)) rfl) (es_var (R := intR ((p : Nat) : Int)) rfl) o2_eqI)) dec_castI
  · exact es_tup (ea_cons (es_is (es_var (R := ltr a.letter) rfl) fun _ _ _ => trivial) (ea_cons (es_var rfl) (ea_cons (es_var rfl) ea_nil))) (by simp)
abbrev sp_law_up : Sp := spOf (fun i : Int × Int => 0 < i.2 ∧ i.2 ≤ 9) (fun i => [intR i.1, intR i.2]) (fun i => intR (WS.cdiv i.1 i.2))
theorem ok__law_up (T : Txt K mg) (d : DefAt K mg "_law_up" s_law_up) : Callee P w K mg base "_law_up" ["_law_top", "_law_bottom"] 1 sp_law_up := by
  refine d.ok sc_law_up (fun _ _ _ _ _ _ us hl => match us, hl with | [_, _], _ => rfl) (fun _ _ => rfl) fun f cdv A outer s H E1 hr => ⟨_, (pss_one (ps_ret (pe_op op_uSub pe_int (pe_op op_uDiv (pe_op op_uSub pe_int (pv 0)) (pv 1))))), fun ⟨x, y⟩ P0 H0 σ0 Q ⟨h1, h2⟩ a q => ?_⟩
  simp only at h1 h2
  (try dsimp only [tNext]); refine q_end a (es_eqI (i := 0 - (0 - x) / y) (by walk_at "e") ?_) rfl rfl (by exact q)
  unfold WS.cdiv
  rw [Int.zero_sub, Int.zero_sub]
noncomputable abbrev sp_law_need : Sp := spOf (fun ps : WS.Prs => ps ≠ [] ∧ ps.length ≤ 3 ∧ WS.Pays ps ∧ ∀ q ∈ ps, 0 ≤ q.1 ∧ q.1 ≤ 1000) (fun ps => [prsR ps]) (fun ps => intR (WS.nd ps))
theorem ok__law_need (T : Txt K mg) (d : DefAt K mg "_law_need" s_law_need) (c__law_up : Callee P w K mg base "_law_up" ["_law_top", "_law_bottom"] 1 sp_law_up) : Callee P w K mg base "_law_need" ["_law_pairs"] 2 sp_law_need := by
  refine d.ok sc_law_need (fun _ _ _ _ _ _ us hl => match us, hl with | [_], _ => rfl) (fun _ _ => rfl) fun f cdv A outer s H E1 hr => ⟨_, (pss_cons (ps_set (i := 1) sc_law_need.nd rfl (Or.inl rfl) (pe_callB (cr_maxUK K rfl rfl) (by rfl) T.max bo_max (pa_cons (pe_lc (own := [("_law_goal", 5), ("_law_pay", 6)]) (by rfl) sc_law_need.nd (pi_listK K rfl (pv 0)) (blkOk_by (own := [("_law_goal", 5), ("_law_pay", 6)]) (N := n_law_need) (sc := defScope s_law_need) (by decide +kernel)) (fun _ _ _ _ _ => (pg_tupK (n := 2) K rfl rfl (pgs_cons (pg_name (i := 5) sc_law_need.nd rfl (Or.inl rfl)) (pgs_cons (pg_name (i := 6) sc_law_need.nd rfl (Or.inl rfl)) pgs_nil)))) (fun _ _ _ _ _ => pts_nil) (fun _ _ _ _ _ => (pv 5))) pa_nil)))
  (pss_cons (ps_set (i := 2) sc_law_need.nd rfl (Or.inl rfl) (pv 1))
  (pss_cons (ps_for PassesOwn.never rfl (pi_range1 (by rfl) T.range (pa_cons (pv 1) pa_nil)) (pg_name (i := 3) sc_law_need.nd rfl (Or.inr rfl))
  (pss_one (ps_if (pt_cmpR (op_uEqK K rfl hr.units) (pe_callB (cr_lenK K rfl) (by rfl) T.len bo_len (pa_cons (pe_lc (own := [("_law_goal", 5), ("_law_pay", 6)]) (by rfl) sc_law_need.nd (pi_listK K rfl (pv 0)) (blkOk_by (own := [("_law_goal", 5), ("_law_pay", 6)]) (N := n_law_need) (sc := defScope s_law_need) (by decide +kernel)) (fun _ _ _ _ _ => (pg_tupK (n := 2) K rfl rfl (pgs_cons (pg_name (i := 5) sc_law_need.nd rfl (Or.inl rfl)) (pgs_cons (pg_name (i := 6) sc_law_need.nd rfl (Or.inl rfl)) pgs_nil)))) (fun _ _ _ _ _ => (pts_one (PW.pt (pw_and (pt_cmpR (op_uEqK K rfl hr.units) (pv 6) pe_int (nomark _)) (pw_and1 (pt_cmpR op_uGt (pv 5) (pv 3) (nomark _))))))) (fun _ _ _ _ _ => pe_int)) pa_nil)) pe_int (nomark _)) (pss_cons (ps_set (i := 4) sc_law_need.nd rfl (Or.inl rfl) (pe_op op_uAdd (pv 3) (pe_callB (cr_sumUK K rfl rfl) (by rfl) T.sum bo_sum (pa_cons (pe_lc (own := [("_law_goal", 5), ("_law_pay", 6)]) (by rfl) sc_law_need.nd (pi_listK K rfl (pv 0)) (blkOk_by (own := [("_law_goal", 5), ("_law_pay", 6)]) (N := n_law_need) (sc := defScope s_law_need) (by decide +kernel)) (fun _ _ _ _ _ => (pg_tupK (n := 2) K rfl rfl (pgs_cons (pg_name (i := 5) sc_law_need.nd rfl (Or.inl rfl)) (pgs_cons (pg_name (i := 6) sc_law_need.nd rfl (Or.inl rfl)) pgs_nil)))) (fun _ _ _ _ _ => (pts_one (pt_cmpR op_uGt (pv 6) pe_int (nomark _)))) (fun _ _ _ _ _ => (pe_callC c__law_up (hr.mono (by decide)) (by rfl) (pa_cons (pe_callB (cr_maxUK K rfl rfl) (by rfl) T.max bo_max (pa_cons pe_int (pa_cons (pe_op op_uSub (pv 5) (pv 3)) pa_nil))) (pa_cons (pv 6) pa_nil))))) pa_nil))))
  (pss_one (ps_set (i := 2) sc_law_need.nd rfl (Or.inl rfl) (pe_callB (cr_minUK K rfl rfl hr.units) (by rfl) T.min bo_min (pa_cons (pv 2) (pa_cons (pv 4) pa_nil)))))) pss_nil)))
  (pss_one (ps_ret (pv 2)))))), fun ps P0 H0 σ0 Q ⟨hne, h3, hp, hb⟩ a q => ?_⟩
  have hne : ps ≠ [] := hne
  have h3 : ps.length ≤ 3 := h3
  have hp : WS.Pays ps := hp
  have hb : ∀ q ∈ ps, 0 ≤ q.1 ∧ q.1 ≤ 1000 := hb
  have mge : ∀ q ∈ ps, q.1 ≤ WS.topOf (ps.map (·.1)) := fun q hq => WS.topOf_ge (List.mem_map.mpr ⟨q, hq, rfl⟩)
  have m0 := WS.topOf_nonneg (ps.map (·.1))
  have mm : WS.topOf (ps.map (·.1)) ∈ ps.map (·.1) := by
    rcases List.mem_cons.mp (WS.topOf_mem (ps.map fun q : Int × Int => q.1)) with e | h
    · obtain ⟨q, hq⟩ := List.exists_mem_of_ne_nil _ hne
      have := mge q hq
      have := (hb q hq).1
      rw [e]
      exact List.mem_map.mpr ⟨q, hq, by omega⟩
    · exact h
  have m1 : WS.topOf (ps.map (·.1)) ≤ 1000 := by
    obtain ⟨q, hq, e⟩ := List.mem_map.mp mm
    rw [← e]
    exact (hb q hq).2
  (try dsimp only [tNext]); refine sq (q_set (R := intR (WS.topOf (ps.map (·.1)))) a (es_cb (ea_cons (es_eq (es_lc0 (as := ps) (RA := pairR) (RB := fun q => intR q.1) (src_list (es_var rfl)) (fun q hq => tgP) (by decide) (fun q hq => es_var rfl) (by omega)) (R' := lstR ((ps.map (·.1)).map fun n => intR n)) (by rw [List.map_map]; rfl)) ea_nil) (oc_max1 mm fun y hy => WS.topOf_ge hy)) fun v1 P1 H1 a1 => ?_)
  generalize hm : WS.topOf (ps.map (·.1)) = m at mge m0 m1 a1
  (try dsimp only [tNext]); refine sq (q_set (R := intR m) a1 (es_var rfl) fun v2 P2 H2 a2 => ?_)
  (try dsimp only [tNext]); refine sq (q_for (as := List.range m.toNat) (RA := fun i => intR ((i : Nat) : Int)) (X := Int) (fun k b => WS.Best ps m k b) (fun _ b => [some (prsR ps), some (intR m), some (intR b), none, none, none, none]) (fun _ _ => []) a2 (src_range1 (ea_cons (es_var (R := intR m) rfl) ea_nil) ⟨by omega, by omega⟩)
    (fun P' H' a' => ⟨m, ⟨⟨m, ⟨m0, fun q hq _ => mge q hq⟩, WS.tot_all mge⟩, Int.le_refl _, fun k h => absurd h (Nat.not_lt_zero _)⟩, a'⟩) (fun k b i hk _ => tg_name) (fun B k b i σ P H hk hB a => ?_) fun b σ P H hB a => ?_)
  · have ei : i = k := by
      obtain ⟨l, e⟩ := List.getElem?_eq_some_iff.mp hk
      rw [List.getElem_range] at e
      exact e.symm
    subst ei
    have hk0 : (0 : Int) ≤ ((i : Nat) : Int) := by omega
    have hc := WS.okk_count hk0 ps
    (try dsimp only [tNext]); refine q_if a (b := decide ((((ps.filter fun q => decide (q.2 = 0) && decide (((i : Nat) : Int) < q.1)).length : Nat) : Int) = 0)) (et_test (es_op (es_eqI (es_cb (ea_cons (es_lc (as := ps) (RA := pairR) (f := fun q => decide (q.2 = 0) && decide (((i : Nat) : Int) < q.1)) (RB := fun _ => intR 1) (src_list (es_var rfl)) (fun q hq => tgP) (by decide) (fun q hq => et_and (et_test (es_op (es_var (R := intR q.2) rfl) es_c o2_eqI)) fun _ => et_test (es_op (es_var (R := intR q.1) rfl) (es_var rfl) o2_gt)) (fun q hq _ => es_c) (by omega)) ea_nil) oc_lenL) (by rw [List.length_map])) es_c o2_eqI)) (fun e P' H' a' => ?_) (fun e P' H' a' => ⟨b, P', ?_, a'.drop 3⟩)
    · have hO : WS.Okk ps ((i : Nat) : Int) := hc.mp (by have := of_decide_eq_true e; omega)
      have ht := WS.lays_pos (fun q hq => (hp q hq).1) hO.2
      (try dsimp only [tNext]); refine sq (q_set (R := intR (WS.tot ps ((i : Nat) : Int))) a' (es_eqI (es_op (es_var rfl) (es_cb (ea_cons (es_eq (es_lc (as := ps) (RA := pairR) (f := fun q => decide (0 < q.2)) (RB := fun q => intR (WS.cdiv (max 0 (q.1 - ((i : Nat) : Int))) q.2)) (src_list (es_var rfl)) (fun q hq => tgP) (by decide) (fun q hq => et_test (es_op (es_var (R := intR q.2) rfl) es_c o2_gt)) (fun q hq h => ?_) (by omega))
        (R' := lstR (((ps.filter fun q => decide (0 < q.2)).map fun q => WS.cdiv (max 0 (q.1 - ((i : Nat) : Int))) q.2).map fun n => intR n)) (by rw [List.map_map]; rfl)) ea_nil) oc_sumL) o2_add) (by rw [ht]; rfl)) fun v3 P3 H3 a3 => ?_)
      · exact es_call (max 0 (q.1 - ((i : Nat) : Int)), q.2) (ea_cons (es_cb (ea_cons es_c (ea_cons (es_op (es_var rfl) (es_var rfl) o2_sub) ea_nil)) oc_max2) (ea_cons (es_var rfl) ea_nil)) ⟨of_decide_eq_true h, (hp q hq).2⟩
      · (try dsimp only [tNext]); refine q_set (R := intR (min b (WS.tot ps ((i : Nat) : Int)))) a3 (es_cb (ea_cons (es_var rfl) (ea_cons (es_var rfl) ea_nil)) oc_min2) fun v4 P4 H4 a4 => ⟨min b (WS.tot ps ((i : Nat) : Int)), P4, ⟨?_, ?_, fun k' hk' hO' => ?_⟩, (a4.drop 3).drop 4⟩
        · by_cases c : b ≤ WS.tot ps ((i : Nat) : Int)
          · rw [Int.min_eq_left c]
            exact hB.at_
          · rw [Int.min_eq_right (by omega)]
            exact ⟨_, hO, rfl⟩
        · have := hB.top
          omega
        · by_cases c : k' = i
          · subst c
            omega
          · have := hB.le k' (by omega) hO'
            omega
    · refine ⟨hB.at_, hB.top, fun k' hk' hO' => ?_⟩
      by_cases c : k' = i
      · subst c
        have := of_decide_eq_false e
        have h0 := hc.mpr hO'
        omega
      · exact hB.le k' (by omega) hO'
  · rw [List.length_range] at hB
    (try dsimp only [tNext]); refine q_end a (es_eqI (es_var (R := intR b) rfl) (WS.nd_eq (hB.need hp (by omega))).symm) rfl rfl (by exact q)
structure PkA (n : Nat) (A : List WS.Arr) : Prop where
  ok : WS.ArrOk n A
  len : A.length ≤ 100
theorem PkA.nw {n : Nat} {A : List WS.Arr} (h : PkA n A) : NW (WS.netOf n A) := ⟨h.ok.net, by rw [WS.netOf_len]; exact h.ok.few, by rw [WS.netOf_len]; exact h.ok.pos, h.ok.st3⟩
noncomputable abbrev sp_law_nearer : Sp := spOf (fun i : Nat × List WS.Arr × Int × (Nat → Int) => PkA i.1 i.2.1 ∧ ∀ p, p < i.1 → 0 ≤ i.2.2.2 p ∧ i.2.2.2 p ≤ 1000) (fun i => [partsR i.1 i.2.1, intR i.2.2.1, lstR ((vecL i.1 i.2.2.2).map fun v => intR v)])
  (fun i => lstR ((vecL i.1 fun p => min i.2.2.1 (WS.nd (WS.prs (WS.netOf i.1 i.2.1) i.2.2.2 p))).map fun v => intR v))
theorem ok__law_nearer (T : Txt K mg) (d : DefAt K mg "_law_nearer" s_law_nearer) (c__law_need : Callee P w K mg base "_law_need" ["_law_pairs"] 2 sp_law_need) (c__law_steps : Callee P w K mg base "_law_steps" ["_law_parts_here", "_law_place"] 1 sp_law_steps) : Callee P w K mg base "_law_nearer" ["_law_parts_here", "_law_goal", "_law_found"] 3 sp_law_nearer := by
  refine d.ok sc_law_nearer (fun _ _ _ _ _ _ us hl => match us, hl with | [_, _, _], _ => rfl) (fun _ _ => rfl) fun f cdv A outer s H E1 hr => ⟨_, (pss_cons (ps_set (i := 3) sc_law_nearer.nd rfl (Or.inl rfl) (pe_lst pa_nil))
  (pss_cons (ps_for PassesOwn.never rfl (pi_range1 (by rfl) T.range (pa_cons (pe_ix (ix_seqK K rfl) (pv 0) pe_int (fun _ _ => rfl)) pa_nil)) (pg_name (i := 4) sc_law_nearer.nd rfl (Or.inl rfl))
  (pss_one (ps_expr (pe_bm PySem.F.plainAttrs_list PySem.F.slot_list_append PySem.F.type_list_append mt_append (pv 3) (pa_cons (pe_callB (cr_minUK K rfl rfl hr.units) (by rfl) T.min bo_min (pa_cons (pv 1) (pa_cons (pe_callC c__law_need (hr.mono (by decide)) (by rfl) (pa_cons (pe_lc (own := [("_law_letter", 5), ("_law_pay", 6), ("_law_there", 7)]) (by rfl) sc_law_nearer.nd (pi_listK K rfl (pe_callC c__law_steps (hr.mono (by decide)) (by rfl) (pa_cons (pv 0) (pa_cons (pv 4) pa_nil)))) (blkOk_by (own := [("_law_letter", 5), ("_law_pay", 6), ("_law_there", 7)]) (N := n_law_nearer) (sc := defScope s_law_nearer) (by decide +kernel)) (fun _ _ _ _ _ => (pg_tupK (n := 3) K rfl rfl (pgs_cons (pg_name (i := 5) sc_law_nearer.nd rfl (Or.inl rfl)) (pgs_cons (pg_name (i := 6) sc_law_nearer.nd rfl (Or.inl rfl)) (pgs_cons (pg_name (i := 7) sc_law_nearer.nd rfl (Or.inl rfl)) pgs_nil))))) (fun _ _ _ _ _ => pts_nil) (fun _ _ _ _ _ => (pe_tup (pa_cons (pe_ix (ix_seqK K rfl) (pv 2) (pv 7) (fun _ _ => rfl)) (pa_cons (pv 6) pa_nil))))) pa_nil)) pa_nil))) pa_nil)))))
  (pss_one (ps_ret (pv 3))))), fun ⟨n, As, G, x⟩ P0 H0 σ0 Q ⟨hA, hx⟩ a q => ?_⟩
  simp only at hA hx
  have hn := hA.nw
  have hf := hA.ok.few
  (try dsimp only [tNext]); refine sq (q_newL (Rs := []) a ea_nil (by simp) fun pt σ2 P2 H2 a2 => ?_)
  (try dsimp only [tNext]); refine sq (q_for (as := List.range n) (RA := fun p => intR ((p : Nat) : Int)) (X := Unit) (fun _ _ => True) (fun _ _ => [some (partsR n As), some (intR G), some (lstR ((vecL n x).map fun v => intR v)), some (valR (.ref pt)), none, none, none, none])
    (fun k _ => [(pt, .lst ((((List.range n).take k).map fun p => min G (WS.nd (WS.prs (WS.netOf n As) x p))).map fun v => intR v))]) a2 (src_range0 (ea_cons (es_op (es_var (R := partsR n As) rfl) es_c (o2_ixT (by omega) rfl)) ea_nil) (by omega)) (fun P' H' a' => ⟨(), trivial, a'⟩) (fun k u p hk _ => tg_name) (fun B k u p σ P H hk _ a => ?_) fun u σ P H _ a => ?_)
  · have hp : p < n := List.mem_range.mp (List.mem_of_getElem? hk)
    have hpl : p < (WS.netOf n As).length := by rw [WS.netOf_len]; exact hp
    (try dsimp only [tNext]); refine q_app (i := 3) (j := 0) (R := intR (min G (WS.nd (WS.prs (WS.netOf n As) x p)))) a rfl rfl (es_cb (ea_cons (es_var rfl) (ea_cons (es_call (WS.prs (WS.netOf n As) x p) (ea_cons (es_eq (es_lc0 (as := WS.st (WS.netOf n As) p) (RA := sR) (RB := fun s => pairR (x s.2, s.1)) (src_list (es_call (n, As, p) (ea_cons (es_var rfl) (ea_cons (es_var rfl) ea_nil)) ⟨hp, hA.len⟩)) (fun s hs => tg_tup (tgs_cons tg_name (tgs_cons tg_name (tgs_cons tg_name tgs_nil))) rfl) (by decide) (fun s hs => ?_) (by have := hn.three p; omega))
      (R' := prsR (WS.prs (WS.netOf n As) x p)) (by unfold prsR WS.prs; rw [List.map_map]; rfl)) ea_nil) ⟨?_, ?_, hn.ok.pays _ p, ?_⟩) ea_nil)) oc_min2) (by simp only [List.length_map, List.length_take, List.length_range]; omega) fun P3 H3 a3 => ⟨(), P3, trivial, (a3.drop 4).mo ?_⟩
    · have hg := hn.ok.goal p s hs
      rw [WS.netOf_len] at hg
      exact es_tup (ea_cons (es_op (es_var (R := lstR ((vecL n x).map fun v => intR v)) rfl) (es_var (R := intR ((s.2 : Nat) : Int)) rfl) (o2_ixL (by omega) (vec_at hg))) (ea_cons (es_var rfl) ea_nil)) (by simp)
    · unfold WS.prs
      intro e
      exact hA.ok.ne hp (List.map_eq_nil_iff.mp e)
    · unfold WS.prs
      rw [List.length_map]
      exact hn.three p
    · intro r hr
      obtain ⟨s, hs, rfl⟩ := List.mem_map.mp hr
      have hg := hn.ok.goal p s hs
      rw [WS.netOf_len] at hg
      exact hx _ hg
    · show [(pt, Mo.lst (_ ++ [intR _]))] = [(pt, Mo.lst _)]
      rw [List.take_add_one, hk]
      simp
  · obtain ⟨P', a'⟩ := a.freeze (j := 0) (i := 3) rfl rfl
    (try dsimp only [tNext]); refine q_end a' (es_var (R := lstR _) rfl) rfl rfl (by rw [List.take_length]; exact q)
noncomputable abbrev sp_law_soonest : Sp := spOf (fun i : Nat × List WS.Arr × Nat × Int × Int => PkA i.1 i.2.1 ∧ i.2.2.1 < i.1 ∧ 0 ≤ i.2.2.2.2 ∧ i.2.2.2.2 ≤ 1000) (fun i => [partsR i.1 i.2.1, intR ((i.2.2.1 : Nat) : Int), intR i.2.2.2.1, intR i.2.2.2.2]) (fun i => rkR (!sureB (WS.netOf i.1 i.2.1) i.2.2.1 i.2.2.2.1 i.2.2.2.2))
theorem ok__law_soonest (T : Txt K mg) (d : DefAt K mg "_law_soonest" s_law_soonest) (c__law_nearer : Callee P w K mg base "_law_nearer" ["_law_parts_here", "_law_goal", "_law_found"] 3 sp_law_nearer) : Callee P w K mg base "_law_soonest" ["_law_parts_here", "_law_place", "_law_coins", "_law_goal"] 4 sp_law_soonest := by
  refine d.ok sc_law_soonest (fun _ _ _ _ _ _ us hl => match us, hl with | [_, _, _, _], _ => rfl) (fun _ _ => rfl) fun f cdv A outer s H E1 hr => ⟨_, (pss_cons (ps_set (i := 4) sc_law_soonest.nd rfl (Or.inl rfl) (pe_op (op_uMulTK K rfl) (pe_lst (pa_cons (pv 3) pa_nil)) (pe_ix (ix_seqK K rfl) (pv 0) pe_int (fun _ _ => rfl))))
  (pss_cons (ps_for PassesOwn.never rfl (pi_range1 (by rfl) T.range (pa_cons (pe_op op_uAdd (pe_op (op_uMulTK K rfl) (pv 3) (pe_ix (ix_seqK K rfl) (pv 0) pe_int (fun _ _ => rfl))) pe_int) pa_nil)) (pg_name (i := 5) sc_law_soonest.nd rfl (Or.inl rfl))
  (pss_cons (ps_if (pt_cmpR op_uLe (pe_ix (ix_seqK K rfl) (pv 4) (pv 1) (fun _ _ => rfl)) (pv 2) (nomark _)) (pss_one (ps_ret (pv 5))) pss_nil)
  (pss_cons (ps_set (i := 6) sc_law_soonest.nd rfl (Or.inl rfl) (pe_callC c__law_nearer (hr.mono (by decide)) (by rfl) (pa_cons (pv 0) (pa_cons (pv 3) (pa_cons (pv 4) pa_nil)))))
  (pss_cons (ps_if (pt_cmpR (op_uEqK K rfl hr.units) (pv 6) (pv 4) (nomark _)) (pss_one (ps_ret pe_non)) pss_nil)
  (pss_one (ps_set (i := 4) sc_law_soonest.nd rfl (Or.inl rfl) (pv 6)))))))
  (pss_one (ps_ret pe_non)))), fun ⟨n, As, p, c, G⟩ P0 H0 σ0 Q ⟨hA, hp, h0, hG⟩ a q => ?_⟩
  simp only at hA hp h0 hG
  have hn := hA.nw
  have hf := hA.ok.few
  have hpl : p < (WS.netOf n As).length := by rw [WS.netOf_len]; exact hp
  let N := WS.netOf n As
  have hlen : N.length = n := WS.netOf_len n As
  have hGn : 0 ≤ G * ((n : Nat) : Int) := Int.mul_nonneg h0 (by omega)
  have hGn2 : G * ((n : Nat) : Int) ≤ 1000 * 12 := Int.mul_le_mul hG (by omega) (by omega) (by decide)
  (try dsimp only [tNext]); refine sq (q_set (R := lstR ((vecL n (WS.it N G 0)).map fun v => intR v)) a (es_eq (es_op (es_lst (ea_cons (es_var rfl) ea_nil) (by simp)) (es_op (es_var (R := partsR n As) rfl) es_c (o2_ixT (by omega) rfl)) (o2_repL (k := ((n : Nat) : Int)) (by omega))) ?_) fun v1 P1 H1 a1 => ?_)
  · rw [Int.toNat_natCast]
    congr 1
    refine List.ext_getElem? fun i => ?_
    by_cases l : i < n
    · rw [List.getElem?_replicate, if_pos l, List.getElem?_map, List.getElem?_map, List.getElem?_range l]
      rfl
    · rw [List.getElem?_eq_none (by simp; omega), List.getElem?_eq_none (by simp; omega)]
  have s0 : WS.sumN N.length (WS.it N G 0) = G * ((n : Nat) : Int) := by
    have : WS.it N G 0 = fun _ => G := rfl
    rw [this, WS.sumN_const, hlen]
  (try dsimp only [tNext]); refine sq (q_for (as := List.range (G * ((n : Nat) : Int) + 2).toNat) (RA := fun t => intR ((t : Nat) : Int)) (X := Unit) (fun t _ => WS.sumN N.length (WS.it N G t) + ((t : Nat) : Int) ≤ G * ((n : Nat) : Int)) (fun t _ => [some (partsR n As), some (intR ((p : Nat) : Int)), some (intR c), some (intR G), some (lstR ((vecL n (WS.it N G t)).map fun v => intR v)), none, none]) (fun _ _ => []) a1
    (src_range1 (n := G * ((n : Nat) : Int) + 2) (ea_cons (es_op (es_op (es_var rfl) (es_op (es_var (R := partsR n As) rfl) es_c (o2_ixT (by omega) rfl)) (o2_mulT (.inl ⟨by omega, by omega⟩))) es_c o2_add) ea_nil) ⟨by omega, by omega⟩) (fun P' H' a' => ⟨(), by rw [s0]; omega, a'⟩) (fun k u i hk _ => tg_name) (fun B k u i σ P H hk hS a => ?_) fun u σ P H hS a => ?_)
  · have ei : i = k := by
      obtain ⟨l, e⟩ := List.getElem?_eq_some_iff.mp hk
      rw [List.getElem_range] at e
      exact e.symm
    subst ei
    (try dsimp only [tNext]); refine sq (q_if a (b := decide (WS.it N G i p ≤ c)) (et_test (es_op (es_op (es_var (R := lstR ((vecL n (WS.it N G i)).map fun v => intR v)) rfl) (es_var rfl) (o2_ixL (by omega) (vec_at hp))) (es_var rfl) o2_le)) (fun e P' H' a' => ?_) fun e P' H' a' => ?_)
    · (try dsimp only [tNext]); refine q_end a' (es_is (es_var (R := intR ((i : Nat) : Int)) rfl) fun v P r => ?_) rfl rfl (by exact q)
      have r : v = V.int _ := r
      show decide (v = V.non) = !sureB N p c G
      rw [r, sureB_yes ⟨i, of_decide_eq_true e⟩]
      rfl
    · have e := of_decide_eq_false e
      have rng : ∀ p, p < n → 0 ≤ WS.it N G i p ∧ WS.it N G i p ≤ 1000 := fun p _ => ⟨WS.it_nonneg hn.ok h0 i p, by have := WS.it_top (N := N) (G := G) i p; omega⟩
      (try dsimp only [tNext]); refine sq (q_set (R := lstR ((vecL n (WS.it N G (i + 1))).map fun v => intR v)) a' (es_call (n, As, G, WS.it N G i) (by walk_at "e") ⟨hA, rng⟩) fun v3 P3 H3 a3 => ?_)
      (try dsimp only [tNext]); refine sq (q_if a3 (b := decide (vecL n (WS.it N G (i + 1)) = vecL n (WS.it N G i))) (et_test (es_op (es_var (R := lstR ((vecL n (WS.it N G (i + 1))).map fun v => intR v)) rfl) (es_var (R := lstR ((vecL n (WS.it N G i)).map fun v => intR v)) rfl) o2_eqL)) (fun e2 P' H' a' => ?_) fun e2 P' H' a' => ?_)
      · have e2 := of_decide_eq_true e2
        (try dsimp only [tNext]); refine q_end a' (es_is (es_c (v := .non)) fun v P r => ?_) rfl rfl (by exact q)
        have r : v = V.non := r
        show decide (v = V.non) = !sureB N p c G
        rw [r, sureB_no (WS.not_sure hn.ok hpl (fun q hq => vec_eq.mp e2 q (by rw [← hlen]; exact hq)) (by show c < WS.it N G i p; omega))]
        rfl
      · have e2 := of_decide_eq_false e2
        have al : ¬ WS.Alike N (WS.it N G (i + 1)) (WS.it N G i) := fun z => e2 (vec_eq.mpr fun q hq => z q (by rw [hlen]; exact hq))
        have lt := WS.sum_step hn.ok al
        (try dsimp only [tNext]); refine q_set (R := lstR ((vecL n (WS.it N G (i + 1))).map fun v => intR v)) a' (es_var rfl) fun v4 P4 H4 a4 => ⟨(), P4, ?_, (a4.drop 5).drop 6⟩
        show WS.sumN N.length (WS.it N G (i + 1)) + ((i + 1 : Nat) : Int) ≤ _
        have hS : WS.sumN N.length (WS.it N G i) + ((i : Nat) : Int) ≤ G * ((n : Nat) : Int) := hS
        have lt : WS.sumN N.length (WS.it N G (i + 1)) < WS.sumN N.length (WS.it N G i) := lt
        omega
  · rw [List.length_range] at hS
    have nn := WS.sumN_nonneg (x := WS.it N G (G * ((n : Nat) : Int) + 2).toNat) (fun p => WS.it_nonneg hn.ok h0 _ p) N.length
    omega
noncomputable abbrev sp_law_peak_right (C : Addr) : Sp := spOf (fun i : Nat × List WS.Arr × Nat × Int => PkA i.1 i.2.1 ∧ i.2.2.1 < i.1 ∧ 0 ≤ i.2.2.2 ∧ ¬ quiet (WS.netOf i.1 i.2.1) i.2.2.1 i.2.2.2) (fun i => [trackR C (WS.netOf i.1 i.2.1), partsR i.1 i.2.1, intR ((i.2.2.1 : Nat) : Int), intR i.2.2.2, tellR (WS.netOf i.1 i.2.1) i.2.2.1 i.2.2.2]) (fun _ => blR true)
theorem tells_many : Tells K (tupR [valR (.str "many"), intR 1000]) (.tuple [.str "many", .int 1000]) := tells_tup (.cons tells_str (.cons tells_int .nil))
theorem ok__law_peak_right (T : Txt K mg) (d : DefAt K mg "_law_peak_right" s_law_peak_right) (c_soonest : Callee P w K mg base "soonest" ["track", "place", "coins", "goal"] 9 (sp_soonest C)) (c__law_soonest : Callee P w K mg base "_law_soonest" ["_law_parts_here", "_law_place", "_law_coins", "_law_goal"] 4 sp_law_soonest) :
    Callee P w K mg base "_law_peak_right" ["_law_track", "_law_parts_here", "_law_place", "_law_coins", "_law_told"] 10 (sp_law_peak_right C) := by
  refine d.ok sc_law_peak_right (fun _ _ _ _ _ _ us hl => match us, hl with | [_, _, _, _, _], _ => rfl) (fun _ _ => rfl) fun f cdv A outer s H E1 hr => ⟨_, (pss_cons (ps_if (pt_cmpR (op_uEqK K rfl hr.units) (pv 4) (pe_tup (pa_cons pe_str (pa_cons pe_int pa_nil))) (nomark _)) (pss_one (ps_ret (pe_or (pe_cmpR op_uGt (pv 3) pe_int (nomark _)) (pe_one (pe_cmpR op_uIsNot (pe_callC c_soonest (hr.mono (by decide)) (by rfl) (pa_cons (pv 0) (pa_cons (pv 2) (pa_cons (pv 3) (pa_cons pe_int pa_nil))))) pe_non (nomark _)))))) pss_nil)
  (pss_cons (ps_if (PW.pt (pw_or (pt_val (pe_callB (ca_isiK K rfl) (by rfl) T.isinstance bo_isinstance (pa_cons (pv 4) (pa_cons (pe_bltn (v := .ty "bool") (by rfl) T.bool bo_bool rfl) pa_nil)))) (pw_or (pt_not (pt_val (pe_callB (ca_isiK K rfl) (by rfl) T.isinstance bo_isinstance (pa_cons (pv 4) (pa_cons (pe_bltn (v := .ty "int") (by rfl) T.int bo_int rfl) pa_nil))))) (pw_or1 (pt_not (pt_chain op_uLe op_uLe (pv 3) (pv 4) pe_int)))))) (pss_one (ps_ret pe_bl)) pss_nil)
  (pss_cons (ps_if (pt_cmpR (op_uLtK K rfl hr.units) (pv 4) pe_int (nomark _)) (pss_one (ps_if (PW.pt (pw_or (pt_cmpR op_uIs (pe_callC c__law_soonest (hr.mono (by decide)) (by rfl) (pa_cons (pv 1) (pa_cons (pv 2) (pa_cons (pv 3) (pa_cons (pv 4) pa_nil))))) pe_non (nomark _)) (pw_or1 (pt_cmpR op_uIsNot (pe_callC c__law_soonest (hr.mono (by decide)) (by rfl) (pa_cons (pv 1) (pa_cons (pv 2) (pa_cons (pv 3) (pa_cons (pe_op op_uAdd (pv 4) pe_int) pa_nil))))) pe_non (nomark _))))) (pss_one (ps_ret pe_bl)) pss_nil)) (pss_one (ps_if (pt_cmpR op_uIs (pe_callC c_soonest (hr.mono (by decide)) (by rfl) (pa_cons (pv 0) (pa_cons (pv 2) (pa_cons (pv 3) (pa_cons (pv 4) pa_nil))))) pe_non (nomark _)) (pss_one (ps_ret pe_bl)) pss_nil)))
  (pss_one (ps_ret (pe_or (pe_cmpR (op_uEqK K rfl hr.units) (pv 4) pe_int (nomark _)) (pe_one (pe_cmpR op_uIs (pe_callC c_soonest (hr.mono (by decide)) (by rfl) (pa_cons (pv 0) (pa_cons (pv 2) (pa_cons (pv 3) (pa_cons (pe_op op_uAdd (pv 4) pe_int) pa_nil))))) pe_non (nomark _))))))))), fun ⟨n, As, p, c⟩ P0 H0 σ0 Q ⟨hA, hp, hc, hq⟩ a q => ?_⟩
  simp only at hA hp hc hq
  have hn := hA.nw
  have hpl : p < (WS.netOf n As).length := by rw [WS.netOf_len]; exact hp
  let N := WS.netOf n As
  by_cases hm : manyP N p c
  · have a : At _ [some (trackR C N), some (partsR n As), some (intR ((p : Nat) : Int)), some (intR c), some (tellR N p c)] [] σ0 P0 H0 := a
    rw [tellR_many hm] at a
    (try dsimp only [tNext]); refine sq (q_if a (b := true) (et_test (es_eqB (es_op (es_var (R := tupR [valR (.str "many"), intR 1000]) rfl) (es_tup (ea_cons es_c (ea_cons es_c ea_nil)) (by simp)) (o2_eqD tells_many tells_many (by decide +kernel) (by decide +kernel))) (by decide +kernel))) (fun _ P' H' a' => ?_) fun e => by cases e)
    (try dsimp only [tNext]); refine q_end a' (es_eqB (es_orV (a := decide (1000 < c)) (b := sureB N p c 1000) (es_op (es_var rfl) es_c o2_gt) fun e => ?_) (j := true) ?_) rfl rfl (by exact q)
    · exact es_eqB (es_op (es_call (N, p, c, 1000) (ea_cons (es_var rfl) (ea_cons (es_var rfl) (ea_cons (es_var rfl) (ea_cons es_c ea_nil)))) ⟨hn, hpl, hc, (by decide : (0 : Int) ≤ 1000), (by decide : (1000 : Int) ≤ 1000)⟩) es_c o2_isnotRk) (by simp)
    · rcases hm.2 with h | h
      · rw [decide_eq_true h]
        rfl
      · rw [sureB_yes (h.goal hn.ok (by decide))]
        simp
  · have a : At _ [some (trackR C N), some (partsR n As), some (intR ((p : Nat) : Int)), some (intR c), some (tellR N p c)] [] σ0 P0 H0 := a
    rw [tellR_no hm, pkR_no hq] at a
    obtain ⟨g, hg, a⟩ := a.pick 4 rfl
    have a : At _ [some (trackR C N), some (partsR n As), some (intR ((p : Nat) : Int)), some (intR c), some (intR g)] [] σ0 P0 H0 := a
    have g0 := hg.lo
    have g1 := hg.hi
    (try dsimp only [tNext]); refine sq (q_if a (b := false) (et_test (es_eqB (es_op (es_var (R := intR g) rfl) (es_tup (ea_cons es_c (ea_cons es_c ea_nil)) (by simp)) (o2_eqD (Rb := tupR [valR (.str "many"), intR 1000]) tells_int tells_many (by rfl) (by decide +kernel))) (by rfl))) (fun e => by cases e) fun _ P1 H1 a1 => ?_)
    (try dsimp only [tNext]); refine sq (q_if a1 (b := false) ?_ (fun e => by cases e) fun _ P2 H2 a2 => ?_)
    · refine et_eq (et_or (a := false) (b := false || false) (et_B (es_cb (ea_cons (es_var (R := intR g) rfl) (ea_cons es_c ea_nil)) (oc_isi (x := .int g) (s := "int") (n := "bool") (b := false) rfl (by decide +kernel)))) fun _ => et_or (et_eq (et_not (et_B (es_cb (ea_cons (es_var (R := intR g) rfl) (ea_cons es_c ea_nil)) (oc_isi (x := .int g) (s := "int") (n := "int") (b := true) rfl (by decide +kernel))))) rfl) fun _ => et_eq (et_not (et_test (es_chain (es_var rfl) (es_var rfl) es_c o2_le o2_le))) ?_) rfl
      rw [decide_eq_true g0, decide_eq_true g1]
      rfl
    have yes := sureB_yes hg.yes
    have no := sureB_no hg.no
    have fin : ∀ P1 H1, At ⟨W0, P0, H0, [], none⟩ [some (trackR C N), some (partsR n As), some (intR ((p : Nat) : Int)), some (intR c), some (intR g)] [] σ0 P1 H1 → tRet (tOrV (tOp (uEq K) (tVar 4) (tC (.int 1000))) (tOp uIs (tCall (sp_soonest C) [] E0 (tCons (tVar 0) (tCons (tVar 2) (tCons (tVar 3) (tCons (tOp uAdd (tVar 4) (tC (.int 1))) tNil))))) (tC .non))) { nx := fun _ H' => Q .non H', rt := Q } σ0 H1 := fun P1 H1 a => by
      (try dsimp only [tNext]); refine q_end a (es_eqB (es_orV (a := decide (g = 1000)) (b := true) (es_op (es_var (R := intR g) rfl) es_c o2_eqI) fun e => ?_) (Bool.or_true _)) rfl rfl (by exact q)
      have e : ¬ g = 1000 := of_decide_eq_false e
      exact es_eqB (es_op (es_call (N, p, c, g + 1) (by walk_at "e") ⟨hn, hpl, hc, by show 0 ≤ g + 1; omega, by show g + 1 ≤ 1000; omega⟩) es_c o2_isRk) (by show (!sureB N p c (g + 1)) = true; rw [no]; rfl)
    (try dsimp only [tNext]); refine sq (q_if a2 (b := decide (g < 70)) (et_test (es_op (es_var rfl) es_c o2_lt)) (fun e P' H' a' => ?_) (fun e P' H' a' => ?_))
    · have e : g < 70 := of_decide_eq_true e
      (try dsimp only [tNext]); refine q_if a' (b := false) ?_ (fun e => by cases e) fun _ P3 H3 a3 => ?_
      · refine et_eq (et_or (a := !sureB N p c g) (b := !(!sureB N p c (g + 1))) (et_test (es_op (es_call (n, As, p, c, g) (by walk_at "e") ⟨hA, hp, by show 0 ≤ g; omega, g1⟩) es_c o2_isRk)) fun _ => et_test (es_op (es_call (n, As, p, c, g + 1) (by walk_at "e") ⟨hA, hp, by show 0 ≤ g + 1; omega, by show g + 1 ≤ 1000; omega⟩) es_c o2_isnotRk)) ?_
        rw [yes, no]
        rfl
      · exact fin P3 H3 a3
    · (try dsimp only [tNext]); refine q_if a' (b := false) (et_eq (et_test (es_op (es_call (N, p, c, g) (by walk_at "e") ⟨hn, hpl, hc, by show 0 ≤ g; omega, g1⟩) es_c o2_isRk)) (by show (!sureB N p c g) = false; rw [yes]; rfl)) (fun e => by cases e) fun _ P3 H3 a3 => ?_
      exact fin P3 H3 a3
end
end Y
end
section
/-! The layer, part 14: dict comprehensions whose keys are tuples. -/
namespace L2
open PySem PySem.Spec PyProof.Rows
/-- d[y] = z by a comprehension, keys of either kind -/
theorem d_store {X : Cx} {pins : List (Addr × Obj)} {σ : St} {H H' : Hp} {s : Shared} {E : Value → Shared → Prop} {D : Addr} {y v : V} {u r : Value} {Q : Unit → Shared → Prop} (hu : X.A.units + 1 < cLine) (I : Inv X pins σ H s) (g : DPut H D y v H')
    (ry : RelV y u) (rv : RelV v r) (h : ∀ s', Inv X pins σ H' s' → Q () s') : wpAny (model X.prog X.w) X.A (dictSet D u r) Q E s := by
  rcases g with ⟨kvs, k, e, ey, l, eH⟩ | ⟨kvs, k, b, e, ey, eb, l, eH⟩
  · subst ey eH
    exact d_dictSet I e l ry rv h
  · subst ey eH
    cases (show u = Value.ref b from ry)
    obtain ⟨z, hd, xs, rel, dd⟩ := dt_of I.hok e
    have hz : xs.length ≤ sizeLine := by rw [← Paired.length rel]; exact z
    have hl : (putK kvs k v).length ≤ sizeLine := by have := length_putK kvs k v; omega
    refine wpAny_dictSet_heap (hsz := hz) (Nat.lt_of_succ_lt hu) (key_of I.hok eb) dd fun h' dd' hs => h _ ?_
    obtain ⟨q, es, ep, hq, h2, h3, h4, _, h5⟩ := dd'
    refine d_write I (by rw [e]; exact True.intro) hs ⟨q, hq⟩ ⟨hl, hd, _, (rel.put k eb rv).keeps fun c ys ec => ?_, q, es, ep, hq, h2, h3, h4, h5⟩
    rw [upd_ne (ne_of ec e (fun z => nomatch z))]
    exact ec
section
variable {X : Cx}
/-- {k: v for target in iter if ..}, keys tuples: D the new dict -/
def tDcT (wi : TI) (g : TG) (tt : TT) (tk tv : TE) (vs : List Nat) : TE := fun σ H Q => wi σ H fun J H1 => ∀ D, H1 D = none → ∃ W : Nat → Nat → Hp → Prop, (∃ m, W 0 m (upd H1 D (.dT []))) ∧ ∀ i m H, W i m H →
  (J.stop i H ∧ Q (.ref D) H) ∨ (J.go i H ∧ ∃ Nx : Hp → Prop, (∀ H', Nx H' → ∃ m', m' < m ∧ W (i + 1) m' H') ∧ ∀ x H', J.yld i H x H' → g x (wipe σ vs) H' fun σ2 H2 => wipe σ2 vs = wipe σ vs ∧ tt σ2 H2 fun b H3 =>
    if b = true then tk σ2 H3 fun y H4 => tv σ2 H4 fun z H5 => ∃ H6, DPut H5 D y z H6 ∧ Nx H6 else Nx H3)
/-- the rule, as a value -/
theorem pe_dcT {kx vx tg iter : Expr} {ifs : List Expr} {scope : Scope} {own : List (Str × Nat)} {pos : Pos} {wi : TI} {g : TG} {tt : TT} {tk tv : TE} (hu : X.A.units + 1 < cLine) (hc : X.calm = true) (hN : X.N.Nodup) (hi : PI X tg iter wi) (ok : BlkOk X.N X.env.scope scope own)
    (hg : ∀ (s : Shared) (H : Hp) (C : Addr) (cl : List (Str × Addr)) (fp : List Addr), PG (X.blk s H scope (compEnvC scope cl C X.env) fp) tg g) (ht : ∀ (s : Shared) (H : Hp) (C : Addr) (cl : List (Str × Addr)) (fp : List Addr), PTs (X.blk s H scope (compEnvC scope cl C X.env) fp) ifs tt)
    (hk : ∀ (s : Shared) (H : Hp) (C : Addr) (cl : List (Str × Addr)) (fp : List Addr), PE (X.blk s H scope (compEnvC scope cl C X.env) fp) kx tk) (he : ∀ (s : Shared) (H : Hp) (C : Addr) (cl : List (Str × Addr)) (fp : List Addr), PE (X.blk s H scope (compEnvC scope cl C X.env) fp) vx tv)
    (hs : ∀ x, foldedSetIterable iter X.env x = pure x := by intro _; rfl) : PE X (.DictComp kx vx [⟨tg, iter, ifs, 0⟩] scope pos) (tDcT wi g tt tk tv (own.map (·.2))) := by
  refine ⟨fun pins s σ H Q I h => ?_⟩
  rw [arm_eval_DictComp]
  have cells : ∀ y ∈ scope.names, y.2 = .free → ∃ c, X.env.cells.lookup y.1 = some c := fun y hy e => (ok.free y hy e).elim (fun k => I.ok.has _ (.inl k)) fun k => I.ok.has _ (.inr k)
  refine wpAny_comprehension_free rfl hs (closure_ok cells) ok.kind (fun y hy e => by rw [ok.uniq y hy, e]) (thn (hi.run pins s σ H _ I h) fun xv s1 hx => thn hx fun itv s2 h2 => ?_)
  obtain ⟨it, fp, tn, J, H2, rfl, I2, T, st2, f2, q⟩ := h2
  refine wpAny_newObj_type (newEnv_comp ?_)
  generalize hD : s2.heap.objs.size = D
  obtain ⟨W, ⟨m0, w0⟩, turn⟩ := q D (I2.hok.fresh (Nat.le_of_eq hD))
  generalize hs3 : ({ s2 with heap := s2.heap.push { cls := .type "dict", data := .dict #[] } } : Shared) = s3
  have I3 : Inv X pins σ (upd H2 D (.dT [])) s3 := by
    rw [← hs3]
    refine I2.laid (t' := s2.toks) (fun b o e => Heap.get?_push_of_some _ e) (Nat.le_of_eq hD) ?_
    rw [← hD]
    exact dt_empty s2.heap I2.big
  have h3 : s3.heap = s2.heap.push { cls := .type "dict", data := .dict #[] } := by rw [← hs3]
  have f3 : ∀ b ∈ fp, FpOk X pins (upd H2 D (.dT [])) b ∧ b < s3.heap.objs.size := fun b hb => by
    obtain ⟨o, e, _⟩ := T.obj _ _ st2 b hb
    have lt := Heap.lt_size e
    refine ⟨⟨?_, (f2 b hb).2⟩, by rw [h3, Heap.size_push]; exact Nat.lt_succ_of_lt lt⟩
    rw [upd_ne (by rw [← hD]; exact Nat.ne_of_lt lt)]
    exact (f2 b hb).1
  have st3 : tn 0 s3.heap := T.keep _ _ _ st2 fun b _ o e => by rw [h3]; exact Heap.get?_push_of_some _ e
  have I4 := block_start I3 ok hN f3
  have pg := hg s3 (upd H2 D (.dT [])) s3.heap.objs.size (cellsFrom (s3.heap.objs.size + 1) scope.names (cloFrom X.env.cells scope.names [])) fp
  have pt := ht s3 (upd H2 D (.dT [])) s3.heap.objs.size (cellsFrom (s3.heap.objs.size + 1) scope.names (cloFrom X.env.cells scope.names [])) fp
  have pk := hk s3 (upd H2 D (.dT [])) s3.heap.objs.size (cellsFrom (s3.heap.objs.size + 1) scope.names (cloFrom X.env.cells scope.names [])) fp
  have pv := he s3 (upd H2 D (.dT [])) s3.heap.objs.size (cellsFrom (s3.heap.objs.size + 1) scope.names (cloFrom X.env.cells scope.names [])) fp
  show codeAny _ _ (.compStart (.DictComp kx vx [⟨tg, iter, ifs, 0⟩] scope pos) 0 (.ref it) (.ref D) (compEnvC scope (cellsFrom (s3.heap.objs.size + 1) scope.names (cloFrom X.env.cells scope.names [])) s3.heap.objs.size X.env)) (compPost (model X.prog X.w) X.A X.xe none (EP X pins σ Q) (.ref D) s3.heap.objs.size) { s3 with heap := pushCells (s3.heap.push { cls := .type "dict", data := .dict #[] }) scope.names }
  have nfp : ∀ b ∈ fp, (upd H2 D (.dT [])) b = none := fun b hb => (f3 b hb).1.1
  generalize hce : compEnvC scope (cellsFrom (s3.heap.objs.size + 1) scope.names (cloFrom X.env.cells scope.names [])) s3.heap.objs.size X.env = ce at I4 pg pt pk pv ⊢
  have cL : ce.locals = s3.heap.objs.size := by subst hce; rfl
  generalize hH3 : upd H2 D (.dT []) = H3 at I3 I4 pg pt pk pv w0 nfp f3
  generalize hs4 : ({ s3 with heap := pushCells (s3.heap.push { cls := .type "dict", data := .dict #[] }) scope.names } : Shared) = s4 at I4 ⊢
  have st4 : tn 0 s4.heap := T.keep _ _ _ st3 fun b _ o e => by rw [← hs4]; exact pushCells_keeps _ _ _ _ (Heap.get?_push_of_some _ e)
  have stat : ∀ {σ' : St} {H' : Hp} {s' : Shared}, Inv (X.blk s3 H3 scope ce fp) [] σ' H' s' → (∀ b ∈ fp, H' b = none) → ∀ b ∈ fp, FpOk (X.blk s3 H3 scope ce fp) [] H' b := fun {σ' H' s'} I' hn b hb =>
    ⟨hn b hb, (I'.ok.exf b hb).1, I'.ok.exfs b hb, .inl hb, fun x c e => (I'.ok.exf b hb).2 x c e, fun p hp => absurd (show p ∈ ([] : List (Addr × Obj)) ++ [] from hp) (by simp)⟩
  have loop : codeAny (model X.prog X.w) X.A (.compLoop (.DictComp kx vx [⟨tg, iter, ifs, 0⟩] scope pos) 0 (.ref it) (.ref D) ce) (compPost (model X.prog X.w) X.A X.xe none (EP X pins σ Q) (.ref D) s3.heap.objs.size) s4 := by
    refine compLoop_anyD (fun n s' => ∃ i H', Inv (X.blk s3 H3 scope ce fp) [] (wipe σ (own.map (·.2))) H' s' ∧ tn i s'.heap ∧ (∀ b ∈ fp, H' b = none) ∧ W i n H') ?_ m0 ⟨0, H3, I4, st4, nfp, w0⟩
    rintro n s5 ⟨i, H5, I5, st5, n5, w5⟩
    rcases turn i n H5 w5 with ⟨stop, qq⟩ | ⟨go, Nx, hNx, step⟩
    · refine thnF (T.done (X.blk s3 H3 scope ce fp) rfl rfl rfl hc i [] s5 _ H5 (fun _ _ => False) I5 (stat I5 n5) st5 stop) fun r s6 ⟨hr, I6⟩ => ?_
      subst hr
      have I7 : Inv X pins σ H5 s6 := I3.call' (ch := fp) I6.os I6.base I6.hok I6.bare fun b hb => ⟨(f3 b hb).1.2.2.2.1, (f3 b hb).1.2.1, (f3 b hb).1.2.2.2.2.1, (f3 b hb).1.2.2.2.2.2⟩
      have nC : H5 s3.heap.objs.size = none := by rw [← cL]; exact I6.free
      obtain ⟨m, hn, _⟩ := I6.loc
      have hn : s6.heap.Ns ce.locals m := hn
      rw [cL] at hn
      obtain ⟨f0, f1, f2', f3', f4, f5⟩ := I3.fpOk (Nat.le_refl _) nC
      exact ⟨m, hn, fun h'' sb => ⟨.ref D, H5, I7.turned (t' := s6.toks) (fun b o hb e => (sb.2 b hb).trans e) f0 f1 f3' f4 f5, rfl, qq⟩⟩
    · refine thnF (T.item (X.blk s3 H3 scope ce fp) rfl rfl rfl hc i [] s5 _ H5 (fun _ _ => False) I5 (stat I5 n5) st5 go) fun r s6 ⟨u, hr, h6⟩ => ?_
      subst hr
      refine thnF h6 fun _ s7 ⟨x, H7, I7, r7, y7, st7, n7⟩ => ?_
      refine thnF (pg.run _ s7 _ H7 x u _ (I7.pinned (stat I7 n7) (T.obj _ _ st7)) r7 (step x H7 y7)) fun _ s8 ⟨σ8, H8, I8, hw8, q8⟩ => ?_
      refine thnF (pt.run _ s8 σ8 H8 _ I8 q8) fun b s9 ⟨H9, I9, q9⟩ => ?_
      have fin : ∀ {s' : Shared} {H' : Hp}, Inv (X.blk s3 H3 scope ce fp) ([] ++ pinsAt fp s7.heap) σ8 H' s' → Nx H' → ∃ m, m < n ∧ ∃ i H', Inv (X.blk s3 H3 scope ce fp) [] (wipe σ (own.map (·.2))) H' s' ∧ tn i s'.heap ∧ (∀ b ∈ fp, H' b = none) ∧ W i m H' := fun {s' H'} I' nx => by
        obtain ⟨m', hm, w'⟩ := hNx H' nx
        have pin' : ∀ b ∈ fp, ∀ o, s7.heap.get? b = some o → s'.heap.get? b = some o ∧ H' b = none := fun b hb o e =>
          let z := I'.pin (b, o) (List.mem_append_right _ (List.mem_append_right _ (mem_pinsAt hb e)))
          ⟨z.1, z.2.1⟩
        have hl : (wipe σ (own.map (·.2))).length = σ8.length := by rw [← hw8, wipe_length]
        refine ⟨m', hm, i + 1, H', (I'.unpinned (pins := [])).weak hl (fun j v e => ?_), T.keep _ _ _ st7 fun b hb o e => (pin' b hb o e).1, fun b hb => ?_, w'⟩
        · rw [← hw8] at e
          exact (wipe_some e).1
        · obtain ⟨o, e, _⟩ := T.obj _ _ st7 b hb
          exact (pin' b hb o e).2
      cases b with
      | false =>
        simp only [Bool.false_eq_true, if_false] at q9 ⊢
        exact fin I9 q9
      | true =>
        simp only [if_true] at q9 ⊢
        refine thnF (pk.run _ s9 σ8 H9 _ I9 q9) fun z s10 ⟨yk, H10, I10, r10, q10⟩ => ?_
        refine thnF (pv.run _ s10 σ8 H10 _ I10 q10) fun z2 s11 ⟨yv, H11, I11, r11, H12, pp, nx⟩ => ?_
        exact d_store (X := X.blk s3 H3 scope ce fp) hu I11 pp r10 r11 fun s12 I12 => fin I12 nx
  exact codeAny_compStart_dict loop (T.self X.A 0 _ _ _ st4 loop)
end
end L2
end
section
/-! The layer, part 15: dict comprehensions whose keys may come again, whose keys are tuples. -/
namespace Y
open PySem PySem.Spec L2
section
variable {W : Wd} {ρ : List (Option RP)} {μ : Me} {σ : St} {P H : Hp} {tk tv : TE}
/-- keys may come again: the dict as it is put together -/
theorem es_dcF {wi : TI} {g : TG} {vs js : List Nat} {α : Type} {as : List α} {RA : α → RP} {kf : α → Key} {vf : α → V} {ρ' : α → List (Option RP)} (hs : Src W ρ μ wi (as.map RA))
    (hg : ∀ a ∈ as, Tg W (wipeR ρ vs) μ g (RA a) (ρ' a) js) (hj : ∀ i ∈ js, i ∈ vs) (hk : ∀ a ∈ as, E W (ρ' a) μ tk (valR (kV (kf a)))) (hv : ∀ a ∈ as, E W (ρ' a) μ tv (valR (vf a))) (hl : as.length < 100000) :
    E W ρ μ (tDc wi g tYes tk tv vs) (dctR (as.foldl (fun kv a => putK kv (kf a) (vf a)) [])) := fun σ P H k Q q => by
  refine hs σ P H k _ fun J P1 H1 s1 it => ?_
  have k1 := k.step s1
  intro D hD
  have hz : ∀ a, W.Z a → H1 a ≠ none := fun a z => (k1.hx.z a z).2
  have dz : ¬ W.Z D := fun z => hz D z hD
  have g0 : Grow W P1 H1 D P1 (upd H1 D (.dK [])) := Grow.put ⟨Stp.refl k1.hx.le, k1.hx.le.some hD⟩ hD hz _
  refine ⟨fun i m H' => m = as.length - i ∧ i ≤ as.length ∧ ∃ P2, Grow W P1 H1 D P2 H' ∧ H' D = some (.dK ((as.take i).foldl (fun kv a => putK kv (kf a) (vf a)) [])) ∧ ((as.take i).foldl (fun kv a => putK kv (kf a) (vf a)) []).length ≤ i, ⟨_, rfl, Nat.zero_le _, P1, g0, upd_same, Nat.le_refl _⟩, ?_⟩
  rintro i m H2 ⟨rfl, hi, P2, g2, h2, l2⟩
  have k2 := k1.step g2.s
  have keep : ∀ a o, P1 a ≠ none → H1 a = some o → H2 a = some o := fun a o h e => g2.s.kp a o (not_z (c := ⟨W, P, H, [], none⟩) k1.hx h) e
  by_cases c : i < as.length
  · right
    have ha := List.getElem?_eq_getElem c
    have hm : as[i] ∈ as := List.getElem_mem c
    obtain ⟨hgo, hy⟩ := it.go i (RA as[i]) μ P2 H2 (by rw [List.getElem?_map, ha]; rfl) k2.hx g2.s.ex keep
    refine ⟨hgo, _, fun H' h => ⟨as.length - (i + 1), by omega, h⟩, fun v H3 y => ?_⟩
    obtain ⟨P3, s3, r3⟩ := hy v H3 y
    have g3 := g2.step (by rw [h2]; exact fun z => by cases z) s3
    have h3 := s3.kp D _ dz h2
    refine hg _ hm (wipe σ vs) P3 H3 v ((k1.step g3.s).wipe vs) r3 _ fun σ' k' l' a' => ?_
    refine ⟨(wipe_eq l' fun i hi => a' i fun z => hi (hj i z)).trans wipe_wipe, ?_⟩
    unfold tYes
    dsimp only
    rw [if_pos rfl]
    refine hk _ hm σ' P3 H3 k' _ fun w P5 H5 s5 r5 => ?_
    have g5 := g3.step (by rw [h3]; exact fun z => by cases z) s5
    have h5 := s5.kp D _ dz h3
    refine hv _ hm σ' P5 H5 (k'.step s5) _ fun z P6 H6 s6 r6 => ?_
    have g6 := g5.step (by rw [h5]; exact fun z => by cases z) s6
    have h6 := s6.kp D _ dz h5
    have r6' : z = vf as[i] := r6
    have e : (as.take (i + 1)).foldl (fun kv a => putK kv (kf a) (vf a)) [] = putK ((as.take i).foldl (fun kv a => putK kv (kf a) (vf a)) []) (kf as[i]) (vf as[i]) := by
      rw [List.take_add_one, ha, List.foldl_append]
      rfl
    refine ⟨_, kf as[i], r5, h6, by rw [sizeLine_eq]; omega, rfl, by omega, P6, g6.put hD hz _, ?_, ?_⟩
    · rw [upd_same, e, r6']
    · rw [e]
      have := length_putK ((as.take i).foldl (fun kv a => putK kv (kf a) (vf a)) []) (kf as[i]) (vf as[i])
      omega
  · left
    refine ⟨it.stop i μ P2 H2 (by rw [List.length_map]; omega) k2.hx g2.s.ex keep, ?_⟩
    rw [List.take_of_length_le (by omega)] at h2
    exact q _ _ _ (s1.trans (g2.done hD h2)) ⟨D, rfl, .inl upd_same⟩
/-- a dict with tuple keys; such a key -/
def dctTR (kvs : List (List Key × V)) : RP := ⟨fun v P => ∃ d, v = .ref d ∧ P d = some (.dT kvs), fun l ⟨d, e, h⟩ => ⟨d, e, by
  obtain ⟨o', h', s⟩ := l d _ h
  rcases s with rfl | ⟨_, _, z, _⟩
  · exact h'
  · cases z⟩⟩
def keyTR (k : List Key) : RP := ⟨fun v P => ∃ b, v = .ref b ∧ P b = some (.tup (k.map kV)), fun l ⟨b, e, h⟩ => ⟨b, e, l.tup h⟩⟩
theorem es_dcT {wi : TI} {g : TG} {vs js : List Nat} {α : Type} {as : List α} {RA : α → RP} {kf : α → List Key} {vf : α → V} {ρ' : α → List (Option RP)} (hs : Src W ρ μ wi (as.map RA))
    (hg : ∀ a ∈ as, Tg W (wipeR ρ vs) μ g (RA a) (ρ' a) js) (hj : ∀ i ∈ js, i ∈ vs) (hk : ∀ a ∈ as, E W (ρ' a) μ tk (keyTR (kf a))) (hv : ∀ a ∈ as, E W (ρ' a) μ tv (valR (vf a))) (hl : as.length < 100000) :
    E W ρ μ (tDcT wi g tYes tk tv vs) (dctTR (as.foldl (fun kv a => putK kv (kf a) (vf a)) [])) := fun σ P H k Q q => by
  refine hs σ P H k _ fun J P1 H1 s1 it => ?_
  have k1 := k.step s1
  intro D hD
  have hz : ∀ a, W.Z a → H1 a ≠ none := fun a z => (k1.hx.z a z).2
  have dz : ¬ W.Z D := fun z => hz D z hD
  have g0 : Grow W P1 H1 D P1 (upd H1 D (.dT [])) := Grow.put ⟨Stp.refl k1.hx.le, k1.hx.le.some hD⟩ hD hz _
  refine ⟨fun i m H' => m = as.length - i ∧ i ≤ as.length ∧ ∃ P2, Grow W P1 H1 D P2 H' ∧ H' D = some (.dT ((as.take i).foldl (fun kv a => putK kv (kf a) (vf a)) [])) ∧ ((as.take i).foldl (fun kv a => putK kv (kf a) (vf a)) []).length ≤ i, ⟨_, rfl, Nat.zero_le _, P1, g0, upd_same, Nat.le_refl _⟩, ?_⟩
  rintro i m H2 ⟨rfl, hi, P2, g2, h2, l2⟩
  have k2 := k1.step g2.s
  have keep : ∀ a o, P1 a ≠ none → H1 a = some o → H2 a = some o := fun a o h e => g2.s.kp a o (not_z (c := ⟨W, P, H, [], none⟩) k1.hx h) e
  by_cases c : i < as.length
  · right
    have ha := List.getElem?_eq_getElem c
    have hm : as[i] ∈ as := List.getElem_mem c
    obtain ⟨hgo, hy⟩ := it.go i (RA as[i]) μ P2 H2 (by rw [List.getElem?_map, ha]; rfl) k2.hx g2.s.ex keep
    refine ⟨hgo, _, fun H' h => ⟨as.length - (i + 1), by omega, h⟩, fun v H3 y => ?_⟩
    obtain ⟨P3, s3, r3⟩ := hy v H3 y
    have g3 := g2.step (by rw [h2]; exact fun z => by cases z) s3
    have h3 := s3.kp D _ dz h2
    refine hg _ hm (wipe σ vs) P3 H3 v ((k1.step g3.s).wipe vs) r3 _ fun σ' k' l' a' => ?_
    refine ⟨(wipe_eq l' fun i hi => a' i fun z => hi (hj i z)).trans wipe_wipe, ?_⟩
    unfold tYes
    dsimp only
    rw [if_pos rfl]
    refine hk _ hm σ' P3 H3 k' _ fun w P5 H5 s5 r5 => ?_
    have g5 := g3.step (by rw [h3]; exact fun z => by cases z) s5
    have h5 := s5.kp D _ dz h3
    refine hv _ hm σ' P5 H5 (k'.step s5) _ fun z P6 H6 s6 r6 => ?_
    have g6 := g5.step (by rw [h5]; exact fun z => by cases z) s6
    have h6 := s6.kp D _ dz h5
    have r6' : z = vf as[i] := r6
    obtain ⟨b, rfl, hb⟩ := r5
    have hb6 : H6 b = some (.tup ((kf as[i]).map kV)) := s6.le.tup (s6.ex _ _ hb)
    have e : (as.take (i + 1)).foldl (fun kv a => putK kv (kf a) (vf a)) [] = putK ((as.take i).foldl (fun kv a => putK kv (kf a) (vf a)) []) (kf as[i]) (vf as[i]) := by
      rw [List.take_add_one, ha, List.foldl_append]
      rfl
    refine ⟨_, DPut.t h6 hb6 (by rw [sizeLine_eq]; omega), rfl, by omega, P6, g6.put hD hz _, ?_, ?_⟩
    · rw [upd_same, e, r6']
    · rw [e]
      have := length_putK ((as.take i).foldl (fun kv a => putK kv (kf a) (vf a)) []) (kf as[i]) (vf as[i])
      omega
  · left
    refine ⟨it.stop i μ P2 H2 (by rw [List.length_map]; omega) k2.hx g2.s.ex keep, ?_⟩
    rw [List.take_of_length_le (by omega)] at h2
    exact q _ _ _ (s1.trans (g2.done hD h2)) ⟨D, rfl, upd_same⟩
theorem oc_lenDT {kvs : List (List Key × V)} : OC W μ rLenT [dctTR kvs] (intR ((kvs.length : Nat) : Int)) := fun P H xs k r Q q => by
  obtain ⟨v, rfl, d, rfl, hd⟩ := reps_one r
  refine ⟨d, kvs, rfl, ?_, q _ P H (Stp.refl k.le) rfl⟩
  obtain ⟨o', h', s⟩ := k.le d _ hd
  rcases s with rfl | ⟨_, _, z, _⟩
  · exact h'
  · cases z
end
/-! ### how many keys -/
theorem nodup_sub_le {α : Type} [DecidableEq α] : ∀ {L M : List α}, L.Nodup → (∀ x ∈ L, x ∈ M) → L.length ≤ M.length
  | [], _, _, _ => Nat.zero_le _
  | a :: L, M, h, hs => by
    obtain ⟨h1, h2⟩ := List.nodup_cons.mp h
    have ha := hs a List.mem_cons_self
    have ih := nodup_sub_le (M := M.erase a) h2 fun x hx => (List.mem_erase_of_ne (fun e : x = a => h1 (e ▸ hx))).mpr (hs x (List.mem_cons_of_mem _ hx))
    rw [List.length_erase_of_mem ha] at ih
    have := List.length_pos_of_mem ha
    rw [List.length_cons]
    omega
section
variable {κ : Type} [DecidableEq κ]
theorem val_mem {kvs : List (κ × V)} {k : κ} (h : (valV kvs k).isSome = true) : k ∈ kvs.map (·.1) := by
  induction kvs with
  | nil => simp [valV] at h
  | cons p r ih =>
    by_cases e : p.1 = k
    · rw [← e]
      exact List.mem_cons_self
    · rw [valV_neg e] at h
      exact List.mem_cons_of_mem _ (ih h)
theorem fold_val {α : Type} {kf : α → κ} {vf : α → V} : ∀ (as : List α) (kvs : List (κ × V)) (k : κ), ((valV kvs k).isSome = true ∨ ∃ a ∈ as, kf a = k) → (valV (as.foldl (fun kv a => putK kv (kf a) (vf a)) kvs) k).isSome = true
  | [], kvs, k, h => h.elim id fun ⟨a, ha, _⟩ => by cases ha
  | a :: as, kvs, k, h => by
    refine fold_val as _ k ?_
    by_cases e : kf a = k
    · left
      rw [valV_put, if_pos e.symm]
      rfl
    · rcases h with h | ⟨b, hb, e2⟩
      · left
        rw [valV_put, if_neg (Ne.symm e)]
        exact h
      · rcases List.mem_cons.mp hb with z | hb
        · rw [z] at e2
          exact absurd e2 e
        · exact .inr ⟨b, hb, e2⟩
/-- as many keys at least -/
theorem fold_len {α : Type} {kf : α → κ} {vf : α → V} {as : List α} {L : List κ} (h : L.Nodup) (hs : ∀ k ∈ L, ∃ a ∈ as, kf a = k) : L.length ≤ (as.foldl (fun kv a => putK kv (kf a) (vf a)) []).length := by
  have := nodup_sub_le (M := (as.foldl (fun kv a => putK kv (kf a) (vf a)) []).map (·.1)) h fun k hk => val_mem (fold_val as [] k (.inr (hs k hk)))
  rwa [List.length_map] at this
end
end Y
end
section
/-! The defs, part 11: arrows are checked. -/
namespace WS
/-- one arrow ahead of another -/
def Ahead (a b : Arr) : Prop := a.place < b.place ∨ (a.place = b.place ∧ a.letter < b.letter)
structure ArrS (n : Nat) (A : List Arr) : Prop where
  ok : ArrOk n A
  few : A.length ≤ 60
  ltr : ∀ a ∈ A, 97 ≤ a.letter ∧ a.letter ≤ 101
  asc : A.Pairwise Ahead
end WS
namespace Y
open PySem PySem.Spec L2
open PyProof.Rows (envOfC)
local macro_rules | `(tactic| walk_at "e") => `(tactic| repeat (first
  | exact es_c | exact es_var rfl | exact ea_nil | exact et_yes | with_reducible apply ea_cons | with_reducible apply es_op | with_reducible apply es_cb | with_reducible apply es_un | with_reducible apply es_tup | with_reducible apply es_lst | exact Nat.le_of_ble_eq_true rfl
  | with_reducible apply es_chain | with_reducible apply et_test | with_reducible apply et_B | with_reducible apply et_not | with_reducible apply es_notV
  | exact o2_add | exact o2_sub | exact o2_lt | exact o2_le | exact o2_gt | exact o2_ge | exact o2_eqI | exact o2_neI | exact o1_neg | exact o2_is | exact o2_isnot | exact o2_inDI | exact o2_ninDI | exact o2_inNL | exact o2_inNT | exact o2_ninNL | exact o2_ninNT | exact o2_inL | exact o2_inT | exact o2_ninL | exact o2_ninT | exact o2_eqT | exact o2_eqL
  | exact oc_lenL | exact oc_lenT | exact oc_lenD | exact oc_sumL | exact oc_sumT' | exact oc_max2 | exact oc_min2 | exact oc_sortI | exact oc_tupL | exact oc_int | exact oc_intB | exact oc_abs | exact oc_any | exact oc_all
  | exact o2_div (by constructor <;> omega) | exact o2_mod (by omega) | exact o2_mulT (by first | (left; constructor <;> omega) | (right; constructor <;> omega)) | exact o2_ixL (by omega) rfl | exact o2_ixT (by omega) rfl))
abbrev s_is_letter : Stmt := top 11
abbrev n_is_letter : List Str := ["thing"]
theorem sc_is_letter : FnScope n_is_letter ["thing"] (defScope s_is_letter) := ⟨rfl, rfl, rfl, by decide +kernel, rfl, by decide +kernel, by decide +kernel⟩
abbrev s_are_ascending : Stmt := top 12
abbrev n_are_ascending : List Str := ["things", "at"]
theorem sc_are_ascending : FnScope n_are_ascending ["things"] (defScope s_are_ascending) := ⟨rfl, rfl, rfl, by decide +kernel, rfl, by decide +kernel, by decide +kernel⟩
abbrev s_is_arrow : Stmt := top 22
abbrev n_is_arrow : List Str := ["thing", "places"]
theorem sc_is_arrow : FnScope n_is_arrow ["thing", "places"] (defScope s_is_arrow) := ⟨rfl, rfl, rfl, by decide +kernel, rfl, by decide +kernel, by decide +kernel⟩
abbrev s_are_arrows : Stmt := top 23
abbrev n_are_arrows : List Str := ["thing", "places", "arrow"]
theorem sc_are_arrows : FnScope n_are_arrows ["thing", "places"] (defScope s_are_arrows) := ⟨rfl, rfl, rfl, by decide +kernel, rfl, by decide +kernel, by decide +kernel⟩
abbrev dA (a : WS.Arr) : PyData := .tuple [.int ((a.place : Nat) : Int), .str ⟨#[a.letter]⟩, .int a.pay, .int ((a.goal : Nat) : Int)]
theorem alike_arr (a b : WS.Arr) : PySem.W.alike (dA a) (dA b) = true := by simp [PySem.W.alike, PySem.W.alikeAll]
theorem lt_arr {a b : WS.Arr} (h : WS.Ahead a b) : PySem.W.dataLt (dA a) (dA b) = true ∧ PySem.W.dataLt (dA b) (dA a) = false := by
  have i1 : PySem.W.alike (PyData.int ((a.place : Nat) : Int)) (.int ((b.place : Nat) : Int)) = true := by simp [PySem.W.alike]
  have i2 : PySem.W.alike (PyData.int ((b.place : Nat) : Int)) (.int ((a.place : Nat) : Int)) = true := by simp [PySem.W.alike]
  have s1 : PySem.W.alike (PyData.str ⟨#[a.letter]⟩) (.str ⟨#[b.letter]⟩) = true := by simp [PySem.W.alike]
  have s2 : PySem.W.alike (PyData.str ⟨#[b.letter]⟩) (.str ⟨#[a.letter]⟩) = true := by simp [PySem.W.alike]
  rw [PySem.W.dataLt_tuple, PySem.W.dataLt_tuple, PySem.W.dataLt_cons i1, PySem.W.dataLt_cons i2, PySem.W.dataLt_int, PySem.W.dataLt_int]
  rcases h with h | ⟨h1, h2⟩
  · rw [if_neg (by simp [PyData.eqv]; omega), if_neg (by simp [PyData.eqv]; omega)]
    exact ⟨decide_eq_true (by omega), decide_eq_false (by omega)⟩
  · rw [if_pos (by simp [PyData.eqv, h1]), if_pos (by simp [PyData.eqv, h1]), PySem.W.dataLt_cons s1, PySem.W.dataLt_cons s2, PySem.W.dataLt_str, PySem.W.dataLt_str]
    have n1 : ¬ (PyData.eqv (.str ⟨#[a.letter]⟩) (.str ⟨#[b.letter]⟩) = true) := by simp [PyData.eqv]; omega
    have n2 : ¬ (PyData.eqv (.str ⟨#[b.letter]⟩) (.str ⟨#[a.letter]⟩) = true) := by simp [PyData.eqv]; omega
    rw [if_neg n1, if_neg n2]
    constructor
    · exact decide_eq_true (by simp [List.cons_lt_cons_iff]; omega)
    · exact decide_eq_false (by simp [List.cons_lt_cons_iff]; omega)
theorem tells_arr {K : PySem.W.Frag} (a : WS.Arr) : Tells K (arrR a) (dA a) := tells_tup (.cons tells_int (.cons tells_str (.cons tells_int (.cons tells_int .nil))))
section
variable {P : Program} {w : World} {K : PySem.W.Frag} {mg : Str → Option Value} {base : Heap} {C : Addr}
abbrev sp_is_letter : Sp := spOf (fun c : Nat => 97 ≤ c ∧ c ≤ 101) (fun c => [ltr c]) (fun _ => blR true)
theorem ok_is_letter (T : Txt K mg) (d : DefAt K mg "is_letter" s_is_letter) : Callee P w K mg base "is_letter" ["thing"] 1 sp_is_letter := by
  refine d.ok sc_is_letter (fun _ _ _ _ _ _ us hl => match us, hl with | [_], _ => rfl) (fun _ _ => rfl) fun f cdv A outer s H E1 hr => ⟨_, (pss_one (ps_ret (pe_and (pe_callB (ca_isiK K rfl) (by rfl) T.isinstance bo_isinstance (pa_cons (pv 0) (pa_cons (pe_bltn (v := .ty "str") (by rfl) T.str bo_str rfl) pa_nil))) (pe_and (pe_cmpR (op_uEqK K rfl hr.units) (pe_callB (cr_lenK K rfl) (by rfl) T.len bo_len (pa_cons (pv 0) pa_nil)) pe_int (nomark _)) (pe_one (pe_cmpR (op_uInK K rfl (hu_of hr)) (pv 0) (p_str (by rfl) T.LETTERS) (by rfl))))))), fun c P0 H0 σ0 Q ⟨h1, h2⟩ a q => ?_⟩
  (try dsimp only [tNext]); refine q_end a (es_eqB (es_andV (a := true) (b := true && true) (es_cb (ea_cons (es_var (R := ltr c) rfl) (ea_cons es_c ea_nil)) (oc_isi (x := .str ⟨#[c]⟩) (s := "str") (n := "str") (b := true) rfl (by decide +kernel))) fun _ => es_andV (es_eqB (es_op (es_cb (ea_cons (es_var (R := ltr c) rfl) ea_nil) (oc_lenS (z := ⟨#[c]⟩) (by show 1 ≤ 100000; decide))) es_c o2_eqI) (j := true) (by show decide (((1 : Nat) : Int) = 1) = true; decide)) fun _ => es_eqB (es_op (es_var (R := ltr c) rfl) es_c o2_inS) ?_) rfl) rfl rfl (by exact q)
  have hc : c = 97 ∨ c = 98 ∨ c = 99 ∨ c = 100 ∨ c = 101 := by have h1 : 97 ≤ c := h1; have h2 : c ≤ 101 := h2; omega
  rcases hc with rfl | rfl | rfl | rfl | rfl <;> decide +kernel
abbrev sp_are_ascending : Sp := spOf (fun A : List WS.Arr => A.Pairwise WS.Ahead ∧ A.length ≤ 60) (fun A => [tupR (A.map arrR)]) (fun _ => blR true)
theorem ok_are_ascending (T : Txt K mg) (d : DefAt K mg "are_ascending" s_are_ascending) : Callee P w K mg base "are_ascending" ["things"] 1 sp_are_ascending := by
  refine d.ok sc_are_ascending (fun _ _ _ _ _ _ us hl => match us, hl with | [_], _ => rfl) (fun _ _ => rfl) fun f cdv A outer s H E1 hr => ⟨_, (pss_one (ps_ret (pe_callB (cr_allK K rfl rfl) (by rfl) T.all bo_all (pa_cons (pe_lc (own := [("at", 1)]) (by rfl) sc_are_ascending.nd (pi_range2 (by rfl) T.range (pa_cons pe_int (pa_cons (pe_callB (cr_lenK K rfl) (by rfl) T.len bo_len (pa_cons (pv 0) pa_nil)) pa_nil))) (blkOk_by (own := [("at", 1)]) (N := n_are_ascending) (sc := defScope s_are_ascending) (by decide +kernel)) (fun _ _ _ _ _ => (pg_name (i := 1) sc_are_ascending.nd rfl (Or.inl rfl))) (fun _ _ _ _ _ => pts_nil) (fun _ _ _ _ _ => (pe_cmpR (op_uLtK K rfl hr.units) (pe_ix (ix_seqK K rfl) (pv 0) (pe_op op_uSub (pv 1) pe_int) (fun _ _ => rfl)) (pe_ix (ix_seqK K rfl) (pv 0) (pv 1) (fun _ _ => rfl)) (nomark _)))) pa_nil)))), fun As P0 H0 σ0 Q ⟨hA, hl⟩ a q => ?_⟩
  have hA : As.Pairwise WS.Ahead := hA
  have hl : As.length ≤ 60 := hl
  let n : Nat := (((As.length : Nat) : Int) - 1).toNat
  (try dsimp only [tNext]); refine q_end a (es_eqB (es_cb (ea_cons (es_eq (es_lc0 (as := List.range n) (RA := fun i => intR (1 + ((i : Nat) : Int))) (RB := fun _ => blR true) (src_range2 (lo := 1) (hi := ((As.length : Nat) : Int)) (ea_cons es_c (ea_cons (es_eqI (es_cb (ea_cons (es_var (R := tupR (As.map arrR)) rfl) ea_nil) oc_lenT) (by rw [List.length_map])) ea_nil)) ⟨⟨by decide, by decide⟩, by omega, by omega⟩) (fun _ _ => tg_name) (by decide) (fun i hi => ?_) (by rw [List.length_range]; omega))
    (R' := lstR (((List.range n).map fun _ => true).map fun b => blR b)) (by rw [List.map_map]; rfl)) ea_nil) oc_all) (j := true) (by simp)) rfl rfl (by exact q)
  have hi := List.mem_range.mp hi
  have hi2 : i + 1 < As.length := by
    have h : i < (((As.length : Nat) : Int) - 1).toNat := hi
    omega
  have e0 : (As.map arrR)[(1 + ((i : Nat) : Int) - 1).toNat]? = some (arrR As[i]) := by
    rw [show (1 + ((i : Nat) : Int) - 1).toNat = i by omega, List.getElem?_map, List.getElem?_eq_getElem (by omega)]
    rfl
  have e1 : (As.map arrR)[(1 + ((i : Nat) : Int)).toNat]? = some (arrR As[i + 1]) := by
    rw [show (1 + ((i : Nat) : Int)).toNat = i + 1 by omega, List.getElem?_map, List.getElem?_eq_getElem hi2]
    rfl
  have hlt := (lt_arr (List.pairwise_iff_getElem.mp hA i (i + 1) (by omega) hi2 (by omega))).1
  exact es_eqB (es_op (es_op (es_var (R := tupR (As.map arrR)) rfl) (es_op (es_var (R := intR (1 + ((i : Nat) : Int))) rfl) es_c o2_sub) (o2_ixT (by omega) e0)) (es_op (es_var (R := tupR (As.map arrR)) rfl) (es_var (R := intR (1 + ((i : Nat) : Int))) rfl) (o2_ixT (by omega) e1)) (o2_ltD (tells_arr _) (tells_arr _) (alike_arr _ _) (fun z => by cases z) (by simp [PyData.depth, PyData.depthAll]))) hlt
abbrev sp_is_arrow : Sp := spOf (fun i : WS.Arr × Nat => i.1.place < i.2 ∧ i.1.goal < i.2 ∧ 0 ≤ i.1.pay ∧ i.1.pay ≤ 9 ∧ 97 ≤ i.1.letter ∧ i.1.letter ≤ 101) (fun i => [arrR i.1, intR ((i.2 : Nat) : Int)]) (fun _ => blR true)
theorem ok_is_arrow (T : Txt K mg) (d : DefAt K mg "is_arrow" s_is_arrow) (c_is_within : Callee P w K mg base "is_within" ["thing", "least", "most"] 2 sp_is_within) (c_is_letter : Callee P w K mg base "is_letter" ["thing"] 1 sp_is_letter) : Callee P w K mg base "is_arrow" ["thing", "places"] 3 sp_is_arrow := by
  refine d.ok sc_is_arrow (fun _ _ _ _ _ _ us hl => match us, hl with | [_, _], _ => rfl) (fun _ _ => rfl) fun f cdv A outer s H E1 hr => ⟨_, (pss_cons (ps_if (PW.pt (pw_or (pt_not (pt_val (pe_callB (ca_isiK K rfl) (by rfl) T.isinstance bo_isinstance (pa_cons (pv 0) (pa_cons (pe_bltn (v := .ty "tuple") (by rfl) T.tuple bo_tuple rfl) pa_nil))))) (pw_or1 (pt_cmpR (op_uNeK K rfl hr.units) (pe_callB (cr_lenK K rfl) (by rfl) T.len bo_len (pa_cons (pv 0) pa_nil)) pe_int (nomark _))))) (pss_one (ps_ret pe_bl)) pss_nil)
  (pss_cons (ps_if (PW.pt (pw_or (pt_not (pt_val (pe_callC c_is_within (hr.mono (by decide)) (by rfl) (pa_cons (pe_ix (ix_seqK K rfl) (pv 0) pe_int (fun _ _ => rfl)) (pa_cons pe_int (pa_cons (pe_op op_uSub (pv 1) pe_int) pa_nil)))))) (pw_or1 (pt_not (pt_val (pe_callC c_is_letter (hr.mono (by decide)) (by rfl) (pa_cons (pe_ix (ix_seqK K rfl) (pv 0) pe_int (fun _ _ => rfl)) pa_nil))))))) (pss_one (ps_ret pe_bl)) pss_nil)
  (pss_one (ps_ret (pe_and (pe_callC c_is_within (hr.mono (by decide)) (by rfl) (pa_cons (pe_ix (ix_seqK K rfl) (pv 0) pe_int (fun _ _ => rfl)) (pa_cons pe_int (pa_cons (p_int (by rfl) T.MOST_PAY) pa_nil)))) (pe_one (pe_callC c_is_within (hr.mono (by decide)) (by rfl) (pa_cons (pe_ix (ix_seqK K rfl) (pv 0) pe_int (fun _ _ => rfl)) (pa_cons pe_int (pa_cons (pe_op op_uSub (pv 1) pe_int) pa_nil)))))))))), fun ⟨r, n⟩ P0 H0 σ0 Q ⟨h1, h2, h3, h4, h5, h6⟩ a q => ?_⟩
  simp only at h1 h2 h3 h4 h5 h6
  have two : ∀ {i : Int} {x y : Int} (h : x ≤ i) (g : i ≤ y), (decide (x ≤ i) && decide (i ≤ y)) = true := fun h g => by rw [decide_eq_true h, decide_eq_true g]; rfl
  have tp : (decide ((0 : Int) ≤ ((r.place : Nat) : Int)) && decide (((r.place : Nat) : Int) ≤ ((n : Nat) : Int) - 1)) = true := two (by omega) (by omega)
  have tg : (decide ((0 : Int) ≤ ((r.goal : Nat) : Int)) && decide (((r.goal : Nat) : Int) ≤ ((n : Nat) : Int) - 1)) = true := two (by omega) (by omega)
  (try dsimp only [tNext]); refine sq (q_if a (b := false) (et_eq (et_or (et_not (et_B (es_cb (ea_cons (es_var (R := arrR r) rfl) (ea_cons es_c ea_nil)) (oc_isiT (n := "tuple") (b := true) (by decide +kernel))))) fun _ => et_test (es_op (es_cb (ea_cons (es_var (R := arrR r) rfl) ea_nil) oc_lenT) es_c o2_neI)) (by rfl)) (fun e => by cases e) fun _ P1 H1 a1 => ?_)
  (try dsimp only [tNext]); refine sq (q_if a1 (b := false) (et_eq (et_or (et_not (et_B (es_eqB (es_call (((r.place : Nat) : Int), 0, ((n : Nat) : Int) - 1) (ea_cons (es_op (es_var (R := arrR r) rfl) es_c (o2_ixT (by omega) rfl)) (ea_cons es_c (ea_cons (es_op (es_var rfl) es_c o2_sub) ea_nil))) trivial) tp))) fun _ => et_not (et_B (es_call r.letter (ea_cons (es_op (es_var (R := arrR r) rfl) es_c (o2_ixT (by omega) rfl)) ea_nil) ⟨h5, h6⟩))) (by rfl)) (fun e => by cases e) fun _ P2 H2 a2 => ?_)
  (try dsimp only [tNext]); refine q_end a2 (es_eqB (es_andV (a := true) (b := true) (es_eqB (es_call (r.pay, 0, 9) (ea_cons (es_op (es_var (R := arrR r) rfl) es_c (o2_ixT (by omega) rfl)) (ea_cons es_c (ea_cons es_c ea_nil))) trivial) (two h3 h4)) fun _ => es_eqB (es_call (((r.goal : Nat) : Int), 0, ((n : Nat) : Int) - 1) (ea_cons (es_op (es_var (R := arrR r) rfl) es_c (o2_ixT (by omega) rfl)) (ea_cons es_c (ea_cons (es_op (es_var rfl) es_c o2_sub) ea_nil))) trivial) tg) rfl) rfl rfl (by exact q)
abbrev sp_are_arrows : Sp := spOf (fun i : Nat × List WS.Arr => WS.ArrS i.1 i.2) (fun i => [tupR (i.2.map arrR), intR ((i.1 : Nat) : Int)]) (fun _ => blR true)
theorem ok_are_arrows (T : Txt K mg) (d : DefAt K mg "are_arrows" s_are_arrows) (c_is_arrow : Callee P w K mg base "is_arrow" ["thing", "places"] 3 sp_is_arrow) (c_are_ascending : Callee P w K mg base "are_ascending" ["things"] 1 sp_are_ascending) : Callee P w K mg base "are_arrows" ["thing", "places"] 4 sp_are_arrows := by
  refine d.ok sc_are_arrows (fun _ _ _ _ _ _ us hl => match us, hl with | [_, _], _ => rfl) (fun _ _ => rfl) fun f cdv A outer s H E1 hr => ⟨_, (pss_cons (ps_if (PW.pt (pw_or (pt_not (pt_val (pe_callB (ca_isiK K rfl) (by rfl) T.isinstance bo_isinstance (pa_cons (pv 0) (pa_cons (pe_bltn (v := .ty "tuple") (by rfl) T.tuple bo_tuple rfl) pa_nil))))) (pw_or1 (pt_not (pt_chain op_uLe op_uLe pe_int (pe_callB (cr_lenK K rfl) (by rfl) T.len bo_len (pa_cons (pv 0) pa_nil)) (p_int (by rfl) T.MOST_ARROWS)))))) (pss_one (ps_ret pe_bl)) pss_nil)
  (pss_one (ps_ret (pe_and (pe_callB (cr_allK K rfl rfl) (by rfl) T.all bo_all (pa_cons (pe_lc (own := [("arrow", 2)]) (by rfl) sc_are_arrows.nd (pi_tupK K rfl (pv 0)) (blkOk_by (own := [("arrow", 2)]) (N := n_are_arrows) (sc := defScope s_are_arrows) (by decide +kernel)) (fun _ _ _ _ _ => (pg_name (i := 2) sc_are_arrows.nd rfl (Or.inl rfl))) (fun _ _ _ _ _ => pts_nil) (fun _ _ _ _ _ => (pe_callC c_is_arrow (hr.mono (by decide)) (by rfl) (pa_cons (pv 2) (pa_cons (pv 1) pa_nil))))) pa_nil)) (pe_one (pe_callC c_are_ascending (hr.mono (by decide)) (by rfl) (pa_cons (pv 0) pa_nil))))))), fun ⟨n, As⟩ P0 H0 σ0 Q h a q => ?_⟩
  have h : WS.ArrS n As := h
  have hl := h.few
  have h0 : 1 ≤ As.length := by
    have := h.ok.some 0 h.ok.pos
    cases As with
    | nil => exact absurd rfl this
    | cons x l => simp
  (try dsimp only [tNext]); refine sq (q_if a (b := false) (et_eq (et_or (et_not (et_B (es_cb (ea_cons (es_var (R := tupR (As.map arrR)) rfl) (ea_cons es_c ea_nil)) (oc_isiT (n := "tuple") (b := true) (by decide +kernel))))) fun _ => et_not (et_test (es_chain es_c (es_cb (ea_cons (es_var (R := tupR (As.map arrR)) rfl) ea_nil) oc_lenT) es_c o2_le o2_le))) ?_) (fun e => by cases e) fun _ P1 H1 a1 => ?_)
  · rw [List.length_map, decide_eq_true (by omega), decide_eq_true (by omega)]
    rfl
  · (try dsimp only [tNext]); refine q_end a1 (es_eqB (es_andV (a := true) (b := true) (es_eqB (es_cb (ea_cons (es_eq (es_lc0 (as := As) (RA := arrR) (RB := fun _ => blR true) (src_tup (es_var rfl)) (fun _ _ => tg_name) (by decide) (fun r hr => ?_) (by omega)) (R' := lstR ((As.map fun _ => true).map fun b => blR b)) (by rw [List.map_map]; rfl)) ea_nil) oc_all) (j := true) (by simp)) fun _ => es_call As (by walk_at "e") ⟨h.asc, h.few⟩) rfl) rfl rfl (by exact q)
    have e := h.ok.each r hr
    have e2 := h.ltr r hr
    exact es_call (r, n) (by walk_at "e") ⟨e.1, e.2.1, e.2.2.1, e.2.2.2, e2.1, e2.2⟩
end
end Y
end
section
/-! The layer, part 16: an object being made. -/
namespace Y
open PySem PySem.Spec L2
open PyProof.Rows (envOfC)
def rm (H : Hp) (a : Addr) : Hp := fun b => if b = a then none else H b
theorem rm_ne {H : Hp} {a b : Addr} (h : b ≠ a) : rm H a b = H b := if_neg h
theorem rm_same {H : Hp} {a : Addr} : rm H a a = none := if_pos rfl
theorem rm_some {H : Hp} {a b : Addr} {o : HO} (h : rm H a b = some o) : b ≠ a ∧ H b = some o := by
  by_cases e : b = a
  · rw [e, rm_same] at h
    cases h
  · rw [rm_ne e] at h
    exact ⟨e, h⟩
/-- o.m(..) on a new instance of the class at C, without fields yet: it becomes what res tells -/
def spIni {ι : Type} (C : Addr) (ok : ι → Prop) (args : ι → List RP) (res : ι → RP) : Sp := fun vs H Q _ => ∃ (i : ι) (P : Hp) (a dx : Addr) (ws : List V), vs = .ref a :: ws ∧ ok i ∧ Le P H ∧ P a = none ∧ H a = some (.ins C dx []) ∧ Reps (args i) ws P ∧
  ∀ P' H', Stp W0 P (rm H a) P' H' → (res i).r (.ref a) P' → Q .non H'
section
variable {P : Program} {w : World} {K : PySem.W.Frag} {mg : Str → Option Value} {base : Heap}
theorem ini_at {N : List Str} {Rs : List RP} {ws : List V} {P H : Hp} {a C dx : Addr} (l : Le P H) (hp : P a = none) (ha : H a = some (.ins C dx [])) (r : Reps Rs ws P) : At ⟨W0, P, rm H a, [], none⟩ (entryR N (valR (.ref a) :: Rs)) [(a, .ins C dx [])] (L2.start N (.ref a :: ws)) P H := by
  have e := entry_at (N := N) l (Paired.cons (show (valR (.ref a)).r (.ref a) P from rfl) r : Reps (valR (.ref a) :: Rs) (.ref a :: ws) P)
  refine ⟨⟨⟨l, fun a z => z.elim, trivial, fun p m h => ?_, by simp⟩, e.ok.sat, e.ok.len⟩, Ex.refl P, fun b h1 h2 => h2, fun b o _ h => (rm_some h).2, fun d od kvs (z : none = some _) => (nomatch z), fun B h => absurd h List.not_mem_nil, fun p m h => ?_⟩
  · obtain ⟨rfl, rfl⟩ := Prod.mk.inj (List.mem_singleton.mp h)
    exact ⟨fun z => z, hp, ha⟩
  · obtain ⟨rfl, rfl⟩ := Prod.mk.inj (List.mem_singleton.mp h)
    exact rm_same
theorem ini_ok {ι : Type} {C : Addr} {ok : ι → Prop} {args : ι → List RP} {res : ι → RP} {x qual : Str} {st : Stmt} {N ps : List Str} {k : Nat} {f : Addr} {fd : FuncData} (F : FunD K x qual (defArgs st) (defBody st) (defScope st) [] [] f fd) (S : FnScope N ps (defScope st)) (hl : ∀ i, ok i → (args i).length + 1 = ps.length)
    (hbody : ∀ (f : Addr) (cdv : Value) (A : Around) (outer : List Env) (s : Shared) (H : Hp) (E : XK), Room k (A.deeper (envOfC qual (defScope st) s.heap.objs.size f cdv)) →
      ∃ t, PSs (cxOf CX0 P w K mg base N qual (defScope st) f cdv A outer s H E).nox (defBody st) t ∧ ∀ (i : ι) (P H : Hp) (a dx : Addr) (σ : St) (Q : VK), ok i → H a = some (.ins C dx []) → At ⟨W0, P, rm H a, [], none⟩ (entryR N (valR (.ref a) :: args i)) [(a, .ins C dx [])] σ P H →
        (∀ P' H', Stp W0 P (rm H a) P' H' → (res i).r (.ref a) P' → Q .non H') → t { nx := fun _ H' => Q .non H', rt := Q } σ H) : FnOk P w K mg base CX0 (k + 1) f fd ps (spIni C ok args res) := by
  refine F.ok S (fun vs H Q E h => ?_) (fun cdv A outer s H vs Q E hr h => ?_)
  · obtain ⟨i, P, a, dx, ws, rfl, hi, _, _, _, r, _⟩ := h
    rw [List.length_cons, ← hl i hi, Paired.length r]
  · obtain ⟨i, P, a, dx, ws, rfl, hi, l, hp, ha, r, q⟩ := h
    obtain ⟨t, h1, h2⟩ := hbody f cdv A outer s H E hr
    exact ⟨t, h1.nox, h2 i P H a dx _ Q hi ha (ini_at l hp ha r) q⟩
end
section
variable {c : Cq} {ρ : List (Option RP)} {μ μ' : Me} {σ : St} {P H : Hp} {te tv : TE} {R : RP} {D : Ends} {K : PySem.W.Frag}
theorem At.perm (a : At c ρ μ σ P H) (h : μ.Perm μ') : At c ρ μ' σ P H :=
  ⟨⟨⟨a.ok.hx.le, a.ok.hx.z, a.ok.hx.j, fun p m hm => a.ok.hx.mem p m (h.symm.subset hm), (h.map (·.1)).nodup_iff.mp a.ok.hx.nod⟩, a.ok.sat, a.ok.len⟩, a.ex, a.nw, a.kp, a.lc, a.bs, fun p m hm => a.fr p m (h.symm.subset hm)⟩
theorem At.got {p : Addr} {m : Mo} {o : HO} (a : At c ρ μ σ P H) (hp : H p = none) (h : m.at p P (upd H p o)) : At c ρ ((p, m) :: μ) σ P (upd H p o) := by
  have e := a.own hp h ρ.length (a.h0 hp)
  rw [List.set_eq_of_length_le (Nat.le_refl _), List.set_eq_of_length_le (by rw [a.ok.len]; exact Nat.le_refl _)] at e
  exact e
/-- .. stands -/
theorem At.stand {j : Nat} {p : Addr} {m : Mo} (a : At c ρ μ σ P H) (hj : μ[j]? = some (p, m)) : ∃ P', At c ρ (μ.eraseIdx j) σ P' H ∧ Ex P P' ∧ m.rp.r (.ref p) P' := by
  obtain ⟨o, ho, hp, r, k⟩ := a.ok.hx.stand hj
  have ex : Ex P (upd P p o) := Ex.upd hp
  have hm : (p, m) ∈ μ := List.mem_of_getElem? hj
  refine ⟨upd P p o, ⟨⟨k, a.ok.sat.up ex.le, a.ok.len⟩, a.ex.trans ex, fun b h1 h2 => ?_, a.kp, fun d od kvs e => ?_, fun B hB => ?_, fun q m2 hq => a.fr q m2 (sub_erase hq)⟩, ex, r⟩
  · by_cases e2 : b = p
    · subst e2
      exact absurd (a.fr _ m hm) h1
    · rw [upd_ne e2] at h2
      exact a.nw b h1 h2
  · obtain ⟨y1, y2⟩ := a.lc d od kvs e
    refine ⟨?_, y2⟩
    rw [upd_ne fun e => y1 (by rw [e]; exact hp)]
    exact y1
  · obtain ⟨b1, b2⟩ := a.bs B hB
    exact ⟨b1.trans ex, b2⟩
/-- o.f = e, o of the def's own -/
theorem q_fld {i j : Nat} {p C dx : Addr} {fs : List (Str × V)} {f : Str} (a : At c ρ μ σ P H) (hi : ρ[i]? = some (some (valR (.ref p)))) (hj : μ[j]? = some (p, .ins C dx fs)) (cl : Cls K C) (na : NoAttr K C f) (hl : fs.length < 1000) (e : E c.W ρ μ tv R)
    (k : ∀ v P' H', At c ρ (μ.set j (p, .ins C dx (putF f v fs))) σ P' H' → R.r v P' → D.nx σ H') : sFld K (tVar i) tv f D σ H := by
  refine a.e e fun v P' H' a' r => ?_
  obtain ⟨w, hw, rfl⟩ := a'.ok.sat i _ hi
  obtain ⟨_, _, y3⟩ := a'.ok.hx.mem p _ (List.mem_of_getElem? hj)
  exact ⟨_, hw, p, C, dx, fs, rfl, y3, cl, na, hl, k v P' _ (a'.put hj (m' := .ins C dx (putF f v fs)) upd_same) r⟩
end
section
variable {W : Wd} {ρ : List (Option RP)} {μ : Me} {K : PySem.W.Frag}
theorem es_fldM {i j : Nat} {p C dx : Addr} {fs : List (Str × V)} {f : Str} {x : V} (hi : ρ[i]? = some (some (valR (.ref p)))) (hj : μ[j]? = some (p, .ins C dx fs)) (cl : Cls K C) (na : NoAttr K C f) (h : fs.lookup f = some x) : E W ρ μ (tFld K (tVar i) f) (valR x) := fun σ P H k Q q => by
  obtain ⟨w, hw, rfl⟩ := k.sat i _ hi
  obtain ⟨_, _, y3⟩ := k.hx.mem p _ (List.mem_of_getElem? hj)
  exact ⟨_, hw, p, C, dx, fs, x, rfl, y3, cl, na, h, q x P H (Stp.refl k.hx.le) rfl⟩
theorem o2_ixM {j : Nat} {p : Addr} {Rs : List RP} {i : Int} {R : RP} (hj : μ[j]? = some (p, .lst Rs)) (h0 : 0 ≤ i) (h : Rs[i.toNat]? = some R) : O2 W μ (rIx K) (valR (.ref p)) (intR i) R := fun P H v w k r1 r2 Q q => by
  have e1 : v = .ref p := r1
  have e2 : w = .int i := r2
  subst e1
  subst e2
  obtain ⟨_, _, xs, hp, r⟩ := k.mem p _ (List.mem_of_getElem? hj)
  obtain ⟨x, hx, rx⟩ := reps_get r h
  refine .inl ⟨p, xs, i, x, rfl, rfl, SqL.of hp, ?_, q _ P H (Stp.refl k.le) rx⟩
  have := atI_nat hx
  rwa [Int.toNat_of_nonneg h0] at this
end
section
variable {c : Cq} {ρ : List (Option RP)} {μ : Me} {σ : St} {P H : Hp} {te t0 : TE} {R : RP} {D : Ends} {K : PySem.W.Frag}
/-- e.append(..), e a list of the def's own -/
theorem q_appE {j : Nat} {p : Addr} {Rs : List RP} (a : At c ρ μ σ P H) (e0 : E c.W ρ μ t0 (valR (.ref p))) (hj : μ[j]? = some (p, .lst Rs)) (e : E c.W ρ μ te R) (hl : Rs.length < 100000)
    (k : ∀ P' H', At c ρ (μ.set j (p, .lst (Rs ++ [R]))) σ P' H' → D.nx σ H') : tDrop (tBM K "list" rAppend t0 (tCons te tNil)) D σ H := by
  refine a.e e0 fun v0 P0 H0 a0 r0 => ?_
  have r0 : v0 = .ref p := r0
  subst r0
  have hm : (p, Mo.lst Rs) ∈ μ := List.mem_of_getElem? hj
  obtain ⟨z1, z2, xs, z3, z4⟩ := a0.ok.hx.mem p _ hm
  refine ⟨.inl ⟨rfl, xs, SqL.of z3⟩, a0.e e fun v P' H' a' r => ?_⟩
  obtain ⟨y1, y2, ys, y3, y4⟩ := a'.ok.hx.mem p _ hm
  refine ⟨p, ys, v, rfl, rfl, y3, ?_, k P' _ (a'.put hj ⟨ys ++ [v], upd_same, reps_app y4 (.cons r .nil)⟩)⟩
  rw [← Paired.length y4, sizeLine_eq]
  omega
/-- [[] for ..]: new lists, each of the def's own -/
theorem lc_fresh {wi : TI} {n j : Nat} (a : At c ρ μ σ P H) (hs : Src c.W ρ μ wi (natsR (List.range n))) (hn : n ≤ 1000) {Q : VK}
    (q : ∀ p (qs : List Addr) P' H', qs.length = n → At c ρ ((p, Mo.lst (qs.map fun b => valR (.ref b))) :: (qs.map (fun b => (b, Mo.lst [])) ++ μ)) σ P' H' → Q (.ref p) H') : tLc wi (gName j) tYes (tLst tNil) [j] σ H Q := by
  refine hs σ P H a.ok _ fun J P1 H1 s1 it => ?_
  have a1 := a.step s1
  intro p hp
  refine ⟨fun i m H' => m = n - i ∧ i ≤ n ∧ ∃ P2 qs, qs.length = i ∧ Ex P1 P2 ∧ (∀ b o, P1 b ≠ none → H1 b = some o → H' b = some o) ∧ At c ρ ((p, Mo.lst (qs.map fun b => valR (.ref b))) :: (qs.map (fun b => (b, Mo.lst [])) ++ μ)) σ P2 H', ⟨_, rfl, Nat.zero_le _, P1, [], rfl, Ex.refl _, fun b o h1 h2 => ?_, a1.got (m := .lst []) hp ⟨[], upd_same, .nil⟩⟩, ?_⟩
  · rw [upd_ne fun e => h1 (by rw [e]; exact a1.ok.hx.le.some hp)]
    exact h2
  rintro i m H2 ⟨rfl, hi, P2, qs, hq, ex2, kp2, a2⟩
  by_cases l : i < n
  · right
    obtain ⟨hgo, hy⟩ := it.go i (intR ((i : Nat) : Int)) _ P2 H2 (by rw [List.getElem?_map, List.getElem?_range l]; rfl) a2.ok.hx ex2 kp2
    refine ⟨hgo, _, fun H' h => ⟨n - (i + 1), by omega, rfl, by omega, h⟩, fun v H3 y => ?_⟩
    obtain ⟨P3, s3, r3⟩ := hy v H3 y
    have a3 := a2.step s3
    have hw : wipe ((wipe σ [j]).set j (some v)) [j] = wipe σ [j] := by
      refine (wipe_eq (by rw [List.length_set]) fun z hz => ?_).trans wipe_wipe
      exact List.getElem?_set_ne fun e => hz (by rw [e]; exact List.mem_cons_self)
    refine ⟨hw, ?_⟩
    unfold tYes
    dsimp only
    rw [if_pos rfl]
    refine ⟨small_line (by decide), fun b hb => ?_⟩
    have a4 := a3.got (m := .lst []) hb ⟨[], upd_same, .nil⟩
    obtain ⟨z1, z2, xs, z3, z4⟩ := a4.ok.hx.mem p _ (List.mem_cons_of_mem _ List.mem_cons_self)
    have a5 := a4.put (j := 1) (p := p) (m := .lst (qs.map fun b => valR (.ref b))) (m' := .lst (qs.map (fun b => valR (.ref b)) ++ [valR (.ref b)])) (o := .lst (xs ++ [.ref b])) rfl ⟨xs ++ [.ref b], upd_same, reps_app z4 (.cons (show (valR (.ref b)).r (.ref b) P3 from rfl) .nil)⟩
    have lx : xs.length = i := by rw [← Paired.length z4, List.length_map, hq]
    have np : ∀ d, P1 d ≠ none → d ≠ p := fun d h e => h (by rw [e]; exact a1.ok.hx.le.some hp)
    refine ⟨xs, z3, by rw [sizeLine_eq]; omega, P3, qs ++ [b], by rw [List.length_append, hq]; rfl, ex2.trans s3.ex, fun d o h1 h2 => ?_, ?_⟩
    · rw [upd_ne (np d h1)]
      have h3 := s3.kp d o (not_z a2.ok.hx (by
        cases e : P1 d with
        | none => exact absurd e h1
        | some u => rw [ex2 d u e]; exact fun z => by cases z)) (kp2 d o h1 h2)
      rw [upd_ne (ne_of_none h3 hb)]
      exact h3
    · refine a5.perm ?_
      show List.Perm ((b, Mo.lst []) :: (p, Mo.lst (qs.map (fun b => valR (.ref b)) ++ [valR (.ref b)])) :: (qs.map (fun b => (b, Mo.lst [])) ++ μ)) _
      rw [List.map_append, List.map_append, List.append_assoc]
      refine (List.Perm.swap _ _ _).trans (.cons _ ?_)
      exact (List.perm_middle (l₁ := qs.map fun b => (b, Mo.lst [])) (a := (b, Mo.lst [])) (l₂ := μ)).symm
  · left
    refine ⟨it.stop i _ P2 H2 (by rw [List.length_map, List.length_range]; omega) a2.ok.hx ex2 kp2, q p qs P2 H2 (by omega) a2⟩
end
end Y
end
section
/-! The defs, part 12: a track is made. -/
namespace Y
open PySem PySem.Spec L2
open PyProof.Rows (envOfC)
local macro_rules | `(tactic| walk_at "e") => `(tactic| repeat (first
  | exact es_c | exact es_var rfl | exact ea_nil | exact et_yes | with_reducible apply ea_cons | with_reducible apply es_op | with_reducible apply es_cb | with_reducible apply es_un | with_reducible apply es_tup | with_reducible apply es_lst | exact Nat.le_of_ble_eq_true rfl
  | with_reducible apply es_chain | with_reducible apply et_test | with_reducible apply et_B | with_reducible apply et_not | with_reducible apply es_notV
  | exact o2_add | exact o2_sub | exact o2_lt | exact o2_le | exact o2_gt | exact o2_ge | exact o2_eqI | exact o2_neI | exact o1_neg | exact o2_is | exact o2_isnot | exact o2_inDI | exact o2_ninDI | exact o2_inNL | exact o2_inNT | exact o2_ninNL | exact o2_ninNT | exact o2_inL | exact o2_inT | exact o2_ninL | exact o2_ninT | exact o2_eqT | exact o2_eqL
  | exact oc_lenL | exact oc_lenT | exact oc_lenD | exact oc_sumL | exact oc_sumT' | exact oc_max2 | exact oc_min2 | exact oc_sortI | exact oc_tupL | exact oc_int | exact oc_intB | exact oc_abs | exact oc_any | exact oc_all
  | exact o2_div (by constructor <;> omega) | exact o2_mod (by omega) | exact o2_mulT (by first | (left; constructor <;> omega) | (right; constructor <;> omega)) | exact o2_ixL (by omega) rfl | exact o2_ixT (by omega) rfl))
abbrev s_Track_init : Stmt := inClass (top 24) 0
abbrev n_Track_init : List Str := ["self", "places", "arrows", "arrow"]
theorem sc_Track_init : FnScope n_Track_init ["self", "places", "arrows"] (defScope s_Track_init) := ⟨rfl, rfl, rfl, by decide +kernel, rfl, by decide +kernel, by decide +kernel⟩
abbrev s_Track_keep : Stmt := inClass (top 24) 1
abbrev n_Track_keep : List Str := ["self", "places", "arrows", "place", "letter", "pay", "goal"]
theorem sc_Track_keep : FnScope n_Track_keep ["self", "places", "arrows"] (defScope s_Track_keep) := ⟨rfl, rfl, rfl, by decide +kernel, rfl, by decide +kernel, by decide +kernel⟩
theorem map_set_range {β : Type} {n p : Nat} {g : Nat → β} {y : β} : ((List.range n).map g).set p y = (List.range n).map fun q => if q = p then y else g q := by
  refine List.ext_getElem? fun i => ?_
  by_cases e : p = i
  · subst e
    by_cases l : p < n
    · rw [List.getElem?_set_self (by simpa using l), List.getElem?_map, List.getElem?_range l]
      simp
    · rw [List.getElem?_eq_none (by simp; omega), List.getElem?_eq_none (by simp; omega)]
  · rw [List.getElem?_set_ne e, List.getElem?_map, List.getElem?_map]
    by_cases l : i < n
    · rw [List.getElem?_range l]
      simp [Ne.symm e]
    · rw [List.getElem?_eq_none (by simp; omega)]
      rfl
theorem map_getD {α β : Type} (d : α) (g : α → β) {n : Nat} {qs : List α} (h : qs.length = n) : qs.map g = (List.range n).map fun p => g (qs.getD p d) := by
  refine List.ext_getElem? fun i => ?_
  by_cases l : i < n
  · rw [List.getElem?_map, List.getElem?_map, List.getElem?_range l]
    show _ = some (g (qs.getD i d))
    rw [List.getD_eq_getElem?_getD, List.getElem?_eq_getElem (by omega : i < qs.length)]
    rfl
  · rw [List.getElem?_eq_none (by simp; omega), List.getElem?_eq_none (by simp; omega)]
section
variable {P : Program} {w : World} {K : PySem.W.Frag} {mg : Str → Option Value} {base : Heap} {C : Addr}
abbrev sp_keep (C : Addr) : Sp := spIni C (fun i : Nat × List WS.Arr => WS.ArrS i.1 i.2) (fun i => [intR ((i.1 : Nat) : Int), tupR (i.2.map arrR)]) (fun i => trackR C (WS.netOf i.1 i.2))
/-- each of a row of lists stands -/
theorem stand_all {c : Cq} {ρ : List (Option RP)} {σ : St} {H : Hp} {f : Nat → Addr} {g : Nat → List RP} {μ : Me} : ∀ (n : Nat) {P : Hp}, At c ρ ((List.range n).map (fun p => (f p, Mo.lst (g p))) ++ μ) σ P H → ∃ P', At c ρ μ σ P' H ∧ Ex P P' ∧ ∀ p, p < n → (lstR (g p)).r (.ref (f p)) P'
  | 0, P, a => ⟨P, a, Ex.refl P, fun p h => absurd h (Nat.not_lt_zero _)⟩
  | n + 1, P, a => by
    rw [List.range_succ, List.map_append, List.append_assoc] at a
    have hj : ((List.range n).map (fun p => (f p, Mo.lst (g p))) ++ ([n].map (fun p => (f p, Mo.lst (g p))) ++ μ))[n]? = some (f n, Mo.lst (g n)) := by
      rw [List.getElem?_append_right (by simp)]
      simp
    obtain ⟨P1, a1, e1, r1⟩ := a.stand hj
    have e : ((List.range n).map (fun p => (f p, Mo.lst (g p))) ++ ([n].map (fun p => (f p, Mo.lst (g p))) ++ μ)).eraseIdx n = (List.range n).map (fun p => (f p, Mo.lst (g p))) ++ μ := by
      rw [List.eraseIdx_append_of_length_le (by simp)]
      simp
    rw [e] at a1
    obtain ⟨P2, a2, e2, r2⟩ := stand_all n a1
    refine ⟨P2, a2, e1.trans e2, fun p hp => ?_⟩
    by_cases z : p = n
    · rw [z]
      exact (lstR (g n)).up e2.le r1
    · exact r2 p (by omega)
theorem ok_keep (T : Txt K mg) (tc : TC K C) {f : Addr} {fd : FuncData} (F : FunD K "keep" "Track.keep" (defArgs s_Track_keep) (defBody s_Track_keep) (defScope s_Track_keep) [] [] f fd) : FnOk P w K mg base CX0 1 f fd ["self", "places", "arrows"] (sp_keep C) := by
  refine ini_ok F sc_Track_keep (fun _ _ => rfl) fun f cdv A outer s H E1 hr => ⟨_, (pss_cons (ps_fld (pv 0) (pv 1) rfl)
  (pss_cons (ps_fld (pv 0) (pv 2) rfl)
  (pss_cons (ps_fld (pv 0) (pe_lc (own := [("place", 3)]) (by rfl) sc_Track_keep.nd (pi_range1 (by rfl) T.range (pa_cons (pv 1) pa_nil)) (blkOk_by (own := [("place", 3)]) (N := n_Track_keep) (sc := defScope s_Track_keep) (by decide +kernel)) (fun _ _ _ _ _ => (pg_name (i := 3) sc_Track_keep.nd rfl (Or.inl rfl))) (fun _ _ _ _ _ => pts_nil) (fun _ _ _ _ _ => (pe_lst pa_nil))) rfl)
  (pss_one (ps_for PassesOwn.never rfl (pi_tupK K rfl (pv 2)) (pg_tupK (n := 4) K rfl rfl (pgs_cons (pg_name (i := 3) sc_Track_keep.nd rfl (Or.inl rfl)) (pgs_cons (pg_name (i := 4) sc_Track_keep.nd rfl (Or.inl rfl)) (pgs_cons (pg_name (i := 5) sc_Track_keep.nd rfl (Or.inl rfl)) (pgs_cons (pg_name (i := 6) sc_Track_keep.nd rfl (Or.inl rfl)) pgs_nil)))))
  (pss_one (ps_expr (pe_bm PySem.F.plainAttrs_list PySem.F.slot_list_append PySem.F.type_list_append mt_append (pe_ix (ix_seqK K rfl) (pe_fldK K rfl (pv 0) rfl) (pv 3) (fun _ _ => rfl)) (pa_cons (pe_tup (pa_cons (pv 4) (pa_cons (pv 5) (pa_cons (pv 6) pa_nil)))) pa_nil))))))))), fun ⟨n, As⟩ P0 H0 aa dx σ0 Q h ha a q => ?_⟩
  have h : WS.ArrS n As := h
  have hf := h.ok.few
  (try dsimp only [tNext]); refine sq (q_fld (i := 0) (j := 0) (p := aa) (C := C) (dx := dx) (fs := []) a rfl rfl tc.cls tc.p (by decide) (es_var (R := intR ((n : Nat) : Int)) rfl) fun v1 P1 H1 a1 r1 => ?_)
  have r1 : v1 = .int ((n : Nat) : Int) := r1
  subst r1
  (try dsimp only [tNext]); refine sq (q_fld (i := 0) (j := 0) (p := aa) (C := C) (dx := dx) (fs := putF "places" (.int ((n : Nat) : Int)) []) a1 rfl rfl tc.cls tc.a (by show 1 < 1000; decide) (es_var (R := tupR (As.map arrR)) rfl) fun v2 P2 H2 a2 r2 => ?_)
  have a2 : At ⟨W0, P0, rm H0 aa, [], none⟩ (entryR n_Track_keep [valR (.ref aa), intR ((n : Nat) : Int), tupR (As.map arrR)]) [(aa, .ins C dx (putF "arrows" v2 (putF "places" (.int ((n : Nat) : Int)) [])))] σ0 P2 H2 := a2
  (try dsimp only [tNext]); refine sq (lc_fresh a2 (src_range0 (ea_cons (es_var (R := intR ((n : Nat) : Int)) rfl) ea_nil) (by omega)) (by omega) fun pl qs P3 H3 hq a3 => ?_)
  let qf : Nat → Addr := fun p => qs.getD p 0
  rw [map_getD 0 (fun b => valR (.ref b)) hq, map_getD 0 (fun b => (b, Mo.lst [])) hq] at a3
  have a3 := a3.perm (List.perm_middle (l₁ := (List.range n).map fun p => (qf p, Mo.lst [])) (a := (pl, Mo.lst ((List.range n).map fun p => valR (.ref (qf p))))) (l₂ := [(aa, Mo.ins C dx (putF "arrows" v2 (putF "places" (.int ((n : Nat) : Int)) [])))])).symm
  let fs : List (Str × V) := putF "kept_arrows" (.ref pl) (putF "arrows" v2 (putF "places" (.int ((n : Nat) : Int)) []))
  have lA : ∀ (g : Nat → Addr × Mo), ((List.range n).map g).length = n := fun g => by rw [List.length_map, List.length_range]
  obtain ⟨w, hw, rfl⟩ := a3.ok.sat 0 (valR (.ref aa)) rfl
  have hj : ((List.range n).map (fun p => (qf p, Mo.lst [])) ++ [(pl, Mo.lst ((List.range n).map fun p => valR (.ref (qf p)))), (aa, Mo.ins C dx (putF "arrows" v2 (putF "places" (.int ((n : Nat) : Int)) [])))])[n + 1]? = some (aa, Mo.ins C dx (putF "arrows" v2 (putF "places" (.int ((n : Nat) : Int)) []))) := by
    rw [List.getElem?_append_right (by rw [lA]; omega), lA, show n + 1 - n = 1 by omega]
    rfl
  obtain ⟨_, _, y3⟩ := a3.ok.hx.mem aa _ (List.mem_of_getElem? hj)
  refine ⟨_, hw, aa, C, dx, _, rfl, y3, tc.cls, tc.k, by show 2 < 1000; decide, ?_⟩
  have a4 := a3.put hj (m' := .ins C dx fs) (o := .ins C dx fs) upd_same
  have e4 : ((List.range n).map (fun p => (qf p, Mo.lst [])) ++ [(pl, Mo.lst ((List.range n).map fun p => valR (.ref (qf p)))), (aa, Mo.ins C dx (putF "arrows" v2 (putF "places" (.int ((n : Nat) : Int)) [])))]).set (n + 1) (aa, Mo.ins C dx fs) = (List.range n).map (fun p => (qf p, Mo.lst [])) ++ [(pl, Mo.lst ((List.range n).map fun p => valR (.ref (qf p)))), (aa, Mo.ins C dx fs)] := by
    rw [List.set_append_right _ _ (by rw [lA]; omega), lA, show n + 1 - n = 1 by omega]
    rfl
  rw [e4] at a4
  let tl : Me := [(pl, Mo.lst ((List.range n).map fun p => valR (.ref (qf p)))), (aa, Mo.ins C dx fs)]
  let Rk : Nat → Nat → List RP := fun k p => (WS.outs (As.take k) p).map fun r => sR (r.pay, r.goal)
  have lk : fs.lookup ("kept_arrows" : Str) = some (V.ref pl) := by show (putF _ _ _).lookup _ = _; rw [lookup_putF, if_pos rfl]
  (try dsimp only [tNext]); refine q_for (as := As) (RA := arrR) (X := Unit) (fun _ _ => True) (fun _ _ => [some (valR (.ref aa)), some (intR ((n : Nat) : Int)), some (tupR (As.map arrR)), none, none, none, none]) (fun k _ => (List.range n).map (fun p => (qf p, Mo.lst (Rk k p))) ++ tl) a4 (src_tup (es_var rfl)) (fun P' H' a' => ⟨(), trivial, a'⟩) (fun k u r hk _ => tg4) (fun B k u r σ P H hk _ a => ?_) fun u σ P H _ a => ?_
  · have hr : r ∈ As := List.mem_of_getElem? hk
    have hp := (h.ok.each r hr).1
    have hj2 : ((List.range n).map (fun p => (qf p, Mo.lst (Rk k p))) ++ tl)[r.place]? = some (qf r.place, Mo.lst (Rk k r.place)) := by
      rw [List.getElem?_append_left (by rw [lA]; exact hp), List.getElem?_map, List.getElem?_range hp]
      rfl
    have hjL : ((List.range n).map (fun p => (qf p, Mo.lst (Rk k p))) ++ tl)[n]? = some (pl, Mo.lst ((List.range n).map fun p => valR (.ref (qf p)))) := by
      rw [List.getElem?_append_right (by rw [lA]; exact Nat.le_refl _), lA, Nat.sub_self]
      rfl
    have hjA : ((List.range n).map (fun p => (qf p, Mo.lst (Rk k p))) ++ tl)[n + 1]? = some (aa, Mo.ins C dx fs) := by
      rw [List.getElem?_append_right (by rw [lA]; omega), lA, show n + 1 - n = 1 by omega]
      rfl
    have hat : ((List.range n).map fun p => valR (.ref (qf p)))[((r.place : Nat) : Int).toNat]? = some (valR (.ref (qf r.place))) := by
      rw [Int.toNat_natCast, List.getElem?_map, List.getElem?_range hp]
      rfl
    (try dsimp only [tNext]); refine q_appE (j := r.place) (p := qf r.place) (Rs := Rk k r.place) (R := sR (r.pay, r.goal)) a (es_op (es_fldM (i := 0) rfl hjA tc.cls tc.k lk) (es_var (R := intR ((r.place : Nat) : Int)) rfl) (o2_ixM hjL (by omega) hat)) hj2 (es_tup (ea_cons (es_is (es_var (R := ltr r.letter) rfl) fun _ _ _ => trivial) (ea_cons (es_var rfl) (ea_cons (es_var rfl) ea_nil))) (by simp)) ?_ fun P3 H3 a3 => ⟨(), P3, trivial, ((((a3.drop 3).drop 4).drop 5).drop 6).mo ?_⟩
    · show ((WS.outs (As.take k) r.place).map _).length < 100000
      rw [List.length_map]
      refine Nat.lt_of_le_of_lt (List.length_filter_le _ _) ?_
      rw [List.length_take]
      have := h.few
      omega
    · rw [List.set_append_left _ _ (by rw [lA]; exact hp), map_set_range]
      show List.map _ _ ++ tl = List.map _ _ ++ tl
      congr 1
      refine List.map_congr_left fun q _ => ?_
      have ho : WS.outs (As.take (k + 1)) q = WS.outs (As.take k) q ++ if r.place = q then [r] else [] := by
        unfold WS.outs
        rw [take_filter _ hk]
        congr 1
        by_cases z : r.place = q <;> simp [z]
      by_cases z : q = r.place
      · rw [if_pos z]
        subst z
        show (qf r.place, Mo.lst (Rk k r.place ++ [sR (r.pay, r.goal)])) = (qf r.place, Mo.lst ((WS.outs (As.take (k + 1)) r.place).map _))
        rw [ho, if_pos rfl, List.map_append]
        rfl
      · rw [if_neg z]
        show (qf q, Mo.lst ((WS.outs (As.take k) q).map _)) = (qf q, Mo.lst ((WS.outs (As.take (k + 1)) q).map _))
        rw [ho, if_neg (Ne.symm z), List.append_nil]
  · have a : At ⟨W0, P0, rm H0 aa, [], none⟩ _ ((List.range n).map (fun p => (qf p, Mo.lst (Rk As.length p))) ++ tl) σ P H := a
    obtain ⟨P5, a5, e5, r5⟩ := stand_all n a
    obtain ⟨P6, a6, e6, r6⟩ := a5.stand (j := 0) rfl
    obtain ⟨P7, a7, e7, r7⟩ := a6.stand (j := 0) rfl
    refine q P7 H (a7.all rfl) ?_
    obtain ⟨b, hb, hp7⟩ := r7
    cases hb
    obtain ⟨bl, xs, hbl, hp6, rx⟩ := r6
    cases hbl
    refine ⟨aa, dx, fs, rfl, hp7, fun f R hm => ?_⟩
    rcases List.mem_cons.mp hm with e | hm
    · cases e
      refine ⟨.int ((n : Nat) : Int), ?_, ?_⟩
      · show (putF _ _ _).lookup _ = _
        rw [lookup_putF, if_neg (by decide), lookup_putF, if_neg (by decide), lookup_putF, if_pos rfl]
      · show V.int ((n : Nat) : Int) = V.int (((WS.netOf n As).length : Nat) : Int)
        rw [WS.netOf_len]
    · cases (List.mem_singleton.mp hm)
      refine ⟨.ref pl, lk, pl, xs, rfl, e7 _ _ hp6, ?_⟩
      have key : ∀ (L : List Nat) (ys : List V), (∀ p ∈ L, p < n) → Reps (L.map fun p => valR (.ref (qf p))) ys P6 → Reps ((L.map fun p => (WS.outs As p).map fun a => (a.pay, a.goal)).map stR) ys P7 := fun L => by
        induction L with
        | nil =>
          intro ys _ r
          cases r
          exact .nil
        | cons p L ih =>
          intro ys hL r
          cases r with
          | cons r1 r2 =>
            have r1 : _ = V.ref (qf p) := r1
            subst r1
            refine .cons ?_ (ih _ (fun q hq => hL q (List.mem_cons_of_mem _ hq)) r2)
            have := (lstR (Rk As.length p)).up (e6.trans e7).le (r5 p (hL p List.mem_cons_self))
            have e : Rk As.length p = ((WS.outs As p).map fun a => (a.pay, a.goal)).map sR := by
              show (WS.outs (As.take As.length) p).map _ = _
              rw [List.take_length, List.map_map]
              rfl
            rw [e] at this
            exact this
      exact key (List.range n) xs (fun p hp => List.mem_range.mp hp) rx
theorem ahead_key {As : List WS.Arr} (h : As.Pairwise WS.Ahead) : (As.map fun r => ([.inl ((r.place : Nat) : Int), .inr ⟨#[r.letter]⟩] : List Key)).Nodup := by
  refine List.pairwise_map.mpr (h.imp fun {a b} hab e => ?_)
  have e1 := List.cons.inj e
  have e2 := Sum.inl.inj e1.1
  have e3 := List.cons.inj e1.2
  have e4 := Sum.inr.inj e3.1
  have e5 : a.letter = b.letter := by
    have := congrArg (fun z : Str => z.cps.toList) e4
    simpa using this
  rcases hab with h | ⟨h1, h2⟩
  · have : ((a.place : Nat) : Int) = ((b.place : Nat) : Int) := e2
    omega
  · omega
theorem ok_init (T : Txt K mg) (tc : TC K C) {f fk : Addr} {fd fdk : FuncData} (F : FunD K "__init__" "Track.__init__" (defArgs s_Track_init) (defBody s_Track_init) (defScope s_Track_init) [] [] f fd) (mK : Meth K C "keep" fk) (Fk : FnOk P w K mg base CX0 1 fk fdk ["self", "places", "arrows"] (sp_keep C)) (bK : Binds K fdk ["self", "places", "arrows"] [])
    (c_is_within : Callee P w K mg base "is_within" ["thing", "least", "most"] 2 sp_is_within) (c_are_arrows : Callee P w K mg base "are_arrows" ["thing", "places"] 4 sp_are_arrows) : FnOk P w K mg base CX0 5 f fd ["self", "places", "arrows"] (sp_keep C) := by
  refine ini_ok F sc_Track_init (fun _ _ => rfl) fun f cdv A outer s H E1 hr => ⟨_, (pss_cons (ps_if (pt_not (pt_val (pe_callC c_is_within (hr.mono (by decide)) (by rfl) (pa_cons (pv 1) (pa_cons pe_int (pa_cons (p_int (by rfl) T.MOST_PLACES) pa_nil)))))) (pss_one ps_never) pss_nil)
  (pss_cons (ps_if (pt_not (pt_val (pe_callC c_are_arrows (hr.mono (by decide)) (by rfl) (pa_cons (pv 2) (pa_cons (pv 1) pa_nil))))) (pss_one ps_never) pss_nil)
  (pss_cons (ps_if (pt_cmpR (op_uLtK K rfl hr.units) (pe_callB call_len_dT (by rfl) T.len bo_len (pa_cons (pe_dcT (own := [("arrow", 3)]) (hu_of hr) (by rfl) sc_Track_init.nd (pi_tupK K rfl (pv 2)) (blkOk_by (own := [("arrow", 3)]) (N := n_Track_init) (sc := defScope s_Track_init) (by decide +kernel)) (fun _ _ _ _ _ => (pg_name (i := 3) sc_Track_init.nd rfl (Or.inl rfl))) (fun _ _ _ _ _ => pts_nil) (fun _ _ _ _ _ => (pe_slice (sl_tupK K rfl) (pv 3) po_none (po_some pe_int))) (fun _ _ _ _ _ => pe_bl)) pa_nil)) (pe_callB (cr_lenK K rfl) (by rfl) T.len bo_len (pa_cons (pv 2) pa_nil)) (nomark _)) (pss_one ps_never) pss_nil)
  (pss_cons (ps_if (pt_cmpR (op_uLtK K rfl hr.units) (pe_callB (cr_lenK K rfl) (by rfl) T.len bo_len (pa_cons (pe_dc (own := [("arrow", 3)]) (by rfl) sc_Track_init.nd (pi_tupK K rfl (pv 2)) (blkOk_by (own := [("arrow", 3)]) (N := n_Track_init) (sc := defScope s_Track_init) (by decide +kernel)) (fun _ _ _ _ _ => (pg_name (i := 3) sc_Track_init.nd rfl (Or.inl rfl))) (fun _ _ _ _ _ => pts_nil) (fun _ _ _ _ _ => (pe_ix (ix_seqK K rfl) (pv 3) pe_int (fun _ _ => rfl))) (fun _ _ _ _ _ => pe_bl)) pa_nil)) (pv 1) (nomark _)) (pss_one ps_never) pss_nil)
  (pss_one (ps_expr (pe_meth (pv 0) tc.cls mK Fk (hr.mono (by decide)) bK .nil pass0 (pa_cons (pv 1) (pa_cons (pv 2) pa_nil))))))))), fun ⟨n, As⟩ P0 H0 aa dx σ0 Q h ha a q => ?_⟩
  have h : WS.ArrS n As := h
  have hf := h.ok.few
  have h0 := h.ok.pos
  have hl := h.few
  (try dsimp only [tNext]); refine sq (q_if a (b := false) (et_eq (et_not (et_B (es_eqB (es_call (((n : Nat) : Int), 1, 12) (by walk_at "e") trivial) (j := true) (by rw [Bool.and_eq_true, decide_eq_true_iff, decide_eq_true_iff]; dsimp only; omega)))) rfl) (fun e => by cases e) fun _ P1 H1 a1 => ?_)
  (try dsimp only [tNext]); refine sq (q_if a1 (b := false) (et_eq (et_not (et_B (es_call (n, As) (by walk_at "e") h))) rfl) (fun e => by cases e) fun _ P2 H2 a2 => ?_)
  (try dsimp only [tNext]); refine sq (q_if a2 (b := false) (et_test (es_eqB (es_op (es_cb (ea_cons (es_dcT (as := As) (RA := arrR) (kf := fun r => [.inl ((r.place : Nat) : Int), .inr ⟨#[r.letter]⟩]) (vf := fun _ => V.bl true) (src_tup (es_var rfl)) (fun _ _ => tg_name) (by decide) (fun r hr => ?_) (fun r hr => es_c) (by omega)) ea_nil) oc_lenDT) (es_cb (ea_cons (es_var (R := tupR (As.map arrR)) rfl) ea_nil) oc_lenT) o2_lt) ?_)) (fun e => by cases e) fun _ P3 H3 a3 => ?_)
  · refine es_is (es_slT (n := 2) (es_var (R := arrR r) rfl) es_c (by show 2 < 4; decide)) fun v P ⟨b, xs, e, hb, rx⟩ => ?_
    cases rx with
    | cons r1 rx =>
      cases rx with
      | cons r2 rx =>
        cases rx
        have r1 : _ = V.int ((r.place : Nat) : Int) := r1
        have r2 : _ = V.str ⟨#[r.letter]⟩ := r2
        subst r1 r2
        exact ⟨b, e, hb⟩
  · refine decide_eq_false ?_
    have := fold_len (kf := fun r : WS.Arr => ([.inl ((r.place : Nat) : Int), .inr ⟨#[r.letter]⟩] : List Key)) (vf := fun _ => V.bl true) (as := As) (ahead_key h.asc) fun k hk => by
      obtain ⟨r, hr, e⟩ := List.mem_map.mp hk
      exact ⟨r, hr, e⟩
    rw [List.length_map] at this ⊢
    omega
  (try dsimp only [tNext]); refine sq (q_if a3 (b := false) (et_test (es_eqB (es_op (es_cb (ea_cons (es_dcF (as := As) (RA := arrR) (kf := fun r => .inl ((r.place : Nat) : Int)) (vf := fun _ => V.bl true) (src_tup (es_var rfl)) (fun _ _ => tg_name) (by decide) (fun r hr => es_op (es_var (R := arrR r) rfl) es_c (o2_ixT (by omega) rfl)) (fun r hr => es_c) (by omega)) ea_nil) oc_lenD) (es_var (R := intR ((n : Nat) : Int)) rfl) o2_lt) ?_)) (fun e => by cases e) fun _ P4 H4 a4 => ?_)
  · refine decide_eq_false ?_
    have := fold_len (kf := fun r : WS.Arr => (.inl ((r.place : Nat) : Int) : Key)) (vf := fun _ => V.bl true) (as := As) (L := (List.range n).map fun p => (.inl ((p : Nat) : Int) : Key)) (List.Pairwise.map _ (fun x y (hxy : x ≠ y) e => hxy (by have := Sum.inl.inj e; omega)) List.nodup_range) fun k hk => by
      obtain ⟨p, hp, e⟩ := List.mem_map.mp hk
      obtain ⟨r, hr⟩ := List.exists_mem_of_ne_nil _ (h.ok.some p (List.mem_range.mp hp))
      have hr2 := List.mem_filter.mp hr
      exact ⟨r, hr2.1, by rw [← e, of_decide_eq_true hr2.2]⟩
    rw [List.length_map, List.length_range] at this
    exact Int.not_lt.mpr (Int.ofNat_le.mpr this)
  obtain ⟨w, hw, rfl⟩ := a4.ok.sat 0 (valR (.ref aa)) rfl
  obtain ⟨_, yP, y3⟩ := a4.ok.hx.mem aa _ List.mem_cons_self
  refine ⟨_, hw, aa, dx, [], rfl, y3, rfl, (ea_cons (es_var (R := intR ((n : Nat) : Int)) rfl) (ea_cons (es_var (R := tupR (As.map arrR)) rfl) ea_nil) : EA W0 _ [(aa, Mo.ins C dx [])] _ _) σ0 P4 H4 a4.ok _ fun vs P5 H5 s5 r5 => ?_⟩
  have a5 := a4.step s5
  obtain ⟨_, yP5, y5⟩ := a5.ok.hx.mem aa _ List.mem_cons_self
  rw [List.append_nil]
  have an : ∀ b o, P5 b = some o → b ≠ aa := fun b o e z => by rw [z, yP5] at e; cases e
  refine ⟨(n, As), P5, aa, dx, vs, rfl, h, a5.ok.hx.le, yP5, y5, r5, fun P' H' s' rr => q P' H' ?_ rr⟩
  have b5 := a5.all rfl
  refine Stp.trans (P' := P5) (H' := rm H5 aa) ⟨b5.ex, fun b o e => ?_, b5.nw, fun b o z e => ?_, fun b e => ?_, fun z => z⟩ s'
  · rw [rm_ne (an b o e)]
    exact b5.le b o e
  · rw [rm_ne (rm_some e).1]
    exact b5.kp b o z e
  · have hb : b ≠ aa := fun z => e (by rw [z]; exact rm_same)
    rw [rm_ne hb]
    exact b5.dm b e
theorem es_make {W : Wd} {ρ : List (Option RP)} {μ : Me} {ι : Type} {ok : ι → Prop} {args : ι → List RP} {res : ι → RP} {E₁ : XK} {t : TA} (i : ι) (a : EA W ρ μ t (args i)) (h : ok i) : E W ρ μ (tMake C (spIni C ok args res) [] E₁ t) (res i) := fun σ P H k Q q => by
  refine a σ P H k _ fun vs P1 H1 s1 r1 => ?_
  have k1 := k.step s1
  intro x dx hx hdx hne
  have px := k1.hx.le.some hx
  have pdx := k1.hx.le.some hdx
  rw [List.append_nil]
  refine ⟨i, P1, x, dx, vs, rfl, h, fun b o e => ?_, px, upd_same, r1, fun P' H' s r => ⟨rfl, q _ P' H' (s1.trans (Stp.w ⟨s.ex, s.le, fun b h1 h2 => s.nw b ?_ h2, fun b o z e => s.kp b o z ?_, fun b e => s.dm b ?_, fun z => z⟩ fun b z => (k1.hx.z b z).2)) r⟩⟩
  · rw [upd_ne (ne_of_none e px), upd_ne (ne_of_none e pdx)]
    exact k1.hx.le b o e
  · have e1 : b ≠ x := fun z => h1 (by rw [z]; exact hx)
    have e2 : b ≠ dx := fun z => h1 (by rw [z]; exact hdx)
    rw [rm_ne e1, upd_ne e1, upd_ne e2]
    exact h1
  · have e1 := ne_of_none e hx
    have e2 := ne_of_none e hdx
    rw [rm_ne e1, upd_ne e1, upd_ne e2]
    exact e
  · have e1 : b ≠ x := fun z => e (by rw [z]; exact hx)
    have e2 : b ≠ dx := fun z => e (by rw [z]; exact hdx)
    rw [rm_ne e1, upd_ne e1, upd_ne e2]
    exact e
end
end Y
end
section
/-! The layer, part 17: the law's pot, that changes with each draw. -/
namespace Y
open PySem PySem.Spec L2
open PyProof.Rows (envOfC)
structure Pot where
  t : Int
  gs : List Int
  ss : List Int
  tot : Int
structure Pot.at (x : Pot) (p g s : Addr) (H : Hp) : Prop where
  hp : H p = some (.lst [.ref g, .ref s, .int x.t, .int x.tot])
  hg : H g = some (.lst (x.gs.map V.int))
  hs : H s = some (.lst (x.ss.map V.int))
  ne : x.ss ≠ []
  dif : g ≠ s
theorem Pot.at.pg {x : Pot} {p g s : Addr} {H : Hp} (h : x.at p g s H) : p ≠ g := fun e => by
  have h1 := h.hp
  have h2 := h.hg
  rw [← e, h1] at h2
  cases hx : x.gs with
  | nil => rw [hx] at h2; cases h2
  | cons a l => rw [hx] at h2; cases h2
theorem Pot.at.ps {x : Pot} {p g s : Addr} {H : Hp} (h : x.at p g s H) : p ≠ s := fun e => by
  have h1 := h.hp
  have h2 := h.hs
  rw [← e, h1] at h2
  cases hx : x.ss with
  | nil => rw [hx] at h2; cases h2
  | cons a l => rw [hx] at h2; cases h2
theorem Pot.at.loc {x : Pot} {p g s : Addr} {H H' : Hp} (e : ∀ a, (a = p ∨ a = g ∨ a = s) → H' a = H a) (h : x.at p g s H) : x.at p g s H' :=
  ⟨(e p (.inl rfl)).trans h.hp, (e g (.inr (.inl rfl))).trans h.hg, (e s (.inr (.inr rfl))).trans h.hs, h.ne, h.dif⟩
def potX (p g s : Addr) (x : Pot) : Wd := ⟨fun a => a = p ∨ a = g ∨ a = s, fun H => x.at p g s H, fun e h => h.loc e⟩
def potW (p g s : Addr) : Wd := ⟨fun a => a = p ∨ a = g ∨ a = s, fun H => ∃ x : Pot, x.at p g s H, fun e ⟨x, h⟩ => ⟨x, h.loc e⟩⟩
section
variable {p g s : Addr} {x x' : Pot} {P H P' H' P0 H0 P1 H1 : Hp} {ρ : List (Option RP)} {σ : St} {μ : Me} {K : PySem.W.Frag}
theorem Stp.toW (st : Stp (potX p g s x) P H P' H') (j : x.at p g s H') : Stp (potW p g s) P H P' H' := ⟨st.ex, st.le, st.nw, st.kp, st.dm, fun _ => ⟨x, j⟩⟩
theorem Hx.toX (h : Hx (potW p g s) μ P H) (j : x.at p g s H) : Hx (potX p g s x) μ P H := ⟨h.le, h.z, j, h.mem, h.nod⟩
theorem relay {a0 : Addr} {o : HO} (a : At ⟨potX p g s x, P1, H1, [], none⟩ ρ [] σ P H) (S : Stp (potW p g s) P0 H0 P1 H1) (hz : a0 = p ∨ a0 = g ∨ a0 = s) (h : x'.at p g s (upd H a0 o)) :
    At ⟨potX p g s x', P, upd H a0 o, [], none⟩ ρ [] σ P (upd H a0 o) ∧ Stp (potW p g s) P0 H0 P (upd H a0 o) := by
  have hp0 : P a0 = none := (a.ok.hx.z a0 hz).1
  have le : Le P (upd H a0 o) := fun b u e => by
    rw [upd_ne (ne_of_none e hp0)]
    exact a.ok.hx.le b u e
  refine ⟨⟨⟨⟨le, fun b z => ⟨(a.ok.hx.z b z).1, ?_⟩, h, fun _ _ h => absurd h List.not_mem_nil, List.nodup_nil⟩, a.ok.sat, a.ok.len⟩, Ex.refl P, fun b _ h => h, fun b o _ e => e, fun d od kvs e => (nomatch e), fun B h => absurd h List.not_mem_nil, fun _ _ h => absurd h List.not_mem_nil⟩, ?_⟩
  · by_cases c : b = a0
    · rw [c, upd_same]; exact fun z => by cases z
    · rw [upd_ne c]; exact (a.ok.hx.z b z).2
  · refine S.trans (((a.all rfl (fun b z _ => (a.ok.hx.z b z).2) a.ok.hx.j).toW a.ok.hx.j).trans ⟨Ex.refl P, le, fun _ _ h => h, fun b u z e => ?_, fun b e => ?_, fun _ => ⟨x', h⟩⟩)
    · rw [upd_ne (fun c : b = a0 => z (show b = p ∨ b = g ∨ b = s by rw [c]; exact hz))]
      exact e
    · by_cases c : b = a0
      · rw [c, upd_same]; exact fun z => by cases z
      · rw [upd_ne c]; exact e
theorem o2_pot {i : Int} {y : V} (h : atI [V.ref g, V.ref s, V.int x.t, V.int x.tot] i = some y) : O2 (potX p g s x) μ (rIx K) (valR (.ref p)) (intR i) (valR y) := fun P H v w k r1 r2 Q q => by
  have e1 : v = .ref p := r1
  have e2 : w = .int i := r2
  subst e1 e2
  exact .inl ⟨p, _, i, y, rfl, rfl, SqL.of k.j.hp, h, q _ P H (Stp.refl k.le) rfl⟩
theorem o2_potG {i : Int} {y : Int} (h0 : 0 ≤ i) (h : x.gs[i.toNat]? = some y) : O2 (potX p g s x) μ (rIx K) (valR (.ref g)) (intR i) (intR y) := fun P H v w k r1 r2 Q q => by
  have e1 : v = .ref g := r1
  have e2 : w = .int i := r2
  subst e1 e2
  refine .inl ⟨g, _, i, .int y, rfl, rfl, SqL.of k.j.hg, ?_, q _ P H (Stp.refl k.le) rfl⟩
  have := atI_nat (xs := x.gs.map V.int) (j := i.toNat) (v := .int y) (by rw [List.getElem?_map, h]; rfl)
  rwa [Int.toNat_of_nonneg h0] at this
theorem o2_potS {i : Int} {y : Int} (h0 : 0 ≤ i) (h : x.ss[i.toNat]? = some y) : O2 (potX p g s x) μ (rIx K) (valR (.ref s)) (intR i) (intR y) := fun P H v w k r1 r2 Q q => by
  have e1 : v = .ref s := r1
  have e2 : w = .int i := r2
  subst e1 e2
  refine .inl ⟨s, _, i, .int y, rfl, rfl, SqL.of k.j.hs, ?_, q _ P H (Stp.refl k.le) rfl⟩
  have := atI_nat (xs := x.ss.map V.int) (j := i.toNat) (v := .int y) (by rw [List.getElem?_map, h]; rfl)
  rwa [Int.toNat_of_nonneg h0] at this
theorem oc_lenG : OC (potX p g s x) μ (cLen K) [valR (.ref g)] (intR ((x.gs.length : Nat) : Int)) := fun P H xs k r Q q => by
  obtain ⟨v, rfl, rfl⟩ := reps_one r
  refine .inl ⟨g, _, rfl, .inl (SqL.of k.j.hg), ?_⟩
  rw [List.length_map]
  exact q _ P H (Stp.refl k.le) rfl
theorem oc_lenS' : OC (potX p g s x) μ (cLen K) [valR (.ref s)] (intR ((x.ss.length : Nat) : Int)) := fun P H xs k r Q q => by
  obtain ⟨v, rfl, rfl⟩ := reps_one r
  refine .inl ⟨s, _, rfl, .inl (SqL.of k.j.hs), ?_⟩
  rw [List.length_map]
  exact q _ P H (Stp.refl k.le) rfl
/-- pot[2] = n -/
theorem q_potT {i : Nat} {n : Int} {te : TE} {D : Ends} (a : At ⟨potX p g s x, P1, H1, [], none⟩ ρ [] σ P H) (S : Stp (potW p g s) P0 H0 P1 H1) (hi : ρ[i]? = some (some (valR (.ref p)))) (e : E (potX p g s x) ρ [] te (intR n))
    (k : ∀ P' H', At ⟨potX p g s ⟨n, x.gs, x.ss, x.tot⟩, P', H', [], none⟩ ρ [] σ P' H' → Stp (potW p g s) P0 H0 P' H' → D.nx σ H') : tAsg te (gSub (tVar i) (tC (.int 2)) rSetL) D σ H := by
  refine a.e e fun v P2 H2 a2 r2 => ?_
  have r2 : v = .int n := r2
  subst r2
  obtain ⟨u, hu, rfl⟩ := a2.ok.sat i _ hi
  have j : x.at p g s H2 := a2.ok.hx.j
  obtain ⟨a3, S3⟩ := relay (a0 := p) (o := .lst [.ref g, .ref s, .int n, .int x.tot]) (x' := ⟨n, x.gs, x.ss, x.tot⟩) a2 S (.inl rfl) ⟨upd_same, by rw [upd_ne j.pg.symm]; exact j.hg, by rw [upd_ne j.ps.symm]; exact j.hs, j.ne, j.dif⟩
  exact ⟨_, hu, p, _, 2, 2, rfl, rfl, j.hp, rfl, k P2 _ a3 S3⟩
/-- pot[0][0] = n -/
theorem q_potG {i : Nat} {n : Int} {te : TE} {D : Ends} (a : At ⟨potX p g s x, P1, H1, [], none⟩ ρ [] σ P H) (S : Stp (potW p g s) P0 H0 P1 H1) (hi : ρ[i]? = some (some (valR (.ref p)))) (e : E (potX p g s x) ρ [] te (intR n)) (hg : x.gs ≠ [])
    (k : ∀ P' H', At ⟨potX p g s ⟨x.t, x.gs.set 0 n, x.ss, x.tot⟩, P', H', [], none⟩ ρ [] σ P' H' → Stp (potW p g s) P0 H0 P' H' → D.nx σ H') : tAsg te (gSub (tOp (rIx K) (tVar i) (tC (.int 0))) (tC (.int 0)) rSetL) D σ H := by
  refine a.e e fun v P2 H2 a2 r2 => ?_
  have r2 : v = .int n := r2
  subst r2
  refine a2.e (es_op (es_var (R := valR (.ref p)) hi) es_c (o2_pot (K := K) (y := .ref g) rfl)) fun w P3 H3 a3 r3 => ?_
  have r3 : w = .ref g := r3
  subst r3
  have j : x.at p g s H3 := a3.ok.hx.j
  have hm : (x.gs.map V.int).set 0 (.int n) = (x.gs.set 0 n).map V.int := by
    cases x.gs with
    | nil => rfl
    | cons a l => rfl
  obtain ⟨a4, S4⟩ := relay (a0 := g) (o := .lst ((x.gs.map V.int).set 0 (.int n))) (x' := ⟨x.t, x.gs.set 0 n, x.ss, x.tot⟩) a3 S (.inr (.inl rfl)) ⟨by rw [upd_ne j.pg]; exact j.hp, by rw [upd_same, hm], by rw [upd_ne j.dif.symm]; exact j.hs, j.ne, j.dif⟩
  refine ⟨g, _, 0, 0, rfl, rfl, j.hg, ?_, k P3 _ a4 S4⟩
  rw [List.length_map]
  have := List.length_pos_iff.mpr hg
  unfold ixN
  rw [if_pos (by omega), if_pos (by omega)]
  rfl
/-- pot[0].pop(0) -/
theorem q_potP {i : Nat} {D : Ends} (a : At ⟨potX p g s x, P1, H1, [], none⟩ ρ [] σ P H) (S : Stp (potW p g s) P0 H0 P1 H1) (hi : ρ[i]? = some (some (valR (.ref p)))) (hg : x.gs ≠ [])
    (k : ∀ P' H', At ⟨potX p g s ⟨x.t, x.gs.eraseIdx 0, x.ss, x.tot⟩, P', H', [], none⟩ ρ [] σ P' H' → Stp (potW p g s) P0 H0 P' H' → D.nx σ H') : tDrop (tBM K "list" rPopAt (tOp (rIx K) (tVar i) (tC (.int 0))) (tCons (tC (.int 0)) tNil)) D σ H := by
  refine a.e (es_op (es_var (R := valR (.ref p)) hi) es_c (o2_pot (K := K) (y := .ref g) rfl)) fun w P3 H3 a3 r3 => ?_
  have r3 : w = .ref g := r3
  subst r3
  have j : x.at p g s H3 := a3.ok.hx.j
  obtain ⟨y, l, e⟩ := List.exists_cons_of_ne_nil hg
  refine ⟨.inl ⟨rfl, _, SqL.of j.hg⟩, ?_⟩
  obtain ⟨a4, S4⟩ := relay (a0 := g) (o := .lst ((x.gs.map V.int).eraseIdx 0)) (x' := ⟨x.t, x.gs.eraseIdx 0, x.ss, x.tot⟩) a3 S (.inr (.inl rfl)) ⟨by rw [upd_ne j.pg]; exact j.hp, by rw [upd_same, e]; rfl, by rw [upd_ne j.dif.symm]; exact j.hs, j.ne, j.dif⟩
  refine ⟨g, _, 0, 0, .int y, rfl, rfl, j.hg, by decide, by decide, ?_, by rw [e]; rfl, k P3 _ a4 S4⟩
  rw [e, List.map_cons, List.length_cons]
  unfold seqIndex?
  simp
end
/-! ### promises of what takes the pot -/
def spPot {ι : Type} (ok : ι → Prop) (args : ι → List RP) (res : ι → RP) : Sp := fun vs H Q _ => ∃ (i : ι) (p g s : Addr) (P : Hp), ok i ∧ Hx (potW p g s) [] P H ∧ Reps (valR (.ref p) :: args i) vs P ∧ ∀ v P' H', Stp (potW p g s) P H P' H' → (res i).r v P' → Q v H'
theorem entry_atW {W : Wd} {N : List Str} {Rs : List RP} {vs : List V} {P H : Hp} (l : Hx W [] P H) (r : Reps Rs vs P) : At ⟨W, P, H, [], none⟩ (entryR N Rs) [] (L2.start N vs) P H := by
  have a := entry_at (N := N) l.le r
  exact ⟨⟨l, a.ok.sat, a.ok.len⟩, Ex.refl P, fun a _ h => h, fun a o _ e => e, fun d od kvs e => (nomatch e), fun B h => absurd h List.not_mem_nil, fun p m h => absurd h List.not_mem_nil⟩
section
variable {P : Program} {w : World} {K : PySem.W.Frag} {mg : Str → Option Value} {base : Heap}
theorem DefAt.okP {ι : Type} {ok : ι → Prop} {args : ι → List RP} {res : ι → RP} {x : Str} {st : Stmt} {N ps : List Str} {k : Nat} (d : DefAt K mg x st) (S : FnScope N ps (defScope st)) (hb : BindsL x st ps) (hl : ∀ i, ok i → (args i).length + 1 = ps.length)
    (hbody : ∀ (f : Addr) (cdv : Value) (A : Around) (outer : List Env) (s : Shared) (H : Hp) (E : XK), Room k (A.deeper (envOfC x (defScope st) s.heap.objs.size f cdv)) →
      ∃ t, PSs (cxOf CX0 P w K mg base N x (defScope st) f cdv A outer s H E).nox (defBody st) t ∧ ∀ (i : ι) (p g z : Addr) (P H : Hp) (σ : St) (Q : VK), ok i → At ⟨potW p g z, P, H, [], none⟩ (entryR N (valR (.ref p) :: args i)) [] σ P H →
        (∀ v P' H', Stp (potW p g z) P H P' H' → (res i).r v P' → Q v H') → t { nx := fun _ H' => Q .non H', rt := Q } σ H) : Callee P w K mg base x ps (k + 1) (spPot ok args res) := by
  obtain ⟨f, fd, F, hm⟩ := d
  refine ⟨f, fd, F.ok S (fun vs H Q E h => ?_) (fun cdv A outer s H vs Q E hr h => ?_), hm, F.kp, F.bindsN hb⟩
  · obtain ⟨i, _, _, _, P, hi, _, r, _⟩ := h
    rw [← hl i hi, ← Paired.length r, List.length_cons]
  · obtain ⟨i, p, g, z, P, hi, l, r, q⟩ := h
    obtain ⟨t, h1, h2⟩ := hbody f cdv A outer s H E hr
    exact ⟨t, h1.nox, h2 i p g z P H (L2.start N vs) Q hi (entry_atW l r) q⟩
end
section
variable {p g s : Addr} {P H : Hp} {ρ : List (Option RP)} {σ : St} {μ : Me} {K : PySem.W.Frag}
theorem es_callP {ι : Type} {ok : ι → Prop} {args : ι → List RP} {res : ι → RP} {E₁ : XK} {t : TA} (i : ι) (a : EA (potW p g s) ρ μ t (valR (.ref p) :: args i)) (h : ok i) : E (potW p g s) ρ μ (tCall (spPot ok args res) [] E₁ t) (res i) := fun σ P H k Q q => by
  refine a σ P H k _ fun vs P1 H1 s1 r1 => ?_
  have k1 := k.step s1
  show spPot ok args res (vs ++ []) H1 Q E₁
  rw [List.append_nil]
  exact ⟨i, p, g, s, P1, h, ⟨k1.hx.le, k1.hx.z, k1.hx.j, fun _ _ h => absurd h List.not_mem_nil, List.nodup_nil⟩, r1, fun v P2 H2 s2 r2 => q v P2 H2 (s1.trans s2) r2⟩
theorem q_endP {D : Ends} {te : TE} {R : RP} (a : At ⟨potW p g s, P, H, [], none⟩ ρ μ σ P' H') (e : E (potW p g s) ρ μ te R) (k : ∀ v P2 H2, Stp (potW p g s) P H P2 H2 → R.r v P2 → D.rt v H2) : tRet te D σ H' :=
  a.e e fun v P2 H2 a' r => k v P2 H2 (a'.all rfl (fun b z _ => (a'.ok.hx.z b z).2) a'.ok.hx.j) r
end
end Y
namespace Y
open PySem PySem.Spec L2
theorem entry_atW' {W : Wd} {ρ : List (Option RP)} {σ : St} {P H : Hp} (l : Hx W [] P H) (s : Sat ρ σ P) (n : σ.length = ρ.length) : At ⟨W, P, H, [], none⟩ ρ [] σ P H :=
  ⟨⟨l, s, n⟩, Ex.refl P, fun a _ h => h, fun a o _ e => e, fun d od kvs e => (nomatch e), fun B h => absurd h List.not_mem_nil, fun p m h => absurd h List.not_mem_nil⟩
end Y
namespace Y
open PySem PySem.Spec L2
/-- a loop that may break off: what holds after it -/
theorem q_forB {c : Cq} {ρ : List (Option RP)} {μ : Me} {σ : St} {P H : Hp} {D : Ends} {wi : TI} {g : TG} {tb : TS} {α : Type} {as : List α} {RA : α → RP} {X : Type} (ok : Nat → X → Prop) (okE : X → Prop) (ρi : X → List (Option RP)) (μi : X → Me) {ρt : Nat → X → α → List (Option RP)} {js : List Nat}
    (a : At c ρ μ σ P H) (hs : Src c.W ρ μ wi (as.map RA))
    (h0 : ∀ P' H', At c ρ μ σ P' H' → ∃ x, ok 0 x ∧ At c (ρi x) (μi x) σ P' H')
    (hg : ∀ k x a, as[k]? = some a → ok k x → Tg c.W (ρi x) (μi x) g (RA a) (ρt k x a) js)
    (he : ∀ x, ok as.length x → okE x)
    (hb : ∀ bk : St → Hp → Prop, (∀ x σ P H, okE x → At c (ρi x) (μi x) σ P H → bk σ H) → ∀ B k x a σ P H, as[k]? = some a → ok k x → At (c.push B) (ρt k x a) (μi x) σ P H → tb { D with nx := Iv ok (fun _ => ρi) (fun _ => μi) (c.push B) (k + 1), ct := Iv ok (fun _ => ρi) (fun _ => μi) (c.push B) (k + 1), bk := bk } σ H)
    (hd : ∀ x σ P H, okE x → At c (ρi x) (μi x) σ P H → D.nx σ H) : tFor wi g tb D σ H :=
  q_for ok (fun _ => ρi) (fun _ => μi) a hs h0 hg (fun B k x y σ P H hk hx a => hb D.nx hd B k x y σ P H hk hx a) fun x σ P H hx a => hd x σ P H (he x hx) a
/-- a test whose answer is not known -/
theorem q_ifOne {c : Cq} {ρ : List (Option RP)} {μ : Me} {σ : St} {P H : Hp} {D : Ends} {t u : TS} {te : TE} {α : Type} {Pr : α → Prop} {f : α → Bool} (a : At c ρ μ σ P H) (e : E c.W ρ μ te (oneR Pr fun x => blR (f x)))
    (h1 : ∀ x, Pr x → f x = true → ∀ P' H', At c ρ μ σ P' H' → t D σ H') (h2 : ∀ x, Pr x → f x = false → ∀ P' H', At c ρ μ σ P' H' → u D σ H') : tIfS (tTest te) t u D σ H := by
  refine a.e e fun v P1 H1 a1 ⟨x, hx, r⟩ => ?_
  have r : v = .bl (f x) := r
  subst r
  refine ⟨f x, rfl, ?_⟩
  show if f x = true then t D σ H1 else u D σ H1
  by_cases c : f x = true
  · rw [if_pos c]
    exact h1 x hx c P1 H1 a1
  · rw [if_neg c]
    exact h2 x hx (by simpa using c) P1 H1 a1
theorem ex_max : ∀ ns : List Int, ns ≠ [] → ∃ m ∈ ns, ∀ y ∈ ns, y ≤ m
  | [], h => absurd rfl h
  | [a], _ => ⟨a, List.mem_cons_self, fun y hy => by rw [List.mem_singleton.mp hy]; exact Int.le_refl _⟩
  | a :: b :: l, _ => by
    obtain ⟨m, hm, h⟩ := ex_max (b :: l) (fun z => by cases z)
    by_cases c : m ≤ a
    · exact ⟨a, List.mem_cons_self, fun y hy => (List.mem_cons.mp hy).elim (fun e => by rw [e]; exact Int.le_refl _) fun hy => Int.le_trans (h y hy) c⟩
    · exact ⟨m, List.mem_cons_of_mem _ hm, fun y hy => (List.mem_cons.mp hy).elim (fun e => by omega) fun hy => h y hy⟩
theorem sum_nn : ∀ {ns : List Int}, (∀ y ∈ ns, 0 ≤ y) → 0 ≤ ns.sum
  | [], _ => Int.le_refl _
  | a :: l, h => by
    have h1 := h a List.mem_cons_self
    have h2 := sum_nn (ns := l) fun y hy => h y (List.mem_cons_of_mem _ hy)
    rw [List.sum_cons]
    omega
end Y
namespace Y
open PySem PySem.Spec L2
section
variable {W : Wd} {μ : Me}
theorem o2_oneR {α : Type} {Pr : α → Prop} {f g : α → RP} {r : R2} {Ra : RP} (h : ∀ x, Pr x → O2 W μ r Ra (f x) (g x)) : O2 W μ r Ra (oneR Pr f) (oneR Pr g) := fun P H v w k r1 ⟨x, hx, r2⟩ Q q => h x hx P H v w k r1 r2 Q fun v' P' H' s r => q v' P' H' s ⟨x, hx, r⟩
theorem oc_oneR {α : Type} {Pr : α → Prop} {f g : α → RP} {r : List V → Hp → VK → Prop} {Ra : RP} (h : ∀ x, Pr x → OC W μ r [Ra, f x] (g x)) : OC W μ r [Ra, oneR Pr f] (oneR Pr g) := fun P H xs k rr Q q => by
  cases rr with
  | cons r1 rr =>
    cases rr with
    | cons r2 rr =>
      cases rr
      obtain ⟨x, hx, r2⟩ := r2
      exact h x hx P H _ k (.cons r1 (.cons r2 .nil)) Q fun v' P' H' s r => q v' P' H' s ⟨x, hx, r⟩
end
/-- both ways lead to what J tells -/
theorem q_ifJ {c : Cq} {ρ : List (Option RP)} {μ : Me} {σ : St} {P H : Hp} {D : Ends} {t u : TS} {tt : TT} {b : Bool} (J : St → Hp → Prop) (a : At c ρ μ σ P H) (h : T c.W ρ μ tt b)
    (h1 : ∀ nx : St → Hp → Prop, (∀ σ H, J σ H → nx σ H) → b = true → ∀ P' H', At c ρ μ σ P' H' → t { D with nx := nx } σ H') (h2 : ∀ nx : St → Hp → Prop, (∀ σ H, J σ H → nx σ H) → b = false → ∀ P' H', At c ρ μ σ P' H' → u { D with nx := nx } σ H') (k : ∀ σ H, J σ H → D.nx σ H) : tIfS tt t u D σ H :=
  q_if a h (fun e P' H' a' => h1 D.nx k e P' H' a') fun e P' H' a' => h2 D.nx k e P' H' a'
end Y
end
section
/-! The defs, part 13: the law's pot, a draw. -/
namespace Y
open PySem PySem.Spec L2
open PyProof.Rows (envOfC)
local macro_rules | `(tactic| walk_at "e") => `(tactic| repeat (first
  | exact es_c | exact es_var rfl | exact ea_nil | exact et_yes | with_reducible apply ea_cons | with_reducible apply es_op | with_reducible apply es_cb | with_reducible apply es_un | with_reducible apply es_tup | with_reducible apply es_lst | exact Nat.le_of_ble_eq_true rfl
  | with_reducible apply es_chain | with_reducible apply et_test | with_reducible apply et_B | with_reducible apply et_not | with_reducible apply es_notV
  | exact o2_add | exact o2_sub | exact o2_lt | exact o2_le | exact o2_gt | exact o2_ge | exact o2_eqI | exact o2_neI | exact o1_neg | exact o2_is | exact o2_isnot | exact o2_inDI | exact o2_ninDI | exact o2_inNL | exact o2_inNT | exact o2_ninNL | exact o2_ninNT | exact o2_inL | exact o2_inT | exact o2_ninL | exact o2_ninT | exact o2_eqT | exact o2_eqL
  | exact oc_lenL | exact oc_lenT | exact oc_lenD | exact oc_sumL | exact oc_sumT' | exact oc_max2 | exact oc_min2 | exact oc_sortI | exact oc_tupL | exact oc_int | exact oc_intB | exact oc_abs | exact oc_any | exact oc_all
  | exact o2_div (by constructor <;> omega) | exact o2_mod (by omega) | exact o2_mulT (by first | (left; constructor <;> omega) | (right; constructor <;> omega)) | exact o2_ixL (by omega) rfl | exact o2_ixT (by omega) rfl))
abbrev s_law_pot : Stmt := top 66
abbrev n_law_pot : List Str := ["_law_script", "_law_cells", "_law_greats", "_law_smalls", "_law_item"]
theorem sc_law_pot : FnScope n_law_pot ["_law_script"] (defScope s_law_pot) := ⟨rfl, rfl, rfl, by decide +kernel, rfl, by decide +kernel, by decide +kernel⟩
abbrev s_law_draw : Stmt := top 67
abbrev n_law_draw : List Str := ["_law_pot_here", "_law_many", "_law_turn", "_law_number", "_law_seed"]
theorem sc_law_draw : FnScope n_law_draw ["_law_pot_here", "_law_many"] (defScope s_law_draw) := ⟨rfl, rfl, rfl, by decide +kernel, rfl, by decide +kernel, by decide +kernel⟩
section
variable {P : Program} {w : World} {K : PySem.W.Frag} {mg : Str → Option Value} {base : Heap} {C : Addr}
theorem q_endX {p g s : Addr} {x : Pot} {P H P0 H0 P1 H1 : Hp} {ρ : List (Option RP)} {σ : St} {D : Ends} {te : TE} {R : RP} (a : At ⟨potX p g s x, P1, H1, [], none⟩ ρ [] σ P H) (S : Stp (potW p g s) P0 H0 P1 H1) (e : E (potX p g s x) ρ [] te R)
    (k : ∀ v P2 H2, Stp (potW p g s) P0 H0 P2 H2 → R.r v P2 → D.rt v H2) : tRet te D σ H :=
  a.e e fun v P2 H2 a' r => k v P2 H2 (S.trans ((a'.all rfl (fun b z _ => (a'.ok.hx.z b z).2) a'.ok.hx.j).toW a'.ok.hx.j)) r
abbrev drawn (m : Int) : RP := oneR (fun i : Int => 0 ≤ i ∧ i < m) fun i => intR i
abbrev sp_law_draw : Sp := spPot (fun m : Int => 0 < m ∧ m < 1073741824) (fun m => [intR m]) (fun m => drawn m)
theorem ok__law_draw (T : Txt K mg) (d : DefAt K mg "_law_draw" s_law_draw) : Callee P w K mg base "_law_draw" ["_law_pot_here", "_law_many"] 1 sp_law_draw := by
  refine d.okP sc_law_draw (fun _ _ _ _ _ _ us hl => match us, hl with | [_, _], _ => rfl) (fun _ _ => rfl) fun f cdv A outer s H E1 hr => ⟨_, (pss_cons (ps_set (i := 2) sc_law_draw.nd rfl (Or.inl rfl) (pe_ix (ix_seqK K rfl) (pv 0) pe_int (fun _ _ => rfl)))
  (pss_cons (ps_asg (pe_op op_uAdd (pv 2) pe_int) (pg_sub (pv 0) pe_int set_list))
  (pss_cons (ps_if (pt_cmpR op_uGt (pe_callB (cr_lenK K rfl) (by rfl) T.len bo_len (pa_cons (pe_ix (ix_seqK K rfl) (pv 0) pe_int (fun _ _ => rfl)) pa_nil)) pe_int (nomark _)) (pss_cons (ps_set (i := 3) sc_law_draw.nd rfl (Or.inl rfl) (pe_ix (ix_seqK K rfl) (pe_ix (ix_seqK K rfl) (pv 0) pe_int (fun _ _ => rfl)) pe_int (fun _ _ => rfl)))
  (pss_cons (ps_asg (pe_op op_uDiv (pv 3) (pv 1)) (pg_sub (pe_ix (ix_seqK K rfl) (pv 0) pe_int (fun _ _ => rfl)) pe_int set_list))
  (pss_cons (ps_if (pt_cmpR (op_uLtK K rfl hr.units) (pv 3) (pv 1) (nomark _)) (pss_one (ps_expr (pe_bm PySem.F.plainAttrs_list PySem.F.slot_list_pop PySem.F.type_list_pop mt_popAt (pe_ix (ix_seqK K rfl) (pv 0) pe_int (fun _ _ => rfl)) (pa_cons pe_int pa_nil)))) pss_nil)
  (pss_one (ps_ret (pe_op op_uMod (pe_callTy call_int1 (by rfl) T.int bo_int (pa_cons (pv 3) pa_nil)) (pv 1))))))) pss_nil)
  (pss_cons (ps_set (i := 4) sc_law_draw.nd rfl (Or.inl rfl) (pe_op op_uAdd (pe_op op_uAdd (pe_op (op_uMulTK K rfl) (pe_ix (ix_seqK K rfl) (pe_ix (ix_seqK K rfl) (pv 0) pe_int (fun _ _ => rfl)) (pe_op op_uMod (pe_callTy call_int1 (by rfl) T.int bo_int (pa_cons (pv 2) pa_nil)) (pe_callB (cr_lenK K rfl) (by rfl) T.len bo_len (pa_cons (pe_ix (ix_seqK K rfl) (pv 0) pe_int (fun _ _ => rfl)) pa_nil))) (fun _ _ => rfl)) pe_int) (pe_op (op_uMulTK K rfl) pe_int (pv 2))) (pe_op (op_uMulTK K rfl) (pe_ix (ix_seqK K rfl) (pv 0) pe_int (fun _ _ => rfl)) pe_int)))
  (pss_cons (ps_set (i := 3) sc_law_draw.nd rfl (Or.inl rfl) (pe_op op_uMod (pe_callTy call_int1 (by rfl) T.int bo_int (pa_cons (pe_op op_uAdd (pe_op (op_uMulTK K rfl) (pv 4) pe_int) pe_int) pa_nil)) pe_int))
  (pss_cons (ps_set (i := 3) sc_law_draw.nd rfl (Or.inl rfl) (pe_op op_uMod (pe_callTy call_int1 (by rfl) T.int bo_int (pa_cons (pe_op (op_uMulTK K rfl) (pv 3) (pe_op op_uAdd (pe_op op_uDiv (pv 3) pe_int) pe_int)) pa_nil)) pe_int))
  (pss_cons (ps_set (i := 3) sc_law_draw.nd rfl (Or.inl rfl) (pe_op op_uMod (pe_callTy call_int1 (by rfl) T.int bo_int (pa_cons (pe_op op_uAdd (pe_op (op_uMulTK K rfl) (pv 3) (pe_op op_uAdd (pe_op op_uDiv (pv 3) pe_int) pe_int)) (pv 2)) pa_nil)) pe_int))
  (pss_one (ps_ret (pe_op op_uMod (pe_callTy call_int1 (by rfl) T.int bo_int (pa_cons (pe_op op_uDiv (pv 3) pe_int) pa_nil)) (pv 1))))))))))), fun m p g z P0 H0 σ0 Q ⟨h1, h2⟩ a q => ?_⟩
  obtain ⟨x, j⟩ := a.ok.hx.j
  have S : Stp (potW p g z) P0 H0 P0 H0 := Stp.refl a.ok.hx.le
  have a : At ⟨potX p g z x, P0, H0, [], none⟩ (entryR n_law_draw [valR (.ref p), intR m]) [] σ0 P0 H0 := entry_atW' (a.ok.hx.toX j) a.ok.sat a.ok.len
  (try dsimp only [tNext]); refine sq (q_set (R := intR x.t) a (es_op (es_var (R := valR (.ref p)) rfl) es_c (o2_pot rfl)) fun v1 P1 H1 a1 => ?_)
  (try dsimp only [tNext]); refine sq (q_potT (n := x.t + 1) a1 S rfl (by walk_at "e") fun P2 H2 a2 S2 => ?_)
  (try dsimp only [tNext]); refine sq (q_if a2 (b := decide (0 < ((x.gs.length : Nat) : Int))) (et_test (es_op (es_cb (ea_cons (es_op (es_var (R := valR (.ref p)) rfl) es_c (o2_pot (y := .ref g) rfl)) ea_nil) oc_lenG) es_c o2_gt)) (fun e P3 H3 a3 => ?_) fun _ P3 H3 a3 => ?_)
  · have e : 0 < ((x.gs.length : Nat) : Int) := of_decide_eq_true e
    have hg : x.gs ≠ [] := fun z => by rw [z] at e; exact absurd e (by decide)
    obtain ⟨y, l, hy⟩ := List.exists_cons_of_ne_nil hg
    (try dsimp only [tNext]); refine sq (q_set (R := intR y) a3 (es_op (es_op (es_var (R := valR (.ref p)) rfl) es_c (o2_pot (y := .ref g) rfl)) es_c (o2_potG (by decide) (by show x.gs[0]? = _; rw [hy]; rfl))) fun v4 P4 H4 a4 => ?_)
    (try dsimp only [tNext]); refine sq (q_potG (n := y / m) a4 S2 rfl (by walk_at "e") hg fun P5 H5 a5 S5 => ?_)
    have hg' : x.gs.set 0 (y / m) ≠ [] := by rw [hy]; exact fun z => by cases z
    have rr : ∀ v P', (intR (y % m)).r v P' → (drawn m).r v P' := fun v P' r => ⟨y % m, ⟨Int.emod_nonneg _ (by omega), Int.emod_lt_of_pos _ h1⟩, r⟩
    (try dsimp only [tNext]); refine sq (q_if a5 (b := decide (y < m)) (by walk_at "e") (fun e P6 H6 a6 => ?_) fun _ P6 H6 a6 => ?_)
    · (try dsimp only [tNext]); refine q_potP a6 S5 rfl hg' fun P7 H7 a7 S7 => ?_
      (try dsimp only [tNext]); refine q_endX a7 S7 (R := intR (y % m)) (by walk_at "e") fun v P' H' st r => ?_
      exact q v P' H' st (rr v P' r)
    · (try dsimp only [tNext]); refine q_endX a6 S5 (R := intR (y % m)) (by walk_at "e") fun v P' H' st r => ?_
      exact q v P' H' st (rr v P' r)
  have hL : 0 < ((x.ss.length : Nat) : Int) := by have := List.length_pos_iff.mpr j.ne; omega
  have b1 : 0 ≤ x.t % ((x.ss.length : Nat) : Int) := Int.emod_nonneg _ (by omega)
  have b2 : x.t % ((x.ss.length : Nat) : Int) < ((x.ss.length : Nat) : Int) := Int.emod_lt_of_pos _ hL
  obtain ⟨y, hy⟩ : ∃ y, x.ss[(x.t % ((x.ss.length : Nat) : Int)).toNat]? = some y := ⟨_, List.getElem?_eq_getElem (by omega)⟩
  (try dsimp only [tNext]); refine sq (q_setOne (Pr := fun _ : Int => True) (f := fun n => intR n) a3 (es_one (y * 7919 + 104729 * x.t + x.tot * 31) trivial (es_op (es_op (es_op (es_op (es_op (es_var (R := valR (.ref p)) rfl) es_c (o2_pot (y := .ref z) rfl)) (es_op (es_cb (ea_cons (es_var (R := intR x.t) rfl) ea_nil) oc_int) (es_cb (ea_cons (es_op (es_var (R := valR (.ref p)) rfl) es_c (o2_pot (y := .ref z) rfl)) ea_nil) oc_lenS') (o2_mod hL)) (o2_potS b1 hy)) es_c (o2_mulT (.inr ⟨by decide, by decide⟩))) (es_op es_c (es_var (R := intR x.t) rfl) (o2_mulT (.inl ⟨by decide, by decide⟩))) o2_add) (es_op (es_op (es_var (R := valR (.ref p)) rfl) es_c (o2_pot (y := .int x.tot) rfl)) es_c (o2_mulT (.inr ⟨by decide, by decide⟩))) o2_add)) (by show 4 < 5; decide) fun seed _ v4 P4 H4 a4 => ?_)
  (try dsimp only [tNext]); refine sq (q_setOne (Pr := fun n : Int => 0 ≤ n ∧ n < 2147483647) (f := fun n => intR n) a4 (es_one ((seed * 48271 + 11) % 2147483647) ⟨by omega, by omega⟩ (by walk_at "e")) (by show 3 < 5; decide) fun n1 ⟨l1, u1⟩ v5 P5 H5 a5 => ?_)
  (try dsimp only [tNext]); refine sq (q_setOne (Pr := fun n : Int => 0 ≤ n ∧ n < 2147483629) (f := fun n => intR n) a5 (es_one ((n1 * (n1 / 1009 + 69621)) % 2147483629) ⟨Int.emod_nonneg _ (by decide), Int.emod_lt_of_pos _ (by decide)⟩ (by walk_at "e")) (by show 3 < 5; decide) fun n2 ⟨l2, u2⟩ v6 P6 H6 a6 => ?_)
  (try dsimp only [tNext]); refine sq (q_setOne (Pr := fun n : Int => 0 ≤ n ∧ n < 2147483399) (f := fun n => intR n) a6 (es_one ((n2 * (n2 / 2003 + 40692) + x.t) % 2147483399) ⟨Int.emod_nonneg _ (by decide), Int.emod_lt_of_pos _ (by decide)⟩ (by walk_at "e")) (by show 3 < 5; decide) fun n3 ⟨l3, u3⟩ v7 P7 H7 a7 => ?_)
  (try dsimp only [tNext]); refine q_endX a7 S2 (R := intR (n3 / 64 % m)) (by walk_at "e") fun v P' H' st r => ?_
  exact q v P' H' st ⟨n3 / 64 % m, ⟨Int.emod_nonneg _ (by omega), Int.emod_lt_of_pos _ h1⟩, r⟩
abbrev potR (x : Pot) : RP := lstR [lstR (x.gs.map fun n => intR n), lstR (x.ss.map fun n => intR n), intR x.t, intR x.tot]
abbrev sp_law_pot (K : PySem.W.Frag) : Sp := spOf (fun ns : List Int => ns.length ≤ 63) (fun ns => [scrR K ns]) (fun _ => oneR (fun x : Pot => (∀ i ∈ x.gs, 10 ^ 18 ≤ i) ∧ (∀ i ∈ x.ss, i < 1000000007) ∧ x.ss ≠ []) potR)
theorem ok__law_pot (T : Txt K mg) (d : DefAt K mg "_law_pot" s_law_pot) : Callee P w K mg base "_law_pot" ["_law_script"] 1 (sp_law_pot K) := by
  refine d.ok sc_law_pot (fun _ _ _ _ _ _ us hl => match us, hl with | [_], _ => rfl) (fun _ _ => rfl) fun f cdv A outer s H E1 hr => ⟨_, (pss_cons (ps_setLc (i := 1) (own := [("_law_item", 4)]) (by rfl) sc_law_pot.nd rfl rfl (sw_true rfl rfl rfl (by decide +kernel)) (pi_listK K rfl (pe_slice (sl_listK K rfl) (pv 0) po_none (po_some pe_int))) (blkOk_by (own := [("_law_item", 4)]) (N := n_law_pot) (sc := defScope s_law_pot) (by decide +kernel)) (fun _ _ _ _ _ => (pg_name (i := 4) sc_law_pot.nd rfl (Or.inl rfl))) (fun _ _ _ _ _ => pts_nil) (fun _ _ _ _ _ => (pe_callTy call_int1 (by rfl) T.int bo_int (pa_cons (pv 4) pa_nil))))
  (pss_cons (ps_setLc (i := 2) (own := [("_law_item", 4)]) (by rfl) sc_law_pot.nd rfl rfl (sw_true rfl rfl rfl (by decide +kernel)) (pi_listK K rfl (pv 1)) (blkOk_by (own := [("_law_item", 4)]) (N := n_law_pot) (sc := defScope s_law_pot) (by decide +kernel)) (fun _ _ _ _ _ => (pg_name (i := 4) sc_law_pot.nd rfl (Or.inl rfl))) (fun _ _ _ _ _ => (pts_one (pt_cmpR op_uGe (pe_callB call_abs (by rfl) T.abs bo_abs (pa_cons (pv 4) pa_nil)) (pe_op op_uPow pe_int pe_int) (nomark _)))) (fun _ _ _ _ _ => (pe_callB call_abs (by rfl) T.abs bo_abs (pa_cons (pv 4) pa_nil))))
  (pss_cons (ps_set (i := 3) sc_law_pot.nd rfl (Or.inl rfl) (pe_op op_uAdd (pe_lc (own := [("_law_item", 4)]) (by rfl) sc_law_pot.nd (pi_listK K rfl (pv 1)) (blkOk_by (own := [("_law_item", 4)]) (N := n_law_pot) (sc := defScope s_law_pot) (by decide +kernel)) (fun _ _ _ _ _ => (pg_name (i := 4) sc_law_pot.nd rfl (Or.inl rfl))) (fun _ _ _ _ _ => (pts_one (pt_cmpR (op_uLtK K rfl hr.units) (pe_callB call_abs (by rfl) T.abs bo_abs (pa_cons (pv 4) pa_nil)) (pe_op op_uPow pe_int pe_int) (nomark _)))) (fun _ _ _ _ _ => (pe_op op_uMod (pe_callTy call_int1 (by rfl) T.int bo_int (pa_cons (pv 4) pa_nil)) pe_int))) (pe_lst (pa_cons (pe_op op_uAdd (pe_callB (cr_lenK K rfl) (by rfl) T.len bo_len (pa_cons (pv 1) pa_nil)) pe_int) pa_nil))))
  (pss_one (ps_ret (pe_lst (pa_cons (pv 2) (pa_cons (pv 3) (pa_cons pe_int (pa_cons (pe_op op_uMod (pe_callTy call_int1 (by rfl) T.int bo_int (pa_cons (pe_callB (cr_sumUK K rfl rfl) (by rfl) T.sum bo_sum (pa_cons (pv 3) pa_nil)) pa_nil)) pe_int) pa_nil)))))))))), fun ns P0 H0 σ0 Q hl a q => ?_⟩
  have hl : ns.length ≤ 63 := hl
  let ab : Int → Int := fun i => if i < 0 then -i else i
  have te : ∀ {ρ : List (Option RP)}, E W0 ρ [] (tOp uPow (tC (.int 10)) (tC (.int 18))) (intR (10 ^ 18)) := fun {ρ} => es_eqI (es_op es_c es_c (o2_pow ⟨by decide, by decide, by decide⟩)) (by decide)
  (try dsimp only [tNext]); refine sq (q_set (R := lstR (ns.map fun n => intR n)) a (es_lc0 (as := ns) (RA := fun n => intR n) (RB := fun n => intR n) (src_list (es_slScr (n := 63) (es_var rfl) es_c hl)) (fun n _ => tg_name) (by decide) (fun n _ => es_cb (ea_cons (es_var (R := intR n) rfl) ea_nil) oc_int) (by omega)) fun v1 P1 H1 a1 => ?_)
  (try dsimp only [tNext]); refine sq (q_set (R := lstR (((ns.filter fun n => decide (10 ^ 18 ≤ ab n)).map ab).map fun n => intR n)) a1 (es_eq (es_lc (as := ns) (RA := fun n => intR n) (RB := fun n => intR (ab n)) (f := fun n => decide (10 ^ 18 ≤ ab n)) (src_list (es_var rfl)) (fun n _ => tg_name) (by decide) (fun n _ => et_test (es_op (es_cb (ea_cons (es_var (R := intR n) rfl) ea_nil) oc_abs) te o2_ge)) (fun n _ _ => es_cb (ea_cons (es_var (R := intR n) rfl) ea_nil) oc_abs) (by omega)) (by rw [List.map_map]; rfl)) fun v2 P2 H2 a2 => ?_)
  let ss : List Int := (ns.filter fun n => decide (ab n < 10 ^ 18)).map (fun n => n % 1000000007) ++ [((ns.length : Nat) : Int) + 1]
  (try dsimp only [tNext]); refine sq (q_set (R := lstR (ss.map fun n => intR n)) a2 (es_eq (es_op (es_lc (as := ns) (RA := fun n => intR n) (RB := fun n => intR (n % 1000000007)) (f := fun n => decide (ab n < 10 ^ 18)) (src_list (es_var (R := lstR (ns.map fun n => intR n)) rfl)) (fun n _ => tg_name) (by decide) (fun n _ => et_test (es_op (es_cb (ea_cons (es_var (R := intR n) rfl) ea_nil) oc_abs) te o2_lt)) (fun n _ _ => es_op (es_cb (ea_cons (es_var (R := intR n) rfl) ea_nil) oc_int) es_c (o2_mod (by decide))) (by omega)) (es_lst (ea_cons (es_op (es_cb (ea_cons (es_var (R := lstR (ns.map fun n => intR n)) rfl) ea_nil) oc_lenL) es_c o2_add) ea_nil) (by simp)) (o2_cat ?_)) ?_) fun v3 P3 H3 a3 => ?_)
  · have := List.length_filter_le (fun n => decide (ab n < 10 ^ 18)) ns
    simp only [List.length_map, List.length_cons, List.length_nil]
    omega
  · show _ = lstR (List.map _ (_ ++ _))
    rw [List.map_append, List.map_map, List.length_map]
    rfl
  (try dsimp only [tNext]); refine q_end a3 (es_one (Pr := fun x : Pot => (∀ i ∈ x.gs, 10 ^ 18 ≤ i) ∧ (∀ i ∈ x.ss, i < 1000000007) ∧ x.ss ≠ []) (f := potR) ⟨0, (ns.filter fun n => decide (10 ^ 18 ≤ ab n)).map ab, ss, ss.sum % 999983⟩ ⟨fun i hi => ?_, fun i hi => ?_, by simp [ss]⟩ (es_lst (ea_cons (es_var rfl) (ea_cons (es_var rfl) (ea_cons es_c (ea_cons (es_op (es_cb (ea_cons (es_cb (ea_cons (es_var (R := lstR (ss.map fun n => intR n)) rfl) ea_nil) oc_sumL) ea_nil) oc_int) es_c (o2_mod (by decide))) ea_nil)))) (by simp))) rfl rfl (by exact q)
  · obtain ⟨n, hn, rfl⟩ := List.mem_map.mp hi
    exact of_decide_eq_true (List.mem_filter.mp hn).2
  · rcases List.mem_append.mp hi with h | h
    · obtain ⟨n, hn, rfl⟩ := List.mem_map.mp h
      exact Int.emod_lt_of_pos _ (by decide)
    · have := List.mem_singleton.mp h
      omega
end
end Y
end
section
/-! The defs, part 14: a bound of the least coins; a milder track. -/
namespace Y
open PySem PySem.Spec L2
open PyProof.Rows (envOfC)
local macro_rules | `(tactic| walk_at "e") => `(tactic| repeat (first
  | exact es_c | exact es_var rfl | exact ea_nil | exact et_yes | with_reducible apply ea_cons | with_reducible apply es_op | with_reducible apply es_cb | with_reducible apply es_un | with_reducible apply es_tup | with_reducible apply es_lst | exact Nat.le_of_ble_eq_true rfl
  | with_reducible apply es_chain | with_reducible apply et_test | with_reducible apply et_B | with_reducible apply et_not | with_reducible apply es_notV
  | exact o2_add | exact o2_sub | exact o2_lt | exact o2_le | exact o2_gt | exact o2_ge | exact o2_eqI | exact o2_neI | exact o1_neg | exact o2_is | exact o2_isnot | exact o2_inDI | exact o2_ninDI | exact o2_inNL | exact o2_inNT | exact o2_ninNL | exact o2_ninNT | exact o2_inL | exact o2_inT | exact o2_ninL | exact o2_ninT | exact o2_eqT | exact o2_eqL
  | exact oc_lenL | exact oc_lenT | exact oc_lenD | exact oc_sumL | exact oc_sumT' | exact oc_max2 | exact oc_min2 | exact oc_sortI | exact oc_tupL | exact oc_int | exact oc_intB | exact oc_abs | exact oc_any | exact oc_all
  | exact o2_div (by constructor <;> omega) | exact o2_mod (by omega) | exact o2_mulT (by first | (left; constructor <;> omega) | (right; constructor <;> omega)) | exact o2_ixL (by omega) rfl | exact o2_ixT (by omega) rfl))
abbrev s_law_bound : Stmt := top 68
abbrev n_law_bound : List Str := ["_law_told", "_law_left", "_law_gaps", "_law_turn", "_law_sums", "_law_place", "_law_struck", "_law_found", "_law_gap", "_law_weight", "_law_start", "_law_letter", "_law_pay", "_law_goal"]
theorem sc_law_bound : FnScope n_law_bound ["_law_told"] (defScope s_law_bound) := ⟨rfl, rfl, rfl, by decide +kernel, rfl, by decide +kernel, by decide +kernel⟩
abbrev s_law_mild : Stmt := top 69
abbrev n_law_mild : List Str := ["_law_told", "_law_place", "_law_letter", "_law_pay", "_law_goal"]
theorem sc_law_mild : FnScope n_law_mild ["_law_told"] (defScope s_law_mild) := ⟨rfl, rfl, rfl, by decide +kernel, rfl, by decide +kernel, by decide +kernel⟩
section
variable {P : Program} {w : World} {K : PySem.W.Frag} {mg : Str → Option Value} {base : Heap} {C : Addr}
abbrev wtf (p : Nat) (L : List Nat) (r : WS.Arr) : Bool := decide (((r.place : Nat) : Int) = ((p : Nat) : Int)) && decide (r.goal ∈ L)
abbrev wt (As : List WS.Arr) (L : List Nat) (p : Nat) : Int := ((As.filter fun r => wtf p L r).map fun r => 2520 / max 1 r.pay).sum
abbrev swR (As : List WS.Arr) (L : List Nat) (p : Nat) : RP := tupR [intR (wt As L p), intR ((p : Nat) : Int)]
theorem wt_nn {As : List WS.Arr} {L : List Nat} {p : Nat} : 0 ≤ wt As L p := sum_nn fun y hy => by
  obtain ⟨r, _, rfl⟩ := List.mem_map.mp hy
  exact Int.ediv_nonneg (by decide) (by omega)
abbrev sp_law_bound : Sp := spOf (fun i : Nat × List WS.Arr => PkA i.1 i.2) (fun i => [partsR i.1 i.2]) (fun _ => oneR (fun _ : Int => True) fun n => intR n)
theorem ok__law_bound (T : Txt K mg) (d : DefAt K mg "_law_bound" s_law_bound) : Callee P w K mg base "_law_bound" ["_law_told"] 1 sp_law_bound := by
  refine d.ok sc_law_bound (fun _ _ _ _ _ _ us hl => match us, hl with | [_], _ => rfl) (fun _ _ => rfl) fun f cdv A outer s H E1 hr => ⟨_, (pss_cons (ps_set (i := 1) sc_law_bound.nd rfl (Or.inr rfl) (pe_listRg rfl (by rfl) T.list (prg_1 (by rfl) T.range (pe_ix (ix_seqK K rfl) (pv 0) pe_int (fun _ _ => rfl)))))
  (pss_cons (ps_set (i := 2) sc_law_bound.nd rfl (Or.inl rfl) (pe_lst pa_nil))
  (pss_cons (ps_for PassesOwn.never rfl (pi_range1 (by rfl) T.range (pa_cons (pe_ix (ix_seqK K rfl) (pv 0) pe_int (fun _ _ => rfl)) pa_nil)) (pg_name (i := 3) sc_law_bound.nd rfl (Or.inl rfl))
  (pss_cons (ps_set (i := 4) sc_law_bound.nd rfl (Or.inl rfl) (pe_lst pa_nil))
  (pss_cons (ps_for PassesOwn.never rfl (pi_listK K rfl (pv 1)) (pg_name (i := 5) sc_law_bound.nd rfl (Or.inr rfl))
  (pss_one (ps_expr (pe_bm PySem.F.plainAttrs_list PySem.F.slot_list_append PySem.F.type_list_append mt_append (pv 4) (pa_cons (pe_tup (pa_cons (pe_callB (cr_sumUK K rfl rfl) (by rfl) T.sum bo_sum (pa_cons (pe_lc (own := [("_law_start", 10), ("_law_letter", 11), ("_law_pay", 12), ("_law_goal", 13)]) (by rfl) sc_law_bound.nd (pi_tupK K rfl (pe_ix (ix_seqK K rfl) (pv 0) pe_int (fun _ _ => rfl))) (blkOk_by (own := [("_law_start", 10), ("_law_letter", 11), ("_law_pay", 12), ("_law_goal", 13)]) (N := n_law_bound) (sc := defScope s_law_bound) (by decide +kernel)) (fun _ _ _ _ _ => (pg_tupK (n := 4) K rfl rfl (pgs_cons (pg_name (i := 10) sc_law_bound.nd rfl (Or.inl rfl)) (pgs_cons (pg_name (i := 11) sc_law_bound.nd rfl (Or.inl rfl)) (pgs_cons (pg_name (i := 12) sc_law_bound.nd rfl (Or.inl rfl)) (pgs_cons (pg_name (i := 13) sc_law_bound.nd rfl (Or.inl rfl)) pgs_nil)))))) (fun _ _ _ _ _ => (pts_one (PW.pt (pw_and (pt_cmpR (op_uEqK K rfl hr.units) (pv 10) (pv 5) (nomark _)) (pw_and1 (pt_cmpR (op_uInK K rfl (hu_of hr)) (pv 13) (pv 1) (by rfl))))))) (fun _ _ _ _ _ => (pe_op op_uDiv pe_int (pe_callB (cr_maxUK K rfl rfl) (by rfl) T.max bo_max (pa_cons pe_int (pa_cons (pv 12) pa_nil)))))) pa_nil)) (pa_cons (pv 5) pa_nil))) pa_nil)))))
  (pss_cons (ps_set (i := 6) sc_law_bound.nd rfl (Or.inr rfl) (pe_lc (own := [("_law_weight", 9), ("_law_place", 5)]) (by rfl) sc_law_bound.nd (pi_listK K rfl (pv 4)) (blkOk_by (own := [("_law_weight", 9), ("_law_place", 5)]) (N := n_law_bound) (sc := defScope s_law_bound) (by decide +kernel)) (fun _ _ _ _ _ => (pg_tupK (n := 2) K rfl rfl (pgs_cons (pg_name (i := 9) sc_law_bound.nd rfl (Or.inl rfl)) (pgs_cons (pg_name (i := 5) sc_law_bound.nd rfl (Or.inl rfl)) pgs_nil)))) (fun _ _ _ _ _ => (pts_one (pt_cmpR (op_uLtK K rfl hr.units) (pv 9) pe_int (nomark _)))) (fun _ _ _ _ _ => (pv 5))))
  (pss_cons (ps_if (pt_cmpR (op_uEqK K rfl hr.units) (pe_callB (cr_lenK K rfl) (by rfl) T.len bo_len (pa_cons (pv 6) pa_nil)) pe_int (nomark _)) (pss_one ps_break) pss_nil)
  (pss_cons (ps_expr (pe_bm PySem.F.plainAttrs_list PySem.F.slot_list_append PySem.F.type_list_append mt_append (pv 2) (pa_cons (pe_op op_uSub pe_int (pe_callB (cr_maxUK K rfl rfl) (by rfl) T.max bo_max (pa_cons (pe_lc (own := [("_law_weight", 9), ("_law_place", 5)]) (by rfl) sc_law_bound.nd (pi_listK K rfl (pv 4)) (blkOk_by (own := [("_law_weight", 9), ("_law_place", 5)]) (N := n_law_bound) (sc := defScope s_law_bound) (by decide +kernel)) (fun _ _ _ _ _ => (pg_tupK (n := 2) K rfl rfl (pgs_cons (pg_name (i := 9) sc_law_bound.nd rfl (Or.inl rfl)) (pgs_cons (pg_name (i := 5) sc_law_bound.nd rfl (Or.inl rfl)) pgs_nil)))) (fun _ _ _ _ _ => (pts_one (pt_cmpR (op_uLtK K rfl hr.units) (pv 9) pe_int (nomark _)))) (fun _ _ _ _ _ => (pv 9))) pa_nil))) pa_nil)))
  (pss_one (ps_set (i := 1) sc_law_bound.nd rfl (Or.inr rfl) (pe_lc (own := [("_law_place", 5)]) (by rfl) sc_law_bound.nd (pi_listK K rfl (pv 1)) (blkOk_by (own := [("_law_place", 5)]) (N := n_law_bound) (sc := defScope s_law_bound) (by decide +kernel)) (fun _ _ _ _ _ => (pg_name (i := 5) sc_law_bound.nd rfl (Or.inl rfl))) (fun _ _ _ _ _ => (pts_one (pt_cmpR (op_uNotInK K rfl (hu_of hr)) (pv 5) (pv 6) (by rfl)))) (fun _ _ _ _ _ => (pv 5)))))))))))
  (pss_cons (ps_set (i := 7) sc_law_bound.nd rfl (Or.inl rfl) pe_int)
  (pss_cons (ps_for PassesOwn.never rfl (pi_listK K rfl (pe_revL (pv 2))) (pg_name (i := 8) sc_law_bound.nd rfl (Or.inl rfl))
  (pss_one (ps_set (i := 7) sc_law_bound.nd rfl (Or.inl rfl) (pe_op op_uAdd (pe_op op_uDiv (pe_op (op_uMulTK K rfl) (pe_op op_uAdd (pv 7) pe_int) pe_int) (pv 8)) pe_int))))
  (pss_one (ps_ret (pv 7)))))))), fun ⟨n, As⟩ P0 H0 σ0 Q hA a q => ?_⟩
  have hA : PkA n As := hA
  have hf := hA.ok.few
  have hl := hA.len
  (try dsimp only [tNext]); refine sq (q_set (R := lstR (natsR (List.range n))) a (es_eq (es_listRg (n := ((n : Nat) : Int)) (es_op (es_var (R := partsR n As) rfl) es_c (o2_ixT (by omega) rfl)) (by omega)) (by rw [Int.toNat_natCast])) fun v1 P1 H1 a1 => ?_)
  (try dsimp only [tNext]); refine sq (q_newL (Rs := []) a1 ea_nil (by simp) fun pg σ2 P2 H2 a2 => ?_)
  (try dsimp only [tNext]); refine sq (q_forB (as := List.range n) (RA := fun p => intR ((p : Nat) : Int)) (X := List Nat × List Int) (fun k x => x.1.length ≤ 12 ∧ x.2.length ≤ k ∧ ∀ y ∈ x.2, 1 ≤ y ∧ y ≤ 2520) (fun x => x.2.length ≤ 12 ∧ ∀ y ∈ x.2, 1 ≤ y ∧ y ≤ 2520)
    (fun x => [some (partsR n As), some (lstR (natsR x.1)), some (valR (.ref pg)), none, none, none, none, none, none, none, none, none, none, none]) (fun x => [(pg, .lst (x.2.map fun y => intR y))]) a2 (src_range0 (ea_cons (es_op (es_var (R := partsR n As) rfl) es_c (o2_ixT (by omega) rfl)) ea_nil) (by omega))
    (fun P' H' a' => ⟨(List.range n, []), ⟨by rw [List.length_range]; exact hf, Nat.le_refl _, fun y hy => absurd hy List.not_mem_nil⟩, a'⟩) (fun k x p hk _ => tg_name) (fun x ⟨_, h2, h3⟩ => ⟨by rw [List.length_range] at h2; omega, h3⟩) (fun bk br B k x t σ P H hk hx a => ?_) fun x σ P H hx a => ?_)
  · obtain ⟨L, G⟩ := x
    obtain ⟨hL, hG, hy⟩ := hx
    simp only at hL hG hy
    have hkn : k < n := by
      have := (List.getElem?_eq_some_iff.mp hk).1
      rwa [List.length_range] at this
    (try dsimp only [tNext]); refine sq (q_newL (Rs := []) a ea_nil (by simp) fun ps σ3 P3 H3 a3 => ?_)
    (try dsimp only [tNext]); refine sq (q_for (as := L) (RA := fun p => intR ((p : Nat) : Int)) (X := Unit) (fun _ _ => True) (fun _ _ => [some (partsR n As), some (lstR (natsR L)), some (valR (.ref pg)), none, some (valR (.ref ps)), none, none, none, none, none, none, none, none, none])
      (fun k _ => [(ps, .lst ((L.take k).map (swR As L))), (pg, .lst (G.map fun y => intR y))]) a3 (src_list (es_var (R := lstR (natsR L)) rfl)) (fun P' H' a' => ⟨(), trivial, a'.drop 3⟩) (fun k u p hk _ => tg_name) (fun B2 k2 u p σ P H hk2 _ a => ?_) fun u σ P H _ a => ?_)
    · (try dsimp only [tNext]); refine q_app (i := 4) (j := 0) (R := swR As L p) a rfl rfl (es_tup (ea_cons (es_cb (ea_cons (es_eq (es_lc (as := As) (RA := arrR) (f := fun r => wtf p L r) (RB := fun r => intR (2520 / max 1 r.pay)) (src_tup (es_op (es_var (R := partsR n As) rfl) es_c (o2_ixT (by omega) rfl))) (fun r _ => tg4) (by decide) (fun r hr => ?_) (fun r hr _ => ?_) (by omega)) (R' := lstR (((As.filter fun r => wtf p L r).map fun r => 2520 / max 1 r.pay).map fun v => intR v)) (by rw [List.map_map]; rfl)) ea_nil) oc_sumL) (ea_cons (es_var rfl) ea_nil)) (by simp)) ?_ fun P4 H4 a4 => ⟨(), P4, trivial, (a4.drop 5).mo ?_⟩
      · exact et_and (et_test (es_op (es_var (R := intR ((r.place : Nat) : Int)) rfl) (es_var (R := intR ((p : Nat) : Int)) rfl) o2_eqI)) fun _ => et_test (es_op (es_var (R := intR ((r.goal : Nat) : Int)) rfl) (es_var (R := lstR (natsR L)) rfl) o2_inNL)
      · have := (hA.ok.each r hr).2.2
        exact es_op es_c (es_cb (ea_cons es_c (ea_cons (es_var (R := intR r.pay) rfl) ea_nil)) oc_max2) (o2_div ⟨by omega, by omega⟩)
      · rw [List.length_map, List.length_take]
        omega
      · show [(ps, Mo.lst (_ ++ [_])), _] = [(ps, Mo.lst _), _]
        rw [List.take_add_one, hk2]
        simp
    · obtain ⟨P5, a5⟩ := a.freeze (j := 0) (i := 4) rfl rfl
      have a5 : At _ [some (partsR n As), some (lstR (natsR L)), some (valR (.ref pg)), none, some (lstR (L.map (swR As L))), none, none, none, none, none, none, none, none, none] [(pg, .lst (G.map fun y => intR y))] σ P5 H := a5.rs (by rw [List.take_length]; rfl)
      (try dsimp only [tNext]); refine sq (q_set (R := lstR (natsR (L.filter fun p => decide (wt As L p < 2520)))) a5 (es_lc (as := L) (RA := swR As L) (RB := fun p => intR ((p : Nat) : Int)) (f := fun p => decide (wt As L p < 2520)) (src_list (es_var rfl)) (fun p _ => tg_tup (tgs_cons tg_name (tgs_cons tg_name tgs_nil)) rfl) (by decide) (fun p _ => et_test (es_op (es_var (R := intR (wt As L p)) rfl) es_c o2_lt)) (fun p _ _ => es_var rfl) (by omega)) fun v6 P6 H6 a6 => ?_)
      (try dsimp only [tNext]); refine sq (q_if a6 (b := decide (((L.filter fun p => decide (wt As L p < 2520)).length : Int) = 0)) (et_eq (et_test (es_op (es_cb (ea_cons (es_var (R := lstR (natsR (L.filter fun p => decide (wt As L p < 2520)))) rfl) ea_nil) oc_lenL) es_c o2_eqI)) (by rw [List.length_map])) (fun e P7 H7 a7 => ?_) fun e P7 H7 a7 => ?_)
      · exact br (L, G) _ P7 H7 ⟨by dsimp only; omega, hy⟩ ((a7.drop 4).drop 6).pop
      have hne : (L.filter fun p => decide (wt As L p < 2520)) ≠ [] := fun z => by
        have := of_decide_eq_false e
        rw [z] at this
        exact this rfl
      obtain ⟨m, hm, hmx⟩ := ex_max ((L.filter fun p => decide (wt As L p < 2520)).map (wt As L)) (fun z => hne (List.map_eq_nil_iff.mp z))
      have hm2 : 0 ≤ m ∧ m < 2520 := by
        obtain ⟨p, hp, rfl⟩ := List.mem_map.mp hm
        exact ⟨wt_nn, of_decide_eq_true (List.mem_filter.mp hp).2⟩
      (try dsimp only [tNext]); refine sq (q_app (i := 2) (j := 0) (R := intR (2520 - m)) a7 rfl rfl (es_op es_c (es_cb (ea_cons (es_eq (es_lc (as := L) (RA := swR As L) (RB := fun p => intR (wt As L p)) (f := fun p => decide (wt As L p < 2520)) (src_list (es_var rfl)) (fun p _ => tg_tup (tgs_cons tg_name (tgs_cons tg_name tgs_nil)) rfl) (by decide) (fun p _ => et_test (es_op (es_var (R := intR (wt As L p)) rfl) es_c o2_lt)) (fun p _ _ => es_var rfl) (by omega)) (R' := lstR (((L.filter fun p => decide (wt As L p < 2520)).map (wt As L)).map fun v => intR v)) (by rw [List.map_map]; rfl)) ea_nil) (oc_max1 hm hmx)) o2_sub) (by rw [List.length_map]; omega) fun P8 H8 a8 => ?_)
      (try dsimp only [tNext]); refine q_set (R := lstR (natsR (L.filter fun p => !decide (p ∈ L.filter fun p => decide (wt As L p < 2520))))) a8 (es_lc (as := L) (RA := fun p => intR ((p : Nat) : Int)) (RB := fun p => intR ((p : Nat) : Int)) (f := fun p => !decide (p ∈ L.filter fun p => decide (wt As L p < 2520))) (src_list (es_var (R := lstR (natsR L)) rfl)) (fun p _ => tg_name) (by decide) (fun p _ => et_test (es_op (es_var (R := intR ((p : Nat) : Int)) rfl) (es_var (R := lstR (natsR (L.filter fun p => decide (wt As L p < 2520)))) rfl) o2_ninNL)) (fun p _ _ => es_var rfl) (by omega)) fun v9 P9 H9 a9 => ⟨(L.filter fun p => !decide (p ∈ L.filter fun p => decide (wt As L p < 2520)), G ++ [2520 - m]), P9, ⟨?_, ?_, ?_⟩, ((a9.drop 4).drop 6).mo ?_⟩
      · exact Nat.le_trans (List.length_filter_le _ _) hL
      · rw [List.length_append]
        show _ + 1 ≤ _
        omega
      · intro y hy2
        rcases List.mem_append.mp hy2 with h | h
        · exact hy y h
        · rw [List.mem_singleton.mp h]
          omega
      · show [(pg, Mo.lst (_ ++ [_]))] = [(pg, Mo.lst (List.map _ (_ ++ _)))]
        rw [List.map_append]
        rfl
  · obtain ⟨L, G⟩ := x
    obtain ⟨hG, hy⟩ := hx
    simp only at hG hy
    obtain ⟨P5, a5⟩ := a.freeze (j := 0) (i := 2) rfl rfl
    (try dsimp only [tNext]); refine sq (q_set (R := intR 0) a5 es_c fun v6 P6 H6 a6 => ?_)
    (try dsimp only [tNext]); refine sq (q_for (as := G.reverse) (RA := fun y => intR y) (X := Int) (fun _ _ => True) (fun _ x => [some (partsR n As), some (lstR (natsR L)), some (lstR (G.map fun y => intR y)), none, none, none, none, some (intR x), none, none, none, none, none, none]) (fun _ _ => []) a6 (src_list (Is := G.reverse.map fun y => intR y) (es_eq (es_revL (es_var (R := lstR (G.map fun y => intR y)) rfl)) (by rw [List.map_reverse])))
      (fun P' H' a' => ⟨0, trivial, a'⟩) (fun k x y hk _ => tg_name) (fun B k x y σ P H hk _ a => ?_) fun x σ P H _ a => ?_)
    · have hyy := hy y (List.mem_reverse.mp (List.mem_of_getElem? hk))
      (try dsimp only [tNext]); refine q_set (R := intR ((x + 6) * 2520 / y + 1)) a (es_op (es_op (es_op (es_op (es_var (R := intR x) rfl) es_c o2_add) es_c (o2_mulT (.inr ⟨by decide, by decide⟩))) (es_var (R := intR y) rfl) (o2_div ⟨by omega, by omega⟩)) es_c o2_add) fun v7 P7 H7 a7 => ⟨_, P7, trivial, a7.drop 8⟩
    · (try dsimp only [tNext]); refine q_end a (es_one (Pr := fun _ : Int => True) (f := fun n => intR n) x trivial (es_var (R := intR x) rfl)) rfl rfl (by exact q)
/-- pays of 9 -/
def mildA (As : List WS.Arr) : List WS.Arr := As.map fun r => { r with pay := if 1 < r.pay then 9 else r.pay }
abbrev sp_law_mild : Sp := spOf (fun i : Nat × List WS.Arr => PkA i.1 i.2) (fun i => [partsR i.1 i.2]) (fun i => oneR (fun As' : List WS.Arr => As' = i.2 ∨ As' = mildA i.2) fun As' => partsR i.1 As')
theorem ok__law_mild (T : Txt K mg) (d : DefAt K mg "_law_mild" s_law_mild) (c__law_bound : Callee P w K mg base "_law_bound" ["_law_told"] 1 sp_law_bound) : Callee P w K mg base "_law_mild" ["_law_told"] 2 sp_law_mild := by
  refine d.ok sc_law_mild (fun _ _ _ _ _ _ us hl => match us, hl with | [_], _ => rfl) (fun _ _ => rfl) fun f cdv A outer s H E1 hr => ⟨_, (pss_cons (ps_if (pt_cmpR op_uLe (pe_callC c__law_bound (hr.mono (by decide)) (by rfl) (pa_cons (pv 0) pa_nil)) pe_int (nomark _)) (pss_one (ps_ret (pv 0))) pss_nil)
  (pss_one (ps_ret (pe_tup (pa_cons (pe_ix (ix_seqK K rfl) (pv 0) pe_int (fun _ _ => rfl)) (pa_cons (pe_callTy (call_tupK K rfl) (by rfl) T.tuple bo_tuple (pa_cons (pe_lc (own := [("_law_place", 1), ("_law_letter", 2), ("_law_pay", 3), ("_law_goal", 4)]) (by rfl) sc_law_mild.nd (pi_tupK K rfl (pe_ix (ix_seqK K rfl) (pv 0) pe_int (fun _ _ => rfl))) (blkOk_by (own := [("_law_place", 1), ("_law_letter", 2), ("_law_pay", 3), ("_law_goal", 4)]) (N := n_law_mild) (sc := defScope s_law_mild) (by decide +kernel)) (fun _ _ _ _ _ => (pg_tupK (n := 4) K rfl rfl (pgs_cons (pg_name (i := 1) sc_law_mild.nd rfl (Or.inl rfl)) (pgs_cons (pg_name (i := 2) sc_law_mild.nd rfl (Or.inl rfl)) (pgs_cons (pg_name (i := 3) sc_law_mild.nd rfl (Or.inl rfl)) (pgs_cons (pg_name (i := 4) sc_law_mild.nd rfl (Or.inl rfl)) pgs_nil)))))) (fun _ _ _ _ _ => pts_nil) (fun _ _ _ _ _ => (pe_tup (pa_cons (pv 1) (pa_cons (pv 2) (pa_cons (pe_ix (ix_seqK K rfl) (pe_lst (pa_cons (pv 3) (pa_cons pe_int pa_nil))) (pe_callTy call_int1 (by rfl) T.int bo_int (pa_cons (pe_cmpR op_uGt (pv 3) pe_int (nomark _)) pa_nil)) (fun _ _ => rfl)) (pa_cons (pv 4) pa_nil))))))) pa_nil)) pa_nil)))))), fun ⟨n, As⟩ P0 H0 σ0 Q hA a q => ?_⟩
  have hA : PkA n As := hA
  have hf := hA.ok.few
  have hl := hA.len
  (try dsimp only [tNext]); refine sq (q_ifOne a (es_op (es_call (n, As) (ea_cons (es_var rfl) ea_nil) hA) es_c (o2_one (g := fun x : Int => blR (decide (x ≤ 10000))) fun x _ => o2_le)) (fun _ _ _ P' H' a' => ?_) fun _ _ _ P1 H1 a1 => ?_)
  · (try dsimp only [tNext]); refine q_end a' (es_one (Pr := fun As' : List WS.Arr => As' = As ∨ As' = mildA As) (f := fun As' => partsR n As') As (.inl rfl) (es_var rfl)) rfl rfl (by exact q)
  · (try dsimp only [tNext]); refine q_end a1 (es_one (Pr := fun As' : List WS.Arr => As' = As ∨ As' = mildA As) (f := fun As' => partsR n As') (mildA As) (.inr rfl) (es_tup (ea_cons (es_op (es_var (R := partsR n As) rfl) es_c (o2_ixT (by omega) rfl)) (ea_cons (es_cb (ea_cons (es_eq (es_lc0 (as := As) (RA := arrR) (RB := fun r => arrR { r with pay := if 1 < r.pay then 9 else r.pay }) (src_tup (es_op (es_var (R := partsR n As) rfl) es_c (o2_ixT (by omega) rfl))) (fun r _ => tg4) (by decide) (fun r _ => ?_) (by omega)) (R' := lstR ((mildA As).map arrR)) (by unfold mildA; rw [List.map_map]; rfl)) ea_nil) oc_tupL) ea_nil)) (by simp))) rfl rfl (by exact q)
    refine es_tup (ea_cons (es_var rfl) (ea_cons (es_var rfl) (ea_cons ?_ (ea_cons (es_var rfl) ea_nil)))) (by simp)
    refine es_op (es_lst (Rs := [intR r.pay, intR 9]) (ea_cons (es_var rfl) (ea_cons es_c ea_nil)) (by simp)) (es_cb (ea_cons (es_op (es_var (R := intR r.pay) rfl) es_c o2_gt) ea_nil) oc_intB) (o2_ixL ?_ ?_)
    · split <;> decide
    · by_cases c : 1 < r.pay <;> simp [c]
end
end Y
end
section
/-! The defs, part 15: a drawn track's parts. -/
namespace WS
/-- some places drawn; at place i some letters, all below l -/
structure Part (n i l k : Nat) (A : List Arr) : Prop where
  each : ∀ a ∈ A, (a.place < i ∨ a.place = i ∧ a.letter < l) ∧ a.goal < n ∧ 0 ≤ a.pay ∧ a.pay ≤ 5 ∧ 97 ≤ a.letter ∧ a.letter ≤ 101
  asc : A.Pairwise Ahead
  some : ∀ p, p < i → outs A p ≠ []
  here : 0 < k → outs A i ≠ []
  now : (outs A i).length ≤ k
  three : ∀ p, p ≠ i → (outs A p).length ≤ 3
  len : A.length ≤ 3 * i + k
theorem Part.nil (n : Nat) : Part n 0 0 0 [] := ⟨fun a h => (by cases h), .nil, fun p h => absurd h (Nat.not_lt_zero _), fun h => absurd h (Nat.lt_irrefl _), Nat.le_refl _, fun p _ => Nat.zero_le _, Nat.le_refl _⟩
theorem Part.up {n i l : Nat} {A : List Arr} (h : Part n i 0 0 A) : Part n i l 0 A := ⟨fun a ha => ⟨(h.each a ha).1.elim .inl fun z => absurd z.2 (Nat.not_lt_zero _), (h.each a ha).2⟩, h.asc, h.some, h.here, h.now, h.three, h.len⟩
theorem outs_app (A B : List Arr) (p : Nat) : outs (A ++ B) p = outs A p ++ outs B p := List.filter_append ..
theorem outs_one (r : Arr) (p : Nat) : outs [r] p = if r.place = p then [r] else [] := by
  unfold outs
  by_cases c : r.place = p <;> simp [c]
theorem Part.add {n i s k : Nat} {A : List Arr} (h : Part n i (97 + s + k) k A) (hs : s + k ≤ 4) {pay : Int} {goal : Nat} (hp : 0 ≤ pay ∧ pay ≤ 5) (hg : goal < n) : Part n i (97 + s + (k + 1)) (k + 1) (A ++ [⟨i, 97 + s + k, pay, goal⟩]) := by
  refine ⟨fun a ha => ?_, ?_, fun p hp => ?_, fun _ => ?_, ?_, fun p hp => ?_, ?_⟩
  · rcases List.mem_append.mp ha with ha | ha
    · have := h.each a ha
      exact ⟨by omega, this.2⟩
    · rw [List.mem_singleton.mp ha]
      exact ⟨.inr ⟨rfl, by dsimp only; omega⟩, hg, hp.1, hp.2, by dsimp only; omega, by dsimp only; omega⟩
  · refine List.pairwise_append.mpr ⟨h.asc, List.pairwise_singleton _ _, fun a ha b hb => ?_⟩
    rw [List.mem_singleton.mp hb]
    rcases (h.each a ha).1 with z | z
    · exact .inl z
    · exact .inr z
  · rw [outs_app]
    exact fun z => h.some p hp (List.append_eq_nil_iff.mp z).1
  · rw [outs_app, outs_one, if_pos rfl]
    exact fun z => by cases (List.append_eq_nil_iff.mp z).2
  · rw [outs_app, outs_one, if_pos rfl, List.length_append]
    have := h.now
    show _ + 1 ≤ _
    omega
  · rw [outs_app, outs_one, if_neg (Ne.symm hp), List.append_nil]
    exact h.three p hp
  · rw [List.length_append]
    have := h.len
    show _ + 1 ≤ _
    omega
theorem Part.done {n i l k : Nat} {A : List Arr} (h : Part n i l k A) (h0 : 0 < k) (h3 : k ≤ 3) : Part n (i + 1) 0 0 A := by
  refine ⟨fun a ha => ⟨.inl ?_, (h.each a ha).2⟩, h.asc, fun p hp => ?_, fun z => absurd z (Nat.lt_irrefl _), ?_, fun p hp => ?_, ?_⟩
  · have := (h.each a ha).1
    omega
  · by_cases c : p = i
    · rw [c]
      exact h.here h0
    · exact h.some p (by omega)
  · have e : outs A (i + 1) = [] := List.filter_eq_nil_iff.mpr fun a ha z => by
      have := (h.each a ha).1
      have := of_decide_eq_true z
      omega
    rw [e]
    exact Nat.le_refl _
  · by_cases c : p = i
    · rw [c]
      have := h.now
      omega
    · exact h.three p c
  · have := h.len
    omega
theorem Part.arrS {n : Nat} {A : List Arr} (h : Part n n 0 0 A) (h0 : 0 < n) (h4 : n ≤ 4) : ArrS n A := by
  refine ⟨⟨h0, by omega, fun a ha => ?_, h.some, fun p => ?_⟩, by have := h.len; omega, fun a ha => (h.each a ha).2.2.2.2, h.asc⟩
  · have := h.each a ha
    exact ⟨by omega, this.2.1, this.2.2.1, by omega⟩
  · by_cases c : p = n
    · have := h.now
      rw [c]
      omega
    · exact h.three p c
end WS
namespace Y
open PySem PySem.Spec L2
open PyProof.Rows (envOfC)
local macro_rules | `(tactic| walk_at "e") => `(tactic| repeat (first
  | exact es_c | exact es_var rfl | exact ea_nil | exact et_yes | with_reducible apply ea_cons | with_reducible apply es_op | with_reducible apply es_cb | with_reducible apply es_un | with_reducible apply es_tup | with_reducible apply es_lst | exact Nat.le_of_ble_eq_true rfl
  | with_reducible apply es_chain | with_reducible apply et_test | with_reducible apply et_B | with_reducible apply et_not | with_reducible apply es_notV
  | exact o2_add | exact o2_sub | exact o2_lt | exact o2_le | exact o2_gt | exact o2_ge | exact o2_eqI | exact o2_neI | exact o1_neg | exact o2_is | exact o2_isnot | exact o2_inDI | exact o2_ninDI | exact o2_inNL | exact o2_inNT | exact o2_ninNL | exact o2_ninNT | exact o2_inL | exact o2_inT | exact o2_ninL | exact o2_ninT | exact o2_eqT | exact o2_eqL
  | exact oc_lenL | exact oc_lenT | exact oc_lenD | exact oc_sumL | exact oc_sumT' | exact oc_max2 | exact oc_min2 | exact oc_sortI | exact oc_tupL | exact oc_int | exact oc_intB | exact oc_abs | exact oc_any | exact oc_all
  | exact o2_div (by constructor <;> omega) | exact o2_mod (by omega) | exact o2_mulT (by first | (left; constructor <;> omega) | (right; constructor <;> omega)) | exact o2_ixL (by omega) rfl | exact o2_ixT (by omega) rfl))
abbrev s_law_parts : Stmt := top 70
abbrev n_law_parts : List Str := ["_law_pot_here", "_law_most_places", "_law_most_letters", "_law_most_pay", "_law_places", "_law_kind", "_law_arrows", "_law_place", "_law_many", "_law_shift", "_law_k", "_law_pay", "_law_goal"]
theorem sc_law_parts : FnScope n_law_parts ["_law_pot_here", "_law_most_places", "_law_most_letters", "_law_most_pay"] (defScope s_law_parts) := ⟨rfl, rfl, rfl, by decide +kernel, rfl, by decide +kernel, by decide +kernel⟩
theorem outs_mild (As : List WS.Arr) (p : Nat) : WS.outs (mildA As) p = mildA (WS.outs As p) := by
  unfold WS.outs mildA
  rw [List.filter_map]
  rfl
theorem mild_ok {n : Nat} {As : List WS.Arr} (h : WS.ArrS n As) : WS.ArrS n (mildA As) := by
  refine ⟨⟨h.ok.pos, h.ok.few, fun a ha => ?_, fun p hp => ?_, fun p => ?_⟩, ?_, fun a ha => ?_, ?_⟩
  · obtain ⟨r, hr, rfl⟩ := List.mem_map.mp ha
    have := h.ok.each r hr
    refine ⟨this.1, this.2.1, ?_⟩
    dsimp only
    split <;> omega
  · rw [outs_mild]
    exact fun z => h.ok.some p hp (List.map_eq_nil_iff.mp z)
  · rw [outs_mild]
    unfold mildA
    rw [List.length_map]
    exact h.ok.three p
  · unfold mildA
    rw [List.length_map]
    exact h.few
  · obtain ⟨r, hr, rfl⟩ := List.mem_map.mp ha
    exact h.ltr r hr
  · exact List.pairwise_map.mpr (h.asc.imp fun {a b} h => h)
theorem ArrS.pk {n : Nat} {As : List WS.Arr} (h : WS.ArrS n As) : PkA n As := ⟨h.ok, by have := h.few; omega⟩
theorem abc_at {j : Nat} (h : j ≤ 4) : ("abcde" : Str).cps.toList[j]? = some (97 + j) := by
  have hc : j = 0 ∨ j = 1 ∨ j = 2 ∨ j = 3 ∨ j = 4 := by omega
  rcases hc with rfl | rfl | rfl | rfl | rfl <;> decide +kernel
section
variable {P : Program} {w : World} {K : PySem.W.Frag} {mg : Str → Option Value} {base : Heap} {C : Addr}
abbrev sp_law_parts : Sp := spPot (fun _ : Unit => True) (fun _ => [intR 4, intR 3, intR 5]) (fun _ => oneR (fun i : Nat × List WS.Arr => WS.ArrS i.1 i.2 ∧ i.1 ≤ 4) fun i => partsR i.1 i.2)
theorem ok__law_parts (T : Txt K mg) (d : DefAt K mg "_law_parts" s_law_parts) (c__law_mild : Callee P w K mg base "_law_mild" ["_law_told"] 2 sp_law_mild) (c__law_draw : Callee P w K mg base "_law_draw" ["_law_pot_here", "_law_many"] 1 sp_law_draw) : Callee P w K mg base "_law_parts" ["_law_pot_here", "_law_most_places", "_law_most_letters", "_law_most_pay"] 3 sp_law_parts := by
  refine d.okP sc_law_parts (fun _ _ _ _ _ _ us hl => match us, hl with | [_, _, _, _], _ => rfl) (fun _ _ => rfl) fun f cdv A outer s H E1 hr => ⟨_, (pss_cons (ps_set (i := 4) sc_law_parts.nd rfl (Or.inl rfl) (pe_op op_uAdd pe_int (pe_callC c__law_draw (hr.mono (by decide)) (by rfl) (pa_cons (pv 0) (pa_cons (pv 1) pa_nil)))))
  (pss_cons (ps_set (i := 5) sc_law_parts.nd rfl (Or.inl rfl) (pe_callC c__law_draw (hr.mono (by decide)) (by rfl) (pa_cons (pv 0) (pa_cons pe_int pa_nil))))
  (pss_cons (ps_set (i := 6) sc_law_parts.nd rfl (Or.inl rfl) (pe_lst pa_nil))
  (pss_cons (ps_for PassesOwn.never rfl (pi_range1 (by rfl) T.range (pa_cons (pv 4) pa_nil)) (pg_name (i := 7) sc_law_parts.nd rfl (Or.inl rfl))
  (pss_cons (ps_set (i := 8) sc_law_parts.nd rfl (Or.inl rfl) (pe_op op_uAdd pe_int (pe_callC c__law_draw (hr.mono (by decide)) (by rfl) (pa_cons (pv 0) (pa_cons (pv 2) pa_nil)))))
  (pss_cons (ps_set (i := 9) sc_law_parts.nd rfl (Or.inl rfl) (pe_callC c__law_draw (hr.mono (by decide)) (by rfl) (pa_cons (pv 0) (pa_cons pe_int pa_nil))))
  (pss_one (ps_for PassesOwn.never rfl (pi_range1 (by rfl) T.range (pa_cons (pv 8) pa_nil)) (pg_name (i := 10) sc_law_parts.nd rfl (Or.inl rfl))
  (pss_cons (ps_set (i := 11) sc_law_parts.nd rfl (Or.inl rfl) (pe_callC c__law_draw (hr.mono (by decide)) (by rfl) (pa_cons (pv 0) (pa_cons (pe_op op_uAdd (pv 3) pe_int) pa_nil))))
  (pss_cons (ps_if (pt_cmpR op_uGt (pv 5) pe_int (nomark _)) (pss_one (ps_set (i := 11) sc_law_parts.nd rfl (Or.inl rfl) (pe_callB (cr_maxUK K rfl rfl) (by rfl) T.max bo_max (pa_cons (pv 11) (pa_cons (pe_callB (cr_minUK K rfl rfl hr.units) (by rfl) T.min bo_min (pa_cons (pv 3) (pa_cons (pe_op op_uAdd (pv 8) (pe_callC c__law_draw (hr.mono (by decide)) (by rfl) (pa_cons (pv 0) (pa_cons pe_int pa_nil)))) pa_nil))) pa_nil))))) pss_nil)
  (pss_cons (ps_set (i := 12) sc_law_parts.nd rfl (Or.inl rfl) (pe_callC c__law_draw (hr.mono (by decide)) (by rfl) (pa_cons (pv 0) (pa_cons (pv 4) pa_nil))))
  (pss_cons (ps_if (pt_cmpR (op_uEqK K rfl hr.units) (pv 5) pe_int (nomark _)) (pss_one (ps_set (i := 12) sc_law_parts.nd rfl (Or.inl rfl) (pe_ix (ix_seqK K rfl) (pe_tup (pa_cons (pv 7) (pa_cons (pe_callB (cr_minUK K rfl rfl hr.units) (by rfl) T.min bo_min (pa_cons (pe_op op_uSub (pv 4) pe_int) (pa_cons (pe_op op_uAdd (pv 7) pe_int) pa_nil))) pa_nil))) (pe_callC c__law_draw (hr.mono (by decide)) (by rfl) (pa_cons (pv 0) (pa_cons pe_int pa_nil))) (fun _ _ => rfl)))) pss_nil)
  (pss_one (ps_expr (pe_bm PySem.F.plainAttrs_list PySem.F.slot_list_append PySem.F.type_list_append mt_append (pv 6) (pa_cons (pe_tup (pa_cons (pv 7) (pa_cons (pe_ix (ix_seqK K rfl) pe_str (pe_op op_uMod (pe_callTy call_int1 (by rfl) T.int bo_int (pa_cons (pe_op op_uAdd (pv 10) (pv 9)) pa_nil)) pe_int) (fun _ _ => rfl)) (pa_cons (pv 11) (pa_cons (pv 12) pa_nil))))) pa_nil)))))))))))))
  (pss_one (ps_ret (pe_callC c__law_mild (hr.mono (by decide)) (by rfl) (pa_cons (pe_tup (pa_cons (pv 4) (pa_cons (pe_callTy (call_tupK K rfl) (by rfl) T.tuple bo_tuple (pa_cons (pe_callB (cr_sortedK K rfl rfl hr.units2) (by rfl) T.sorted bo_sorted (pa_cons (pv 6) pa_nil)) pa_nil)) pa_nil))) pa_nil)))))))), fun _ p g z P0 H0 σ0 Q _ a q => ?_⟩
  have dr : ∀ {ρ : List (Option RP)} {μ : Me} {E₁ : XK} {tm : TE} {m : Int}, ρ[0]? = some (some (valR (.ref p))) → E (potW p g z) ρ μ tm (intR m) → 0 < m ∧ m < 1073741824 → E (potW p g z) ρ μ (tCall sp_law_draw [] E₁ (tCons (tVar 0) (tCons tm tNil))) (drawn m) := fun {ρ μ E₁ tm m} h0 e h => es_callP m (ea_cons (es_var h0) (ea_cons e ea_nil)) h
  (try dsimp only [tNext]); refine sq (q_setOne (Pr := fun i : Int => 0 ≤ i ∧ i < 4) (f := fun i => intR (1 + i)) a (es_op es_c (dr rfl (es_var (R := intR 4) rfl) ⟨by decide, by decide⟩) (o2_oneR fun i _ => o2_add)) (by show 4 < 13; decide) fun n0 ⟨l0, u0⟩ v1 P1 H1 a1 => ?_)
  obtain ⟨n, hn⟩ : ∃ n : Nat, 1 + n0 = (n : Int) := ⟨(1 + n0).toNat, by omega⟩
  rw [hn] at a1
  have n1 : 0 < n := by omega
  have n4 : n ≤ 4 := by omega
  (try dsimp only [tNext]); refine sq (q_setOne (Pr := fun i : Int => 0 ≤ i ∧ i < 4) (f := fun i => intR i) a1 (dr rfl es_c ⟨by decide, by decide⟩) (by show 5 < 13; decide) fun kind _ v2 P2 H2 a2 => ?_)
  (try dsimp only [tNext]); refine sq (q_newL (Rs := []) a2 ea_nil (by simp) fun pa σ3 P3 H3 a3 => ?_)
  let ρ0 : List (Option RP) := [some (valR (.ref p)), some (intR 4), some (intR 3), some (intR 5), some (intR ((n : Nat) : Int)), some (intR kind), some (valR (.ref pa)), none, none, none, none, none, none]
  (try dsimp only [tNext]); refine sq (q_for (as := List.range n) (RA := fun i => intR ((i : Nat) : Int)) (X := List WS.Arr) (fun i As => WS.Part n i 0 0 As) (fun _ _ => ρ0) (fun _ As => [(pa, .lst (As.map arrR))]) a3 (src_range0 (ea_cons (es_var rfl) ea_nil) (by omega)) (fun P' H' a' => ⟨[], WS.Part.nil n, a'⟩) (fun k x i hk _ => tg_name) (fun B i As i' σ P H hi hP a => ?_) fun As σ P H hP a => ?_)
  · have hi1 : i < n := by
      have := (List.getElem?_eq_some_iff.mp hi).1
      rwa [List.length_range] at this
    have hi2 : i' = i := by
      rw [List.getElem?_range hi1] at hi
      exact (Option.some.inj hi).symm
    subst hi2
    (try dsimp only [tNext]); refine sq (q_setOne (Pr := fun i : Int => 0 ≤ i ∧ i < 3) (f := fun i => intR (1 + i)) a (es_op es_c (dr rfl (es_var (R := intR 3) rfl) ⟨by decide, by decide⟩) (o2_oneR fun i _ => o2_add)) (by show 8 < 13; decide) fun m0 ⟨l1, u1⟩ v4 P4 H4 a4 => ?_)
    obtain ⟨m, hm⟩ : ∃ m : Nat, 1 + m0 = (m : Int) := ⟨(1 + m0).toNat, by omega⟩
    rw [hm] at a4
    (try dsimp only [tNext]); refine sq (q_setOne (Pr := fun i : Int => 0 ≤ i ∧ i < 3) (f := fun i => intR i) a4 (dr rfl es_c ⟨by decide, by decide⟩) (by show 9 < 13; decide) fun s0 ⟨l2, u2⟩ v5 P5 H5 a5 => ?_)
    obtain ⟨s, hs⟩ : ∃ s : Nat, s0 = (s : Int) := ⟨s0.toNat, by omega⟩
    rw [hs] at a5
    let ρ1 : List (Option RP) := [some (valR (.ref p)), some (intR 4), some (intR 3), some (intR 5), some (intR ((n : Nat) : Int)), some (intR kind), some (valR (.ref pa)), some (intR ((i' : Nat) : Int)), some (intR ((m : Nat) : Int)), some (intR ((s : Nat) : Int)), none, none, none]
    (try dsimp only [tNext]); refine q_for (as := List.range m) (RA := fun i => intR ((i : Nat) : Int)) (X := List WS.Arr) (fun k As => WS.Part n i' (97 + s + k) k As) (fun _ _ => ρ1) (fun _ As => [(pa, .lst (As.map arrR))]) a5 (src_range0 (ea_cons (es_var rfl) ea_nil) (by omega)) (fun P' H' a' => ⟨As, hP.up, a'⟩) (fun k x i hk _ => tg_name) (fun B2 k As k' σ P H hk hP a => ?_) fun As σ P H hP a => ⟨As, P, (by rw [List.length_range] at hP; exact hP.done (by omega) (by omega)), ((a.drop 7).drop 8).drop 9⟩
    have hk1 : k < m := by
      have := (List.getElem?_eq_some_iff.mp hk).1
      rwa [List.length_range] at this
    have hk2 : k' = k := by
      rw [List.getElem?_range hk1] at hk
      exact (Option.some.inj hk).symm
    subst hk2
    (try dsimp only [tNext]); refine sq (q_setOne (Pr := fun i : Int => 0 ≤ i ∧ i < 6) (f := fun i => intR i) a (dr rfl (es_eqI (j := 6) (es_op (es_var (R := intR 5) rfl) es_c o2_add) (by decide)) ⟨by decide, by decide⟩) (by show 11 < 13; decide) fun pay0 ⟨l3, u3⟩ v6 P6 H6 a6 => ?_)
    (try dsimp only [tNext]); refine sq (q_ifJ (b := decide (0 < kind)) (fun σ H => ∃ pay P, (0 ≤ pay ∧ pay ≤ 5) ∧ At _ [some (valR (.ref p)), some (intR 4), some (intR 3), some (intR 5), some (intR ((n : Nat) : Int)), some (intR kind), some (valR (.ref pa)), some (intR ((i' : Nat) : Int)), some (intR ((m : Nat) : Int)), some (intR ((s : Nat) : Int)), some (intR ((k' : Nat) : Int)), some (intR pay), none] [(pa, .lst (As.map arrR))] σ P H) a6 (et_test (es_op (es_var (R := intR kind) rfl) es_c o2_gt)) (fun nx jn _ P' H' a' => ?_) (fun nx jn _ P' H' a' => jn _ _ ⟨pay0, P', ⟨l3, by omega⟩, a'⟩) ?_)
    · (try dsimp only [tNext]); refine q_setOne (Pr := fun i : Int => 0 ≤ i ∧ i < 2) (f := fun i => intR (max pay0 (min 5 (((m : Nat) : Int) + i)))) a' (es_cb (ea_cons (es_var (R := intR pay0) rfl) (ea_cons (es_cb (ea_cons (es_var (R := intR 5) rfl) (ea_cons (es_op (es_var (R := intR ((m : Nat) : Int)) rfl) (dr rfl es_c ⟨by decide, by decide⟩) (o2_oneR fun i _ => o2_add)) ea_nil)) (oc_oneR fun i _ => oc_min2)) ea_nil)) (oc_oneR fun i _ => oc_max2)) (by show 11 < 13; decide) fun i ⟨l4, u4⟩ v P H a => jn _ _ ⟨_, P, ⟨?_, ?_⟩, a⟩
      · omega
      · omega
    rintro σ7 H7 ⟨pay, P7, hpay, a7⟩
    (try dsimp only [tNext]); refine sq (q_setOne (Pr := fun i : Int => 0 ≤ i ∧ i < ((n : Nat) : Int)) (f := fun i => intR i) a7 (dr rfl (es_var (R := intR ((n : Nat) : Int)) rfl) ⟨by omega, by omega⟩) (by show 12 < 13; decide) fun g0 ⟨l5, u5⟩ v8 P8 H8 a8 => ?_)
    (try dsimp only [tNext]); refine sq (q_ifJ (b := decide (kind = 3)) (fun σ H => ∃ (go : Nat) (P : Hp), go < n ∧ At _ [some (valR (.ref p)), some (intR 4), some (intR 3), some (intR 5), some (intR ((n : Nat) : Int)), some (intR kind), some (valR (.ref pa)), some (intR ((i' : Nat) : Int)), some (intR ((m : Nat) : Int)), some (intR ((s : Nat) : Int)), some (intR ((k' : Nat) : Int)), some (intR pay), some (intR ((go : Nat) : Int))] [(pa, .lst (As.map arrR))] σ P H) a8 (et_test (es_op (es_var (R := intR kind) rfl) es_c o2_eqI)) (fun nx jn _ P' H' a' => ?_) (fun nx jn _ P' H' a' => jn _ _ ⟨g0.toNat, P', by omega, a'.rs (by rw [Int.toNat_of_nonneg l5]; rfl)⟩) ?_)
    · (try dsimp only [tNext]); refine q_setOne (Pr := fun i : Int => 0 ≤ i ∧ i < 2) (f := fun i => intR (if i = 0 then ((i' : Nat) : Int) else min (((n : Nat) : Int) - 1) (((i' : Nat) : Int) + 1))) a' (es_op (es_tup (Rs := [intR ((i' : Nat) : Int), intR (min (((n : Nat) : Int) - 1) (((i' : Nat) : Int) + 1))]) (by walk_at "e") (by simp)) (dr rfl es_c ⟨by decide, by decide⟩) (o2_oneR fun i hi => o2_ixT hi.1 ?_)) (by show 12 < 13; decide) fun i ⟨l4, u4⟩ v P H a => jn _ _ ⟨(if i = 0 then ((i' : Nat) : Int) else min (((n : Nat) : Int) - 1) (((i' : Nat) : Int) + 1)).toNat, P, ?_, a.rs ?_⟩
      · have : i = 0 ∨ i = 1 := by omega
        rcases this with rfl | rfl <;> rfl
      · split <;> omega
      · rw [Int.toNat_of_nonneg (by split <;> omega)]
        rfl
    rintro σ9 H9 ⟨go, P9, hgo, a9⟩
    have hsk : s + k' ≤ 4 := by omega
    (try dsimp only [tNext]); refine q_app (i := 6) (j := 0) (R := arrR ⟨i', 97 + s + k', pay, go⟩) a9 rfl rfl (es_tup (ea_cons (es_var rfl) (ea_cons (es_op es_c (es_op (es_cb (ea_cons (es_op (es_var (R := intR ((k' : Nat) : Int)) rfl) (es_var (R := intR ((s : Nat) : Int)) rfl) o2_add) ea_nil) oc_int) es_c (o2_mod (by decide))) (o2_ixS (c := 97 + s + k') (by omega) (by decide) ?_)) (ea_cons (es_var rfl) (ea_cons (es_var rfl) ea_nil)))) (by simp)) ?_ fun P10 H10 a10 => ⟨_, P10, hP.add hsk hpay hgo, (((a10.drop 10).drop 11).drop 12).mo ?_⟩
    · have e : ((((k' : Nat) : Int) + ((s : Nat) : Int)) % 5).toNat = s + k' := by omega
      rw [e, abc_at hsk, Nat.add_assoc]
    · have := hP.len
      rw [List.length_map]
      omega
    · show [(pa, Mo.lst (_ ++ [_]))] = [(pa, Mo.lst (List.map arrR (_ ++ _)))]
      rw [List.map_append]
      rfl
  · rw [List.length_range] at hP
    have hS := hP.arrS n1 n4
    obtain ⟨P5, a5⟩ := a.freeze (j := 0) (i := 6) rfl rfl
    (try dsimp only [tNext]); refine q_endP (R := oneR (fun i : Nat × List WS.Arr => WS.ArrS i.1 i.2 ∧ i.1 ≤ 4) fun i => partsR i.1 i.2) a5 (es_is (es_call (n, As) (ea_cons (es_tup (ea_cons (es_var rfl) (ea_cons (es_cb (ea_cons (es_cb (ea_cons (es_var (R := lstR (As.map arrR)) rfl) ea_nil) (oc_sortD (ds := As.map dA) ?_ ?_ ?_ ?_ ?_)) ea_nil) oc_tupL) ea_nil)) (by simp)) ea_nil) (ArrS.pk hS)) fun v P' ⟨As', hA', r⟩ => ⟨(n, As'), ⟨?_, n4⟩, r⟩) (by exact q)
    · exact tells_map (f := arrR) (g := dA) tells_arr As
    · intro x hx y hy
      obtain ⟨a, _, rfl⟩ := List.mem_map.mp hx
      obtain ⟨b, _, rfl⟩ := List.mem_map.mp hy
      exact alike_arr a b
    · refine .inl fun x hx => ?_
      obtain ⟨a, _, rfl⟩ := List.mem_map.mp hx
      exact ⟨_, _, rfl⟩
    · intro x hx
      obtain ⟨a, _, rfl⟩ := List.mem_map.mp hx
      simp [PyData.depth, PyData.depthAll]
    · exact List.pairwise_map.mpr (hS.asc.imp fun {a b} h => (lt_arr h).2)
    · rcases hA' with rfl | rfl
      · exact hS
      · exact mild_ok hS
end
end Y
end
section
/-! The defs, part 16: places one behind another. -/
namespace WS
theorem rng_filter (p : Nat) : ∀ m : Nat, (List.range m).filter (fun i => decide (i = p)) = if p < m then [p] else []
  | 0 => rfl
  | m + 1 => by
    rw [List.range_succ, List.filter_append, rng_filter p m]
    by_cases c : m = p
    · subst c
      simp
    · by_cases d : p < m
      · rw [if_pos d, if_pos (by omega)]
        simp [c]
      · rw [if_neg d, if_neg (by omega)]
        simp [c]
def chainA (qs : List Int) (q : Int) : List Arr := (List.range qs.length).map (fun i => ⟨i, 97, qs.getD i 0, i + 1⟩) ++ [⟨qs.length, 98, q, qs.length⟩]
theorem outs_chain {qs : List Int} {q : Int} {p : Nat} : outs (chainA qs q) p = if p < qs.length then [⟨p, 97, qs.getD p 0, p + 1⟩] else if p = qs.length then [⟨qs.length, 98, q, qs.length⟩] else [] := by
  unfold chainA
  rw [outs_app, outs_one]
  have e : outs ((List.range qs.length).map fun i => (⟨i, 97, qs.getD i 0, i + 1⟩ : Arr)) p = ((List.range qs.length).filter fun i => decide (i = p)).map fun i => ⟨i, 97, qs.getD i 0, i + 1⟩ := by
    unfold outs
    rw [List.filter_map]
    rfl
  rw [e, rng_filter]
  by_cases c : p < qs.length
  · rw [if_pos c, if_pos c, if_neg (by dsimp only; omega)]
    rfl
  · rw [if_neg c, if_neg c]
    by_cases d : p = qs.length
    · rw [if_pos d, if_pos (by dsimp only; omega)]
      rfl
    · rw [if_neg d, if_neg (by dsimp only; omega)]
      rfl
theorem chain_arrS {qs : List Int} {q : Int} (h1 : qs.length ≤ 11) (h2 : ∀ x ∈ qs, 0 ≤ x ∧ x ≤ 9) (h3 : q = 0 ∨ q = 1) : ArrS (qs.length + 1) (chainA qs q) := by
  have hq : ∀ i, i < qs.length → 0 ≤ qs.getD i 0 ∧ qs.getD i 0 ≤ 9 := fun i hi => by
    rw [List.getD_eq_getElem?_getD, List.getElem?_eq_getElem hi]
    exact h2 _ (List.getElem_mem hi)
  refine ⟨⟨Nat.succ_pos _, by omega, fun a ha => ?_, fun p hp => ?_, fun p => ?_⟩, ?_, fun a ha => ?_, ?_⟩
  · rcases List.mem_append.mp ha with ha | ha
    · obtain ⟨i, hi, rfl⟩ := List.mem_map.mp ha
      have hi := List.mem_range.mp hi
      exact ⟨by dsimp only; omega, by dsimp only; omega, hq i hi⟩
    · rw [List.mem_singleton.mp ha]
      exact ⟨by dsimp only; omega, by dsimp only; omega, by dsimp only; omega, by dsimp only; omega⟩
  · rw [outs_chain]
    split
    · exact fun z => by cases z
    · rw [if_pos (by omega)]
      exact fun z => by cases z
  · rw [outs_chain]
    split
    · exact (by decide : 1 ≤ 3)
    · split
      · exact (by decide : 1 ≤ 3)
      · exact Nat.zero_le _
  · unfold chainA
    rw [List.length_append, List.length_map, List.length_range]
    show _ + 1 ≤ _
    omega
  · rcases List.mem_append.mp ha with ha | ha
    · obtain ⟨i, hi, rfl⟩ := List.mem_map.mp ha
      exact ⟨Nat.le_refl _, (by decide : 97 ≤ 101)⟩
    · rw [List.mem_singleton.mp ha]
      exact ⟨(by decide : 97 ≤ 98), (by decide : 98 ≤ 101)⟩
  · refine List.pairwise_append.mpr ⟨List.pairwise_map.mpr (List.pairwise_lt_range.imp fun {a b} h => .inl h), List.pairwise_singleton _ _, fun a ha b hb => ?_⟩
    obtain ⟨i, hi, rfl⟩ := List.mem_map.mp ha
    rw [List.mem_singleton.mp hb]
    exact .inl (List.mem_range.mp hi)
theorem chain_is {qs : List Int} {q : Int} (h2 : ∀ x ∈ qs, 0 ≤ x ∧ x ≤ 9) (h3 : q = 0 ∨ q = 1) : Chain (netOf (qs.length + 1) (chainA qs q)) qs q := by
  refine ⟨netOf_len _ _, fun i p h => ?_, ?_, h2, h3⟩
  · obtain ⟨hi, e⟩ := List.getElem?_eq_some_iff.mp h
    rw [st_netOf (by omega), outs_chain, if_pos hi, List.getD_eq_getElem?_getD, h]
    rfl
  · rw [st_netOf (by omega), outs_chain, if_neg (by omega), if_pos rfl]
    rfl
end WS
namespace Y
open PySem PySem.Spec L2
open PyProof.Rows (envOfC)
local macro_rules | `(tactic| walk_at "e") => `(tactic| repeat (first
  | exact es_c | exact es_var rfl | exact ea_nil | exact et_yes | with_reducible apply ea_cons | with_reducible apply es_op | with_reducible apply es_cb | with_reducible apply es_un | with_reducible apply es_tup | with_reducible apply es_lst | exact Nat.le_of_ble_eq_true rfl
  | with_reducible apply es_chain | with_reducible apply et_test | with_reducible apply et_B | with_reducible apply et_not | with_reducible apply es_notV
  | exact o2_add | exact o2_sub | exact o2_lt | exact o2_le | exact o2_gt | exact o2_ge | exact o2_eqI | exact o2_neI | exact o1_neg | exact o2_is | exact o2_isnot | exact o2_inDI | exact o2_ninDI | exact o2_inNL | exact o2_inNT | exact o2_ninNL | exact o2_ninNT | exact o2_inL | exact o2_inT | exact o2_ninL | exact o2_ninT | exact o2_eqT | exact o2_eqL
  | exact oc_lenL | exact oc_lenT | exact oc_lenD | exact oc_sumL | exact oc_sumT' | exact oc_max2 | exact oc_min2 | exact oc_sortI | exact oc_tupL | exact oc_int | exact oc_intB | exact oc_abs | exact oc_any | exact oc_all
  | exact o2_div (by constructor <;> omega) | exact o2_mod (by omega) | exact o2_mulT (by first | (left; constructor <;> omega) | (right; constructor <;> omega)) | exact o2_ixL (by omega) rfl | exact o2_ixT (by omega) rfl))
abbrev s_law_chain_right : Stmt := top 78
abbrev n_law_chain_right : List Str := ["_law_pot_here", "_law_pays", "_law_arrows", "_law_track", "_law_coins", "_law_due", "_law_pay", "_law_place"]
theorem sc_law_chain_right : FnScope n_law_chain_right ["_law_pot_here"] (defScope s_law_chain_right) := ⟨rfl, rfl, rfl, by decide +kernel, rfl, by decide +kernel, by decide +kernel⟩
theorem q_lcRng {c : Cq} {ρ : List (Option RP)} {μ : Me} {σ : St} {P H : Hp} {D : Ends} {te tk : TE} {g gg : TG} {tt : TT} {vs : List Nat} {R : RP} (a : At c ρ μ σ P H) (e : E c.W ρ μ te R) (k : ∀ v P' H', At c ρ μ σ P' H' → R.r v P' → tAsg (tLc (iRng1 (tCons (tC v) tNil)) g tt tk vs) gg D σ H') : tAsg (tLc (iRng1 (tCons te tNil)) g tt tk vs) gg D σ H :=
  a.e e fun v P' H' a' r => k v P' H' a' r
theorem reps_pick {α β : Type} {Pr : β → Prop} {f : β → RP} {H : Hp} : ∀ {l : List α} {ys : List V}, Reps (l.map fun _ => oneR Pr f) ys H → ∃ xs : List β, xs.length = l.length ∧ (∀ x ∈ xs, Pr x) ∧ Reps (xs.map f) ys H
  | [], _, .nil => ⟨[], rfl, fun x h => absurd h List.not_mem_nil, .nil⟩
  | _ :: l, _, .cons ⟨x, hx, r⟩ t => by
    obtain ⟨xs, h1, h2, h3⟩ := reps_pick (l := l) t
    exact ⟨x :: xs, by rw [List.length_cons, h1, List.length_cons], fun y hy => (List.mem_cons.mp hy).elim (fun e => e ▸ hx) (h2 y), .cons r h3⟩
theorem str_a : ("a" : Str) = ⟨#[97]⟩ := by decide +kernel
theorem str_b : ("b" : Str) = ⟨#[98]⟩ := by decide +kernel
theorem prodL_take (qs : List Int) (c : Int) : (qs.take qs.length).foldl (fun d p => d * max 1 p) c = c * WS.prodL qs := by
  rw [List.take_length, WS.due_eq]
section
variable {P : Program} {w : World} {K : PySem.W.Frag} {mg : Str → Option Value} {base : Heap} {C fI : Addr} {fdI : FuncData}
abbrev sp_law_chain_right : Sp := spPot (fun _ : Unit => True) (fun _ => []) (fun _ => blR true)
theorem ok__law_chain_right (T : Txt K mg) (d : DefAt K mg "_law_chain_right" s_law_chain_right) (mk : Mk K C fI) (Fi : FnOk P w K mg base CX0 5 fI fdI ["self", "places", "arrows"] (sp_keep C)) (gT : mg "Track" = some (.ref C)) (bI : Binds K fdI ["self", "places", "arrows"] [])
    (c__law_peak : Callee P w K mg base "_law_peak" ["_law_track", "_law_place", "_law_coins"] 13 (sp_law_peak C)) (c__law_draw : Callee P w K mg base "_law_draw" ["_law_pot_here", "_law_many"] 1 sp_law_draw) : Callee P w K mg base "_law_chain_right" ["_law_pot_here"] 14 sp_law_chain_right := by
  refine d.okP sc_law_chain_right (fun _ _ _ _ _ _ us hl => match us, hl with | [_], _ => rfl) (fun _ _ => rfl) fun f cdv A outer s H E1 hr => ⟨_, (pss_cons (ps_set (i := 1) sc_law_chain_right.nd rfl (Or.inr rfl) (pe_lc (own := [("_law_place", 7)]) (by rfl) sc_law_chain_right.nd (pi_range1 (by rfl) T.range (pa_cons (pe_op op_uAdd pe_int (pe_callC c__law_draw (hr.mono (by decide)) (by rfl) (pa_cons (pv 0) (pa_cons pe_int pa_nil)))) pa_nil)) (blkOk_by (own := [("_law_place", 7)]) (N := n_law_chain_right) (sc := defScope s_law_chain_right) (by decide +kernel)) (fun _ _ _ _ _ => (pg_name (i := 7) sc_law_chain_right.nd rfl (Or.inl rfl))) (fun _ _ _ _ _ => pts_nil) (fun _ _ _ _ _ => (pe_callC c__law_draw (hr.mono (by decide)) (by rfl) (pa_cons (pv 0) (pa_cons pe_int pa_nil))))))
  (pss_cons (ps_set (i := 2) sc_law_chain_right.nd rfl (Or.inl rfl) (pe_op op_uAdd (pe_lc (own := [("_law_place", 7)]) (by rfl) sc_law_chain_right.nd (pi_range1 (by rfl) T.range (pa_cons (pe_callB (cr_lenK K rfl) (by rfl) T.len bo_len (pa_cons (pv 1) pa_nil)) pa_nil)) (blkOk_by (own := [("_law_place", 7)]) (N := n_law_chain_right) (sc := defScope s_law_chain_right) (by decide +kernel)) (fun _ _ _ _ _ => (pg_name (i := 7) sc_law_chain_right.nd rfl (Or.inl rfl))) (fun _ _ _ _ _ => pts_nil) (fun _ _ _ _ _ => (pe_tup (pa_cons (pv 7) (pa_cons pe_str (pa_cons (pe_ix (ix_seqK K rfl) (pv 1) (pv 7) (fun _ _ => rfl)) (pa_cons (pe_op op_uAdd (pv 7) pe_int) pa_nil))))))) (pe_lst (pa_cons (pe_tup (pa_cons (pe_callB (cr_lenK K rfl) (by rfl) T.len bo_len (pa_cons (pv 1) pa_nil)) (pa_cons pe_str (pa_cons (pe_callC c__law_draw (hr.mono (by decide)) (by rfl) (pa_cons (pv 0) (pa_cons pe_int pa_nil))) (pa_cons (pe_callB (cr_lenK K rfl) (by rfl) T.len bo_len (pa_cons (pv 1) pa_nil)) pa_nil))))) pa_nil))))
  (pss_cons (ps_set (i := 3) sc_law_chain_right.nd rfl (Or.inl rfl) (pe_make mk Fi (hr.mono (by decide)) (by rfl) gT bI .nil pass0 (pa_cons (pe_op op_uAdd (pe_callB (cr_lenK K rfl) (by rfl) T.len bo_len (pa_cons (pv 1) pa_nil)) pe_int) (pa_cons (pe_callTy (call_tupK K rfl) (by rfl) T.tuple bo_tuple (pa_cons (pv 2) pa_nil)) pa_nil))))
  (pss_cons (ps_set (i := 4) sc_law_chain_right.nd rfl (Or.inl rfl) (pe_callC c__law_draw (hr.mono (by decide)) (by rfl) (pa_cons (pv 0) (pa_cons pe_int pa_nil))))
  (pss_cons (ps_set (i := 5) sc_law_chain_right.nd rfl (Or.inl rfl) (pv 4))
  (pss_cons (ps_for PassesOwn.never rfl (pi_listK K rfl (pv 1)) (pg_name (i := 6) sc_law_chain_right.nd rfl (Or.inl rfl))
  (pss_one (ps_set (i := 5) sc_law_chain_right.nd rfl (Or.inl rfl) (pe_op (op_uMulTK K rfl) (pv 5) (pe_callB (cr_maxUK K rfl rfl) (by rfl) T.max bo_max (pa_cons pe_int (pa_cons (pv 6) pa_nil)))))))
  (pss_one (ps_ret (pe_cmpR (op_uEqK K rfl hr.units) (pe_callC c__law_peak (hr.mono (by decide)) (by rfl) (pa_cons (pv 3) (pa_cons pe_int (pa_cons (pv 4) pa_nil)))) (pe_ifExp (pt_cmpR op_uLe (pv 5) pe_int (nomark _)) (pv 5) (pe_tup (pa_cons pe_str (pa_cons pe_int pa_nil)))) (nomark _)))))))))), fun _ p g z P0 H0 σ0 Q _ a q => ?_⟩
  have dr : ∀ {ρ : List (Option RP)} {μ : Me} {E₁ : XK} {tm : TE} {m : Int}, ρ[0]? = some (some (valR (.ref p))) → E (potW p g z) ρ μ tm (intR m) → 0 < m ∧ m < 1073741824 → E (potW p g z) ρ μ (tCall sp_law_draw [] E₁ (tCons (tVar 0) (tCons tm tNil))) (drawn m) := fun {ρ μ E₁ tm m} h0 e h => es_callP m (ea_cons (es_var h0) (ea_cons e ea_nil)) h
  (try dsimp only [tNext]); refine sq (q_lcRng (R := oneR (fun i : Int => 0 ≤ i ∧ i < 6) fun i => intR (1 + i)) a (es_op es_c (dr rfl es_c ⟨by decide, by decide⟩) (o2_oneR fun i _ => o2_add)) fun v1 P1 H1 a1 ⟨i0, ⟨l0, u0⟩, r1⟩ => ?_)
  have r1 : v1 = .int (1 + i0) := r1
  subst r1
  obtain ⟨m, hm⟩ : ∃ m : Nat, 1 + i0 = (m : Int) := ⟨(1 + i0).toNat, by omega⟩
  rw [hm]
  (try dsimp only [tNext]); refine q_setOne (Pr := fun qs : List Int => qs.length = m ∧ ∀ x ∈ qs, 0 ≤ x ∧ x < 5) (f := fun qs => lstR (qs.map fun x => intR x)) a1 (es_is (es_lc0 (as := List.range m) (RA := fun i => intR ((i : Nat) : Int)) (RB := fun _ => drawn 5) (src_range0 (ea_cons es_c ea_nil) (by omega)) (fun _ _ => tg_name) (by decide) (fun _ _ => dr rfl es_c ⟨by decide, by decide⟩) (by rw [List.length_range]; omega)) fun v P ⟨b, ys, e, hb, r⟩ => ?_) (by show 1 < 8; decide) fun qs ⟨hq1, hq2⟩ v2 P2 H2 a2 => ?_
  · obtain ⟨xs, h1, h2, h3⟩ := reps_pick r
    exact ⟨xs, ⟨by rw [h1, List.length_range], h2⟩, b, ys, e, hb, h3⟩
  have hl : qs.length = m := hq1
  subst hl
  have hqs : ∀ x ∈ qs, 0 ≤ x ∧ x ≤ 9 := fun x hx => by have := hq2 x hx; omega
  have q6 : qs.length ≤ 6 := by omega
  have qat : ∀ i, i < qs.length → (qs.map fun x => intR x)[(((i : Nat) : Int)).toNat]? = some (intR (qs.getD i 0)) := fun i hi => by
    rw [Int.toNat_natCast, List.getElem?_map, List.getD_eq_getElem?_getD, List.getElem?_eq_getElem hi]
    rfl
  have lenE : ∀ {W : Wd} {ρ : List (Option RP)} {μ : Me}, ρ[1]? = some (some (lstR (qs.map fun x => intR x))) → E W ρ μ (tCB (cLen K) (tCons (tVar 1) tNil)) (intR ((qs.length : Nat) : Int)) := fun {W ρ μ} h => es_eqI (es_cb (ea_cons (es_var h) ea_nil) oc_lenL) (by rw [List.length_map])
  (try dsimp only [tNext]); refine sq (q_setOne (Pr := fun i : Int => 0 ≤ i ∧ i < 2) (f := fun q => lstR ((WS.chainA qs q).map arrR)) a2 (es_is (es_op (es_lc0 (as := List.range qs.length) (RA := fun i => intR ((i : Nat) : Int)) (RB := fun i => arrR ⟨i, 97, qs.getD i 0, i + 1⟩) (src_range0 (ea_cons (lenE rfl) ea_nil) (by omega)) (fun _ _ => tg_name) (by decide)
      (fun i hi => es_tup (ea_cons (es_var rfl) (ea_cons (es_eq es_c (by rw [str_a])) (ea_cons (es_op (es_var (R := lstR (qs.map fun x => intR x)) rfl) (es_var (R := intR ((i : Nat) : Int)) rfl) (o2_ixL (by omega) (qat i (List.mem_range.mp hi)))) (ea_cons (es_eqI (es_op (es_var (R := intR ((i : Nat) : Int)) rfl) es_c o2_add) (by dsimp only; omega)) ea_nil)))) (by simp)) (by rw [List.length_range]; omega))
      (es_is (R := oneR (fun i : Int => 0 ≤ i ∧ i < 2) fun q => lstR [arrR ⟨qs.length, 98, q, qs.length⟩]) (es_lst (ea_cons (es_tup (ea_cons (lenE rfl) (ea_cons (es_eq es_c (by rw [str_b])) (ea_cons (dr rfl es_c ⟨by decide, by decide⟩) (ea_cons (lenE rfl) ea_nil)))) (by simp)) ea_nil) (by simp)) fun v P h => ?_) (o2_oneR (g := fun q => lstR ((WS.chainA qs q).map arrR)) fun q _ => ?_)) fun v P h => h) (by show 2 < 8; decide) fun q0 ⟨l2, u2⟩ v3 P3 H3 a3 => ?_)
  · obtain ⟨b, ys, e, hb, r⟩ := h
    cases r with
    | cons r rr =>
      cases rr
      obtain ⟨b2, zs, e2, hb2, r⟩ := r
      cases r with
      | cons s1 r =>
        cases r with
        | cons s2 r =>
          cases r with
          | cons s3 r =>
            obtain ⟨q, hq, s3⟩ := s3
            exact ⟨q, hq, b, _, e, hb, .cons ⟨b2, _, e2, hb2, .cons s1 (.cons s2 (.cons s3 r))⟩ .nil⟩
  · have h := o2_cat (W := potW p g z) (μ := []) (Rs := (List.range qs.length).map fun i => arrR ⟨i, 97, qs.getD i 0, i + 1⟩) (Ss := [arrR ⟨qs.length, 98, q, qs.length⟩]) (by simp only [List.length_map, List.length_range, List.length_cons, List.length_nil]; omega)
    have e : (WS.chainA qs q).map arrR = (List.range qs.length).map (fun i => arrR ⟨i, 97, qs.getD i 0, i + 1⟩) ++ [arrR ⟨qs.length, 98, q, qs.length⟩] := by
      unfold WS.chainA
      rw [List.map_append, List.map_map]
      rfl
    rw [e]
    exact h
  have hq01 : q0 = 0 ∨ q0 = 1 := by omega
  have hS := WS.chain_arrS (q := q0) (by omega) hqs hq01
  have hC := WS.chain_is (q := q0) hqs hq01
  have hP := ArrS.pk hS
  (try dsimp only [tNext]); refine sq (q_set (R := trackR C (WS.netOf (qs.length + 1) (WS.chainA qs q0))) a3 (es_make (ok := fun i : Nat × List WS.Arr => WS.ArrS i.1 i.2) (res := fun i => trackR C (WS.netOf i.1 i.2)) (qs.length + 1, WS.chainA qs q0) (ea_cons (es_eqI (es_op (lenE rfl) es_c o2_add) (by dsimp only; omega)) (ea_cons (es_cb (ea_cons (es_var rfl) ea_nil) oc_tupL) ea_nil)) hS) fun v4 P4 H4 a4 => ?_)
  (try dsimp only [tNext]); refine sq (q_setOne (Pr := fun i : Int => 0 ≤ i ∧ i < 30) (f := fun i => intR i) a4 (dr rfl es_c ⟨by decide, by decide⟩) (by show 4 < 8; decide) fun c ⟨l5, u5⟩ v5 P5 H5 a5 => ?_)
  (try dsimp only [tNext]); refine sq (q_set (R := intR c) a5 (es_var rfl) fun v6 P6 H6 a6 => ?_)
  (try dsimp only [tNext]); refine sq (q_for (as := qs) (RA := fun x => intR x) (X := Unit) (fun _ _ => True) (fun k _ => [some (valR (.ref p)), some (lstR (qs.map fun x => intR x)), some (lstR ((WS.chainA qs q0).map arrR)), some (trackR C (WS.netOf (qs.length + 1) (WS.chainA qs q0))), some (intR c), some (intR ((qs.take k).foldl (fun d p => d * max 1 p) c)), none, none]) (fun _ _ => []) a6 (src_list (es_var (R := lstR (qs.map fun x => intR x)) rfl)) (fun P' H' a' => ⟨(), trivial, a'⟩) (fun k x i hk _ => tg_name) (fun B k x y σ P H hk _ a => ?_) fun x σ P H _ a => ?_)
  · have hy := hq2 y (List.mem_of_getElem? hk)
    (try dsimp only [tNext]); refine q_set (R := intR (((qs.take k).foldl (fun d p => d * max 1 p) c) * max 1 y)) a (es_op (es_var rfl) (es_cb (ea_cons es_c (ea_cons (es_var (R := intR y) rfl) ea_nil)) oc_max2) (o2_mulT (.inr ⟨by omega, by omega⟩))) fun v7 P7 H7 a7 => ⟨(), P7, trivial, (a7.drop 6).rs ?_⟩
    have e : (qs.take (k + 1)).foldl (fun d p => d * max 1 p) c = ((qs.take k).foldl (fun d p => d * max 1 p) c) * max 1 y := by
      rw [List.take_add_one, hk, List.foldl_append]
      rfl
    dsimp only
    rw [e]
    rfl
  let N := WS.netOf (qs.length + 1) (WS.chainA qs q0)
  let due := c * WS.prodL qs
  have a : At _ [some (valR (.ref p)), some (lstR (qs.map fun x => intR x)), some (lstR ((WS.chainA qs q0).map arrR)), some (trackR C N), some (intR c), some (intR due), none, none] [] σ P H := a.rs (by rw [prodL_take])
  have hh : WS.hope N = [] := hC.hope
  have hnq : ¬ quiet N 0 c := fun h => by have := h.1; rw [hh] at this; cases this
  have hok : NW N ∧ (WS.hope N).length ≤ 4 ∧ 0 < N.length ∧ 0 ≤ c := ⟨hP.nw, by rw [hh]; exact Nat.zero_le _, by show 0 < (WS.netOf _ _).length; rw [WS.netOf_len]; omega, l5⟩
  have hpos := WS.prodL_pos qs
  have hdue : c ≤ due := by
    have : c * 1 ≤ c * WS.prodL qs := Int.mul_le_mul_of_nonneg_left hpos l5
    omega
  have hsure : ∀ G : Int, 0 ≤ G → (WS.Sure N 0 c G ↔ G ≤ due) := fun G h => hC.sure h l5
  have pk : ∀ {ρ : List (Option RP)} {E₁ : XK}, ρ[3]? = some (some (trackR C N)) → ρ[4]? = some (some (intR c)) → E (potW p g z) ρ [] (tCall (sp_law_peak C) [] E₁ (tCons (tVar 3) (tCons (tC (.int 0)) (tCons (tVar 4) tNil)))) (tellR N 0 c) := fun {ρ E₁} h3 h4 => es_call (N, 0, c) (ea_cons (es_var h3) (ea_cons es_c (ea_cons (es_var h4) ea_nil))) hok
  by_cases hd : due ≤ 1000
  · have hnm : ¬ manyP N 0 c := fun h => h.2.elim (fun z => by omega) fun z => by have := (hsure 1001 (by decide)).mp z; omega
    (try dsimp only [tNext]); refine q_endP a (es_eqB (es_op (Ra := intR due) (es_is (pk rfl rfl) fun v P r => ?_) (es_if (b := true) (et_eq (et_test (es_op (es_var (R := intR due) rfl) es_c o2_le)) (decide_eq_true hd)) (fun _ => es_var (R := intR due) rfl) (fun z => by cases z)) o2_eqI) (j := true) (by simp)) (by exact q)
    rw [tellR_no hnm, pkR_no hnq] at r
    obtain ⟨g, hg, r⟩ := r
    have e1 := (hsure g (by have := hg.lo; omega)).mp hg.yes
    have e2 : ¬ (g + 1 ≤ due) := fun z => hg.no ((hsure (g + 1) (by have := hg.lo; omega)).mpr z)
    have e : g = due := by omega
    rw [← e]
    exact r
  · have hm : manyP N 0 c := ⟨hnq, .inr ((hsure 1001 (by decide)).mpr (by omega))⟩
    (try dsimp only [tNext]); refine q_endP a (es_eqB (es_op (Ra := tupR [valR (.str "many"), intR 1000]) (es_eq (pk rfl rfl) (tellR_many hm)) (es_if (b := false) (et_eq (et_test (es_op (es_var (R := intR due) rfl) es_c o2_le)) (decide_eq_false hd)) (fun z => by cases z) (fun _ => es_tup (ea_cons es_c (ea_cons es_c ea_nil)) (by simp))) (o2_eqD tells_many tells_many (by decide +kernel) (by decide +kernel))) (j := true) (by decide +kernel)) (by exact q)
end
end Y
end
section
/-! The defs, part 17: the law. -/
namespace WS
open Classical in
theorem least_ex {N : Net} (ok : NetOk N) {H : List Nat} (cl : ∀ p ∈ H, ∀ s ∈ st N p, s.2 ∈ H) {d : Nat → Int} (hd : Tab N H d) : ∀ (k : Nat) (c : Nat → Int), Low N H c → gap H d c ≤ k → ∃ c', Least N H c' := by
  intro k
  induction k with
  | zero =>
    intro c L h
    by_cases e : ∀ p ∈ H, Gain N H c p
    · exact ⟨c, e, L.le⟩
    · exfalso
      obtain ⟨p, hp⟩ := Classical.not_forall.mp e
      have hp2 := Classical.not_imp.mp hp
      have hT : ∀ q ∈ H.filter (fun q => decide (¬ Gain N H c q)), q ∈ H := fun q hq => (List.mem_filter.mp hq).1
      have S : Stays N H c (H.filter fun q => decide (¬ Gain N H c q)) 0 := fun q hq g => (of_decide_eq_true (List.mem_filter.mp hq).2) ((gain_congr ok cl (fun r _ => by unfold raise; split <;> omega) q).mp g)
      have nx := low_next ok cl L hT (Int.le_refl 0) S
      have pT : p ∈ H.filter fun q => decide (¬ Gain N H c q) := List.mem_filter.mpr ⟨hp2.1, decide_eq_true hp2.2⟩
      have := gap_less (H := H) (d := d) (c := c) (c' := raise c (H.filter fun q => decide (¬ Gain N H c q)) (0 + 1)) (fun q _ => by unfold raise; split <;> omega) hp2.1 (by rw [raise_in pT]; omega) (nx.le d hd p hp2.1)
      omega
  | succ k ih =>
    intro c L h
    by_cases e : ∀ p ∈ H, Gain N H c p
    · exact ⟨c, e, L.le⟩
    · obtain ⟨p, hp⟩ := Classical.not_forall.mp e
      have hp2 := Classical.not_imp.mp hp
      have hT : ∀ q ∈ H.filter (fun q => decide (¬ Gain N H c q)), q ∈ H := fun q hq => (List.mem_filter.mp hq).1
      have S : Stays N H c (H.filter fun q => decide (¬ Gain N H c q)) 0 := fun q hq g => (of_decide_eq_true (List.mem_filter.mp hq).2) ((gain_congr ok cl (fun r _ => by unfold raise; split <;> omega) q).mp g)
      have nx := low_next ok cl L hT (Int.le_refl 0) S
      have pT : p ∈ H.filter fun q => decide (¬ Gain N H c q) := List.mem_filter.mpr ⟨hp2.1, decide_eq_true hp2.2⟩
      have := gap_less (H := H) (d := d) (c := c) (c' := raise c (H.filter fun q => decide (¬ Gain N H c q)) (0 + 1)) (fun q _ => by unfold raise; split <;> omega) hp2.1 (by rw [raise_in pT]; omega) (nx.le d hd p hp2.1)
      exact ih _ nx (by omega)
end WS
namespace Y
open PySem PySem.Spec L2
open PyProof.Rows (envOfC)
local macro_rules | `(tactic| walk_at "e") => `(tactic| repeat (first
  | exact es_c | exact es_var rfl | exact ea_nil | exact et_yes | with_reducible apply ea_cons | with_reducible apply es_op | with_reducible apply es_cb | with_reducible apply es_un | with_reducible apply es_tup | with_reducible apply es_lst | exact Nat.le_of_ble_eq_true rfl
  | with_reducible apply es_chain | with_reducible apply et_test | with_reducible apply et_B | with_reducible apply et_not | with_reducible apply es_notV
  | exact o2_add | exact o2_sub | exact o2_lt | exact o2_le | exact o2_gt | exact o2_ge | exact o2_eqI | exact o2_neI | exact o1_neg | exact o2_is | exact o2_isnot | exact o2_inDI | exact o2_ninDI | exact o2_inNL | exact o2_inNT | exact o2_ninNL | exact o2_ninNT | exact o2_inL | exact o2_inT | exact o2_ninL | exact o2_ninT | exact o2_eqT | exact o2_eqL
  | exact oc_lenL | exact oc_lenT | exact oc_lenD | exact oc_sumL | exact oc_sumT' | exact oc_max2 | exact oc_min2 | exact oc_sortI | exact oc_tupL | exact oc_int | exact oc_intB | exact oc_abs | exact oc_any | exact oc_all
  | exact o2_div (by constructor <;> omega) | exact o2_mod (by omega) | exact o2_mulT (by first | (left; constructor <;> omega) | (right; constructor <;> omega)) | exact o2_ixL (by omega) rfl | exact o2_ixT (by omega) rfl))
abbrev s_law : Stmt := top 79
abbrev n_law : List Str := ["_law_script", "_law_pot_here", "_law_turn", "_law_parts_here", "_law_track", "_law_place", "_law_coins", "_law_least", "_law_told", "_law_more"]
theorem sc_law : FnScope n_law ["_law_script"] (defScope s_law) := ⟨rfl, rfl, rfl, by decide +kernel, rfl, by decide +kernel, by decide +kernel⟩
theorem quiet_sure {N : WS.Net} (hn : NW N) {p : Nat} {c G : Int} (h : quiet N p c) (h0 : 0 ≤ G) : WS.Sure N p c G := by
  obtain ⟨d, _, hd⟩ := WS.hope_table hn.ok hn.three
  have hH := WS.hope_hs hn.ok
  have L := WS.leastC_is (WS.least_ex hn.ok hH.cl hd _ (fun _ => 0) ⟨fun _ _ => Int.le_refl _, fun b hb p hp => WS.tab_nonneg hn.ok hb p hp⟩ (Nat.le_refl _))
  exact (WS.grows hn.ok hH.lt hH.cl L.tab h0 p h.1).coins h.2
theorem tell_quiet {N : WS.Net} {p : Nat} {c : Int} (h : quiet N p c) : tellR N p c = nonR := by rw [tellR_no fun z => z.1 h, pkR_yes h]
theorem tell_peak {N : WS.Net} {p : Nat} {c : Int} (h : ¬ quiet N p c) (h2 : ¬ manyP N p c) : tellR N p c = oneR (WS.Peak N p c) fun g => intR g := by rw [tellR_no h2, pkR_no h]
theorem hope_few {N : WS.Net} (hn : NW N) (h : N.length ≤ 4) : (WS.hope N).length ≤ 4 := by
  have hH := WS.hope_hs hn.ok
  have := WS.nodup_few hH.nod hH.lt
  omega
section
variable {W : Wd} {ρ : List (Option RP)} {μ : Me} {K : PySem.W.Frag} {te : TE} {Rs : List RP}
theorem o2_isnotI {i : Int} : O2 W μ uIsNot (intR i) nonR (blR true) := fun P H v w k r1 r2 Q q => by
  have e1 : v = .int i := r1
  have e2 : w = .non := r2
  subst e1 e2
  exact ⟨rfl, q _ P H (Stp.refl k.le) rfl⟩
/-- is it None -/
theorem es_told {N : WS.Net} {p : Nat} {c : Int} (a : E W ρ μ te (tellR N p c)) : E W ρ μ (tOp uIs te (tC .non)) (blR (@decide (quiet N p c) (Classical.propDecidable _))) := by
  by_cases h : quiet N p c
  · rw [tell_quiet h] at a
    exact es_eqB (es_op a es_c o2_is) (by rw [@decide_eq_true _ (Classical.propDecidable _) h]; decide)
  · rw [@decide_eq_false _ (Classical.propDecidable _) h]
    by_cases h2 : manyP N p c
    · rw [tellR_many h2] at a
      exact es_op a es_c o2_isT
    · rw [tell_peak h h2] at a
      exact es_is (es_op a es_c (o2_one (g := fun _ => blR false) fun g _ => o2_isI)) fun v P ⟨_, _, r⟩ => r
theorem es_toldN {N : WS.Net} {p : Nat} {c : Int} (a : E W ρ μ te (tellR N p c)) : E W ρ μ (tOp uIsNot te (tC .non)) (blR (!@decide (quiet N p c) (Classical.propDecidable _))) := by
  by_cases h : quiet N p c
  · rw [tell_quiet h] at a
    exact es_eqB (es_op a es_c o2_isnot) (by rw [@decide_eq_true _ (Classical.propDecidable _) h]; decide)
  · rw [@decide_eq_false _ (Classical.propDecidable _) h]
    by_cases h2 : manyP N p c
    · rw [tellR_many h2] at a
      exact es_op a es_c o2_isnotT
    · rw [tell_peak h h2] at a
      exact es_is (es_op a es_c (o2_one (g := fun _ => blR true) fun g _ => o2_isnotI)) fun v P ⟨_, _, r⟩ => r
theorem et_pick {α : Type} {Pr : α → Prop} {f : α → RP} {tt : TT} {b : Bool} {i : Nat} (h : ρ[i]? = some (some (oneR Pr f))) (k : ∀ x, Pr x → T W (ρ.set i (some (f x))) μ tt b) : T W ρ μ tt b := fun σ P H ok Q q => by
  obtain ⟨v, hv, x, hx, r⟩ := ok.sat i _ h
  have li : i < ρ.length := (List.getElem?_eq_some_iff.mp h).1
  refine k x hx σ P H ⟨ok.hx, fun j S e => ?_, by rw [List.length_set]; exact ok.len⟩ Q q
  by_cases z : i = j
  · subst z
    rw [List.getElem?_set_self li] at e
    cases (Option.some.inj (Option.some.inj e))
    exact ⟨v, hv, r⟩
  · rw [List.getElem?_set_ne z] at e
    exact ok.sat j S e
abbrev isi (K : PySem.W.Frag) (i : Nat) : TE := tCB (rIsi K) (tCons (tVar i) (tCons (tC (.ty "int")) tNil))
/-- who has more coins has no less -/
theorem et_more {N : WS.Net} {pl : Nat} {c : Int} (hn : NW N) (h8 : ρ[8]? = some (some (tellR N pl c))) (h9 : ρ[9]? = some (some (tellR N pl (c + 1)))) :
    T W ρ μ (tOr (tAnd (tB (isi K 8)) (tAnd (tB (isi K 9)) (tTest (tOp (uLt K) (tVar 9) (tVar 8))))) (tAnd (tTest (tOp uIs (tVar 8) (tC .non))) (tTest (tOp uIsNot (tVar 9) (tC .non))))) false := by
  have isN : ∀ {ρ : List (Option RP)} {i : Nat}, ρ[i]? = some (some nonR) → T W ρ μ (tB (isi K i)) false := fun {ρ i} h => et_B (es_cb (ea_cons (es_var h) (ea_cons es_c ea_nil)) (oc_isi (x := .non) (s := "NoneType") (n := "int") (b := false) rfl (by decide +kernel)))
  have isT : ∀ {ρ : List (Option RP)} {i : Nat}, ρ[i]? = some (some (tupR [valR (.str "many"), intR 1000])) → T W ρ μ (tB (isi K i)) false := fun {ρ i} h => et_B (es_cb (ea_cons (es_var h) (ea_cons es_c ea_nil)) (oc_isiT (n := "int") (b := false) (by decide +kernel)))
  have isI : ∀ {ρ : List (Option RP)} {i : Nat} {g : Int}, ρ[i]? = some (some (intR g)) → T W ρ μ (tB (isi K i)) true := fun {ρ i g} h => et_B (es_cb (ea_cons (es_var h) (ea_cons es_c ea_nil)) (oc_isi (x := .int g) (s := "int") (n := "int") (b := true) rfl (by decide +kernel)))
  by_cases hq : quiet N pl c
  · have hq1 : quiet N pl (c + 1) := ⟨hq.1, by have := hq.2; omega⟩
    rw [tell_quiet hq] at h8
    rw [tell_quiet hq1] at h9
    exact et_eq (et_or (a := false) (b := false) (et_eq (et_and (a := false) (b := false) (isN h8) fun z => by cases z) rfl) fun _ => et_eq (et_and (a := true) (b := false) (et_test (es_eqB (es_op (es_var h8) es_c o2_is) (by decide))) fun _ => et_test (es_eqB (es_op (es_var h9) es_c o2_isnot) (by decide))) rfl) rfl
  by_cases hm : manyP N pl c
  · rw [tellR_many hm] at h8
    exact et_eq (et_or (a := false) (b := false) (et_eq (et_and (a := false) (b := false) (isT h8) fun z => by cases z) rfl) fun _ => et_eq (et_and (a := false) (b := false) (et_test (es_op (es_var h8) es_c o2_isT)) fun z => by cases z) rfl) rfl
  rw [tell_peak hq hm] at h8
  refine et_pick h8 fun gg hg => ?_
  have h9' : (ρ.set 8 (some (intR gg)))[9]? = some (some (tellR N pl (c + 1))) := by rw [List.getElem?_set_ne (by decide)]; exact h9
  have h8' : (ρ.set 8 (some (intR gg)))[8]? = some (some (intR gg)) := List.getElem?_set_self (List.getElem?_eq_some_iff.mp h8).1
  generalize ρ.set 8 (some (intR gg)) = ρ' at h8' h9'
  have snd : T W ρ' μ (tAnd (tTest (tOp uIs (tVar 8) (tC .non))) (tTest (tOp uIsNot (tVar 9) (tC .non)))) false := et_eq (et_and (a := false) (b := false) (et_test (es_op (es_var h8') es_c o2_isI)) fun z => by cases z) rfl
  by_cases hq1 : quiet N pl (c + 1)
  · rw [tell_quiet hq1] at h9'
    exact et_eq (et_or (a := false) (b := false) (et_eq (et_and (a := true) (b := false) (isI h8') fun _ => et_eq (et_and (a := false) (b := false) (isN h9') fun z => by cases z) rfl) rfl) fun _ => snd) rfl
  by_cases hm1 : manyP N pl (c + 1)
  · rw [tellR_many hm1] at h9'
    exact et_eq (et_or (a := false) (b := false) (et_eq (et_and (a := true) (b := false) (isI h8') fun _ => et_eq (et_and (a := false) (b := false) (isT h9') fun z => by cases z) rfl) rfl) fun _ => snd) rfl
  rw [tell_peak hq1 hm1] at h9'
  refine et_pick h9' fun g1 hg1 => ?_
  have h9'' : (ρ'.set 9 (some (intR g1)))[9]? = some (some (intR g1)) := List.getElem?_set_self (List.getElem?_eq_some_iff.mp h9').1
  have h8'' : (ρ'.set 9 (some (intR g1)))[8]? = some (some (intR gg)) := by rw [List.getElem?_set_ne (by decide)]; exact h8'
  have le : ¬ g1 < gg := by
    have := (hg1.iff hn.ok gg).mp (hg.yes.coins (by omega))
    omega
  exact et_eq (et_or (a := false) (b := false) (et_eq (et_and (a := true) (b := false) (isI h8'') fun _ => et_eq (et_and (a := true) (b := false) (isI h9'') fun _ => et_test (es_eqB (es_op (es_var h9'') (es_var h8'') o2_lt) (decide_eq_false le))) rfl) rfl) fun _ => et_eq (et_and (a := false) (b := false) (et_test (es_op (es_var h8'') es_c o2_isI)) fun z => by cases z) rfl) rfl
end
section
variable {P : Program} {w : World} {K : PySem.W.Frag} {mg : Str → Option Value} {base : Heap} {C fI : Addr} {fdI : FuncData}
def spLaw (K : PySem.W.Frag) : Sp := fun vs H Q _ => ∃ (a : Addr) (ns : List Int), vs = [.ref a] ∧ ns.length ≤ 63 ∧ Only H ∧ SqL K H a (ns.map V.int) ∧ ∀ H', Q (.bl true) H'
theorem pot_start {P1 H H1 : Hp} {v : V} {x : Pot} {ρ : List (Option RP)} {σ : St} (hO : Only H) (a : At ⟨W0, H, H, [], none⟩ ρ [] σ P1 H1) (r : (potR x).r v P1) (h1 : ∀ i ∈ x.gs, 10 ^ 18 ≤ i) (h2 : ∀ i ∈ x.ss, i < 1000000007) (h3 : x.ss ≠ []) : ∃ p g s, v = .ref p ∧ Hx (potW p g s) [] H H1 := by
  obtain ⟨p, xs, e, hp, r⟩ := r
  cases r with
  | cons r1 r =>
    cases r with
    | cons r2 r =>
      cases r with
      | cons r3 r =>
        cases r with
        | cons r4 r =>
          cases r
          obtain ⟨g, gs, e1, hg, r1⟩ := r1
          obtain ⟨s, ss, e2, hs, r2⟩ := r2
          have e3 : _ = V.int x.t := r3
          have e4 : _ = V.int x.tot := r4
          have e5 := reps_ints r1
          have e6 := reps_ints r2
          subst e1 e2 e3 e4 e5 e6
          have le := a.ok.hx.le
          have gs : g ≠ s := fun z => by
            rw [z, hs] at hg
            have e : x.ss.map V.int = x.gs.map V.int := HO.lst.inj (Option.some.inj hg)
            cases hx : x.ss with
            | nil => exact h3 hx
            | cons y l =>
              cases hy : x.gs with
              | nil => rw [hx, hy] at e; cases e
              | cons z m =>
                rw [hx, hy] at e
                have e := V.int.inj (List.cons.inj e).1
                have a1 := h2 y (by rw [hx]; exact List.mem_cons_self)
                have a2 := h1 z (by rw [hy]; exact List.mem_cons_self)
                omega
          have new : ∀ {b : Addr} {ys : List V}, P1 b = some (.lst ys) → H b = none ∧ H1 b ≠ none := fun {b ys} hb => by
            refine ⟨?_, by rw [le.lst hb]; exact fun z => by cases z⟩
            rcases hO b with z | ⟨o, zs, z⟩
            · exact z
            · have := a.ex b _ z
              rw [hb] at this
              cases this
          refine ⟨p, g, s, e, ⟨a.ex.le.trans le, fun b z => ?_, ⟨x, le.lst hp, le.lst hg, le.lst hs, h3, gs⟩, fun _ _ h => absurd h List.not_mem_nil, List.nodup_nil⟩⟩
          rcases z with z | z | z
          · rw [z]; exact new hp
          · rw [z]; exact new hg
          · rw [z]; exact new hs
theorem ok_law (T : Txt K mg) {f : Addr} {fd : FuncData} (F : FunD K "law" "law" (defArgs s_law) (defBody s_law) (defScope s_law) [] [] f fd) (mk : Mk K C fI) (Fi : FnOk P w K mg base CX0 5 fI fdI ["self", "places", "arrows"] (sp_keep C)) (gT : mg "Track" = some (.ref C)) (bI : Binds K fdI ["self", "places", "arrows"] [])
    (c__law_pot : Callee P w K mg base "_law_pot" ["_law_script"] 1 (sp_law_pot K)) (c__law_chain_right : Callee P w K mg base "_law_chain_right" ["_law_pot_here"] 14 sp_law_chain_right) (c__law_parts : Callee P w K mg base "_law_parts" ["_law_pot_here", "_law_most_places", "_law_most_letters", "_law_most_pay"] 3 sp_law_parts) (c__law_draw : Callee P w K mg base "_law_draw" ["_law_pot_here", "_law_many"] 1 sp_law_draw)
    (c_least_coins : Callee P w K mg base "least_coins" ["track"] 12 (sp_least_of C)) (c__law_peak : Callee P w K mg base "_law_peak" ["_law_track", "_law_place", "_law_coins"] 13 (sp_law_peak C)) (c__law_peak_right : Callee P w K mg base "_law_peak_right" ["_law_track", "_law_parts_here", "_law_place", "_law_coins", "_law_told"] 10 (sp_law_peak_right C)) (c_soonest : Callee P w K mg base "soonest" ["track", "place", "coins", "goal"] 9 (sp_soonest C)) :
    FnOk P w K mg base CX0 15 f fd ["_law_script"] (spLaw K) := by
  refine F.ok sc_law (fun vs H Q E h => ?_) (fun cdv A outer s H vs Q E1 hr h => ⟨_, PSs.nox (pss_cons (ps_set (i := 1) sc_law.nd rfl (Or.inl rfl) (pe_callC c__law_pot (hr.mono (by decide)) (by rfl) (pa_cons (pv 0) pa_nil)))
  (pss_cons (ps_if (pt_not (pt_val (pe_callC c__law_chain_right (hr.mono (by decide)) (by rfl) (pa_cons (pv 1) pa_nil)))) (pss_one (ps_ret pe_bl)) pss_nil)
  (pss_cons (ps_for PassesOwn.never rfl (pi_range1 (by rfl) T.range (pa_cons pe_int pa_nil)) (pg_name (i := 2) sc_law.nd rfl (Or.inl rfl))
  (pss_cons (ps_set (i := 3) sc_law.nd rfl (Or.inl rfl) (pe_callC c__law_parts (hr.mono (by decide)) (by rfl) (pa_cons (pv 1) (pa_cons pe_int (pa_cons pe_int (pa_cons pe_int pa_nil))))))
  (pss_cons (ps_set (i := 4) sc_law.nd rfl (Or.inl rfl) (pe_make mk Fi (hr.mono (by decide)) (by rfl) gT bI .nil pass0 (pa_cons (pe_ix (ix_seqK K rfl) (pv 3) pe_int (fun _ _ => rfl)) (pa_cons (pe_ix (ix_seqK K rfl) (pv 3) pe_int (fun _ _ => rfl)) pa_nil))))
  (pss_cons (ps_par (i := 5) (j := 6) (by rfl) sc_law.nd rfl rfl (by decide) rfl rfl (pa_cons (pe_callC c__law_draw (hr.mono (by decide)) (by rfl) (pa_cons (pv 1) (pa_cons (pe_ix (ix_seqK K rfl) (pv 3) pe_int (fun _ _ => rfl)) pa_nil))) (pa_cons (pe_callC c__law_draw (hr.mono (by decide)) (by rfl) (pa_cons (pv 1) (pa_cons pe_int pa_nil))) pa_nil)) (by rfl))
  (pss_cons (ps_set (i := 7) sc_law.nd rfl (Or.inl rfl) (pe_ix (ix_seqK K rfl) (pe_callC c_least_coins (hr.mono (by decide)) (by rfl) (pa_cons (pv 4) pa_nil)) (pv 5) (fun _ _ => rfl)))
  (pss_cons (ps_set (i := 8) sc_law.nd rfl (Or.inl rfl) (pe_callC c__law_peak (hr.mono (by decide)) (by rfl) (pa_cons (pv 4) (pa_cons (pv 5) (pa_cons (pv 6) pa_nil)))))
  (pss_cons (ps_if (pt_cmpR (op_uNeK K rfl hr.units) (pe_cmpR op_uIs (pv 8) pe_non (nomark _)) (pe_and (pe_cmpR op_uIsNot (pv 7) pe_non (nomark _)) (pe_one (pe_cmpR op_uGe (pv 6) (pv 7) (nomark _)))) (nomark _)) (pss_one (ps_ret pe_bl)) pss_nil)
  (pss_cons (ps_if (PW.pt (pw_and (pt_cmpR op_uIsNot (pv 8) pe_non (nomark _)) (pw_and1 (pt_not (pt_val (pe_callC c__law_peak_right (hr.mono (by decide)) (by rfl) (pa_cons (pv 4) (pa_cons (pv 3) (pa_cons (pv 5) (pa_cons (pv 6) (pa_cons (pv 8) pa_nil))))))))))) (pss_one (ps_ret pe_bl)) pss_nil)
  (pss_cons (ps_set (i := 9) sc_law.nd rfl (Or.inl rfl) (pe_callC c__law_peak (hr.mono (by decide)) (by rfl) (pa_cons (pv 4) (pa_cons (pv 5) (pa_cons (pe_op op_uAdd (pv 6) pe_int) pa_nil)))))
  (pss_cons (ps_if (PW.pt (pw_or (PW.pt (pw_and (pt_val (pe_callB (ca_isiK K rfl) (by rfl) T.isinstance bo_isinstance (pa_cons (pv 8) (pa_cons (pe_bltn (v := .ty "int") (by rfl) T.int bo_int rfl) pa_nil)))) (pw_and (pt_val (pe_callB (ca_isiK K rfl) (by rfl) T.isinstance bo_isinstance (pa_cons (pv 9) (pa_cons (pe_bltn (v := .ty "int") (by rfl) T.int bo_int rfl) pa_nil)))) (pw_and1 (pt_cmpR (op_uLtK K rfl hr.units) (pv 9) (pv 8) (nomark _)))))) (pw_or1 (PW.pt (pw_and (pt_cmpR op_uIs (pv 8) pe_non (nomark _)) (pw_and1 (pt_cmpR op_uIsNot (pv 9) pe_non (nomark _)))))))) (pss_one (ps_ret pe_bl)) pss_nil)
  (pss_cons (ps_if (PW.pt (pw_and (pt_cmpR op_uIs (pv 8) pe_non (nomark _)) (pw_and1 (pt_cmpR op_uIs (pe_callC c_soonest (hr.mono (by decide)) (by rfl) (pa_cons (pv 4) (pa_cons (pv 5) (pa_cons (pv 6) (pa_cons (pe_op op_uAdd (pv 6) pe_int) pa_nil))))) pe_non (nomark _))))) (pss_one (ps_ret pe_bl)) pss_nil)
  (pss_one (ps_if (PW.pt (pw_and (pt_cmpR op_uIs (pv 7) pe_non (nomark _)) (pw_and1 (pt_cmpR (op_uNeK K rfl hr.units) (pe_callC c__law_peak (hr.mono (by decide)) (by rfl) (pa_cons (pv 4) (pa_cons (pv 5) (pa_cons (pe_op op_uAdd pe_int (pv 6)) pa_nil)))) (pe_tup (pa_cons pe_str (pa_cons pe_int pa_nil))) (nomark _))))) (pss_one (ps_ret pe_bl)) pss_nil)))))))))))))
  (pss_one (ps_ret pe_bl))))), ?_⟩)
  · obtain ⟨a, ns, rfl, _⟩ := h
    rfl
  obtain ⟨a0, ns, rfl, hl, hO, hS, q⟩ := h
  have a : At ⟨W0, H, H, [], none⟩ (entryR n_law [scrR K ns]) [] (L2.start n_law [.ref a0]) H H := entry_at (Le.refl H) (.cons ⟨a0, rfl, hS⟩ .nil)
  (try dsimp only [tNext]); refine sq (a.e (es_call ns (ea_cons (es_var rfl) ea_nil) hl) fun v P1 H1 a1 ⟨x, ⟨x1, x2, x3⟩, r⟩ => ?_)
  obtain ⟨p, g, z, e, hx⟩ := pot_start hO a1 r x1 x2 x3
  subst e
  have a2 : At ⟨potW p g z, H, H1, [], none⟩ [none, some (valR (.ref p)), none, none, none, none, none, none, none, none] [] ((L2.start n_law [.ref a0]).set 1 (some (.ref p))) H H1 := by
    refine entry_atW' hx (fun i R e => ?_) rfl
    match i, e with
    | 0, e => cases e
    | 1, e =>
      cases (Option.some.inj (Option.some.inj e))
      exact ⟨_, rfl, rfl⟩
    | 2, e => cases e
    | 3, e => cases e
    | 4, e => cases e
    | 5, e => cases e
    | 6, e => cases e
    | 7, e => cases e
    | 8, e => cases e
    | 9, e => cases e
    | i + 10, e => cases e
  have dr : ∀ {ρ : List (Option RP)} {μ : Me} {E₁ : XK} {tm : TE} {m : Int}, ρ[1]? = some (some (valR (.ref p))) → E (potW p g z) ρ μ tm (intR m) → 0 < m ∧ m < 1073741824 → E (potW p g z) ρ μ (tCall sp_law_draw [] E₁ (tCons (tVar 1) (tCons tm tNil))) (drawn m) := fun {ρ μ E₁ tm m} h0 e h => es_callP m (ea_cons (es_var h0) (ea_cons e ea_nil)) h
  have prt : ∀ {ρ : List (Option RP)} {μ : Me} {E₁ : XK}, ρ[1]? = some (some (valR (.ref p))) → E (potW p g z) ρ μ (tCall sp_law_parts [] E₁ (tCons (tVar 1) (tCons (tC (.int 4)) (tCons (tC (.int 3)) (tCons (tC (.int 5)) tNil))))) (oneR (fun i : Nat × List WS.Arr => WS.ArrS i.1 i.2 ∧ i.1 ≤ 4) fun i => partsR i.1 i.2) := fun {ρ μ E₁} h0 => es_callP () (ea_cons (es_var h0) (ea_cons es_c (ea_cons es_c (ea_cons es_c ea_nil)))) trivial
  (try dsimp only [tNext]); refine sq (q_if a2 (b := false) (et_eq (et_not (et_B (es_callP (p := p) (g := g) (s := z) (ok := fun _ : Unit => True) (args := fun _ => []) (res := fun _ => blR true) () (ea_cons (es_var rfl) ea_nil) trivial))) rfl) (fun e => by cases e) fun _ P3 H3 a3 => ?_)
  (try dsimp only [tNext]); refine sq (q_for (as := List.range 3) (RA := fun i => intR ((i : Nat) : Int)) (X := Unit) (fun _ _ => True) (fun _ _ => [none, some (valR (.ref p)), none, none, none, none, none, none, none, none]) (fun _ _ => []) a3 (src_range0 (n := 3) (ea_cons es_c ea_nil) (by omega)) (fun P' H' a' => ⟨(), trivial, a'⟩) (fun k x i hk _ => tg_name) (fun B k x i σ P H hk _ a => ?_) fun x σ P H _ a => ?_)
  · (try dsimp only [tNext]); refine sq (q_setOne (Pr := fun i : Nat × List WS.Arr => WS.ArrS i.1 i.2 ∧ i.1 ≤ 4) (f := fun i : Nat × List WS.Arr => partsR i.1 i.2) a (prt rfl) (by show 3 < 10; decide) fun x hx v4 P4 H4 a4 => ?_)
    obtain ⟨n, As⟩ := x
    obtain ⟨hS, h4⟩ := hx
    simp only at hS h4
    have hP := ArrS.pk hS
    have hn := hP.nw
    have n0 := hS.ok.pos
    have hlen : (WS.netOf n As).length = n := WS.netOf_len n As
    have hh := hope_few hn (by rw [hlen]; exact h4)
    generalize hN : WS.netOf n As = N at hn hlen hh
    (try dsimp only [tNext]); refine sq (q_set (R := trackR C N) a4 (es_eq (es_make (ok := fun i : Nat × List WS.Arr => WS.ArrS i.1 i.2) (res := fun i => trackR C (WS.netOf i.1 i.2)) (n, As) (ea_cons (es_op (es_var (R := partsR n As) rfl) es_c (o2_ixT (by omega) rfl)) (ea_cons (es_op (es_var (R := partsR n As) rfl) es_c (o2_ixT (by omega) rfl)) ea_nil)) hS) (by dsimp only; rw [hN])) fun v5 P5 H5 a5 => ?_)
    (try dsimp only [tNext]); refine sq (q_par (R1 := drawn ((n : Nat) : Int)) (R2 := drawn 13) a5 (ea_cons (dr rfl (es_op (es_var (R := partsR n As) rfl) es_c (o2_ixT (by omega) rfl)) ⟨by omega, by omega⟩) (ea_cons (dr rfl es_c ⟨by decide, by decide⟩) ea_nil)) fun σ6 P6 H6 a6 => ?_)
    obtain ⟨p0, ⟨l1, u1⟩, a7⟩ := a6.pick 5 rfl
    obtain ⟨c, ⟨l2, u2⟩, a8⟩ := a7.pick 6 rfl
    obtain ⟨pl, hpl⟩ : ∃ pl : Nat, p0 = (pl : Int) := ⟨p0.toNat, by omega⟩
    subst hpl
    have hp : pl < N.length := by omega
    have a9 : At _ [none, some (valR (.ref p)), some (intR ((i : Nat) : Int)), some (partsR n As), some (trackR C N), some (intR ((pl : Nat) : Int)), some (intR c), none, none, none] [] σ6 P6 H6 := a8
    (try dsimp only [tNext]); refine sq (q_set (R := valR (lv N pl)) a9 (es_op (es_call N (ea_cons (es_var rfl) ea_nil) ⟨hn, hh⟩) (es_var (R := intR ((pl : Nat) : Int)) rfl) (o2_ixT (by omega) ?_)) fun v10 P10 H10 a10 => ?_)
    · rw [Int.toNat_natCast, List.getElem?_map, List.getElem?_range hp]
      rfl
    have pk : ∀ {ρ : List (Option RP)} {E₁ : XK} {tc : TE} {c : Int}, ρ[4]? = some (some (trackR C N)) → ρ[5]? = some (some (intR ((pl : Nat) : Int))) → E (potW p g z) ρ [] tc (intR c) → 0 ≤ c → E (potW p g z) ρ [] (tCall (sp_law_peak C) [] E₁ (tCons (tVar 4) (tCons (tVar 5) (tCons tc tNil)))) (tellR N pl c) := fun {ρ E₁ tc c} h4 h5 h6 hc => es_call (N, pl, c) (ea_cons (es_var h4) (ea_cons (es_var h5) (ea_cons h6 ea_nil))) ⟨hn, hh, hp, hc⟩
    (try dsimp only [tNext]); refine sq (q_set (R := tellR N pl c) a10 (pk rfl rfl (es_var rfl) l2) fun v11 P11 H11 a11 => ?_)
    (try dsimp only [tNext]); refine sq (q_if a11 (b := false) ?_ (fun e => by cases e) fun _ P12 H12 a12 => ?_)
    · refine et_eq (et_test (es_op (es_told (es_var (R := tellR N pl c) rfl)) (Rb := blR (@decide (quiet N pl c) (Classical.propDecidable _))) ?_ o2_neB)) (by simp)
      by_cases h : pl ∈ WS.hope N
      · have e : lv N pl = .int (WS.leastC N pl) := if_pos h
        refine es_eqB (es_andV (a := true) (b := decide (WS.leastC N pl ≤ c)) (es_eqB (es_op (es_var (R := valR (lv N pl)) rfl) es_c o2_isnot) (by rw [e, decide_eq_false (fun z => by cases z)]; rfl)) fun _ => es_op (es_var (R := intR c) rfl) (es_eq (es_var (R := valR (lv N pl)) rfl) (by rw [e])) o2_ge) ?_
        by_cases hc : WS.leastC N pl ≤ c
        · rw [decide_eq_true hc, @decide_eq_true _ (Classical.propDecidable _) (⟨h, hc⟩ : quiet N pl c)]
          rfl
        · rw [decide_eq_false hc, @decide_eq_false _ (Classical.propDecidable _) (fun z : quiet N pl c => hc z.2)]
          rfl
      · have e : lv N pl = .non := if_neg h
        refine es_eqB (es_andV (a := false) (b := false) (es_eqB (es_op (es_var (R := valR (lv N pl)) rfl) es_c o2_isnot) (by rw [e]; decide)) fun z => by cases z) ?_
        rw [@decide_eq_false _ (Classical.propDecidable _) (fun z : quiet N pl c => h z.1)]
        rfl
    (try dsimp only [tNext]); refine sq (q_if a12 (b := false) ?_ (fun e => by cases e) fun _ P13 H13 a13 => ?_)
    · refine et_eq (et_and (a := !@decide (quiet N pl c) (Classical.propDecidable _)) (b := false) (et_test (es_toldN (es_var (R := tellR N pl c) rfl))) fun e => ?_) (Bool.and_false _)
      have hq : ¬ quiet N pl c := fun z => by rw [@decide_eq_true _ (Classical.propDecidable _) z] at e; cases e
      subst hN
      exact et_eq (et_not (et_B (es_call (n, As, pl, c) (ea_cons (es_var rfl) (ea_cons (es_var rfl) (ea_cons (es_var rfl) (ea_cons (es_var rfl) (ea_cons (es_var rfl) ea_nil))))) ⟨hP, by rw [hlen] at hp; exact hp, l2, hq⟩))) rfl
    (try dsimp only [tNext]); refine sq (q_set (R := tellR N pl (c + 1)) a13 (pk rfl rfl (es_op (es_var rfl) es_c o2_add) (by omega)) fun v14 P14 H14 a14 => ?_)
    (try dsimp only [tNext]); refine sq (q_if a14 (b := false) (et_more (N := N) (pl := pl) (c := c) hn rfl rfl) (fun e => by cases e) fun _ P15 H15 a15 => ?_)
    (try dsimp only [tNext]); refine sq (q_if a15 (b := false) (et_eq (et_and (a := @decide (quiet N pl c) (Classical.propDecidable _)) (b := false) (et_test (es_told (es_var (R := tellR N pl c) rfl))) fun e => ?_) (Bool.and_false _)) (fun e => by cases e) fun _ P16 H16 a16 => ?_)
    · have hq : quiet N pl c := @of_decide_eq_true _ (Classical.propDecidable _) e
      exact et_eq (et_test (es_op (es_call (N, pl, c, c + 25) (ea_cons (es_var rfl) (ea_cons (es_var rfl) (ea_cons (es_var rfl) (ea_cons (es_op (es_var (R := intR c) rfl) es_c o2_add) ea_nil)))) ⟨hn, hp, l2, by dsimp only; omega, by dsimp only; omega⟩) es_c o2_isRk)) (by show (!sureB N pl c (c + 25)) = false; rw [sureB_yes (quiet_sure hn hq (by omega))]; rfl)
    (try dsimp only [tNext]); refine q_if a16 (b := false) ?_ (fun e => by cases e) fun _ P17 H17 a17 => ⟨(), P17, trivial, (((((((a17.drop 2).drop 3).drop 4).drop 5).drop 6).drop 7).drop 8).drop 9⟩
    by_cases h : pl ∈ WS.hope N
    · have e : lv N pl = .int (WS.leastC N pl) := if_pos h
      exact et_eq (et_and (a := false) (b := false) (et_test (es_eqB (es_op (es_var (R := valR (lv N pl)) rfl) es_c o2_is) (by rw [e, decide_eq_false (fun z => by cases z)]))) fun z => by cases z) rfl
    · have e : lv N pl = .non := if_neg h
      exact et_eq (et_and (a := true) (b := false) (et_test (es_eqB (es_op (es_var (R := valR (lv N pl)) rfl) es_c o2_is) (by rw [e]; decide))) fun _ => et_test (es_eqB (es_op (es_eq (pk (c := 1001 + c) rfl rfl (es_op es_c (es_var (R := intR c) rfl) o2_add) (by omega)) (tellR_many ⟨fun z => h z.1, .inl (by omega)⟩)) (es_tup (Rs := [valR (.str "many"), intR 1000]) (ea_cons es_c (ea_cons es_c ea_nil)) (by simp)) (o2_neD tells_many tells_many (by decide +kernel) (by decide +kernel))) (j := false) (by decide +kernel))) rfl
  · refine a.e (es_c (v := .bl true)) fun v P' H' a' r => ?_
    have r : v = .bl true := r
    subst r
    exact q H'
end
end Y
end
section
set_option maxHeartbeats 0
/-! The head, part 1: what the written part says, by names. -/
namespace Hd
open PySem PySem.Spec PySem.W PySem.Calls PyProof.Rows PySem.HandSPX
open Y L2
abbrev Pg : Program := PySem.Challenge.rw_wholestakes_k45_whole_greatest_coins_tha.prog
def d_is_integer : He.DefD := ⟨("is_integer", none), "is_integer", "is_integer", defArgs s_is_integer, defBody s_is_integer, defScope s_is_integer, [], []⟩
def d_is_within : He.DefD := ⟨("is_within", none), "is_within", "is_within", defArgs s_is_within, defBody s_is_within, defScope s_is_within, [], []⟩
def d_is_from : He.DefD := ⟨("is_from", none), "is_from", "is_from", defArgs s_is_from, defBody s_is_from, defScope s_is_from, [], []⟩
def d_is_letter : He.DefD := ⟨("is_letter", none), "is_letter", "is_letter", defArgs s_is_letter, defBody s_is_letter, defScope s_is_letter, [], []⟩
def d_are_ascending : He.DefD := ⟨("are_ascending", none), "are_ascending", "are_ascending", defArgs s_are_ascending, defBody s_are_ascending, defScope s_are_ascending, [], []⟩
def d_check_many : He.DefD := ⟨("check_many", none), "check_many", "check_many", defArgs s_check_many, defBody s_check_many, defScope s_check_many, [], []⟩
def d_check_coins : He.DefD := ⟨("check_coins", none), "check_coins", "check_coins", defArgs s_check_coins, defBody s_check_coins, defScope s_check_coins, [], []⟩
def d_common_divisor : He.DefD := ⟨("common_divisor", none), "common_divisor", "common_divisor", defArgs s_common_divisor, defBody s_common_divisor, defScope s_common_divisor, [], []⟩
def d_lowest : He.DefD := ⟨("lowest", none), "lowest", "lowest", defArgs s_lowest, defBody s_lowest, defScope s_lowest, [], []⟩
def d_rounded_up : He.DefD := ⟨("rounded_up", none), "rounded_up", "rounded_up", defArgs s_rounded_up, defBody s_rounded_up, defScope s_rounded_up, [], []⟩
def d_is_arrow : He.DefD := ⟨("is_arrow", none), "is_arrow", "is_arrow", defArgs s_is_arrow, defBody s_is_arrow, defScope s_is_arrow, [], []⟩
def d_are_arrows : He.DefD := ⟨("are_arrows", none), "are_arrows", "are_arrows", defArgs s_are_arrows, defBody s_are_arrows, defScope s_are_arrows, [], []⟩
def d_is_place : He.DefD := ⟨("is_place", none), "is_place", "is_place", defArgs s_is_place, defBody s_is_place, defScope s_is_place, [], []⟩
def d_check_place : He.DefD := ⟨("check_place", none), "check_place", "check_place", defArgs s_check_place, defBody s_check_place, defScope s_check_place, [], []⟩
def d_steps_of : He.DefD := ⟨("steps_of", none), "steps_of", "steps_of", defArgs s_steps_of, defBody s_steps_of, defScope s_steps_of, [], []⟩
def d_reached_from : He.DefD := ⟨("reached_from", none), "reached_from", "reached_from", defArgs s_reached_from, defBody s_reached_from, defScope s_reached_from, [], []⟩
def d_weight : He.DefD := ⟨("weight", none), "weight", "weight", defArgs s_weight, defBody s_weight, defScope s_weight, [], []⟩
def d_weight_back : He.DefD := ⟨("weight_back", none), "weight_back", "weight_back", defArgs s_weight_back, defBody s_weight_back, defScope s_weight_back, [], []⟩
def d_ranks_of : He.DefD := ⟨("ranks_of", none), "ranks_of", "ranks_of", defArgs s_ranks_of, defBody s_ranks_of, defScope s_ranks_of, [], []⟩
def d_full_places : He.DefD := ⟨("full_places", none), "full_places", "full_places", defArgs s_full_places, defBody s_full_places, defScope s_full_places, [], []⟩
def d_hopeful_places : He.DefD := ⟨("hopeful_places", none), "hopeful_places", "hopeful_places", defArgs s_hopeful_places, defBody s_hopeful_places, defScope s_hopeful_places, [], []⟩
def d_told_pairs : He.DefD := ⟨("told_pairs", none), "told_pairs", "told_pairs", defArgs s_told_pairs, defBody s_told_pairs, defScope s_told_pairs, [], []⟩
def d_least_stake : He.DefD := ⟨("least_stake", none), "least_stake", "least_stake", defArgs s_least_stake, defBody s_least_stake, defScope s_least_stake, [], []⟩
def d_total : He.DefD := ⟨("total", none), "total", "total", defArgs s_total, defBody s_total, defScope s_total, [], []⟩
def d_must_keep : He.DefD := ⟨("must_keep", none), "must_keep", "must_keep", defArgs s_must_keep, defBody s_must_keep, defScope s_must_keep, [], []⟩
def d_turning : He.DefD := ⟨("turning", none), "turning", "turning", defArgs s_turning, defBody s_turning, defScope s_turning, [], []⟩
def d_common_multiple : He.DefD := ⟨("common_multiple", none), "common_multiple", "common_multiple", defArgs s_common_multiple, defBody s_common_multiple, defScope s_common_multiple, [], []⟩
def d_best_kept : He.DefD := ⟨("best_kept", none), "best_kept", "best_kept", defArgs s_best_kept, defBody s_best_kept, defScope s_best_kept, [], []⟩
def d_needed : He.DefD := ⟨("needed", none), "needed", "needed", defArgs s_needed, defBody s_needed, defScope s_needed, [], []⟩
def d_parts_needed : He.DefD := ⟨("parts_needed", none), "parts_needed", "parts_needed", defArgs s_parts_needed, defBody s_parts_needed, defScope s_parts_needed, [], []⟩
def d_pairs_with : He.DefD := ⟨("pairs_with", none), "pairs_with", "pairs_with", defArgs s_pairs_with, defBody s_pairs_with, defScope s_pairs_with, [], []⟩
def d_are_enough : He.DefD := ⟨("are_enough", none), "are_enough", "are_enough", defArgs s_are_enough, defBody s_are_enough, defScope s_are_enough, [], []⟩
def d_gaining : He.DefD := ⟨("gaining", none), "gaining", "gaining", defArgs s_gaining, defBody s_gaining, defScope s_gaining, [], []⟩
def d_raised_by : He.DefD := ⟨("raised_by", none), "raised_by", "raised_by", defArgs s_raised_by, defBody s_raised_by, defScope s_raised_by, [], []⟩
def d_stays : He.DefD := ⟨("stays", none), "stays", "stays", defArgs s_stays, defBody s_stays, defScope s_stays, [], []⟩
def d_greatest_stay : He.DefD := ⟨("greatest_stay", none), "greatest_stay", "greatest_stay", defArgs s_greatest_stay, defBody s_greatest_stay, defScope s_greatest_stay, [], []⟩
def d_least_by_place : He.DefD := ⟨("least_by_place", none), "least_by_place", "least_by_place", defArgs s_least_by_place, defBody s_least_by_place, defScope s_least_by_place, [], []⟩
def d_by_place : He.DefD := ⟨("by_place", none), "by_place", "by_place", defArgs s_by_place, defBody s_by_place, defScope s_by_place, [], []⟩
def d_least_of : He.DefD := ⟨("least_of", none), "least_of", "least_of", defArgs s_least_of, defBody s_least_of, defScope s_least_of, [], []⟩
def d_least_coins : He.DefD := ⟨("least_coins", none), "least_coins", "least_coins", defArgs s_least_coins, defBody s_least_coins, defScope s_least_coins, [], []⟩
def d_pairs_by : He.DefD := ⟨("pairs_by", none), "pairs_by", "pairs_by", defArgs s_pairs_by, defBody s_pairs_by, defScope s_pairs_by, [], []⟩
def d_coins_ahead : He.DefD := ⟨("coins_ahead", none), "coins_ahead", "coins_ahead", defArgs s_coins_ahead, defBody s_coins_ahead, defScope s_coins_ahead, [], []⟩
def d_nearer : He.DefD := ⟨("nearer", none), "nearer", "nearer", defArgs s_nearer, defBody s_nearer, defScope s_nearer, [], []⟩
def d_soonest_of : He.DefD := ⟨("soonest_of", none), "soonest_of", "soonest_of", defArgs s_soonest_of, defBody s_soonest_of, defScope s_soonest_of, [], []⟩
def d_soonest : He.DefD := ⟨("soonest", none), "soonest", "soonest", defArgs s_soonest, defBody s_soonest, defScope s_soonest, [], []⟩
def d_peak : He.DefD := ⟨("peak", none), "peak", "peak", defArgs s_peak, defBody s_peak, defScope s_peak, [], []⟩
def d_law_pot : He.DefD := ⟨("_law_pot", none), "_law_pot", "_law_pot", defArgs s_law_pot, defBody s_law_pot, defScope s_law_pot, [], []⟩
def d_law_draw : He.DefD := ⟨("_law_draw", none), "_law_draw", "_law_draw", defArgs s_law_draw, defBody s_law_draw, defScope s_law_draw, [], []⟩
def d_law_bound : He.DefD := ⟨("_law_bound", none), "_law_bound", "_law_bound", defArgs s_law_bound, defBody s_law_bound, defScope s_law_bound, [], []⟩
def d_law_mild : He.DefD := ⟨("_law_mild", none), "_law_mild", "_law_mild", defArgs s_law_mild, defBody s_law_mild, defScope s_law_mild, [], []⟩
def d_law_parts : He.DefD := ⟨("_law_parts", none), "_law_parts", "_law_parts", defArgs s_law_parts, defBody s_law_parts, defScope s_law_parts, [], []⟩
def d_law_steps : He.DefD := ⟨("_law_steps", none), "_law_steps", "_law_steps", defArgs s_law_steps, defBody s_law_steps, defScope s_law_steps, [], []⟩
def d_law_up : He.DefD := ⟨("_law_up", none), "_law_up", "_law_up", defArgs s_law_up, defBody s_law_up, defScope s_law_up, [], []⟩
def d_law_need : He.DefD := ⟨("_law_need", none), "_law_need", "_law_need", defArgs s_law_need, defBody s_law_need, defScope s_law_need, [], []⟩
def d_law_nearer : He.DefD := ⟨("_law_nearer", none), "_law_nearer", "_law_nearer", defArgs s_law_nearer, defBody s_law_nearer, defScope s_law_nearer, [], []⟩
def d_law_soonest : He.DefD := ⟨("_law_soonest", none), "_law_soonest", "_law_soonest", defArgs s_law_soonest, defBody s_law_soonest, defScope s_law_soonest, [], []⟩
def d_law_peak : He.DefD := ⟨("_law_peak", none), "_law_peak", "_law_peak", defArgs s_law_peak, defBody s_law_peak, defScope s_law_peak, [], []⟩
def d_law_peak_right : He.DefD := ⟨("_law_peak_right", none), "_law_peak_right", "_law_peak_right", defArgs s_law_peak_right, defBody s_law_peak_right, defScope s_law_peak_right, [], []⟩
def d_law_chain_right : He.DefD := ⟨("_law_chain_right", none), "_law_chain_right", "_law_chain_right", defArgs s_law_chain_right, defBody s_law_chain_right, defScope s_law_chain_right, [], []⟩
def d_law : He.DefD := ⟨("law", none), "law", "law", defArgs s_law, defBody s_law, defScope s_law, [], []⟩
def d_keep : He.DefD := ⟨("Track", some "keep"), "keep", "Track.keep", defArgs s_Track_keep, defBody s_Track_keep, defScope s_Track_keep, [], []⟩
def d_init : He.DefD := ⟨("Track", some "__init__"), "__init__", "Track.__init__", defArgs s_Track_init, defBody s_Track_init, defScope s_Track_init, [], []⟩
def fn : List He.DefD := ([d_is_integer, d_is_within, d_is_from, d_is_letter, d_are_ascending, d_check_many, d_check_coins, d_common_divisor, d_lowest, d_rounded_up, d_is_arrow, d_are_arrows, d_is_place, d_check_place, d_steps_of, d_reached_from, d_weight, d_weight_back, d_ranks_of, d_full_places, d_hopeful_places, d_told_pairs, d_least_stake, d_total, d_must_keep, d_turning, d_common_multiple, d_best_kept, d_needed, d_parts_needed] : List He.DefD) ++ ([d_pairs_with, d_are_enough, d_gaining, d_raised_by, d_stays, d_greatest_stay, d_least_by_place, d_by_place, d_least_of, d_least_coins, d_pairs_by, d_coins_ahead, d_nearer, d_soonest_of, d_soonest, d_peak, d_law_pot, d_law_draw, d_law_bound, d_law_mild, d_law_parts, d_law_steps, d_law_up, d_law_need, d_law_nearer, d_law_soonest, d_law_peak, d_law_peak_right, d_law_chain_right, d_law] : List He.DefD) ++ ([d_keep, d_init] : List He.DefD)
def fa : List He.Fa := ([.glo "is_integer", .glo "is_within", .glo "is_from", .glo "is_letter", .glo "are_ascending", .glo "check_many", .glo "check_coins", .glo "common_divisor", .glo "lowest", .glo "rounded_up", .glo "is_arrow", .glo "are_arrows", .glo "is_place", .glo "check_place", .glo "steps_of", .glo "reached_from", .glo "weight", .glo "weight_back", .glo "ranks_of", .glo "full_places", .glo "hopeful_places", .glo "told_pairs", .glo "least_stake", .glo "total", .glo "must_keep", .glo "turning", .glo "common_multiple", .glo "best_kept", .glo "needed", .glo "parts_needed"] : List He.Fa) ++ ([.glo "pairs_with", .glo "are_enough", .glo "gaining", .glo "raised_by", .glo "stays", .glo "greatest_stay", .glo "least_by_place", .glo "by_place", .glo "least_of", .glo "least_coins", .glo "pairs_by", .glo "coins_ahead", .glo "nearer", .glo "soonest_of", .glo "soonest", .glo "peak", .glo "_law_pot", .glo "_law_draw", .glo "_law_bound", .glo "_law_mild", .glo "_law_parts", .glo "_law_steps", .glo "_law_up", .glo "_law_need", .glo "_law_nearer", .glo "_law_soonest", .glo "_law_peak", .glo "_law_peak_right", .glo "_law_chain_right", .glo "law"] : List He.Fa) ++ ([.glo "Track", .glo "TooMany", .free "isinstance", .free "int", .free "bool", .free "str", .free "len", .free "all", .free "any", .free "range", .free "sum", .free "list", .free "sorted", .free "tuple", .free "max", .free "min", .free "enumerate", .free "abs", .free "super", .str "LETTERS" "abcdefghijklmnopqrstuvwxyz", .int "MOST_PLACES" 12, .int "MOST_ARROWS" 60, .int "MOST_PAY" 9, .int "WHOLE" 2520, .int "MOST_GOAL" 1000, .cls "Track", .noat "Track" "places", .noat "Track" "kept_arrows", .noat "Track" "arrows", .meth "Track" "keep"] : List He.Fa) ++ ([.mkr "Track", .exm "TooMany" "TooMany" true, .keep "TooMany"] : List He.Fa)
def loose : List PySem.Str := (["StakeError", "BadTrack", "NoPlace", "TooMany", "NoCoins", "Track", "LETTERS", "MOST_PLACES", "MOST_ARROWS", "MOST_PAY", "WHOLE", "MOST_GOAL", "is_integer", "is_within", "is_from", "is_letter", "are_ascending", "check_many", "check_coins", "common_divisor", "lowest", "rounded_up", "is_arrow", "are_arrows", "is_place", "check_place", "steps_of", "reached_from", "weight", "weight_back"] : List PySem.Str) ++ (["ranks_of", "full_places", "hopeful_places", "told_pairs", "least_stake", "total", "must_keep", "turning", "common_multiple", "best_kept", "needed", "parts_needed", "pairs_with", "are_enough", "gaining", "raised_by", "stays", "greatest_stay", "least_by_place", "by_place", "least_of", "least_coins", "pairs_by", "coins_ahead", "nearer", "soonest_of", "soonest", "peak", "_law_pot", "_law_draw"] : List PySem.Str) ++ (["_law_bound", "_law_mild", "_law_parts", "_law_steps", "_law_up", "_law_need", "_law_nearer", "_law_soonest", "_law_peak", "_law_peak_right", "_law_chain_right"] : List PySem.Str)
/-! ### TooMany and its __init__ -/
abbrev tmC (K : Frag) : Addr := He.ga K "TooMany"
abbrev tmI (K : Frag) : Addr := He.ma K (tmC K) "__init__"
def tmFd (K : Frag) : Option FuncData := match K.lookup (tmI K) with
  | some ⟨_, _, .func fd, _⟩ => some fd
  | _ => none
def tmCd (K : Frag) : Addr := match tmFd K with
  | some fd => (match fd.code with
    | .ref a => a
    | _ => 0)
  | none => 0
def tmCc (K : Frag) : Addr := match tmFd K with
  | some fd => (match fd.closure with
    | [(_, a)] => a
    | _ => 0)
  | none => 0
abbrev TmV : Type := Option (Str × Str × Arguments × FuncBody × Scope × Addr × List Str × Addr)
def tmV (K : Frag) : TmV := match tmFd K with
  | some fd => some (fd.name, fd.qualname, fd.params, fd.body, fd.scope, fd.globals, fd.closure.map (·.1), fd.builtins)
  | none => none
def tmVal : TmV := some ("__init__", "TooMany.__init__", PySem.TMX.tA, .stmts PySem.TMX.tB, PySem.TMX.tS, mainGlobals, ["__class__"], builtinsNs)
def excB (K : Frag) (C : Addr) : Bool := match K.lookup C with
  | some ⟨.type "type", _, .cls cd, sl⟩ => (match cd.mro, sl.toList with
    | .ref C' :: bm, [_, _, _, _, some (.builtin n), _] => C' == C && (n == "ValueError.__new__" && (!cd.hasDel && (cd.hasDict && refsVE bm)))
    | _, _ => false)
  | _ => false
def isNone : Value → Bool
  | .none => true
  | _ => false
def plainFd (K : Frag) : Bool := match tmFd K with
  | some fd => isNone fd.defaults && (isNone fd.kwdefaults && codeIn K fd.code "TooMany.__init__")
  | none => false
def cellB (K : Frag) : Bool := match K.lookup (tmCc K) with
  | some ⟨_, _, .cell (some (.ref C')), _⟩ => C' == tmC K
  | _ => false
def fileB (K : Frag) : Bool := match K.lookup (tmCd K) with
  | some ⟨_, _, .fields vs, _⟩ => (match (vs[2]? : Option Value) with
    | some (Value.str file _) => (Pg.main.file : Str) == file
    | _ => false)
  | _ => false
def tmB (K : Frag) : List Bool := [excB K (tmC K), He.eqO (findIn K (.ref (tmC K)) "__setattr__") (some (some (.builtin "object.__setattr__"))), He.eqO (findIn K (.ref (tmC K)) "most") (some none),
  He.eqO (findIn K (.ref (tmC K)) "__init__") (some (some (.ref (tmI K)))), decide (typeIn K (.ref (tmI K)) = some (.type "function")), decide (subIn K (.ref (tmC K)) (.type "BaseException") = some true),
  decide (subIn K (.ref (tmC K)) (.type "ValueError") = some true), decide (typeIn K (.ref (tmC K)) = some (.type "type")), L2.xfB K (tmC K), He.eqO (ks_superIn K (tmC K) (tmC K) "__init__") (some (some (.builtin "ValueError.__init__"))),
  He.eqO (nsIn K cStatics "thirdparty.any") (some none), decide (mroIn K (tmC K) (.ref (tmC K)) = some true), plainFd K, cellB K, fileB K]
def tmBs : List Bool := [true, true, true, true, true, true, true, true, true, true, true, true, true, true, true]
theorem excB_ok {K : Frag} {C : Addr} (q : excB K C = true) : ∃ nm qn N bs bm sn sub ab col dd k0 k1 k2 k3 k5, K.lookup C = some (excClassObj nm qn C N bs bm true sn sub ab col dd k0 k1 k2 k3 k5 "ValueError.__new__") ∧ refsVE bm = true := by
  unfold excB at q
  split at q
  · rename_i dd cd sl ho
    split at q
    · rename_i C' bm k0 k1 k2 k3 n k5 hm hs
      obtain ⟨q1, q⟩ := He.ba q
      obtain ⟨q2, q⟩ := He.ba q
      obtain ⟨q3, q⟩ := He.ba q
      obtain ⟨q4, q5⟩ := He.ba q
      obtain ⟨nm, bs, mro, ns, qn, hdct, sn, sub, ab, col, del⟩ := cd
      have e1 : C' = C := eq_of_beq q1
      have e2 : n = "ValueError.__new__" := eq_of_beq q2
      have e3 : del = false := by simpa using q3
      have e4 : hdct = true := q4
      have e5 : mro = .ref C' :: bm := hm
      have e6 : sl = #[k0, k1, k2, k3, some (.builtin n), k5] := by
        have z : sl = sl.toList.toArray := (Array.toArray_toList (xs := sl)).symm
        rw [z, hs]
      subst e1 e2 e3 e4 e5 e6
      exact ⟨nm, qn, ns, bs, bm, sn, sub, ab, col, dd, k0, k1, k2, k3, k5, ho, q5⟩
    · cases q
  · cases q
theorem isNone_ok {v : Value} (h : isNone v = true) : v = .none := by
  cases v with
  | none => rfl
  | _ => cases h
theorem tm_txt {K : Frag} {h : Heap} {mg : Str → Option Value} (X : K.In h) (G : h.Ns mainGlobals mg) (e : tmV K = tmVal) (b : tmB K = tmBs) (g1 : (He.Fa.glo "TooMany").ok K = true) (g2 : (He.Fa.free "super").ok K = true) (g3 : (He.Fa.exm "TooMany" "TooMany" true).ok K = true) (g4 : (He.Fa.keep "TooMany").ok K = true) :
    PySem.TMX.TmTxt Pg K mg (tmC K) (tmI K) (tmCc K) (tmCd K) := by
  have b1 : excB K (tmC K) = true := congrArg (fun z : List Bool => z.getD 0 false) b
  have b2 := congrArg (fun z : List Bool => z.getD 1 false) b
  have b3 := congrArg (fun z : List Bool => z.getD 2 false) b
  have b4 := congrArg (fun z : List Bool => z.getD 3 false) b
  have b5 := congrArg (fun z : List Bool => z.getD 4 false) b
  have b6 := congrArg (fun z : List Bool => z.getD 5 false) b
  have b7 := congrArg (fun z : List Bool => z.getD 6 false) b
  have b8 := congrArg (fun z : List Bool => z.getD 7 false) b
  have b9 := congrArg (fun z : List Bool => z.getD 8 false) b
  have b10 := congrArg (fun z : List Bool => z.getD 9 false) b
  have b11 := congrArg (fun z : List Bool => z.getD 10 false) b
  have b12 := congrArg (fun z : List Bool => z.getD 11 false) b
  have b13 : plainFd K = true := congrArg (fun z : List Bool => z.getD 12 false) b
  have b14 : cellB K = true := congrArg (fun z : List Bool => z.getD 13 false) b
  have b15 : fileB K = true := congrArg (fun z : List Bool => z.getD 14 false) b
  refine ⟨He.glo_ok X G g1, excB_ok b1, He.eqO_ok b2, He.eqO_ok b3, He.eqO_ok b4, of_decide_eq_true b5, He.keep_ok g4, of_decide_eq_true b6, of_decide_eq_true b7, of_decide_eq_true b8, He.exm_ok g3, L2.xfB_ok b9, He.eqO_ok b10, He.eqO_ok b11, of_decide_eq_true b12, He.free_ok X G g2, ?_, ?_, by decide +kernel, ?_⟩
  · unfold cellB at b14
    split at b14
    · rename_i cl cld C' csl ho
      have e1 : C' = tmC K := eq_of_beq b14
      rw [e1] at ho
      exact ⟨cl, cld, csl, ho⟩
    · cases b14
  · unfold fileB at b15
    split at b15
    · rename_i cl cld vs csl ho
      split at b15
      · rename_i file tf hv
        exact ⟨cl, cld, vs, csl, file, tf, ho, hv, b15⟩
      · cases b15
    · cases b15
  · unfold tmV at e
    unfold plainFd at b13
    have hcd : tmCd K = (match tmFd K with
      | some fd => (match fd.code with
        | .ref a => a
        | _ => 0)
      | none => 0) := rfl
    have hcc : tmCc K = (match tmFd K with
      | some fd => (match fd.closure with
        | [(_, a)] => a
        | _ => 0)
      | none => 0) := rfl
    cases q : tmFd K with
    | none => rw [q] at e; cases e
    | some fd =>
      rw [q] at e b13 hcd hcc
      obtain ⟨n1, n2, n3, n4, n5, n6, n7, n8, n9, n10, n11, n12, n13, n14, n15⟩ := fd
      obtain ⟨c1, c2⟩ := He.ba b13
      obtain ⟨c2, c3⟩ := He.ba c2
      have e1 : n8 = .none := isNone_ok c1
      have e2 : n9 = .none := isNone_ok c2
      have c3 : codeIn K n13 "TooMany.__init__" = true := c3
      have e3 : (some (n1, n2, n3, n4, n5, n6, n7.map (·.1), n15) : TmV) = tmVal := e
      unfold tmVal at e3
      simp only [Option.some.injEq, Prod.mk.injEq] at e3
      obtain ⟨h1, h2, h3, h4, h5, h6, h7, h8⟩ := e3
      obtain ⟨cc, h7⟩ : ∃ cc : Addr, n7 = [(("__class__" : Str), cc)] := by
        match n7, h7 with
        | [(y, cc)], h7 =>
          have e : y = ("__class__" : Str) := (List.cons.inj h7).1
          exact ⟨cc, by rw [e]⟩
      obtain ⟨ca, hca⟩ : ∃ ca, n13 = .ref ca := by
        cases n13 with
        | ref a => exact ⟨a, rfl⟩
        | _ => cases c3
      subst h1 h2 h3 h4 h5 h6 h7 h8 e1 e2 hca
      have e4 : tmCd K = ca := hcd
      have e5 : tmCc K = cc := hcc
      rw [e4, e5]
      unfold tmFd at q
      split at q
      · rename_i oc od fd osl ho
        cases q
        exact ⟨oc, od, n10, n11, n12, n14, osl, ho, c3⟩
      · cases q
/-! ### the Hook -/
def as (g : Addr → Option Obj) : List Addr := cStatics :: He.asD g 5
abbrev Al : Type := He.AlD × TmV × List Bool
def obs (K : Frag) : Al := (He.obsD fa fn K, tmV K, tmB K)
def val : Al := (He.valD fn, tmVal, tmBs)
def hk : Hook where
  α := Al
  obs := fun s => obs (He.frG s.heap.get? (as s.heap.get?))
  val := fun _ => val
  says := fun _ h => ∃ K : Frag, K.In h ∧ obs K = val
  of := fun _ _ e => ⟨_, He.frG_in, e⟩
  keeps := fun _ _ _ ⟨K, hK, c⟩ k => ⟨K, Frag.In.keeps hK k, c⟩
def ob (s : SharedT) : Al := obs (He.frG (HandSHeadRun.getT s) (as (HandSHeadRun.getT s)))
theorem ob_eq (s : SharedT) : ob s = hk.obs s.abs := by
  have e : HandSHeadRun.getT s = s.abs.heap.get? := funext (HandSHeadRun.getT_eq s)
  show obs _ = obs _
  rw [e]
abbrev R : OpenRow := OpenLaw.row PySem.Challenge.rw_wholestakes_k45_whole_greatest_coins_tha
end Hd
end
section
set_option maxHeartbeats 0
/-! The head, part 2: the top's run. -/
namespace Hd
open PySem PySem.Spec PySem.W PySem.Calls PyProof.Rows
theorem run (w : World) : HandSHeadRun.RunEq R (view R.prog [79]) hk ob 4000 loose w := by
  intro os
  kernel_rfl
end Hd
end
section
set_option maxHeartbeats 0
/-! The head, part 3: every def's promise. -/
namespace Hd
open PySem PySem.Spec PySem.W PySem.Calls PyProof.Rows
open Y L2
theorem def_at {K : Frag} {h : Heap} {mg : Str → Option Value} (X : K.In h) (G : h.Ns mainGlobals mg) (c : He.SaysD fa fn K) (i j : Nat) {x : Str} {st : Stmt} {d : He.DefD} (hd : fn[i]? = some d) (hf : fa[j]? = some (.glo x)) (e : d = ⟨(x, none), x, x, defArgs st, defBody st, defScope st, [], []⟩) : DefAt K mg x st := by
  subst e
  obtain ⟨fd, F⟩ := c.def_ i hd
  exact ⟨_, fd, F, He.glo_ok X G (c.fact j hf)⟩
theorem facts {w : World} {K : Frag} {h : Heap} {mg : Str → Option Value} {f : Addr} (X : K.In h) (G : h.Ns mainGlobals mg) (hfa : mg ("law" : Str) = some (.ref f)) (o : obs K = val) :
    ∃ fd : FuncData, (∀ (s : Shared) (v : Value), BindsTo s fd ⟨[v], []⟩ [("_law_script", v)]) ∧ ∀ base : Heap, K.In base → base.Ns mainGlobals mg → FnOk Pg w K mg base CX0 15 f fd ["_law_script"] (spLaw K) := by
  have c : He.SaysD fa fn K := congrArg (fun z : Al => z.1) o
  have o2 : tmV K = tmVal := congrArg (fun z : Al => z.2.1) o
  have o3 : tmB K = tmBs := congrArg (fun z : Al => z.2.2) o
  obtain ⟨fd, F⟩ := (c.def_ 59 (d := d_law) rfl)
  obtain ⟨fdk, Fkeep⟩ := (c.def_ 60 (d := d_keep) rfl)
  obtain ⟨fdI, Finit⟩ := (c.def_ 61 (d := d_init) rfl)
  have e := hfa.symm.trans (He.glo_ok X G (c.fact 59 (f := .glo "law") rfl))
  cases e
  have b := FunD.bindsA (ps := ["_law_script"]) F fun _ _ _ _ _ _ us hl => match us, hl with | [_], _ => rfl
  refine ⟨fd, fun s v => b s [v] rfl, fun base _ _ => ?_⟩
  have bK : Binds K fdk ["self", "places", "arrows"] [] := Fkeep.bindsN fun _ _ _ _ _ _ us hl => match us, hl with | [_, _, _], _ => rfl
  have bI : Binds K fdI ["self", "places", "arrows"] [] := Finit.bindsN fun _ _ _ _ _ _ us hl => match us, hl with | [_, _, _], _ => rfl
  have T : Txt K mg := ⟨He.free_ok X G (c.fact 62 (f := .free "isinstance") rfl), He.free_ok X G (c.fact 63 (f := .free "int") rfl), He.free_ok X G (c.fact 64 (f := .free "bool") rfl), He.free_ok X G (c.fact 65 (f := .free "str") rfl), He.free_ok X G (c.fact 66 (f := .free "len") rfl), He.free_ok X G (c.fact 67 (f := .free "all") rfl), He.free_ok X G (c.fact 68 (f := .free "any") rfl), He.free_ok X G (c.fact 69 (f := .free "range") rfl), He.free_ok X G (c.fact 70 (f := .free "sum") rfl), He.free_ok X G (c.fact 71 (f := .free "list") rfl), He.free_ok X G (c.fact 72 (f := .free "sorted") rfl), He.free_ok X G (c.fact 73 (f := .free "tuple") rfl), He.free_ok X G (c.fact 74 (f := .free "max") rfl), He.free_ok X G (c.fact 75 (f := .free "min") rfl), He.free_ok X G (c.fact 76 (f := .free "enumerate") rfl), He.free_ok X G (c.fact 77 (f := .free "abs") rfl),
    He.int_ok X G (c.fact 83 (f := .int "WHOLE" 2520) rfl), He.int_ok X G (c.fact 80 (f := .int "MOST_PLACES" 12) rfl), He.int_ok X G (c.fact 81 (f := .int "MOST_ARROWS" 60) rfl), He.int_ok X G (c.fact 82 (f := .int "MOST_PAY" 9) rfl), He.int_ok X G (c.fact 84 (f := .int "MOST_GOAL" 1000) rfl), He.str_ok X G (c.fact 79 (f := .str "LETTERS" "abcdefghijklmnopqrstuvwxyz") rfl)⟩
  have tc : TC K (He.ga K "Track") := ⟨He.cls_ok (c.fact 85 (f := .cls "Track") rfl), He.noat_ok (c.fact 86 (f := .noat "Track" "places") rfl), He.noat_ok (c.fact 87 (f := .noat "Track" "kept_arrows") rfl), He.noat_ok (c.fact 88 (f := .noat "Track" "arrows") rfl)⟩
  have mK := He.meth_ok (c.fact 89 (f := .meth "Track" "keep") rfl)
  have mk := He.mkr_ok (c.fact 90 (f := .mkr "Track") rfl)
  have gT := He.glo_ok X G (c.fact 60 (f := .glo "Track") rfl)
  have tm := tm_txt X G o2 o3 (c.fact 61 (f := .glo "TooMany") rfl) (c.fact 78 (f := .free "super") rfl) (c.fact 91 (f := .exm "TooMany" "TooMany" true) rfl) (c.fact 92 (f := .keep "TooMany") rfl)
  have c_is_integer := ok_is_integer (P := Pg) (w := w) (base := base) T (def_at X G c 0 0 (x := "is_integer") (st := s_is_integer) rfl rfl rfl)
  have c_is_within := ok_is_within (P := Pg) (w := w) (base := base) T (def_at X G c 1 1 (x := "is_within") (st := s_is_within) rfl rfl rfl) c_is_integer
  have c_is_from := ok_is_from (P := Pg) (w := w) (base := base) T (def_at X G c 2 2 (x := "is_from") (st := s_is_from) rfl rfl rfl) c_is_integer
  have c_rounded_up := ok_rounded_up (P := Pg) (w := w) (base := base) T (def_at X G c 9 9 (x := "rounded_up") (st := s_rounded_up) rfl rfl rfl)
  have c_common_divisor := ok_common_divisor (P := Pg) (w := w) (base := base) T (def_at X G c 7 7 (x := "common_divisor") (st := s_common_divisor) rfl rfl rfl)
  have c_lowest := ok_lowest (P := Pg) (w := w) (base := base) T (def_at X G c 8 8 (x := "lowest") (st := s_lowest) rfl rfl rfl) c_common_divisor
  have c_check_coins := ok_check_coins (P := Pg) (w := w) (base := base) T (def_at X G c 6 6 (x := "check_coins") (st := s_check_coins) rfl rfl rfl) c_is_from
  have c_check_many0 := ok_check_many0 (P := Pg) (w := w) (base := base) T (def_at X G c 5 5 (x := "check_many") (st := s_check_many) rfl rfl rfl)
  have c_steps_of := ok_steps_of (P := Pg) (w := w) (base := base) T tc (def_at X G c 14 14 (x := "steps_of") (st := s_steps_of) rfl rfl rfl)
  have c_weight := ok_weight (P := Pg) (w := w) (base := base) T (def_at X G c 16 16 (x := "weight") (st := s_weight) rfl rfl rfl)
  have c_weight_back := ok_weight_back (P := Pg) (w := w) (base := base) T (def_at X G c 17 17 (x := "weight_back") (st := s_weight_back) rfl rfl rfl) c_steps_of c_weight
  have c_ranks_of := ok_ranks_of (P := Pg) (w := w) (base := base) T tc (def_at X G c 18 18 (x := "ranks_of") (st := s_ranks_of) rfl rfl rfl) c_weight_back
  have c_full_places := ok_full_places (P := Pg) (w := w) (base := base) T (def_at X G c 19 19 (x := "full_places") (st := s_full_places) rfl rfl rfl) c_ranks_of
  have c_reached_from := ok_reached_from (P := Pg) (w := w) (base := base) T (def_at X G c 15 15 (x := "reached_from") (st := s_reached_from) rfl rfl rfl) c_steps_of
  have c_hopeful_places := ok_hopeful_places (P := Pg) (w := w) (base := base) T tc (def_at X G c 20 20 (x := "hopeful_places") (st := s_hopeful_places) rfl rfl rfl) c_full_places c_reached_from
  have c_told_pairs := ok_told_pairs (P := Pg) (w := w) (base := base) T (def_at X G c 21 21 (x := "told_pairs") (st := s_told_pairs) rfl rfl rfl)
  have c_least_stake := ok_least_stake (P := Pg) (w := w) (base := base) T (def_at X G c 22 22 (x := "least_stake") (st := s_least_stake) rfl rfl rfl) c_rounded_up
  have c_total := ok_total (P := Pg) (w := w) (base := base) T (def_at X G c 23 23 (x := "total") (st := s_total) rfl rfl rfl) c_least_stake
  have c_must_keep := ok_must_keep (P := Pg) (w := w) (base := base) T (def_at X G c 24 24 (x := "must_keep") (st := s_must_keep) rfl rfl rfl)
  have c_turning := ok_turning (P := Pg) (w := w) (base := base) T (def_at X G c 25 25 (x := "turning") (st := s_turning) rfl rfl rfl) c_must_keep
  have c_common_multiple := ok_common_multiple (P := Pg) (w := w) (base := base) T (def_at X G c 26 26 (x := "common_multiple") (st := s_common_multiple) rfl rfl rfl) c_common_divisor
  have c_best_kept := ok_best_kept (P := Pg) (w := w) (base := base) T (def_at X G c 27 27 (x := "best_kept") (st := s_best_kept) rfl rfl rfl) c_turning c_common_multiple c_total
  have c_needed := ok_needed (P := Pg) (w := w) (base := base) T (def_at X G c 28 28 (x := "needed") (st := s_needed) rfl rfl rfl) c_told_pairs c_must_keep c_best_kept
  have c_parts_needed := ok_parts_needed (P := Pg) (w := w) (base := base) T (def_at X G c 29 29 (x := "parts_needed") (st := s_parts_needed) rfl rfl rfl) c_common_divisor c_turning c_lowest
  have c_pairs_with := ok_pairs_with (P := Pg) (w := w) (base := base) T (def_at X G c 30 30 (x := "pairs_with") (st := s_pairs_with) rfl rfl rfl) c_steps_of
  have c_are_enough := ok_are_enough (P := Pg) (w := w) (base := base) T (def_at X G c 31 31 (x := "are_enough") (st := s_are_enough) rfl rfl rfl) c_parts_needed c_needed
  have c_gaining := ok_gaining (P := Pg) (w := w) (base := base) T (def_at X G c 32 32 (x := "gaining") (st := s_gaining) rfl rfl rfl) c_pairs_with c_are_enough
  have c_raised_by := ok_raised_by (P := Pg) (w := w) (base := base) T (def_at X G c 33 33 (x := "raised_by") (st := s_raised_by) rfl rfl rfl)
  have c_stays := ok_stays (P := Pg) (w := w) (base := base) T (def_at X G c 34 34 (x := "stays") (st := s_stays) rfl rfl rfl) c_raised_by c_gaining
  have c_greatest_stay := ok_greatest_stay (P := Pg) (w := w) (base := base) T (def_at X G c 35 35 (x := "greatest_stay") (st := s_greatest_stay) rfl rfl rfl) c_stays
  have c_least_by_place := ok_least_by_place (P := Pg) (w := w) (base := base) T (def_at X G c 36 36 (x := "least_by_place") (st := s_least_by_place) rfl rfl rfl) c_hopeful_places c_gaining c_raised_by c_greatest_stay
  have c_by_place := ok_by_place (P := Pg) (w := w) (base := base) T tc (def_at X G c 37 37 (x := "by_place") (st := s_by_place) rfl rfl rfl)
  have c_least_of := ok_least_of (P := Pg) (w := w) (base := base) T (def_at X G c 38 38 (x := "least_of") (st := s_least_of) rfl rfl rfl) c_by_place c_least_by_place
  have c_least_coins := ok_least_coins (P := Pg) (w := w) (base := base) T (def_at X G c 39 39 (x := "least_coins") (st := s_least_coins) rfl rfl rfl) c_least_of
  have c_is_place := ok_is_place (P := Pg) (w := w) (base := base) T tc (def_at X G c 12 12 (x := "is_place") (st := s_is_place) rfl rfl rfl) c_is_within
  have c_check_place := ok_check_place (P := Pg) (w := w) (base := base) T (def_at X G c 13 13 (x := "check_place") (st := s_check_place) rfl rfl rfl) c_is_place
  have c_pairs_by := ok_pairs_by (P := Pg) (w := w) (base := base) T (def_at X G c 40 40 (x := "pairs_by") (st := s_pairs_by) rfl rfl rfl) c_steps_of
  have c_coins_ahead := ok_coins_ahead (P := Pg) (w := w) (base := base) T tc (def_at X G c 41 41 (x := "coins_ahead") (st := s_coins_ahead) rfl rfl rfl) c_pairs_by c_needed
  have c_nearer := ok_nearer (P := Pg) (w := w) (base := base) T (def_at X G c 42 42 (x := "nearer") (st := s_nearer) rfl rfl rfl) c_coins_ahead
  have c_soonest_of := ok_soonest_of (P := Pg) (w := w) (base := base) T tc (def_at X G c 43 43 (x := "soonest_of") (st := s_soonest_of) rfl rfl rfl) c_nearer
  have c_soonest := ok_soonest (P := Pg) (w := w) (base := base) T (def_at X G c 44 44 (x := "soonest") (st := s_soonest) rfl rfl rfl) c_check_place c_check_coins c_check_many0 c_soonest_of
  have c_check_manyX := ok_check_manyX (P := Pg) (w := w) (base := base) T tm (def_at X G c 5 5 (x := "check_many") (st := s_check_many) rfl rfl rfl)
  have c_peak := ok_peak (P := Pg) (w := w) (base := base) T (def_at X G c 45 45 (x := "peak") (st := s_peak) rfl rfl rfl) c_check_place c_check_coins c_check_manyX c_least_of c_soonest_of
  have c__law_peak := ok__law_peak (P := Pg) (w := w) (base := base) T tm (def_at X G c 56 56 (x := "_law_peak") (st := s_law_peak) rfl rfl rfl) c_peak
  have c__law_steps := ok__law_steps (P := Pg) (w := w) (base := base) T (def_at X G c 51 51 (x := "_law_steps") (st := s_law_steps) rfl rfl rfl)
  have c__law_up := ok__law_up (P := Pg) (w := w) (base := base) T (def_at X G c 52 52 (x := "_law_up") (st := s_law_up) rfl rfl rfl)
  have c__law_need := ok__law_need (P := Pg) (w := w) (base := base) T (def_at X G c 53 53 (x := "_law_need") (st := s_law_need) rfl rfl rfl) c__law_up
  have c__law_nearer := ok__law_nearer (P := Pg) (w := w) (base := base) T (def_at X G c 54 54 (x := "_law_nearer") (st := s_law_nearer) rfl rfl rfl) c__law_need c__law_steps
  have c__law_soonest := ok__law_soonest (P := Pg) (w := w) (base := base) T (def_at X G c 55 55 (x := "_law_soonest") (st := s_law_soonest) rfl rfl rfl) c__law_nearer
  have c__law_peak_right := ok__law_peak_right (P := Pg) (w := w) (base := base) T (def_at X G c 57 57 (x := "_law_peak_right") (st := s_law_peak_right) rfl rfl rfl) c_soonest c__law_soonest
  have c_is_letter := ok_is_letter (P := Pg) (w := w) (base := base) T (def_at X G c 3 3 (x := "is_letter") (st := s_is_letter) rfl rfl rfl)
  have c_are_ascending := ok_are_ascending (P := Pg) (w := w) (base := base) T (def_at X G c 4 4 (x := "are_ascending") (st := s_are_ascending) rfl rfl rfl)
  have c_is_arrow := ok_is_arrow (P := Pg) (w := w) (base := base) T (def_at X G c 10 10 (x := "is_arrow") (st := s_is_arrow) rfl rfl rfl) c_is_within c_is_letter
  have c_are_arrows := ok_are_arrows (P := Pg) (w := w) (base := base) T (def_at X G c 11 11 (x := "are_arrows") (st := s_are_arrows) rfl rfl rfl) c_is_arrow c_are_ascending
  have Fk := ok_keep (P := Pg) (w := w) (base := base) T tc Fkeep
  have Fi := ok_init (P := Pg) (w := w) (base := base) T tc Finit mK Fk bK c_is_within c_are_arrows
  have c__law_draw := ok__law_draw (P := Pg) (w := w) (base := base) T (def_at X G c 47 47 (x := "_law_draw") (st := s_law_draw) rfl rfl rfl)
  have c__law_pot := ok__law_pot (P := Pg) (w := w) (base := base) T (def_at X G c 46 46 (x := "_law_pot") (st := s_law_pot) rfl rfl rfl)
  have c__law_bound := ok__law_bound (P := Pg) (w := w) (base := base) T (def_at X G c 48 48 (x := "_law_bound") (st := s_law_bound) rfl rfl rfl)
  have c__law_mild := ok__law_mild (P := Pg) (w := w) (base := base) T (def_at X G c 49 49 (x := "_law_mild") (st := s_law_mild) rfl rfl rfl) c__law_bound
  have c__law_parts := ok__law_parts (P := Pg) (w := w) (base := base) T (def_at X G c 50 50 (x := "_law_parts") (st := s_law_parts) rfl rfl rfl) c__law_mild c__law_draw
  have c__law_chain_right := ok__law_chain_right (P := Pg) (w := w) (base := base) T (def_at X G c 58 58 (x := "_law_chain_right") (st := s_law_chain_right) rfl rfl rfl) mk Fi gT bI c__law_peak c__law_draw
  exact ok_law (P := Pg) (w := w) (base := base) T F mk Fi gT bI c__law_pot c__law_chain_right c__law_parts c__law_draw c_least_coins c__law_peak c__law_peak_right c_soonest
end Hd
end
section
set_option maxHeartbeats 0
open PySem PySem.W PySem.Calls PyProof.Rows
theorem PySem.Challenge.cw_wholestakes_k45_whole_greatest_coins_tha_holds : PySem.Challenge.rw_wholestakes_k45_whole_greatest_coins_tha.Holds := by
  w_on; o_law
  refine HandSHeadRun.head_any (r := OpenLaw.row PySem.Challenge.rw_wholestakes_k45_whole_greatest_coins_tha) (q := view (OpenLaw.row PySem.Challenge.rw_wholestakes_k45_whole_greatest_coins_tha).prog [79]) (H := Hd.hk) (ob := Hd.ob) (M := 4000) (loose := Hd.loose) (d := HandSHeadRun.topDef (OpenLaw.row PySem.Challenge.rw_wholestakes_k45_whole_greatest_coins_tha).prog 79) (kwd := []) Hd.ob_eq
    (by kernel_rfl) (fun s => by kernel_rfl) Hd.run (by kernel_rfl) (by kernel_rfl) (by kernel_rfl) (by rfl) (by first | assumption | decide +kernel) (by decide +kernel) ⟨rfl, rfl, rfl, rfl, rfl, by decide +kernel⟩ ?hw ?hc
  case hw => w_witness2
  case hc =>
    refine L2.walk_ofE (l := PySem.Challenge.rw_wholestakes_k45_whole_greatest_coins_tha) (n := 63) (k := 15) (x := "_law_script") (CX := L2.CX0) rfl (by decide) (by kernel_rfl) ⟨rfl, by decide, by decide⟩ ?F (fun _ _ _ _ z => z)
    intro w mg fa h Y0 G hmg0
    obtain ⟨K, KX, c⟩ := Y0
    have hmg : mg ("law" : PySem.Str) = some (.ref fa) := by
      have e : (HandSHeadRun.topDef (OpenLaw.row PySem.Challenge.rw_wholestakes_k45_whole_greatest_coins_tha).prog 79).name = ("law" : PySem.Str) := by kernel_rfl
      rw [← e]
      exact hmg0
    obtain ⟨fd, hb, hF⟩ := Hd.facts (w := w) KX G hmg c
    exact ⟨K, fd, Y.spLaw K, KX, hb, fun H a ns hl hO hS => ⟨a, ns, rfl, hl, hO, hS, fun _ => rfl⟩, hF⟩
end
