import PyProof.Rows.All
import Wide.All
import OpenK.AllK
import Wide.FinOn
import HandS.ForMost
import PySem.Challenge.RW_neverleapt_k43_whole_great_steps_and_spa
import PyProof.EqAt
import PyProof.EqKinds
import PyProof.TupleCall
import PyProof.LongRange
import HandS.ForExc
import HandS.DictComp
import HandS.IsInst
import HandS.SortInts
import HandS.TupAny
import HandS.TupMul
import HandS.Wide
import HandS.Strs
import HandS.SetFor
import HandS.Evl
import HandS.Defaults
import HandS.HeadHook1
import HandS.Steps
import HandS.Iter
import KE.KExcSuper
import KE.KStateDown
import Lean
import HandS.Head0
import HandS.Head1
import HandS.Head2
import HandS.HeadEnd
import HandS.HeadHook2
import HandS.HeadWalk
set_option linter.all false
set_option Elab.async false
/-! NvMath: the plain law. Six parts of a lot of whole numbers, what is in it, its least form; no program in sight. -/
namespace Nv

/-! ### remainders -/
theorem emod_lt' {a k : Int} (h : 0 < k) : a % k < k := Int.emod_lt_of_pos a h
theorem emod_nn {a k : Int} (h : 0 < k) : 0 ≤ a % k := Int.emod_nonneg a (by omega)
theorem mod_same {a r k : Int} (h0 : 0 ≤ r) (h1 : r < k) (h : a % k = r) : r % k = r := Int.emod_eq_of_lt h0 h1
theorem mod_add_mul {a k j : Int} : (a + k * j) % k = a % k := Int.add_mul_emod_self_left a k j
theorem mod_self_of {r k : Int} (h0 : 0 ≤ r) (h1 : r < k) : r % k = r := Int.emod_eq_of_lt h0 h1
theorem mod_mod_dvd {a m k : Int} (h : m % k = 0) : (a % m) % k = a % k := Int.emod_emod_of_dvd a (Int.dvd_of_emod_eq_zero h)
/-- equal rests are apart by a multiple -/
theorem mod_eq_iff {a b k : Int} (hk : 0 < k) : a % k = b % k ↔ ∃ j, a = b + k * j := by
  constructor
  · intro h
    refine ⟨a / k - b / k, ?_⟩
    have e1 := Int.emod_add_mul_ediv a k
    have e2 := Int.emod_add_mul_ediv b k
    rw [Int.mul_sub]
    omega
  · rintro ⟨j, rfl⟩
    exact mod_add_mul

/-! ### six parts -/
structure P6 where
  low : Int
  high : Int
  ms : List Int
  st : Int
  bl : List Int
  ab : List Int
  deriving DecidableEq

def inR (rests : List Int) (st n : Int) : Bool := decide (n % st ∈ rests)
def P6.has (p : P6) (n : Int) : Bool := if n < p.low then inR p.bl p.st n else if n < p.high then decide (n ∈ p.ms) else inR p.ab p.st n
structure Rests (st : Int) (rs : List Int) : Prop where
  asc : rs.Pairwise (· < ·)
  bnd : ∀ r ∈ rs, 0 ≤ r ∧ r < st
/-- right parts, of any size -/
structure P6.Wf (p : P6) : Prop where
  le : p.low ≤ p.high
  asc : p.ms.Pairwise (· < ·)
  bnd : ∀ n ∈ p.ms, p.low ≤ n ∧ n < p.high
  pos : 0 < p.st
  bl : Rests p.st p.bl
  ab : Rests p.st p.ab

/-! ### coming round by a part of the step -/
def Rnd (rests : List Int) (st k : Int) : Prop := ∀ r ∈ rests, (r + k) % st ∈ rests
def Good (st : Int) (bl ab : List Int) (k : Int) : Prop := st % k = 0 ∧ Rnd bl st k ∧ Rnd ab st k
structure IsStep (st : Int) (bl ab : List Int) (k : Int) : Prop where
  lo : 1 ≤ k
  hi : k ≤ st
  good : Good st bl ab k
  least : ∀ j, 1 ≤ j → j < k → ¬ Good st bl ab j
theorem IsStep.uniq {st : Int} {bl ab : List Int} {k j : Int} (a : IsStep st bl ab k) (b : IsStep st bl ab j) : k = j := by
  rcases Int.lt_trichotomy k j with h | h | h
  · exact absurd a.good (b.least k a.lo h)
  · exact h
  · exact absurd b.good (a.least j b.lo h)
theorem good_self {st : Int} {bl ab : List Int} (hst : 0 < st) (hb : Rests st bl) (ha : Rests st ab) : Good st bl ab st := by
  have key : ∀ {rs : List Int}, Rests st rs → Rnd rs st st := fun {rs} h r hr => by
    obtain ⟨h0, h1⟩ := h.bnd r hr
    have e : (r + st) % st = r := by rw [Int.add_emod_right]; exact mod_self_of h0 h1
    rw [e]; exact hr
  exact ⟨Int.emod_self, key hb, key ha⟩
def cut (rests : List Int) (k : Int) : List Int := rests.filter fun r => decide (r < k)
theorem rnd_times {rests : List Int} {st k : Int} (hst : 0 < st) (h : Rnd rests st k) (hr : Rests st rests) : ∀ (j : Nat) (r : Int), r ∈ rests → (r + (j : Int) * k) % st ∈ rests
  | 0, r, m => by
    have e : (r + ((0 : Nat) : Int) * k) % st = r := by
      rw [show r + ((0 : Nat) : Int) * k = r by simp]
      exact mod_self_of (hr.bnd r m).1 (hr.bnd r m).2
    rw [e]; exact m
  | j + 1, r, m => by
    have ih := rnd_times hst h hr j r m
    have q := h _ ih
    have e : ((r + (j : Int) * k) % st + k) % st = (r + ((j + 1 : Nat) : Int) * k) % st := by
      rw [Int.emod_add_emod]
      congr 1
      push_cast
      rw [Int.add_mul]; omega
    rw [e] at q; exact q
/-- what comes round by k is told by k -/
theorem inR_cut {rests : List Int} {st k : Int} (hst : 0 < st) (hk : 0 < k) (hd : st % k = 0) (h : Rnd rests st k) (hr : Rests st rests) (n : Int) : inR (cut rests k) k n = inR rests st n := by
  obtain ⟨c, hc⟩ := Int.dvd_of_emod_eq_zero hd
  have hcpos : 0 < c := by
    rcases Int.lt_or_le 0 c with q | q
    · exact q
    · have : k * c ≤ 0 := Int.mul_nonpos_of_nonneg_of_nonpos (by omega) q
      omega
  -- from a rest to any number of the same rest by k
  have step : ∀ (a b : Int), a ∈ rests → b % k = a % k → b % st ∈ rests := fun a b ha hab => by
    obtain ⟨j, rfl⟩ := (mod_eq_iff hk).mp hab
    have nn : 0 ≤ j % c := Int.emod_nonneg _ (by omega)
    have q := rnd_times hst h hr (j % c).toNat a ha
    rw [Int.toNat_of_nonneg nn] at q
    have e : (a + j % c * k) % st = (a + k * j) % st := by
      refine (mod_eq_iff hst).mpr ⟨-(j / c), ?_⟩
      have e1 := Int.emod_add_mul_ediv j c
      have e2 : k * j = k * (j % c) + k * (c * (j / c)) := by rw [← Int.mul_add, e1]
      have e3 : k * (c * (j / c)) = st * (j / c) := by rw [hc, Int.mul_assoc]
      have e4 : st * -(j / c) = -(st * (j / c)) := Int.mul_neg _ _
      have e5 : j % c * k = k * (j % c) := Int.mul_comm _ _
      omega
    rw [e] at q; exact q
  have kle : k ≤ st := by
    have : k * 1 ≤ k * c := Int.mul_le_mul_of_nonneg_left (by omega) (by omega)
    omega
  unfold inR cut
  refine decide_eq_decide.mpr ?_
  rw [List.mem_filter]
  constructor
  · rintro ⟨m, _⟩
    refine step _ n m ?_
    rw [Int.emod_emod_of_dvd n (Int.dvd_refl k)]
  · intro m
    have q := step _ (n % k) m (by rw [mod_mod_dvd hd, Int.emod_emod_of_dvd n (Int.dvd_refl k)])
    have nl := emod_lt' (a := n) hk
    have n0 := emod_nn (a := n) hk
    rw [mod_self_of n0 (by omega)] at q
    exact ⟨q, decide_eq_true nl⟩
theorem cut_rests {rests : List Int} {st k : Int} (hr : Rests st rests) : Rests k (cut rests k) :=
  ⟨hr.asc.sublist List.filter_sublist, fun r m => by
    obtain ⟨m1, m2⟩ := List.mem_filter.mp m
    exact ⟨(hr.bnd r m1).1, of_decide_eq_true m2⟩⟩
def P6.red (p : P6) (k : Int) : P6 := ⟨p.low, p.high, p.ms, k, cut p.bl k, cut p.ab k⟩
theorem P6.red_wf {p : P6} (w : p.Wf) {k : Int} (hk : 0 < k) : (p.red k).Wf := ⟨w.le, w.asc, w.bnd, hk, cut_rests w.bl, cut_rests w.ab⟩
theorem P6.red_has {p : P6} (w : p.Wf) {k : Int} (hk : 0 < k) (g : Good p.st p.bl p.ab k) (n : Int) : (p.red k).has n = p.has n := by
  unfold P6.has P6.red
  dsimp only
  rw [inR_cut w.pos hk g.1 g.2.1 w.bl, inR_cut w.pos hk g.1 g.2.2 w.ab]

/-! ### the borders -/
/-- n is not as the rests above tell -/
def P6.dif (q : P6) (n : Int) : Prop := q.has n ≠ inR q.ab q.st n
def IsTop (q : P6) : Option Int → Prop
  | none => ∀ n, n < q.high → ¬ q.dif n
  | some t => t ≤ q.high ∧ q.dif (t - 1) ∧ ∀ n, t ≤ n → n < q.high → ¬ q.dif n
theorem IsTop.uniq {q : P6} : ∀ {a b : Option Int}, IsTop q a → IsTop q b → a = b
  | none, none, _, _ => rfl
  | none, some t, h, ⟨h1, h2, _⟩ => absurd h2 (h (t - 1) (by omega))
  | some t, none, ⟨h1, h2, _⟩, h => absurd h2 (h (t - 1) (by omega))
  | some t, some u, ⟨h1, h2, h3⟩, ⟨k1, k2, k3⟩ => by
    rcases Int.lt_trichotomy t u with h | h | h
    · exact absurd k2 (h3 (u - 1) (by omega) (by omega))
    · rw [h]
    · exact absurd h2 (k3 (t - 1) (by omega) (by omega))
/-- n, between the borders, is not as the rests below tell -/
def P6.eld (q : P6) (n : Int) : Prop := decide (n ∈ q.ms) ≠ inR q.bl q.st n
def IsBot (q : P6) (t b : Int) : Prop := (t ≤ q.low → b = t) ∧ (q.low < t → q.low ≤ b ∧ b ≤ t ∧ (∀ n, q.low ≤ n → n < b → ¬ q.eld n) ∧ (b < t → q.eld b))
theorem IsBot.uniq {q : P6} {t b c : Int} (h : IsBot q t b) (k : IsBot q t c) : b = c := by
  by_cases hl : t ≤ q.low
  · rw [h.1 hl, k.1 hl]
  · obtain ⟨h1, h2, h3, h4⟩ := h.2 (by omega)
    obtain ⟨k1, k2, k3, k4⟩ := k.2 (by omega)
    rcases Int.lt_trichotomy b c with z | z | z
    · exact absurd (h4 (by omega)) (k3 b h1 z)
    · exact z
    · exact absurd (k4 (by omega)) (h3 c k1 z)
def within (ms : List Int) (b t : Int) : List Int := ms.filter fun n => decide (b ≤ n ∧ n < t)
/-- l is the least form of p -/
def IsLeast (p l : P6) : Prop := ∃ k, IsStep p.st p.bl p.ab k ∧
  ((IsTop (p.red k) none ∧ l = ⟨0, 0, [], k, cut p.bl k, cut p.ab k⟩) ∨
   ∃ t b, IsTop (p.red k) (some t) ∧ IsBot (p.red k) t b ∧ l = ⟨b, t, within p.ms b t, k, cut p.bl k, cut p.ab k⟩)
theorem IsLeast.uniq {p l m : P6} (a : IsLeast p l) (b : IsLeast p m) : l = m := by
  obtain ⟨k, hk, ha⟩ := a
  obtain ⟨j, hj, hb⟩ := b
  have e := hk.uniq hj
  subst e
  rcases ha with ⟨ha, rfl⟩ | ⟨t, b, ht, hb1, rfl⟩
  · rcases hb with ⟨hb, rfl⟩ | ⟨u, c, hu, hc, rfl⟩
    · rfl
    · cases ha.uniq hu
  · rcases hb with ⟨hb, rfl⟩ | ⟨u, c, hu, hc, rfl⟩
    · cases ht.uniq hb
    · have e := Option.some.inj (ht.uniq hu)
      subst e
      rw [hb1.uniq hc]
theorem inR_shift {rs : List Int} {st n j : Int} : inR rs st (n + st * j) = inR rs st n := by
  unfold inR
  rw [mod_add_mul]
theorem down_to {n high st : Int} (h : 0 < st) : ∃ j, n + st * j < high ∧ high - st ≤ n + st * j := by
  refine ⟨-((n - (high - st)) / st), ?_⟩
  have e1 := Int.emod_add_mul_ediv (n - (high - st)) st
  have e2 : st * -((n - (high - st)) / st) = -(st * ((n - (high - st)) / st)) := Int.mul_neg _ _
  have e3 := emod_lt' (a := n - (high - st)) h
  have e4 := emod_nn (a := n - (high - st)) h
  omega
theorem not_ne {a b : Bool} (h : ¬ a ≠ b) : a = b := Decidable.of_not_not h
/-- the least form tells the same lot -/
theorem IsLeast.has {p l : P6} (w : p.Wf) (h : IsLeast p l) (n : Int) : l.has n = p.has n := by
  obtain ⟨k, hk, h⟩ := h
  have kpos : 0 < k := by have := hk.lo; omega
  rw [← P6.red_has w kpos hk.good n]
  have wq := P6.red_wf w kpos
  rcases h with ⟨ht, rfl⟩ | ⟨t, b, ⟨t1, t2, t3⟩, hb, rfl⟩
  · -- everywhere as above
    have up : ∀ n, (p.red k).has n = inR (cut p.ab k) k n := fun n => by
      by_cases c : n < p.high
      · exact not_ne (ht n c)
      · unfold P6.has P6.red
        dsimp only
        rw [if_neg (by have := w.le; omega), if_neg c]
    have bl : ∀ n, inR (cut p.bl k) k n = inR (cut p.ab k) k n := fun n => by
      obtain ⟨j, hj, _⟩ := down_to (n := n) (high := p.low) kpos
      have q := up (n + k * j)
      rw [inR_shift] at q
      have e : (p.red k).has (n + k * j) = inR (cut p.bl k) k (n + k * j) := by
        unfold P6.has P6.red
        dsimp only
        rw [if_pos hj]
      rw [e, inR_shift] at q
      exact q
    rw [up n]
    unfold P6.has
    dsimp only
    by_cases c : n < 0
    · rw [if_pos c, bl n]
    · rw [if_neg c, if_neg c]
  · have t1' : t ≤ p.high := t1
    unfold P6.has
    dsimp only
    have bt : b ≤ t := by
      by_cases hl : t ≤ p.low
      · rw [hb.1 hl]; exact Int.le_refl _
      · exact (hb.2 (by show p.low < t; omega)).2.1
    by_cases c1 : n < b
    · rw [if_pos c1]
      by_cases c2 : n < p.low
      · show _ = if n < p.low then _ else _
        rw [if_pos c2]; rfl
      · by_cases hl : t ≤ p.low
        · have := hb.1 hl; omega
        · obtain ⟨h1, h2, h3, h4⟩ := hb.2 (by show p.low < t; omega)
          have q := not_ne (h3 n (by show p.low ≤ n; omega) c1)
          show _ = if n < p.low then _ else if n < p.high then _ else _
          rw [if_neg c2, if_pos (by omega)]
          exact q.symm
    · rw [if_neg c1]
      by_cases c2 : n < t
      · rw [if_pos c2]
        have hl : ¬ t ≤ p.low := fun hl => by have := hb.1 hl; omega
        obtain ⟨h1, h2, h3, h4⟩ := hb.2 (by show p.low < t; omega)
        have h1' : p.low ≤ b := h1
        show _ = if n < p.low then _ else if n < p.high then _ else _
        rw [if_neg (by omega), if_pos (by omega)]
        refine decide_eq_decide.mpr ?_
        unfold within
        rw [List.mem_filter]
        exact ⟨fun z => z.1, fun z => ⟨z, decide_eq_true ⟨by omega, c2⟩⟩⟩
      · rw [if_neg c2]
        by_cases c3 : n < p.high
        · have q := not_ne (t3 n (by omega) c3)
          exact q.symm
        · show _ = if n < p.low then _ else if n < p.high then _ else _
          rw [if_neg (by have := w.le; omega), if_neg c3]; rfl
theorem IsLeast.wf {p l : P6} (w : p.Wf) (h : IsLeast p l) : l.Wf := by
  obtain ⟨k, hk, h⟩ := h
  have kpos : 0 < k := by have := hk.lo; omega
  have wq := P6.red_wf w kpos
  rcases h with ⟨ht, rfl⟩ | ⟨t, b, ht, hb, rfl⟩
  · exact ⟨Int.le_refl _, List.Pairwise.nil, fun n m => absurd m (by simp), kpos, wq.bl, wq.ab⟩
  · refine ⟨?_, w.asc.sublist List.filter_sublist, fun n m => of_decide_eq_true (List.mem_filter.mp m).2, kpos, wq.bl, wq.ab⟩
    show b ≤ t
    by_cases hl : t ≤ p.low
    · rw [hb.1 hl]; exact Int.le_refl _
    · exact (hb.2 (by show p.low < t; omega)).2.1
theorem IsLeast.st_le {p l : P6} (h : IsLeast p l) : 1 ≤ l.st ∧ l.st ≤ p.st := by
  obtain ⟨k, hk, h⟩ := h
  rcases h with ⟨ht, rfl⟩ | ⟨t, b, ht, hb, rfl⟩
  · exact ⟨hk.lo, hk.hi⟩
  · exact ⟨hk.lo, hk.hi⟩
theorem IsLeast.span {p l : P6} (w : p.Wf) (h : IsLeast p l) : l.high - l.low ≤ p.high - p.low := by
  have wl := w.le
  obtain ⟨k, hk, h⟩ := h
  rcases h with ⟨ht, rfl⟩ | ⟨t, b, ⟨t1, _, _⟩, hb, rfl⟩
  · show (0 : Int) - 0 ≤ _
    omega
  · show t - b ≤ _
    have t1' : t ≤ p.high := t1
    by_cases hl : t ≤ p.low
    · rw [hb.1 hl]; omega
    · have h1 : p.low ≤ b := (hb.2 (by show p.low < t; omega)).1
      omega
theorem IsLeast.few {p l : P6} (h : IsLeast p l) : l.ms.length ≤ p.ms.length ∧ l.bl.length ≤ p.bl.length ∧ l.ab.length ≤ p.ab.length := by
  obtain ⟨k, hk, h⟩ := h
  rcases h with ⟨ht, rfl⟩ | ⟨t, b, ht, hb, rfl⟩
  · exact ⟨Nat.zero_le _, List.length_filter_le _ _, List.length_filter_le _ _⟩
  · exact ⟨List.length_filter_le _ _, List.length_filter_le _ _, List.length_filter_le _ _⟩
end Nv
set_option Elab.async false
set_option linter.all false
set_option maxRecDepth 100000
/-! NvTop: the defs of the row, by their places (printed by nvtop.py). -/
namespace Nv
open PySem L2
def top (i : Nat) : Stmt := PySem.Challenge.pw_neverleapt_k43_whole_great_steps_and_spa.main.body.getD i (.Pass ⟨0, 0, 0, 0⟩)
abbrev sTooMany_Init : Stmt := inClass (top 2) 0
abbrev sBadLot_Init : Stmt := inClass (top 3) 0
abbrev sIsInteger : Stmt := top 6
abbrev sIsWithin : Stmt := top 7
abbrev sIsAscending : Stmt := top 8
abbrev sCommonDivisor : Stmt := top 9
abbrev sIsRising : Stmt := top 13
abbrev sKeyed : Stmt := top 14
abbrev sIsRound : Stmt := top 15
abbrev sLeastStep : Stmt := top 16
abbrev sLeastHigh : Stmt := top 17
abbrev sGreatestLow : Stmt := top 18
abbrev sLot_Init : Stmt := inClass (top 19) 0
abbrev sLot_Keep : Stmt := inClass (top 19) 1
abbrev sLot_Told : Stmt := inClass (top 19) 2
abbrev sLot_Eq : Stmt := inClass (top 19) 3
abbrev sRawLot_Init : Stmt := inClass (top 20) 0
abbrev sHas : Stmt := top 21
abbrev sIsIn : Stmt := top 22
abbrev sCheckInteger : Stmt := top 23
abbrev sCommonMultiple : Stmt := top 24
abbrev sMixed : Stmt := top 25
abbrev sCheckMixing : Stmt := top 26
abbrev sJoined : Stmt := top 27
abbrev sCommon : Stmt := top 28
abbrev sIsFitting : Stmt := top 29
abbrev sOutBetween : Stmt := top 30
abbrev sNextOutAbove : Stmt := top 31
abbrev sIsPartOf : Stmt := top 32
abbrev sIsPart : Stmt := top 33
abbrev sNextAboveOf : Stmt := top 34
abbrev sNextAbove : Stmt := top 35
abbrev sManyWith : Stmt := top 36
abbrev sManyIn : Stmt := top 37
abbrev sLPot : Stmt := top 39
abbrev sLDraw : Stmt := top 40
abbrev sLAny : Stmt := top 41
abbrev sLLot : Stmt := top 42
abbrev sLHas : Stmt := top 43
abbrev sLGcd : Stmt := top 44
abbrev sLSix : Stmt := top 45
abbrev sLMoved : Stmt := top 46
abbrev sLFar : Stmt := top 47
abbrev sLIsFlag : Stmt := top 48
abbrev sLRests : Stmt := top 49
abbrev sLGreat : Stmt := top 50
abbrev sLRound : Stmt := top 51
abbrev sLLeast : Stmt := top 52
abbrev sLMix : Stmt := top 53
abbrev sLIsMixed : Stmt := top 54
abbrev sLaw : Stmt := top 55
end Nv
set_option Elab.async false
set_option linter.all false
set_option maxRecDepth 100000
set_option maxHeartbeats 2000000
/-! NvKit: rules of our own beside the layer: ranges of any size, bool + bool, a set of a list of ints. -/
namespace Nv
open PySem PySem.Spec PyProof.Rows L2

/-! ### a range beyond 64 bits -/
theorem turn_long {P : Program} {w : World} {K : PySem.W.Frag} {tg : Expr} (it : Addr) (lo c : Int) (n : Nat) :
    Turn P w K tg (Itc lo c n) [it] it (fun i h => IsLongIter h it (lo + (i : Nat) * c) ((n : Int) - (i : Nat)) c) where
  mem := by simp
  obj := fun i h st b hb => by
    obtain rfl : b = it := by simpa using hb
    exact ⟨_, st, fun v z => nomatch z⟩
  keep := fun i h h' st k => k it (by simp) _ st
  item := by
    intro X hP hw hK hc i pins s σ H E I hf st hg
    subst hP hw hK
    obtain ⟨f0, f1, f2, f3, f4, f5⟩ := hf it (by simp)
    have hi : i < n := hg
    refine wpAny_pyNext_long_item st (by omega) fun h' st' sb => ?_
    have J : Inv X pins σ H { s with heap := h', toks := s.toks + 1 } := I.turned (fun b o hb e => (sb.2 b hb).trans e) f0 f1 f3 f4 f5
    have e1 : lo + ((i + 1 : Nat) : Int) * c = lo + (i : Int) * c + c := by push_cast; rw [Int.add_mul, Int.one_mul, Int.add_assoc]
    have e2 : (n : Int) - ((i + 1 : Nat) : Int) = (n : Int) - (i : Int) - 1 := by push_cast; omega
    refine ⟨_, rfl, go_of (s := { s with heap := h', toks := s.toks + 1 }) (n := "longrange_iterator") st' rfl rfl (by decide)
      ⟨.int (lo + (i : Nat) * c), H, J, ⟨s.toks, rfl⟩, ⟨rfl, rfl⟩, ?_, fun b hb => (hf b hb).1⟩⟩
    rw [e1, e2]
    exact st'
  done := by
    intro X hP hw hK hc i pins s σ H E I hf st hg
    subst hP hw hK
    obtain ⟨f0, f1, f2, f3, f4, f5⟩ := hf it (by simp)
    have hi : n ≤ i := hg
    exact wpAny_pyNext_long_end (I.ok.hd hc) st (by omega) fun h' eb => ⟨rfl, I.turned (t' := s.toks) (fun b o hb e => eb b o hb e) f0 f1 f3 f4 f5⟩
  self := fun A i s Q E st h => wpAny_pyIter_longiter st h
/-- range(i, j, c) of n items, the bounds of any size -/
def RgW (i j c : Int) (n : Nat) : Prop := c ≠ 0 ∧ c.natAbs < 1073741824 ∧ Builtin.Range.rangeSize i j c = n
def iRngW3 (ta : TA) : TI := fun σ H R => ta σ H fun vs H1 => ∃ (i j c : Int) (n : Nat), vs = [.int i, .int j, .int c] ∧ RgW i j c n ∧ R (Itc i c n) H1
def iRngW2 (ta : TA) : TI := fun σ H R => ta σ H fun vs H1 => ∃ (i j : Int), vs = [.int i, .int j] ∧ R (Itc i 1 (j - i).toNat) H1
section
variable {X : Cx} {tg : Expr}
theorem rangeW_it {pins : List (Addr × Obj)} {σ : L2.St} {H : Hp} {s : Shared} {R : It → Hp → Prop} {E : Value → Shared → Prop} {i j c : Int} {n : Nat} {t u v : Tok} {tk : Nat} (I : Inv X pins σ H s)
    (hn : Builtin.Range.rangeSize i j c = n) (q : R (Itc i c n) H) :
    wpAny (model X.prog X.w) X.A (pyIter (.ref s.heap.objs.size)) (PIE X pins σ tg R) E { s with heap := s.heap.push { cls := .type "range", data := .fields #[.int i t, .int j u, .int c v] }, toks := tk } := by
  have J : Inv X pins σ H { s with heap := s.heap.push { cls := .type "range", data := .fields #[.int i t, .int j u, .int c v] }, toks := tk } := I.kept (t' := tk) fun b o e => Heap.get?_push_of_some _ e
  have e1 : i + ((0 : Nat) : Int) * c = i := by simp
  have e2 : (n : Int) - ((0 : Nat) : Int) = Builtin.Range.rangeSize i j c := by rw [hn]; simp
  cases sm : Builtin.Range.small i j c with
  | true =>
    refine wpAny_pyIter_range (IsRange.new ..) sm ?_
    refine pi_one (tk := tk) J _ (turn_rangeC _ i c n) ?_ q
    show IsRangeIter _ _ (i + ((0 : Nat) : Int) * c) ((n : Int) - ((0 : Nat) : Int)) c
    rw [e1, e2]
    exact Heap.get?_push_size _ rfl
  | false =>
    refine wpAny_pyIter_longrange (IsRange.new ..) sm ?_
    refine pi_one (tk := tk) J _ (turn_long _ i c n) ?_ q
    show IsLongIter _ _ (i + ((0 : Nat) : Int) * c) ((n : Int) - ((0 : Nat) : Int)) c
    rw [e1, e2]
    exact Heap.get?_push_size _ rfl
theorem pi_rangeW3 {a b c : Expr} {ta : TA} {p pos : Pos} (hg : Gl X "range") (hm : X.mg "range" = none) (ha : PA X [a, b, c] ta)
    (hs : starEach [a, b, c] X.env = (false, eval a X.env) :: starEach [b, c] X.env := by rfl) (hpl : (backTo pos (starEach [b, c] X.env)).any (·.1) = false := by rfl) :
    PI X tg (.Call (.Name "range" p) [a, b, c] [] pos) (iRngW3 ta) := by
  refine ⟨fun pins s σ H R I h => Call_ (ld_blt I hg hm boot_range (PyProof.Rows.callWith_type1 (thn (ha.run pos pins s σ H _ I h) fun us s1 hx => ?_) hs hpl))⟩
  obtain ⟨vs, H1, I1, r1, i, j, k, n, e, ⟨c0, c1, c3⟩, q⟩ := hx
  subst e
  cases r1 with
  | cons ra r1 => cases r1 with
    | cons rb r1 => cases r1 with
      | cons rc r1 =>
        cases r1
        obtain ⟨t, rfl⟩ := ra
        obtain ⟨t', rfl⟩ := rb
        obtain ⟨t'', rfl⟩ := rc
        exact call_range_3 c0 (rangeW_it (tk := s1.toks) I1 c3 q) (.inl (PyProof.noPylong_small c1))
theorem size_one (i j : Int) : Builtin.Range.rangeSize i j 1 = ((j - i).toNat : Int) := by
  rw [rangeSize_one]
  split <;> omega
theorem pi_rangeW2 {a b : Expr} {ta : TA} {p pos : Pos} (hg : Gl X "range") (hm : X.mg "range" = none) (ha : PA X [a, b] ta)
    (hs : starEach [a, b] X.env = (false, eval a X.env) :: starEach [b] X.env := by rfl) (hpl : (backTo pos (starEach [b] X.env)).any (·.1) = false := by rfl) :
    PI X tg (.Call (.Name "range" p) [a, b] [] pos) (iRngW2 ta) := by
  refine ⟨fun pins s σ H R I h => Call_ (ld_blt I hg hm boot_range (PyProof.Rows.callWith_type1 (thn (ha.run pos pins s σ H _ I h) fun us s1 hx => ?_) hs hpl))⟩
  obtain ⟨vs, H1, I1, r1, i, j, e, q⟩ := hx
  subst e
  cases r1 with
  | cons ra r1 => cases r1 with
    | cons rb r1 =>
      cases r1
      obtain ⟨t, rfl⟩ := ra
      obtain ⟨t', rfl⟩ := rb
      exact call_range_2 (rangeW_it (v := s1.toks) (tk := s1.toks + 1) I1 (size_one i j) q)
end

/-! ### the same rules, the written part named (within a comprehension's block) -/
section
variable {X : Cx} {K : PySem.W.Frag}
theorem kIxT (h : X.K = K) : IxR X (rIxT K) := h ▸ ix_tup
theorem kIxL (h : X.K = K) : IxR X (rIxL K) := h ▸ ix_list
theorem kInS (h : X.K = K) : OpR X (compareOp .In) (rIn K false) := h ▸ op_in_seq
theorem kNiS (h : X.K = K) : OpR X (compareOp .NotIn) (rIn K true) := h ▸ op_notIn_seq
theorem kFld {e : Expr} {f : Str} {ta : TE} {pos : Pos} (h : X.K = K) (he : PE X e ta) (hb : attributeBase e f X.env (eval e X.env) = eval e X.env := by rfl) : PE X (.Attribute e f pos) (tFld K ta f) := h ▸ pe_fld he hb
theorem kLen (h : X.K = K) : CallR X (.builtin "len") (fun xs H Q => ∃ p ys, xs = [.ref p] ∧ (SqL K H p ys ∨ SqT K H p ys) ∧ Q (.int ys.length) H) := h ▸ call_len_seq
end

/-! ### bool + bool -/
section
variable {X : Cx}
def rAddB : R2 := fun x y H Q => ∃ a b, x = .bl a ∧ y = .bl b ∧ Q (.int (b2i a + b2i b)) H
theorem op_addB : OpR X (binaryOp .Add) rAddB := by
  intro pins s σ H x y v u Q I rx ry h
  obtain ⟨a, b, rfl, rfl, q⟩ := h
  cases rx
  cases ry
  exact add_bool ⟨.int _, H, I.tok _, ⟨_, rfl⟩, q⟩
end
end Nv
set_option Elab.async false
set_option linter.all false
set_option maxRecDepth 100000
set_option maxHeartbeats 4000000
/-! NvSet: set(xs) of a list of ints, as a set that can be sorted. -/
namespace Nv
open PySem PySem.Spec PyProof.Rows L2
/-- a set object just made -/
abbrev setO0 (w : World) : Obj := { cls := .type "set", dict := none, data := .set #[] 0 (.fresh 0 0 (!w.params.followText "set-order")) }
section
variable {P : Program} {w : World} {A : Around} {E : Value → Shared → Prop} {s : Shared} {l : Addr} {its : Array Value} {ns : List Int}
/-- set.__init__(a new set, a list) -/
theorem set_init_list {R : Result → Shared → Prop} {oc : Option Addr} {n0 : Nat} {osl : Array (Option Value)} (hh : A.handled = none) (hl : s.heap.get? l = some { cls := .type "list", dict := oc, data := .seq its n0, slots := osl })
    (hit : IntsAre its.toList ns) (hb : ns.length + 1 < scanBound)
    (hR : ∀ (h' : Heap) (tk c : Nat), SetR w h' s.heap.objs.size (fun j => decide (j ∈ ns)) c → c ≤ ns.length → (∀ b o, s.heap.get? b = some o → h'.get? b = some o) → R (.ok (.ret .none)) { s with heap := h', toks := tk }) :
    codeAny (model P w) A (.call (.builtin "set.__init__") ⟨[.ref s.heap.objs.size, .ref l], []⟩) R { s with heap := s.heap.push (setO0 w) } := by
  have sz : its.size = ns.length := by
    have q := IntsAre.length hit
    rwa [Array.length_toList] at q
  have hS : (s.heap.push (setO0 w)).get? s.heap.objs.size = some (setO0 w) := Heap.get?_push_size _ rfl
  have hT : Shared.TypeIs { s with heap := s.heap.push (setO0 w) } (.ref s.heap.objs.size) "set" := ⟨_, hS, rfl⟩
  refine codeAny_call_builtin F.called_set.init.plain F.entry_set_init (check_set_init_1 hT ?_)
  have hol' : (s.heap.push (setO0 w)).get? l = some { cls := .type "list", dict := oc, data := .seq its n0, slots := osl } := Heap.get?_push_of_some _ hl
  have hl1 : (s.heap.push (setO0 w)).IsList l its := ⟨_, hol', rfl, n0, rfl⟩
  have hlS : l < s.heap.objs.size := Heap.lt_size hl
  have a1 := F.sub_list_set
  have a2 := F.sub_list_frozenset
  have a3 : (Value.type "list" == Value.type "dict") = false := by decide
  unfold Builtin.«set.__init__» noKeywords Builtin.Frozenset.updateFrom
  generalize hPI : pyIter = PI
  wp_walk
  subst hPI
  refine wpAny_pyIter_list hl1 (wpAny_bind (wpAny_runValue ?_))
  have hd3 : A.in1.in1.handled = none := by simp [hh]
  have nlI : l ≠ (s.heap.push (setO0 w)).objs.size := by
    rw [Heap.size_push]
    exact Nat.ne_of_lt (Nat.lt_succ_of_lt hlS)
  have nS : s.heap.objs.size ∉ [(s.heap.push (setO0 w)).objs.size, l] := by
    rw [Heap.size_push, List.mem_cons, List.mem_singleton]
    exact fun z => z.elim (fun q => Nat.ne_of_lt (Nat.lt_succ_self _) q) fun q => Nat.ne_of_gt hlS q
  have val : ∀ (i : Nat) (v : Value), its[i]? = some v → ∃ k t, ns[i]? = some k ∧ v = .int k t := fun i v hv => by
    have hi : i < ns.length := by
      rw [← sz]
      exact (Array.getElem?_eq_some_iff.mp hv).1
    obtain ⟨t, e⟩ := PyProof.Rows.IntsAre.int_at hit i v (by rw [Array.getElem?_toList]; exact hv)
    refine ⟨ns[i], t, List.getElem?_eq_getElem hi, ?_⟩
    rw [e, List.getD_eq_getElem?_getD, List.getElem?_eq_getElem hi] <;> rfl
  refine set_update_ints ((Walks.list hd3 _ l nlI its).toS) s.heap.objs.size nS ns sz hb val (its.size - 0) 0 _ (by omega) (Nat.zero_le _) ⟨⟨_, Heap.get?_push_size _ rfl, rfl, rfl⟩, (hl1.push _)⟩
    ?h0 ?h1
  case h0 =>
    have z : ((s.heap.push (setO0 w)).push { cls := .type "list_iterator", data := .fields #[.ref l, .int 0 0] }).get? s.heap.objs.size = some (setO0 w) := Heap.get?_push_of_some _ hS
    exact ⟨0, Nat.le_refl 0, setR_new_at z⟩
  intro s' c' hm hc' hS'
  obtain ⟨h', g2, d', tk', os'⟩ := s'
  obtain rfl : g2 = s.gens := hm.gens
  obtain rfl : d' = s.drawn := hm.drawn
  obtain rfl : os' = s.os := hm.os
  refine wpAny_pure ?_
  rw [sz] at hc'
  refine wpAny_pure (hR h' tk' c' hS' hc' fun b o e => ?_)
  have lt := Heap.lt_size e
  refine hm.heap b o ?_ (Heap.get?_push_of_some _ (Heap.get?_push_of_some _ e))
  rw [Heap.size_push, List.mem_cons, List.mem_singleton]
  exact fun z => z.elim (fun q => Nat.ne_of_lt lt q) fun q => Nat.ne_of_lt (Nat.lt_succ_of_lt lt) q
/-- set(xs) -/
theorem call_set_listI {Q : Value → Shared → Prop} (hh : A.handled = none) (hl : s.heap.IsList l its) (hit : IntsAre its.toList ns) (hb : ns.length + 1 < scanBound)
    (h : ∀ (h' : Heap) (tk c : Nat), SetR w h' s.heap.objs.size (fun j => decide (j ∈ ns)) c → c ≤ ns.length → (∀ b o, s.heap.get? b = some o → h'.get? b = some o) → Q (.ref s.heap.objs.size) { s with heap := h', toks := tk }) :
    wpAny (model P w) A (call (.type "set") [.ref l]) Q E s := by
  obtain ⟨ol, hol, hcl, nl, hdl⟩ := hl
  obtain ⟨ocls, oc, odt, osl⟩ := ol
  simp only at hcl hdl
  subst hcl hdl
  have f := F.called_set
  obtain ⟨c, tl, hmro⟩ := f.mro
  have m1 := f.made
  have m2 := f.sub
  have m3 := f.notType
  have m4 := f.canCreate
  have m5 := F.typeCall_set_1 (.ref l)
  refine wpAny_call (codeAny_of_tree ?_)
  show wpAny _ _ (callAny (.type "set") _) _ _ _
  refine wpAny_pure ⟨Code.quiet_builtin _ (by decide +kernel), codeAny_builtin F.entry_type_call ?_⟩
  rw [Around.under_plain (weight_type_call_type "set" [.ref l] []) rfl]
  repeat (any_goals (first | assumption | wp_step))
  refine codeAny_mono (code_set_led1 (.ref l) (E := E) (Q₁ := fun obj s₁ => obj = .ref s.heap.objs.size ∧ s₁ = { s with heap := s.heap.push (setO0 w) }) ⟨rfl, rfl⟩) fun r s₁ hr => ?_
  cases r with
  | error e => exact hr
  | ok fl =>
    cases fl with
    | ret obj =>
      obtain ⟨rfl, rfl⟩ := hr
      have hS : (s.heap.push (setO0 w)).get? s.heap.objs.size = some (setO0 w) := Heap.get?_push_size _ rfl
      have hT : Shared.TypeIs { s with heap := s.heap.push (setO0 w) } (.ref s.heap.objs.size) "set" := ⟨_, hS, rfl⟩
      have m6 := f.init.lookup
      have m7 := f.init.bind (.ref s.heap.objs.size)
      repeat (any_goals (first | assumption | wp_step))
      refine codeAny_mono (set_init_list (P := P) (R := wants (fun r s₂ => r = .none ∧ ∃ h' tk c, s₂ = { s with heap := h', toks := tk } ∧ SetR w h' s.heap.objs.size (fun j => decide (j ∈ ns)) c ∧ c ≤ ns.length ∧ (∀ b o, s.heap.get? b = some o → h'.get? b = some o)) E)
        (by simp [hh]) hol hit hb fun h' tk c q1 q2 q3 => ⟨rfl, h', tk, c, rfl, q1, q2, q3⟩) fun r₂ s₂ hr₂ => ?_
      cases r₂ with
      | error e => exact hr₂
      | ok fl₂ =>
        cases fl₂ with
        | ret r =>
          obtain ⟨rfl, h', tk, c', rfl, q1, q2, q3⟩ := hr₂
          repeat (any_goals (first | assumption | wp_step))
          exact h _ _ _ q1 q2 q3
        | _ => exact hr₂.elim
    | _ => exact hr.elim
end
section
variable {X : Cx}
/-- set(xs), xs a list of ints -/
def rSetI (K : PySem.W.Frag) (w : World) : List V → Hp → VK → Prop := fun xs H Q => ∃ (l : Addr) (ns : List Int), xs = [.ref l] ∧ SqL K H l (ns.map V.int) ∧ ns.length < 63 ∧
  ∀ (p : Addr) (c : Nat), c ≤ ns.length → H p = none → Q (.ref p) (upd H p (SetO w p (fun j => decide (j ∈ ns)) c))
theorem cr_setI (hc : X.calm = true) : CallR X (.type "set") (rSetI X.K X.w) := by
  intro pins s σ H xs us Q I r h
  obtain ⟨l, ns, rfl, hq, hz, q⟩ := h
  rw [Vals.ref1 r]
  obtain ⟨its, rv, pl, _⟩ := I.list hq
  refine call_set_listI (ns := ns) (I.ok.hd hc) pl.isList (by simpa using ints_of_vals rv) (by unfold scanBound; omega) fun h' tk c R hcn k => ?_
  exact ⟨.ref _, _, I.laid (t' := tk) (a := s.heap.objs.size) (o := SetO X.w s.heap.objs.size (fun j => decide (j ∈ ns)) c) k (Nat.le_refl _) (setO_new R), rfl, q _ c hcn (I.hok.fresh (Nat.le_refl _))⟩
end
end Nv
set_option Elab.async false
set_option linter.all false
set_option maxRecDepth 100000
/-! NvCall: a def as its callers want it. -/
namespace Nv
open PySem PySem.Spec PyProof.Rows L2
abbrev Ex := Evl.Ex
abbrev Fn (K : PySem.W.Frag) (x qual : Str) (st : Stmt) (f : Addr) : Prop := ∃ fd, FunD K x qual (defArgs st) (defBody st) (defScope st) [] [] f fd
/-- a def that keeps its promise sp, by at most level k -/
def Gd (P : Program) (w : World) (K : PySem.W.Frag) (mg : Str → Option Value) (base : Heap) (CX : CXT) (k : Nat) (f : Addr) (ps : List Str) (sp : Sp) : Prop :=
  ∃ fd, FnOk P w K mg base CX k f fd ps sp ∧ Binds K fd ps [] ∧ PySem.W.keepIn K (.ref f) = true
section
variable {P : Program} {w : World} {K : PySem.W.Frag} {mg : Str → Option Value} {base : Heap} {x qual : Str} {st : Stmt} {f : Addr} {N ps : List Str} {k : Nat} {sp : Sp}
theorem Fn.good (F : Fn K x qual st f) (S : FnScope N ps (defScope st))
    (hb : ∀ (kV doc pm : Value) (an : Option Addr) (cdv ct : Value) (us : List Value), us.length = ps.length → bindArgs (PySem.W.fnOf x qual (defArgs st) (defBody st) (defScope st) .none kV doc pm an cdv ct) ⟨us, []⟩ = pure (ps.zip us))
    (len : ∀ vs H Q E, sp vs H Q E → vs.length = ps.length)
    (hbody : ∀ (cdv : Value) (A : Around) (outer : List Env) (s : Shared) (H : Hp) (vs : List V) (Q : VK) (E : XK), Room k (A.deeper (envOfC qual (defScope st) s.heap.objs.size f cdv)) → sp vs H Q E →
      ∃ t, PSs (cxOf CX0 P w K mg base N qual (defScope st) f cdv A outer s H E).nox (defBody st) t ∧ t { nx := fun _ H' => Q .non H', rt := Q } (start N vs) H) : Gd P w K mg base CX0 (k + 1) f ps sp := by
  obtain ⟨fd, F⟩ := F
  refine ⟨fd, F.ok S len fun cdv A outer s H vs Q E hr h => ?_, F.bindsN hb, F.kp⟩
  obtain ⟨t, h1, h2⟩ := hbody cdv A outer s H vs Q E hr h
  exact ⟨t, h1.nox, h2⟩
/-- the same of a def that may raise -/
theorem Fn.goodX (F : Fn K x qual st f) (S : FnScope N ps (defScope st))
    (hb : ∀ (kV doc pm : Value) (an : Option Addr) (cdv ct : Value) (us : List Value), us.length = ps.length → bindArgs (PySem.W.fnOf x qual (defArgs st) (defBody st) (defScope st) .none kV doc pm an cdv ct) ⟨us, []⟩ = pure (ps.zip us))
    (len : ∀ vs H Q E, sp vs H Q E → vs.length = ps.length)
    (hbody : ∀ (cdv : Value) (A : Around) (outer : List Env) (s : Shared) (H : Hp) (vs : List V) (Q : VK) (E : XK), Room k (A.deeper (envOfC qual (defScope st) s.heap.objs.size f cdv)) → sp vs H Q E →
      ∃ t, PSs (cxOf (L2.CX P w) P w K mg base N qual (defScope st) f cdv A outer s H E) (defBody st) t ∧ t { nx := fun _ H' => Q .non H', rt := Q } (start N vs) H) : Gd P w K mg base (L2.CX P w) (k + 1) f ps sp := by
  obtain ⟨fd, F⟩ := F
  exact ⟨fd, F.ok S len hbody, F.bindsN hb, F.kp⟩
theorem Gd.mono {CX : CXT} {j : Nat} (G : Gd P w K mg base CX k f ps sp) (h : k ≤ j) : Gd P w K mg base CX j f ps sp := by
  obtain ⟨fd, F, b, kp⟩ := G
  exact ⟨fd, F.mono h, b, kp⟩
end
section
variable {X : Cx} {k : Nat} {f : Addr} {ps : List Str} {sp : Sp} {x : Str} {p pos : Pos} {e : Expr} {es : List Expr} {t : TA}
/-- f(e, ..) of a def that raises nothing -/
theorem pcl (G : Gd X.prog X.w X.K X.mg X.base CX0 k f ps sp) (hr : Room k X.A) (hm : X.mg x = some (.ref f)) (ha : PA X (e :: es) t) (hg : Gl X x := by rfl) (hdb : (x == ("__debug__" : Str)) = false := by decide)
    (he : starEach (e :: es) X.env = (false, eval e X.env) :: starEach es X.env := by rfl) (hpl : (backTo pos (starEach es X.env)).any (·.1) = false := by rfl) :
    PE X (.Call (.Name x p) (e :: es) [] pos) (tCall sp [] E0 t) := by
  obtain ⟨fd, F, b, kp⟩ := G
  exact pe_call F hr hg hm kp b .nil pass0 ha hdb he hpl
/-- C(e, ..) by an own __init__ that raises nothing -/
theorem pmk {C : Addr} (M : Mk X.K C f) (G : Gd X.prog X.w X.K X.mg X.base CX0 k f ps sp) (hr : Room (k + 1) X.A) (hm : X.mg x = some (.ref C)) (ha : PA X (e :: es) t) (hg : Gl X x := by rfl) (hdb : (x == ("__debug__" : Str)) = false := by decide)
    (he : starEach (e :: es) X.env = (false, eval e X.env) :: starEach es X.env := by rfl) (hpl : (backTo pos (starEach es X.env)).any (·.1) = false := by rfl) :
    PE X (.Call (.Name x p) (e :: es) [] pos) (tMake C sp [] E0 t) := by
  obtain ⟨fd, F, b, kp⟩ := G
  exact pe_make M F hr hg hm b .nil pass0 ha hdb he hpl
/-- o.m(e, ..) -/
theorem pmt {C : Addr} {o : Expr} {ta : TE} {m : Str} {apos : Pos} {pl : Sem Bool} (c : Cls X.K C) (hm : Meth X.K C m f) (G : Gd X.prog X.w X.K X.mg X.base CX0 k f ps sp) (hr : Room k X.A) (ho : PE X o ta) (ha : PA X (e :: es) t)
    (hst : starEach (e :: es) X.env = (false, eval e X.env) :: starEach es X.env := by rfl) (hpl : (backTo pos (starEach es X.env)).any (·.1) = false := by rfl)
    (ht : eval (.Call (.Attribute o m apos) (e :: es) [] pos) X.env = (do
      let ov ← eval o X.env
      standAt apos.atName
      let (f, first) ← holding [ov] (getMethod ov m pl)
      callWith pos f first (backTo pos (starEach (e :: es) X.env)) (backToKw pos (keywordEach [] X.env))) := by rfl) :
    PE X (.Call (.Attribute o m apos) (e :: es) [] pos) (tMeth C m sp [] E0 ta t) := by
  obtain ⟨fd, F, b, kp⟩ := G
  exact pe_meth ho c hm F hr b .nil pass0 ha hst hpl ht
end
/-! ### heaps -/
theorem Ex.step {H H' : Hp} {p : Addr} {o : HO} (e : Ex H H') (h : H' p = none) : Ex H (upd H' p o) := e.trans (Evl.Ex.new h)
theorem Ex.mut {H H' : Hp} {p : Addr} {o : HO} (e : Ex H H') (h : H p = none) : Ex H (upd H' p o) := Evl.Ex.mut e h
theorem Ex.free {H H' : Hp} {p : Addr} (e : Ex H H') (h : H' p = none) : H p = none := Evl.fresh_back e h
/-- a tuple of vI, a list of vI, a dict with these keys -/
abbrev vI (ns : List Int) : List V := ns.map V.int
def Tp (H : Hp) (v : V) (ns : List Int) : Prop := ∃ p, v = .ref p ∧ H p = some (.tup (vI ns))
def Ls (H : Hp) (v : V) (ns : List Int) : Prop := ∃ p, v = .ref p ∧ H p = some (.lst (vI ns))
def kvsOf (ns : List Int) : List (Key × V) := ns.map fun k => ((Sum.inl k : Key), V.bl true)
def Dk (H : Hp) (v : V) (ns : List Int) : Prop := ∃ p, v = .ref p ∧ H p = some (.dK (kvsOf ns))
theorem Tp.mono {H H' : Hp} {v : V} {ns : List Int} (h : Tp H v ns) (e : Ex H H') : Tp H' v ns := let ⟨p, a, b⟩ := h; ⟨p, a, e _ _ b⟩
theorem Ls.mono {H H' : Hp} {v : V} {ns : List Int} (h : Ls H v ns) (e : Ex H H') : Ls H' v ns := let ⟨p, a, b⟩ := h; ⟨p, a, e _ _ b⟩
theorem Dk.mono {H H' : Hp} {v : V} {ns : List Int} (h : Dk H v ns) (e : Ex H H') : Dk H' v ns := let ⟨p, a, b⟩ := h; ⟨p, a, e _ _ b⟩
theorem vI_len (ns : List Int) : (vI ns).length = ns.length := List.length_map _
theorem vI_get {ns : List Int} {i : Nat} {x : V} (h : (vI ns)[i]? = some x) : ∃ z, ns[i]? = some z ∧ x = .int z := by
  unfold vI at h
  rw [List.getElem?_map] at h
  cases e : ns[i]? with
  | none => rw [e] at h; cases h
  | some z => rw [e] at h; exact ⟨z, rfl, (Option.some.inj h).symm⟩
theorem vI_flat (ns : List Int) : (vI ns).all flatV = true := by
  unfold vI
  rw [List.all_map]
  exact List.all_eq_true.mpr fun _ _ => rfl
theorem inV_vI (n : Int) : ∀ ns : List Int, inV (.int n) (vI ns) = decide (n ∈ ns)
  | [] => rfl
  | a :: r => by
    have ih := inV_vI n r
    unfold inV vI at ih ⊢
    rw [List.map_cons, List.any_cons, ih]
    by_cases e : a = n
    · subst e; simp [eqV]
    · simp [eqV, e, Ne.symm e]
theorem valV_kvs (n : Int) : ∀ ns : List Int, (valV (kvsOf ns) (Sum.inl n : Key)).isSome = decide (n ∈ ns)
  | [] => rfl
  | a :: r => by
    have ih := valV_kvs n r
    unfold kvsOf at ih ⊢
    rw [List.map_cons]
    by_cases e : a = n
    · subst e
      rw [valV_pos rfl]; simp
    · rw [valV_neg (fun q => e (Sum.inl.inj q)), ih]
      simp [Ne.symm e]
end Nv
set_option Elab.async false
set_option linter.all false
set_option maxRecDepth 100000
/-! NvTxt: what the top has written (printed by nvtxt.py). -/
namespace Nv
open PySem PySem.Spec PyProof.Rows L2
/-- a class whose instances are lots -/
structure CF (K : PySem.W.Frag) (C : Addr) : Prop where
  cl : Cls K C
  n_step : NoAttr K C "step"
  n_below : NoAttr K C "below"
  n_above : NoAttr K C "above"
  n_has_below : NoAttr K C "has_below"
  n_has_above : NoAttr K C "has_above"
  n_low : NoAttr K C "low"
  n_high : NoAttr K C "high"
  n_members : NoAttr K C "members"
  n_has_members : NoAttr K C "has_members"
abbrev aLot (K : PySem.W.Frag) : Addr := He.ga K "Lot"
abbrev aRaw (K : PySem.W.Frag) : Addr := He.ga K "RawLot"
structure Txt (K : PySem.W.Frag) (mg : Str → Option Value) : Prop where
  cLot : CF K (aLot K)
  cRaw : CF K (aRaw K)
  g_Lot : mg "Lot" = some (.ref (aLot K))
  g_RawLot : mg "RawLot" = some (.ref (aRaw K))
  mk_Lot : Mk K (aLot K) (He.ma K (aLot K) "__init__")
  mk_RawLot : Mk K (aRaw K) (He.ma K (aRaw K) "__init__")
  f_Lot : Fn K "__init__" "Lot.__init__" sLot_Init (He.ma K (aLot K) "__init__")
  f_RawLot : Fn K "__init__" "RawLot.__init__" sRawLot_Init (He.ma K (aRaw K) "__init__")
  mt_Lot : Meth K (aLot K) "keep" (He.ma K (aLot K) "keep")
  mt_RawLot : Meth K (aRaw K) "keep" (He.ma K (aRaw K) "keep")
  k_Lot : Fn K "keep" "Lot.keep" sLot_Keep (He.ma K (aLot K) "keep")
  k_RawLot : Fn K "keep" "Lot.keep" sLot_Keep (He.ma K (aRaw K) "keep")
  i_at : PySem.W.findIn K (.ref (aRaw K)) "__class__" = some (some (.builtin "object.__class__"))
  i_get : PySem.W.specialIn K (.builtin "object.__class__") "__get__" = some (some (.builtin "getset_descriptor.__get__"))
  i_tk : PySem.W.takesIn K (.builtin "object.__class__") = some true
  i_mro : PySem.W.mroIn K (aRaw K) (.type "object") = some true
  i_one : PySem.W.kitOne K (.ref (aRaw K)) (.ref (aLot K)) = some true
  k_MOST_APART : ∃ t, mg "MOST_APART" = some (.int 100000 t)
  k_MOST_STEP : ∃ t, mg "MOST_STEP" = some (.int 4000 t)
  n_abs : mg "abs" = none
  n_all : mg "all" = none
  n_bool : mg "bool" = none
  n_int : mg "int" = none
  n_isinstance : mg "isinstance" = none
  n_len : mg "len" = none
  n_list : mg "list" = none
  n_max : mg "max" = none
  n_min : mg "min" = none
  n_range : mg "range" = none
  n_set : mg "set" = none
  n_sorted : mg "sorted" = none
  n_sum : mg "sum" = none
  n_tuple : mg "tuple" = none
  g_is_integer : mg "is_integer" = some (.ref (He.ga K "is_integer"))
  f_is_integer : Fn K "is_integer" "is_integer" sIsInteger (He.ga K "is_integer")
  g_is_within : mg "is_within" = some (.ref (He.ga K "is_within"))
  f_is_within : Fn K "is_within" "is_within" sIsWithin (He.ga K "is_within")
  g_is_ascending : mg "is_ascending" = some (.ref (He.ga K "is_ascending"))
  f_is_ascending : Fn K "is_ascending" "is_ascending" sIsAscending (He.ga K "is_ascending")
  g_common_divisor : mg "common_divisor" = some (.ref (He.ga K "common_divisor"))
  f_common_divisor : Fn K "common_divisor" "common_divisor" sCommonDivisor (He.ga K "common_divisor")
  g_is_rising : mg "is_rising" = some (.ref (He.ga K "is_rising"))
  f_is_rising : Fn K "is_rising" "is_rising" sIsRising (He.ga K "is_rising")
  g_keyed : mg "keyed" = some (.ref (He.ga K "keyed"))
  f_keyed : Fn K "keyed" "keyed" sKeyed (He.ga K "keyed")
  g_is_round : mg "is_round" = some (.ref (He.ga K "is_round"))
  f_is_round : Fn K "is_round" "is_round" sIsRound (He.ga K "is_round")
  g_least_step : mg "least_step" = some (.ref (He.ga K "least_step"))
  f_least_step : Fn K "least_step" "least_step" sLeastStep (He.ga K "least_step")
  g_least_high : mg "least_high" = some (.ref (He.ga K "least_high"))
  f_least_high : Fn K "least_high" "least_high" sLeastHigh (He.ga K "least_high")
  g_greatest_low : mg "greatest_low" = some (.ref (He.ga K "greatest_low"))
  f_greatest_low : Fn K "greatest_low" "greatest_low" sGreatestLow (He.ga K "greatest_low")
  g_has : mg "has" = some (.ref (He.ga K "has"))
  f_has : Fn K "has" "has" sHas (He.ga K "has")
  g_is_in : mg "is_in" = some (.ref (He.ga K "is_in"))
  f_is_in : Fn K "is_in" "is_in" sIsIn (He.ga K "is_in")
  g_check_integer : mg "check_integer" = some (.ref (He.ga K "check_integer"))
  f_check_integer : Fn K "check_integer" "check_integer" sCheckInteger (He.ga K "check_integer")
  g_common_multiple : mg "common_multiple" = some (.ref (He.ga K "common_multiple"))
  f_common_multiple : Fn K "common_multiple" "common_multiple" sCommonMultiple (He.ga K "common_multiple")
  g_mixed : mg "mixed" = some (.ref (He.ga K "mixed"))
  f_mixed : Fn K "mixed" "mixed" sMixed (He.ga K "mixed")
  g_check_mixing : mg "check_mixing" = some (.ref (He.ga K "check_mixing"))
  f_check_mixing : Fn K "check_mixing" "check_mixing" sCheckMixing (He.ga K "check_mixing")
  g_joined : mg "joined" = some (.ref (He.ga K "joined"))
  f_joined : Fn K "joined" "joined" sJoined (He.ga K "joined")
  g_common : mg "common" = some (.ref (He.ga K "common"))
  f_common : Fn K "common" "common" sCommon (He.ga K "common")
  g_is_fitting : mg "is_fitting" = some (.ref (He.ga K "is_fitting"))
  f_is_fitting : Fn K "is_fitting" "is_fitting" sIsFitting (He.ga K "is_fitting")
  g_out_between : mg "out_between" = some (.ref (He.ga K "out_between"))
  f_out_between : Fn K "out_between" "out_between" sOutBetween (He.ga K "out_between")
  g_next_out_above : mg "next_out_above" = some (.ref (He.ga K "next_out_above"))
  f_next_out_above : Fn K "next_out_above" "next_out_above" sNextOutAbove (He.ga K "next_out_above")
  g_is_part_of : mg "is_part_of" = some (.ref (He.ga K "is_part_of"))
  f_is_part_of : Fn K "is_part_of" "is_part_of" sIsPartOf (He.ga K "is_part_of")
  g_is_part : mg "is_part" = some (.ref (He.ga K "is_part"))
  f_is_part : Fn K "is_part" "is_part" sIsPart (He.ga K "is_part")
  g_next_above_of : mg "next_above_of" = some (.ref (He.ga K "next_above_of"))
  f_next_above_of : Fn K "next_above_of" "next_above_of" sNextAboveOf (He.ga K "next_above_of")
  g_next_above : mg "next_above" = some (.ref (He.ga K "next_above"))
  f_next_above : Fn K "next_above" "next_above" sNextAbove (He.ga K "next_above")
  g_many_with : mg "many_with" = some (.ref (He.ga K "many_with"))
  f_many_with : Fn K "many_with" "many_with" sManyWith (He.ga K "many_with")
  g_many_in : mg "many_in" = some (.ref (He.ga K "many_in"))
  f_many_in : Fn K "many_in" "many_in" sManyIn (He.ga K "many_in")
  g__law_pot : mg "_law_pot" = some (.ref (He.ga K "_law_pot"))
  f__law_pot : Fn K "_law_pot" "_law_pot" sLPot (He.ga K "_law_pot")
  g__law_draw : mg "_law_draw" = some (.ref (He.ga K "_law_draw"))
  f__law_draw : Fn K "_law_draw" "_law_draw" sLDraw (He.ga K "_law_draw")
  g__law_any : mg "_law_any" = some (.ref (He.ga K "_law_any"))
  f__law_any : Fn K "_law_any" "_law_any" sLAny (He.ga K "_law_any")
  g__law_lot : mg "_law_lot" = some (.ref (He.ga K "_law_lot"))
  f__law_lot : Fn K "_law_lot" "_law_lot" sLLot (He.ga K "_law_lot")
  g__law_has : mg "_law_has" = some (.ref (He.ga K "_law_has"))
  f__law_has : Fn K "_law_has" "_law_has" sLHas (He.ga K "_law_has")
  g__law_gcd : mg "_law_gcd" = some (.ref (He.ga K "_law_gcd"))
  f__law_gcd : Fn K "_law_gcd" "_law_gcd" sLGcd (He.ga K "_law_gcd")
  g__law_six : mg "_law_six" = some (.ref (He.ga K "_law_six"))
  f__law_six : Fn K "_law_six" "_law_six" sLSix (He.ga K "_law_six")
  g__law_moved : mg "_law_moved" = some (.ref (He.ga K "_law_moved"))
  f__law_moved : Fn K "_law_moved" "_law_moved" sLMoved (He.ga K "_law_moved")
  g__law_far : mg "_law_far" = some (.ref (He.ga K "_law_far"))
  f__law_far : Fn K "_law_far" "_law_far" sLFar (He.ga K "_law_far")
  g__law_is_flag : mg "_law_is_flag" = some (.ref (He.ga K "_law_is_flag"))
  f__law_is_flag : Fn K "_law_is_flag" "_law_is_flag" sLIsFlag (He.ga K "_law_is_flag")
  g__law_rests : mg "_law_rests" = some (.ref (He.ga K "_law_rests"))
  f__law_rests : Fn K "_law_rests" "_law_rests" sLRests (He.ga K "_law_rests")
  g__law_great : mg "_law_great" = some (.ref (He.ga K "_law_great"))
  f__law_great : Fn K "_law_great" "_law_great" sLGreat (He.ga K "_law_great")
  g__law_round : mg "_law_round" = some (.ref (He.ga K "_law_round"))
  f__law_round : Fn K "_law_round" "_law_round" sLRound (He.ga K "_law_round")
  g__law_least : mg "_law_least" = some (.ref (He.ga K "_law_least"))
  f__law_least : Fn K "_law_least" "_law_least" sLLeast (He.ga K "_law_least")
  g__law_mix : mg "_law_mix" = some (.ref (He.ga K "_law_mix"))
  f__law_mix : Fn K "_law_mix" "_law_mix" sLMix (He.ga K "_law_mix")
  g__law_is_mixed : mg "_law_is_mixed" = some (.ref (He.ga K "_law_is_mixed"))
  f__law_is_mixed : Fn K "_law_is_mixed" "_law_is_mixed" sLIsMixed (He.ga K "_law_is_mixed")
  g_law : mg "law" = some (.ref (He.ga K "law"))
  f_law : Fn K "law" "law" sLaw (He.ga K "law")
theorem pgi {X : Cx} {x : Str} {i : Int} {pos : Pos} (hg : Gl X x) (h : ∃ t, X.mg x = some (.int i t)) (hd : (x == ("__debug__" : Str)) = false := by decide) : PE X (.Name x pos) (tC (.int i)) := by
  obtain ⟨t, h⟩ := h
  exact pe_glob hg h ⟨t, rfl⟩ hd
end Nv
set_option Elab.async false
set_option linter.all false
set_option maxRecDepth 100000
set_option maxHeartbeats 2000000
/-! NvComp: comprehensions and loops over ints, by what stands in the source. -/
namespace Nv
open PySem PySem.Spec PyProof.Rows L2
open Evl (Ev EvT EvL EvU EvA)
/-- lo, lo + c, .. n of them -/
def zR (lo c : Int) (n : Nat) : List Int := (List.range n).map fun (i : Nat) => lo + (i : Int) * c
theorem zR_len (lo c : Int) (n : Nat) : (zR lo c n).length = n := by unfold zR; rw [List.length_map, List.length_range]
theorem zR_get {lo c : Int} {n i : Nat} (h : i < n) : (zR lo c n)[i]? = some (lo + (i : Int) * c) := by
  unfold zR
  rw [List.getElem?_map, List.getElem?_range h]
  rfl
theorem mem_zR {lo c z : Int} {n : Nat} : z ∈ zR lo c n ↔ ∃ i : Nat, i < n ∧ z = lo + (i : Int) * c := by
  unfold zR
  rw [List.mem_map]
  constructor
  · rintro ⟨i, hi, rfl⟩
    exact ⟨i, List.mem_range.mp hi, rfl⟩
  · rintro ⟨i, hi, rfl⟩
    exact ⟨i, List.mem_range.mpr hi, rfl⟩
theorem take_more {α : Type} {l : List α} {i : Nat} {x : α} (h : l[i]? = some x) : l.take (i + 1) = l.take i ++ [x] := by
  rw [List.take_add_one, h]
  rfl
/-- the comprehension's list behind i turns -/
def Cw (H : Hp) (ns : List Int) (f : Int → Bool) (v : Int → V) (D : Addr) (i : Nat) (H' : Hp) : Prop := H D = none ∧ Ex H H' ∧ H' D = some (.lst (((ns.take i).filter f).map v))
section
variable {K : PySem.W.Frag} {σ : L2.St} {H H' : Hp} {te : TE} {t : TT} {ns : List Int} {f : Int → Bool} {v : Int → V} {j : Nat} {vs : List Nat}
theorem cw_turn {D : Addr} {i : Nat} {z : Int} {σ2 : L2.St} (p : Cw H ns f v D i H') (hz : ns.length < sizeLine) (hi : ns[i]? = some z) (ht : EvT t σ2 H (f z)) (he : f z = true → Ev te σ2 H (v z)) :
    t σ2 H' fun b H3 => if b = true then te σ2 H3 fun y H4 => ∃ acc, H4 D = some (.lst acc) ∧ acc.length < sizeLine ∧ Cw H ns f v D (i + 1) (upd H4 D (.lst (acc ++ [y]))) else Cw H ns f v D (i + 1) H3 := by
  obtain ⟨p1, p2, p3⟩ := p
  refine ht H' p2 _ fun H3 e3 => ?_
  cases hf : f z with
  | true =>
    refine iteT (he hf H3 (p2.trans e3) _ fun H4 e4 => ⟨_, e4 D _ (e3 D _ p3), ?_, p1, Ex.mut ((p2.trans e3).trans e4) p1, ?_⟩)
    · have h1 := List.length_filter_le f (ns.take i)
      have h2 := List.length_take_le i ns
      have h3 : (ns.take i).length ≤ ns.length := by rw [List.length_take]; omega
      rw [List.length_map]
      omega
    · rw [take_more hi, List.filter_append, List.map_append, List.filter_cons, if_pos hf]
      exact upd_same
  | false =>
    refine iteF ⟨p1, p2.trans e3, ?_⟩
    rw [take_more hi, List.filter_append, List.map_append, List.filter_cons, if_neg (by rw [hf]; decide)]
    rw [show (List.filter f ([] : List Int)) = [] from rfl, List.map_nil, List.append_nil]
    exact e3 D _ p3
theorem cw_start {D : Addr} (h : H D = none) : Cw H ns f v D 0 (upd H D (.lst [])) := ⟨h, Evl.Ex.new h, upd_same⟩
theorem el_T {tl : TE} {a : Addr} (f : Int → Bool) (v : Int → V) (h : Ev tl σ H (.ref a)) (hx : H a = some (.tup (vI ns))) (hz : ns.length < sizeLine) (hw : ∀ x, wipe ((wipe σ vs).set j (some x)) vs = wipe σ vs)
    (ht : ∀ z H1, z ∈ ns → Ex H H1 → EvT t ((wipe σ vs).set j (some (.int z))) H1 (f z)) (he : ∀ z H1, z ∈ ns → Ex H H1 → f z = true → Ev te ((wipe σ vs).set j (some (.int z))) H1 (v z)) :
    EvL (tLc (iTup K tl) (gName j) t te vs) σ H ((ns.filter f).map v) := fun H0 e Q q => h H0 e _ fun H1 e1 => ⟨a, rfl, ⟨vI ns, SqT.of ((e.trans e1) _ _ hx)⟩, fun D hD =>
  lc_tup (xs := vI ns) (Cw H1 ns f v D) (cw_start hD) (fun i H' _ p => SqT.of (p.2.1 _ _ ((e.trans e1) _ _ hx))) (fun i x H' hi p => by
      obtain ⟨z, hz1, rfl⟩ := vI_get hi
      have hm : z ∈ ns := List.mem_of_getElem? hz1
      exact ⟨hw _, cw_turn p hz hz1 (ht z H1 hm (e.trans e1)) (fun hf => he z H1 hm (e.trans e1) hf)⟩)
    (fun H' p => q D H' (Ex.free e1 p.1) (e1.trans p.2.1) (by
      have p3 := p.2.2
      rw [vI_len, List.take_length] at p3
      exact p3))⟩
theorem el_L {tl : TE} {a : Addr} (f : Int → Bool) (v : Int → V) (h : Ev tl σ H (.ref a)) (hx : SqL K H a (vI ns)) (hz : ns.length < sizeLine) (hw : ∀ x, wipe ((wipe σ vs).set j (some x)) vs = wipe σ vs)
    (ht : ∀ z H1, z ∈ ns → Ex H H1 → EvT t ((wipe σ vs).set j (some (.int z))) H1 (f z)) (he : ∀ z H1, z ∈ ns → Ex H H1 → f z = true → Ev te ((wipe σ vs).set j (some (.int z))) H1 (v z)) :
    EvL (tLc (iList K tl) (gName j) t te vs) σ H ((ns.filter f).map v) := fun H0 e Q q => h H0 e _ fun H1 e1 => ⟨a, rfl, ⟨vI ns, Evl.ex_l (e.trans e1) hx⟩, fun D hD =>
  lc_list (xs := vI ns) (Cw H1 ns f v D) (cw_start hD) (fun i H' _ p => Evl.ex_l p.2.1 (Evl.ex_l (e.trans e1) hx)) (fun i x H' hi p => by
      obtain ⟨z, hz1, rfl⟩ := vI_get hi
      have hm : z ∈ ns := List.mem_of_getElem? hz1
      exact ⟨hw _, cw_turn p hz hz1 (ht z H1 hm (e.trans e1)) (fun hf => he z H1 hm (e.trans e1) hf)⟩)
    (fun H' p => q D H' (Ex.free e1 p.1) (e1.trans p.2.1) (by
      have p3 := p.2.2
      rw [vI_len, List.take_length] at p3
      exact p3))⟩
/-- over a range told by its turns -/
theorem lc_rangeC {lo c : Int} {n : Nat} {g : TG} {D : Addr} {H1 : Hp} {Qd : Hp → Prop} (Pv : Nat → Hp → Prop) (h0 : Pv 0 (upd H1 D (.lst [])))
    (hs : ∀ i H, i < n → Pv i H → g (.int (lo + (i : Nat) * c)) (wipe σ vs) H fun σ2 H2 => wipe σ2 vs = wipe σ vs ∧ t σ2 H2 fun b H3 =>
      if b = true then te σ2 H3 fun y H4 => ∃ acc, H4 D = some (.lst acc) ∧ acc.length < sizeLine ∧ Pv (i + 1) (upd H4 D (.lst (acc ++ [y]))) else Pv (i + 1) H3) (hd : ∀ H, Pv n H → Qd H) :
    ∃ W : Nat → Nat → Hp → Prop, (∃ m, W 0 m (upd H1 D (.lst []))) ∧ ∀ i m H, W i m H →
      ((Itc lo c n).stop i H ∧ Qd H) ∨ ((Itc lo c n).go i H ∧ ∃ Nx : Hp → Prop, (∀ H', Nx H' → ∃ m', m' < m ∧ W (i + 1) m' H') ∧ ∀ x H', (Itc lo c n).yld i H x H' → g x (wipe σ vs) H' fun σ2 H2 => wipe σ2 vs = wipe σ vs ∧ t σ2 H2 fun b H3 =>
        if b = true then te σ2 H3 fun y H4 => ∃ acc, H4 D = some (.lst acc) ∧ acc.length < sizeLine ∧ Nx (upd H4 D (.lst (acc ++ [y]))) else Nx H3) := by
  refine ⟨fun i m H => m + i = n ∧ Pv i H, ⟨n, rfl, h0⟩, ?_⟩
  rintro i m H ⟨hm, p⟩
  rcases Nat.lt_or_ge i n with lt | ge
  · refine .inr ⟨lt, Pv (i + 1), fun H' p' => ⟨m - 1, by omega, by omega, p'⟩, ?_⟩
    rintro x H' ⟨rfl, rfl⟩
    exact hs i _ lt p
  · obtain rfl : i = n := by omega
    exact .inl ⟨Nat.le_refl _, hd H p⟩
theorem el_C {lo c : Int} {n : Nat} {D : Addr} {Q : V → Hp → Prop} {H1 : Hp} (f : Int → Bool) (v : Int → V) (hn : n < sizeLine) (hD : H1 D = none) (hw : ∀ x, wipe ((wipe σ vs).set j (some x)) vs = wipe σ vs)
    (ht : ∀ z H2, z ∈ zR lo c n → Ex H1 H2 → EvT t ((wipe σ vs).set j (some (.int z))) H2 (f z)) (he : ∀ z H2, z ∈ zR lo c n → Ex H1 H2 → f z = true → Ev te ((wipe σ vs).set j (some (.int z))) H2 (v z))
    (q : ∀ H2, Ex H1 H2 → H2 D = some (.lst (((zR lo c n).filter f).map v)) → Q (.ref D) H2) :
    ∃ W : Nat → Nat → Hp → Prop, (∃ m, W 0 m (upd H1 D (.lst []))) ∧ ∀ i m H, W i m H →
      ((Itc lo c n).stop i H ∧ Q (.ref D) H) ∨ ((Itc lo c n).go i H ∧ ∃ Nx : Hp → Prop, (∀ H', Nx H' → ∃ m', m' < m ∧ W (i + 1) m' H') ∧ ∀ x H', (Itc lo c n).yld i H x H' → gName j x (wipe σ vs) H' fun σ2 H2 => wipe σ2 vs = wipe σ vs ∧ t σ2 H2 fun b H3 =>
        if b = true then te σ2 H3 fun y H4 => ∃ acc, H4 D = some (.lst acc) ∧ acc.length < sizeLine ∧ Nx (upd H4 D (.lst (acc ++ [y]))) else Nx H3) :=
  lc_rangeC (Cw H1 (zR lo c n) f v D) (cw_start hD) (fun i H' hi p => by
      have hz1 := zR_get (lo := lo) (c := c) hi
      have hm := List.mem_of_getElem? hz1
      exact ⟨hw _, cw_turn p (by rw [zR_len]; exact hn) hz1 (ht _ H1 hm (Evl.Ex.refl _)) (fun hf => he _ H1 hm (Evl.Ex.refl _) hf)⟩)
    (fun H' p => q H' p.2.1 (by
      have p3 := p.2.2
      rw [List.take_of_length_le (by rw [zR_len]; exact Nat.le_refl _)] at p3
      exact p3))
/-- range(i, j, c), range(i, j) of any size -/
theorem el_W3 {ta : TA} {lo hi c : Int} {n : Nat} (f : Int → Bool) (v : Int → V) (h : EvA ta σ H [.int lo, .int hi, .int c]) (hr : RgW lo hi c n) (hn : n < sizeLine) (hw : ∀ x, wipe ((wipe σ vs).set j (some x)) vs = wipe σ vs)
    (ht : ∀ z H1, z ∈ zR lo c n → Ex H H1 → EvT t ((wipe σ vs).set j (some (.int z))) H1 (f z)) (he : ∀ z H1, z ∈ zR lo c n → Ex H H1 → f z = true → Ev te ((wipe σ vs).set j (some (.int z))) H1 (v z)) :
    EvL (tLc (iRngW3 ta) (gName j) t te vs) σ H (((zR lo c n).filter f).map v) := fun H0 e Q q => h H0 e _ fun H1 e1 => ⟨lo, hi, c, n, rfl, hr, fun D hD =>
  el_C f v hn hD hw (fun z H2 hz e2 => ht z H2 hz ((e.trans e1).trans e2)) (fun z H2 hz e2 hf => he z H2 hz ((e.trans e1).trans e2) hf) fun H2 e2 h2 => q D H2 (Ex.free e1 hD) (e1.trans e2) h2⟩
theorem el_W2 {ta : TA} {lo hi : Int} (f : Int → Bool) (v : Int → V) (h : EvA ta σ H [.int lo, .int hi]) (hn : (hi - lo).toNat < sizeLine) (hw : ∀ x, wipe ((wipe σ vs).set j (some x)) vs = wipe σ vs)
    (ht : ∀ z H1, z ∈ zR lo 1 (hi - lo).toNat → Ex H H1 → EvT t ((wipe σ vs).set j (some (.int z))) H1 (f z)) (he : ∀ z H1, z ∈ zR lo 1 (hi - lo).toNat → Ex H H1 → f z = true → Ev te ((wipe σ vs).set j (some (.int z))) H1 (v z)) :
    EvL (tLc (iRngW2 ta) (gName j) t te vs) σ H (((zR lo 1 (hi - lo).toNat).filter f).map v) := fun H0 e Q q => h H0 e _ fun H1 e1 => ⟨lo, hi, rfl, fun D hD =>
  el_C f v hn hD hw (fun z H2 hz e2 => ht z H2 hz ((e.trans e1).trans e2)) (fun z H2 hz e2 hf => he z H2 hz ((e.trans e1).trans e2) hf) fun H2 e2 h2 => q D H2 (Ex.free e1 hD) (e1.trans e2) h2⟩
/-- range(n), range(i, j) within 62 bits -/
theorem lc_R {lo : Int} {n : Nat} {D : Addr} {Q : V → Hp → Prop} {H1 : Hp} (f : Int → Bool) (v : Int → V) (hn : n < sizeLine) (hD : H1 D = none) (hw : ∀ x, wipe ((wipe σ vs).set j (some x)) vs = wipe σ vs)
    (ht : ∀ z H2, z ∈ zR lo 1 n → Ex H1 H2 → EvT t ((wipe σ vs).set j (some (.int z))) H2 (f z)) (he : ∀ z H2, z ∈ zR lo 1 n → Ex H1 H2 → f z = true → Ev te ((wipe σ vs).set j (some (.int z))) H2 (v z))
    (q : ∀ H2, Ex H1 H2 → H2 D = some (.lst (((zR lo 1 n).filter f).map v)) → Q (.ref D) H2) :
    ∃ W : Nat → Nat → Hp → Prop, (∃ m, W 0 m (upd H1 D (.lst []))) ∧ ∀ i m H, W i m H →
      ((Itr lo n).stop i H ∧ Q (.ref D) H) ∨ ((Itr lo n).go i H ∧ ∃ Nx : Hp → Prop, (∀ H', Nx H' → ∃ m', m' < m ∧ W (i + 1) m' H') ∧ ∀ x H', (Itr lo n).yld i H x H' → gName j x (wipe σ vs) H' fun σ2 H2 => wipe σ2 vs = wipe σ vs ∧ t σ2 H2 fun b H3 =>
        if b = true then te σ2 H3 fun y H4 => ∃ acc, H4 D = some (.lst acc) ∧ acc.length < sizeLine ∧ Nx (upd H4 D (.lst (acc ++ [y]))) else Nx H3) :=
  lc_range (lo := lo) (n := n) (Cw H1 (zR lo 1 n) f v D) (cw_start hD) (fun i H' hi p => by
      have hz1 := zR_get (lo := lo) (c := 1) hi
      rw [Int.mul_one] at hz1
      have hm := List.mem_of_getElem? hz1
      exact ⟨hw _, cw_turn p (by rw [zR_len]; exact hn) hz1 (ht _ H1 hm (Evl.Ex.refl _)) (fun hf => he _ H1 hm (Evl.Ex.refl _) hf)⟩)
    (fun H' p => q H' p.2.1 (by
      have p3 := p.2.2
      rw [List.take_of_length_le (by rw [zR_len]; exact Nat.le_refl _)] at p3
      exact p3))
theorem el_R2 {ta : TA} {lo hi : Int} (f : Int → Bool) (v : Int → V) (h : EvA ta σ H [.int lo, .int hi]) (hb : -(2 ^ 62) ≤ lo ∧ lo < 2 ^ 62 ∧ -(2 ^ 62) ≤ hi ∧ hi < 2 ^ 62) (hn : (hi - lo).toNat < sizeLine) (hw : ∀ x, wipe ((wipe σ vs).set j (some x)) vs = wipe σ vs)
    (ht : ∀ z H1, z ∈ zR lo 1 (hi - lo).toNat → Ex H H1 → EvT t ((wipe σ vs).set j (some (.int z))) H1 (f z)) (he : ∀ z H1, z ∈ zR lo 1 (hi - lo).toNat → Ex H H1 → f z = true → Ev te ((wipe σ vs).set j (some (.int z))) H1 (v z)) :
    EvL (tLc (iRng2 ta) (gName j) t te vs) σ H (((zR lo 1 (hi - lo).toNat).filter f).map v) := fun H0 e Q q => h H0 e _ fun H1 e1 => ⟨lo, hi, rfl, hb, fun D hD =>
  lc_R f v hn hD hw (fun z H2 hz e2 => ht z H2 hz ((e.trans e1).trans e2)) (fun z H2 hz e2 hf => he z H2 hz ((e.trans e1).trans e2) hf) fun H2 e2 h2 => q D H2 (Ex.free e1 hD) (e1.trans e2) h2⟩
theorem el_R1 {ta : TA} {hi : Int} (f : Int → Bool) (v : Int → V) (h : EvA ta σ H [.int hi]) (hb : -(2 ^ 62) ≤ hi ∧ hi < 2 ^ 62) (hn : hi.toNat < sizeLine) (hw : ∀ x, wipe ((wipe σ vs).set j (some x)) vs = wipe σ vs)
    (ht : ∀ z H1, z ∈ zR 0 1 hi.toNat → Ex H H1 → EvT t ((wipe σ vs).set j (some (.int z))) H1 (f z)) (he : ∀ z H1, z ∈ zR 0 1 hi.toNat → Ex H H1 → f z = true → Ev te ((wipe σ vs).set j (some (.int z))) H1 (v z)) :
    EvL (tLc (iRng1 ta) (gName j) t te vs) σ H (((zR 0 1 hi.toNat).filter f).map v) := fun H0 e Q q => h H0 e _ fun H1 e1 => ⟨hi, rfl, hb.1, hb.2, fun D hD =>
  lc_R f v hn hD hw (fun z H2 hz e2 => ht z H2 hz ((e.trans e1).trans e2)) (fun z H2 hz e2 hf => he z H2 hz ((e.trans e1).trans e2) hf) fun H2 e2 h2 => q D H2 (Ex.free e1 hD) (e1.trans e2) h2⟩
theorem mem_zR1 {lo hi z : Int} : z ∈ zR lo 1 (hi - lo).toNat ↔ lo ≤ z ∧ z < hi := by
  rw [mem_zR]
  constructor
  · rintro ⟨i, h1, rfl⟩
    omega
  · rintro ⟨h1, h2⟩
    exact ⟨(z - lo).toNat, by omega, by omega⟩
/-! ### values -/
variable {tx ty td : TE} {x y : V}
theorem ev_din {p : Addr} {n : Int} (hn : Ev ty σ H (.int n)) (hd : Ev td σ H (.ref p)) (hp : H p = some (.dK (kvsOf ns))) : Ev (tDIn ty td) σ H (.bl (decide (n ∈ ns))) := fun H1 e Q q =>
  hn H1 e _ fun H2 e2 => hd H2 (e.trans e2) _ fun H3 e3 => ⟨p, _, rfl, DGet.k (k := Sum.inl n) (((e.trans e2).trans e3) _ _ hp), by
    rw [valV_kvs]
    exact q H3 (e2.trans e3)⟩
theorem ev_int1 {i : Int} (h : Ev tx σ H (.int i)) : Ev (tCB (fun xs H Q => (∃ i, xs = [V.int i] ∧ Q (.int i) H) ∨ ∃ k : Bool, xs = [.bl k] ∧ Q (.int (if k then 1 else 0)) H) (tCons tx tNil)) σ H (.int i) := fun H1 e Q q =>
  h H1 e _ fun H2 e2 => .inl ⟨i, rfl, q H2 e2⟩
theorem ev_inT {p : Addr} {n : Int} (hn : Ev tx σ H (.int n)) (hd : Ev ty σ H (.ref p)) (hp : H p = some (.tup (vI ns))) : Ev (tOp (rIn K false) tx ty) σ H (.bl (decide (n ∈ ns))) :=
  Evl.ev_is (Evl.ev_op hn hd (Evl.rv_isT (SqT.of hp) rfl (vI_flat ns))) (by rw [inV_vI])
theorem ev_niT {p : Addr} {n : Int} (hn : Ev tx σ H (.int n)) (hd : Ev ty σ H (.ref p)) (hp : H p = some (.tup (vI ns))) : Ev (tOp (rIn K true) tx ty) σ H (.bl (!decide (n ∈ ns))) :=
  Evl.ev_is (Evl.ev_op hn hd (Evl.rv_niT (SqT.of hp) rfl (vI_flat ns))) (by rw [inV_vI])
theorem et_cmp {b : Bool} {u : TE} (h : Ev u σ H (.bl b)) : EvT (tTest u) σ H b := Evl.et_test h
theorem EvL.is {xs ys : List V} (h : EvL te σ H xs) (e : xs = ys) : EvL te σ H ys := e ▸ h
theorem et_yes : EvT tYes σ H true := fun H1 _ _ q => q H1 (Evl.Ex.refl H1)
theorem filter_yes (l : List Int) : l.filter (fun _ => true) = l := List.filter_eq_self.mpr fun _ _ => rfl
/-- all([..]) of a new list of truth values -/
theorem ev_all {bs : List Bool} (h : EvL tx σ H (bs.map V.bl)) : Ev (tCB (rAll K) (tCons tx tNil)) σ H (.bl (bs.all id)) := fun H1 e Q q =>
  h H1 e _ fun p H2 _ e2 hp => ⟨p, bs, rfl, SqL.of hp, q H2 e2⟩
end
end Nv
set_option Elab.async false
set_option linter.all false
set_option maxRecDepth 100000
set_option maxHeartbeats 2000000
/-! NvEv: what a reading evaluates to, told by a word of the value and the heap; statements by it. -/
namespace Nv
open PySem PySem.Spec PyProof.Rows L2
open Evl (Ev EvT EvL EvU EvA)
def EvP (te : TE) (σ : L2.St) (H : Hp) (P : V → Hp → Prop) : Prop := ∀ H1, Ex H H1 → ∀ Q : VK, (∀ v H2, Ex H1 H2 → P v H2 → Q v H2) → te σ H1 Q
/-- what a def promises: of its arguments, whatever came beside -/
def SpP (sp : Sp) (vs : List V) (H : Hp) (P : V → Hp → Prop) : Prop := ∀ H1, Ex H H1 → ∀ Q : VK, (∀ v H2, Ex H1 H2 → P v H2 → Q v H2) → ∀ E : XK, sp vs H1 Q E
abbrev IsT (ns : List Int) : V → Hp → Prop := fun v H => Tp H v ns
abbrev IsL (ns : List Int) : V → Hp → Prop := fun v H => Ls H v ns
section
variable {K : PySem.W.Frag} {σ : L2.St} {H H' : Hp} {te ta tb : TE} {t : TT} {tA : TA} {P : V → Hp → Prop} {v : V} {vs xs : List V} {sp : Sp} {E : XK} {D : Ends} {tz tu tw : TS} {i : Nat} {g : TG} {ns : List Int}
theorem EvP.mono (h : EvP te σ H P) (e : Ex H H') : EvP te σ H' P := fun H1 e1 Q q => h H1 (e.trans e1) Q q
theorem EvP.imp {P' : V → Hp → Prop} (h : EvP te σ H P) (k : ∀ v H1, Ex H H1 → P v H1 → P' v H1) : EvP te σ H P' := fun H1 e Q q => h H1 e Q fun v H2 e2 p => q v H2 e2 (k v H2 (e.trans e2) p)
theorem Ev.p (h : Ev te σ H v) : EvP te σ H (fun w _ => w = v) := fun H1 e Q q => h H1 e Q fun H2 e2 => q v H2 e2 rfl
theorem EvL.p (h : EvL te σ H (vI ns)) : EvP te σ H (IsL ns) := fun H1 e Q q => h H1 e Q fun p H2 _ e2 hp => q _ H2 e2 ⟨p, rfl, hp⟩
theorem EvU.p (h : EvU te σ H (vI ns)) : EvP te σ H (IsT ns) := fun H1 e Q q => h H1 e Q fun p H2 _ e2 hp => q _ H2 e2 ⟨p, rfl, hp⟩
theorem EvP.ev (h : EvP te σ H (fun w _ => w = v)) : Ev te σ H v := fun H1 e Q q => h H1 e Q fun w H2 e2 p => by rw [p]; exact q H2 e2
theorem evp_call (h : EvA tA σ H vs) (hs : SpP sp (vs ++ []) H P) : EvP (tCall sp [] E tA) σ H P := fun H1 e Q q => h H1 e _ fun H2 e2 => hs H2 (e.trans e2) Q (fun v H3 e3 p => q v H3 (e2.trans e3) p) E
theorem ev_callV (h : EvA tA σ H vs) (hs : SpP sp (vs ++ []) H (fun w _ => w = v)) : Ev (tCall sp [] E tA) σ H v := (evp_call h hs).ev
/-- tuple(xs) of a new list -/
theorem eu_tuple (h : EvL te σ H xs) : EvU (tCB (fun xs H Q => ∃ p ys, xs = [.ref p] ∧ ((SqL K H p ys ∧ ∀ l, H l = none → Q (.ref l) (upd H l (.tup ys))) ∨ (SqT K H p ys ∧ Q (.ref p) H))) (tCons te tNil)) σ H xs := fun H1 e Q q =>
  h H1 e _ fun p H2 _ e2 hp => ⟨p, xs, rfl, .inl ⟨SqL.of hp, fun l hl => q l _ (Ex.free e2 hl) (Ex.step e2 hl) upd_same⟩⟩
/-- tuple(v) of a list that stands -/
theorem eu_tupleV {p : Addr} (h : Ev te σ H (.ref p)) (hp : H p = some (.lst xs)) : EvU (tCB (fun xs H Q => ∃ p ys, xs = [.ref p] ∧ ((SqL K H p ys ∧ ∀ l, H l = none → Q (.ref l) (upd H l (.tup ys))) ∨ (SqT K H p ys ∧ Q (.ref p) H))) (tCons te tNil)) σ H xs := fun H1 e Q q =>
  h H1 e _ fun H2 e2 => ⟨p, xs, rfl, .inl ⟨SqL.of ((e.trans e2) _ _ hp), fun l hl => q l _ (Ex.free e2 hl) (Ex.step e2 hl) upd_same⟩⟩
/-- the arguments one by one -/
theorem u_cons {tr : TA} {Q : List V → Hp → Prop} (h : ta σ H fun x H1 => tr σ H1 fun xs H2 => Q (x :: xs) H2) : tCons ta tr σ H Q := h
theorem u_cb {r : List V → Hp → VK → Prop} {Q : VK} (h : tA σ H fun vs H1 => r vs H1 Q) : tCB r tA σ H Q := h
theorem u_cb1 {r : List V → Hp → VK → Prop} {Q : VK} (h : ta σ H fun x H1 => r [x] H1 Q) : tCB r (tCons ta tNil) σ H Q := h
theorem u_op {r : R2} {Q : VK} (h : ta σ H fun x H1 => tb σ H1 fun y H2 => r x y H2 Q) : tOp r ta tb σ H Q := h
theorem u_call {Q : VK} (h : tA σ H fun vs H1 => sp (vs ++ []) H1 Q E) : tCall sp [] E tA σ H Q := h
theorem u_asg (h : te σ H fun x H1 => tz D (σ.set i (some x)) H1) : tSeq (tAsg te (gName i)) tz D σ H := h
theorem u_seq (h : tu { D with nx := tz D } σ H) : tSeq tu tz D σ H := h
theorem u_ret (h : te σ H D.rt) : tRet te D σ H := h
/-! ### statements -/
theorem q_asgP (h : EvP te σ H P) (k : ∀ v H1, Ex H H1 → P v H1 → tz D (σ.set i (some v)) H1) : tSeq (tAsg te (gName i)) tz D σ H := h H (Evl.Ex.refl H) _ k
theorem s_asgP (h : EvP te σ H P) (k : ∀ v H1, Ex H H1 → P v H1 → D.nx (σ.set i (some v)) H1) : tAsg te (gName i) D σ H := h H (Evl.Ex.refl H) _ k
theorem s_retP (h : EvP te σ H P) (k : ∀ v H1, Ex H H1 → P v H1 → D.rt v H1) : tRet te D σ H := h H (Evl.Ex.refl H) _ k
theorem s_retE (h : Ev te σ H v) (k : ∀ H1, Ex H H1 → D.rt v H1) : tRet te D σ H := h H (Evl.Ex.refl H) _ k
/-- if t: return .. -/
theorem q_ret (h : EvT t σ H false) (k : ∀ H1, Ex H H1 → tz D σ H1) : tSeq (tIfS t tu tNext) tz D σ H := h H (Evl.Ex.refl H) _ fun H1 e => k H1 e
theorem et_orV {u : TT} {a b : Bool} (h1 : EvT t σ H a) (h2 : EvT u σ H b) : EvT (tOr t u) σ H (a || b) := Evl.et_or h1 fun _ => h2
theorem et_andV {u : TT} {a b : Bool} (h1 : EvT t σ H a) (h2 : EvT u σ H b) : EvT (tAnd t u) σ H (a && b) := Evl.et_and h1 fun _ => h2
/-! ### values -/
variable {n m : Int}
theorem ev_add (ha : Ev ta σ H (.int n)) (hb : Ev tb σ H (.int m)) : Ev (tOp (rI0 fun i j => .int (i + j)) ta tb) σ H (.int (n + m)) := Evl.ev_op ha hb Evl.rv_I0
theorem ev_sub (ha : Ev ta σ H (.int n)) (hb : Ev tb σ H (.int m)) : Ev (tOp (rI0 fun i j => .int (i - j)) ta tb) σ H (.int (n - m)) := Evl.ev_op ha hb Evl.rv_I0
theorem ev_mul (ha : Ev ta σ H (.int n)) (hb : Ev tb σ H (.int m)) (h : CMul n m) : Ev (tOp (rI CMul fun i j => .int (i * j)) ta tb) σ H (.int (n * m)) := Evl.ev_op ha hb (Evl.rv_I h)
theorem ev_mod (ha : Ev ta σ H (.int n)) (hb : Ev tb σ H (.int m)) (h : 0 < m) : Ev (tOp (rI (fun _ j => 0 < j) fun i j => .int (i % j)) ta tb) σ H (.int (n % m)) := Evl.ev_op ha hb (Evl.rv_I h)
theorem ev_fdiv (ha : Ev ta σ H (.int n)) (hb : Ev tb σ H (.int m)) (h : CDiv n m) : Ev (tOp (rI CDiv fun i j => .int (i / j)) ta tb) σ H (.int (n / m)) := Evl.ev_op ha hb (Evl.rv_I h)
theorem ev_I0b {p : Int → Int → Bool} (ha : Ev ta σ H (.int n)) (hb : Ev tb σ H (.int m)) : Ev (tOp (rI0 fun i j => .bl (p i j)) ta tb) σ H (.bl (p n m)) := Evl.ev_op ha hb Evl.rv_I0
theorem ev_eqI (ha : Ev ta σ H (.int n)) (hb : Ev tb σ H (.int m)) : Ev (tOp rEq ta tb) σ H (.bl (decide (n = m))) :=
  Evl.ev_is (Evl.ev_op ha hb (Evl.rv_eq rfl)) (by rw [decide_eq_decide.mpr ⟨fun q => V.int.inj q, fun q => congrArg V.int q⟩])
theorem ev_eqB {a b : Bool} (ha : Ev ta σ H (.bl a)) (hb : Ev tb σ H (.bl b)) : Ev (tOp rEq ta tb) σ H (.bl (decide (a = b))) :=
  Evl.ev_is (Evl.ev_op ha hb (Evl.rv_eq rfl)) (by rw [decide_eq_decide.mpr ⟨fun q => V.bl.inj q, fun q => congrArg V.bl q⟩])
theorem ev_neB {a b : Bool} (ha : Ev ta σ H (.bl a)) (hb : Ev tb σ H (.bl b)) : Ev (tOp rNe ta tb) σ H (.bl (!decide (a = b))) :=
  Evl.ev_is (Evl.ev_op ha hb (Evl.rv_ne rfl)) (by rw [decide_eq_decide.mpr ⟨fun q => V.bl.inj q, fun q => congrArg V.bl q⟩])
theorem et_eqI (ha : Ev ta σ H (.int n)) (hb : Ev tb σ H (.int m)) : EvT (tTest (tOp rEq ta tb)) σ H (decide (n = m)) := Evl.et_test (ev_eqI ha hb)
theorem et_lt (ha : Ev ta σ H (.int n)) (hb : Ev tb σ H (.int m)) : EvT (tTest (tOp (rI0 fun i j => .bl (decide (i < j))) ta tb)) σ H (decide (n < m)) := Evl.et_test (Evl.ev_op ha hb Evl.rv_I0)
theorem et_le (ha : Ev ta σ H (.int n)) (hb : Ev tb σ H (.int m)) : EvT (tTest (tOp (rI0 fun i j => .bl (decide (i ≤ j))) ta tb)) σ H (decide (n ≤ m)) := Evl.et_test (Evl.ev_op ha hb Evl.rv_I0)
theorem et_gt (ha : Ev ta σ H (.int n)) (hb : Ev tb σ H (.int m)) : EvT (tTest (tOp (rI0 fun i j => .bl (decide (j < i))) ta tb)) σ H (decide (m < n)) := Evl.et_test (Evl.ev_op ha hb Evl.rv_I0)
theorem et_ge (ha : Ev ta σ H (.int n)) (hb : Ev tb σ H (.int m)) : EvT (tTest (tOp (rI0 fun i j => .bl (decide (j ≤ i))) ta tb)) σ H (decide (m ≤ n)) := Evl.et_test (Evl.ev_op ha hb Evl.rv_I0)
/-- a <= b < c -/
theorem ev_chain {r r' : R2} {tc : TE} {a b : Bool} {x y z : V} (ha : Ev ta σ H x) (hb : Ev tb σ H y) (hc : Ev tc σ H z) (h1 : Evl.RV r x y H (.bl a)) (h2 : Evl.RV r' y z H (.bl b)) : Ev (tChain r r' ta tb tc) σ H (.bl (a && b)) := fun H1 e Q q =>
  ha H1 e _ fun H2 e2 => hb H2 (e.trans e2) _ fun H3 e3 => h1 H3 ((e.trans e2).trans e3) _ fun H4 e4 => ⟨a, rfl, by
    cases a with
    | true => exact iteT (hc H4 (((e.trans e2).trans e3).trans e4) _ fun H5 e5 => h2 H5 ((((e.trans e2).trans e3).trans e4).trans e5) Q fun H6 e6 => q H6 ((((e2.trans e3).trans e4).trans e5).trans e6))
    | false => exact iteF (q H4 ((e2.trans e3).trans e4))⟩
theorem ev_lenT {p : Addr} (ha : Ev ta σ H (.ref p)) (h : H p = some (.tup xs)) : Ev (tCB (fun xs H Q => ∃ p ys, xs = [.ref p] ∧ (SqL K H p ys ∨ SqT K H p ys) ∧ Q (.int ys.length) H) (tCons ta tNil)) σ H (.int (xs.length : Int)) := fun H1 e Q q =>
  ha H1 e _ fun H2 e2 => ⟨p, xs, rfl, .inr (SqT.of ((e.trans e2) _ _ h)), q H2 e2⟩
theorem ev_lenL {p : Addr} (ha : Ev ta σ H (.ref p)) (h : H p = some (.lst xs)) : Ev (tCB (fun xs H Q => ∃ p ys, xs = [.ref p] ∧ (SqL K H p ys ∨ SqT K H p ys) ∧ Q (.int ys.length) H) (tCons ta tNil)) σ H (.int (xs.length : Int)) := fun H1 e Q q =>
  ha H1 e _ fun H2 e2 => ⟨p, xs, rfl, .inl (SqL.of ((e.trans e2) _ _ h)), q H2 e2⟩
theorem ev_lenN (ha : EvL ta σ H xs) : Ev (tCB (fun xs H Q => ∃ p ys, xs = [.ref p] ∧ (SqL K H p ys ∨ SqT K H p ys) ∧ Q (.int ys.length) H) (tCons ta tNil)) σ H (.int (xs.length : Int)) := fun H1 e Q q =>
  ha H1 e _ fun p H2 _ e2 hp => ⟨p, xs, rfl, .inl (SqL.of hp), q H2 e2⟩
theorem ev_lenD {p : Addr} (ha : Ev ta σ H (.ref p)) (h : H p = some (.dK (kvsOf ns))) : Ev (tCB (fun xs H Q => ∃ a kvs, xs = [V.ref a] ∧ H a = some (.dK kvs) ∧ Q (.int kvs.length) H) (tCons ta tNil)) σ H (.int (ns.length : Int)) := fun H1 e Q q =>
  ha H1 e _ fun H2 e2 => ⟨p, _, rfl, (e.trans e2) _ _ h, by
    unfold kvsOf
    rw [List.length_map]
    exact q H2 e2⟩
theorem ev_max2 (ha : Ev ta σ H (.int n)) (hb : Ev tb σ H (.int m)) : Ev (tCB (fun xs H Q => ∃ i j, xs = [.int i, .int j] ∧ Q (.int (if j > i then j else i)) H) (tCons ta (tCons tb tNil))) σ H (.int (max n m)) := fun H1 e Q q =>
  ha H1 e _ fun H2 e2 => hb H2 (e.trans e2) _ fun H3 e3 => ⟨n, m, rfl, by
    rw [show (if m > n then m else n) = max n m by split <;> omega]
    exact q H3 (e2.trans e3)⟩
theorem ev_min2 (ha : Ev ta σ H (.int n)) (hb : Ev tb σ H (.int m)) : Ev (tCB (fun xs H Q => ∃ i j, xs = [.int i, .int j] ∧ Q (.int (if j < i then j else i)) H) (tCons ta (tCons tb tNil))) σ H (.int (min n m)) := fun H1 e Q q =>
  ha H1 e _ fun H2 e2 => hb H2 (e.trans e2) _ fun H3 e3 => ⟨n, m, rfl, by
    rw [show (if m < n then m else n) = min n m by split <;> omega]
    exact q H3 (e2.trans e3)⟩
theorem atI_last' {xs : List V} {z : V} (h : xs.getLast? = some z) : atI xs (-1) = some z := by
  obtain ⟨ys, rfl⟩ : ∃ ys, xs = ys ++ [z] := by
    rw [List.getLast?_eq_some_iff] at h
    exact h
  exact atI_last ys z
theorem ev_ixT {p : Addr} (ha : Ev ta σ H (.ref p)) (hb : Ev tb σ H (.int n)) (h : H p = some (.tup xs)) (hx : atI xs n = some v) : Ev (tOp (rIxT K) ta tb) σ H v := Evl.ev_op ha hb (Evl.rv_ixT (SqT.of h) hx)
theorem ev_ixL {p : Addr} (ha : Ev ta σ H (.ref p)) (hb : Ev tb σ H (.int n)) (h : H p = some (.lst xs)) (hx : atI xs n = some v) : Ev (tOp (rIxL K) ta tb) σ H v := Evl.ev_op ha hb (Evl.rv_ixL (SqL.of h) hx)
theorem ev_fld {a C dx : Addr} {fs : List (Str × V)} {f : Str} (ha : Ev ta σ H (.ref a)) (h : H a = some (.ins C dx fs)) (c : Cls K C) (hn : NoAttr K C f) (hl : fs.lookup f = some v) : Ev (tFld K ta f) σ H v := fun H1 e Q q =>
  ha H1 e _ fun H2 e2 => ⟨a, C, dx, fs, v, rfl, (e.trans e2) _ _ h, c, hn, hl, q H2 e2⟩
/-- isinstance of an int, of a tuple -/
theorem ev_isi {x : V} {T : String} {r : Bool} {tn : String} (ha : Ev ta σ H x) (ht : ∀ H1, Ex H H1 → TyX K H1 x (.type tn)) (hk : kitB tn T = some r) : Ev (tCB (rIsi K) (tCons ta (tCons (tC (.ty T)) tNil))) σ H (.bl r) := fun H1 e Q q =>
  ha H1 e _ fun H2 e2 => ⟨x, _, _, _, r, rfl, .ty T, ht H2 (e.trans e2), kit_ty hk, q H2 e2⟩
theorem ev_notV {b : Bool} (h : Ev te σ H (.bl b)) : EvT (tNot (tB te)) σ H (!b) := Evl.et_not (Evl.et_B h)
/-- min(xs), max(xs), sum(xs) of a new list; sorted of it, below 64 -/
theorem evp_min (h : EvL te σ H (vI ns)) (hz : 0 < ns.length) : EvP (tCB (rMin K) (tCons te tNil)) σ H (fun v _ => ∃ m, v = .int m ∧ m ∈ ns ∧ ∀ y ∈ ns, m ≤ y) := fun H1 e Q q =>
  h H1 e _ fun p H2 _ e2 hp => ⟨p, ns, rfl, SqL.of hp, hz, fun m hm hl => q _ H2 e2 ⟨m, rfl, hm, hl⟩⟩
theorem evp_minV {p : Addr} (h : Ev te σ H (.ref p)) (hp : H p = some (.lst (vI ns))) (hz : 0 < ns.length) : EvP (tCB (rMin K) (tCons te tNil)) σ H (fun v _ => ∃ m, v = .int m ∧ m ∈ ns ∧ ∀ y ∈ ns, m ≤ y) := fun H1 e Q q =>
  h H1 e _ fun H2 e2 => ⟨p, ns, rfl, SqL.of ((e.trans e2) _ _ hp), hz, fun m hm hl => q _ H2 e2 ⟨m, rfl, hm, hl⟩⟩
theorem evp_maxV {p : Addr} (h : Ev te σ H (.ref p)) (hp : H p = some (.lst (vI ns))) (hz : 0 < ns.length) : EvP (tCB (rMax K) (tCons te tNil)) σ H (fun v _ => ∃ m, v = .int m ∧ m ∈ ns ∧ ∀ y ∈ ns, y ≤ m) := fun H1 e Q q =>
  h H1 e _ fun H2 e2 => ⟨p, ns, rfl, SqL.of ((e.trans e2) _ _ hp), hz, fun m hm hl => q _ H2 e2 ⟨m, rfl, hm, hl⟩⟩
theorem ev_sum (h : EvL te σ H (vI ns)) : Ev (tCB (rSum K) (tCons te tNil)) σ H (.int ns.sum) := fun H1 e Q q =>
  h H1 e _ fun p H2 _ e2 hp => ⟨p, ns, rfl, SqL.of hp, q H2 e2⟩
/-- xs + ys of two new lists -/
theorem el_cat {ys : List V} (ha : EvL ta σ H xs) (hb : EvL tb σ H ys) (hz : xs.length + ys.length ≤ sizeLine) : EvL (tOp rCat ta tb) σ H (xs ++ ys) := fun H1 e Q q =>
  ha H1 e _ fun p H2 _ e2 hp => hb H2 (e.trans e2) _ fun r H3 _ e3 hr => ⟨p, r, xs, ys, rfl, rfl, e3 _ _ hp, hr, hz, fun l hl => q l _ (Ex.free (e2.trans e3) hl) (Ex.step (e2.trans e3) hl) upd_same⟩
theorem el_catV {ys : List V} {p : Addr} (ha : Ev ta σ H (.ref p)) (hp : H p = some (.lst xs)) (hb : EvL tb σ H ys) (hz : xs.length + ys.length ≤ sizeLine) : EvL (tOp rCat ta tb) σ H (xs ++ ys) := fun H1 e Q q =>
  ha H1 e _ fun H2 e2 => hb H2 (e.trans e2) _ fun r H3 _ e3 hr => ⟨p, r, xs, ys, rfl, rfl, ((e.trans e2).trans e3) _ _ hp, hr, hz, fun l hl => q l _ (Ex.free (e2.trans e3) hl) (Ex.step (e2.trans e3) hl) upd_same⟩
/-- xs[:n] of a new list -/
theorem el_take {n : Nat} (h : EvL te σ H xs) : EvL (tSl (rSlL K) te tNoPart (tPart (tC (.int (n : Int))))) σ H (xs.take n) := fun H1 e Q q =>
  h H1 e _ fun p H2 _ e2 hp => ⟨(n : Int), rfl, p, xs, rfl, SqL.of hp, fun l hl => q l _ (Ex.free e2 hl) (Ex.step e2 hl) (by
    rw [show cutV xs none (some (n : Int)) = xs.take n by
      unfold cutV
      rw [HT.sIx_none, HT.sIx_nat, List.drop_zero, Nat.sub_zero]
      by_cases c : n ≤ xs.length
      · rw [Nat.min_eq_left c]
      · rw [Nat.min_eq_right (by omega), List.take_length, List.take_of_length_le (by omega)]]
    exact upd_same)⟩
/-- list(xs) of what stands -/
theorem el_listT {p : Addr} (h : Ev te σ H (.ref p)) (hp : H p = some (.tup xs)) : EvL (tCB (fun xs H Q => ∃ p ys, xs = [.ref p] ∧ (SqL K H p ys ∨ SqT K H p ys) ∧ ∀ l, H l = none → Q (.ref l) (upd H l (.lst ys))) (tCons te tNil)) σ H xs := fun H1 e Q q =>
  h H1 e _ fun H2 e2 => ⟨p, xs, rfl, .inr (SqT.of ((e.trans e2) _ _ hp)), fun l hl => q l _ (Ex.free e2 hl) (Ex.step e2 hl) upd_same⟩
end
end Nv
set_option Elab.async false
set_option linter.all false
set_option maxRecDepth 100000
set_option maxHeartbeats 4000000
/-! NvA: the small checks, keyed, common_divisor, is_round. -/
namespace Nv
open PySem PySem.Spec PyProof.Rows L2
def spIsInteger : Sp := fun vs H Q _ => ∃ n : Int, vs = [.int n] ∧ ∀ H2, Ex H H2 → Q (.bl true) H2
def spIsWithin : Sp := fun vs H Q _ => ∃ n a b : Int, vs = [.int n, .int a, .int b] ∧ ∀ H2, Ex H H2 → Q (.bl (decide (a ≤ n ∧ n ≤ b))) H2
section
variable {P : Program} {w : World} {K : PySem.W.Frag} {mg : Str → Option Value} {base : Heap}
theorem sc_is_integer : FnScope ["thing"] ["thing"] (defScope sIsInteger) := ⟨rfl, rfl, rfl, by decide +kernel, rfl, by decide +kernel, by decide +kernel⟩
theorem ok_is_integer (T : Txt K mg) : Gd P w K mg base CX0 1 (He.ga K "is_integer") ["thing"] spIsInteger := by
  refine Fn.good T.f_is_integer sc_is_integer (fun _ _ _ _ _ _ us hl => match us, hl with | [_], _ => rfl) (fun vs H Q E h => ?_) (fun cdv A outer s H vs Q E hr h => ?_)
  · obtain ⟨n, rfl, _⟩ := h
    rfl
  · obtain ⟨n, rfl, k⟩ := h
    refine ⟨_, (pss_one (ps_ret (pe_and (pe_callB call_isi (by rfl) T.n_isinstance (by decide +kernel) (pa_cons (pv 0) (pa_cons (pe_bltn (v := .ty "int") (u := .type "int") (by rfl) T.n_int (by decide +kernel) rfl) pa_nil))) (pe_one (pe_not (pe_callB call_isi (by rfl) T.n_isinstance (by decide +kernel) (pa_cons (pv 0) (pa_cons (pe_bltn (v := .ty "bool") (u := .type "bool") (by rfl) T.n_bool (by decide +kernel) rfl) pa_nil)))))))), ?_⟩
    refine ⟨_, rfl, _, _, _, _, _, rfl, .ty "int", .base (.int n), kit_ty (r := true) (by decide +kernel), true, rfl, iteT ?_⟩
    refine ⟨_, rfl, _, _, _, _, _, rfl, .ty "bool", .base (.int n), kit_ty (r := false) (by decide +kernel), false, rfl, ?_⟩
    exact k _ (Evl.Ex.refl _)
theorem sc_is_within : FnScope ["thing", "least", "most"] ["thing", "least", "most"] (defScope sIsWithin) := ⟨rfl, rfl, rfl, by decide +kernel, rfl, by decide +kernel, by decide +kernel⟩
theorem ok_is_within (T : Txt K mg) : Gd P w K mg base CX0 2 (He.ga K "is_within") ["thing", "least", "most"] spIsWithin := by
  have G_is_integer : Gd P w K mg base CX0 1 (He.ga K "is_integer") ["thing"] spIsInteger := ok_is_integer T
  refine Fn.good T.f_is_within sc_is_within (fun _ _ _ _ _ _ us hl => match us, hl with | [_, _, _], _ => rfl) (fun vs H Q E h => ?_) (fun cdv A outer s H vs Q E hr h => ?_)
  · obtain ⟨n, a, b, rfl, _⟩ := h
    rfl
  · obtain ⟨n, a, b, rfl, k⟩ := h
    refine ⟨_, (pss_one (ps_ret (pe_and (pcl G_is_integer (hr.mono (by decide)) T.g_is_integer (pa_cons (pv 0) pa_nil)) (pe_one (pe_chain op_le op_le (pv 1) (pv 0) (pv 2)))))), ?_⟩
    refine ⟨_, rfl, n, rfl, fun H2 e2 => ⟨true, rfl, iteT ?_⟩⟩
    refine ⟨_, rfl, _, rfl, _, _, rfl, rfl, _, rfl, ?_⟩
    refine ite2 (fun c => ?_) (fun c => ?_)
    · refine ⟨_, rfl, _, _, rfl, rfl, ?_⟩
      have c1 : a ≤ n := of_decide_eq_true c
      have z := k H2 e2
      rw [show decide (a ≤ n ∧ n ≤ b) = decide (n ≤ b) from decide_eq_decide.mpr ⟨fun q => q.2, fun q => ⟨c1, q⟩⟩] at z
      exact z
    · have c1 : ¬ a ≤ n := fun q => c (decide_eq_true q)
      have z := k H2 e2
      rw [decide_eq_false (fun q => c1 q.1)] at z
      exact z
end
end Nv
set_option Elab.async false
set_option linter.all false
set_option maxRecDepth 100000
set_option maxHeartbeats 4000000
/-! NvA2: keyed, common_divisor, is_round, is_ascending, is_rising. -/
namespace Nv
open PySem PySem.Spec PyProof.Rows L2
open Evl (Ev EvT EvL EvU EvA)
def spKeyed : Sp := fun vs H Q _ => ∃ (p : Addr) (ns : List Int), vs = [.ref p] ∧ H p = some (.tup (vI ns)) ∧ ns.Nodup ∧ ns.length < sizeLine ∧ ∀ q H2, Ex H H2 → H2 q = some (.dK (kvsOf ns)) → Q (.ref q) H2
def spGcd : Sp := fun vs H Q _ => ∃ a b : Int, vs = [.int a, .int b] ∧ ∀ H2, Ex H H2 → Q (.int (Nat.gcd a.natAbs b.natAbs : Nat)) H2
def rndB (rests : List Int) (st k : Int) : Bool := rests.all fun r => decide ((r + k) % st ∈ rests)
theorem rndB_iff {rests : List Int} {st k : Int} : rndB rests st k = true ↔ Rnd rests st k := by
  unfold rndB Rnd
  rw [List.all_eq_true]
  exact ⟨fun h r hr => of_decide_eq_true (h r hr), fun h r hr => decide_eq_true (h r hr)⟩
def spIsRound : Sp := fun vs H Q _ => ∃ (p : Addr) (ns : List Int) (st k : Int), vs = [.ref p, .int st, .int k] ∧ H p = some (.tup (vI ns)) ∧ ns.Nodup ∧ ns.length < sizeLine ∧ 0 < st ∧ ∀ H2, Ex H H2 → Q (.bl (rndB ns st k)) H2
theorem kvs_put {ns : List Int} {i : Nat} {z : Int} (hn : ns.Nodup) (h : ns[i]? = some z) : putK (kvsOf (ns.take i)) (Sum.inl z : Key) (V.bl true) = kvsOf (ns.take (i + 1)) := by
  have hnew : valV (kvsOf (ns.take i)) (Sum.inl z : Key) = none := by
    have q := valV_kvs z (ns.take i)
    have nm : z ∉ ns.take i := fun m => by
      obtain ⟨j, hj, e⟩ := List.mem_take_iff_getElem.mp m
      have hi := (List.getElem?_eq_some_iff.mp h)
      obtain ⟨hi1, hi2⟩ := hi
      have := (List.getElem_inj hn).mp (e.trans hi2.symm)
      omega
    rw [decide_eq_false nm] at q
    cases c : valV (kvsOf (ns.take i)) (Sum.inl z : Key) with
    | none => rfl
    | some v => rw [c] at q; cases q
  rw [putK_new _ hnew, take_more h]
  unfold kvsOf
  rw [List.map_append]
  rfl
theorem sp_keyed {H : Hp} {p : Addr} {ns : List Int} (hp : H p = some (.tup (vI ns))) (hn : ns.Nodup) (hz : ns.length < sizeLine) : SpP spKeyed [.ref p] H (fun v H => Dk H v ns) := fun H1 e Q q E =>
  ⟨p, ns, rfl, e _ _ hp, hn, hz, fun l H2 e2 hl => q _ H2 e2 ⟨l, rfl, hl⟩⟩
section
variable {P : Program} {w : World} {K : PySem.W.Frag} {mg : Str → Option Value} {base : Heap}
theorem sc_keyed : FnScope ["numbers", "number"] ["numbers"] (defScope sKeyed) := ⟨rfl, rfl, rfl, by decide +kernel, rfl, by decide +kernel, by decide +kernel⟩
theorem ok_keyed (T : Txt K mg) : Gd P w K mg base CX0 1 (He.ga K "keyed") ["numbers"] spKeyed := by
  refine Fn.good T.f_keyed sc_keyed (fun _ _ _ _ _ _ us hl => match us, hl with | [_], _ => rfl) (fun vs H Q E h => ?_) (fun cdv A outer s H vs Q E hr h => ?_)
  · obtain ⟨p, ns, rfl, _⟩ := h
    rfl
  · obtain ⟨p, ns, rfl, hp, hn, hz, k⟩ := h
    refine ⟨_, (pss_one (ps_ret (pe_dc (own := [("number", 1)]) (g := gName 1) (tt := tYes) rfl sc_keyed.nd (pi_tup (pv 0)) (blkOk_by (N := ["numbers", "number"]) (sc := defScope sKeyed) (by decide +kernel)) (fun _ _ _ _ _ => pg_name (i := 1) sc_keyed.nd rfl (Or.inl rfl)) (fun _ _ _ _ _ => pts_nil) (fun _ _ _ _ _ => (pv 1)) (fun _ _ _ _ _ => pe_bl)))), ?_⟩
    refine ⟨_, rfl, p, rfl, ⟨_, SqT.of hp⟩, fun D hD => dc_tup (xs := vI ns) (fun i H' => Ex H H' ∧ H' D = some (.dK (kvsOf (ns.take i)))) ⟨Evl.Ex.new hD, upd_same⟩ (fun i H' _ q => SqT.of (q.1 _ _ hp)) (fun i x H' hi q => ?_) (fun H' q => k D H' q.1 ?_)⟩
    · obtain ⟨z, hz1, rfl⟩ := vI_get hi
      obtain ⟨q1, q2⟩ := q
      refine ⟨rfl, _, rfl, _, Sum.inl z, rfl, q2, ?_, Ex.mut q1 hD, ?_⟩
      · unfold kvsOf
        rw [List.length_map, List.length_take]
        omega
      · rw [kvs_put hn hz1]
        exact upd_same
    · have q2 := q.2
      rw [vI_len, List.take_length] at q2
      exact q2
theorem sc_common_divisor : FnScope ["one", "other"] ["one", "other"] (defScope sCommonDivisor) := ⟨rfl, rfl, rfl, by decide +kernel, rfl, by decide +kernel, by decide +kernel⟩
theorem ok_common_divisor (T : Txt K mg) : Gd P w K mg base CX0 1 (He.ga K "common_divisor") ["one", "other"] spGcd := by
  refine Fn.good T.f_common_divisor sc_common_divisor (fun _ _ _ _ _ _ us hl => match us, hl with | [_, _], _ => rfl) (fun vs H Q E h => ?_) (fun cdv A outer s H vs Q E hr h => ?_)
  · obtain ⟨a, b, rfl, _⟩ := h
    rfl
  · obtain ⟨a, b, rfl, k⟩ := h
    refine ⟨_, (pss_cons (ps_set (i := 0) sc_common_divisor.nd rfl (Or.inl rfl) (pe_callB call_abs (by rfl) T.n_abs (by decide +kernel) (pa_cons (pv 0) pa_nil)))
      (pss_cons (ps_set (i := 1) sc_common_divisor.nd rfl (Or.inl rfl) (pe_callB call_abs (by rfl) T.n_abs (by decide +kernel) (pa_cons (pv 1) pa_nil)))
      (pss_cons (ps_while PassesOwn.never (pt_cmpR op_gt (pv 1) pe_int (nomark _)) (pss_one (ps_par (i := 0) (j := 1) rfl sc_common_divisor.nd rfl rfl (by decide) rfl rfl (pa_cons (pv 1) (pa_cons (pe_op op_mod (pv 0) (pv 1)) pa_nil)) (by rfl))))
      (pss_one (ps_ret (pv 0)))))), ?_⟩
    refine ⟨_, rfl, a, rfl, ?_⟩
    refine ⟨_, rfl, b, rfl, ?_⟩
    refine ⟨fun m σ' H' => ∃ x : Nat, σ' = [some (.int (x : Int)), some (.int (m : Int))] ∧ H' = H ∧ Nat.gcd x m = Nat.gcd a.natAbs b.natAbs, ⟨b.natAbs, a.natAbs, ?_, rfl, rfl⟩, ?_⟩
    · have e : ∀ z : Int, (if z < 0 then -z else z) = (z.natAbs : Int) := fun z => by split <;> omega
      show [some (V.int (if a < 0 then -a else a)), some (V.int (if b < 0 then -b else b))] = _
      rw [e, e]
    · rintro m σ' H' ⟨x, rfl, rfl, g⟩
      refine ⟨_, rfl, _, _, rfl, rfl, _, rfl, ?_⟩
      refine ite2 (fun c => ?_) (fun c => ?_)
      · have c1 : (0 : Int) < (m : Int) := of_decide_eq_true c
        have c2 : 0 < m := by omega
        refine ⟨fun σ2 H2 => ∃ x' : Nat, σ2 = [some (.int (m : Int)), some (.int ((x % m : Nat) : Int))] ∧ H2 = H', fun σ2 H2 ⟨x', e1, e2⟩ => ⟨x % m, Nat.mod_lt x c2, m, e1, e2, ?_⟩, ?_⟩
        · rw [← g, Nat.gcd_comm x m, Nat.gcd_rec m x, Nat.gcd_comm]
        · refine ⟨_, rfl, _, rfl, _, rfl, _, _, rfl, rfl, c1, _, _, rfl, 0, ?_, rfl⟩
          rfl
      · have c1 : ¬ (0 : Int) < (m : Int) := fun q => c (decide_eq_true q)
        have c2 : m = 0 := by omega
        subst c2
        rw [Nat.gcd_zero_right] at g
        subst g
        exact ⟨_, rfl, k _ (Evl.Ex.refl _)⟩
theorem sc_is_round : FnScope ["rests", "step", "part", "there", "rest"] ["rests", "step", "part"] (defScope sIsRound) := ⟨rfl, rfl, rfl, by decide +kernel, rfl, by decide +kernel, by decide +kernel⟩
theorem ok_is_round (T : Txt K mg) : Gd P w K mg base CX0 2 (He.ga K "is_round") ["rests", "step", "part"] spIsRound := by
  have G_keyed : Gd P w K mg base CX0 1 (He.ga K "keyed") ["numbers"] spKeyed := ok_keyed T
  refine Fn.good T.f_is_round sc_is_round (fun _ _ _ _ _ _ us hl => match us, hl with | [_, _, _], _ => rfl) (fun vs H Q E h => ?_) (fun cdv A outer s H vs Q E hr h => ?_)
  · obtain ⟨p, ns, st, kk, rfl, _⟩ := h
    rfl
  · obtain ⟨p, ns, st, kk, rfl, hp, hn, hz, hs, k⟩ := h
    refine ⟨_, (pss_cons (ps_set (i := 3) sc_is_round.nd rfl (Or.inr rfl) (pcl G_keyed (hr.mono (by decide)) T.g_keyed (pa_cons (pv 0) pa_nil)))
      (pss_one (ps_ret (pe_callB (cr_all rfl) (by rfl) T.n_all (by decide +kernel) (pa_cons (pe_lc (own := [("rest", 4)]) (g := gName 4) rfl sc_is_round.nd (pi_tup (pv 0)) (blkOk_by (N := ["rests", "step", "part", "there", "rest"]) (sc := defScope sIsRound) (by decide +kernel)) (fun _ _ _ _ _ => pg_name (i := 4) sc_is_round.nd rfl (Or.inl rfl)) (fun _ _ _ _ _ => pts_nil) (fun _ _ _ _ _ => (pe_cmp (pc_din (hu_of hr) (pe_op op_mod (pe_op op_add (pv 4) (pv 2)) (pv 1)) (pv 3))))) pa_nil))))), ?_⟩
    refine q_asgP (P := fun v H1 => Dk H1 v ns) (evp_call (Evl.ea_cons (Evl.ev_var rfl) Evl.ea_nil) (sp_keyed hp hn hz)) fun v H1 e1 pv => ?_
    obtain ⟨q, rfl, hq⟩ := pv
    refine s_retE (ev_all (bs := ns.map fun r => decide ((r + kk) % st ∈ ns)) (EvL.is (el_T (ns := ns) (fun _ => true) (fun r => V.bl (decide ((r + kk) % st ∈ ns))) ?_ (e1 _ _ hp) hz ?_ ?_ ?_) ?_)) fun H2 e2 => ?_
    · exact Evl.ev_var rfl
    · exact fun x => rfl
    · exact fun z H2 _ _ => et_yes
    · exact fun z H2 _ e2 _ => ev_din (ev_mod (ev_add (Evl.ev_var rfl) (Evl.ev_var rfl)) (Evl.ev_var rfl) hs) (Evl.ev_var rfl) (e2 _ _ hq)
    · rw [filter_yes, List.map_map]
      rfl
    · have z := k H2 (e1.trans e2)
      unfold rndB at z
      rw [List.all_map]
      exact z
end
end Nv
set_option Elab.async false
set_option linter.all false
set_option maxRecDepth 100000
set_option maxHeartbeats 4000000
/-! NvA3: is_ascending, is_rising, least_step. -/
namespace Nv
open PySem PySem.Spec PyProof.Rows L2
open Evl (Ev EvT EvL EvU EvA)
theorem sp_is_within {H : Hp} {n a b : Int} : SpP spIsWithin [.int n, .int a, .int b] H (fun v _ => v = .bl (decide (a ≤ n ∧ n ≤ b))) := fun H1 e Q q E => ⟨n, a, b, rfl, fun H2 e2 => q _ H2 e2 rfl⟩
theorem sp_is_integer {H : Hp} {n : Int} : SpP spIsInteger [.int n] H (fun v _ => v = .bl true) := fun H1 e Q q E => ⟨n, rfl, fun H2 e2 => q _ H2 e2 rfl⟩
theorem sp_is_round {H : Hp} {p : Addr} {ns : List Int} {st k : Int} (hp : H p = some (.tup (vI ns))) (hn : ns.Nodup) (hz : ns.length < sizeLine) (hs : 0 < st) : SpP spIsRound [.ref p, .int st, .int k] H (fun v _ => v = .bl (rndB ns st k)) := fun H1 e Q q E =>
  ⟨p, ns, st, k, rfl, e _ _ hp, hn, hz, hs, fun H2 e2 => q _ H2 e2 rfl⟩
/-- what all checks of a tuple ask -/
def spAsc : Sp := fun vs H Q _ => ∃ (p : Addr) (ns : List Int) (many : Int), vs = [.ref p, .int many] ∧ H p = some (.tup (vI ns)) ∧ ns.Pairwise (· < ·) ∧ (∀ r ∈ ns, 0 ≤ r ∧ r < many) ∧ ns.length ≤ 1000000 ∧ ∀ H2, Ex H H2 → Q (.bl true) H2
def spRis : Sp := fun vs H Q _ => ∃ (p : Addr) (ns : List Int) (a b : Int), vs = [.ref p, .int a, .int b] ∧ H p = some (.tup (vI ns)) ∧ ns.Pairwise (· < ·) ∧ (∀ r ∈ ns, a ≤ r ∧ r ≤ b) ∧ ns.length ≤ 1000000 ∧ ∀ H2, Ex H H2 → Q (.bl true) H2
def spLeastStep : Sp := fun vs H Q _ => ∃ (pb pa : Addr) (bl ab : List Int) (st : Int), vs = [.int st, .ref pb, .ref pa] ∧ H pb = some (.tup (vI bl)) ∧ H pa = some (.tup (vI ab)) ∧ Rests st bl ∧ Rests st ab ∧ bl.length < sizeLine ∧ ab.length < sizeLine ∧ 0 < st ∧ st ≤ 4000 ∧
  ∀ k H2, Ex H H2 → IsStep st bl ab k → Q (.int k) H2
theorem asc_step {ns : List Int} (h : ns.Pairwise (· < ·)) {z : Int} (h1 : 1 ≤ z) (h2 : z < (ns.length : Int)) : ∃ x y, ns[(z - 1).toNat]? = some x ∧ ns[z.toNat]? = some y ∧ x < y := by
  have a : (z - 1).toNat < ns.length := by omega
  have b : z.toNat < ns.length := by omega
  refine ⟨ns[(z - 1).toNat], ns[z.toNat], List.getElem?_eq_getElem a, List.getElem?_eq_getElem b, ?_⟩
  exact List.pairwise_iff_getElem.mp h _ _ a b (by omega)
theorem at_vI {ns : List Int} {z x : Int} (h0 : 0 ≤ z) (h : ns[z.toNat]? = some x) : atI (vI ns) z = some (.int x) := by
  obtain ⟨j, rfl⟩ := Int.eq_ofNat_of_zero_le h0
  refine atI_nat ?_
  unfold vI
  rw [List.getElem?_map]
  rw [Int.toNat_natCast] at h
  rw [h]
  rfl
theorem Rests.nodup {st : Int} {rs : List Int} (h : Rests st rs) : rs.Nodup := h.asc.imp fun a => Int.ne_of_lt a
theorem asc_nodup {rs : List Int} (h : rs.Pairwise (· < ·)) : rs.Nodup := h.imp fun a => Int.ne_of_lt a
theorem goodB {st : Int} {bl ab : List Int} {k : Int} : (decide (st % k = 0) && (rndB bl st k && rndB ab st k)) = true ↔ Good st bl ab k := by
  rw [Bool.and_eq_true, Bool.and_eq_true, decide_eq_true_eq, rndB_iff, rndB_iff]
  exact Iff.rfl
section
variable {P : Program} {w : World} {K : PySem.W.Frag} {mg : Str → Option Value} {base : Heap}
/-- all([thing[at - 1] < thing[at] for at in range(1, len(thing))]) -/
theorem ev_rises {σ : L2.St} {H : Hp} {p : Addr} {ns : List Int} {j i : Nat} (hi : σ[i]? = some (some (.ref p))) (hij : i ≠ j) (hj : j < σ.length) (hp : H p = some (.tup (vI ns))) (ha : ns.Pairwise (· < ·)) (hz : ns.length ≤ 1000000) (hw : ∀ x, wipe ((wipe σ [j]).set j (some x)) [j] = wipe σ [j]) :
    Ev (tCB (rAll K) (tCons (tLc (iRng2 (tCons (tC (.int 1)) (tCons (tCB (fun xs H Q => ∃ p ys, xs = [.ref p] ∧ (SqL K H p ys ∨ SqT K H p ys) ∧ Q (.int ys.length) H) (tCons (tVar i) tNil)) tNil))) (gName j) tYes
      (tOp (rI0 fun i j => .bl (decide (i < j))) (tOp (rIxT K) (tVar i) (tOp (rI0 fun i j => .int (i - j)) (tVar j) (tC (.int 1)))) (tOp (rIxT K) (tVar i) (tVar j))) [j]) tNil)) σ H (.bl true) := by
  have get1 : ∀ z : Int, ((wipe σ [j]).set j (some (V.int z)))[i]? = some (some (.ref p)) := fun z => by
    show ((σ.set j none).set j (some (V.int z)))[i]? = _
    rw [List.set_set, List.getElem?_set_ne (Ne.symm hij)]
    exact hi
  have get2 : ∀ z : Int, ((wipe σ [j]).set j (some (V.int z)))[j]? = some (some (.int z)) := fun z => by
    show ((σ.set j none).set j (some (V.int z)))[j]? = _
    rw [List.set_set, List.getElem?_set_self hj]
  have e := ev_all (K := K) (bs := (zR 1 1 ((ns.length : Int) - 1).toNat).map fun _ => true) (EvL.is (el_R2 (t := tYes) (te := (tOp (rI0 fun i j => .bl (decide (i < j))) (tOp (rIxT K) (tVar i) (tOp (rI0 fun i j => .int (i - j)) (tVar j) (tC (.int 1)))) (tOp (rIxT K) (tVar i) (tVar j))))
    (lo := 1) (hi := (ns.length : Int)) (σ := σ) (H := H) (j := j) (vs := [j]) (fun _ => true) (fun _ => V.bl true)
    (Evl.ea_cons Evl.ev_c (Evl.ea_cons (Evl.ev_is (ev_lenT (K := K) (Evl.ev_var hi) hp) (by rw [vI_len])) Evl.ea_nil)) (by omega) (by rw [sizeLine_eq]; omega) hw (fun z H1 _ _ => et_yes) (fun z H1 hz1 e1 _ => by
      obtain ⟨m1, m2⟩ := mem_zR1.mp hz1
      obtain ⟨x, y, ex, ey, lt⟩ := asc_step ha m1 m2
      refine Evl.ev_is (ev_I0b (p := fun i j => decide (i < j)) (ev_ixT (Evl.ev_var (get1 z)) (ev_sub (Evl.ev_var (get2 z)) Evl.ev_c) (e1 _ _ hp) (at_vI (by omega) ex)) (ev_ixT (Evl.ev_var (get1 z)) (Evl.ev_var (get2 z)) (e1 _ _ hp) (at_vI (by omega) ey))) ?_
      rw [decide_eq_true lt]))
    (by rw [filter_yes, List.map_map]; rfl))
  refine Evl.ev_is e ?_
  rw [List.all_map]
  exact congrArg V.bl (List.all_eq_true.mpr fun _ _ => rfl)
theorem sc_is_ascending : FnScope ["thing", "many", "at", "item"] ["thing", "many"] (defScope sIsAscending) := ⟨rfl, rfl, rfl, by decide +kernel, rfl, by decide +kernel, by decide +kernel⟩
theorem ok_is_ascending (T : Txt K mg) : Gd P w K mg base CX0 3 (He.ga K "is_ascending") ["thing", "many"] spAsc := by
  have G_is_within : Gd P w K mg base CX0 2 (He.ga K "is_within") ["thing", "least", "most"] spIsWithin := ok_is_within T
  refine Fn.good T.f_is_ascending sc_is_ascending (fun _ _ _ _ _ _ us hl => match us, hl with | [_, _], _ => rfl) (fun vs H Q E h => ?_) (fun cdv A outer s H vs Q E hr h => ?_)
  · obtain ⟨p, ns, many, rfl, _⟩ := h
    rfl
  · obtain ⟨p, ns, many, rfl, hp, ha, hb, hz, k⟩ := h
    refine ⟨_, (pss_cons (ps_if (PW.pt (pw_or (pt_not (pt_val (pe_callB call_isi (by rfl) T.n_isinstance (by decide +kernel) (pa_cons (pv 0) (pa_cons (pe_bltn (v := .ty "tuple") (u := .type "tuple") (by rfl) T.n_tuple (by decide +kernel) rfl) pa_nil))))) (pw_or1 (pt_not (pt_val (pe_callB (cr_all rfl) (by rfl) T.n_all (by decide +kernel) (pa_cons (pe_lc (own := [("item", 3)]) (g := gName 3) rfl sc_is_ascending.nd (pi_tup (pv 0)) (blkOk_by (N := ["thing", "many", "at", "item"]) (sc := defScope sIsAscending) (by decide +kernel)) (fun _ _ _ _ _ => pg_name (i := 3) sc_is_ascending.nd rfl (Or.inl rfl)) (fun _ _ _ _ _ => pts_nil) (fun _ _ _ _ _ => (pcl G_is_within (hr.mono (by decide)) T.g_is_within (pa_cons (pv 3) (pa_cons pe_int (pa_cons (pe_op op_sub (pv 1) pe_int) pa_nil)))))) pa_nil))))))) (pss_one (ps_ret pe_bl)) pss_nil)
      (pss_one (ps_ret (pe_callB (cr_all rfl) (by rfl) T.n_all (by decide +kernel) (pa_cons (pe_lc (own := [("at", 2)]) (g := gName 2) rfl sc_is_ascending.nd (pi_range2 (by rfl) T.n_range (pa_cons pe_int (pa_cons (pe_callB (kLen (K := K) rfl) (by rfl) T.n_len (by decide +kernel) (pa_cons (pv 0) pa_nil)) pa_nil))) (blkOk_by (N := ["thing", "many", "at", "item"]) (sc := defScope sIsAscending) (by decide +kernel)) (fun _ _ _ _ _ => pg_name (i := 2) sc_is_ascending.nd rfl (Or.inl rfl)) (fun _ _ _ _ _ => pts_nil) (fun _ _ _ _ _ => (pe_cmpR op_lt (pe_ix (kIxT (K := K) rfl) (pv 0) (pe_op op_sub (pv 2) pe_int) (fun _ _ => rfl)) (pe_ix (kIxT (K := K) rfl) (pv 0) (pv 2) (fun _ _ => rfl)) (nomark _)))) pa_nil))))), ?_⟩
    refine q_ret (et_orV (a := false) (b := false) (ev_notV (b := true) (ev_isi (Evl.ev_var rfl) (fun H1 e => .base (.tup (e _ _ hp))) (by decide +kernel)))
      (ev_notV (b := true) (Evl.ev_is (ev_all (bs := ns.map fun z => decide (0 ≤ z ∧ z ≤ many - 1)) (EvL.is (el_T (ns := ns) (fun _ => true) (fun z => V.bl (decide (0 ≤ z ∧ z ≤ many - 1))) ?_ hp ?_ ?_ ?_ ?_) ?_)) ?_))) fun H1 e1 => ?_
    · exact Evl.ev_var rfl
    · rw [sizeLine_eq]; omega
    · exact fun x => rfl
    · exact fun z H2 _ _ => et_yes
    · exact fun z H2 _ e2 _ => ev_callV (Evl.ea_cons (Evl.ev_var rfl) (Evl.ea_cons Evl.ev_c (Evl.ea_cons (ev_sub (Evl.ev_var rfl) Evl.ev_c) Evl.ea_nil))) sp_is_within
    · rw [filter_yes, List.map_map]; rfl
    · rw [List.all_map]
      exact congrArg V.bl (List.all_eq_true.mpr fun z hz1 => decide_eq_true (by have := hb z hz1; omega))
    · exact s_retE (ev_rises (i := 0) (j := 2) rfl (by decide) (by show 2 < 4; decide) (e1 _ _ hp) ha hz fun x => rfl) fun H2 e2 => k H2 (e1.trans e2)
theorem sc_is_rising : FnScope ["thing", "least", "most", "at", "item"] ["thing", "least", "most"] (defScope sIsRising) := ⟨rfl, rfl, rfl, by decide +kernel, rfl, by decide +kernel, by decide +kernel⟩
theorem ok_is_rising (T : Txt K mg) : Gd P w K mg base CX0 3 (He.ga K "is_rising") ["thing", "least", "most"] spRis := by
  have G_is_within : Gd P w K mg base CX0 2 (He.ga K "is_within") ["thing", "least", "most"] spIsWithin := ok_is_within T
  refine Fn.good T.f_is_rising sc_is_rising (fun _ _ _ _ _ _ us hl => match us, hl with | [_, _, _], _ => rfl) (fun vs H Q E h => ?_) (fun cdv A outer s H vs Q E hr h => ?_)
  · obtain ⟨p, ns, a, b, rfl, _⟩ := h
    rfl
  · obtain ⟨p, ns, a, b, rfl, hp, ha, hb, hz, k⟩ := h
    refine ⟨_, (pss_cons (ps_if (PW.pt (pw_or (pt_not (pt_val (pe_callB call_isi (by rfl) T.n_isinstance (by decide +kernel) (pa_cons (pv 0) (pa_cons (pe_bltn (v := .ty "tuple") (u := .type "tuple") (by rfl) T.n_tuple (by decide +kernel) rfl) pa_nil))))) (pw_or1 (pt_not (pt_val (pe_callB (cr_all rfl) (by rfl) T.n_all (by decide +kernel) (pa_cons (pe_lc (own := [("item", 4)]) (g := gName 4) rfl sc_is_rising.nd (pi_tup (pv 0)) (blkOk_by (N := ["thing", "least", "most", "at", "item"]) (sc := defScope sIsRising) (by decide +kernel)) (fun _ _ _ _ _ => pg_name (i := 4) sc_is_rising.nd rfl (Or.inl rfl)) (fun _ _ _ _ _ => pts_nil) (fun _ _ _ _ _ => (pcl G_is_within (hr.mono (by decide)) T.g_is_within (pa_cons (pv 4) (pa_cons (pv 1) (pa_cons (pv 2) pa_nil)))))) pa_nil))))))) (pss_one (ps_ret pe_bl)) pss_nil)
      (pss_one (ps_ret (pe_callB (cr_all rfl) (by rfl) T.n_all (by decide +kernel) (pa_cons (pe_lc (own := [("at", 3)]) (g := gName 3) rfl sc_is_rising.nd (pi_range2 (by rfl) T.n_range (pa_cons pe_int (pa_cons (pe_callB (kLen (K := K) rfl) (by rfl) T.n_len (by decide +kernel) (pa_cons (pv 0) pa_nil)) pa_nil))) (blkOk_by (N := ["thing", "least", "most", "at", "item"]) (sc := defScope sIsRising) (by decide +kernel)) (fun _ _ _ _ _ => pg_name (i := 3) sc_is_rising.nd rfl (Or.inl rfl)) (fun _ _ _ _ _ => pts_nil) (fun _ _ _ _ _ => (pe_cmpR op_lt (pe_ix (kIxT (K := K) rfl) (pv 0) (pe_op op_sub (pv 3) pe_int) (fun _ _ => rfl)) (pe_ix (kIxT (K := K) rfl) (pv 0) (pv 3) (fun _ _ => rfl)) (nomark _)))) pa_nil))))), ?_⟩
    refine q_ret (et_orV (a := false) (b := false) (ev_notV (b := true) (ev_isi (Evl.ev_var rfl) (fun H1 e => .base (.tup (e _ _ hp))) (by decide +kernel)))
      (ev_notV (b := true) (Evl.ev_is (ev_all (bs := ns.map fun z => decide (a ≤ z ∧ z ≤ b)) (EvL.is (el_T (ns := ns) (fun _ => true) (fun z => V.bl (decide (a ≤ z ∧ z ≤ b))) ?_ hp ?_ ?_ ?_ ?_) ?_)) ?_))) fun H1 e1 => ?_
    · exact Evl.ev_var rfl
    · rw [sizeLine_eq]; omega
    · exact fun x => rfl
    · exact fun z H2 _ _ => et_yes
    · exact fun z H2 _ e2 _ => ev_callV (Evl.ea_cons (Evl.ev_var rfl) (Evl.ea_cons (Evl.ev_var rfl) (Evl.ea_cons (Evl.ev_var rfl) Evl.ea_nil))) sp_is_within
    · rw [filter_yes, List.map_map]; rfl
    · rw [List.all_map]
      exact congrArg V.bl (List.all_eq_true.mpr fun z hz1 => decide_eq_true (hb z hz1))
    · exact s_retE (ev_rises (i := 0) (j := 3) rfl (by decide) (by show 3 < 5; decide) (e1 _ _ hp) ha hz fun x => rfl) fun H2 e2 => k H2 (e1.trans e2)
theorem sc_least_step : FnScope ["step", "below", "above", "part"] ["step", "below", "above"] (defScope sLeastStep) := ⟨rfl, rfl, rfl, by decide +kernel, rfl, by decide +kernel, by decide +kernel⟩
theorem ok_least_step (T : Txt K mg) : Gd P w K mg base CX0 3 (He.ga K "least_step") ["step", "below", "above"] spLeastStep := by
  have G_is_round : Gd P w K mg base CX0 2 (He.ga K "is_round") ["rests", "step", "part"] spIsRound := ok_is_round T
  refine Fn.good T.f_least_step sc_least_step (fun _ _ _ _ _ _ us hl => match us, hl with | [_, _, _], _ => rfl) (fun vs H Q E h => ?_) (fun cdv A outer s H vs Q E hr h => ?_)
  · obtain ⟨pb, pa, bl, ab, st, rfl, _⟩ := h
    rfl
  · obtain ⟨pb, pa, bl, ab, st, rfl, hb, ha, rb, ra, zb, za, s0, s1, k⟩ := h
    refine ⟨_, (pss_cons (ps_for PassesOwn.never rfl (pi_range2 (by rfl) T.n_range (pa_cons pe_int (pa_cons (pv 0) pa_nil))) (pg_name (i := 3) sc_least_step.nd rfl (Or.inl rfl)) (pss_one (ps_if (PW.pt (pw_and (pt_cmpR op_eq (pe_op op_mod (pv 0) (pv 3)) pe_int (nomark _)) (pw_and (pt_val (pcl G_is_round (hr.mono (by decide)) T.g_is_round (pa_cons (pv 1) (pa_cons (pv 0) (pa_cons (pv 3) pa_nil))))) (pw_and1 (pt_val (pcl G_is_round (hr.mono (by decide)) T.g_is_round (pa_cons (pv 2) (pa_cons (pv 0) (pa_cons (pv 3) pa_nil))))))))) (pss_one (ps_ret (pv 3))) pss_nil)))
      (pss_one (ps_ret (pv 0)))), ?_⟩
    refine Evl.q_forR2 (j := 3) (lo := 1) (n := st) (Evl.ea_cons Evl.ev_c (Evl.ea_cons (Evl.ev_var rfl) Evl.ea_nil)) (by omega)
      (fun i σ' H' => ∃ v, σ' = [some (.int st), some (.ref pb), some (.ref pa), v] ∧ Ex H H' ∧ ∀ j : Int, 1 ≤ j → j < 1 + (i : Int) → ¬ Good st bl ab j) (fun H1 e1 => ⟨none, rfl, e1, fun j h1 h2 => by omega⟩) ?_ ?_
    · rintro i σ' H' hi ⟨v, rfl, e1, no⟩
      have hs : (0 : Int) < st := s0
      refine Evl.s_when (b := (decide (st % (1 + (i : Int)) = 0) && (rndB bl st (1 + i) && rndB ab st (1 + i)))) (et_andV (et_eqI (ev_mod (Evl.ev_var rfl) (Evl.ev_var rfl) (by omega)) Evl.ev_c) (et_andV (Evl.et_B (ev_callV (Evl.ea_cons (Evl.ev_var rfl) (Evl.ea_cons (Evl.ev_var rfl) (Evl.ea_cons (Evl.ev_var rfl) Evl.ea_nil))) (sp_is_round (e1 _ _ hb) rb.nodup zb hs)))
        (Evl.et_B (ev_callV (Evl.ea_cons (Evl.ev_var rfl) (Evl.ea_cons (Evl.ev_var rfl) (Evl.ea_cons (Evl.ev_var rfl) Evl.ea_nil))) (sp_is_round (e1 _ _ ha) ra.nodup za hs))))) (fun c H2 e2 => ?_) (fun c H2 e2 => ?_)
      · refine s_retE (Evl.ev_var rfl) fun H3 e3 => k _ _ ((e1.trans e2).trans e3) ⟨by omega, by omega, goodB.mp c, fun j h1 h2 => no j h1 (by omega)⟩
      · refine ⟨_, rfl, e1.trans e2, fun j h1 h2 => ?_⟩
        by_cases hj : j = 1 + (i : Int)
        · subst hj
          intro g
          rw [goodB.mpr g] at c
          cases c
        · exact no j h1 (by omega)
    · rintro σ' H' ⟨v, rfl, e1, no⟩
      exact s_retE (Evl.ev_var rfl) fun H3 e3 => k _ _ (e1.trans e3) ⟨by omega, Int.le_refl _, good_self s0 rb ra, fun j h1 h2 => no j h1 (by omega)⟩
end
end Nv
set_option Elab.async false
set_option linter.all false
set_option maxRecDepth 100000
set_option maxHeartbeats 4000000
/-! NvB: least_high, greatest_low. -/
namespace Nv
open PySem PySem.Spec PyProof.Rows L2
open Evl (Ev EvT EvL EvU EvA)
theorem dif_in {q : P6} {n : Int} (h1 : q.low ≤ n) (h2 : n < q.high) : q.dif n ↔ decide (n ∈ q.ms) ≠ inR q.ab q.st n := by
  unfold P6.dif P6.has
  rw [if_neg (by omega), if_pos h2]
theorem dif_lo {q : P6} {n : Int} (h1 : n < q.low) : q.dif n ↔ inR q.bl q.st n ≠ inR q.ab q.st n := by
  unfold P6.dif P6.has
  rw [if_pos h1]
theorem inR_nil {st n : Int} : inR [] st n = false := rfl
theorem asc_last {ms : List Int} {z : Int} (h : ms.Pairwise (· < ·)) (hz : ms.getLast? = some z) : ∀ n ∈ ms, n ≤ z := by
  obtain ⟨ys, rfl⟩ := List.getLast?_eq_some_iff.mp hz
  intro n hn
  rcases List.mem_append.mp hn with m | m
  · exact Int.le_of_lt ((List.pairwise_append.mp h).2.2 n m z (List.mem_singleton.mpr rfl))
  · rw [List.mem_singleton.mp m]; exact Int.le_refl _
theorem asc_head {ms : List Int} {z : Int} (h : ms.Pairwise (· < ·)) (hz : ms.head? = some z) : ∀ n ∈ ms, z ≤ n := by
  cases ms with
  | nil => cases hz
  | cons a r =>
    obtain rfl := Option.some.inj hz
    intro n hn
    rcases List.mem_cons.mp hn with e | m
    · rw [e]; exact Int.le_refl _
    · exact Int.le_of_lt ((List.pairwise_cons.mp h).1 n m)
theorem vI_last {ms : List Int} {z : Int} (hz : ms.getLast? = some z) : atI (vI ms) (-1) = some (.int z) := by
  obtain ⟨ys, rfl⟩ := List.getLast?_eq_some_iff.mp hz
  unfold vI
  rw [List.map_append]
  exact atI_last (ys.map V.int) (.int z)
theorem vI_head {ms : List Int} {z : Int} (hz : ms.head? = some z) : atI (vI ms) 0 = some (.int z) := by
  cases ms with
  | nil => cases hz
  | cons a r =>
    obtain rfl := Option.some.inj hz
    exact atI_nat (j := 0) rfl
theorem len_nil {α : Type} {l : List α} (h : (l.length : Int) = 0) : l = [] := List.eq_nil_of_length_eq_zero (by omega)
def optI : Option Int → V
  | none => .non
  | some t => .int t
def spLeastHigh : Sp := fun vs H Q _ => ∃ (pm pb pa : Addr) (q : P6), vs = [.int q.low, .int q.high, .ref pm, .int q.st, .ref pb, .ref pa] ∧ H pm = some (.tup (vI q.ms)) ∧ H pb = some (.dK (kvsOf q.bl)) ∧ H pa = some (.dK (kvsOf q.ab)) ∧ q.Wf ∧ q.st ≤ 4000 ∧ q.ms.length < sizeLine ∧
  ∀ o H2, Ex H H2 → IsTop q o → Q (optI o) H2
def spGreatestLow : Sp := fun vs H Q _ => ∃ (pm pb : Addr) (q : P6) (t : Int), vs = [.int q.low, .int t, .ref pm, .int q.st, .ref pb] ∧ H pm = some (.tup (vI q.ms)) ∧ H pb = some (.dK (kvsOf q.bl)) ∧ q.Wf ∧ q.ms.length < sizeLine ∧
  ∀ b H2, Ex H H2 → IsBot q t b → Q (.int b) H2
theorem no_below {q : P6} (h : ∀ n, q.low - q.st ≤ n → n < q.high → ¬ q.dif n) (hp : 0 < q.st) (hl : q.low ≤ q.high) : IsTop q none := by
  intro n hn
  by_cases c : q.low ≤ n
  · exact h n (by omega) hn
  · obtain ⟨j, h1, h2⟩ := down_to (n := n) (high := q.low) hp
    have z := h (n + q.st * j) h2 (by omega)
    rw [dif_lo h1, inR_shift, inR_shift] at z
    rw [dif_lo (by omega)]
    exact z
section
variable {P : Program} {w : World} {K : PySem.W.Frag} {mg : Str → Option Value} {base : Heap}
theorem sc_least_high : FnScope ["low", "high", "members", "step", "below", "above", "there", "number", "turn"] ["low", "high", "members", "step", "below", "above"] (defScope sLeastHigh) := ⟨rfl, rfl, rfl, by decide +kernel, rfl, by decide +kernel, by decide +kernel⟩
theorem ok_least_high (T : Txt K mg) : Gd P w K mg base CX0 2 (He.ga K "least_high") ["low", "high", "members", "step", "below", "above"] spLeastHigh := by
  have G_keyed : Gd P w K mg base CX0 1 (He.ga K "keyed") ["numbers"] spKeyed := ok_keyed T
  refine Fn.good T.f_least_high sc_least_high (fun _ _ _ _ _ _ us hl => match us, hl with | [_, _, _, _, _, _], _ => rfl) (fun vs H Q E h => ?_) (fun cdv A outer s H vs Q E hr h => ?_)
  · obtain ⟨pm, pb, pa, q, rfl, _⟩ := h
    rfl
  · obtain ⟨pm, pb, pa, q, rfl, hm, hb, ha, wf, s1, mz, k⟩ := h
    refine ⟨_, (pss_cons (ps_set (i := 6) sc_least_high.nd rfl (Or.inl rfl) (pcl G_keyed (hr.mono (by decide)) T.g_keyed (pa_cons (pv 2) pa_nil)))
      (pss_cons (ps_set (i := 7) sc_least_high.nd rfl (Or.inl rfl) (pe_op op_sub (pv 1) pe_int))
      (Evl.pss_cut (ps_if (pt_cmpR op_eq (pe_callB call_lenD (by rfl) T.n_len (by decide +kernel) (pa_cons (pv 5) pa_nil)) pe_int (nomark _)) (pss_one (ps_set (i := 7) sc_least_high.nd rfl (Or.inl rfl) (pe_ifExp (pt_cmpR op_gt (pe_callB (kLen (K := K) rfl) (by rfl) T.n_len (by decide +kernel) (pa_cons (pv 2) pa_nil)) pe_int (nomark _)) (pe_ix (kIxT (K := K) rfl) (pv 2) (pe_un un_neg pe_int) (fun _ _ => rfl)) (pe_op op_sub (pv 0) pe_int)))) pss_nil)
      (pss_cons (ps_while PassesOwn.never (PW.pt (pw_and (pt_cmpR op_ge (pv 7) (pv 0) (nomark _)) (pw_and1 (pt_cmpR op_eq (pe_cmp (pc_din (hu_of hr) (pv 7) (pv 6))) (pe_cmp (pc_din (hu_of hr) (pe_op op_mod (pv 7) (pv 3)) (pv 5))) (nomark _))))) (pss_one (ps_aug (i := 7) sc_least_high.nd rfl (Or.inl rfl) pe_int ip_sub)))
      (pss_cons (ps_if (pt_cmpR op_ge (pv 7) (pv 0) (nomark _)) (pss_one (ps_ret (pe_op op_add (pv 7) pe_int))) pss_nil)
      (pss_cons (ps_for PassesOwn.never rfl (pi_range1 (by rfl) T.n_range (pa_cons (pv 3) pa_nil)) (pg_name (i := 8) sc_least_high.nd rfl (Or.inl rfl)) (pss_cons (ps_if (pt_cmpR op_ne (pe_cmp (pc_din (hu_of hr) (pe_op op_mod (pv 7) (pv 3)) (pv 4))) (pe_cmp (pc_din (hu_of hr) (pe_op op_mod (pv 7) (pv 3)) (pv 5))) (nomark _)) (pss_one (ps_ret (pe_op op_add (pv 7) pe_int))) pss_nil)
      (pss_one (ps_aug (i := 7) sc_least_high.nd rfl (Or.inl rfl) pe_int ip_sub))))
      (pss_one (ps_ret pe_non)))))))), ?_⟩
    have s0 := wf.pos
    have wl := wf.le
    refine q_asgP (P := fun v H1 => Dk H1 v q.ms) (evp_call (Evl.ea_cons (Evl.ev_var rfl) Evl.ea_nil) (sp_keyed hm (asc_nodup wf.asc) mz)) fun v H1 e1 pv => ?_
    obtain ⟨pt, rfl, ht⟩ := pv
    refine Evl.q_asg (ev_sub (Evl.ev_var rfl) Evl.ev_c) fun H2 e2 => ?_
    have e12 := e1.trans e2
    refine Evl.q_cut (M := fun σ' H' => ∃ n : Int, σ' = [some (.int q.low), some (.int q.high), some (.ref pm), some (.int q.st), some (.ref pb), some (.ref pa), some (.ref pt), some (.int n), none] ∧ Ex H2 H' ∧ n < q.high ∧ q.low - 1 ≤ n ∧ ∀ j, n < j → j < q.high → ¬ q.dif j) ?_ ?_
    · refine Evl.s_when (et_eqI (ev_lenD (Evl.ev_var rfl) (e12 _ _ ha)) Evl.ev_c) (fun c H3 e3 => ?_) (fun c H3 e3 => ?_)
      · have hn : q.ab = [] := len_nil (of_decide_eq_true c)
        cases hl : q.ms.getLast? with
        | none =>
          have hms : q.ms = [] := List.getLast?_eq_none_iff.mp hl
          refine Evl.s_asg (Evl.ev_if (b := false) (Evl.et_is (et_gt (ev_lenT (Evl.ev_var rfl) ((e12.trans e3) _ _ hm)) Evl.ev_c) (by rw [hms]; rfl)) (fun h => absurd h (by decide)) (fun _ => ev_sub (Evl.ev_var rfl) Evl.ev_c)) fun H4 e4 => ⟨_, rfl, e3.trans e4, by omega, by omega, fun j h1 h2 => ?_⟩
          rw [dif_in (by omega) h2, hms, hn, inR_nil]
          simp
        | some z =>
          have hz : z ∈ q.ms := List.mem_of_getLast? hl
          have hb1 := wf.bnd z hz
          refine Evl.s_asg (Evl.ev_if (b := true) (Evl.et_is (et_gt (ev_lenT (Evl.ev_var rfl) ((e12.trans e3) _ _ hm)) Evl.ev_c) (by rw [vI_len]; exact decide_eq_true (by have := List.length_pos_of_mem hz; omega))) (fun _ => ev_ixT (Evl.ev_var rfl) (Evl.ev_un Evl.ev_c Evl.ru_neg) ((e12.trans e3) _ _ hm) (vI_last hl)) (fun h => absurd h (by decide))) fun H4 e4 => ⟨_, rfl, e3.trans e4, by omega, by omega, fun j h1 h2 => ?_⟩
          rw [dif_in (by omega) h2, hn, inR_nil]
          have nm : j ∉ q.ms := fun m => by have := asc_last wf.asc hl j m; omega
          simp [nm]
      · exact ⟨_, rfl, e3, by omega, by omega, fun j h1 h2 => by omega⟩
    · rintro σ' H' ⟨n0, rfl, e3, n1, n2, n3⟩
      refine Evl.q_while (fun m σ' H' => ∃ n : Int, σ' = [some (.int q.low), some (.int q.high), some (.ref pm), some (.int q.st), some (.ref pb), some (.ref pa), some (.ref pt), some (.int n), none] ∧ Ex H2 H' ∧ n < q.high ∧ q.low - 1 ≤ n ∧ (∀ j, n < j → j < q.high → ¬ q.dif j) ∧ m = (n - q.low + 1).toNat) _ ⟨n0, rfl, e3, n1, n2, n3, rfl⟩ ?_
      rintro m σ' H' ⟨n, rfl, e4, h1, h2, h3, rfl⟩
      have e14 := e12.trans e4
      have e24 := e2.trans e4
      refine ⟨_, et_andV (et_ge (Evl.ev_var rfl) (Evl.ev_var rfl)) (Evl.et_test (ev_eqB (ev_din (Evl.ev_var rfl) (Evl.ev_var rfl) (e24 _ _ ht)) (ev_din (ev_mod (Evl.ev_var rfl) (Evl.ev_var rfl) s0) (Evl.ev_var rfl) (e14 _ _ ha)))), fun c H5 e5 => ?_, fun c H5 e5 => ?_⟩
      · obtain ⟨c1, c2⟩ := Bool.and_eq_true_iff.mp c
        have c1 : q.low ≤ n := of_decide_eq_true c1
        have c2 : decide (n ∈ q.ms) = inR q.ab q.st n := of_decide_eq_true c2
        refine ⟨fun σ2 H2' => ∃ n' : Int, σ2 = [some (.int q.low), some (.int q.high), some (.ref pm), some (.int q.st), some (.ref pb), some (.ref pa), some (.ref pt), some (.int n'), none] ∧ Ex H2 H2' ∧ n' = n - 1, ?_, ?_⟩
        · rintro σ2 H6 ⟨n', rfl, e6, rfl⟩
          refine ⟨(n - 1 - q.low + 1).toNat, by omega, n - 1, rfl, e6, by omega, by omega, fun j j1 j2 => ?_, rfl⟩
          by_cases cj : j = n
          · subst cj
            rw [dif_in c1 j2]
            exact fun z => z c2
          · exact h3 j (by omega) j2
        · exact Evl.s_aug (f := fun i j => i - j) rfl Evl.ev_c fun H6 e6 => ⟨_, rfl, (e4.trans e5).trans e6, rfl⟩
      · refine Evl.q_when (et_ge (Evl.ev_var rfl) (Evl.ev_var rfl)) (fun d H6 e6 => ?_) (fun d H6 e6 => ?_)
        · have d1 : q.low ≤ n := of_decide_eq_true d
          have c2 : ¬ (decide (n ∈ q.ms) = inR q.ab q.st n) := fun z => by
            rw [Bool.and_eq_false_iff] at c
            rcases c with c | c
            · exact of_decide_eq_false c d1
            · exact of_decide_eq_false c z
          refine s_retE (ev_add (Evl.ev_var rfl) Evl.ev_c) fun H7 e7 => k (some (n + 1)) _ (((e14.trans e5).trans e6).trans e7) ⟨by omega, ?_, fun j j1 j2 => h3 j (by omega) j2⟩
          rw [show n + 1 - 1 = n by omega, dif_in d1 h1]
          exact c2
        · have d1 : ¬ q.low ≤ n := of_decide_eq_false d
          obtain rfl : n = q.low - 1 := by omega
          refine Evl.q_forR1 (j := 8) (Evl.ea_cons (Evl.ev_var rfl) Evl.ea_nil) (by omega) (fun i σ' H' => ∃ v, σ' = [some (.int q.low), some (.int q.high), some (.ref pm), some (.int q.st), some (.ref pb), some (.ref pa), some (.ref pt), some (.int (q.low - 1 - (i : Int))), v] ∧ Ex H H' ∧ ∀ j, q.low - 1 - (i : Int) < j → j < q.high → ¬ q.dif j)
            (fun H7 e7 => ⟨none, by simp, ((e14.trans e5).trans e6).trans e7, fun j j1 j2 => h3 j (by omega) j2⟩) ?_ ?_
          · rintro i σ' H' hi ⟨v, rfl, e8, h8⟩
            have wneg : q.low - 1 - (i : Int) < q.low := by omega
            refine Evl.q_when (Evl.et_test (ev_neB (ev_din (ev_mod (Evl.ev_var rfl) (Evl.ev_var rfl) s0) (Evl.ev_var rfl) (e8 _ _ hb)) (ev_din (ev_mod (Evl.ev_var rfl) (Evl.ev_var rfl) s0) (Evl.ev_var rfl) (e8 _ _ ha)))) (fun d H9 e9 => ?_) (fun d H9 e9 => ?_)
            · refine s_retE (ev_add (Evl.ev_var rfl) Evl.ev_c) fun H10 e10 => k (some (q.low - 1 - (i : Int) + 1)) _ ((e8.trans e9).trans e10) ⟨by omega, ?_, fun j j1 j2 => h8 j (by omega) j2⟩
              rw [show q.low - 1 - (i : Int) + 1 - 1 = q.low - 1 - (i : Int) by omega, dif_lo wneg]
              intro z
              have z' : decide ((q.low - 1 - (i : Int)) % q.st ∈ q.bl) = decide ((q.low - 1 - (i : Int)) % q.st ∈ q.ab) := z
              rw [decide_eq_true z'] at d
              cases d
            · refine Evl.s_aug (f := fun i j => i - j) rfl Evl.ev_c fun H10 e10 => ⟨_, by rw [show q.low - 1 - ((i + 1 : Nat) : Int) = q.low - 1 - (i : Int) - 1 by omega]; rfl, (e8.trans e9).trans e10, fun j j1 j2 => ?_⟩
              by_cases cj : j = q.low - 1 - (i : Int)
              · subst cj
                rw [dif_lo wneg]
                refine fun z => ?_
                have z' : ¬ decide ((q.low - 1 - (i : Int)) % q.st ∈ q.bl) = decide ((q.low - 1 - (i : Int)) % q.st ∈ q.ab) := z
                rw [decide_eq_false z'] at d
                cases d
              · exact h8 j (by omega) j2
          · rintro σ' H' ⟨v, rfl, e8, h8⟩
            exact s_retE Evl.ev_c fun H9 e9 => k none _ (e8.trans e9) (no_below (fun j j1 j2 => h8 j (by omega) j2) s0 wl)
theorem eld_iff {q : P6} {n : Int} : ¬ q.eld n ↔ decide (n ∈ q.ms) = inR q.bl q.st n := Decidable.not_not
theorem sc_greatest_low : FnScope ["low", "high", "members", "step", "below", "there", "number"] ["low", "high", "members", "step", "below"] (defScope sGreatestLow) := ⟨rfl, rfl, rfl, by decide +kernel, rfl, by decide +kernel, by decide +kernel⟩
theorem ok_greatest_low (T : Txt K mg) : Gd P w K mg base CX0 2 (He.ga K "greatest_low") ["low", "high", "members", "step", "below"] spGreatestLow := by
  have G_keyed : Gd P w K mg base CX0 1 (He.ga K "keyed") ["numbers"] spKeyed := ok_keyed T
  refine Fn.good T.f_greatest_low sc_greatest_low (fun _ _ _ _ _ _ us hl => match us, hl with | [_, _, _, _, _], _ => rfl) (fun vs H Q E h => ?_) (fun cdv A outer s H vs Q E hr h => ?_)
  · obtain ⟨pm, pb, q, t, rfl, _⟩ := h
    rfl
  · obtain ⟨pm, pb, q, t, rfl, hm, hb, wf, mz, k⟩ := h
    refine ⟨_, (pss_cons (ps_if (pt_cmpR op_le (pv 1) (pv 0) (nomark _)) (pss_one (ps_ret (pv 1))) pss_nil)
      (pss_cons (ps_set (i := 5) sc_greatest_low.nd rfl (Or.inl rfl) (pcl G_keyed (hr.mono (by decide)) T.g_keyed (pa_cons (pv 2) pa_nil)))
      (pss_cons (ps_set (i := 6) sc_greatest_low.nd rfl (Or.inl rfl) (pv 0))
      (Evl.pss_cut (ps_if (pt_cmpR op_eq (pe_callB call_lenD (by rfl) T.n_len (by decide +kernel) (pa_cons (pv 4) pa_nil)) pe_int (nomark _)) (pss_one (ps_set (i := 6) sc_greatest_low.nd rfl (Or.inl rfl) (pe_ifExp (pt_cmpR op_gt (pe_callB (kLen (K := K) rfl) (by rfl) T.n_len (by decide +kernel) (pa_cons (pv 2) pa_nil)) pe_int (nomark _)) (pe_callB (call_min2 rfl) (by rfl) T.n_min (by decide +kernel) (pa_cons (pe_ix (kIxT (K := K) rfl) (pv 2) pe_int (fun _ _ => rfl)) (pa_cons (pv 1) pa_nil))) (pv 1)))) pss_nil)
      (pss_cons (ps_while PassesOwn.never (PW.pt (pw_and (pt_cmpR op_lt (pv 6) (pv 1) (nomark _)) (pw_and1 (pt_cmpR op_eq (pe_cmp (pc_din (hu_of hr) (pv 6) (pv 5))) (pe_cmp (pc_din (hu_of hr) (pe_op op_mod (pv 6) (pv 3)) (pv 4))) (nomark _))))) (pss_one (ps_aug (i := 6) sc_greatest_low.nd rfl (Or.inl rfl) pe_int ip_add)))
      (pss_one (ps_ret (pv 6)))))))), ?_⟩
    have s0 := wf.pos
    have wl := wf.le
    refine Evl.q_when (et_le (Evl.ev_var rfl) (Evl.ev_var rfl)) (fun c H1 e1 => ?_) (fun c H1 e1 => ?_)
    · have c1 : t ≤ q.low := of_decide_eq_true c
      exact s_retE (Evl.ev_var rfl) fun H2 e2 => k t _ (e1.trans e2) ⟨fun _ => rfl, fun z => by omega⟩
    have c1 : ¬ t ≤ q.low := of_decide_eq_false c
    refine q_asgP (P := fun v H1 => Dk H1 v q.ms) (evp_call (Evl.ea_cons (Evl.ev_var rfl) Evl.ea_nil) (sp_keyed (e1 _ _ hm) (asc_nodup wf.asc) mz)) fun v H2 e2 pv => ?_
    obtain ⟨pt, rfl, ht⟩ := pv
    refine Evl.q_asg (Evl.ev_var rfl) fun H3 e3 => ?_
    have e13 := (e1.trans e2).trans e3
    refine Evl.q_cut (M := fun σ' H' => ∃ n : Int, σ' = [some (.int q.low), some (.int t), some (.ref pm), some (.int q.st), some (.ref pb), some (.ref pt), some (.int n)] ∧ Ex H3 H' ∧ q.low ≤ n ∧ n ≤ t ∧ ∀ j, q.low ≤ j → j < n → ¬ q.eld j) ?_ ?_
    · refine Evl.s_when (et_eqI (ev_lenD (Evl.ev_var rfl) (e13 _ _ hb)) Evl.ev_c) (fun c H4 e4 => ?_) (fun c H4 e4 => ?_)
      · have hn : q.bl = [] := len_nil (of_decide_eq_true c)
        cases hl : q.ms.head? with
        | none =>
          have hms : q.ms = [] := List.head?_eq_none_iff.mp hl
          refine Evl.s_asg (Evl.ev_if (b := false) (Evl.et_is (et_gt (ev_lenT (Evl.ev_var rfl) ((e13.trans e4) _ _ hm)) Evl.ev_c) (by rw [hms]; rfl)) (fun h => absurd h (by decide)) (fun _ => Evl.ev_var rfl)) fun H5 e5 => ⟨_, rfl, e4.trans e5, by omega, by omega, fun j h1 h2 => ?_⟩
          rw [eld_iff, hms, hn, inR_nil]
          simp
        | some z =>
          have hz : z ∈ q.ms := List.mem_of_mem_head? hl
          have hb1 := wf.bnd z hz
          refine Evl.s_asg (Evl.ev_if (b := true) (Evl.et_is (et_gt (ev_lenT (Evl.ev_var rfl) ((e13.trans e4) _ _ hm)) Evl.ev_c) (by rw [vI_len]; exact decide_eq_true (by have := List.length_pos_of_mem hz; omega))) (fun _ => ev_min2 (ev_ixT (Evl.ev_var rfl) Evl.ev_c ((e13.trans e4) _ _ hm) (vI_head hl)) (Evl.ev_var rfl)) (fun h => absurd h (by decide))) fun H5 e5 => ⟨_, rfl, e4.trans e5, by omega, by omega, fun j h1 h2 => ?_⟩
          rw [eld_iff, hn, inR_nil]
          have nm : j ∉ q.ms := fun m => by have := asc_head wf.asc hl j m; omega
          simp [nm]
      · exact ⟨_, rfl, e4, by omega, by omega, fun j h1 h2 => by omega⟩
    · rintro σ' H' ⟨n0, rfl, e4, n1, n2, n3⟩
      refine Evl.q_while (fun m σ' H' => ∃ n : Int, σ' = [some (.int q.low), some (.int t), some (.ref pm), some (.int q.st), some (.ref pb), some (.ref pt), some (.int n)] ∧ Ex H3 H' ∧ q.low ≤ n ∧ n ≤ t ∧ (∀ j, q.low ≤ j → j < n → ¬ q.eld j) ∧ m = (t - n).toNat) _ ⟨n0, rfl, e4, n1, n2, n3, rfl⟩ ?_
      rintro m σ' H' ⟨n, rfl, e5, h1, h2, h3, rfl⟩
      refine ⟨_, et_andV (et_lt (Evl.ev_var rfl) (Evl.ev_var rfl)) (Evl.et_test (ev_eqB (ev_din (Evl.ev_var rfl) (Evl.ev_var rfl) ((e3.trans e5) _ _ ht)) (ev_din (ev_mod (Evl.ev_var rfl) (Evl.ev_var rfl) s0) (Evl.ev_var rfl) ((e13.trans e5) _ _ hb)))), fun c H6 e6 => ?_, fun c H6 e6 => ?_⟩
      · obtain ⟨c1, c2⟩ := Bool.and_eq_true_iff.mp c
        have c1 : n < t := of_decide_eq_true c1
        have c2 : decide (n ∈ q.ms) = inR q.bl q.st n := of_decide_eq_true c2
        refine ⟨fun σ2 H2' => ∃ n' : Int, σ2 = [some (.int q.low), some (.int t), some (.ref pm), some (.int q.st), some (.ref pb), some (.ref pt), some (.int n')] ∧ Ex H3 H2' ∧ n' = n + 1, ?_, ?_⟩
        · rintro σ2 H7 ⟨n', rfl, e7, rfl⟩
          refine ⟨(t - (n + 1)).toNat, by omega, n + 1, rfl, e7, by omega, by omega, fun j j1 j2 => ?_, rfl⟩
          by_cases cj : j = n
          · subst cj
            exact eld_iff.mpr c2
          · exact h3 j j1 (by omega)
        · exact Evl.s_aug (f := fun i j => i + j) rfl Evl.ev_c fun H7 e7 => ⟨_, rfl, (e5.trans e6).trans e7, rfl⟩
      · refine s_retE (Evl.ev_var rfl) fun H7 e7 => k n _ (((e13.trans e5).trans e6).trans e7) ⟨fun z => by omega, fun _ => ⟨h1, h2, h3, fun lt z => ?_⟩⟩
        have z' : decide (n ∈ q.ms) = decide (n % q.st ∈ q.bl) := z
        rw [decide_eq_true lt, decide_eq_true z'] at c
        cases c
end
end Nv
set_option Elab.async false
set_option linter.all false
set_option maxRecDepth 100000
set_option maxHeartbeats 4000000
/-! NvC: keep, the two __init__, has, is_in, check_integer, common_multiple. -/
namespace Nv
open PySem PySem.Spec PyProof.Rows L2
open Evl (Ev EvT EvL EvU EvA)
/-! ### a lot in the heap -/
def lotF (l : P6) (pb pa qb qa pm qm : Addr) : List (Str × V) :=
  [(("step" : Str), .int l.st), (("below" : Str), .ref pb), (("above" : Str), .ref pa), (("has_below" : Str), .ref qb), (("has_above" : Str), .ref qa), (("low" : Str), .int l.low), (("high" : Str), .int l.high), (("members" : Str), .ref pm), (("has_members" : Str), .ref qm)]
def LotA (H : Hp) (x C : Addr) (l : P6) : Prop := ∃ dx pb pa qb qa pm qm, H x = some (.ins C dx (lotF l pb pa qb qa pm qm)) ∧ H pb = some (.tup (vI l.bl)) ∧ H pa = some (.tup (vI l.ab)) ∧ H qb = some (.dK (kvsOf l.bl)) ∧ H qa = some (.dK (kvsOf l.ab)) ∧
  H pm = some (.tup (vI l.ms)) ∧ H qm = some (.dK (kvsOf l.ms))
def LotV (K : PySem.W.Frag) (H : Hp) (v : V) (l : P6) : Prop := ∃ x C, v = .ref x ∧ CF K C ∧ LotA H x C l
theorem LotA.mono {H H' : Hp} {x C : Addr} {l : P6} (h : LotA H x C l) (e : Ex H H') : LotA H' x C l := by
  obtain ⟨dx, pb, pa, qb, qa, pm, qm, h1, h2, h3, h4, h5, h6, h7⟩ := h
  exact ⟨dx, pb, pa, qb, qa, pm, qm, e _ _ h1, e _ _ h2, e _ _ h3, e _ _ h4, e _ _ h5, e _ _ h6, e _ _ h7⟩
theorem LotV.mono {K : PySem.W.Frag} {H H' : Hp} {v : V} {l : P6} (h : LotV K H v l) (e : Ex H H') : LotV K H' v l := by
  obtain ⟨x, C, h1, h2, h3⟩ := h
  exact ⟨x, C, h1, h2, h3.mono e⟩
section
variable {K : PySem.W.Frag} {σ : L2.St} {H : Hp} {v : V} {l : P6} {i : Nat} {ty : TE} {n : Int}
theorem ev_low (L : LotV K H v l) (hs : σ[i]? = some (some v)) : Ev (tFld K (tVar i) "low") σ H (.int l.low) := by
  obtain ⟨x, C, rfl, c, dx, pb, pa, qb, qa, pm, qm, hx, _⟩ := L
  exact ev_fld (Evl.ev_var hs) hx c.cl c.n_low rfl
theorem ev_high (L : LotV K H v l) (hs : σ[i]? = some (some v)) : Ev (tFld K (tVar i) "high") σ H (.int l.high) := by
  obtain ⟨x, C, rfl, c, dx, pb, pa, qb, qa, pm, qm, hx, _⟩ := L
  exact ev_fld (Evl.ev_var hs) hx c.cl c.n_high rfl
theorem ev_step (L : LotV K H v l) (hs : σ[i]? = some (some v)) : Ev (tFld K (tVar i) "step") σ H (.int l.st) := by
  obtain ⟨x, C, rfl, c, dx, pb, pa, qb, qa, pm, qm, hx, _⟩ := L
  exact ev_fld (Evl.ev_var hs) hx c.cl c.n_step rfl
theorem ev_inB (L : LotV K H v l) (hs : σ[i]? = some (some v)) (hn : Ev ty σ H (.int n)) : Ev (tDIn ty (tFld K (tVar i) "has_below")) σ H (.bl (decide (n ∈ l.bl))) := by
  obtain ⟨x, C, rfl, c, dx, pb, pa, qb, qa, pm, qm, hx, h2, h3, h4, h5, h6, h7⟩ := L
  exact ev_din hn (ev_fld (Evl.ev_var hs) hx c.cl c.n_has_below rfl) h4
theorem ev_inA (L : LotV K H v l) (hs : σ[i]? = some (some v)) (hn : Ev ty σ H (.int n)) : Ev (tDIn ty (tFld K (tVar i) "has_above")) σ H (.bl (decide (n ∈ l.ab))) := by
  obtain ⟨x, C, rfl, c, dx, pb, pa, qb, qa, pm, qm, hx, h2, h3, h4, h5, h6, h7⟩ := L
  exact ev_din hn (ev_fld (Evl.ev_var hs) hx c.cl c.n_has_above rfl) h5
theorem ev_inM (L : LotV K H v l) (hs : σ[i]? = some (some v)) (hn : Ev ty σ H (.int n)) : Ev (tDIn ty (tFld K (tVar i) "has_members")) σ H (.bl (decide (n ∈ l.ms))) := by
  obtain ⟨x, C, rfl, c, dx, pb, pa, qb, qa, pm, qm, hx, h2, h3, h4, h5, h6, h7⟩ := L
  exact ev_din hn (ev_fld (Evl.ev_var hs) hx c.cl c.n_has_members rfl) h7
/-- the three tuples -/
theorem ev_tb (L : LotV K H v l) (hs : σ[i]? = some (some v)) : ∃ p, Ev (tFld K (tVar i) "below") σ H (.ref p) ∧ H p = some (.tup (vI l.bl)) := by
  obtain ⟨x, C, rfl, c, dx, pb, pa, qb, qa, pm, qm, hx, h2, h3, h4, h5, h6, h7⟩ := L
  exact ⟨pb, ev_fld (Evl.ev_var hs) hx c.cl c.n_below rfl, h2⟩
theorem ev_ta (L : LotV K H v l) (hs : σ[i]? = some (some v)) : ∃ p, Ev (tFld K (tVar i) "above") σ H (.ref p) ∧ H p = some (.tup (vI l.ab)) := by
  obtain ⟨x, C, rfl, c, dx, pb, pa, qb, qa, pm, qm, hx, h2, h3, h4, h5, h6, h7⟩ := L
  exact ⟨pa, ev_fld (Evl.ev_var hs) hx c.cl c.n_above rfl, h3⟩
theorem ev_tm (L : LotV K H v l) (hs : σ[i]? = some (some v)) : ∃ p, Ev (tFld K (tVar i) "members") σ H (.ref p) ∧ H p = some (.tup (vI l.ms)) := by
  obtain ⟨x, C, rfl, c, dx, pb, pa, qb, qa, pm, qm, hx, h2, h3, h4, h5, h6, h7⟩ := L
  exact ⟨pm, ev_fld (Evl.ev_var hs) hx c.cl c.n_members rfl, h6⟩
theorem ev_db (L : LotV K H v l) (hs : σ[i]? = some (some v)) : ∃ p, Ev (tFld K (tVar i) "has_below") σ H (.ref p) ∧ H p = some (.dK (kvsOf l.bl)) := by
  obtain ⟨x, C, rfl, c, dx, pb, pa, qb, qa, pm, qm, hx, h2, h3, h4, h5, h6, h7⟩ := L
  exact ⟨qb, ev_fld (Evl.ev_var hs) hx c.cl c.n_has_below rfl, h4⟩
theorem ev_da (L : LotV K H v l) (hs : σ[i]? = some (some v)) : ∃ p, Ev (tFld K (tVar i) "has_above") σ H (.ref p) ∧ H p = some (.dK (kvsOf l.ab)) := by
  obtain ⟨x, C, rfl, c, dx, pb, pa, qb, qa, pm, qm, hx, h2, h3, h4, h5, h6, h7⟩ := L
  exact ⟨qa, ev_fld (Evl.ev_var hs) hx c.cl c.n_has_above rfl, h5⟩
end
/-! ### fields written -/
/-- all but instances stay -/
def Eb (H H' : Hp) : Prop := ∀ a o, (∀ C dx fs, o ≠ .ins C dx fs) → H a = some o → H' a = some o
theorem Eb.of {H H' : Hp} (e : Ex H H') : Eb H H' := fun a o _ h => e a o h
theorem Eb.trans {H H1 H2 : Hp} (a : Eb H H1) (b : Eb H1 H2) : Eb H H2 := fun x o n h => b x o n (a x o n h)
theorem eb_upd {H : Hp} {x C dx : Addr} {fs : List (Str × V)} {u : HO} (h : H x = some (.ins C dx fs)) : Eb H (upd H x u) := fun a o n ha => by
  by_cases e : a = x
  · subst e
    rw [h] at ha
    exact absurd (Option.some.inj ha).symm (n _ _ _)
  · rw [upd_ne e]
    exact ha
theorem Eb.tup {H H' : Hp} {p : Addr} {xs : List V} (e : Eb H H') (h : H p = some (.tup xs)) : H' p = some (.tup xs) := e _ _ (fun _ _ _ z => by cases z) h
theorem Eb.dk {H H' : Hp} {p : Addr} {xs : List (Key × V)} (e : Eb H H') (h : H p = some (.dK xs)) : H' p = some (.dK xs) := e _ _ (fun _ _ _ z => by cases z) h
section
variable {K : PySem.W.Frag} {σ : L2.St} {H : Hp} {P : V → Hp → Prop} {x C dx : Addr} {fs : List (Str × V)} {te : TE} {f : Str} {D : Ends} {tz : TS}
theorem s_fldP (he : EvP te σ H P) (hs : σ[0]? = some (some (.ref x))) (hx : H x = some (.ins C dx fs)) (c : Cls K C) (hn : NoAttr K C f) (hl : decide (fs.length < 1000) = true)
    (k : ∀ v H1 H2, Ex H H1 → P v H1 → Eb H1 H2 → (∀ H0, Ex H0 H → H0 x = none → Ex H0 H2) → H2 x = some (.ins C dx (putF f v fs)) → D.nx σ H2) : sFld K (tVar 0) te f D σ H :=
  he H (Evl.Ex.refl H) _ fun v H1 e1 p => ⟨.ref x, hs, x, C, dx, fs, rfl, e1 _ _ hx, c, hn, of_decide_eq_true hl, k v H1 _ e1 p (eb_upd (e1 _ _ hx)) (fun H0 e0 h0 => Ex.mut (e0.trans e1) h0) upd_same⟩
theorem q_fldP (he : EvP te σ H P) (hs : σ[0]? = some (some (.ref x))) (hx : H x = some (.ins C dx fs)) (c : Cls K C) (hn : NoAttr K C f) (hl : decide (fs.length < 1000) = true)
    (k : ∀ v H1 H2, Ex H H1 → P v H1 → Eb H1 H2 → (∀ H0, Ex H0 H → H0 x = none → Ex H0 H2) → H2 x = some (.ins C dx (putF f v fs)) → tz D σ H2) : tSeq (sFld K (tVar 0) te f) tz D σ H :=
  s_fldP (D := { D with nx := tz D }) he hs hx c hn hl k
end
theorem asc_room : ∀ {ns : List Int} {a b : Int}, ns.Pairwise (· < ·) → (∀ n ∈ ns, a ≤ n ∧ n < b) → (ns.length : Int) ≤ max (b - a) 0
  | [], a, b, _, _ => by simp; omega
  | n :: r, a, b, h, hb => by
    have h1 := List.pairwise_cons.mp h
    have ih := asc_room (a := n + 1) (b := b) h1.2 (fun m hm => ⟨by have := h1.1 m hm; omega, (hb m (List.mem_cons_of_mem _ hm)).2⟩)
    have hn := hb n List.mem_cons_self
    rw [List.length_cons]
    omega
theorem Rests.len {st : Int} {rs : List Int} (h : Rests st rs) (s0 : 0 < st) (s1 : st ≤ 4000) : rs.length ≤ 4000 := by
  have z := asc_room h.asc h.bnd
  omega
/-! ### promises -/
def spKeep (C : Addr) : Sp := fun vs H Q _ => ∃ (x dx pm pb pa : Addr) (H0 : Hp) (p : P6), vs = [.ref x, .int p.low, .int p.high, .ref pm, .int p.st, .ref pb, .ref pa] ∧ Ex H0 H ∧ H0 x = none ∧ H x = some (.ins C dx []) ∧
  H0 pm = some (.tup (vI p.ms)) ∧ H0 pb = some (.tup (vI p.bl)) ∧ H0 pa = some (.tup (vI p.ab)) ∧ p.Wf ∧ p.st ≤ 4000 ∧ p.ms.length < sizeLine ∧ ∀ l H2, Ex H0 H2 → LotA H2 x C l → IsLeast p l → Q .non H2
theorem sp_least_step {H : Hp} {pb pa : Addr} {bl ab : List Int} {st : Int} (hb : H pb = some (.tup (vI bl))) (ha : H pa = some (.tup (vI ab))) (rb : Rests st bl) (ra : Rests st ab) (s0 : 0 < st) (s1 : st ≤ 4000) :
    SpP spLeastStep [.int st, .ref pb, .ref pa] H (fun v _ => ∃ k, v = .int k ∧ IsStep st bl ab k) := fun H1 e Q q E =>
  ⟨pb, pa, bl, ab, st, rfl, e _ _ hb, e _ _ ha, rb, ra, by have := rb.len s0 s1; rw [sizeLine_eq]; omega, by have := ra.len s0 s1; rw [sizeLine_eq]; omega, s0, s1, fun k H2 e2 z => q _ H2 e2 ⟨k, rfl, z⟩⟩
theorem sp_least_high {H : Hp} {pm pb pa : Addr} {q : P6} (hm : H pm = some (.tup (vI q.ms))) (hb : H pb = some (.dK (kvsOf q.bl))) (ha : H pa = some (.dK (kvsOf q.ab))) (wf : q.Wf) (s1 : q.st ≤ 4000) (mz : q.ms.length < sizeLine) :
    SpP spLeastHigh [.int q.low, .int q.high, .ref pm, .int q.st, .ref pb, .ref pa] H (fun v _ => ∃ o, v = optI o ∧ IsTop q o) := fun H1 e Q k E =>
  ⟨pm, pb, pa, q, rfl, e _ _ hm, e _ _ hb, e _ _ ha, wf, s1, mz, fun o H2 e2 z => k _ H2 e2 ⟨o, rfl, z⟩⟩
theorem sp_greatest_low {H : Hp} {pm pb : Addr} {q : P6} {t : Int} (hm : H pm = some (.tup (vI q.ms))) (hb : H pb = some (.dK (kvsOf q.bl))) (wf : q.Wf) (mz : q.ms.length < sizeLine) :
    SpP spGreatestLow [.int q.low, .int t, .ref pm, .int q.st, .ref pb] H (fun v _ => ∃ b, v = .int b ∧ IsBot q t b) := fun H1 e Q k E =>
  ⟨pm, pb, q, t, rfl, e _ _ hm, e _ _ hb, wf, mz, fun o H2 e2 z => k _ H2 e2 ⟨o, rfl, z⟩⟩
theorem within_none {ms : List Int} : within ms 0 0 = [] := by
  unfold within
  rw [List.filter_eq_nil_iff]
  intro n _ h
  have := of_decide_eq_true h
  omega
section
variable {P : Program} {w : World} {K : PySem.W.Frag} {mg : Str → Option Value} {base : Heap}
theorem sc_Lot_keep : FnScope ["self", "low", "high", "members", "step", "below", "above", "top", "rest", "number"] ["self", "low", "high", "members", "step", "below", "above"] (defScope sLot_Keep) := ⟨rfl, rfl, rfl, by decide +kernel, rfl, by decide +kernel, by decide +kernel⟩
theorem ok_keep (T : Txt K mg) {C f : Addr} (CF : CF K C) (F : Fn K "keep" "Lot.keep" sLot_Keep f) : Gd P w K mg base CX0 4 f ["self", "low", "high", "members", "step", "below", "above"] (spKeep C) := by
  have G_keyed : Gd P w K mg base CX0 1 (He.ga K "keyed") ["numbers"] spKeyed := ok_keyed T
  have G_least_step : Gd P w K mg base CX0 3 (He.ga K "least_step") ["step", "below", "above"] spLeastStep := ok_least_step T
  have G_least_high : Gd P w K mg base CX0 2 (He.ga K "least_high") ["low", "high", "members", "step", "below", "above"] spLeastHigh := ok_least_high T
  have G_greatest_low : Gd P w K mg base CX0 2 (He.ga K "greatest_low") ["low", "high", "members", "step", "below"] spGreatestLow := ok_greatest_low T
  refine Fn.good F sc_Lot_keep (fun _ _ _ _ _ _ us hl => match us, hl with | [_, _, _, _, _, _, _], _ => rfl) (fun vs H Q E h => ?_) (fun cdv A outer s H vs Q E hr h => ?_)
  · obtain ⟨x, dx, pm, pb, pa, H0, p, rfl, _⟩ := h
    rfl
  · obtain ⟨x, dx, pm, pb, pa, H0, p, rfl, e0, x0, hx, hm, hb, ha, wf, s1, mz, k⟩ := h
    refine ⟨_, (pss_cons (ps_fld (pv 0) (pcl G_least_step (hr.mono (by decide)) T.g_least_step (pa_cons (pv 4) (pa_cons (pv 5) (pa_cons (pv 6) pa_nil)))) rfl)
      (pss_cons (ps_fld (pv 0) (pe_callTy call_tuple_of (by rfl) T.n_tuple (by decide +kernel) (pa_cons (pe_lc (own := [("rest", 8)]) (g := gName 8) rfl sc_Lot_keep.nd (pi_tup (pv 5)) (blkOk_by (N := ["self", "low", "high", "members", "step", "below", "above", "top", "rest", "number"]) (sc := defScope sLot_Keep) (by decide +kernel)) (fun _ _ _ _ _ => pg_name (i := 8) sc_Lot_keep.nd rfl (Or.inl rfl)) (fun _ _ _ _ _ => pts_one (pt_cmpR op_lt (pv 8) (kFld (K := K) rfl (pv 0) rfl) (nomark _))) (fun _ _ _ _ _ => (pv 8))) pa_nil)) rfl)
      (pss_cons (ps_fld (pv 0) (pe_callTy call_tuple_of (by rfl) T.n_tuple (by decide +kernel) (pa_cons (pe_lc (own := [("rest", 8)]) (g := gName 8) rfl sc_Lot_keep.nd (pi_tup (pv 6)) (blkOk_by (N := ["self", "low", "high", "members", "step", "below", "above", "top", "rest", "number"]) (sc := defScope sLot_Keep) (by decide +kernel)) (fun _ _ _ _ _ => pg_name (i := 8) sc_Lot_keep.nd rfl (Or.inl rfl)) (fun _ _ _ _ _ => pts_one (pt_cmpR op_lt (pv 8) (kFld (K := K) rfl (pv 0) rfl) (nomark _))) (fun _ _ _ _ _ => (pv 8))) pa_nil)) rfl)
      (pss_cons (ps_fld (pv 0) (pcl G_keyed (hr.mono (by decide)) T.g_keyed (pa_cons (kFld (K := K) rfl (pv 0) rfl) pa_nil)) rfl)
      (pss_cons (ps_fld (pv 0) (pcl G_keyed (hr.mono (by decide)) T.g_keyed (pa_cons (kFld (K := K) rfl (pv 0) rfl) pa_nil)) rfl)
      (pss_cons (ps_set (i := 7) sc_Lot_keep.nd rfl (Or.inl rfl) (pcl G_least_high (hr.mono (by decide)) T.g_least_high (pa_cons (pv 1) (pa_cons (pv 2) (pa_cons (pv 3) (pa_cons (kFld (K := K) rfl (pv 0) rfl) (pa_cons (kFld (K := K) rfl (pv 0) rfl) (pa_cons (kFld (K := K) rfl (pv 0) rfl) pa_nil))))))))
      (Evl.pss_cut (ps_if (pt_cmpR op_isN1 (pv 7) pe_non (nomark _)) (pss_cons (ps_fld (pv 0) pe_int rfl)
      (pss_one (ps_fld (pv 0) pe_int rfl))) (pss_cons (ps_fld (pv 0) (pcl G_greatest_low (hr.mono (by decide)) T.g_greatest_low (pa_cons (pv 1) (pa_cons (pv 7) (pa_cons (pv 3) (pa_cons (kFld (K := K) rfl (pv 0) rfl) (pa_cons (kFld (K := K) rfl (pv 0) rfl) pa_nil)))))) rfl)
      (pss_one (ps_fld (pv 0) (pv 7) rfl))))
      (pss_cons (ps_fld (pv 0) (pe_callTy call_tuple_of (by rfl) T.n_tuple (by decide +kernel) (pa_cons (pe_lc (own := [("number", 9)]) (g := gName 9) rfl sc_Lot_keep.nd (pi_tup (pv 3)) (blkOk_by (N := ["self", "low", "high", "members", "step", "below", "above", "top", "rest", "number"]) (sc := defScope sLot_Keep) (by decide +kernel)) (fun _ _ _ _ _ => pg_name (i := 9) sc_Lot_keep.nd rfl (Or.inl rfl)) (fun _ _ _ _ _ => pts_one (pt_chain op_le op_lt (kFld (K := K) rfl (pv 0) rfl) (pv 9) (kFld (K := K) rfl (pv 0) rfl))) (fun _ _ _ _ _ => (pv 9))) pa_nil)) rfl)
      (pss_one (ps_fld (pv 0) (pcl G_keyed (hr.mono (by decide)) T.g_keyed (pa_cons (kFld (K := K) rfl (pv 0) rfl) pa_nil)) rfl)))))))))), ?_⟩
    have s0 := wf.pos
    have bz : p.bl.length < sizeLine := by have := wf.bl.len s0 s1; rw [sizeLine_eq]; omega
    have az : p.ab.length < sizeLine := by have := wf.ab.len s0 s1; rw [sizeLine_eq]; omega
    -- self.step
    refine q_fldP (evp_call (Evl.ea_cons (Evl.ev_var rfl) (Evl.ea_cons (Evl.ev_var rfl) (Evl.ea_cons (Evl.ev_var rfl) Evl.ea_nil))) (sp_least_step (e0 _ _ hb) (e0 _ _ ha) wf.bl wf.ab s0 s1)) rfl hx CF.cl CF.n_step rfl fun v H1 H1' e1 pv b1 x1 hx1 => ?_
    obtain ⟨st, rfl, isS⟩ := pv
    have e1 := x1 H0 e0 x0
    have kp : 0 < st := by have := isS.lo; omega
    have wq := P6.red_wf wf kp
    -- self.below
    refine q_fldP (EvU.p (ns := cut p.bl st) (eu_tuple (el_T (ns := p.bl) (fun r => decide (r < st)) V.int ?_ (e1 _ _ hb) bz ?_ ?_ ?_))) rfl hx1 CF.cl CF.n_below rfl fun v H2 H2' _ pv b2 x2 hx2 => ?_
    · exact Evl.ev_var rfl
    · exact fun x => rfl
    · exact fun z Hz _ ez => et_lt (Evl.ev_var rfl) (ev_fld (Evl.ev_var rfl) (ez _ _ hx1) CF.cl CF.n_step rfl)
    · exact fun z Hz _ ez _ => Evl.ev_var rfl
    obtain ⟨pb', rfl, hb'⟩ := pv
    have e2 := x2 H0 e1 x0
    have hb2 := b2.tup hb'
    -- self.above
    refine q_fldP (EvU.p (ns := cut p.ab st) (eu_tuple (el_T (ns := p.ab) (fun r => decide (r < st)) V.int ?_ (e2 _ _ ha) az ?_ ?_ ?_))) rfl hx2 CF.cl CF.n_above rfl fun v H3 H3' e23 pv b3 x3 hx3 => ?_
    · exact Evl.ev_var rfl
    · exact fun x => rfl
    · exact fun z Hz _ ez => et_lt (Evl.ev_var rfl) (ev_fld (Evl.ev_var rfl) (ez _ _ hx2) CF.cl CF.n_step rfl)
    · exact fun z Hz _ ez _ => Evl.ev_var rfl
    obtain ⟨pa', rfl, ha'⟩ := pv
    have e3 := x3 H0 e2 x0
    have ha3 := b3.tup ha'
    have hb3 := b3.tup (e23 _ _ hb2)
    have bz2 : (cut p.bl st).length < sizeLine := Nat.lt_of_le_of_lt (List.length_filter_le _ _) bz
    have az2 : (cut p.ab st).length < sizeLine := Nat.lt_of_le_of_lt (List.length_filter_le _ _) az
    -- self.has_below, self.has_above
    refine q_fldP (evp_call (Evl.ea_cons (ev_fld (Evl.ev_var rfl) hx3 CF.cl CF.n_below rfl) Evl.ea_nil) (sp_keyed hb3 wq.bl.nodup bz2)) rfl hx3 CF.cl CF.n_has_below rfl fun v H4 H4' e34 pv b4 x4 hx4 => ?_
    obtain ⟨qb, rfl, hqb⟩ := pv
    have e4 := x4 H0 e3 x0
    have ha4 := b4.tup (e34 _ _ ha3)
    have hb4 := b4.tup (e34 _ _ hb3)
    have hqb4 := b4.dk hqb
    refine q_fldP (evp_call (Evl.ea_cons (ev_fld (Evl.ev_var rfl) hx4 CF.cl CF.n_above rfl) Evl.ea_nil) (sp_keyed ha4 wq.ab.nodup az2)) rfl hx4 CF.cl CF.n_has_above rfl fun v H5 H5' e45 pv b5 x5 hx5 => ?_
    obtain ⟨qa, rfl, hqa⟩ := pv
    have e5 := x5 H0 e4 x0
    have ha5 := b5.tup (e45 _ _ ha4)
    have hb5 := b5.tup (e45 _ _ hb4)
    have hqb5 := b5.dk (e45 _ _ hqb4)
    have hqa5 := b5.dk hqa
    -- top
    refine q_asgP (evp_call (Evl.ea_cons (Evl.ev_var rfl) (Evl.ea_cons (Evl.ev_var rfl) (Evl.ea_cons (Evl.ev_var rfl) (Evl.ea_cons (ev_fld (Evl.ev_var rfl) hx5 CF.cl CF.n_step rfl) (Evl.ea_cons (ev_fld (Evl.ev_var rfl) hx5 CF.cl CF.n_has_below rfl) (Evl.ea_cons (ev_fld (Evl.ev_var rfl) hx5 CF.cl CF.n_has_above rfl) Evl.ea_nil))))))
      (sp_least_high (q := p.red st) (e5 _ _ hm) hqb5 hqa5 wq (Int.le_trans isS.hi s1) mz)) fun v H6 e56 pv => ?_
    obtain ⟨o, rfl, isT⟩ := pv
    have hx6 := e56 _ _ hx5
    have e6 := e5.trans e56
    -- low, high
    refine Evl.q_cut (M := fun σ' H' => ∃ b t : Int, σ' = [some (.ref x), some (.int p.low), some (.int p.high), some (.ref pm), some (.int p.st), some (.ref pb), some (.ref pa), some (optI o), none, none] ∧ Ex H0 H' ∧ Eb H6 H' ∧
      H' x = some (.ins C dx [(("step" : Str), .int st), (("below" : Str), .ref pb'), (("above" : Str), .ref pa'), (("has_below" : Str), .ref qb), (("has_above" : Str), .ref qa), (("low" : Str), .int b), (("high" : Str), .int t)]) ∧ IsLeast p ⟨b, t, within p.ms b t, st, cut p.bl st, cut p.ab st⟩) ?_ ?_
    · cases o with
      | none =>
        refine Evl.s_if (b := true) (Evl.et_test (Evl.ev_op (Evl.ev_var rfl) Evl.ev_c (fun H1 _ Q q => ⟨rfl, q H1 (Evl.Ex.refl _)⟩))) (fun _ H7 e67 => ?_) (fun h => absurd h (by decide))
        refine q_fldP (Ev.p Evl.ev_c) rfl (e67 _ _ hx6) CF.cl CF.n_low rfl fun v H8 H8' e78 pv b8 x8 hx8 => ?_
        subst pv
        refine s_fldP (Ev.p Evl.ev_c) rfl hx8 CF.cl CF.n_high rfl fun v H9 H9' e89 pv b9 x9 hx9 => ?_
        subst pv
        refine ⟨0, 0, rfl, x9 H0 (x8 H0 (e6.trans e67) x0) x0, (((Eb.of e67).trans (Eb.of e78)).trans b8).trans ((Eb.of e89).trans b9), hx9, st, isS, .inl ⟨isT, ?_⟩⟩
        rw [within_none]
      | some t =>
        refine Evl.s_if (b := false) (Evl.et_test (Evl.ev_op (Evl.ev_var rfl) Evl.ev_c (fun H1 _ Q q => ⟨rfl, q H1 (Evl.Ex.refl _)⟩))) (fun h => absurd h (by decide)) (fun _ H7 e67 => ?_)
        have hx7 := e67 _ _ hx6
        have e7 := e6.trans e67
        refine q_fldP (evp_call (Evl.ea_cons (Evl.ev_var rfl) (Evl.ea_cons (Evl.ev_var rfl) (Evl.ea_cons (Evl.ev_var rfl) (Evl.ea_cons (ev_fld (Evl.ev_var rfl) hx7 CF.cl CF.n_step rfl) (Evl.ea_cons (ev_fld (Evl.ev_var rfl) hx7 CF.cl CF.n_has_below rfl) Evl.ea_nil)))))
          (sp_greatest_low (q := p.red st) (t := t) (e7 _ _ hm) (e67 _ _ (e56 _ _ hqb5)) wq mz)) rfl hx7 CF.cl CF.n_low rfl fun v H8 H8' e78 pv b8 x8 hx8 => ?_
        obtain ⟨b, rfl, isB⟩ := pv
        refine s_fldP (Ev.p (Evl.ev_var rfl)) rfl hx8 CF.cl CF.n_high rfl fun v H9 H9' e89 pv b9 x9 hx9 => ?_
        subst pv
        exact ⟨b, t, rfl, x9 H0 (x8 H0 e7 x0) x0, (((Eb.of e67).trans (Eb.of e78)).trans b8).trans ((Eb.of e89).trans b9), hx9, st, isS, .inr ⟨t, b, isT, isB, rfl⟩⟩
    · rintro σ' H' ⟨b, t, rfl, e10, b10, hx10, isL⟩
      have wm : (within p.ms b t).length ≤ p.ms.length := List.length_filter_le _ _
      have ha10 := b10.tup (e56 _ _ ha5)
      have hb10 := b10.tup (e56 _ _ hb5)
      have hqb10 := b10.dk (e56 _ _ hqb5)
      have hqa10 := b10.dk (e56 _ _ hqa5)
      -- members
      refine q_fldP (EvU.p (ns := within p.ms b t) (eu_tuple (el_T (ns := p.ms) (fun n => decide (b ≤ n ∧ n < t)) V.int ?_ (e10 _ _ hm) mz ?_ ?_ ?_))) rfl hx10 CF.cl CF.n_members rfl fun v H11 H11' e1011 pv b11 x11 hx11 => ?_
      · exact Evl.ev_var rfl
      · exact fun x => rfl
      · refine fun z Hz _ ez => Evl.et_is (Evl.et_test (ev_chain (ev_fld (Evl.ev_var rfl) (ez _ _ hx10) CF.cl CF.n_low rfl) (Evl.ev_var rfl) (ev_fld (Evl.ev_var rfl) (ez _ _ hx10) CF.cl CF.n_high rfl) (Evl.rv_I0 (g := fun i j => .bl (decide (i ≤ j)))) (Evl.rv_I0 (g := fun i j => .bl (decide (i < j)))))) ?_
        exact (Bool.decide_and _ _).symm
      · exact fun z Hz _ ez _ => Evl.ev_var rfl
      obtain ⟨pm', rfl, hm'⟩ := pv
      have hm11 := b11.tup hm'
      have e11 := x11 H0 e10 x0
      have ha11 := b11.tup (e1011 _ _ ha10)
      have hb11 := b11.tup (e1011 _ _ hb10)
      have hqb11 := b11.dk (e1011 _ _ hqb10)
      have hqa11 := b11.dk (e1011 _ _ hqa10)
      -- has_members
      refine s_fldP (evp_call (Evl.ea_cons (ev_fld (Evl.ev_var rfl) hx11 CF.cl CF.n_members rfl) Evl.ea_nil) (sp_keyed hm11 (asc_nodup (wf.asc.sublist List.filter_sublist)) (Nat.lt_of_le_of_lt wm mz))) rfl hx11 CF.cl CF.n_has_members rfl fun v H12 H12' e1112 pv b12 x12 hx12 => ?_
      obtain ⟨qm, rfl, hqm⟩ := pv
      refine k ⟨b, t, within p.ms b t, st, cut p.bl st, cut p.ab st⟩ _ (x12 H0 e11 x0) ⟨dx, pb', pa', qb, qa, pm', qm, hx12, b12.tup (e1112 _ _ hb11), b12.tup (e1112 _ _ ha11), b12.dk (e1112 _ _ hqb11), b12.dk (e1112 _ _ hqa11), b12.tup (e1112 _ _ hm11), b12.dk hqm⟩ isL
end
end Nv
set_option Elab.async false
set_option linter.all false
set_option maxRecDepth 100000
set_option maxHeartbeats 4000000
/-! NvD: the two __init__, has, is_in, check_integer, common_multiple. -/
namespace Nv
open PySem PySem.Spec PyProof.Rows L2
open Evl (Ev EvT EvL EvU EvA)
def spLotI (C : Addr) : Sp := fun vs H Q E => (∀ a b, vs[1]? = some (.int a) → vs[2]? = some (.int b) → b ≤ a + 100000) ∧ spKeep C vs H Q E
def spHas (K : PySem.W.Frag) : Sp := fun vs H Q _ => ∃ v l n, vs = [v, .int n] ∧ LotV K H v l ∧ 0 < l.st ∧ ∀ H2, Ex H H2 → Q (.bl (l.has n)) H2
def spCheck : Sp := fun vs H Q _ => ∃ n : Int, vs = [.int n] ∧ ∀ H2, Ex H H2 → Q .non H2
def lcmI (a b : Int) : Int := a * b / (Nat.gcd a.natAbs b.natAbs : Nat)
def spLcm (K : PySem.W.Frag) : Sp := fun vs H Q _ => ∃ v u l m, vs = [v, u] ∧ LotV K H v l ∧ LotV K H u m ∧ 0 < l.st ∧ l.st ≤ 4000 ∧ 0 < m.st ∧ m.st ≤ 4000 ∧ ∀ H2, Ex H H2 → Q (.int (lcmI l.st m.st)) H2
theorem sp_rising {H : Hp} {p : Addr} {ns : List Int} {a b : Int} (hp : H p = some (.tup (vI ns))) (h1 : ns.Pairwise (· < ·)) (h2 : ∀ r ∈ ns, a ≤ r ∧ r ≤ b) (hz : ns.length ≤ 1000000) : SpP spRis [.ref p, .int a, .int b] H (fun v _ => v = .bl true) := fun H1 e Q q E =>
  ⟨p, ns, a, b, rfl, e _ _ hp, h1, h2, hz, fun H2 e2 => q _ H2 e2 rfl⟩
theorem sp_ascending {H : Hp} {p : Addr} {ns : List Int} {m : Int} (hp : H p = some (.tup (vI ns))) (h : Rests m ns) (hz : ns.length ≤ 1000000) : SpP spAsc [.ref p, .int m] H (fun v _ => v = .bl true) := fun H1 e Q q E =>
  ⟨p, ns, m, rfl, e _ _ hp, h.asc, h.bnd, hz, fun H2 e2 => q _ H2 e2 rfl⟩
theorem sp_has {K : PySem.W.Frag} {H : Hp} {v : V} {l : P6} {n : Int} (L : LotV K H v l) (s0 : 0 < l.st) : SpP (spHas K) [v, .int n] H (fun u _ => u = .bl (l.has n)) := fun H1 e Q q E => ⟨v, l, n, rfl, L.mono e, s0, fun H2 e2 => q _ H2 e2 rfl⟩
theorem sp_check {H : Hp} {n : Int} : SpP spCheck [.int n] H (fun u _ => u = .non) := fun H1 e Q q E => ⟨n, rfl, fun H2 e2 => q _ H2 e2 rfl⟩
theorem sp_lcm {K : PySem.W.Frag} {H : Hp} {v u : V} {l m : P6} (L : LotV K H v l) (M : LotV K H u m) (s0 : 0 < l.st) (s1 : l.st ≤ 4000) (t0 : 0 < m.st) (t1 : m.st ≤ 4000) : SpP (spLcm K) [v, u] H (fun u _ => u = .int (lcmI l.st m.st)) := fun H1 e Q q E =>
  ⟨v, u, l, m, rfl, L.mono e, M.mono e, s0, s1, t0, t1, fun H2 e2 => q _ H2 e2 rfl⟩
theorem sp_gcd {H : Hp} {a b : Int} : SpP spGcd [.int a, .int b] H (fun u _ => u = .int (Nat.gcd a.natAbs b.natAbs : Nat)) := fun H1 e Q q E => ⟨a, b, rfl, fun H2 e2 => q _ H2 e2 rfl⟩
theorem u_make {σ : L2.St} {H : Hp} {tA : TA} {C : Addr} {sp : Sp} {E : XK} {Q : VK} (h : tA σ H fun vs H1 => ∀ x dx, H1 x = none → H1 dx = none → dx ≠ x → sp (.ref x :: (vs ++ [])) (upd (upd H1 dx (.own x)) x (.ins C dx [])) (fun v H2 => v = .non ∧ Q (.ref x) H2) E) :
    tMake C sp [] E tA σ H Q := h
theorem ex_make {H : Hp} {x dx C : Addr} (hx : H x = none) (hd : H dx = none) : Ex H (upd (upd H dx (.own x)) x (.ins C dx [])) := Ex.mut (Evl.Ex.new hd) hx
/-- a lot of these parts, made -/
theorem keep_make {H H' : Hp} {x dx C pm pb pa : Addr} {p : P6} {Q : VK} {E : XK} (e : Ex H H') (hx : H' x = none) (hd : H' dx = none) (hm : H pm = some (.tup (vI p.ms))) (hb : H pb = some (.tup (vI p.bl))) (ha : H pa = some (.tup (vI p.ab))) (wf : p.Wf) (s1 : p.st ≤ 4000) (mz : p.ms.length < sizeLine)
    (k : ∀ l H2, Ex H' H2 → LotA H2 x C l → IsLeast p l → Q .non H2) : spKeep C [.ref x, .int p.low, .int p.high, .ref pm, .int p.st, .ref pb, .ref pa] (upd (upd H' dx (.own x)) x (.ins C dx [])) Q E :=
  ⟨x, dx, pm, pb, pa, H', p, rfl, ex_make hx hd, hx, upd_same, e _ _ hm, e _ _ hb, e _ _ ha, wf, s1, mz, k⟩
section
variable {P : Program} {w : World} {K : PySem.W.Frag} {mg : Str → Option Value} {base : Heap}
theorem sc_RawLot_init : FnScope ["self", "low", "high", "members", "step", "below", "above"] ["self", "low", "high", "members", "step", "below", "above"] (defScope sRawLot_Init) := ⟨rfl, rfl, rfl, by decide +kernel, rfl, by decide +kernel, by decide +kernel⟩
theorem ok_RawLot (T : Txt K mg) : Gd P w K mg base CX0 5 (He.ma K (aRaw K) "__init__") ["self", "low", "high", "members", "step", "below", "above"] (spKeep (aRaw K)) := by
  have CF := T.cRaw
  have MK := T.mt_RawLot
  have GK : Gd P w K mg base CX0 4 _ ["self", "low", "high", "members", "step", "below", "above"] (spKeep (aRaw K)) := ok_keep T CF T.k_RawLot
  refine Fn.good T.f_RawLot sc_RawLot_init (fun _ _ _ _ _ _ us hl => match us, hl with | [_, _, _, _, _, _, _], _ => rfl) (fun vs H Q E h => ?_) (fun cdv A outer s H vs Q E hr h => ?_)
  · obtain ⟨x, dx, pm, pb, pa, H0, p, rfl, _⟩ := h
    rfl
  · obtain ⟨x, dx, pm, pb, pa, H0, p, rfl, e0, x0, hx, hm, hb, ha, wf, s1, mz, k⟩ := h
    refine ⟨_, (pss_one (ps_expr (pmt CF.cl MK GK (hr.mono (by decide)) (pv 0) (pa_cons (pv 1) (pa_cons (pv 2) (pa_cons (pv 3) (pa_cons (pv 4) (pa_cons (pv 5) (pa_cons (pv 6) pa_nil))))))))), ?_⟩
    exact ⟨_, rfl, x, dx, [], rfl, hx, rfl, _, rfl, _, rfl, _, rfl, _, rfl, _, rfl, _, rfl, x, dx, pm, pb, pa, H0, p, rfl, e0, x0, hx, hm, hb, ha, wf, s1, mz, k⟩
theorem sc_Lot_init : FnScope ["self", "low", "high", "members", "step", "below", "above"] ["self", "low", "high", "members", "step", "below", "above"] (defScope sLot_Init) := ⟨rfl, rfl, rfl, by decide +kernel, rfl, by decide +kernel, by decide +kernel⟩
theorem ok_Lot (T : Txt K mg) : Gd P w K mg base CX0 5 (He.ma K (aLot K) "__init__") ["self", "low", "high", "members", "step", "below", "above"] (spLotI (aLot K)) := by
  have CF := T.cLot
  have MK := T.mt_Lot
  have GK : Gd P w K mg base CX0 4 _ ["self", "low", "high", "members", "step", "below", "above"] (spKeep (aLot K)) := ok_keep T CF T.k_Lot
  have G_is_integer : Gd P w K mg base CX0 1 (He.ga K "is_integer") ["thing"] spIsInteger := ok_is_integer T
  have G_is_within : Gd P w K mg base CX0 2 (He.ga K "is_within") ["thing", "least", "most"] spIsWithin := ok_is_within T
  have G_is_rising : Gd P w K mg base CX0 3 (He.ga K "is_rising") ["thing", "least", "most"] spRis := ok_is_rising T
  have G_is_ascending : Gd P w K mg base CX0 3 (He.ga K "is_ascending") ["thing", "many"] spAsc := ok_is_ascending T
  refine Fn.good T.f_Lot sc_Lot_init (fun _ _ _ _ _ _ us hl => match us, hl with | [_, _, _, _, _, _, _], _ => rfl) (fun vs H Q E h => ?_) (fun cdv A outer s H vs Q E hr h => ?_)
  · obtain ⟨_, x, dx, pm, pb, pa, H0, p, rfl, _⟩ := h
    rfl
  · obtain ⟨far, x, dx, pm, pb, pa, H0, p, rfl, e0, x0, hx, hm, hb, ha, wf, s1, mz, k⟩ := h
    have far : p.high ≤ p.low + 100000 := far _ _ rfl rfl
    have s0 := wf.pos
    have ml := asc_room wf.asc wf.bnd
    have wl := wf.le
    have bz := wf.bl.len s0 s1
    have az := wf.ab.len s0 s1
    refine ⟨_, (pss_cons (ps_if (pt_not (pt_val (pcl G_is_integer (hr.mono (by decide)) T.g_is_integer (pa_cons (pv 1) pa_nil)))) (pss_one ps_never) pss_nil)
      (pss_cons (ps_if (pt_not (pt_val (pcl G_is_within (hr.mono (by decide)) T.g_is_within (pa_cons (pv 2) (pa_cons (pv 1) (pa_cons (pe_op op_add (pv 1) (pgi rfl T.k_MOST_APART)) pa_nil)))))) (pss_one ps_never) pss_nil)
      (pss_cons (ps_if (pt_not (pt_val (pcl G_is_rising (hr.mono (by decide)) T.g_is_rising (pa_cons (pv 3) (pa_cons (pv 1) (pa_cons (pe_op op_sub (pv 2) pe_int) pa_nil)))))) (pss_one ps_never) pss_nil)
      (pss_cons (ps_if (pt_not (pt_val (pcl G_is_within (hr.mono (by decide)) T.g_is_within (pa_cons (pv 4) (pa_cons pe_int (pa_cons (pgi rfl T.k_MOST_STEP) pa_nil)))))) (pss_one ps_never) pss_nil)
      (pss_cons (ps_if (pt_not (pt_val (pcl G_is_ascending (hr.mono (by decide)) T.g_is_ascending (pa_cons (pv 5) (pa_cons (pv 4) pa_nil))))) (pss_one ps_never) pss_nil)
      (pss_cons (ps_if (pt_not (pt_val (pcl G_is_ascending (hr.mono (by decide)) T.g_is_ascending (pa_cons (pv 6) (pa_cons (pv 4) pa_nil))))) (pss_one ps_never) pss_nil)
      (pss_one (ps_expr (pmt CF.cl MK GK (hr.mono (by decide)) (pv 0) (pa_cons (pv 1) (pa_cons (pv 2) (pa_cons (pv 3) (pa_cons (pv 4) (pa_cons (pv 5) (pa_cons (pv 6) pa_nil))))))))))))))), ?_⟩
    refine q_ret (ev_notV (b := true) (ev_callV (Evl.ea_cons (Evl.ev_var rfl) Evl.ea_nil) sp_is_integer)) fun H1 e1 => ?_
    refine q_ret (ev_notV (b := true) (Evl.ev_is (ev_callV (Evl.ea_cons (Evl.ev_var rfl) (Evl.ea_cons (Evl.ev_var rfl) (Evl.ea_cons (ev_add (Evl.ev_var rfl) Evl.ev_c) Evl.ea_nil))) sp_is_within) (congrArg V.bl (decide_eq_true ⟨wl, far⟩)))) fun H2 e2 => ?_
    have e2' := (e0.trans e1).trans e2
    refine q_ret (ev_notV (b := true) (ev_callV (Evl.ea_cons (Evl.ev_var rfl) (Evl.ea_cons (Evl.ev_var rfl) (Evl.ea_cons (ev_sub (Evl.ev_var rfl) Evl.ev_c) Evl.ea_nil))) (sp_rising (e2' _ _ hm) wf.asc (fun r hr => by have := wf.bnd r hr; omega) (by omega)))) fun H3 e3 => ?_
    have e3' := e2'.trans e3
    refine q_ret (ev_notV (b := true) (Evl.ev_is (ev_callV (Evl.ea_cons (Evl.ev_var rfl) (Evl.ea_cons Evl.ev_c (Evl.ea_cons Evl.ev_c Evl.ea_nil))) sp_is_within) (congrArg V.bl (decide_eq_true ⟨by omega, s1⟩)))) fun H4 e4 => ?_
    have e4' := e3'.trans e4
    refine q_ret (ev_notV (b := true) (ev_callV (Evl.ea_cons (Evl.ev_var rfl) (Evl.ea_cons (Evl.ev_var rfl) Evl.ea_nil)) (sp_ascending (e4' _ _ hb) wf.bl (by omega)))) fun H5 e5 => ?_
    have e5' := e4'.trans e5
    refine q_ret (ev_notV (b := true) (ev_callV (Evl.ea_cons (Evl.ev_var rfl) (Evl.ea_cons (Evl.ev_var rfl) Evl.ea_nil)) (sp_ascending (e5' _ _ ha) wf.ab (by omega)))) fun H6 e6 => ?_
    have e6' := e5'.trans e6
    have hx6 := ((((((e1.trans e2).trans e3).trans e4).trans e5).trans e6) _ _ hx)
    exact ⟨_, rfl, x, dx, [], rfl, hx6, rfl, _, rfl, _, rfl, _, rfl, _, rfl, _, rfl, _, rfl, x, dx, pm, pb, pa, H0, p, rfl, e6', x0, hx6, hm, hb, ha, wf, s1, mz, k⟩
theorem sc_has : FnScope ["lot", "number"] ["lot", "number"] (defScope sHas) := ⟨rfl, rfl, rfl, by decide +kernel, rfl, by decide +kernel, by decide +kernel⟩
theorem ok_has (T : Txt K mg) : Gd P w K mg base CX0 1 (He.ga K "has") ["lot", "number"] (spHas K) := by
  refine Fn.good T.f_has sc_has (fun _ _ _ _ _ _ us hl => match us, hl with | [_, _], _ => rfl) (fun vs H Q E h => ?_) (fun cdv A outer s H vs Q E hr h => ?_)
  · obtain ⟨v, l, n, rfl, _⟩ := h
    rfl
  · obtain ⟨v, l, n, rfl, L, s0, k⟩ := h
    refine ⟨_, (pss_cons (ps_if (pt_cmpR op_lt (pv 1) (kFld (K := K) rfl (pv 0) rfl) (nomark _)) (pss_one (ps_ret (pe_cmp (pc_din (hu_of hr) (pe_op op_mod (pv 1) (kFld (K := K) rfl (pv 0) rfl)) (kFld (K := K) rfl (pv 0) rfl))))) pss_nil)
      (pss_cons (ps_if (pt_cmpR op_lt (pv 1) (kFld (K := K) rfl (pv 0) rfl) (nomark _)) (pss_one (ps_ret (pe_cmp (pc_din (hu_of hr) (pv 1) (kFld (K := K) rfl (pv 0) rfl))))) pss_nil)
      (pss_one (ps_ret (pe_cmp (pc_din (hu_of hr) (pe_op op_mod (pv 1) (kFld (K := K) rfl (pv 0) rfl)) (kFld (K := K) rfl (pv 0) rfl))))))), ?_⟩
    refine Evl.q_when (et_lt (Evl.ev_var rfl) (ev_low L rfl)) (fun c H1 e1 => ?_) (fun c H1 e1 => ?_)
    · have z := fun H2 e2 => k H2 e2
      unfold P6.has at z
      rw [if_pos (of_decide_eq_true c)] at z
      exact s_retE (ev_inB (L.mono e1) rfl (ev_mod (Evl.ev_var rfl) (ev_step (L.mono e1) rfl) s0)) fun H2 e2 => z H2 (e1.trans e2)
    have L1 := L.mono e1
    refine Evl.q_when (et_lt (Evl.ev_var rfl) (ev_high L1 rfl)) (fun d H2 e2 => ?_) (fun d H2 e2 => ?_)
    · have z := fun H2 e2 => k H2 e2
      unfold P6.has at z
      rw [if_neg (of_decide_eq_false c), if_pos (of_decide_eq_true d)] at z
      exact s_retE (ev_inM (L1.mono e2) rfl (Evl.ev_var rfl)) fun H3 e3 => z H3 ((e1.trans e2).trans e3)
    · have z := fun H2 e2 => k H2 e2
      unfold P6.has at z
      rw [if_neg (of_decide_eq_false c), if_neg (of_decide_eq_false d)] at z
      have L2 := L1.mono e2
      exact s_retE (ev_inA L2 rfl (ev_mod (Evl.ev_var rfl) (ev_step L2 rfl) s0)) fun H3 e3 => z H3 ((e1.trans e2).trans e3)
theorem sc_is_in : FnScope ["lot", "thing"] ["lot", "thing"] (defScope sIsIn) := ⟨rfl, rfl, rfl, by decide +kernel, rfl, by decide +kernel, by decide +kernel⟩
theorem ok_is_in (T : Txt K mg) : Gd P w K mg base CX0 2 (He.ga K "is_in") ["lot", "thing"] (spHas K) := by
  have G_is_integer : Gd P w K mg base CX0 1 (He.ga K "is_integer") ["thing"] spIsInteger := ok_is_integer T
  have G_has : Gd P w K mg base CX0 1 (He.ga K "has") ["lot", "number"] (spHas K) := ok_has T
  refine Fn.good T.f_is_in sc_is_in (fun _ _ _ _ _ _ us hl => match us, hl with | [_, _], _ => rfl) (fun vs H Q E h => ?_) (fun cdv A outer s H vs Q E hr h => ?_)
  · obtain ⟨v, l, n, rfl, _⟩ := h
    rfl
  · obtain ⟨v, l, n, rfl, L, s0, k⟩ := h
    refine ⟨_, (pss_one (ps_ret (pe_and (pcl G_is_integer (hr.mono (by decide)) T.g_is_integer (pa_cons (pv 1) pa_nil)) (pe_one (pcl G_has (hr.mono (by decide)) T.g_has (pa_cons (pv 0) (pa_cons (pv 1) pa_nil))))))), ?_⟩
    exact s_retE (Evl.ev_is (Evl.ev_andV (a := true) (b := l.has n) (ev_callV (Evl.ea_cons (Evl.ev_var rfl) Evl.ea_nil) sp_is_integer) (fun _ => ev_callV (Evl.ea_cons (Evl.ev_var rfl) (Evl.ea_cons (Evl.ev_var rfl) Evl.ea_nil)) (sp_has L s0))) (by rw [Bool.true_and])) k
theorem sc_check_integer : FnScope ["thing"] ["thing"] (defScope sCheckInteger) := ⟨rfl, rfl, rfl, by decide +kernel, rfl, by decide +kernel, by decide +kernel⟩
theorem ok_check_integer (T : Txt K mg) : Gd P w K mg base CX0 2 (He.ga K "check_integer") ["thing"] spCheck := by
  have G_is_integer : Gd P w K mg base CX0 1 (He.ga K "is_integer") ["thing"] spIsInteger := ok_is_integer T
  refine Fn.good T.f_check_integer sc_check_integer (fun _ _ _ _ _ _ us hl => match us, hl with | [_], _ => rfl) (fun vs H Q E h => ?_) (fun cdv A outer s H vs Q E hr h => ?_)
  · obtain ⟨n, rfl, _⟩ := h
    rfl
  · obtain ⟨n, rfl, k⟩ := h
    refine ⟨_, (pss_one (ps_if (pt_not (pt_val (pcl G_is_integer (hr.mono (by decide)) T.g_is_integer (pa_cons (pv 0) pa_nil)))) (pss_one ps_never) pss_nil)), ?_⟩
    exact Evl.s_when (b := false) (ev_notV (b := true) (ev_callV (Evl.ea_cons (Evl.ev_var rfl) Evl.ea_nil) sp_is_integer)) (fun h => absurd h (by decide)) fun _ H1 e1 => k H1 e1
theorem gcd_few {a b : Int} (a0 : 0 < a) : 0 < (Nat.gcd a.natAbs b.natAbs : Int) ∧ (Nat.gcd a.natAbs b.natAbs : Int) ≤ a := by
  have h1 := Nat.gcd_pos_of_pos_left b.natAbs (show 0 < a.natAbs by omega)
  have h2 := Nat.gcd_le_left b.natAbs (show 0 < a.natAbs by omega)
  omega
theorem sc_common_multiple : FnScope ["lot", "second"] ["lot", "second"] (defScope sCommonMultiple) := ⟨rfl, rfl, rfl, by decide +kernel, rfl, by decide +kernel, by decide +kernel⟩
theorem ok_common_multiple (T : Txt K mg) : Gd P w K mg base CX0 2 (He.ga K "common_multiple") ["lot", "second"] (spLcm K) := by
  have G_common_divisor : Gd P w K mg base CX0 1 (He.ga K "common_divisor") ["one", "other"] spGcd := ok_common_divisor T
  refine Fn.good T.f_common_multiple sc_common_multiple (fun _ _ _ _ _ _ us hl => match us, hl with | [_, _], _ => rfl) (fun vs H Q E h => ?_) (fun cdv A outer s H vs Q E hr h => ?_)
  · obtain ⟨v, u, l, m, rfl, _⟩ := h
    rfl
  · obtain ⟨v, u, l, m, rfl, L, M, s0, s1, t0, t1, k⟩ := h
    refine ⟨_, (pss_one (ps_ret (pe_op op_fdiv (pe_op op_mul (kFld (K := K) rfl (pv 0) rfl) (kFld (K := K) rfl (pv 1) rfl)) (pcl G_common_divisor (hr.mono (by decide)) T.g_common_divisor (pa_cons (kFld (K := K) rfl (pv 0) rfl) (pa_cons (kFld (K := K) rfl (pv 1) rfl) pa_nil)))))), ?_⟩
    have g := gcd_few (a := l.st) (b := m.st) s0
    exact s_retE (ev_fdiv (ev_mul (ev_step L rfl) (ev_step M rfl) (.inl ⟨by omega, by omega⟩)) (ev_callV (Evl.ea_cons (ev_step L rfl) (Evl.ea_cons (ev_step M rfl) Evl.ea_nil)) sp_gcd) ⟨by omega, by omega⟩) k
end
end Nv
set_option linter.all false
set_option Elab.async false
/-! NvMath2: the lot of two lots. -/
namespace Nv
open PySem PySem.Spec PyProof.Rows L2
theorem lcmI_eq {a b : Int} (ha : 0 < a) (hb : 0 < b) : lcmI a b = (Nat.lcm a.natAbs b.natAbs : Nat) := by
  obtain ⟨x, rfl⟩ := Int.eq_ofNat_of_zero_le (Int.le_of_lt ha)
  obtain ⟨y, rfl⟩ := Int.eq_ofNat_of_zero_le (Int.le_of_lt hb)
  unfold lcmI Nat.lcm
  rw [Int.natAbs_natCast, Int.natAbs_natCast]
  rw [← Int.natCast_mul, Int.natCast_ediv]
theorem lcmI_pos {a b : Int} (ha : 0 < a) (hb : 0 < b) : 0 < lcmI a b := by
  rw [lcmI_eq ha hb]
  have := Nat.lcm_pos (m := a.natAbs) (n := b.natAbs) (by omega) (by omega)
  omega
theorem lcmI_left {a b : Int} (ha : 0 < a) (hb : 0 < b) : lcmI a b % a = 0 := by
  rw [lcmI_eq ha hb]
  refine Int.emod_eq_zero_of_dvd ?_
  have e : a = (a.natAbs : Int) := by omega
  rw [e, Int.natAbs_natCast]
  exact Int.natCast_dvd_natCast.mpr (Nat.dvd_lcm_left _ _)
theorem lcmI_right {a b : Int} (ha : 0 < a) (hb : 0 < b) : lcmI a b % b = 0 := by
  rw [lcmI_eq ha hb]
  refine Int.emod_eq_zero_of_dvd ?_
  have e : b = (b.natAbs : Int) := by omega
  rw [e, Int.natAbs_natCast]
  exact Int.natCast_dvd_natCast.mpr (Nat.dvd_lcm_right _ _)
theorem lcmI_self {a : Int} (ha : 0 < a) : lcmI a a = a := by
  rw [lcmI_eq ha ha, Nat.lcm_self]
  omega
def atLeast (least : Int) (a b : Bool) : Bool := decide (least ≤ b2i a + b2i b)
def mixR (least st : Int) (f g : Int → Bool) : List Int := (zR 0 1 st.toNat).filter fun r => atLeast least (f r) (g r)
def mixP (least : Int) (l m : P6) : P6 :=
  ⟨min l.low m.low, max l.high m.high, (zR (min l.low m.low) 1 (max l.high m.high - min l.low m.low).toNat).filter (fun n => atLeast least (l.has n) (m.has n)), lcmI l.st m.st,
   mixR least (lcmI l.st m.st) (inR l.bl l.st) (inR m.bl m.st), mixR least (lcmI l.st m.st) (inR l.ab l.st) (inR m.ab m.st)⟩
theorem zR_asc {lo : Int} {n : Nat} : (zR lo 1 n).Pairwise (· < ·) := by
  rw [List.pairwise_iff_getElem]
  intro i j hi hj hij
  rw [zR_len] at hi hj
  have e1 : (zR lo 1 n)[i]? = some (lo + (i : Int) * 1) := zR_get hi
  have e2 : (zR lo 1 n)[j]? = some (lo + (j : Int) * 1) := zR_get hj
  rw [List.getElem?_eq_getElem (by rw [zR_len]; exact hi)] at e1
  rw [List.getElem?_eq_getElem (by rw [zR_len]; exact hj)] at e2
  rw [Option.some.inj e1, Option.some.inj e2]
  omega
theorem mem_zR0 {z st : Int} : z ∈ zR 0 1 st.toNat ↔ 0 ≤ z ∧ z < st := by
  have := mem_zR1 (lo := 0) (hi := st) (z := z)
  rw [show st - 0 = st by omega] at this
  exact this
theorem mixR_rests {least st : Int} {f g : Int → Bool} : Rests st (mixR least st f g) :=
  ⟨zR_asc.sublist List.filter_sublist, fun r m => mem_zR0.mp (List.mem_filter.mp m).1⟩
theorem mixR_in {least st : Int} {f g : Int → Bool} {n : Int} (hs : 0 < st) : inR (mixR least st f g) st n = atLeast least (f (n % st)) (g (n % st)) := by
  unfold inR mixR
  have h1 := emod_lt' (a := n) hs
  have h0 := emod_nn (a := n) hs
  cases c : atLeast least (f (n % st)) (g (n % st)) with
  | true => exact decide_eq_true (List.mem_filter.mpr ⟨mem_zR0.mpr ⟨h0, h1⟩, c⟩)
  | false => exact decide_eq_false fun m => by rw [(List.mem_filter.mp m).2] at c; cases c
theorem inR_mod {rs : List Int} {st k n : Int} (h : st % k = 0) : inR rs k (n % st) = inR rs k n := by
  unfold inR
  rw [mod_mod_dvd h]
theorem mix_wf {least : Int} {l m : P6} (wl : l.Wf) (wm : m.Wf) : (mixP least l m).Wf := by
  have h1 := wl.le
  have h2 := wm.le
  refine ⟨?_, zR_asc.sublist List.filter_sublist, fun n h => mem_zR1.mp (List.mem_filter.mp h).1, lcmI_pos wl.pos wm.pos, mixR_rests, mixR_rests⟩
  show min l.low m.low ≤ max l.high m.high
  omega
theorem mix_has {least : Int} {l m : P6} (wl : l.Wf) (wm : m.Wf) (n : Int) : (mixP least l m).has n = atLeast least (l.has n) (m.has n) := by
  have h1 := wl.le
  have h2 := wm.le
  have p1 := lcmI_pos wl.pos wm.pos
  have e1 := lcmI_left wl.pos wm.pos
  have e2 := lcmI_right wl.pos wm.pos
  rw [P6.has]
  by_cases c1 : n < min l.low m.low
  · rw [if_pos (show n < (mixP least l m).low from c1)]
    rw [show inR (mixP least l m).bl (mixP least l m).st n = _ from mixR_in p1, inR_mod e1, inR_mod e2]
    unfold P6.has
    rw [if_pos (by omega), if_pos (by omega)]
  · rw [if_neg (show ¬ n < (mixP least l m).low from c1)]
    by_cases c2 : n < max l.high m.high
    · rw [if_pos (show n < (mixP least l m).high from c2)]
      cases c : atLeast least (l.has n) (m.has n) with
      | true => exact decide_eq_true (List.mem_filter.mpr ⟨mem_zR1.mpr ⟨by omega, c2⟩, c⟩)
      | false => exact decide_eq_false fun z => by rw [(List.mem_filter.mp z).2] at c; cases c
    · rw [if_neg (show ¬ n < (mixP least l m).high from c2)]
      rw [show inR (mixP least l m).ab (mixP least l m).st n = _ from mixR_in p1, inR_mod e1, inR_mod e2]
      have k1 : l.has n = inR l.ab l.st n := by
        unfold P6.has
        rw [if_neg (by omega), if_neg (by omega)]
      have k2 : m.has n = inR m.ab m.st n := by
        unfold P6.has
        rw [if_neg (by omega), if_neg (by omega)]
      rw [k1, k2]
end Nv
set_option Elab.async false
set_option linter.all false
set_option maxRecDepth 100000
set_option maxHeartbeats 4000000
/-! NvE: mixed. -/
namespace Nv
open PySem PySem.Spec PyProof.Rows L2
open Evl (Ev EvT EvL EvU EvA)
def spMixed (K : PySem.W.Frag) : Sp := fun vs H Q _ => ∃ v u l m least, vs = [v, u, .int least] ∧ LotV K H v l ∧ LotV K H u m ∧ l.Wf ∧ m.Wf ∧ l.st ≤ 4000 ∧ m.st ≤ 4000 ∧ lcmI l.st m.st ≤ 4000 ∧ max l.high m.high - min l.low m.low ≤ 100000 ∧
  ∀ x q H2, Ex H H2 → LotA H2 x (aRaw K) q → IsLeast (mixP least l m) q → Q (.ref x) H2
theorem zR_succ {lo c : Int} {n : Nat} : zR lo c (n + 1) = zR lo c n ++ [lo + (n : Int) * c] := by
  unfold zR
  rw [List.range_succ, List.map_append]
  rfl
theorem ev_addB {σ : L2.St} {H : Hp} {ta tb : TE} {a b : Bool} (ha : Ev ta σ H (.bl a)) (hb : Ev tb σ H (.bl b)) : Ev (tOp rAddB ta tb) σ H (.int (b2i a + b2i b)) := Evl.ev_op ha hb fun H1 _ Q q => ⟨a, b, rfl, rfl, q H1 (Evl.Ex.refl _)⟩
/-- what stands in the list of the rests behind i turns -/
def mixN (least : Int) (f g : Int → Bool) (i : Nat) : List Int := (zR 0 1 i).filter fun r => atLeast least (f r) (g r)
theorem mixN_yes {least : Int} {f g : Int → Bool} {i : Nat} (h : atLeast least (f (i : Int)) (g (i : Int)) = true) : mixN least f g (i + 1) = mixN least f g i ++ [(i : Int)] := by
  unfold mixN
  rw [zR_succ, List.filter_append, show (0 : Int) + (i : Int) * 1 = (i : Int) by omega, List.filter_cons, if_pos h]
  rfl
theorem mixN_no {least : Int} {f g : Int → Bool} {i : Nat} (h : atLeast least (f (i : Int)) (g (i : Int)) = false) : mixN least f g (i + 1) = mixN least f g i := by
  unfold mixN
  rw [zR_succ, List.filter_append, show (0 : Int) + (i : Int) * 1 = (i : Int) by omega, List.filter_cons, if_neg (by rw [h]; decide)]
  rw [show (List.filter (fun r => atLeast least (f r) (g r)) ([] : List Int)) = [] from rfl, List.append_nil]
theorem mixN_len {least : Int} {f g : Int → Bool} {i : Nat} : (mixN least f g i).length ≤ i := by
  have z := List.length_filter_le (fun r => atLeast least (f r) (g r)) (zR 0 1 i)
  rw [zR_len] at z
  exact z
theorem vI_snoc {ns : List Int} {z : Int} : vI ns ++ [V.int z] = vI (ns ++ [z]) := by
  unfold vI
  rw [List.map_append]
  rfl
section
variable {P : Program} {w : World} {K : PySem.W.Frag} {mg : Str → Option Value} {base : Heap}
theorem sc_mixed : FnScope ["lot", "second", "least", "step", "low", "high", "members", "below", "above", "rest", "one", "other", "number"] ["lot", "second", "least"] (defScope sMixed) := ⟨rfl, rfl, rfl, by decide +kernel, rfl, by decide +kernel, by decide +kernel⟩
theorem ok_mixed (T : Txt K mg) : Gd P w K mg base CX0 7 (He.ga K "mixed") ["lot", "second", "least"] (spMixed K) := by
  have G_has : Gd P w K mg base CX0 1 (He.ga K "has") ["lot", "number"] (spHas K) := ok_has T
  have G_common_multiple : Gd P w K mg base CX0 2 (He.ga K "common_multiple") ["lot", "second"] (spLcm K) := ok_common_multiple T
  have G_RawLot : Gd P w K mg base CX0 5 (He.ma K (aRaw K) "__init__") ["self", "low", "high", "members", "step", "below", "above"] (spKeep (aRaw K)) := ok_RawLot T
  refine Fn.good T.f_mixed sc_mixed (fun _ _ _ _ _ _ us hl => match us, hl with | [_, _, _], _ => rfl) (fun vs H Q E h => ?_) (fun cdv A outer s H vs Q E hr h => ?_)
  · obtain ⟨v, u, l, m, least, rfl, _⟩ := h
    rfl
  · obtain ⟨v, u, l, m, least, rfl, L, M, wl, wm, l1, m1, c1, sp, k⟩ := h
    refine ⟨_, (pss_cons (ps_set (i := 3) sc_mixed.nd rfl (Or.inl rfl) (pcl G_common_multiple (hr.mono (by decide)) T.g_common_multiple (pa_cons (pv 0) (pa_cons (pv 1) pa_nil))))
      (pss_cons (ps_set (i := 4) sc_mixed.nd rfl (Or.inl rfl) (pe_callB (call_min2 rfl) (by rfl) T.n_min (by decide +kernel) (pa_cons (kFld (K := K) rfl (pv 0) rfl) (pa_cons (kFld (K := K) rfl (pv 1) rfl) pa_nil))))
      (pss_cons (ps_set (i := 5) sc_mixed.nd rfl (Or.inl rfl) (pe_callB (call_max2 rfl) (by rfl) T.n_max (by decide +kernel) (pa_cons (kFld (K := K) rfl (pv 0) rfl) (pa_cons (kFld (K := K) rfl (pv 1) rfl) pa_nil))))
      (pss_cons (ps_set (i := 6) sc_mixed.nd rfl (Or.inl rfl) (pe_callTy call_tuple_of (by rfl) T.n_tuple (by decide +kernel) (pa_cons (pe_lc (own := [("number", 12)]) (g := gName 12) rfl sc_mixed.nd (pi_rangeW2 (by rfl) T.n_range (pa_cons (pv 4) (pa_cons (pv 5) pa_nil))) (blkOk_by (N := ["lot", "second", "least", "step", "low", "high", "members", "below", "above", "rest", "one", "other", "number"]) (sc := defScope sMixed) (by decide +kernel)) (fun _ _ _ _ _ => pg_name (i := 12) sc_mixed.nd rfl (Or.inl rfl)) (fun _ _ _ _ _ => pts_one (pt_cmpR op_ge (pe_op op_addB (pcl G_has (hr.mono (by decide)) T.g_has (pa_cons (pv 0) (pa_cons (pv 12) pa_nil))) (pcl G_has (hr.mono (by decide)) T.g_has (pa_cons (pv 1) (pa_cons (pv 12) pa_nil)))) (pv 2) (nomark _))) (fun _ _ _ _ _ => (pv 12))) pa_nil)))
      (pss_cons (ps_set (i := 7) sc_mixed.nd rfl (Or.inl rfl) (pe_lst pa_nil))
      (pss_cons (ps_set (i := 8) sc_mixed.nd rfl (Or.inl rfl) (pe_lst pa_nil))
      (pss_cons (ps_for PassesOwn.never rfl (pi_range1 (by rfl) T.n_range (pa_cons (pv 3) pa_nil)) (pg_name (i := 9) sc_mixed.nd rfl (Or.inl rfl)) (pss_cons (ps_set (i := 10) sc_mixed.nd rfl (Or.inl rfl) (pe_op op_mod (pv 9) (kFld (K := K) rfl (pv 0) rfl)))
      (pss_cons (ps_set (i := 11) sc_mixed.nd rfl (Or.inl rfl) (pe_op op_mod (pv 9) (kFld (K := K) rfl (pv 1) rfl)))
      (Evl.pss_cut (ps_if (pt_cmpR op_ge (pe_op op_addB (pe_cmp (pc_din (hu_of hr) (pv 10) (kFld (K := K) rfl (pv 0) rfl))) (pe_cmp (pc_din (hu_of hr) (pv 11) (kFld (K := K) rfl (pv 1) rfl)))) (pv 2) (nomark _)) (pss_one (ps_expr (pe_bm PySem.F.plainAttrs_list PySem.F.slot_list_append PySem.F.type_list_append mt_append (pv 7) (pa_cons (pv 9) pa_nil)))) pss_nil)
      (pss_one (ps_if (pt_cmpR op_ge (pe_op op_addB (pe_cmp (pc_din (hu_of hr) (pv 10) (kFld (K := K) rfl (pv 0) rfl))) (pe_cmp (pc_din (hu_of hr) (pv 11) (kFld (K := K) rfl (pv 1) rfl)))) (pv 2) (nomark _)) (pss_one (ps_expr (pe_bm PySem.F.plainAttrs_list PySem.F.slot_list_append PySem.F.type_list_append mt_append (pv 8) (pa_cons (pv 9) pa_nil)))) pss_nil))))))
      (pss_one (ps_ret (pmk T.mk_RawLot G_RawLot (hr.mono (by decide)) T.g_RawLot (pa_cons (pv 4) (pa_cons (pv 5) (pa_cons (pv 6) (pa_cons (pv 3) (pa_cons (pe_callTy call_tuple_of (by rfl) T.n_tuple (by decide +kernel) (pa_cons (pv 7) pa_nil)) (pa_cons (pe_callTy call_tuple_of (by rfl) T.n_tuple (by decide +kernel) (pa_cons (pv 8) pa_nil)) pa_nil)))))))))))))))), ?_⟩
    have l0 := wl.pos
    have m0 := wm.pos
    have c0 := lcmI_pos l0 m0
    refine Evl.q_asg (ev_callV (Evl.ea_cons (Evl.ev_var rfl) (Evl.ea_cons (Evl.ev_var rfl) Evl.ea_nil)) (sp_lcm L M l0 l1 m0 m1)) fun H1 e1 => ?_
    refine Evl.q_asg (ev_min2 (ev_low (L.mono e1) rfl) (ev_low (M.mono e1) rfl)) fun H2 e2 => ?_
    have e2 := e1.trans e2
    refine Evl.q_asg (ev_max2 (ev_high (L.mono e2) rfl) (ev_high (M.mono e2) rfl)) fun H3 e3 => ?_
    have e3 := e2.trans e3
    have L3 := L.mono e3
    have M3 := M.mono e3
    refine Evl.q_asgU (xs := vI (mixP least l m).ms) (eu_tuple (el_W2 (lo := min l.low m.low) (hi := max l.high m.high) (fun n => atLeast least (l.has n) (m.has n)) V.int (Evl.ea_cons (Evl.ev_var rfl) (Evl.ea_cons (Evl.ev_var rfl) Evl.ea_nil)) (by rw [sizeLine_eq]; omega) (fun x => rfl) (fun z Hz _ ez => ?_) (fun z Hz _ ez _ => Evl.ev_var rfl))) fun pm H4 _ e4 hm => ?_
    · exact et_ge (ev_addB (ev_callV (Evl.ea_cons (Evl.ev_var rfl) (Evl.ea_cons (Evl.ev_var rfl) Evl.ea_nil)) (sp_has (L3.mono ez) l0)) (ev_callV (Evl.ea_cons (Evl.ev_var rfl) (Evl.ea_cons (Evl.ev_var rfl) Evl.ea_nil)) (sp_has (M3.mono ez) m0))) (Evl.ev_var rfl)
    have e4' := e3.trans e4
    refine Evl.q_asgL (xs := vI []) (Evl.el_lst Evl.ea_nil (by decide)) fun p1 H5 f1 e5 h1 => ?_
    refine Evl.q_asgL (xs := vI []) (Evl.el_lst Evl.ea_nil (by decide)) fun p2 H6 f2 e6 h2 => ?_
    have h1' := e6 _ _ h1
    have ne : p1 ≠ p2 := ne_of_none h1 f2
    have f2' : H4 p2 = none := Ex.free e5 f2
    refine Evl.q_forR1 (j := 9) (Evl.ea_cons (Evl.ev_var rfl) Evl.ea_nil) (by omega) (fun i σ' H' => ∃ a b c, σ' = [some v, some u, some (.int least), some (.int (lcmI l.st m.st)), some (.int (min l.low m.low)), some (.int (max l.high m.high)), some (.ref pm), some (.ref p1), some (.ref p2), a, b, c, none] ∧ Ex H4 H' ∧
      H' p1 = some (.lst (vI (mixN least (inR l.bl l.st) (inR m.bl m.st) i))) ∧ H' p2 = some (.lst (vI (mixN least (inR l.ab l.st) (inR m.ab m.st) i)))) (fun H7 e7 => ⟨none, none, none, rfl, (e5.trans e6).trans e7, e7 _ _ h1', e7 _ _ h2⟩) ?_ ?_
    · rintro i σ' H' hi ⟨a, b, c, rfl, e7, q1, q2⟩
      have L7 := (L.mono e4').mono e7
      have M7 := (M.mono e4').mono e7
      refine Evl.q_asg (ev_mod (Evl.ev_var rfl) (ev_step L7 rfl) l0) fun H8 e8 => ?_
      refine Evl.q_asg (ev_mod (Evl.ev_var rfl) (ev_step (M7.mono e8) rfl) m0) fun H9 e9 => ?_
      have e9 := e8.trans e9
      refine Evl.q_cut (M := fun σ2 H2 => σ2 = [some v, some u, some (.int least), some (.int (lcmI l.st m.st)), some (.int (min l.low m.low)), some (.int (max l.high m.high)), some (.ref pm), some (.ref p1), some (.ref p2), some (.int (i : Int)), some (.int ((i : Int) % l.st)), some (.int ((i : Int) % m.st)), none] ∧ Ex H4 H2 ∧
        H2 p1 = some (.lst (vI (mixN least (inR l.bl l.st) (inR m.bl m.st) (i + 1)))) ∧ H2 p2 = some (.lst (vI (mixN least (inR l.ab l.st) (inR m.ab m.st) i)))) ?_ ?_
      · refine Evl.s_when (et_ge (ev_addB (ev_inB (L7.mono e9) rfl (Evl.ev_var rfl)) (ev_inB (M7.mono e9) rfl (Evl.ev_var rfl))) (Evl.ev_var rfl)) (fun d H10 e10 => ?_) (fun d H10 e10 => ?_)
        · refine Evl.s_app (e10 _ _ (e9 _ _ q1)) (Evl.ev_var rfl) (Evl.ev_var rfl) (by have := mixN_len (least := least) (f := inR l.bl l.st) (g := inR m.bl m.st) (i := i); rw [vI_len]; omega) fun H11 e11 => ⟨rfl, Ex.mut (((e7.trans e9).trans e10).trans e11) f1, ?_, ?_⟩
          · rw [vI_snoc, mixN_yes (f := inR l.bl l.st) (g := inR m.bl m.st) d]
            exact upd_same
          · rw [upd_ne (Ne.symm ne)]
            exact e11 _ _ (e10 _ _ (e9 _ _ q2))
        · refine ⟨rfl, (e7.trans e9).trans e10, ?_, e10 _ _ (e9 _ _ q2)⟩
          rw [mixN_no (f := inR l.bl l.st) (g := inR m.bl m.st) d]
          exact e10 _ _ (e9 _ _ q1)
      · rintro σ2 H10 ⟨rfl, e10, r1, r2⟩
        have L8 := (L.mono e4').mono e10
        have M8 := (M.mono e4').mono e10
        refine Evl.s_when (et_ge (ev_addB (ev_inA L8 rfl (Evl.ev_var rfl)) (ev_inA M8 rfl (Evl.ev_var rfl))) (Evl.ev_var rfl)) (fun d H11 e11 => ?_) (fun d H11 e11 => ?_)
        · refine Evl.s_app (e11 _ _ r2) (Evl.ev_var rfl) (Evl.ev_var rfl) (by have := mixN_len (least := least) (f := inR l.ab l.st) (g := inR m.ab m.st) (i := i); rw [vI_len]; omega) fun H12 e12 => ⟨_, _, _, rfl, Ex.mut ((e10.trans e11).trans e12) f2', ?_, ?_⟩
          · rw [upd_ne ne]
            exact e12 _ _ (e11 _ _ r1)
          · rw [vI_snoc, mixN_yes (f := inR l.ab l.st) (g := inR m.ab m.st) d]
            exact upd_same
        · refine ⟨_, _, _, rfl, e10.trans e11, e11 _ _ r1, ?_⟩
          rw [mixN_no (f := inR l.ab l.st) (g := inR m.ab m.st) d]
          exact e11 _ _ r2
    · rintro σ' H' ⟨a, b, c, rfl, e7, q1, q2⟩
      refine u_ret (u_make ⟨_, rfl, _, rfl, _, rfl, _, rfl, ?_⟩)
      refine u_cons (eu_tupleV (xs := vI (mixP least l m).bl) (Evl.ev_var rfl) q1 _ (Evl.Ex.refl _) _ fun pb H8 _ e8 hb => ?_)
      refine u_cons (eu_tupleV (xs := vI (mixP least l m).ab) (Evl.ev_var rfl) (e8 _ _ q2) _ (Evl.Ex.refl _) _ fun pa H9 _ e9 ha => ?_)
      intro x dx hx hd _
      refine keep_make (H := H9) (p := mixP least l m) (Evl.Ex.refl _) hx hd ((e7.trans (e8.trans e9)) _ _ hm) (e9 _ _ hb) ha (mix_wf wl wm) c1 ?_ fun q H10 e10 A isL => ⟨rfl, k x q H10 ?_ A isL⟩
      · have z := List.length_filter_le (fun n => atLeast least (l.has n) (m.has n)) (zR (min l.low m.low) 1 (max l.high m.high - min l.low m.low).toNat)
        rw [zR_len] at z
        rw [sizeLine_eq]
        show (List.filter _ _).length < _
        omega
      · exact (((e4'.trans e7).trans e8).trans e9).trans e10
end
end Nv
set_option Elab.async false
set_option linter.all false
set_option maxRecDepth 100000
set_option maxHeartbeats 2000000
/-! NvLoop: loops over a dict's keys under a lock, over ranges of any size, over sorted(..). -/
namespace Nv
open PySem PySem.Spec PyProof.Rows L2
open Evl (Ev EvT EvL EvU EvA)
def kvsV (v : V) (ns : List Int) : List (Key × V) := ns.map fun k => ((Sum.inl k : Key), v)
theorem kvsV_len {v : V} {ns : List Int} : (kvsV v ns).length = ns.length := List.length_map _
theorem kvsV_get {v : V} {ns : List Int} {i : Nat} {p : Key × V} (h : (kvsV v ns)[i]? = some p) : ∃ z, ns[i]? = some z ∧ p = ((Sum.inl z : Key), v) := by
  unfold kvsV at h
  rw [List.getElem?_map] at h
  cases e : ns[i]? with
  | none => rw [e] at h; cases h
  | some z => rw [e] at h; exact ⟨z, rfl, (Option.some.inj h).symm⟩
theorem kvsOf_V (ns : List Int) : kvsOf ns = kvsV (.bl true) ns := rfl
theorem valV_kvsV (v : V) (n : Int) : ∀ ns : List Int, valV (kvsV v ns) (Sum.inl n : Key) = if n ∈ ns then some v else none
  | [] => rfl
  | a :: r => by
    have ih := valV_kvsV v n r
    unfold kvsV at ih ⊢
    rw [List.map_cons]
    by_cases e : a = n
    · subst e
      rw [valV_pos rfl]; simp
    · rw [valV_neg (fun q => e (Sum.inl.inj q)), ih]
      simp [Ne.symm e]
theorem kvsV_put {v : V} {ns : List Int} {i : Nat} {z : Int} (hn : ns.Nodup) (h : ns[i]? = some z) : putK (kvsV v (ns.take i)) (Sum.inl z : Key) v = kvsV v (ns.take (i + 1)) ∧ z ∉ ns.take i := by
  have nm : z ∉ ns.take i := fun m => by
    obtain ⟨j, hj, e⟩ := List.mem_take_iff_getElem.mp m
    have hi := (List.getElem?_eq_some_iff.mp h)
    obtain ⟨hi1, hi2⟩ := hi
    have := (List.getElem_inj hn).mp (e.trans hi2.symm)
    omega
  have hnew : valV (kvsV v (ns.take i)) (Sum.inl z : Key) = none := by rw [valV_kvsV, if_neg nm]
  refine ⟨?_, nm⟩
  rw [putK_new _ hnew, take_more h]
  unfold kvsV
  rw [List.map_append]
  rfl
section
variable {K : PySem.W.Frag} {σ : L2.St} {H H' : Hp} {te : TE} {t : TT} {ns : List Int} {j i : Nat} {vs : List Nat} {D : Ends} {tu tz : TS} {g : TG}
/-- over the keys of a locked dict -/
theorem for_keys {d : Addr} {o : Obj} {kvs : List (Key × V)} (Pv : Nat → L2.St → Hp → Prop) (h0 : Pv 0 σ H) (hl : ∀ i σ H, Pv i σ H → H d = some (.frz o (.dK kvs)))
    (hs : ∀ i k v σ H, kvs[i]? = some (k, v) → Pv i σ H → g (kV k) σ H fun σ2 H2 => tu { D with nx := Pv (i + 1), ct := Pv (i + 1), bk := D.nx } σ2 H2) (hd : ∀ σ H, Pv kvs.length σ H → D.nx σ H) :
    ∃ W : Nat → Nat → L2.St → Hp → Prop, (∃ m, W 0 m σ H) ∧ ∀ i m σ H, W i m σ H →
      ((Itk d o kvs).stop i H ∧ D.nx σ H) ∨ ((Itk d o kvs).go i H ∧ ∃ N : L2.St → Hp → Prop, (∀ σ' H', N σ' H' → ∃ m', m' < m ∧ W (i + 1) m' σ' H') ∧ ∀ x H', (Itk d o kvs).yld i H x H' → g x σ H' fun σ2 H2 => tu { D with nx := N, ct := N, bk := D.nx } σ2 H2) := by
  refine ⟨fun i m σ H => m + i = kvs.length ∧ Pv i σ H, ⟨kvs.length, rfl, h0⟩, ?_⟩
  rintro i m σ H ⟨hm, p⟩
  have q := hl i σ H p
  rcases Nat.lt_or_ge i kvs.length with lt | ge
  · refine .inr ⟨⟨q, lt⟩, Pv (i + 1), fun σ' H' p' => ⟨m - 1, by omega, by omega, p'⟩, ?_⟩
    rintro x H' ⟨rfl, k, v, hk, rfl⟩
    exact hs i k v σ _ hk p
  · obtain rfl : i = kvs.length := by omega
    exact .inl ⟨⟨q, Nat.le_refl _⟩, hd σ H p⟩
theorem frz_ex {d : Addr} {od : Obj} {u : HO} (h : H d = some u) (e : Ex (upd H d (.frz od u)) H') : Ex H (upd H' d u) := fun a o ha => by
  by_cases c : a = d
  · subst c
    rw [h] at ha
    rw [upd_same]
    exact ha
  · rw [upd_ne c]
    exact e a o (by rw [upd_ne c]; exact ha)
theorem frz_at {d a : Addr} {od : Obj} {u o : HO} (h : H d = some u) (n : ∀ b, o ≠ .frz od b) (hne : u ≠ o) (ha : H a = some o) : (upd H d (.frz od u)) a = some o := by
  by_cases c : a = d
  · subst c
    rw [h] at ha
    exact absurd (Option.some.inj ha) hne
  · rw [upd_ne c]
    exact ha
/-- [.. for x in d ..] of a dict's keys -/
theorem el_K {d : Addr} (f : Int → Bool) (v : Int → V) (hs : σ[i]? = some (some (.ref d))) (hx : H d = some (.dK (kvsOf ns))) (hz : ns.length < sizeLine) (hw : ∀ x, wipe ((wipe σ vs).set j (some x)) vs = wipe σ vs)
    (ht : ∀ z od H1, z ∈ ns → Ex (upd H d (.frz od (.dK (kvsOf ns)))) H1 → EvT t ((wipe σ vs).set j (some (.int z))) H1 (f z)) (he : ∀ z od H1, z ∈ ns → Ex (upd H d (.frz od (.dK (kvsOf ns)))) H1 → f z = true → Ev te ((wipe σ vs).set j (some (.int z))) H1 (v z)) :
    EvL (tLockE (tLc (iKeys (tVar i)) (gName j) t te vs)) σ H ((ns.filter f).map v) := fun H0 e Q q => ⟨d, .dK (kvsOf ns), e _ _ hx, trivial, fun od => by
  have hx0 := e _ _ hx
  have up : ∀ {H2}, Ex (upd H0 d (.frz od (.dK (kvsOf ns)))) H2 → Ex (upd H d (.frz od (.dK (kvsOf ns)))) H2 := fun {H2} e2 a o ha => by
    by_cases c : a = d
    · subst c
      rw [upd_same] at ha
      exact e2 _ _ (by rw [upd_same]; exact ha)
    · rw [upd_ne c] at ha
      exact e2 _ _ (by rw [upd_ne c]; exact e _ _ ha)
  refine ⟨_, hs, d, od, rfl, .inl ⟨kvsOf ns, upd_same, fun D hD => ?_⟩⟩
  have hD0 : H0 D = none := by
    by_cases c : D = d
    · subst c
      rw [upd_same] at hD
      cases hD
    · rw [upd_ne c] at hD
      exact hD
  have nD : D ≠ d := fun c => by rw [c, hx0] at hD0; cases hD0
  refine ⟨fun i m H => m + i = (kvsOf ns).length ∧ Cw (upd H0 d (.frz od (.dK (kvsOf ns)))) ns f v D i H, ⟨_, rfl, cw_start hD⟩, ?_⟩
  rintro i m Hc ⟨hm, p⟩
  have hfz : Hc d = some (.frz od (.dK (kvsOf ns))) := p.2.1 _ _ upd_same
  rcases Nat.lt_or_ge i (kvsOf ns).length with lt | ge
  · refine .inr ⟨⟨hfz, lt⟩, Cw (upd H0 d (.frz od (.dK (kvsOf ns)))) ns f v D (i + 1), fun H' p' => ⟨m - 1, by omega, by omega, p'⟩, ?_⟩
    rintro x H' ⟨rfl, k, u, hk, rfl⟩
    obtain ⟨z, hz1, ee⟩ := kvsV_get (v := .bl true) hk
    cases ee
    have hm : z ∈ ns := List.mem_of_getElem? hz1
    refine ⟨hw _, cw_turn p hz hz1 ?_ ?_⟩
    · exact ht z od _ hm (up (Evl.Ex.refl _))
    · exact fun hf => he z od _ hm (up (Evl.Ex.refl _)) hf
  · obtain rfl : i = (kvsOf ns).length := by omega
    refine .inl ⟨⟨hfz, Nat.le_refl _⟩, hfz, q D _ hD0 (frz_ex hx0 p.2.1) ?_⟩
    rw [upd_ne nD, p.2.2, show (kvsOf ns).length = ns.length from kvsV_len (v := .bl true), List.take_length]⟩
/-- for x in range(i, j), of any size -/
theorem s_forW2 {ta : TA} {lo hi : Int} (h : EvA ta σ H [.int lo, .int hi]) (Pv : Nat → L2.St → Hp → Prop) (h0 : ∀ H1, Ex H H1 → Pv 0 σ H1)
    (hs : ∀ (i : Nat) σ' H', lo + (i : Int) < hi → Pv i σ' H' → tu { D with nx := Pv (i + 1), ct := Pv (i + 1), bk := D.nx } (σ'.set j (some (.int (lo + (i : Int))))) H') (hd : ∀ σ' H', Pv (hi - lo).toNat σ' H' → D.nx σ' H') : tFor (iRngW2 ta) (gName j) tu D σ H :=
  h H (Evl.Ex.refl H) _ fun H1 e => ⟨lo, hi, rfl, for_rangeC (lo := lo) (c := 1) (n := (hi - lo).toNat) Pv (h0 H1 e) (fun i σ' H' hi p => by
    have z := hs i σ' H' (by omega) p
    show tu { D with nx := Pv (i + 1), ct := Pv (i + 1), bk := D.nx } (σ'.set j (some (.int (lo + (i : Int) * 1)))) H'
    rw [Int.mul_one]
    exact z) hd⟩
theorem q_forW2 {ta : TA} {lo hi : Int} (h : EvA ta σ H [.int lo, .int hi]) (Pv : Nat → L2.St → Hp → Prop) (h0 : ∀ H1, Ex H H1 → Pv 0 σ H1)
    (hs : ∀ (i : Nat) σ' H', lo + (i : Int) < hi → Pv i σ' H' → tu { D with nx := Pv (i + 1), ct := Pv (i + 1), bk := tz D } (σ'.set j (some (.int (lo + (i : Int))))) H') (hd : ∀ σ' H', Pv (hi - lo).toNat σ' H' → tz D σ' H') : tSeq (tFor (iRngW2 ta) (gName j) tu) tz D σ H :=
  s_forW2 (D := { D with nx := tz D }) h Pv h0 hs hd
theorem evp_sorted (h : EvL te σ H (vI ns)) (hz : ns.length < 64) : EvP (tCB (rSorted K) (tCons te tNil)) σ H (fun v H1 => ∃ ms, Ls H1 v ms ∧ ms.Perm ns ∧ ms.Pairwise (· ≤ ·)) := fun H1 e Q q =>
  h H1 e _ fun p H2 _ e2 hp => ⟨p, ns, rfl, SqL.of hp, hz, fun ms l h1 h2 hl => q _ _ (Ex.step e2 hl) ⟨ms, ⟨l, rfl, upd_same⟩, h1, h2⟩⟩
/-- over a list told by a word -/
theorem s_forP {C : List Int → Prop} (h : EvP te σ H (fun v H1 => ∃ ms, Ls H1 v ms ∧ C ms))
    (k : ∀ a ms H1, Ex H H1 → H1 a = some (.lst (vI ms)) → C ms → ∃ Pv : Nat → L2.St → Hp → Prop, Pv 0 σ H1 ∧ (∀ i σ' H', i ≤ ms.length → Pv i σ' H' → H' a = some (.lst (vI ms))) ∧
      (∀ i z σ' H', ms[i]? = some z → Pv i σ' H' → tu { D with nx := Pv (i + 1), ct := Pv (i + 1), bk := D.nx } (σ'.set j (some (.int z))) H') ∧ (∀ σ' H', Pv ms.length σ' H' → D.nx σ' H')) : tFor (iList K te) (gName j) tu D σ H :=
  h H (Evl.Ex.refl H) _ fun v H1 e ⟨ms, ⟨a, ev, ha⟩, hc⟩ => by
    subst ev
    obtain ⟨Pv, p0, pl, ps, pd⟩ := k a ms H1 e ha hc
    refine ⟨a, rfl, ⟨vI ms, SqL.of ha⟩, for_list (xs := vI ms) Pv p0 (fun i σ' H' hi p => SqL.of (pl i σ' H' (by rw [vI_len] at hi; exact hi) p)) (fun i x σ' H' hi p => ?_) (fun σ' H' p => pd σ' H' (by rw [vI_len] at p; exact p))⟩
    obtain ⟨z, hz, rfl⟩ := vI_get hi
    exact ps i z σ' H' hz p
theorem q_forP {C : List Int → Prop} (h : EvP te σ H (fun v H1 => ∃ ms, Ls H1 v ms ∧ C ms))
    (k : ∀ a ms H1, Ex H H1 → H1 a = some (.lst (vI ms)) → C ms → ∃ Pv : Nat → L2.St → Hp → Prop, Pv 0 σ H1 ∧ (∀ i σ' H', i ≤ ms.length → Pv i σ' H' → H' a = some (.lst (vI ms))) ∧
      (∀ i z σ' H', ms[i]? = some z → Pv i σ' H' → tu { D with nx := Pv (i + 1), ct := Pv (i + 1), bk := tz D } (σ'.set j (some (.int z))) H') ∧ (∀ σ' H', Pv ms.length σ' H' → tz D σ' H')) : tSeq (tFor (iList K te) (gName j) tu) tz D σ H :=
  s_forP (D := { D with nx := tz D }) h k
/-- over a tuple of ints that stands -/
theorem s_forTI {a : Addr} {tl : TE} (h : Ev tl σ H (.ref a)) (hx : H a = some (.tup (vI ns))) (Pv : Nat → L2.St → Hp → Prop) (h0 : ∀ H1, Ex H H1 → Pv 0 σ H1) (hl : ∀ i σ' H', i ≤ ns.length → Pv i σ' H' → H' a = some (.tup (vI ns)))
    (hs : ∀ i z σ' H', ns[i]? = some z → Pv i σ' H' → tu { D with nx := Pv (i + 1), ct := Pv (i + 1), bk := D.nx } (σ'.set j (some (.int z))) H') (hd : ∀ σ' H', Pv ns.length σ' H' → D.nx σ' H') : tFor (iTup K tl) (gName j) tu D σ H :=
  Evl.s_forT h (SqT.of hx) Pv h0 (fun i σ' H' hi p => SqT.of (hl i σ' H' (by rw [vI_len] at hi; exact hi) p)) (fun i x σ' H' hi p => by
    obtain ⟨z, hz, rfl⟩ := vI_get hi
    exact hs i z σ' H' hz p) (fun σ' H' p => hd σ' H' (by rw [vI_len] at p; exact p))
theorem q_forTI {a : Addr} {tl : TE} (h : Ev tl σ H (.ref a)) (hx : H a = some (.tup (vI ns))) (Pv : Nat → L2.St → Hp → Prop) (h0 : ∀ H1, Ex H H1 → Pv 0 σ H1) (hl : ∀ i σ' H', i ≤ ns.length → Pv i σ' H' → H' a = some (.tup (vI ns)))
    (hs : ∀ i z σ' H', ns[i]? = some z → Pv i σ' H' → tu { D with nx := Pv (i + 1), ct := Pv (i + 1), bk := tz D } (σ'.set j (some (.int z))) H') (hd : ∀ σ' H', Pv ns.length σ' H' → tz D σ' H') : tSeq (tFor (iTup K tl) (gName j) tu) tz D σ H :=
  s_forTI (D := { D with nx := tz D }) h hx Pv h0 hl hs hd
end
end Nv
set_option Elab.async false
set_option linter.all false
set_option maxRecDepth 100000
set_option maxHeartbeats 4000000
/-! NvF: is_fitting, out_between, next_out_above, is_part_of, is_part of a lot and itself. -/
namespace Nv
open PySem PySem.Spec PyProof.Rows L2
open Evl (Ev EvT EvL EvU EvA)
def spFit : Sp := fun vs H Q _ => ∃ (d b : Addr) (ns : List Int) (st : Int), vs = [.ref d, .int st, .ref b, .int st, .int 0] ∧ H d = some (.dK (kvsOf ns)) ∧ H b = some (.dK (kvsOf ns)) ∧ Rests st ns ∧ 0 < st ∧ st ≤ 4000 ∧ ∀ H2, Ex H H2 → Q (.bl true) H2
def spOut (K : PySem.W.Frag) : Sp := fun vs H Q _ => ∃ (v e : V) (l : P6) (at_ : Int), vs = [v, v, .int 0, .int at_, e] ∧ LotV K H v l ∧ l.Wf ∧ l.st ≤ 4000 ∧ l.ms.length < sizeLine ∧ ((∃ z, e = .int z) ∨ (e = .non ∧ l.high ≤ at_)) ∧ ∀ H2, Ex H H2 → Q .non H2
def spNextOut (K : PySem.W.Frag) : Sp := fun vs H Q _ => ∃ (v : V) (l : P6) (n : Int), vs = [v, v, .int 0, .int n] ∧ LotV K H v l ∧ l.Wf ∧ l.st ≤ 4000 ∧ l.ms.length < sizeLine ∧ ∀ H2, Ex H H2 → Q .non H2
def spPartOf (K : PySem.W.Frag) : Sp := fun vs H Q _ => ∃ (v : V) (l : P6), vs = [v, v, .int 0] ∧ LotV K H v l ∧ l.Wf ∧ l.st ≤ 4000 ∧ l.ms.length < sizeLine ∧ ∀ H2, Ex H H2 → Q (.bl true) H2
def spPart (K : PySem.W.Frag) : Sp := fun vs H Q _ => ∃ (v : V) (l : P6), vs = [v, v] ∧ LotV K H v l ∧ l.Wf ∧ l.st ≤ 4000 ∧ l.ms.length < sizeLine ∧ ∀ H2, Ex H H2 → Q (.bl true) H2
theorem sp_fit {H : Hp} {d b : Addr} {ns : List Int} {st : Int} (hd : H d = some (.dK (kvsOf ns))) (hb : H b = some (.dK (kvsOf ns))) (r : Rests st ns) (s0 : 0 < st) (s1 : st ≤ 4000) : SpP spFit [.ref d, .int st, .ref b, .int st, .int 0] H (fun u _ => u = .bl true) := fun H1 e Q q E =>
  ⟨d, b, ns, st, rfl, e _ _ hd, e _ _ hb, r, s0, s1, fun H2 e2 => q _ H2 e2 rfl⟩
theorem sp_out {K : PySem.W.Frag} {H : Hp} {v e : V} {l : P6} {n : Int} (L : LotV K H v l) (wf : l.Wf) (s1 : l.st ≤ 4000) (mz : l.ms.length < sizeLine) (he : (∃ z, e = .int z) ∨ (e = .non ∧ l.high ≤ n)) : SpP (spOut K) [v, v, .int 0, .int n, e] H (fun u _ => u = .non) := fun H1 e1 Q q E =>
  ⟨v, e, l, n, rfl, L.mono e1, wf, s1, mz, he, fun H2 e2 => q _ H2 e2 rfl⟩
theorem sp_next_out {K : PySem.W.Frag} {H : Hp} {v : V} {l : P6} {n : Int} (L : LotV K H v l) (wf : l.Wf) (s1 : l.st ≤ 4000) (mz : l.ms.length < sizeLine) : SpP (spNextOut K) [v, v, .int 0, .int n] H (fun u _ => u = .non) := fun H1 e1 Q q E =>
  ⟨v, l, n, rfl, L.mono e1, wf, s1, mz, fun H2 e2 => q _ H2 e2 rfl⟩
theorem sp_part_of {K : PySem.W.Frag} {H : Hp} {v : V} {l : P6} (L : LotV K H v l) (wf : l.Wf) (s1 : l.st ≤ 4000) (mz : l.ms.length < sizeLine) : SpP (spPartOf K) [v, v, .int 0] H (fun u _ => u = .bl true) := fun H1 e1 Q q E =>
  ⟨v, l, rfl, L.mono e1, wf, s1, mz, fun H2 e2 => q _ H2 e2 rfl⟩
theorem sp_part {K : PySem.W.Frag} {H : Hp} {v : V} {l : P6} (L : LotV K H v l) (wf : l.Wf) (s1 : l.st ≤ 4000) (mz : l.ms.length < sizeLine) : SpP (spPart K) [v, v] H (fun u _ => u = .bl true) := fun H1 e1 Q q E =>
  ⟨v, l, rfl, L.mono e1, wf, s1, mz, fun H2 e2 => q _ H2 e2 rfl⟩
theorem gcd_self' {st : Int} (h : 0 < st) : ((Nat.gcd st.natAbs st.natAbs : Nat) : Int) = st := by
  rw [Nat.gcd_self]
  omega
/-- the rests of one side -/
theorem ev_side {K : PySem.W.Frag} {σ : L2.St} {H : Hp} {v : V} {l : P6} {i : Nat} {t : TT} {b : Bool} (L : LotV K H v l) (hs : σ[i]? = some (some v)) (ht : EvT t σ H b) :
    ∃ d, Ev (tIf t (tFld K (tVar i) "has_below") (tFld K (tVar i) "has_above")) σ H (.ref d) ∧ H d = some (.dK (kvsOf (if b then l.bl else l.ab))) := by
  obtain ⟨p, hp, h1⟩ := ev_db L hs
  obtain ⟨q, hq, h2⟩ := ev_da L hs
  cases b with
  | true => exact ⟨p, Evl.ev_if ht (fun _ => hp) (fun h => absurd h (by decide)), h1⟩
  | false => exact ⟨q, Evl.ev_if ht (fun h => absurd h (by decide)) (fun _ => hq), h2⟩
theorem has_ms {l : P6} (wf : l.Wf) {z : Int} (h : z ∈ l.ms) : l.has z = true := by
  obtain ⟨h1, h2⟩ := wf.bnd z h
  unfold P6.has
  rw [if_neg (by omega), if_pos h2]
  exact decide_eq_true h
section
variable {P : Program} {w : World} {K : PySem.W.Frag} {mg : Str → Option Value} {base : Heap}
theorem sc_is_fitting : FnScope ["rests", "step", "others", "other_step", "by", "part", "many", "rest"] ["rests", "step", "others", "other_step", "by"] (defScope sIsFitting) := ⟨rfl, rfl, rfl, by decide +kernel, rfl, by decide +kernel, by decide +kernel⟩
theorem ok_is_fitting (T : Txt K mg) : Gd P w K mg base CX0 2 (He.ga K "is_fitting") ["rests", "step", "others", "other_step", "by"] spFit := by
  have G_common_divisor : Gd P w K mg base CX0 1 (He.ga K "common_divisor") ["one", "other"] spGcd := ok_common_divisor T
  refine Fn.good T.f_is_fitting sc_is_fitting (fun _ _ _ _ _ _ us hl => match us, hl with | [_, _, _, _, _], _ => rfl) (fun vs H Q E h => ?_) (fun cdv A outer s H vs Q E hr h => ?_)
  · obtain ⟨d, b, ns, st, rfl, _⟩ := h
    rfl
  · obtain ⟨d, b, ns, st, rfl, hd, hb, r, s0, s1, k⟩ := h
    refine ⟨_, (pss_cons (ps_set (i := 5) sc_is_fitting.nd rfl (Or.inr rfl) (pcl G_common_divisor (hr.mono (by decide)) T.g_common_divisor (pa_cons (pv 1) (pa_cons (pv 3) pa_nil))))
      (pss_cons (ps_set (i := 6) sc_is_fitting.nd rfl (Or.inr rfl) pe_dnewK)
      (pss_cons (ps_lock (ps_for PassesOwn.never rfl (pi_keys (pv 2)) (pg_name (i := 7) sc_is_fitting.nd rfl (Or.inl rfl)) (pss_one (ps_dput (hu_of hr) (pv 6) (pe_op op_mod (pv 7) (pv 5)) (pe_op op_add (pe_dget2 (hu_of hr) (pv 6) (pe_op op_mod (pv 7) (pv 5)) pe_int ⟨by rfl, by rfl, by rfl, by rfl⟩) pe_int) rfl))))
      (pss_one (ps_ret (pe_callB (cr_all rfl) (by rfl) T.n_all (by decide +kernel) (pa_cons (pe_lock (pe_lc (own := [("rest", 7)]) (g := gName 7) rfl sc_is_fitting.nd (pi_keys (pv 0)) (blkOk_by (N := ["rests", "step", "others", "other_step", "by", "part", "many", "rest"]) (sc := defScope sIsFitting) (by decide +kernel)) (fun _ _ _ _ _ => pg_name (i := 7) sc_is_fitting.nd rfl (Or.inl rfl)) (fun _ _ _ _ _ => pts_nil) (fun _ _ _ _ _ => (pe_cmpR op_eq (pe_op op_mul (pe_dget2 (hu_of hr) (pv 6) (pe_op op_mod (pe_op op_add (pv 7) (pv 4)) (pv 5)) pe_int ⟨by rfl, by rfl, by rfl, by rfl⟩) (pv 5)) (pv 3) (nomark _))))) pa_nil))))))), ?_⟩
    have nz : ns.length < sizeLine := by have := r.len s0 s1; rw [sizeLine_eq]; omega
    refine Evl.q_asg (Evl.ev_is (ev_callV (Evl.ea_cons (Evl.ev_var rfl) (Evl.ea_cons (Evl.ev_var rfl) Evl.ea_nil)) sp_gcd) (congrArg V.int (gcd_self' s0))) fun H1 e1 => ?_
    refine u_asg fun q hq => ?_
    have hb1 : (upd H1 q (.dK [])) b = some (.dK (kvsOf ns)) := Evl.Ex.new hq _ _ (e1 _ _ hb)
    have ne : q ≠ b := fun c => by rw [c, e1 _ _ hb] at hq; cases hq
    refine u_seq ⟨b, .dK (kvsOf ns), hb1, trivial, fun od => ?_⟩
    have hq2 : (upd (upd H1 q (.dK [])) b (.frz od (.dK (kvsOf ns)))) q = some (.dK (kvsV (.int 1) (ns.take 0))) := by
      rw [upd_ne ne, upd_same]; rfl
    refine ⟨_, rfl, b, od, rfl, .inl ⟨kvsOf ns, upd_same, for_keys (Pv := fun i σ' H' => ∃ x, σ' = [some (.ref d), some (.int st), some (.ref b), some (.int st), some (.int 0), some (.int st), some (.ref q), x] ∧ Ex H1 (upd H' b (.dK (kvsOf ns))) ∧ H' b = some (.frz od (.dK (kvsOf ns))) ∧ H' q = some (.dK (kvsV (.int 1) (ns.take i))))
      ⟨none, rfl, ?_, upd_same, hq2⟩ (fun i σ' H' h => h.choose_spec.2.2.1) ?_ ?_⟩⟩
    · rw [upd_upd]
      intro a o ha
      by_cases c : a = b
      · subst c
        rw [upd_same, ← e1 _ _ hb, ha]
      · rw [upd_ne c]
        exact Evl.Ex.new hq _ _ ha
    · rintro i kk v σ' H' hk ⟨x, rfl, e2, h2, h3⟩
      obtain ⟨z, hz1, ee⟩ := kvsV_get (v := .bl true) hk
      cases ee
      have zb := r.bnd z (List.mem_of_getElem? hz1)
      obtain ⟨pt1, pt2⟩ := kvsV_put (v := .int 1) r.nodup hz1
      have em : z % st = z := mod_self_of zb.1 zb.2
      refine ⟨_, rfl, q, rfl, .inl ⟨_, .inl h3⟩, _, rfl, _, rfl, _, _, rfl, rfl, s0, _, DGet.k (k := Sum.inl (z % st)) h3, ?_⟩
      rw [valV_kvsV, em, if_neg pt2]
      refine ⟨_, _, rfl, rfl, _, rfl, _, rfl, _, rfl, _, _, rfl, rfl, s0, q, _, rfl, DPut.k (k := Sum.inl (z % st)) h3 (by rw [kvsV_len, List.length_take]; omega), ?_⟩
      rw [em]
      have e5 : putK (kvsV (V.int 1) (List.take i ns)) (Sum.inl z : Key) (V.int (0 + 1)) = kvsV (V.int 1) (List.take (i + 1) ns) := pt1
      rw [e5]
      refine ⟨_, rfl, ?_, ?_, upd_same⟩
      · intro a o ha
        have z1 := e2 a o ha
        by_cases c : a = b
        · subst c
          rw [upd_same] at z1 ⊢
          exact z1
        · rw [upd_ne c] at z1 ⊢
          by_cases c2 : a = q
          · subst c2
            rw [hq] at ha
            cases ha
          · rw [upd_ne c2]
            exact z1
      · rw [upd_ne (Ne.symm ne)]
        exact h2
    · rintro σ' H' ⟨x, rfl, e2, h2, h3⟩
      refine ⟨h2, ?_⟩
      have h3' : (upd H' b (.dK (kvsOf ns))) q = some (.dK (kvsV (.int 1) ns)) := by
        rw [upd_ne ne, h3, show (kvsOf ns).length = ns.length from kvsV_len (v := .bl true), List.take_length]
      have hd' := e2 _ _ (e1 _ _ hd)
      refine s_retE (ev_all (bs := ns.map fun _ => true) (EvL.is (el_K (ns := ns) (fun _ => true) (fun _ => V.bl true) ?_ hd' nz (fun x => rfl) (fun z od2 Hz _ _ => et_yes) ?_) ?_)) fun H3 e3 => ?_
      · rfl
      · intro z od2 Hz hz1 ez _
        have zb := r.bnd z hz1
        have em : z % st = z := mod_self_of zb.1 zb.2
        have hqz : Hz q = some (.dK (kvsV (.int 1) ns)) := ez _ _ (by
          by_cases c : q = d
          · exfalso
            rw [c] at hq
            rw [e1 _ _ hd] at hq
            cases hq
          · rw [upd_ne c]
            exact h3')
        refine Evl.ev_is (ev_eqI (n := 1 * st) (m := st) (ev_mul (n := 1) (m := st) ?_ (Evl.ev_var rfl) (.inl ⟨by decide, by decide⟩)) (Evl.ev_var rfl)) (congrArg V.bl (decide_eq_true (Int.one_mul _)))
        intro H4 e4 Q4 q4
        refine ⟨_, rfl, q, rfl, .inl ⟨_, .inl (e4 _ _ hqz)⟩, _, rfl, _, rfl, _, _, rfl, rfl, _, rfl, _, _, rfl, rfl, s0, _, DGet.k (k := Sum.inl ((z + 0) % st)) (e4 _ _ hqz), ?_⟩
        rw [valV_kvsV, Int.add_zero, em, if_pos hz1]
        exact q4 _ (Evl.Ex.refl _)
      · rw [filter_yes, List.map_map]; rfl
      · rw [List.all_map]
        exact k _ ((e1.trans e2).trans e3) |> fun z => by
          have : (ns.all (id ∘ fun _ => true)) = true := List.all_eq_true.mpr fun _ _ => rfl
          rw [this]
          exact z
end
end Nv
set_option Elab.async false
set_option linter.all false
set_option maxRecDepth 100000
set_option maxHeartbeats 4000000
/-! NvF2: out_between, next_out_above, is_part_of, is_part. -/
namespace Nv
open PySem PySem.Spec PyProof.Rows L2
open Evl (Ev EvT EvL EvU EvA)
theorem et_isN {K : PySem.W.Frag} {σ : L2.St} {H : Hp} {te : TE} {x : V} (h : Ev te σ H x) : EvT (tTest (tOp rIsN te (tC .non))) σ H (decide (x = .non)) := Evl.et_test (Evl.ev_op h Evl.ev_c (fun H1 _ Q q => ⟨rfl, q H1 (Evl.Ex.refl _)⟩))
theorem et_notN {σ : L2.St} {H : Hp} {te : TE} {x : V} (h : Ev te σ H x) : EvT (tTest (tOp rNotN te (tC .non))) σ H (!decide (x = .non)) := Evl.et_test (Evl.ev_op h Evl.ev_c (fun H1 _ Q q => ⟨rfl, q H1 (Evl.Ex.refl _)⟩))
section
variable {P : Program} {w : World} {K : PySem.W.Frag} {mg : Str → Option Value} {base : Heap}
theorem sc_out_between : FnScope ["lot", "second", "by", "at", "end", "found", "rests", "others", "most", "number", "member"] ["lot", "second", "by", "at", "end"] (defScope sOutBetween) := ⟨rfl, rfl, rfl, by decide +kernel, rfl, by decide +kernel, by decide +kernel⟩
theorem ok_out_between (T : Txt K mg) : Gd P w K mg base CX0 3 (He.ga K "out_between") ["lot", "second", "by", "at", "end"] (spOut K) := by
  have G_has : Gd P w K mg base CX0 1 (He.ga K "has") ["lot", "number"] (spHas K) := ok_has T
  have G_common_multiple : Gd P w K mg base CX0 2 (He.ga K "common_multiple") ["lot", "second"] (spLcm K) := ok_common_multiple T
  have G_is_fitting : Gd P w K mg base CX0 2 (He.ga K "is_fitting") ["rests", "step", "others", "other_step", "by"] spFit := ok_is_fitting T
  refine Fn.good T.f_out_between sc_out_between (fun _ _ _ _ _ _ us hl => match us, hl with | [_, _, _, _, _], _ => rfl) (fun vs H Q E h => ?_) (fun cdv A outer s H vs Q E hr h => ?_)
  · obtain ⟨v, e, l, n, rfl, _⟩ := h
    rfl
  · obtain ⟨v, e, l, n, rfl, L, wf, s1, mz, he, k⟩ := h
    refine ⟨_, (pss_cons (ps_if (pt_chain op_le op_lt (kFld (K := K) rfl (pv 0) rfl) (pv 3) (kFld (K := K) rfl (pv 0) rfl)) (pss_cons (ps_setLc (i := 5) (own := [("member", 10)]) (g := gName 10) rfl sc_out_between.nd rfl rfl (sw_true rfl rfl rfl (by decide +kernel)) (pi_tup (kFld (K := K) rfl (pv 0) rfl)) (blkOk_by (N := ["lot", "second", "by", "at", "end", "found", "rests", "others", "most", "number", "member"]) (sc := defScope sOutBetween) (by decide +kernel)) (fun _ _ _ _ _ => pg_name (i := 10) sc_out_between.nd rfl (Or.inl rfl)) (fun _ _ _ _ _ => pts_one (PW.pt (pw_and (pt_chain op_le op_lt (pv 3) (pv 10) (pv 4)) (pw_and1 (pt_not (pt_val (pcl G_has (hr.mono (by decide)) T.g_has (pa_cons (pv 1) (pa_cons (pe_op op_add (pv 10) (pv 2)) pa_nil))))))))) (fun _ _ _ _ _ => (pv 10)))
      (pss_one (ps_ret (pe_ifExp (pt_cmpR op_gt (pe_callB (kLen (K := K) rfl) (by rfl) T.n_len (by decide +kernel) (pa_cons (pv 5) pa_nil)) pe_int (nomark _)) (pe_ix (kIxL (K := K) rfl) (pv 5) pe_int (fun _ _ => rfl)) pe_non)))) pss_nil)
      (pss_cons (ps_set (i := 6) sc_out_between.nd rfl (Or.inl rfl) (pe_ifExp (pt_cmpR op_lt (pv 3) (kFld (K := K) rfl (pv 0) rfl) (nomark _)) (kFld (K := K) rfl (pv 0) rfl) (kFld (K := K) rfl (pv 0) rfl)))
      (pss_cons (ps_if (pt_cmpR op_eq (pe_callB call_lenD (by rfl) T.n_len (by decide +kernel) (pa_cons (pv 6) pa_nil)) pe_int (nomark _)) (pss_one (ps_ret pe_non)) pss_nil)
      (pss_cons (ps_if (pt_not (pt_chain op_le op_lt (kFld (K := K) rfl (pv 1) rfl) (pe_op op_add (pv 3) (pv 2)) (kFld (K := K) rfl (pv 1) rfl))) (pss_cons (ps_set (i := 7) sc_out_between.nd rfl (Or.inl rfl) (pe_ifExp (pt_cmpR op_lt (pe_op op_add (pv 3) (pv 2)) (kFld (K := K) rfl (pv 1) rfl) (nomark _)) (kFld (K := K) rfl (pv 1) rfl) (kFld (K := K) rfl (pv 1) rfl)))
      (pss_cons (ps_if (pt_val (pcl G_is_fitting (hr.mono (by decide)) T.g_is_fitting (pa_cons (pv 6) (pa_cons (kFld (K := K) rfl (pv 0) rfl) (pa_cons (pv 7) (pa_cons (kFld (K := K) rfl (pv 1) rfl) (pa_cons (pv 2) pa_nil))))))) (pss_one (ps_ret pe_non)) pss_nil)
      (pss_cons (ps_set (i := 8) sc_out_between.nd rfl (Or.inl rfl) (pe_op op_add (pv 3) (pcl G_common_multiple (hr.mono (by decide)) T.g_common_multiple (pa_cons (pv 0) (pa_cons (pv 1) pa_nil)))))
      (pss_one (ps_set (i := 4) sc_out_between.nd rfl (Or.inr rfl) (pe_ifExp (pt_cmpR op_isN1 (pv 4) pe_non (nomark _)) (pv 8) (pe_callB (call_min2 rfl) (by rfl) T.n_min (by decide +kernel) (pa_cons (pv 4) (pa_cons (pv 8) pa_nil))))))))) pss_nil)
      (pss_cons (ps_for PassesOwn.never rfl (pi_range2 (by rfl) T.n_range (pa_cons (pv 3) (pa_cons (pv 4) pa_nil))) (pg_name (i := 9) sc_out_between.nd rfl (Or.inl rfl)) (pss_one (ps_if (PW.pt (pw_and (pt_cmp (pc_din (hu_of hr) (pe_op op_mod (pv 9) (kFld (K := K) rfl (pv 0) rfl)) (pv 6))) (pw_and1 (pt_not (pt_val (pcl G_has (hr.mono (by decide)) T.g_has (pa_cons (pv 1) (pa_cons (pe_op op_add (pv 9) (pv 2)) pa_nil)))))))) (pss_one (ps_ret (pv 9))) pss_nil)))
      (pss_one (ps_ret pe_non))))))), ?_⟩
    have s0 := wf.pos
    refine Evl.q_when (Evl.et_test (ev_chain (ev_low L rfl) (Evl.ev_var rfl) (ev_high L rfl) (Evl.rv_I0 (g := fun i j => .bl (decide (i ≤ j)))) (Evl.rv_I0 (g := fun i j => .bl (decide (i < j)))))) (fun c H1 e1 => ?_) (fun c H1 e1 => ?_)
    · obtain ⟨c1, c2⟩ := Bool.and_eq_true_iff.mp c
      have c1 : l.low ≤ n := of_decide_eq_true c1
      have c2 : n < l.high := of_decide_eq_true c2
      obtain ⟨z, rfl⟩ : ∃ z, e = .int z := by
        rcases he with he | ⟨_, he⟩
        · exact he
        · omega
      have L1 := L.mono e1
      obtain ⟨pm, em, hm⟩ := ev_tm (i := 0) L1 (σ := [some v, some v, some (.int 0), some (.int n), some (.int z), none, none, none, none, none, none]) rfl
      refine Evl.q_asgL (xs := vI []) (EvL.is (el_T (ns := l.ms) (fun y => (decide (n ≤ y) && decide (y < z)) && !(l.has (y + 0))) V.int em hm mz (fun x => rfl) (fun y Hz _ ez => ?_) (fun y Hz _ ez _ => Evl.ev_var rfl)) ?_) fun p H2 _ e2 h2 => ?_
      · exact et_andV (Evl.et_test (ev_chain (Evl.ev_var rfl) (Evl.ev_var rfl) (Evl.ev_var rfl) (Evl.rv_I0 (g := fun i j => .bl (decide (i ≤ j)))) (Evl.rv_I0 (g := fun i j => .bl (decide (i < j)))))) (Evl.et_not (Evl.et_B (ev_callV (Evl.ea_cons (Evl.ev_var rfl) (Evl.ea_cons (ev_add (Evl.ev_var rfl) (Evl.ev_var rfl)) Evl.ea_nil)) (sp_has (L1.mono ez) s0))))
      · have none_ : l.ms.filter (fun y => (decide (n ≤ y) && decide (y < z)) && !(l.has (y + 0))) = [] := by
          rw [List.filter_eq_nil_iff]
          intro y hy q
          rw [Int.add_zero, has_ms wf hy] at q
          simp at q
        rw [none_]
      · exact s_retE (Evl.ev_if (b := false) (et_gt (ev_lenL (Evl.ev_var rfl) h2) Evl.ev_c) (fun h => absurd h (by decide)) (fun _ => Evl.ev_c)) fun H3 e3 => k _ ((e1.trans e2).trans e3)
    · have L1 := L.mono e1
      obtain ⟨d1, ed1, hd1⟩ := ev_side (i := 0) L1 (σ := [some v, some v, some (.int 0), some (.int n), some e, none, none, none, none, none, none]) rfl (et_lt (ta := tVar 3) (tb := tFld K (tVar 0) "low") (Evl.ev_var rfl) (ev_low L1 rfl))
      refine Evl.q_asg ed1 fun H2 e2 => ?_
      have hd2 := e2 _ _ hd1
      refine Evl.q_when (et_eqI (ev_lenD (Evl.ev_var rfl) hd2) Evl.ev_c) (fun _ H3 e3 => s_retE Evl.ev_c fun H4 e4 => k _ (((e1.trans e2).trans e3).trans e4)) (fun _ H3 e3 => ?_)
      have L3 := (L1.mono e2).mono e3
      refine Evl.q_when (b := true) (Evl.et_is (Evl.et_not (Evl.et_test (ev_chain (ev_low L3 rfl) (ev_add (Evl.ev_var rfl) (Evl.ev_var rfl)) (ev_high L3 rfl) (Evl.rv_I0 (g := fun i j => .bl (decide (i ≤ j)))) (Evl.rv_I0 (g := fun i j => .bl (decide (i < j))))))) (by rw [Int.add_zero]; rw [c]; rfl)) (fun _ H4 e4 => ?_) (fun h => absurd h (by decide))
      have L4 := L3.mono e4
      obtain ⟨d2, ed2, hd4⟩ := ev_side (i := 1) L4 (σ := [some v, some v, some (.int 0), some (.int n), some e, none, some (.ref d1), none, none, none, none]) rfl (et_lt (ta := tOp (rI0 fun i j => .int (i + j)) (tVar 3) (tVar 2)) (tb := tFld K (tVar 1) "low") (ev_add (Evl.ev_var rfl) (Evl.ev_var rfl)) (ev_low L4 rfl))
      rw [Int.add_zero] at hd4
      refine Evl.q_asg ed2 fun H5 e5 => ?_
      have L5 := L4.mono e5
      have R : Rests l.st (if decide (n < l.low) = true then l.bl else l.ab) := by
        split
        · exact wf.bl
        · exact wf.ab
      refine Evl.q_when (Evl.et_B (ev_callV (Evl.ea_cons (Evl.ev_var rfl) (Evl.ea_cons (ev_step L5 rfl) (Evl.ea_cons (Evl.ev_var rfl) (Evl.ea_cons (ev_step L5 rfl) (Evl.ea_cons (Evl.ev_var rfl) Evl.ea_nil))))) (sp_fit (ns := if decide (n < l.low) = true then l.bl else l.ab) (((e3.trans e4).trans e5) _ _ hd2) (e5 _ _ hd4) R s0 s1))) (fun _ H6 e6 => ?_) (fun h => absurd h (by decide))
      exact s_retE Evl.ev_c fun H7 e7 => k _ (((((((e1.trans e2).trans e3).trans e4).trans e5).trans e6)).trans e7)
theorem sc_next_out_above : FnScope ["lot", "second", "by", "number", "at", "end", "found"] ["lot", "second", "by", "number"] (defScope sNextOutAbove) := ⟨rfl, rfl, rfl, by decide +kernel, rfl, by decide +kernel, by decide +kernel⟩
theorem ok_next_out_above (T : Txt K mg) : Gd P w K mg base CX0 4 (He.ga K "next_out_above") ["lot", "second", "by", "number"] (spNextOut K) := by
  have G_out_between : Gd P w K mg base CX0 3 (He.ga K "out_between") ["lot", "second", "by", "at", "end"] (spOut K) := ok_out_between T
  refine Fn.good T.f_next_out_above sc_next_out_above (fun _ _ _ _ _ _ us hl => match us, hl with | [_, _, _, _], _ => rfl) (fun vs H Q E h => ?_) (fun cdv A outer s H vs Q E hr h => ?_)
  · obtain ⟨v, l, n, rfl, _⟩ := h
    rfl
  · obtain ⟨v, l, n, rfl, L, wf, s1, mz, k⟩ := h
    refine ⟨_, (pss_cons (ps_set (i := 4) sc_next_out_above.nd rfl (Or.inl rfl) (pe_op op_add (pv 3) pe_int))
      (pss_cons (ps_for PassesOwn.never rfl (pi_list (pe_callB cr_sorted (by rfl) T.n_sorted (by decide +kernel) (pa_cons (pe_lst (pa_cons (kFld (K := K) rfl (pv 0) rfl) (pa_cons (kFld (K := K) rfl (pv 0) rfl) (pa_cons (pe_op op_sub (kFld (K := K) rfl (pv 1) rfl) (pv 2)) (pa_cons (pe_op op_sub (kFld (K := K) rfl (pv 1) rfl) (pv 2)) pa_nil))))) pa_nil))) (pg_name (i := 5) sc_next_out_above.nd rfl (Or.inl rfl)) (pss_one (ps_if (pt_cmpR op_gt (pv 5) (pv 4) (nomark _)) (pss_cons (ps_set (i := 6) sc_next_out_above.nd rfl (Or.inl rfl) (pcl G_out_between (hr.mono (by decide)) T.g_out_between (pa_cons (pv 0) (pa_cons (pv 1) (pa_cons (pv 2) (pa_cons (pv 4) (pa_cons (pv 5) pa_nil)))))))
      (pss_cons (ps_if (pt_cmpR op_notN1 (pv 6) pe_non (nomark _)) (pss_one (ps_ret (pv 6))) pss_nil)
      (pss_one (ps_set (i := 4) sc_next_out_above.nd rfl (Or.inl rfl) (pv 5))))) pss_nil)))
      (pss_one (ps_ret (pcl G_out_between (hr.mono (by decide)) T.g_out_between (pa_cons (pv 0) (pa_cons (pv 1) (pa_cons (pv 2) (pa_cons (pv 4) (pa_cons pe_non pa_nil)))))))))), ?_⟩
    refine Evl.q_asg (ev_add (Evl.ev_var rfl) Evl.ev_c) fun H1 e1 => ?_
    have L1 := L.mono e1
    refine q_forP (C := fun ms => l.high ∈ ms) (EvP.imp (evp_sorted (ns := [l.low, l.high, l.low - 0, l.high - 0]) (Evl.el_lst (Evl.ea_cons (ev_low L1 rfl) (Evl.ea_cons (ev_high L1 rfl) (Evl.ea_cons (ev_sub (ev_low L1 rfl) (Evl.ev_var rfl)) (Evl.ea_cons (ev_sub (ev_high L1 rfl) (Evl.ev_var rfl)) Evl.ea_nil)))) (by show 4 ≤ 100000; decide)) (by show 4 < 64; decide)) (fun v H2 _ h => ?_)) fun a ms H2 e2 ha hc => ?_
    · obtain ⟨ms, h1, h2, _⟩ := h
      exact ⟨ms, h1, h2.mem_iff.mpr (by simp)⟩
    · have L2 := L1.mono e2
      refine ⟨fun i σ' H' => ∃ at_ x y, σ' = [some v, some v, some (.int 0), some (.int n), some (.int at_), x, y] ∧ Ex H2 H' ∧ ∀ j z, j < i → ms[j]? = some z → z ≤ at_, ⟨_, _, _, rfl, Evl.Ex.refl _, fun j z h => absurd h (by omega)⟩, fun i σ' H' _ h => h.choose_spec.choose_spec.choose_spec.2.1 _ _ ha, ?_, ?_⟩
      · rintro i z σ' H' hz ⟨at_, x, y, rfl, e3, hl⟩
        refine Evl.s_when (et_gt (Evl.ev_var rfl) (Evl.ev_var rfl)) (fun c H4 e4 => ?_) (fun c H4 e4 => ?_)
        · have L4 := (L2.mono e3).mono e4
          refine Evl.q_asg (ev_callV (Evl.ea_cons (Evl.ev_var rfl) (Evl.ea_cons (Evl.ev_var rfl) (Evl.ea_cons (Evl.ev_var rfl) (Evl.ea_cons (Evl.ev_var rfl) (Evl.ea_cons (Evl.ev_var rfl) Evl.ea_nil))))) (sp_out L4 wf s1 mz (.inl ⟨z, rfl⟩))) fun H5 e5 => ?_
          refine Evl.q_when (et_notN (Evl.ev_var rfl)) (fun h => absurd h (by decide)) (fun _ H6 e6 => ?_)
          refine Evl.s_asg (Evl.ev_var rfl) fun H7 e7 => ⟨z, _, _, rfl, (((e3.trans e4).trans e5).trans e6).trans e7, fun j y' hj hy => ?_⟩
          have c1 : at_ < z := of_decide_eq_true c
          by_cases cj : j = i
          · subst cj
            rw [hz] at hy
            cases hy
            exact Int.le_refl _
          · have := hl j y' (by omega) hy
            omega
        · refine ⟨at_, _, _, rfl, e3.trans e4, fun j y' hj hy => ?_⟩
          have c1 : ¬ at_ < z := of_decide_eq_false c
          by_cases cj : j = i
          · subst cj
            rw [hz] at hy
            cases hy
            omega
          · exact hl j y' (by omega) hy
      · rintro σ' H' ⟨at_, x, y, rfl, e3, hl⟩
        obtain ⟨j, hj, ej⟩ := List.mem_iff_getElem.mp hc
        have hh : l.high ≤ at_ := hl j _ hj (by rw [List.getElem?_eq_getElem hj, ej])
        exact s_retE (ev_callV (Evl.ea_cons (Evl.ev_var rfl) (Evl.ea_cons (Evl.ev_var rfl) (Evl.ea_cons (Evl.ev_var rfl) (Evl.ea_cons (Evl.ev_var rfl) (Evl.ea_cons Evl.ev_c Evl.ea_nil))))) (sp_out (L2.mono e3) wf s1 mz (.inr ⟨rfl, hh⟩))) fun H4 e4 => k _ (((e1.trans e2).trans e3).trans e4)
theorem sc_is_part_of : FnScope ["lot", "second", "by", "begin"] ["lot", "second", "by"] (defScope sIsPartOf) := ⟨rfl, rfl, rfl, by decide +kernel, rfl, by decide +kernel, by decide +kernel⟩
theorem ok_is_part_of (T : Txt K mg) : Gd P w K mg base CX0 5 (He.ga K "is_part_of") ["lot", "second", "by"] (spPartOf K) := by
  have G_common_multiple : Gd P w K mg base CX0 2 (He.ga K "common_multiple") ["lot", "second"] (spLcm K) := ok_common_multiple T
  have G_next_out_above : Gd P w K mg base CX0 4 (He.ga K "next_out_above") ["lot", "second", "by", "number"] (spNextOut K) := ok_next_out_above T
  refine Fn.good T.f_is_part_of sc_is_part_of (fun _ _ _ _ _ _ us hl => match us, hl with | [_, _, _], _ => rfl) (fun vs H Q E h => ?_) (fun cdv A outer s H vs Q E hr h => ?_)
  · obtain ⟨v, l, rfl, _⟩ := h
    rfl
  · obtain ⟨v, l, rfl, L, wf, s1, mz, k⟩ := h
    refine ⟨_, (pss_cons (ps_set (i := 3) sc_is_part_of.nd rfl (Or.inl rfl) (pe_op op_sub (pe_callB (call_min2 rfl) (by rfl) T.n_min (by decide +kernel) (pa_cons (kFld (K := K) rfl (pv 0) rfl) (pa_cons (pe_op op_sub (kFld (K := K) rfl (pv 1) rfl) (pv 2)) pa_nil))) (pcl G_common_multiple (hr.mono (by decide)) T.g_common_multiple (pa_cons (pv 0) (pa_cons (pv 1) pa_nil)))))
      (pss_one (ps_ret (pe_cmpR op_isN1 (pcl G_next_out_above (hr.mono (by decide)) T.g_next_out_above (pa_cons (pv 0) (pa_cons (pv 1) (pa_cons (pv 2) (pa_cons (pe_op op_sub (pv 3) pe_int) pa_nil))))) pe_non (nomark _))))), ?_⟩
    have s0 := wf.pos
    refine Evl.q_asg (ev_sub (ev_min2 (ev_low L rfl) (ev_sub (ev_low L rfl) (Evl.ev_var rfl))) (ev_callV (Evl.ea_cons (Evl.ev_var rfl) (Evl.ea_cons (Evl.ev_var rfl) Evl.ea_nil)) (sp_lcm L L s0 s1 s0 s1))) fun H1 e1 => ?_
    refine s_retE (Evl.ev_is (Evl.ev_op (z := .bl (decide ((.non : V) = .non))) (ev_callV (Evl.ea_cons (Evl.ev_var rfl) (Evl.ea_cons (Evl.ev_var rfl) (Evl.ea_cons (Evl.ev_var rfl) (Evl.ea_cons (ev_sub (Evl.ev_var rfl) Evl.ev_c) Evl.ea_nil)))) (sp_next_out (L.mono e1) wf s1 mz)) Evl.ev_c (fun H2 _ Q q => ⟨rfl, q H2 (Evl.Ex.refl _)⟩)) rfl) fun H2 e2 => k _ (e1.trans e2)
theorem sc_is_part : FnScope ["lot", "second"] ["lot", "second"] (defScope sIsPart) := ⟨rfl, rfl, rfl, by decide +kernel, rfl, by decide +kernel, by decide +kernel⟩
theorem ok_is_part (T : Txt K mg) : Gd P w K mg base CX0 6 (He.ga K "is_part") ["lot", "second"] (spPart K) := by
  have G_is_part_of : Gd P w K mg base CX0 5 (He.ga K "is_part_of") ["lot", "second", "by"] (spPartOf K) := ok_is_part_of T
  refine Fn.good T.f_is_part sc_is_part (fun _ _ _ _ _ _ us hl => match us, hl with | [_, _], _ => rfl) (fun vs H Q E h => ?_) (fun cdv A outer s H vs Q E hr h => ?_)
  · obtain ⟨v, l, rfl, _⟩ := h
    rfl
  · obtain ⟨v, l, rfl, L, wf, s1, mz, k⟩ := h
    refine ⟨_, (pss_one (ps_ret (pcl G_is_part_of (hr.mono (by decide)) T.g_is_part_of (pa_cons (pv 0) (pa_cons (pv 1) (pa_cons pe_int pa_nil)))))), ?_⟩
    exact s_retE (ev_callV (Evl.ea_cons (Evl.ev_var rfl) (Evl.ea_cons (Evl.ev_var rfl) (Evl.ea_cons Evl.ev_c Evl.ea_nil))) (sp_part_of L wf s1 mz)) k
end
end Nv
set_option Elab.async false
set_option linter.all false
set_option maxRecDepth 100000
set_option maxHeartbeats 4000000
/-! NvG: next_above_of, next_above, many_with, many_in. -/
namespace Nv
open PySem PySem.Spec PyProof.Rows L2
open Evl (Ev EvT EvL EvU EvA)
def spNext (K : PySem.W.Frag) : Sp := fun vs H Q _ => ∃ (v : V) (l : P6) (n : Int), vs = [v, .int n] ∧ LotV K H v l ∧ l.Wf ∧ ∀ o H2, Ex H H2 → (o = some (n + 1) ↔ l.has (n + 1) = true) → Q (optI o) H2
theorem sp_next {K : PySem.W.Frag} {H : Hp} {v : V} {l : P6} {n : Int} (L : LotV K H v l) (wf : l.Wf) : SpP (spNext K) [v, .int n] H (fun u _ => ∃ o, u = optI o ∧ (o = some (n + 1) ↔ l.has (n + 1) = true)) := fun H1 e1 Q q E =>
  ⟨v, l, n, rfl, L.mono e1, wf, fun o H2 e2 h => q _ H2 e2 ⟨o, rfl, h⟩⟩
def manyW (ns : List Int) (st a b : Int) : Int := if b ≤ a then 0 else (ns.map fun r => (b - 1 - r) / st - (a - 1 - r) / st).sum
def manyI (l : P6) (a b : Int) : Int := manyW l.bl l.st a (min b l.low) + ((l.ms.filter fun n => decide (a ≤ n ∧ n < b)).length : Int) + manyW l.ab l.st (max a l.high) b
def spManyWith : Sp := fun vs H Q _ => ∃ (p : Addr) (ns : List Int) (st a b : Int), vs = [.ref p, .int st, .int a, .int b] ∧ H p = some (.tup (vI ns)) ∧ ns.length < sizeLine ∧ 0 < st ∧ st ≤ 4000 ∧ ∀ H2, Ex H H2 → Q (.int (manyW ns st a b)) H2
def spManyIn (K : PySem.W.Frag) : Sp := fun vs H Q _ => ∃ (v : V) (l : P6) (a b : Int), vs = [v, .int a, .int b] ∧ LotV K H v l ∧ l.Wf ∧ l.st ≤ 4000 ∧ l.ms.length < sizeLine ∧ ∀ H2, Ex H H2 → Q (.int (manyI l a b)) H2
theorem sp_many_with {H : Hp} {p : Addr} {ns : List Int} {st a b : Int} (hp : H p = some (.tup (vI ns))) (hz : ns.length < sizeLine) (s0 : 0 < st) (s1 : st ≤ 4000) : SpP spManyWith [.ref p, .int st, .int a, .int b] H (fun u _ => u = .int (manyW ns st a b)) := fun H1 e1 Q q E =>
  ⟨p, ns, st, a, b, rfl, e1 _ _ hp, hz, s0, s1, fun H2 e2 => q _ H2 e2 rfl⟩
theorem sp_many_in {K : PySem.W.Frag} {H : Hp} {v : V} {l : P6} {a b : Int} (L : LotV K H v l) (wf : l.Wf) (s1 : l.st ≤ 4000) (mz : l.ms.length < sizeLine) : SpP (spManyIn K) [v, .int a, .int b] H (fun u _ => u = .int (manyI l a b)) := fun H1 e1 Q q E =>
  ⟨v, l, a, b, rfl, L.mono e1, wf, s1, mz, fun H2 e2 => q _ H2 e2 rfl⟩
theorem has_lo {l : P6} {n : Int} (h : n < l.low) : l.has n = decide (n % l.st ∈ l.bl) := by
  unfold P6.has
  rw [if_pos h]
  rfl
theorem has_mid {l : P6} {n : Int} (h : l.low ≤ n) (h2 : n < l.high) : l.has n = decide (n ∈ l.ms) := by
  unfold P6.has
  rw [if_neg (by omega), if_pos h2]
theorem has_hi {l : P6} {n : Int} (wf : l.Wf) (h : l.high ≤ n) : l.has n = decide (n % l.st ∈ l.ab) := by
  have := wf.le
  unfold P6.has
  rw [if_neg (by omega), if_neg (by omega)]
  rfl
theorem iff_no {l : P6} {a x : Int} (h : l.has a = false) (n : x ≠ a) : (some x = some a ↔ l.has a = true) := ⟨fun e => absurd (Option.some.inj e) n, fun e => by rw [h] at e; cases e⟩
section
variable {P : Program} {w : World} {K : PySem.W.Frag} {mg : Str → Option Value} {base : Heap}
theorem sc_next_above_of : FnScope ["lot", "number", "at", "item"] ["lot", "number"] (defScope sNextAboveOf) := ⟨rfl, rfl, rfl, by decide +kernel, rfl, by decide +kernel, by decide +kernel⟩
theorem ok_next_above_of (T : Txt K mg) : Gd P w K mg base CX0 1 (He.ga K "next_above_of") ["lot", "number"] (spNext K) := by
  refine Fn.good T.f_next_above_of sc_next_above_of (fun _ _ _ _ _ _ us hl => match us, hl with | [_, _], _ => rfl) (fun vs H Q E h => ?_) (fun cdv A outer s H vs Q E hr h => ?_)
  · obtain ⟨v, l, n, rfl, _⟩ := h
    rfl
  · obtain ⟨v, l, n, rfl, L, wf, k⟩ := h
    refine ⟨_, (pss_cons (ps_set (i := 2) sc_next_above_of.nd rfl (Or.inl rfl) (pe_op op_add (pv 1) pe_int))
      (Evl.pss_cut (ps_if (pt_cmpR op_lt (pv 2) (kFld (K := K) rfl (pv 0) rfl) (nomark _)) (pss_cons (ps_for PassesOwn.never rfl (pi_rangeW2 (by rfl) T.n_range (pa_cons (pv 2) (pa_cons (pe_callB (call_min2 rfl) (by rfl) T.n_min (by decide +kernel) (pa_cons (kFld (K := K) rfl (pv 0) rfl) (pa_cons (pe_op op_add (pv 2) (kFld (K := K) rfl (pv 0) rfl)) pa_nil))) pa_nil))) (pg_name (i := 3) sc_next_above_of.nd rfl (Or.inl rfl)) (pss_one (ps_if (pt_cmp (pc_din (hu_of hr) (pe_op op_mod (pv 3) (kFld (K := K) rfl (pv 0) rfl)) (kFld (K := K) rfl (pv 0) rfl))) (pss_one (ps_ret (pv 3))) pss_nil)))
      (pss_one (ps_set (i := 2) sc_next_above_of.nd rfl (Or.inl rfl) (kFld (K := K) rfl (pv 0) rfl)))) pss_nil)
      (Evl.pss_cut (ps_if (pt_cmpR op_lt (pv 2) (kFld (K := K) rfl (pv 0) rfl) (nomark _)) (pss_cons (ps_for PassesOwn.never rfl (pi_tup (kFld (K := K) rfl (pv 0) rfl)) (pg_name (i := 3) sc_next_above_of.nd rfl (Or.inl rfl)) (pss_one (ps_if (pt_cmpR op_ge (pv 3) (pv 2) (nomark _)) (pss_one (ps_ret (pv 3))) pss_nil)))
      (pss_one (ps_set (i := 2) sc_next_above_of.nd rfl (Or.inl rfl) (kFld (K := K) rfl (pv 0) rfl)))) pss_nil)
      (pss_cons (ps_for PassesOwn.never rfl (pi_rangeW2 (by rfl) T.n_range (pa_cons (pv 2) (pa_cons (pe_op op_add (pv 2) (kFld (K := K) rfl (pv 0) rfl)) pa_nil))) (pg_name (i := 3) sc_next_above_of.nd rfl (Or.inl rfl)) (pss_one (ps_if (pt_cmp (pc_din (hu_of hr) (pe_op op_mod (pv 3) (kFld (K := K) rfl (pv 0) rfl)) (kFld (K := K) rfl (pv 0) rfl))) (pss_one (ps_ret (pv 3))) pss_nil)))
      (pss_one (ps_ret pe_non)))))), ?_⟩
    have s0 := wf.pos
    have wl := wf.le
    refine Evl.q_asg (ev_add (Evl.ev_var rfl) Evl.ev_c) fun H1 e1 => ?_
    have L1 := L.mono e1
    refine Evl.q_cut (M := fun σ' H' => ∃ at_ x, σ' = [some v, some (.int n), some (.int at_), x] ∧ Ex H H' ∧ l.low ≤ at_ ∧ (at_ = n + 1 ∨ (n + 1 < at_ ∧ l.has (n + 1) = false))) ?_ ?_
    · refine Evl.s_when (et_lt (Evl.ev_var rfl) (ev_low L1 rfl)) (fun c H2 e2 => ?_) (fun c H2 e2 => ?_)
      · have c1 : n + 1 < l.low := of_decide_eq_true c
        have L2 := L1.mono e2
        have e12 := e1.trans e2
        refine q_forW2 (lo := n + 1) (hi := min l.low (n + 1 + l.st)) (Evl.ea_cons (Evl.ev_var rfl) (Evl.ea_cons (ev_min2 (ev_low L2 rfl) (ev_add (Evl.ev_var rfl) (ev_step L2 rfl))) Evl.ea_nil)) (fun i σ' H' => ∃ x, σ' = [some v, some (.int n), some (.int (n + 1)), x] ∧ Ex H H' ∧ (0 < i → l.has (n + 1) = false)) (fun H3 e3 => ⟨none, rfl, e12.trans e3, fun h => absurd h (by omega)⟩) ?_ ?_
        · rintro i σ' H' hi ⟨x, rfl, e3, no⟩
          have L3 := L.mono e3
          refine Evl.s_when (Evl.et_test (ev_inB L3 rfl (ev_mod (Evl.ev_var rfl) (ev_step L3 rfl) s0))) (fun d H4 e4 => ?_) (fun d H4 e4 => ?_)
          · refine s_retE (Evl.ev_var rfl) fun H5 e5 => k (some (n + 1 + (i : Int))) _ ((e3.trans e4).trans e5) ?_
            by_cases ci : i = 0
            · subst ci
              have d' : decide ((n + 1) % l.st ∈ l.bl) = true := by
                have dd := d
                rw [show n + 1 + ((0 : Nat) : Int) = n + 1 by omega] at dd
                exact dd
              rw [has_lo c1, d', show n + 1 + ((0 : Nat) : Int) = n + 1 by omega]
              exact ⟨fun _ => rfl, fun _ => rfl⟩
            · exact iff_no (no (by omega)) (by omega)
          · refine ⟨_, rfl, e3.trans e4, fun _ => ?_⟩
            by_cases ci : i = 0
            · subst ci
              have d' : decide ((n + 1) % l.st ∈ l.bl) = false := by
                have dd := d
                rw [show n + 1 + ((0 : Nat) : Int) = n + 1 by omega] at dd
                exact dd
              rw [has_lo c1, d']
            · exact no (by omega)
        · rintro σ' H' ⟨x, rfl, e3, no⟩
          exact Evl.s_asg (ev_low (L.mono e3) rfl) fun H4 e4 => ⟨_, _, rfl, e3.trans e4, Int.le_refl _, .inr ⟨c1, no (by omega)⟩⟩
      · have c1 : ¬ n + 1 < l.low := of_decide_eq_false c
        exact ⟨_, _, rfl, e1.trans e2, by omega, .inl rfl⟩
    · rintro σ' H' ⟨at_, x, rfl, e2, lo, st⟩
      have L2 := L.mono e2
      refine Evl.q_cut (M := fun σ' H' => ∃ at_ x, σ' = [some v, some (.int n), some (.int at_), x] ∧ Ex H H' ∧ l.high ≤ at_ ∧ (at_ = n + 1 ∨ (n + 1 < at_ ∧ l.has (n + 1) = false))) ?_ ?_
      · refine Evl.s_when (et_lt (Evl.ev_var rfl) (ev_high L2 rfl)) (fun c H3 e3 => ?_) (fun c H3 e3 => ?_)
        · have c1 : at_ < l.high := of_decide_eq_true c
          have L3 := L2.mono e3
          obtain ⟨pm, em, hm⟩ := ev_tm (i := 0) L3 (σ := [some v, some (.int n), some (.int at_), x]) rfl
          refine q_forTI em hm (fun i σ' H' => ∃ x, σ' = [some v, some (.int n), some (.int at_), x] ∧ Ex H3 H' ∧ ∀ j z, j < i → l.ms[j]? = some z → z < at_) (fun H4 e4 => ⟨x, rfl, e4, fun j z h => absurd h (by omega)⟩) (fun i σ' H' _ h => h.choose_spec.2.1 _ _ hm) ?_ ?_
          · rintro i z σ' H' hz ⟨x, rfl, e4, no⟩
            refine Evl.s_when (et_ge (Evl.ev_var rfl) (Evl.ev_var rfl)) (fun d H5 e5 => ?_) (fun d H5 e5 => ?_)
            · have d1 : at_ ≤ z := of_decide_eq_true d
              refine s_retE (Evl.ev_var rfl) fun H6 e6 => k (some z) _ ((((e2.trans e3).trans e4).trans e5).trans e6) ?_
              have zm : z ∈ l.ms := List.mem_of_getElem? hz
              rcases st with rfl | ⟨st1, st2⟩
              · rw [has_mid lo c1]
                constructor
                · intro e
                  rw [← Option.some.inj e]
                  exact decide_eq_true zm
                · intro e
                  have em := of_decide_eq_true e
                  obtain ⟨j, hj, ej⟩ := List.mem_iff_getElem.mp em
                  have hj' : l.ms[j]? = some (n + 1) := by rw [List.getElem?_eq_getElem hj, ej]
                  rcases Nat.lt_trichotomy j i with h | h | h
                  · have := no j _ h hj'
                    omega
                  · subst h
                    rw [hz] at hj'
                    exact hj'
                  · obtain ⟨hi, ei⟩ := List.getElem?_eq_some_iff.mp hz
                    have := List.pairwise_iff_getElem.mp wf.asc i j hi hj h
                    rw [ei, ej] at this
                    omega
              · exact iff_no st2 (by omega)
            · refine ⟨_, rfl, e4.trans e5, fun j y hj hy => ?_⟩
              have d1 : ¬ at_ ≤ z := of_decide_eq_false d
              by_cases cj : j = i
              · subst cj
                rw [hz] at hy
                cases hy
                omega
              · exact no j y (by omega) hy
          · rintro σ' H' ⟨x, rfl, e4, no⟩
            refine Evl.s_asg (ev_high (L3.mono e4) rfl) fun H5 e5 => ⟨_, _, rfl, ((e2.trans e3).trans e4).trans e5, Int.le_refl _, .inr ?_⟩
            rcases st with rfl | ⟨st1, st2⟩
            · refine ⟨c1, ?_⟩
              rw [has_mid lo c1]
              refine decide_eq_false fun em => ?_
              obtain ⟨j, hj, ej⟩ := List.mem_iff_getElem.mp em
              have := no j _ hj (by rw [List.getElem?_eq_getElem hj, ej])
              omega
            · exact ⟨by omega, st2⟩
        · have c1 : ¬ at_ < l.high := of_decide_eq_false c
          exact ⟨_, _, rfl, e2.trans e3, by omega, st⟩
      · rintro σ' H' ⟨at_, x, rfl, e2, lo, st⟩
        have L2 := L.mono e2
        refine q_forW2 (lo := at_) (hi := at_ + l.st) (Evl.ea_cons (Evl.ev_var rfl) (Evl.ea_cons (ev_add (Evl.ev_var rfl) (ev_step L2 rfl)) Evl.ea_nil)) (fun i σ' H' => ∃ x, σ' = [some v, some (.int n), some (.int at_), x] ∧ Ex H H' ∧ (0 < i → l.has (n + 1) = false)) (fun H3 e3 => ⟨x, rfl, e2.trans e3, fun h => absurd h (by omega)⟩) ?_ ?_
        · rintro i σ' H' hi ⟨x, rfl, e3, no⟩
          have L3 := L.mono e3
          refine Evl.s_when (Evl.et_test (ev_inA L3 rfl (ev_mod (Evl.ev_var rfl) (ev_step L3 rfl) s0))) (fun d H4 e4 => ?_) (fun d H4 e4 => ?_)
          · refine s_retE (Evl.ev_var rfl) fun H5 e5 => k (some (at_ + (i : Int))) _ ((e3.trans e4).trans e5) ?_
            rcases st with rfl | ⟨st1, st2⟩
            · by_cases ci : i = 0
              · subst ci
                have d' : decide ((n + 1) % l.st ∈ l.ab) = true := by
                  have dd := d
                  rw [show n + 1 + ((0 : Nat) : Int) = n + 1 by omega] at dd
                  exact dd
                rw [has_hi wf lo, d', show n + 1 + ((0 : Nat) : Int) = n + 1 by omega]
                exact ⟨fun _ => rfl, fun _ => rfl⟩
              · exact iff_no (no (by omega)) (by omega)
            · exact iff_no st2 (by omega)
          · refine ⟨_, rfl, e3.trans e4, fun _ => ?_⟩
            rcases st with rfl | ⟨st1, st2⟩
            · by_cases ci : i = 0
              · subst ci
                have d' : decide ((n + 1) % l.st ∈ l.ab) = false := by
                  have dd := d
                  rw [show n + 1 + ((0 : Nat) : Int) = n + 1 by omega] at dd
                  exact dd
                rw [has_hi wf lo, d']
              · exact no (by omega)
            · exact st2
        · rintro σ' H' ⟨x, rfl, e3, no⟩
          refine s_retE Evl.ev_c fun H4 e4 => k none _ (e3.trans e4) ⟨fun h => (by cases h), fun h => ?_⟩
          rw [no (by omega)] at h
          cases h
theorem sc_next_above : FnScope ["lot", "number"] ["lot", "number"] (defScope sNextAbove) := ⟨rfl, rfl, rfl, by decide +kernel, rfl, by decide +kernel, by decide +kernel⟩
theorem ok_next_above (T : Txt K mg) : Gd P w K mg base CX0 3 (He.ga K "next_above") ["lot", "number"] (spNext K) := by
  have G_check_integer : Gd P w K mg base CX0 2 (He.ga K "check_integer") ["thing"] spCheck := ok_check_integer T
  have G_next_above_of : Gd P w K mg base CX0 1 (He.ga K "next_above_of") ["lot", "number"] (spNext K) := ok_next_above_of T
  refine Fn.good T.f_next_above sc_next_above (fun _ _ _ _ _ _ us hl => match us, hl with | [_, _], _ => rfl) (fun vs H Q E h => ?_) (fun cdv A outer s H vs Q E hr h => ?_)
  · obtain ⟨v, l, n, rfl, _⟩ := h
    rfl
  · obtain ⟨v, l, n, rfl, L, wf, k⟩ := h
    refine ⟨_, (pss_cons (ps_expr (pcl G_check_integer (hr.mono (by decide)) T.g_check_integer (pa_cons (pv 1) pa_nil)))
      (pss_one (ps_ret (pcl G_next_above_of (hr.mono (by decide)) T.g_next_above_of (pa_cons (pv 0) (pa_cons (pv 1) pa_nil)))))), ?_⟩
    refine Evl.q_drop (ev_callV (Evl.ea_cons (Evl.ev_var rfl) Evl.ea_nil) sp_check) fun H1 e1 => ?_
    refine s_retP (evp_call (Evl.ea_cons (Evl.ev_var rfl) (Evl.ea_cons (Evl.ev_var rfl) Evl.ea_nil)) (sp_next (L.mono e1) wf)) fun u H2 e2 p => ?_
    obtain ⟨o, rfl, ho⟩ := p
    exact k o _ (e1.trans e2) ho
theorem sc_many_with : FnScope ["rests", "step", "one", "other", "rest"] ["rests", "step", "one", "other"] (defScope sManyWith) := ⟨rfl, rfl, rfl, by decide +kernel, rfl, by decide +kernel, by decide +kernel⟩
theorem ok_many_with (T : Txt K mg) : Gd P w K mg base CX0 1 (He.ga K "many_with") ["rests", "step", "one", "other"] spManyWith := by
  refine Fn.good T.f_many_with sc_many_with (fun _ _ _ _ _ _ us hl => match us, hl with | [_, _, _, _], _ => rfl) (fun vs H Q E h => ?_) (fun cdv A outer s H vs Q E hr h => ?_)
  · obtain ⟨p, ns, st, a, b, rfl, _⟩ := h
    rfl
  · obtain ⟨p, ns, st, a, b, rfl, hp, hz, s0, s1, k⟩ := h
    refine ⟨_, (pss_cons (ps_if (pt_cmpR op_le (pv 3) (pv 2) (nomark _)) (pss_one (ps_ret pe_int)) pss_nil)
      (pss_one (ps_ret (pe_callB (cr_sum rfl) (by rfl) T.n_sum (by decide +kernel) (pa_cons (pe_lc (own := [("rest", 4)]) (g := gName 4) rfl sc_many_with.nd (pi_tup (pv 0)) (blkOk_by (N := ["rests", "step", "one", "other", "rest"]) (sc := defScope sManyWith) (by decide +kernel)) (fun _ _ _ _ _ => pg_name (i := 4) sc_many_with.nd rfl (Or.inl rfl)) (fun _ _ _ _ _ => pts_nil) (fun _ _ _ _ _ => (pe_op op_sub (pe_op op_fdiv (pe_op op_sub (pe_op op_sub (pv 3) pe_int) (pv 4)) (pv 1)) (pe_op op_fdiv (pe_op op_sub (pe_op op_sub (pv 2) pe_int) (pv 4)) (pv 1))))) pa_nil))))), ?_⟩
    unfold manyW at k
    refine Evl.q_when (et_le (Evl.ev_var rfl) (Evl.ev_var rfl)) (fun c H1 e1 => ?_) (fun c H1 e1 => ?_)
    · rw [if_pos (of_decide_eq_true c)] at k
      exact s_retE Evl.ev_c fun H2 e2 => k _ (e1.trans e2)
    · rw [if_neg (of_decide_eq_false c)] at k
      refine s_retE (ev_sum (ns := ns.map fun r => (b - 1 - r) / st - (a - 1 - r) / st) (EvL.is (el_T (ns := ns) (fun _ => true) (fun r => V.int ((b - 1 - r) / st - (a - 1 - r) / st)) (Evl.ev_var rfl) (e1 _ _ hp) hz (fun x => rfl) (fun z Hz _ _ => et_yes) (fun z Hz _ ez _ => ?_)) ?_)) fun H2 e2 => k _ (e1.trans e2)
      · exact ev_sub (ev_fdiv (ev_sub (ev_sub (Evl.ev_var rfl) Evl.ev_c) (Evl.ev_var rfl)) (Evl.ev_var rfl) ⟨s0, by omega⟩) (ev_fdiv (ev_sub (ev_sub (Evl.ev_var rfl) Evl.ev_c) (Evl.ev_var rfl)) (Evl.ev_var rfl) ⟨s0, by omega⟩)
      · rw [filter_yes]
        unfold vI
        rw [List.map_map]
        rfl
theorem sc_many_in : FnScope ["lot", "one", "other", "many", "number"] ["lot", "one", "other"] (defScope sManyIn) := ⟨rfl, rfl, rfl, by decide +kernel, rfl, by decide +kernel, by decide +kernel⟩
theorem ok_many_in (T : Txt K mg) : Gd P w K mg base CX0 3 (He.ga K "many_in") ["lot", "one", "other"] (spManyIn K) := by
  have G_check_integer : Gd P w K mg base CX0 2 (He.ga K "check_integer") ["thing"] spCheck := ok_check_integer T
  have G_many_with : Gd P w K mg base CX0 1 (He.ga K "many_with") ["rests", "step", "one", "other"] spManyWith := ok_many_with T
  refine Fn.good T.f_many_in sc_many_in (fun _ _ _ _ _ _ us hl => match us, hl with | [_, _, _], _ => rfl) (fun vs H Q E h => ?_) (fun cdv A outer s H vs Q E hr h => ?_)
  · obtain ⟨v, l, a, b, rfl, _⟩ := h
    rfl
  · obtain ⟨v, l, a, b, rfl, L, wf, s1, mz, k⟩ := h
    refine ⟨_, (pss_cons (ps_expr (pcl G_check_integer (hr.mono (by decide)) T.g_check_integer (pa_cons (pv 1) pa_nil)))
      (pss_cons (ps_expr (pcl G_check_integer (hr.mono (by decide)) T.g_check_integer (pa_cons (pv 2) pa_nil)))
      (pss_cons (ps_set (i := 3) sc_many_in.nd rfl (Or.inl rfl) (pcl G_many_with (hr.mono (by decide)) T.g_many_with (pa_cons (kFld (K := K) rfl (pv 0) rfl) (pa_cons (kFld (K := K) rfl (pv 0) rfl) (pa_cons (pv 1) (pa_cons (pe_callB (call_min2 rfl) (by rfl) T.n_min (by decide +kernel) (pa_cons (pv 2) (pa_cons (kFld (K := K) rfl (pv 0) rfl) pa_nil))) pa_nil))))))
      (pss_cons (ps_aug (i := 3) sc_many_in.nd rfl (Or.inl rfl) (pe_callB (kLen (K := K) rfl) (by rfl) T.n_len (by decide +kernel) (pa_cons (pe_lc (own := [("number", 4)]) (g := gName 4) rfl sc_many_in.nd (pi_tup (kFld (K := K) rfl (pv 0) rfl)) (blkOk_by (N := ["lot", "one", "other", "many", "number"]) (sc := defScope sManyIn) (by decide +kernel)) (fun _ _ _ _ _ => pg_name (i := 4) sc_many_in.nd rfl (Or.inl rfl)) (fun _ _ _ _ _ => pts_one (pt_chain op_le op_lt (pv 1) (pv 4) (pv 2))) (fun _ _ _ _ _ => (pv 4))) pa_nil)) ip_add)
      (pss_one (ps_ret (pe_op op_add (pv 3) (pcl G_many_with (hr.mono (by decide)) T.g_many_with (pa_cons (kFld (K := K) rfl (pv 0) rfl) (pa_cons (kFld (K := K) rfl (pv 0) rfl) (pa_cons (pe_callB (call_max2 rfl) (by rfl) T.n_max (by decide +kernel) (pa_cons (pv 1) (pa_cons (kFld (K := K) rfl (pv 0) rfl) pa_nil))) (pa_cons (pv 2) pa_nil)))))))))))), ?_⟩
    have s0 := wf.pos
    have bz : l.bl.length < sizeLine := by have := wf.bl.len s0 s1; rw [sizeLine_eq]; omega
    have az : l.ab.length < sizeLine := by have := wf.ab.len s0 s1; rw [sizeLine_eq]; omega
    refine Evl.q_drop (ev_callV (Evl.ea_cons (Evl.ev_var rfl) Evl.ea_nil) sp_check) fun H1 e1 => ?_
    refine Evl.q_drop (ev_callV (Evl.ea_cons (Evl.ev_var rfl) Evl.ea_nil) sp_check) fun H2 e2 => ?_
    have L2 := (L.mono e1).mono e2
    obtain ⟨pb, eb, hb⟩ := ev_tb (i := 0) L2 (σ := [some v, some (.int a), some (.int b), none, none]) rfl
    refine Evl.q_asg (ev_callV (Evl.ea_cons eb (Evl.ea_cons (ev_step L2 rfl) (Evl.ea_cons (Evl.ev_var rfl) (Evl.ea_cons (ev_min2 (Evl.ev_var rfl) (ev_low L2 rfl)) Evl.ea_nil)))) (sp_many_with hb bz s0 s1)) fun H3 e3 => ?_
    have L3 := L2.mono e3
    obtain ⟨pm, em, hm⟩ := ev_tm (i := 0) L3 (σ := [some v, some (.int a), some (.int b), some (.int (manyW l.bl l.st a (min b l.low))), none]) rfl
    refine Evl.q_aug (f := fun i j => i + j) rfl (Evl.ev_is (ev_lenN (el_T (ns := l.ms) (fun n => decide (a ≤ n ∧ n < b)) V.int em hm mz (fun x => rfl) (fun z Hz _ ez => ?_) (fun z Hz _ ez _ => Evl.ev_var rfl))) (by rw [List.length_map])) fun H4 e4 => ?_
    · refine Evl.et_is (Evl.et_test (ev_chain (Evl.ev_var rfl) (Evl.ev_var rfl) (Evl.ev_var rfl) (Evl.rv_I0 (g := fun i j => .bl (decide (i ≤ j)))) (Evl.rv_I0 (g := fun i j => .bl (decide (i < j)))))) ?_
      exact (Bool.decide_and _ _).symm
    · have L4 := L3.mono e4
      obtain ⟨pa, ea, ha⟩ := ev_ta (i := 0) L4 (σ := [some v, some (.int a), some (.int b), some (.int (manyW l.bl l.st a (min b l.low) + ((l.ms.filter fun n => decide (a ≤ n ∧ n < b)).length : Int))), none]) rfl
      exact s_retE (ev_add (Evl.ev_var rfl) (ev_callV (Evl.ea_cons ea (Evl.ea_cons (ev_step L4 rfl) (Evl.ea_cons (ev_max2 (Evl.ev_var rfl) (ev_high L4 rfl)) (Evl.ea_cons (Evl.ev_var rfl) Evl.ea_nil)))) (sp_many_with ha az s0 s1))) fun H5 e5 => k _ ((((e1.trans e2).trans e3).trans e4).trans e5)
end
end Nv
set_option linter.all false
set_option Elab.async false
/-! NvMath3: how many. -/
namespace Nv
open PySem PySem.Spec PyProof.Rows L2
theorem div_step {b r st : Int} (s0 : 0 < st) (h0 : 0 ≤ r) (h1 : r < st) : (b - r) / st - (b - 1 - r) / st = if b % st = r then 1 else 0 := by
  have e1 := Int.emod_add_mul_ediv (b - r) st
  have e2 := Int.emod_add_mul_ediv (b - 1 - r) st
  have e3 := Int.emod_add_mul_ediv b st
  have a1 := emod_lt' (a := b - r) s0
  have a2 := emod_nn (a := b - r) s0
  have b1 := emod_lt' (a := b - 1 - r) s0
  have b2 := emod_nn (a := b - 1 - r) s0
  have c1 := emod_lt' (a := b) s0
  have c2 := emod_nn (a := b) s0
  have nl : ∀ (x : Int), 0 < x → st ≤ st * x := fun x hx => by
    have := Int.mul_le_mul_of_nonneg_left (show (1 : Int) ≤ x by omega) (Int.le_of_lt s0)
    omega
  have small : ∀ (x y : Int), st * x - st * y < st → -st < st * x - st * y → x = y := fun x y g1 g2 => by
    rcases Int.lt_trichotomy x y with h | h | h
    · have z := nl (y - x) (by omega)
      rw [Int.mul_sub] at z
      omega
    · exact h
    · have z := nl (x - y) (by omega)
      rw [Int.mul_sub] at z
      omega
  split
  · rename_i h
    -- b - r = st * (b / st)
    have q1 : (b - r) / st = b / st := by
      refine small _ _ ?_ ?_ <;> omega
    have q2 : (b - 1 - r) / st = b / st - 1 := by
      refine small _ _ ?_ ?_ <;> (rw [Int.mul_sub, Int.mul_one]; omega)
    omega
  · rename_i h
    have q1 : (b - r) / st = (b - 1 - r) / st := by
      rcases Int.lt_or_le r (b % st) with g | g
      · have q3 : (b - r) / st = b / st := by refine small _ _ ?_ ?_ <;> omega
        have q4 : (b - 1 - r) / st = b / st := by refine small _ _ ?_ ?_ <;> omega
        omega
      · have q3 : (b - r) / st = b / st - 1 := by refine small _ _ ?_ ?_ <;> (rw [Int.mul_sub, Int.mul_one]; omega)
        have q4 : (b - 1 - r) / st = b / st - 1 := by refine small _ _ ?_ ?_ <;> (rw [Int.mul_sub, Int.mul_one]; omega)
        omega
    omega
theorem sum_step : ∀ {ns : List Int} {st a b : Int}, 0 < st → ns.Nodup → (∀ r ∈ ns, 0 ≤ r ∧ r < st) →
    (ns.map fun r => (b + 1 - 1 - r) / st - (a - 1 - r) / st).sum = (ns.map fun r => (b - 1 - r) / st - (a - 1 - r) / st).sum + if b % st ∈ ns then 1 else 0
  | [], st, a, b, _, _, _ => by simp
  | r :: rs, st, a, b, s0, hn, hb => by
    have hn' := List.nodup_cons.mp hn
    have ih := sum_step (a := a) (b := b) s0 hn'.2 (fun x hx => hb x (List.mem_cons_of_mem _ hx))
    have hr := hb r List.mem_cons_self
    have st1 := div_step (b := b) s0 hr.1 hr.2
    rw [List.map_cons, List.map_cons, List.sum_cons, List.sum_cons, ih]
    rw [show b + 1 - 1 - r = b - r by omega]
    by_cases c : b % st = r
    · rw [if_pos c] at st1
      rw [if_neg (by rw [c]; exact hn'.1), if_pos (by rw [c]; exact List.mem_cons_self)]
      omega
    · rw [if_neg c] at st1
      by_cases d : b % st ∈ rs
      · rw [if_pos d, if_pos (List.mem_cons_of_mem _ d)]
        omega
      · rw [if_neg d, if_neg (fun m => by
          rcases List.mem_cons.mp m with e | e
          · exact c e
          · exact d e)]
        omega
theorem sum_self (ns : List Int) (st a : Int) : (ns.map fun r => (a - 1 - r) / st - (a - 1 - r) / st).sum = 0 := by
  induction ns with
  | nil => rfl
  | cons r rs ih =>
    rw [List.map_cons, List.sum_cons, ih]
    omega
theorem manyW_le {ns : List Int} {st a b : Int} (h : a ≤ b) : manyW ns st a b = (ns.map fun r => (b - 1 - r) / st - (a - 1 - r) / st).sum := by
  unfold manyW
  split
  · rename_i c
    rw [show b = a by omega, sum_self]
  · rfl
theorem manyW_ge {ns : List Int} {st a b : Int} (h : b ≤ a) : manyW ns st a b = 0 := by
  unfold manyW
  rw [if_pos h]
theorem manyW_step {ns : List Int} {st a b : Int} (s0 : 0 < st) (h : Rests st ns) (hab : a ≤ b) : manyW ns st a (b + 1) = manyW ns st a b + if b % st ∈ ns then 1 else 0 := by
  rw [manyW_le (by omega), manyW_le hab]
  exact sum_step s0 h.nodup h.bnd
theorem filt_step : ∀ {ms : List Int} {a b : Int}, ms.Nodup → a ≤ b → ((ms.filter fun n => decide (a ≤ n ∧ n < b + 1)).length : Int) = ((ms.filter fun n => decide (a ≤ n ∧ n < b)).length : Int) + if b ∈ ms then 1 else 0
  | [], a, b, _, _ => by simp
  | m :: r, a, b, hn, hab => by
    have hn' := List.nodup_cons.mp hn
    have ih := filt_step (a := a) (b := b) hn'.2 hab
    by_cases c : b = m
    · subst c
      rw [if_neg hn'.1] at ih
      rw [List.filter_cons, List.filter_cons, if_pos (decide_eq_true ⟨hab, by omega⟩), if_neg (by rw [decide_eq_false (by omega)]; decide), if_pos List.mem_cons_self, List.length_cons]
      omega
    · have e : (if b ∈ m :: r then (1 : Int) else 0) = if b ∈ r then 1 else 0 := by
        by_cases d : b ∈ r
        · rw [if_pos d, if_pos (List.mem_cons_of_mem _ d)]
        · rw [if_neg d, if_neg (fun q => by
            rcases List.mem_cons.mp q with e | e
            · exact c e
            · exact d e)]
      rw [e, List.filter_cons, List.filter_cons]
      by_cases d : a ≤ m ∧ m < b
      · rw [if_pos (decide_eq_true (by omega)), if_pos (decide_eq_true d), List.length_cons, List.length_cons]
        omega
      · rw [if_neg (by rw [decide_eq_false (by omega)]; decide), if_neg (by rw [decide_eq_false d]; decide)]
        exact ih
def cnt (f : Int → Bool) (a : Int) : Nat → Int
  | 0 => 0
  | n + 1 => cnt f a n + if f (a + (n : Int)) = true then 1 else 0
theorem many_cnt {l : P6} (wf : l.Wf) (a : Int) : ∀ n : Nat, manyI l a (a + (n : Int)) = cnt l.has a n
  | 0 => by
    have wl := wf.le
    unfold manyI cnt
    rw [manyW_ge (by omega), manyW_ge (by omega)]
    rw [show l.ms.filter (fun n => decide (a ≤ n ∧ n < a + ((0 : Nat) : Int))) = [] from List.filter_eq_nil_iff.mpr fun x _ h => by have := of_decide_eq_true h; omega]
    rfl
  | n + 1 => by
    have ih := many_cnt wf a n
    have wl := wf.le
    have s0 := wf.pos
    have nd : l.ms.Nodup := wf.asc.imp fun a => Int.ne_of_lt a
    unfold manyI at ih ⊢
    rw [show a + ((n + 1 : Nat) : Int) = a + (n : Int) + 1 by omega]
    have f1 := filt_step (ms := l.ms) (a := a) (b := a + (n : Int)) nd (by omega)
    unfold cnt
    rw [← ih]
    by_cases c1 : a + (n : Int) < l.low
    · have nm : a + (n : Int) ∉ l.ms := fun m => by have := wf.bnd _ m; omega
      rw [has_lo c1]
      rw [if_neg nm] at f1
      have w1 := manyW_step (a := a) (b := a + (n : Int)) s0 wf.bl (by omega)
      rw [show min (a + (n : Int) + 1) l.low = a + (n : Int) + 1 by omega, show min (a + (n : Int)) l.low = a + (n : Int) by omega]
      rw [manyW_ge (ns := l.ab) (st := l.st) (show a + (n : Int) + 1 ≤ max a l.high by omega), manyW_ge (ns := l.ab) (st := l.st) (show a + (n : Int) ≤ max a l.high by omega)]
      rw [w1, f1]
      by_cases d : (a + (n : Int)) % l.st ∈ l.bl
      · rw [if_pos d, if_pos (decide_eq_true d)]
        omega
      · rw [if_neg d, if_neg (by rw [decide_eq_false d]; decide)]
        omega
    · by_cases c2 : a + (n : Int) < l.high
      · rw [has_mid (by omega) c2]
        rw [show min (a + (n : Int) + 1) l.low = l.low by omega, show min (a + (n : Int)) l.low = l.low by omega]
        rw [manyW_ge (ns := l.ab) (st := l.st) (show a + (n : Int) + 1 ≤ max a l.high by omega), manyW_ge (ns := l.ab) (st := l.st) (show a + (n : Int) ≤ max a l.high by omega)]
        rw [f1]
        by_cases d : a + (n : Int) ∈ l.ms
        · rw [if_pos d, if_pos (decide_eq_true d)]
          omega
        · rw [if_neg d, if_neg (by rw [decide_eq_false d]; decide)]
          omega
      · have nm : a + (n : Int) ∉ l.ms := fun m => by have := wf.bnd _ m; omega
        rw [if_neg nm] at f1
        rw [has_hi wf (by omega)]
        rw [show min (a + (n : Int) + 1) l.low = l.low by omega, show min (a + (n : Int)) l.low = l.low by omega]
        have w1 := manyW_step (a := max a l.high) (b := a + (n : Int)) s0 wf.ab (by omega)
        rw [w1, f1]
        by_cases d : (a + (n : Int)) % l.st ∈ l.ab
        · rw [if_pos d, if_pos (decide_eq_true d)]
          omega
        · rw [if_neg d, if_neg (by rw [decide_eq_false d]; decide)]
          omega
theorem sum_const {ns : List Int} {st a b c : Int} (s0 : 0 < st) (h : b = a + st * c) : (ns.map fun r => (b - 1 - r) / st - (a - 1 - r) / st).sum = c * (ns.length : Int) := by
  induction ns with
  | nil => simp
  | cons r rs ih =>
    have e : (b - 1 - r) / st = (a - 1 - r) / st + c := by
      rw [show b - 1 - r = (a - 1 - r) + st * c by omega, Int.add_mul_ediv_left _ _ (by omega)]
    rw [List.map_cons, List.sum_cons, ih, List.length_cons, e]
    have : c * ((rs.length + 1 : Nat) : Int) = c * (rs.length : Int) + c := by
      rw [show ((rs.length + 1 : Nat) : Int) = (rs.length : Int) + 1 by omega, Int.mul_add, Int.mul_one]
    omega
theorem many_parts {p : P6} (wf : p.Wf) : manyI p (p.low - 5 * p.st) (p.high + 3 * p.st) = 5 * (p.bl.length : Int) + (p.ms.length : Int) + 3 * (p.ab.length : Int) := by
  have wl := wf.le
  have s0 := wf.pos
  unfold manyI
  rw [show min (p.high + 3 * p.st) p.low = p.low by omega, show max (p.low - 5 * p.st) p.high = p.high by omega]
  rw [manyW_le (by omega), manyW_le (by omega), sum_const (c := 5) s0 (by omega), sum_const (c := 3) s0 (by omega)]
  rw [show p.ms.filter (fun n => decide (p.low - 5 * p.st ≤ n ∧ n < p.high + 3 * p.st)) = p.ms from List.filter_eq_self.mpr fun n m => decide_eq_true (by have := wf.bnd n m; omega)]
/-- the least form counts what the parts count -/
theorem many_least {p l : P6} (wf : p.Wf) (h : IsLeast p l) : manyI l (p.low - 5 * p.st) (p.high + 3 * p.st) = 5 * (p.bl.length : Int) + (p.ms.length : Int) + 3 * (p.ab.length : Int) := by
  have wl := wf.le
  have s0 := wf.pos
  have e : p.high + 3 * p.st = (p.low - 5 * p.st) + ((p.high + 3 * p.st - (p.low - 5 * p.st)).toNat : Int) := by omega
  rw [← many_parts wf, e, many_cnt (h.wf wf), many_cnt wf, show l.has = p.has from funext fun n => h.has wf n]
end Nv
set_option Elab.async false
set_option linter.all false
set_option maxRecDepth 100000
set_option maxHeartbeats 4000000
/-! NvErr: an own error over an own class over ValueError, whose __init__ says super().__init__(most) and keeps most: made, raised, its field read. -/
namespace Nv
open PySem PySem.W PySem.Calls PyProof.Rows PySem.HandSPX
/-! ### the text of __init__, by its places -/
def tmA : Arguments := { posonlyargs := [], args := [{ arg := "self", annotation := none, pos := ⟨6, 17, 6, 21⟩ }, { arg := "most", annotation := none, pos := ⟨6, 23, 6, 27⟩ }], vararg := none, kwonlyargs := [], kw_defaults := [], kwarg := none, defaults := [] }
def tmB1 : Stmt := .Expr (.Call (.Attribute (.Call (.Name "super" ⟨7, 8, 7, 13⟩) [] [] ⟨7, 8, 7, 15⟩) "__init__" ⟨7, 8, 7, 24⟩) [.Name "most" ⟨7, 25, 7, 29⟩] [] ⟨7, 8, 7, 30⟩) ⟨7, 8, 7, 30⟩
def tmB2 : Stmt := .Assign [.Attribute (.Name "self" ⟨8, 8, 8, 12⟩) "most" ⟨8, 8, 8, 17⟩] (.Name "most" ⟨8, 20, 8, 24⟩) ⟨8, 8, 8, 24⟩
def tmB : List Stmt := [tmB1, tmB2]
def tmS : Scope := { kind := .function, names := [(PySem.Str.ofString "self", .local), (PySem.Str.ofString "most", .local), (PySem.Str.ofString "__class__", .free), (PySem.Str.ofString "super", .globalImplicit)], isGenerator := false, isCoroutine := false, more := [] }
abbrev veL : List Value := [.type "ValueError", .type "Exception", .type "BaseException", .type "object"]
/-- what the written part says of TooMany, at C, and of its __init__, at fI -/
structure TmTxt (prog : Program) (K : Frag) (mg : Str → Option Value) (C fI : Addr) : Prop where
  gC : mg "TooMany" = some (.ref C)
  cls : ∃ nm q N bs bm sn sub ab col dd k0 k1 k2 k3 k5, K.lookup C = some (excClassObj nm q C N bs bm true sn sub ab col dd k0 k1 k2 k3 k5 "ValueError.__new__") ∧ refsVE bm = true
  sa : findIn K (.ref C) "__setattr__" = some (some (.builtin "object.__setattr__"))
  ga : findIn K (.ref C) "__getattribute__" = some (some (.builtin "BaseException.__getattribute__"))
  gg : findIn K (.ref C) "__getattr__" = some none
  noN : findIn K (.ref C) "most" = some none
  iC : findIn K (.ref C) "__init__" = some (some (.ref fI))
  tC : typeIn K (.ref fI) = some (.type "function")
  kC : keepIn K (.ref C) = true
  exC : subIn K (.ref C) (.type "BaseException") = some true
  tyC : typeIn K (.ref C) = some (.type "type")
  hdC : hasDictIn K C = true
  te : exmOne K (.ref C) (.ref C) = some true
  mgS : mg "super" = none
  tp : nsIn K cStatics "thirdparty.any" = some none
  up : ks_superIn K C C "__init__" = some (some (.builtin "ValueError.__init__"))
  ve : subIn K (.ref C) (.type "ValueError") = some true
  me : mroIn K C (.ref C) = some true
  ini : excInitIn K C veL "ValueError.__new__" = true
  noSup : (prog.main.scope.names.lookup ("super" : Str)).isSome = false
  fn : ∃ (oc : Value) (od : Option Addr) (doc pm : Value) (an : Option Addr) (cda cc : Addr) (ct : Value) (osl : Array (Option Value)) (cl : Value) (cld : Option Addr) (csl : Array (Option Value)) (dl : Value) (dld : Option Addr) (dsl : Array (Option Value)) (vs : Array Value) (file : Str) (tf : Tok),
    K.lookup fI = some ⟨oc, od, .func (ksFn "__init__" "TooMany.__init__" tmA tmB tmS .none .none doc pm an (.ref cda) ct cc), osl⟩ ∧ codeIn K (.ref cda) "TooMany.__init__" = true ∧
    K.lookup cc = some ⟨cl, cld, .cell (some (.ref C)), csl⟩ ∧ K.lookup cda = some ⟨dl, dld, .fields vs, dsl⟩ ∧ vs[2]? = some (.str file tf) ∧ ((prog.main.file : Str) == file) = true
/-- what __init__ leaves of a fresh exception at x -/
structure TmEnd (h h' : Heap) (x C dx t1 : Addr) (v : Value) : Prop where
  keep : ∀ b o, b ≠ x → h.get? b = some o → h'.get? b = some o
  obj : h'.get? x = some { cls := .ref C, dict := some dx, data := .fields #[.ref t1, .none, .none, .none, .bool false, .none] }
  dbig : h.objs.size ≤ dx
  dne : dx ≠ x
  ns : h'.Ns1 dx (fun y => if y = "most" then some v else none)
theorem nv_sz1 (v : Value) : [v].length ≤ sizeLine := by
  rw [sizeLine_eq]
  exact (by decide : 1 ≤ 16777216)
section
variable {prog : Program} {w : World} {A : Around} {E : Value → Shared → Prop} {R : Result → Shared → Prop} {s : Shared} {K : Frag} {mg : Str → Option Value} {C fI : Addr}
theorem ldK {M : Model} {s : Shared} {q : Str} {scope : Scope} {L a cc : Addr} {cd : Value} {m : Str → Option Value} {x : Str} {pos : Pos} {v : Value} {Q : Value → Shared → Prop} {A : Around} {E : Value → Shared → Prop} (hn : s.heap.Ns L m) (hv : m x = some v) (h : Q v s)
    (hk : scope.kind = .function := by rfl) (hl : (ksEnv q scope L a cd cc).kindOf x = some .local := by rfl) (hd : (x == ("__debug__" : Str)) = false := by decide) :
    wpAny M A (eval (.Name x pos) (ksEnv q scope L a cd cc)) Q E s := wpAny_Name (wpAny_loadName_local hk hl hn hv h) hd
theorem tm_init (T : TmTxt prog K mg C fI) {x t0 : Addr} {v : Value} (X : K.In s.heap) (G : s.heap.Ns mainGlobals mg) (Bl : ∃ mb, s.heap.Ns builtinsNs mb ∧ mb "super" = some (.type "super")) (hlim : s.heap.NoLimit) (hx : s.heap.get? x = some (excO C t0)) (hnx : K.lookup x = none) (hroom : A.depth < recursionLimit)
    (hq : ∀ h' tk dx t1, TmEnd s.heap h' x C dx t1 v → R (.ok (.ret .none)) { s with heap := h', toks := tk }) :
    codeAny (model prog w) A (.call (.ref fI) ⟨[.ref x, v], []⟩) R s := by
  obtain ⟨oc, od, doc, pm, an, cda, cc, ct, osl, cl, cld, csl, dl, dld, dsl, vs, file, tf, ho, hcd, hcell, hcode, hvs, hfile⟩ := T.fn
  obtain ⟨nm, q, N, bs, bm, sn, sub, ab, col, dd, k0, k1, k2, k3, k5, hC, hbm⟩ := T.cls
  have hcl : clsIn K C = some { name := nm, bases := bs, mro := .ref C :: bm, ns := N, qualname := q, hasDict := true, slotNames := sn, subclasses := sub, abstract := ab, collection := col, hasDel := false } := by unfold clsIn; rw [hC] <;> rfl
  refine ks_codeAny_call_defAt (fd := ksFn "__init__" "TooMany.__init__" tmA tmB tmS .none .none doc pm an (.ref cda) ct cc) (body := tmB) (binds := [("self", .ref x), ("most", v)]) hroom (X _ _ ho) rfl hlim (codeRec_of X hcd) rfl (BindsTo.of_eq (by first | rfl | with_unfolding_all rfl)) (show ∀ y ∈ tmS.names, y.2 ≠ .cell by decide) (fun y hy => by
    rcases List.mem_cons.mp hy with rfl | hy
    · rfl
    · rcases List.mem_cons.mp hy with rfl | hy
      · rfl
      · cases hy) (fun h₀ hns hk₁ => ?_)
  have hxL : s.heap.objs.size ≠ x := Nat.ne_of_gt (Heap.lt_size hx)
  -- the ground: all but x
  have XB : K.In (hideAll s.heap [x]) := fun y o hy => hideAll_get [x] (X y o hy) (fun m => by
    rw [List.mem_singleton.mp m, hnx] at hy
    cases hy)
  have FB : Fr (hideAll s.heap [x]) s.heap.objs.size h₀ (fun y => (([("self", .ref x), ("most", v)] : List (Str × Value)).reverse.lookup y)) := ⟨hns, fun y o hy => hk₁ y o (of_hideAll _ hy), Nat.le_of_eq (hideAll_size _ _)⟩
  have NB : News (hideAll s.heap [x]) s.heap.objs.size h₀ [(x, excO C t0)] := fun p hp => by
    obtain rfl := List.mem_singleton.mp hp
    exact ⟨hk₁ _ _ hx, Ne.symm hxL, hideAll_none _ (List.mem_singleton.mpr rfl)⟩
  have X₀ : K.In h₀ := X.keeps hk₁
  obtain ⟨mb, Bl1, Bl2⟩ := Bl
  show PySem.wpAt _ (A.deeper (ksEnv "TooMany.__init__" tmS s.heap.objs.size fI (.ref cda) cc)) (.func tmB (ksEnv "TooMany.__init__" tmS s.heap.objs.size fI (.ref cda) cc)) (execs [tmB1, tmB2] (ksEnv "TooMany.__init__" tmS s.heap.objs.size fI (.ref cda) cc)) _ _ _
  refine ks_wpAt_execs_cons ?_
  unfold tmB1
  refine ks_wpAt_Expr_any (ks_wpAt_MethodCall ?_)
  -- super()
  have cD : ∃ oD, h₀.get? C = some oD ∧ oD.data = .cls { name := nm, bases := bs, mro := .ref C :: bm, ns := N, qualname := q, hasDict := true, slotNames := sn, subclasses := sub, abstract := ab, collection := col, hasDel := false } := ⟨_, X₀ _ _ hC, rfl⟩
  obtain ⟨oD, hD1, hD2⟩ := cD
  refine ks_wpAt_super_base (env := ksEnv "TooMany.__init__" tmS s.heap.objs.size fI (.ref cda) cc) rfl rfl rfl rfl (X₀ _ _ ho) rfl rfl rfl (X₀ _ _ hcode) rfl hvs hfile T.noSup ?_
  refine ks_loadName_global rfl rfl (loadGlobal_builtin (env := ksEnv "TooMany.__init__" tmS s.heap.objs.size fI (.ref cda) cc) (G.keeps hk₁) T.mgS (Bl1.keeps hk₁) Bl2 ⟨rfl, ?_⟩)
  refine wpAny_loadName_free rfl rfl rfl ⟨_, X₀ _ _ hcell, rfl⟩ ?_
  refine wpAny_loadName_local rfl rfl hns (v := .ref x) rfl ?_
  refine ks_wpAny_isType_cls hD1 hD2 ⟨rfl, ?_⟩
  refine ks_wpAny_call_super hD1 hD2 (hk₁ _ _ hx) rfl (fun c e => by cases e) (looks_mroIn X₀ T.me) (fun h1 e1 k1 => ?_)
  obtain ⟨F1, N1, l1⟩ := ks_newsPush (s := { s with heap := h₀, toks := s.toks + [(("self" : Str), (.ref x : Value)), ("most", v)].length }) FB NB rfl e1 k1
  -- .__init__
  refine kxs_method (s := { s with heap := h1, toks := s.toks + 2 }) (D := C) (C := C) (odx := none) kxs_ValueError F1 XB N1 List.mem_cons_self ⟨k1 _ _ (hk₁ _ _ hx), rfl, rfl, trivial⟩ T.tp T.up T.ve rfl (fun q1 h2 F2 N2 l2 => ?_)
  -- its call
  refine kxs_callWith1 N2 List.mem_cons_self (spliced_more (ldK F2.ns (v := v) rfl (spliced_none ⟨kxs_at N2 List.mem_cons_self, ?_⟩)))
  have hxq : x ≠ q1 := Nat.ne_of_lt (l2 (x, excO C t0) (List.mem_cons_of_mem _ List.mem_cons_self))
  have hxs : x ≠ h₀.objs.size := Nat.ne_of_lt (l1 (x, excO C t0) List.mem_cons_self)
  have U : UpdF x (excObj C t0 none .none) [(q1, kxs_mw "ValueError.__init__" x), (h₀.objs.size, ks_superObj C x C), (x, excO C t0)] (fun o' => [(q1, kxs_mw "ValueError.__init__" x), (h₀.objs.size, ks_superObj C x C), (x, o')]) :=
    .tail (Ne.symm hxq) (.tail (Ne.symm hxs) (.head (fun p hp => by cases hp)))
  refine kxs_call (t := t0) (dv := none) (c2 := .none) F2 XB N2 F.excBase_ValueError T.ini List.mem_cons_self U (nv_sz1 v) (fun t' h3 F3 N3 l3 => ?_)
  show PySem.wpAt _ _ _ (execs [tmB2] _) _ _ _
  have hx3 : h3.get? x = some (excO C t') := (N3 (x, excObj C t' none .none) (by simp)).1
  have X3 : K.In h3 := XB.keeps F3.keep
  have hn := F3.ns
  refine wpAt_of_wpAny ?_
  unfold tmB2
  refine wpAny_execs_cons (plainObj_wpAny_Assign_Attribute ?_)
  refine ldK (v := v) hn rfl (ldK (v := .ref x) hn rfl ?_)
  refine set_plain X3 (ox := excO C t') (od := none) ⟨hx3, rfl, rfl, trivial⟩ T.sa ?_
  refine exc_osa X3 hx3 hcl (show refsVE (.ref C :: bm) = true from hbm) rfl T.noN (fun h4 tk4 dx k4 dn dne hx4 hn4 => ?_)
  show wpAny _ _ (execs _ _) _ _ _
  have z : s.heap.objs.size < h3.objs.size := hn.lt
  exact wpAny_execs_nil (hq h4 tk4 dx t' ⟨fun y o hy e => k4 y o hy (F3.keep y o (hideAll_get [x] e (fun m => hy (List.mem_singleton.mp m)))), hx4, Nat.le_of_lt (Nat.lt_of_lt_of_le z dn), dne, hn4⟩)
/-- a made TooMany -/
structure TmMade (h h' : Heap) (e C d : Addr) (v : Value) : Prop where
  keep : ∀ b o, h.get? b = some o → h'.get? b = some o
  new : h.objs.size ≤ e
  obj : ∃ oe vs, h'.get? e = some oe ∧ oe.cls = .ref C ∧ oe.dict = some d ∧ oe.data = .fields vs ∧ vs[1]? = some .none
  ctx : ∃ t, h'.get? e = some { cls := .ref C, dict := some d, data := .fields #[.ref t, .none, .none, .none, .bool false, .none] }
  dbig : h.objs.size ≤ d
  dne : d ≠ e
  ns : h'.Ns1 d (fun y => if y = "most" then some v else none)
theorem tm_made (T : TmTxt prog K mg C fI) {v : Value} (X : K.In s.heap) (G : s.heap.Ns mainGlobals mg) (Bl : ∃ mb, s.heap.Ns builtinsNs mb ∧ mb "super" = some (.type "super")) (hlim : s.heap.NoLimit) (hroom : A.depth + 1 < recursionLimit)
    (hq : ∀ h' tk e d, TmMade s.heap h' e C d v → R (.ok (.ret (.ref e))) { s with heap := h', toks := tk }) :
    codeAny (model prog w) A (.call (.ref C) ⟨[v], []⟩) R s := by
  obtain ⟨nm, q, N, bs, bm, sn, sub, ab, col, dd, k0, k1, k2, k3, k5, hC, hbm⟩ := T.cls
  obtain ⟨hp, g, dr, tk, os⟩ := s
  have k : ∀ b o, hp.get? b = some o → ((hp.push (kdv_tup [v])).push (excO C hp.objs.size)).get? b = some o := fun b o e => Heap.get?_push_of_some _ (Heap.get?_push_of_some _ e)
  have hget : ((hp.push (kdv_tup [v])).push (excO C hp.objs.size)).get? (hp.objs.size + 1) = some (excO C hp.objs.size) := by heap_get
  have hnx : K.lookup (hp.objs.size + 1) = none := by
    rcases e : K.lookup (hp.objs.size + 1) with _ | o
    · rfl
    · have z := Heap.lt_size (X _ _ e)
      exact absurd (Nat.lt_of_succ_lt z) (Nat.lt_irrefl _)
  obtain ⟨mb, Bl1, Bl2⟩ := Bl
  refine call_own F.excBase_ValueError (fun Y => refsVE_contains Y bm hbm) (X _ _ hC) (looks_findIn X T.iC) (fun self => bind_fn X self T.tC) (nv_sz1 v) ?_
  refine tm_init (s := ⟨(hp.push (kdv_tup [v])).push (excO C hp.objs.size), g, dr, tk, os⟩) T (X.keeps k) (G.keeps k) ⟨mb, Bl1.keeps k, Bl2⟩ (hlim.keeps k) hget hnx ?_ fun h' tk' dx t1 ⟨k', hx, dn, dne, hns⟩ => ?_
  · show A.depth + 1 < recursionLimit
    exact hroom
  · have old : ∀ b o, hp.get? b = some o → h'.get? b = some o := fun b o e => k' b o (Nat.ne_of_lt (Nat.lt_succ_of_lt (Heap.lt_size e))) (k b o e)
    have z : hp.objs.size + 1 + 1 ≤ dx := by
      first
        | (simpa only [Heap.size_push] using dn)
        | exact dn
    exact ⟨rfl, hq h' tk' (hp.objs.size + 1) dx ⟨old, Nat.le_succ _, ⟨_, _, hx, rfl, rfl, rfl, rfl⟩, ⟨_, hx⟩, Nat.le_trans (Nat.le_trans (Nat.le_succ _) (Nat.le_succ _)) z, dne, hns⟩⟩
end
end Nv
set_option Elab.async false
set_option linter.all false
set_option maxRecDepth 100000
set_option maxHeartbeats 4000000
/-! NvErr2: raise TooMany(e), and its field read in the suite that caught it. -/
namespace Nv
open PySem PySem.W PySem.Calls PySem.Spec PyProof.Rows L2
theorem relO_most {v : V} {v' : Value} (r : RelV v v') (f : Str) : RelO (List.lookup f [(("most" : Str), v)]) (if f = "most" then some v' else none) := by
  by_cases hw : f = "most"
  · subst hw
    rw [if_pos rfl, (by simp [List.lookup] : List.lookup ("most" : Str) [(("most" : Str), v)] = some v)]
    exact r
  · have qw : (f == ("most" : Str)) = false := by simpa using hw
    rw [if_neg hw, (by simp [List.lookup, qw] : List.lookup f [(("most" : Str), v)] = none)]
    trivial
section
variable {X : Cx} {C fI : Addr}
/-- TooMany(e) -/
def tMkTm (C : Addr) (ta : TA) : L2.St → Hp → XK → Prop := fun σ H Q => ta σ H fun vs H1 => ∃ v, vs = [v] ∧ ∀ d, H1 d = none → Q (.ref C) (some d) (upd H1 d (.xd [(("most" : Str), v)]))
theorem pmk_tm {a : Expr} {ta : TA} {p pos : Pos} {k : Nat} (T : TmTxt X.prog X.K X.mg C fI) (hr : Room k X.A) (ha : PA X [a] ta) (hg : Gl X "TooMany" := by rfl)
    (he : starEach (a :: []) X.env = (false, eval a X.env) :: starEach [] X.env := by rfl) (hpl : (backTo pos (starEach [] X.env)).any (·.1) = false := by rfl) :
    PMk X (.Call (.Name "TooMany" p) [a] [] pos) (tMkTm C ta) := by
  intro pins s σ H Q I h
  refine wpAny_Call_Name_kw (ld_glob I hg T.gC ?_)
  refine PySem.W.callWith_K (h₀ := X.base) I.ok.mod.kin T.kC (thn (ha.run pos pins s σ H _ I h) fun us s1 hh => ?_) he hpl
  obtain ⟨vs, H1, I1, r1, v, ev, q1⟩ := hh
  subst ev
  refine ⟨I1.kIn, ?_⟩
  cases r1 with
  | cons rv rn =>
    rename_i v' us'
    cases rn
    show wpAny _ _ (call (.ref C) [v']) _ _ _
    have hlim := I1.nolimit
    have hns0 := I1.ok.mod
    obtain ⟨hp, g, dr, tk, os⟩ := s1
    refine wpAny_call (tm_made T I1.kIn ?G ?B hlim (by have := hr.dp; omega) fun h' tk' e d M => ?_)
    case G => exact I1.mod.glob.keeps I1.bk
    case B =>
      obtain ⟨mb, b1, b2⟩ := I1.mod.blt
      exact ⟨mb, b1.keeps I1.bk, (b2 _ (by decide)).trans (by rfl)⟩
    show MkP X pins σ Q (.ref e) ⟨h', g, dr, tk', os⟩
    obtain ⟨oe, fv, hoe, hc, hd, hdat, h1⟩ := M.obj
    have hns := M.ns
    obtain ⟨G', g1, g2⟩ := restrict h' fun b => decide (b ≠ e)
    have gk : ∀ b, b ≠ e → G'.get? b = h'.get? b := fun b hb => g1 b (decide_eq_true hb)
    have ge : G'.get? e = none := g2 e (by simp)
    have old : ∀ b o, hp.get? b = some o → G'.get? b = some o := fun b o q => (gk b (Nat.ne_of_lt (Nat.lt_of_lt_of_le (Heap.lt_size q) M.new))).trans (M.keep b o q)
    have ob : ObjOk X.prog X.w (upd H1 d (.xd [(("most" : Str), v)])) G' d (.xd [(("most" : Str), v)]) :=
      ⟨_, hns.at (fun o q => (gk d M.dne).trans q), fun f => relO_most rv f⟩
    have J : Inv X pins σ (upd H1 d (.xd [(("most" : Str), v)])) ⟨G', g, dr, tk', os⟩ := I1.laid (t' := tk') old M.dbig ob
    refine ⟨e, oe, fv, ⟨G', g, dr, tk', os⟩, _, .ref C, some d, rfl, J, fun b o q => ?_, ge, hoe, ⟨hc, hd⟩, hdat, h1, ?_, rfl, I1.bare, raises_own T.exC T.tyC, q1 d (I1.hok.fresh M.dbig)⟩
    · by_cases hb : b = e
      · have q' : G'.get? b = some o := q
        rw [hb, ge] at q'; cases q'
      · exact (gk b hb).symm.trans q
    · rw [upd_ne (Ne.symm M.dne)]
      exact I1.hok.fresh M.new
/-- raise TooMany(e) -/
def tRaiseTm (C : Addr) (W : WX) (ta : TA) : TS := fun _ σ H => tMkTm C ta σ H fun cls d H' => W cls d σ H'
theorem ps_raiseTm {a : Expr} {ta : TA} {W : WX} {p pos pos2 : Pos} {k : Nat} (hc : X.calm = true) (T : TmTxt X.prog X.K X.mg C fI) (hr : Room k X.A) (tk : Takes X W) (ha : PA X [a] ta) (hg : Gl X "TooMany" := by rfl)
    (he : starEach (a :: []) X.env = (false, eval a X.env) :: starEach [] X.env := by rfl) (hpl : (backTo pos (starEach [] X.env)).any (·.1) = false := by rfl) :
    PS X (.Raise (some (.Call (.Name "TooMany" p) [a] [] pos)) none pos2) (tRaiseTm C W ta) := ps_raise hc tk (pmk_tm T hr ha hg he hpl)
/-- error.most, error the exception that the suite holds (at a; its class cls, its dict d) -/
def tMost (C : Addr) (a : Addr) (cls : Value) (d : Option Addr) (te : TE) : TE := fun σ H Q => te σ H fun x H1 => x = .ref a ∧ cls = .ref C ∧ ∃ (dd : Addr) (v : V), d = some dd ∧ H1 dd = some (.xd [(("most" : Str), v)]) ∧ Q v H1
theorem pe_most {a : Addr} {oe : Obj} {cls : Value} {d : Option Addr} {pn : List (Addr × Obj)} {e : Expr} {te : TE} {pos : Pos} (T : TmTxt X.prog X.K X.mg C fI) (hz : Zc cls d oe) (hf : ∃ vs, oe.data = .fields vs) (he : PE (X.suite a ((a, oe) :: pn)) e te)
    (hb : attributeBase e "most" X.env (eval e X.env) = eval e X.env := by rfl) :
    PE (X.suite a ((a, oe) :: pn)) (.Attribute e "most" pos) (tMost C a cls d te) := by
  refine ⟨fun pins s σ H Q I h => ?_⟩
  refine attr_of hb (thn (he.run pins s σ H _ I h) fun u s1 hh => ?_)
  obtain ⟨x, H1, I1, rx, ex, ec, dd, v, ed, ea, q⟩ := hh
  subst ex
  obtain rfl : u = Value.ref a := rx
  subst ec
  subst ed
  obtain ⟨ha, _⟩ := I1.pin (a, oe) (List.mem_append_left _ List.mem_cons_self)
  obtain ⟨vs, hd⟩ := hf
  have hx : ObjOk X.prog X.w H1 s1.heap dd (.xd [(("most" : Str), v)]) := I1.hok dd _ ea
  obtain ⟨mA, hns, hr⟩ := hx
  obtain ⟨od, ho, hl⟩ := lookIn_ns hns
  obtain ⟨u, hu, ru⟩ := RelO.some_of (v := v) (o := mA "most") (by rw [← (by simp [List.lookup] : List.lookup ("most" : Str) [(("most" : Str), v)] = some v)]; exact hr "most")
  have J : PySem.W.InstAt s1.heap a oe C (some od) := ⟨ha, hz.1, by unfold PySem.W.notCls; rw [hd] <;> rfl, by rw [hz.2]; exact ho⟩
  exact HandSPX.exc_get I1.kIn J T.ga T.gg T.exC (PySem.W.findObj_own T.hdC T.noN rfl (by rw [hl, hu])) (handed_of ru) ⟨v, H1, I1.tok _, ru, q⟩
end
end Nv
set_option Elab.async false
set_option linter.all false
set_option maxRecDepth 100000
/-! NvMath4: the law's own way to the borders: candidates, the greatest, the least. -/
namespace Nv
def upN (f hi k : Int) : Nat := if f < hi then ((hi - f - 1) / k + 1).toNat else 0
def dnN (f lo k : Int) : Nat := if f > lo then ((f - lo - 1) / k + 1).toNat else 0
theorem up_lt {f hi k : Int} {i : Nat} (k0 : 0 < k) : i < upN f hi k ↔ f + (i : Int) * k < hi := by
  unfold upN
  have nn : 0 ≤ (i : Int) * k := Int.mul_nonneg (by omega) (by omega)
  split
  · have h0 : 0 ≤ (hi - f - 1) / k := Int.ediv_nonneg (by omega) (by omega)
    have h1 := Int.le_ediv_iff_mul_le (a := (i : Int)) (b := hi - f - 1) k0
    constructor
    · intro h
      have := h1.mp (by omega)
      omega
    · intro h
      have := h1.mpr (by omega)
      omega
  · constructor
    · intro h
      omega
    · intro h
      omega
theorem dn_lt {f lo k : Int} {i : Nat} (k0 : 0 < k) : i < dnN f lo k ↔ lo < f - (i : Int) * k := by
  unfold dnN
  have nn : 0 ≤ (i : Int) * k := Int.mul_nonneg (by omega) (by omega)
  split
  · have h0 : 0 ≤ (f - lo - 1) / k := Int.ediv_nonneg (by omega) (by omega)
    have h1 := Int.le_ediv_iff_mul_le (a := (i : Int)) (b := f - lo - 1) k0
    constructor
    · intro h
      have := h1.mp (by omega)
      omega
    · intro h
      have := h1.mpr (by omega)
      omega
  · constructor
    · intro h
      omega
    · intro h
      omega
theorem up_size {f hi k : Int} (k0 : 0 < k) : PySem.Builtin.Range.rangeSize f hi k = (upN f hi k : Int) := by
  unfold PySem.Builtin.Range.rangeSize upN
  rw [if_pos k0]
  split
  · have h0 : 0 ≤ (hi - f - 1) / k := Int.ediv_nonneg (by omega) (by omega)
    omega
  · rfl
theorem dn_size {f lo k : Int} (k0 : 0 < k) : PySem.Builtin.Range.rangeSize f lo (-k) = (dnN f lo k : Int) := by
  unfold PySem.Builtin.Range.rangeSize dnN
  rw [if_neg (by omega), Int.neg_neg]
  split
  · have h0 : 0 ≤ (f - lo - 1) / k := Int.ediv_nonneg (by omega) (by omega)
    omega
  · rfl
theorem nodup_le : ∀ {l m : List Int}, l.Nodup → (∀ x ∈ l, x ∈ m) → l.length ≤ m.length
  | [], _, _, _ => Nat.zero_le _
  | a :: r, m, h, s => by
    have ha := s a List.mem_cons_self
    have h1 := List.nodup_cons.mp h
    have ih := nodup_le (m := m.erase a) h1.2 (fun x hx => (List.mem_erase_of_ne (fun e => h1.1 (by rw [← e]; exact hx))).mpr (s x (List.mem_cons_of_mem _ hx)))
    have e := List.length_erase_of_mem ha
    have := List.length_pos_of_mem ha
    rw [List.length_cons]
    omega
/-- among more numbers than ms has, one is not in ms -/
theorem pigeon {f c : Int} {n : Nat} {ms : List Int} (c0 : c ≠ 0) (h : ms.length < n) : ∃ i : Nat, i < n ∧ f + (i : Int) * c ∉ ms := by
  refine Classical.byContradiction fun q => ?_
  have all : ∀ x ∈ zR f c n, x ∈ ms := fun x hx => by
    obtain ⟨i, hi, rfl⟩ := mem_zR.mp hx
    exact Classical.byContradiction fun z => q ⟨i, hi, z⟩
  have nd : (zR f c n).Nodup := by
    unfold zR
    unfold List.Nodup
    rw [List.pairwise_map]
    refine List.Pairwise.imp ?_ List.pairwise_lt_range
    intro a b hab e
    have e' : (a : Int) * c = (b : Int) * c := by
      have e2 : f + (a : Int) * c = f + (b : Int) * c := e
      omega
    have := Int.eq_of_mul_eq_mul_right c0 e'
    omega
  have := nodup_le nd all
  rw [zR_len] at this
  omega
/-- the first of a list told by p: by any order that the list keeps -/
theorem take1 {R : Int → Int → Prop} {p : Int → Bool} (rr : ∀ x, R x x) : ∀ {l : List Int}, l.Pairwise R → ∀ y ∈ l, p y = true → ∃ x ∈ (l.filter p).take 1, R x y
  | [], _, y, hy, _ => by cases hy
  | a :: r, h, y, hy, py => by
    have h1 := List.pairwise_cons.mp h
    by_cases pa : p a = true
    · refine ⟨a, ?_, ?_⟩
      · rw [List.filter_cons_of_pos pa]
        exact List.mem_cons_self
      · rcases List.mem_cons.mp hy with rfl | hy
        · exact rr _
        · exact h1.1 y hy
    · rw [List.filter_cons_of_neg pa]
      rcases List.mem_cons.mp hy with rfl | hy
      · exact absurd py pa
      · exact take1 rr h1.2 y hy py
theorem zR_le {f c : Int} {n : Nat} (h : 0 ≤ c) : (zR f c n).Pairwise (· ≤ ·) := by
  unfold zR
  rw [List.pairwise_map]
  refine List.Pairwise.imp ?_ List.pairwise_lt_range
  intro a b hab
  have := Int.mul_le_mul_of_nonneg_right (show (a : Int) ≤ (b : Int) by omega) h
  omega
theorem zR_ge {f c : Int} {n : Nat} (h : c ≤ 0) : (zR f c n).Pairwise (· ≥ ·) := by
  unfold zR
  rw [List.pairwise_map]
  refine List.Pairwise.imp ?_ List.pairwise_lt_range
  intro a b hab
  have := Int.mul_le_mul_of_nonpos_right (show (a : Int) ≤ (b : Int) by omega) h
  show f + (a : Int) * c ≥ f + (b : Int) * c
  omega
/-! ### the candidates above -/
def topF (q : P6) (r : Int) : Int := q.high - 1 - (q.high - 1 - r) % q.st
def topN (q : P6) (r : Int) : Nat := dnN (topF q r) (max q.low (topF q r - 9 * q.st) - 1) q.st
def topC (q : P6) (r : Int) : List Int := ((zR (topF q r) (-q.st) (topN q r)).filter fun n => !decide (n ∈ q.ms)).take 1
def topM (q : P6) : List Int := q.ms.filter fun n => !decide (n % q.st ∈ q.ab)
def topB (q : P6) : List Int := (zR (q.low - q.st) 1 q.st.toNat).filter fun n => decide (n % q.st ∈ q.bl) != decide (n % q.st ∈ q.ab)
def oddL (q : P6) : List Int := topM q ++ q.ab.flatMap (topC q) ++ (if q.bl = q.ab then [] else topB q)
theorem topF_mod {q : P6} {r : Int} (s0 : 0 < q.st) (h0 : 0 ≤ r) (h1 : r < q.st) (j : Int) : (topF q r + j * q.st) % q.st = r := by
  unfold topF
  have e := Int.emod_add_mul_ediv (q.high - 1 - r) q.st
  rw [show q.high - 1 - (q.high - 1 - r) % q.st + j * q.st = r + q.st * ((q.high - 1 - r) / q.st + j) by rw [Int.mul_add, Int.mul_comm q.st j]; omega, mod_add_mul]
  exact mod_self_of h0 h1
theorem topF_lt {q : P6} {r : Int} (s0 : 0 < q.st) : topF q r < q.high := by
  unfold topF
  have := emod_nn (a := q.high - 1 - r) s0
  omega
/-- n below high with the rest r is so many steps below the first -/
theorem topF_at {q : P6} {n : Int} (s0 : 0 < q.st) (h : n < q.high) : ∃ j : Nat, n = topF q (n % q.st) + (j : Int) * (-q.st) := by
  have nn := emod_nn (a := n) s0
  have nl := emod_lt' (a := n) s0
  have e1 : (topF q (n % q.st)) % q.st = n % q.st := by
    have z := topF_mod (q := q) s0 nn nl 0
    rw [Int.zero_mul, Int.add_zero] at z
    exact z
  obtain ⟨j, hj⟩ := (mod_eq_iff s0).mp e1
  -- topF > high - 1 - st
  have g : q.high - 1 - q.st < topF q (n % q.st) := by
    unfold topF
    have := emod_lt' (a := q.high - 1 - n % q.st) s0
    omega
  have j0 : 0 ≤ j := by
    rcases Int.lt_or_le j 0 with c | c
    · have : q.st * j ≤ q.st * (-1) := Int.mul_le_mul_of_nonneg_left (by omega) (by omega)
      omega
    · exact c
  refine ⟨j.toNat, ?_⟩
  rw [Int.toNat_of_nonneg j0, Int.mul_neg, Int.mul_comm]
  omega
theorem topC_mem {q : P6} {r x : Int} (wf : q.Wf) (hr : r ∈ q.ab) (h : x ∈ topC q r) : x < q.high ∧ q.dif x := by
  have s0 := wf.pos
  obtain ⟨r0, r1⟩ := wf.ab.bnd r hr
  have h := List.mem_of_mem_take h
  obtain ⟨h1, h2⟩ := List.mem_filter.mp h
  obtain ⟨i, hi, rfl⟩ := mem_zR.mp h1
  have z := (dn_lt s0).mp hi
  have lt := topF_lt (q := q) (r := r) s0
  have nn : 0 ≤ (i : Int) * q.st := Int.mul_nonneg (by omega) (by omega)
  have em : (i : Int) * -q.st = -((i : Int) * q.st) := Int.mul_neg _ _
  have md : (topF q r + (i : Int) * -q.st) % q.st = r := by
    have z := topF_mod (q := q) s0 r0 r1 (-(i : Int))
    rw [Int.neg_mul] at z
    rw [em]
    exact z
  have lo : q.low ≤ topF q r + (i : Int) * -q.st := by omega
  have hi' : topF q r + (i : Int) * -q.st < q.high := by omega
  refine ⟨hi', ?_⟩
  unfold P6.dif P6.has inR
  rw [if_neg (by omega), if_pos hi', md, decide_eq_true hr]
  intro e
  rw [e] at h2
  cases h2
theorem topC_top {q : P6} {n : Int} (wf : q.Wf) (few : q.ms.length ≤ 6) (hm : n ∉ q.ms) (h0 : q.low ≤ n) (h1 : n < q.high) : ∃ x ∈ topC q (n % q.st), n ≤ x := by
  have s0 := wf.pos
  obtain ⟨j, hj⟩ := topF_at (q := q) (n := n) s0 h1
  have key : ∃ y ∈ zR (topF q (n % q.st)) (-q.st) (topN q (n % q.st)), y ∉ q.ms ∧ n ≤ y := by
    by_cases c : j < topN q (n % q.st)
    · exact ⟨n, mem_zR.mpr ⟨j, c, hj⟩, hm, Int.le_refl _⟩
    · -- all ten stand
      have c' : ¬ (max q.low (topF q (n % q.st) - 9 * q.st) - 1 < topF q (n % q.st) - (j : Int) * q.st) := fun z => c ((dn_lt s0).mpr z)
      have em : (j : Int) * -q.st = -((j : Int) * q.st) := Int.mul_neg _ _
      have j9 : topF q (n % q.st) - (j : Int) * q.st < topF q (n % q.st) - 9 * q.st := by omega
      have jj : 9 < (j : Int) := by
        rcases Int.lt_or_le 9 (j : Int) with z | z
        · exact z
        · have : (j : Int) * q.st ≤ 9 * q.st := Int.mul_le_mul_of_nonneg_right z (by omega)
          omega
      obtain ⟨i, hi, hn⟩ := pigeon (f := topF q (n % q.st)) (c := -q.st) (n := 10) (ms := q.ms) (by omega) (by omega)
      have i9 : (i : Int) * q.st ≤ 9 * q.st := Int.mul_le_mul_of_nonneg_right (by omega) (by omega)
      have ei : (i : Int) * -q.st = -((i : Int) * q.st) := Int.mul_neg _ _
      exact ⟨_, mem_zR.mpr ⟨i, (dn_lt s0).mpr (by omega), rfl⟩, hn, by omega⟩
  obtain ⟨y, hy, ny, le⟩ := key
  obtain ⟨x, hx, ge⟩ := take1 (R := (· ≥ ·)) (p := fun n => !decide (n ∈ q.ms)) (fun x => Int.le_refl x) (zR_ge (by omega)) y hy (by simp [ny])
  exact ⟨x, hx, Int.le_trans le ge⟩
theorem odd_mem {q : P6} {x : Int} (wf : q.Wf) (h : x ∈ oddL q) : x < q.high ∧ q.dif x := by
  have s0 := wf.pos
  have wl := wf.le
  unfold oddL at h
  rcases List.mem_append.mp h with h | h
  · rcases List.mem_append.mp h with h | h
    · obtain ⟨h1, h2⟩ := List.mem_filter.mp h
      obtain ⟨b0, b1⟩ := wf.bnd x h1
      refine ⟨b1, ?_⟩
      unfold P6.dif P6.has inR
      rw [if_neg (by omega), if_pos b1, decide_eq_true h1]
      intro e
      rw [← e] at h2
      cases h2
    · obtain ⟨r, hr, hx⟩ := List.mem_flatMap.mp h
      exact topC_mem wf hr hx
  · split at h
    · cases h
    · obtain ⟨h1, h2⟩ := List.mem_filter.mp h
      obtain ⟨i, hi, rfl⟩ := mem_zR.mp h1
      have lt : q.low - q.st + (i : Int) * 1 < q.low := by omega
      refine ⟨by omega, ?_⟩
      unfold P6.dif P6.has inR
      rw [if_pos lt]
      intro e
      rw [e] at h2
      simp at h2
theorem odd_top {q : P6} {n : Int} (wf : q.Wf) (few : q.ms.length ≤ 6) (h : n < q.high) (d : q.dif n) : ∃ x ∈ oddL q, n ≤ x := by
  have s0 := wf.pos
  by_cases c : n < q.low
  · -- below: in the last step ahead of low
    obtain ⟨j, hj, hj2⟩ := down_to (n := n) (high := q.low) s0
    have ne : ¬ q.bl = q.ab := fun e => d (by
      unfold P6.has
      rw [if_pos c, e])
    have dd : inR q.bl q.st n ≠ inR q.ab q.st n := fun e => d (by
      unfold P6.has
      rw [if_pos c, e])
    have dj : inR q.bl q.st (n + q.st * j) ≠ inR q.ab q.st (n + q.st * j) := by
      rw [inR_shift, inR_shift]
      exact dd
    refine ⟨n + q.st * j, ?_, ?_⟩
    · unfold oddL
      rw [if_neg ne]
      refine List.mem_append.mpr (.inr (List.mem_filter.mpr ⟨?_, ?_⟩))
      · exact mem_zR.mpr ⟨(n + q.st * j - (q.low - q.st)).toNat, by omega, by omega⟩
      · exact bne_iff_ne.mpr dj
    · rcases Int.lt_or_le j 0 with cj | cj
      · have : q.st * j ≤ q.st * (-1) := Int.mul_le_mul_of_nonneg_left (by omega) (by omega)
        omega
      · have : 0 ≤ q.st * j := Int.mul_nonneg (by omega) cj
        omega
  · by_cases m : n ∈ q.ms
    · refine ⟨n, ?_, Int.le_refl _⟩
      unfold oddL
      refine List.mem_append.mpr (.inl (List.mem_append.mpr (.inl (List.mem_filter.mpr ⟨m, ?_⟩))))
      have d' : true ≠ inR q.ab q.st n := by
        have z := d
        unfold P6.dif P6.has at z
        rw [if_neg c, if_pos h, decide_eq_true m] at z
        exact z
      unfold inR at d'
      by_cases e : n % q.st ∈ q.ab
      · exact absurd (decide_eq_true e).symm d'
      · simp [e]
    · have d' : false ≠ inR q.ab q.st n := by
        have z := d
        unfold P6.dif P6.has at z
        rw [if_neg c, if_pos h, decide_eq_false m] at z
        exact z
      have hr : n % q.st ∈ q.ab := by
        unfold inR at d'
        by_cases e : n % q.st ∈ q.ab
        · exact e
        · exact absurd (decide_eq_false e).symm d'
      obtain ⟨x, hx, le⟩ := topC_top wf few m (by omega) h
      refine ⟨x, ?_, le⟩
      unfold oddL
      exact List.mem_append.mpr (.inl (List.mem_append.mpr (.inr (List.mem_flatMap.mpr ⟨_, hr, hx⟩))))
theorem odd_none {q : P6} (wf : q.Wf) (few : q.ms.length ≤ 6) (h : oddL q = []) : IsTop q none := fun n hn d => by
  obtain ⟨x, hx, _⟩ := odd_top wf few hn d
  rw [h] at hx
  cases hx
theorem odd_some {q : P6} {m : Int} (wf : q.Wf) (few : q.ms.length ≤ 6) (h : m ∈ oddL q) (hm : ∀ y ∈ oddL q, y ≤ m) : IsTop q (some (m + 1)) := by
  obtain ⟨m1, m2⟩ := odd_mem wf h
  refine ⟨by omega, ?_, fun n h1 h2 d => ?_⟩
  · rw [show m + 1 - 1 = m by omega]
    exact m2
  · obtain ⟨x, hx, le⟩ := odd_top wf few h2 d
    have := hm x hx
    omega
/-! ### the candidates below -/
def botF (q : P6) (r : Int) : Int := q.low + (r - q.low) % q.st
def botN (q : P6) (t r : Int) : Nat := upN (botF q r) (min t (botF q r + 9 * q.st)) q.st
def botC (q : P6) (t r : Int) : List Int := ((zR (botF q r) q.st (botN q t r)).filter fun n => !decide (n ∈ q.ms)).take 1
def botM (q : P6) : List Int := q.ms.filter fun n => !decide (n % q.st ∈ q.bl)
def someL (q : P6) (t : Int) : List Int := botM q ++ q.bl.flatMap (botC q t)
theorem botF_mod {q : P6} {r : Int} (s0 : 0 < q.st) (h0 : 0 ≤ r) (h1 : r < q.st) (j : Int) : (botF q r + j * q.st) % q.st = r := by
  unfold botF
  have e := Int.emod_add_mul_ediv (r - q.low) q.st
  rw [show q.low + (r - q.low) % q.st + j * q.st = r + q.st * (j - (r - q.low) / q.st) by rw [Int.mul_sub, Int.mul_comm q.st j]; omega, mod_add_mul]
  exact mod_self_of h0 h1
theorem botF_ge {q : P6} {r : Int} (s0 : 0 < q.st) : q.low ≤ botF q r := by
  unfold botF
  have := emod_nn (a := r - q.low) s0
  omega
theorem botF_at {q : P6} {n : Int} (s0 : 0 < q.st) (h : q.low ≤ n) : ∃ j : Nat, n = botF q (n % q.st) + (j : Int) * q.st := by
  have nn := emod_nn (a := n) s0
  have nl := emod_lt' (a := n) s0
  have e1 : n % q.st = (botF q (n % q.st)) % q.st := by
    have z := botF_mod (q := q) s0 nn nl 0
    rw [Int.zero_mul, Int.add_zero] at z
    exact z.symm
  obtain ⟨j, hj⟩ := (mod_eq_iff s0).mp e1
  have g : botF q (n % q.st) < q.low + q.st := by
    unfold botF
    have := emod_lt' (a := n % q.st - q.low) s0
    omega
  have j0 : 0 ≤ j := by
    rcases Int.lt_or_le j 0 with c | c
    · have : q.st * j ≤ q.st * (-1) := Int.mul_le_mul_of_nonneg_left (by omega) (by omega)
      omega
    · exact c
  refine ⟨j.toNat, ?_⟩
  rw [Int.toNat_of_nonneg j0, Int.mul_comm j]
  exact hj
theorem botC_mem {q : P6} {t r x : Int} (wf : q.Wf) (hr : r ∈ q.bl) (h : x ∈ botC q t r) : q.low ≤ x ∧ x < t ∧ q.eld x := by
  have s0 := wf.pos
  obtain ⟨r0, r1⟩ := wf.bl.bnd r hr
  have h := List.mem_of_mem_take h
  obtain ⟨h1, h2⟩ := List.mem_filter.mp h
  obtain ⟨i, hi, rfl⟩ := mem_zR.mp h1
  have z := (up_lt s0).mp hi
  have lt := botF_ge (q := q) (r := r) s0
  have nn : 0 ≤ (i : Int) * q.st := Int.mul_nonneg (by omega) (by omega)
  have md : (botF q r + (i : Int) * q.st) % q.st = r := botF_mod (q := q) s0 r0 r1 (i : Int)
  refine ⟨by omega, by omega, ?_⟩
  unfold P6.eld inR
  rw [md, decide_eq_true hr]
  intro e
  rw [e] at h2
  cases h2
theorem botC_bot {q : P6} {t n : Int} (wf : q.Wf) (few : q.ms.length ≤ 6) (hm : n ∉ q.ms) (h0 : q.low ≤ n) (h1 : n < t) : ∃ x ∈ botC q t (n % q.st), x ≤ n := by
  have s0 := wf.pos
  obtain ⟨j, hj⟩ := botF_at (q := q) (n := n) s0 h0
  have key : ∃ y ∈ zR (botF q (n % q.st)) q.st (botN q t (n % q.st)), y ∉ q.ms ∧ y ≤ n := by
    by_cases c : j < botN q t (n % q.st)
    · exact ⟨n, mem_zR.mpr ⟨j, c, hj⟩, hm, Int.le_refl _⟩
    · have c' : ¬ (botF q (n % q.st) + (j : Int) * q.st < min t (botF q (n % q.st) + 9 * q.st)) := fun z => c ((up_lt s0).mpr z)
      obtain ⟨i, hi, hn⟩ := pigeon (f := botF q (n % q.st)) (c := q.st) (n := 9) (ms := q.ms) (by omega) (by omega)
      have i8 : (i : Int) * q.st ≤ 8 * q.st := Int.mul_le_mul_of_nonneg_right (by omega) (by omega)
      exact ⟨_, mem_zR.mpr ⟨i, (up_lt s0).mpr (by omega), rfl⟩, hn, by omega⟩
  obtain ⟨y, hy, ny, le⟩ := key
  obtain ⟨x, hx, ge⟩ := take1 (R := (· ≤ ·)) (p := fun n => !decide (n ∈ q.ms)) (fun x => Int.le_refl x) (zR_le (by omega)) y hy (by simp [ny])
  exact ⟨x, hx, Int.le_trans ge le⟩
theorem some_bot {q : P6} {t b : Int} (wf : q.Wf) (few : q.ms.length ≤ 6) (h : b ∈ someL q t ++ [t]) (hm : ∀ y ∈ someL q t ++ [t], b ≤ y) (ht : t ≤ q.high) : IsBot q t b := by
  have s0 := wf.pos
  have bt : b ≤ t := hm t (List.mem_append.mpr (.inr (List.mem_singleton.mpr rfl)))
  have ge : q.low ≤ t → q.low ≤ b := fun hl => by
    rcases List.mem_append.mp h with h | h
    · unfold someL at h
      rcases List.mem_append.mp h with h | h
      · exact (wf.bnd b (List.mem_filter.mp h).1).1
      · obtain ⟨r, hr, hx⟩ := List.mem_flatMap.mp h
        exact (botC_mem wf hr hx).1
    · rw [List.mem_singleton.mp h]
      exact hl
  have cand : b < t → q.low ≤ b ∧ q.eld b := fun lt => by
    rcases List.mem_append.mp h with h | h
    · unfold someL at h
      rcases List.mem_append.mp h with h | h
      · obtain ⟨h1, h2⟩ := List.mem_filter.mp h
        refine ⟨(wf.bnd b h1).1, ?_⟩
        unfold P6.eld inR
        rw [decide_eq_true h1]
        intro e
        rw [← e] at h2
        cases h2
      · obtain ⟨r, hr, hx⟩ := List.mem_flatMap.mp h
        have z := botC_mem wf hr hx
        exact ⟨z.1, z.2.2⟩
    · have := List.mem_singleton.mp h
      omega
  refine ⟨fun hl => ?_, fun hl => ⟨ge (by omega), bt, fun n h0 h1 d => ?_, fun lt => (cand lt).2⟩⟩
  · by_cases c : b < t
    · have := (cand c).1
      omega
    · omega
  · -- no candidate below b
    have no : ∀ y ∈ someL q t, b ≤ y := fun y hy => hm y (List.mem_append.mpr (.inl hy))
    unfold P6.eld inR at d
    by_cases m : n ∈ q.ms
    · have nr : n % q.st ∉ q.bl := fun e => d (by rw [decide_eq_true m, decide_eq_true e])
      have := no n (List.mem_append.mpr (.inl (List.mem_filter.mpr ⟨m, by simp [nr]⟩)))
      omega
    · have hr : n % q.st ∈ q.bl := Classical.byContradiction fun e => d (by rw [decide_eq_false m, decide_eq_false e])
      obtain ⟨x, hx, le⟩ := botC_bot (t := t) wf few m h0 (by omega)
      have := no x (List.mem_append.mpr (.inr (List.mem_flatMap.mpr ⟨_, hr, hx⟩)))
      omega
theorem isTop_le {q : P6} {t : Int} (h : IsTop q (some t)) : t ≤ q.high := h.1
end Nv
set_option Elab.async false
set_option linter.all false
set_option maxRecDepth 100000
set_option maxHeartbeats 4000000
/-! NvH: check_mixing, joined, common, and the law's try around them. -/
namespace Nv
open PySem PySem.Spec PyProof.Rows L2
open Evl (Ev EvT EvL EvU EvA)
/-- what mixing refuses -/
def mixErr (l m : P6) : Option Int := if 4000 < lcmI l.st m.st then some 4000 else if 100000 < max l.high m.high - min l.low m.low then some 100000 else none
/-- two lots that are mixed; the refusal leaves in E -/
structure Two (K : PySem.W.Frag) (H : Hp) (v u : V) (l m : P6) : Prop where
  L : LotV K H v l
  M : LotV K H u m
  wl : l.Wf
  wm : m.Wf
  l1 : l.st ≤ 4000
  m1 : m.st ≤ 4000
theorem Two.mono {K : PySem.W.Frag} {H H' : Hp} {v u : V} {l m : P6} (t : Two K H v u l m) (e : Ex H H') : Two K H' v u l m := ⟨t.L.mono e, t.M.mono e, t.wl, t.wm, t.l1, t.m1⟩
def Refuse (C : Addr) (l m : P6) (H : Hp) (E : XK) : Prop := ∀ n, mixErr l m = some n → ∀ H1, Ex H H1 → ∀ d, H1 d = none → E (.ref C) (some d) (upd H1 d (.xd [(("most" : Str), .int n)]))
theorem Refuse.mono {C : Addr} {l m : P6} {H H' : Hp} {E : XK} (r : Refuse C l m H E) (e : Ex H H') : Refuse C l m H' E := fun n hn H1 e1 d hd => r n hn H1 (e.trans e1) d hd
def spCheckMix (K : PySem.W.Frag) (C : Addr) : Sp := fun vs H Q E => ∃ v u l m, vs = [v, u] ∧ Two K H v u l m ∧ Refuse C l m H E ∧ (mixErr l m = none → ∀ H1, Ex H H1 → Q .non H1)
def spMixN (K : PySem.W.Frag) (C : Addr) (least : Int) : Sp := fun vs H Q E => ∃ v u l m, vs = [v, u] ∧ Two K H v u l m ∧ Refuse C l m H E ∧ (mixErr l m = none → ∀ x q H2, Ex H H2 → LotA H2 x (aRaw K) q → IsLeast (mixP least l m) q → Q (.ref x) H2)
def spLawMix (K : PySem.W.Frag) : Sp := fun vs H Q _ => ∃ b v u l m, vs = [.bl b, v, u] ∧ Two K H v u l m ∧
  (∀ n p H2, mixErr l m = some n → Ex H H2 → H2 p = some (.tup (vI [n])) → Q (.ref p) H2) ∧ (mixErr l m = none → ∀ x q H2, Ex H H2 → LotA H2 x (aRaw K) q → IsLeast (mixP (if b then 1 else 2) l m) q → Q (.ref x) H2)
theorem mix_hi {l m : P6} (h : 4000 < lcmI l.st m.st) : mixErr l m = some 4000 := if_pos h
theorem mix_far {l m : P6} (h : ¬ 4000 < lcmI l.st m.st) (h2 : 100000 < max l.high m.high - min l.low m.low) : mixErr l m = some 100000 := by
  unfold mixErr
  rw [if_neg h, if_pos h2]
theorem mix_ok {l m : P6} (h : ¬ 4000 < lcmI l.st m.st) (h2 : ¬ 100000 < max l.high m.high - min l.low m.low) : mixErr l m = none := by
  unfold mixErr
  rw [if_neg h, if_neg h2]
theorem mix_none {l m : P6} (h : mixErr l m = none) : lcmI l.st m.st ≤ 4000 ∧ max l.high m.high - min l.low m.low ≤ 100000 := by
  by_cases c : 4000 < lcmI l.st m.st
  · rw [mix_hi c] at h
    cases h
  · by_cases d : 100000 < max l.high m.high - min l.low m.low
    · rw [mix_far c d] at h
      cases h
    · omega
theorem u_drop {te : TE} {tz : TS} {D : Ends} {σ : L2.St} {H : Hp} (h : te σ H fun _ H1 => tz D σ H1) : tSeq (tDrop te) tz D σ H := h
theorem sp_mixed {K : PySem.W.Frag} {H : Hp} {v u : V} {l m : P6} {least : Int} (t : Two K H v u l m) (h : mixErr l m = none) : SpP (spMixed K) [v, u, .int least] H (fun w H2 => ∃ x q, w = .ref x ∧ LotA H2 x (aRaw K) q ∧ IsLeast (mixP least l m) q) := fun H1 e Q k E =>
  ⟨v, u, l, m, least, rfl, t.L.mono e, t.M.mono e, t.wl, t.wm, t.l1, t.m1, (mix_none h).1, (mix_none h).2, fun x q H2 e2 A i => k _ H2 e2 ⟨x, q, rfl, A, i⟩⟩
section
variable {X : Cx} {k : Nat} {f : Addr} {ps : List Str} {sp : Sp} {x : Str} {p pos : Pos} {e : Expr} {es : List Expr} {t : TA} {E : XK}
/-- f(e, ..) of a def that may raise -/
theorem pclX (G : Gd X.prog X.w X.K X.mg X.base (L2.CX X.prog X.w) k f ps sp) (hr : Room k X.A) (hm : X.mg x = some (.ref f)) (hx : Passes (L2.CX X.prog X.w) X E) (ha : PA X (e :: es) t) (hg : Gl X x := by rfl) (hdb : (x == ("__debug__" : Str)) = false := by decide)
    (he : starEach (e :: es) X.env = (false, eval e X.env) :: starEach es X.env := by rfl) (hpl : (backTo pos (starEach es X.env)).any (·.1) = false := by rfl) :
    PE X (.Call (.Name x p) (e :: es) [] pos) (tCall sp [] E t) := by
  obtain ⟨fd, F, b, kp⟩ := G
  exact pe_call F hr hg hm kp b .nil hx ha hdb he hpl
/-- the same under a clause -/
theorem pclS {W : WX} (G : Gd X.prog X.w X.K X.mg X.base (L2.CX X.prog X.w) k f ps sp) (hr : Room k X.A) (hm : X.mg x = some (.ref f)) (tk : Takes X W) (ha : PA X (e :: es) t) (hg : Gl X x := by rfl) (hdb : (x == ("__debug__" : Str)) = false := by decide)
    (he : starEach (e :: es) X.env = (false, eval e X.env) :: starEach es X.env := by rfl) (hpl : (backTo pos (starEach es X.env)).any (·.1) = false := by rfl) :
    PE X (.Call (.Name x p) (e :: es) [] pos) (tCallS sp (WE W) t) := by
  obtain ⟨fd, F, b, kp⟩ := G
  exact pe_callS F hr hg hm kp b (fun σ => passAt tk σ) ha hdb he hpl
end
section
variable {P : Program} {w : World} {K : PySem.W.Frag} {mg : Str → Option Value} {base : Heap} {C fI : Addr}
theorem sc_check_mixing : FnScope ["lot", "second"] ["lot", "second"] (defScope sCheckMixing) := ⟨rfl, rfl, rfl, by decide +kernel, rfl, by decide +kernel, by decide +kernel⟩
theorem ok_check_mixing (T : Txt K mg) (TM : TmTxt P K mg C fI) : Gd P w K mg base (L2.CX P w) 4 (He.ga K "check_mixing") ["lot", "second"] (spCheckMix K C) := by
  have G_common_multiple : Gd P w K mg base CX0 2 (He.ga K "common_multiple") ["lot", "second"] (spLcm K) := ok_common_multiple T
  refine Fn.goodX T.f_check_mixing sc_check_mixing (fun _ _ _ _ _ _ us hl => match us, hl with | [_, _], _ => rfl) (fun vs H Q E h => ?_) (fun cdv A outer s H vs Q E hr h => ?_)
  · obtain ⟨v, u, l, m, rfl, _⟩ := h
    rfl
  · obtain ⟨v, u, l, m, rfl, t, no, k⟩ := h
    refine ⟨_, (pss_cons (ps_if (pt_cmpR op_gt (pcl G_common_multiple (hr.mono (by decide)) T.g_common_multiple (pa_cons (pv 0) (pa_cons (pv 1) pa_nil))) (pgi rfl T.k_MOST_STEP) (nomark _)) (pss_one (ps_raiseTm rfl TM hr (takes_of rfl rfl rfl rfl) (pa_cons (pgi rfl T.k_MOST_STEP) pa_nil))) pss_nil)
      (pss_one (ps_if (pt_cmpR op_gt (pe_op op_sub (pe_callB (call_max2 rfl) (by rfl) T.n_max (by decide +kernel) (pa_cons (kFld (K := K) rfl (pv 0) rfl) (pa_cons (kFld (K := K) rfl (pv 1) rfl) pa_nil))) (pe_callB (call_min2 rfl) (by rfl) T.n_min (by decide +kernel) (pa_cons (kFld (K := K) rfl (pv 0) rfl) (pa_cons (kFld (K := K) rfl (pv 1) rfl) pa_nil)))) (pgi rfl T.k_MOST_APART) (nomark _)) (pss_one (ps_raiseTm rfl TM hr (takes_of rfl rfl rfl rfl) (pa_cons (pgi rfl T.k_MOST_APART) pa_nil))) pss_nil))), ?_⟩
    refine Evl.q_when (et_gt (ev_callV (Evl.ea_cons (Evl.ev_var rfl) (Evl.ea_cons (Evl.ev_var rfl) Evl.ea_nil)) (sp_lcm t.L t.M t.wl.pos t.l1 t.wm.pos t.m1)) Evl.ev_c) (fun c H1 e1 => ?_) (fun c H1 e1 => ?_)
    · have c1 : 4000 < lcmI l.st m.st := of_decide_eq_true c
      exact ⟨_, rfl, fun d hd => no 4000 (mix_hi c1) _ e1 d hd⟩
    · have c1 : ¬ 4000 < lcmI l.st m.st := of_decide_eq_false c
      refine Evl.s_when (et_gt (ev_sub (ev_max2 (ev_high (t.L.mono e1) rfl) (ev_high (t.M.mono e1) rfl)) (ev_min2 (ev_low (t.L.mono e1) rfl) (ev_low (t.M.mono e1) rfl))) Evl.ev_c) (fun c H2 e2 => ?_) (fun c H2 e2 => ?_)
      · exact ⟨_, rfl, fun d hd => no 100000 (mix_far c1 (of_decide_eq_true c)) _ (e1.trans e2) d hd⟩
      · exact k (mix_ok c1 (of_decide_eq_false c)) _ (e1.trans e2)
theorem sc_joined : FnScope ["lot", "second"] ["lot", "second"] (defScope sJoined) := ⟨rfl, rfl, rfl, by decide +kernel, rfl, by decide +kernel, by decide +kernel⟩
theorem ok_joined (T : Txt K mg) (TM : TmTxt P K mg C fI) : Gd P w K mg base (L2.CX P w) 8 (He.ga K "joined") ["lot", "second"] (spMixN K C 1) := by
  have G_check_mixing : Gd P w K mg base (L2.CX P w) 4 (He.ga K "check_mixing") ["lot", "second"] (spCheckMix K C) := ok_check_mixing T TM
  have G_mixed : Gd P w K mg base CX0 7 (He.ga K "mixed") ["lot", "second", "least"] (spMixed K) := ok_mixed T
  refine Fn.goodX T.f_joined sc_joined (fun _ _ _ _ _ _ us hl => match us, hl with | [_, _], _ => rfl) (fun vs H Q E h => ?_) (fun cdv A outer s H vs Q E hr h => ?_)
  · obtain ⟨v, u, l, m, rfl, _⟩ := h
    rfl
  · obtain ⟨v, u, l, m, rfl, t, no, k⟩ := h
    refine ⟨_, (pss_cons (ps_expr (pclX G_check_mixing (hr.mono (by decide)) T.g_check_mixing (passes_call (takes_of rfl rfl rfl rfl) (fun _ _ _ _ h => h)) (pa_cons (pv 0) (pa_cons (pv 1) pa_nil))))
      (pss_one (ps_ret (pcl G_mixed (hr.mono (by decide)) T.g_mixed (pa_cons (pv 0) (pa_cons (pv 1) (pa_cons pe_int pa_nil))))))), ?_⟩
    refine u_drop (u_call ⟨_, rfl, _, rfl, v, u, l, m, rfl, t, no, fun hn H2 e2 => ?_⟩)
    refine s_retP (evp_call (Evl.ea_cons (Evl.ev_var rfl) (Evl.ea_cons (Evl.ev_var rfl) (Evl.ea_cons Evl.ev_c Evl.ea_nil))) (sp_mixed (t.mono e2) hn)) fun w H3 e3 pw => ?_
    obtain ⟨x, q, rfl, A, i⟩ := pw
    exact k hn x q _ (e2.trans e3) A i
theorem sc_common : FnScope ["lot", "second"] ["lot", "second"] (defScope sCommon) := ⟨rfl, rfl, rfl, by decide +kernel, rfl, by decide +kernel, by decide +kernel⟩
theorem ok_common (T : Txt K mg) (TM : TmTxt P K mg C fI) : Gd P w K mg base (L2.CX P w) 8 (He.ga K "common") ["lot", "second"] (spMixN K C 2) := by
  have G_check_mixing : Gd P w K mg base (L2.CX P w) 4 (He.ga K "check_mixing") ["lot", "second"] (spCheckMix K C) := ok_check_mixing T TM
  have G_mixed : Gd P w K mg base CX0 7 (He.ga K "mixed") ["lot", "second", "least"] (spMixed K) := ok_mixed T
  refine Fn.goodX T.f_common sc_common (fun _ _ _ _ _ _ us hl => match us, hl with | [_, _], _ => rfl) (fun vs H Q E h => ?_) (fun cdv A outer s H vs Q E hr h => ?_)
  · obtain ⟨v, u, l, m, rfl, _⟩ := h
    rfl
  · obtain ⟨v, u, l, m, rfl, t, no, k⟩ := h
    refine ⟨_, (pss_cons (ps_expr (pclX G_check_mixing (hr.mono (by decide)) T.g_check_mixing (passes_call (takes_of rfl rfl rfl rfl) (fun _ _ _ _ h => h)) (pa_cons (pv 0) (pa_cons (pv 1) pa_nil))))
      (pss_one (ps_ret (pcl G_mixed (hr.mono (by decide)) T.g_mixed (pa_cons (pv 0) (pa_cons (pv 1) (pa_cons pe_int pa_nil))))))), ?_⟩
    refine u_drop (u_call ⟨_, rfl, _, rfl, v, u, l, m, rfl, t, no, fun hn H2 e2 => ?_⟩)
    refine s_retP (evp_call (Evl.ea_cons (Evl.ev_var rfl) (Evl.ea_cons (Evl.ev_var rfl) (Evl.ea_cons Evl.ev_c Evl.ea_nil))) (sp_mixed (t.mono e2) hn)) fun w H3 e3 pw => ?_
    obtain ⟨x, q, rfl, A, i⟩ := pw
    exact k hn x q _ (e2.trans e3) A i
theorem sc_law_mix : FnScope ["_law_is_joined", "_law_lot_here", "_law_other", "_law_found", "error"] ["_law_is_joined", "_law_lot_here", "_law_other"] (defScope sLMix) := ⟨rfl, rfl, rfl, by decide +kernel, rfl, by decide +kernel, by decide +kernel⟩
/-- found = joined(..) or common(..); the suite: found = (error.most,) -/
def tMixTry (K : PySem.W.Frag) (C : Addr) (W : WX) : TS := tAsg (tIf (tTest (tVar 0)) (tCallS (spMixN K C 1) (WE W) (tCons (tVar 1) (tCons (tVar 2) tNil))) (tCallS (spMixN K C 2) (WE W) (tCons (tVar 1) (tCons (tVar 2) tNil)))) (gName 3)
def tMixSuite (C : Addr) : Addr → Value → Option Addr → TS := fun a cls d => tAsg (tTup (tCons (tMost C a cls d (tVar 4)) tNil)) (gName 3)
theorem ok_law_mix (T : Txt K mg) (TM : TmTxt P K mg C fI) : Gd P w K mg base CX0 9 (He.ga K "_law_mix") ["_law_is_joined", "_law_lot_here", "_law_other"] (spLawMix K) := by
  have G_joined : Gd P w K mg base (L2.CX P w) 8 (He.ga K "joined") ["lot", "second"] (spMixN K C 1) := ok_joined T TM
  have G_common : Gd P w K mg base (L2.CX P w) 8 (He.ga K "common") ["lot", "second"] (spMixN K C 2) := ok_common T TM
  refine Fn.good T.f__law_mix sc_law_mix (fun _ _ _ _ _ _ us hl => match us, hl with | [_, _, _], _ => rfl) (fun vs H Q E h => ?_) (fun cdv A outer s H vs Q E hr h => ?_)
  · obtain ⟨b, v, u, l, m, rfl, _⟩ := h
    rfl
  · obtain ⟨b, v, u, l, m, rfl, t, kn, k⟩ := h
    refine ⟨_, (pss_cons (ps_set (i := 3) sc_law_mix.nd rfl (Or.inl rfl) pe_non)
      (pss_cons (ps_try_as (i := 4) (tb := tMixTry K C) (ts := tMixSuite C) (Wout := fun _ _ _ _ => False) rfl rfl sc_law_mix.nd rfl rfl ⟨rfl, by decide, Or.inl TM.gC⟩ takes0 (fun W pn xe tk _ => pss_one (ps_set (i := 3) sc_law_mix.nd rfl (Or.inl rfl) (pe_ifExp (pt_val (pv 0)) (by exact (pclS G_joined (hr.mono (by decide)) T.g_joined tk (by exact (pa_cons (pv 1) (pa_cons (pv 2) pa_nil))))) (by exact (pclS G_common (hr.mono (by decide)) T.g_common tk (by exact (pa_cons (pv 1) (pa_cons (pv 2) pa_nil)))))))) (fun a oe cls d pn hz hf => pss_one (ps_set (i := 3) sc_law_mix.nd rfl (Or.inl rfl) (pe_tup (pa_cons (by exact (pe_most TM hz hf (pv 4))) pa_nil)))))
      (pss_one (ps_ret (pv 3))))), ?_⟩
    refine Evl.q_asg Evl.ev_c fun H1 e1 => ?_
    have R : Refuse C l m H1 (WE (wAs K (.ref C) 4 (tMixSuite C) (fun _ _ _ _ => False) { nx := fun σ' H' => tRet (tVar 3) { nx := fun _ H' => Q .non H', rt := Q } σ' H', rt := Q }) [some (.bl b), some v, some u, some .non, none]) := fun n hn H2 e2 d hd => by
      refine ⟨true, TM.te, fun _ a0 ha0 => ?_, fun q => Bool.noConfusion q⟩
      refine ⟨_, rfl, rfl, rfl, d, _, rfl, upd_same, ?_⟩
      refine ⟨by show 1 ≤ sizeLine; decide, fun p hp => ?_⟩
      refine ⟨_, rfl, kn n p _ hn ?_ upd_same⟩
      exact ((e1.trans e2).trans (Evl.Ex.new hd)).trans (Evl.Ex.new hp)
    have go : ∀ least : Int, (least = if b then 1 else 2) → tCallS (spMixN K C least) (WE (wAs K (.ref C) 4 (tMixSuite C) (fun _ _ _ _ => False) { nx := fun σ' H' => tRet (tVar 3) { nx := fun _ H' => Q .non H', rt := Q } σ' H', rt := Q })) (tCons (tVar 1) (tCons (tVar 2) tNil)) [some (.bl b), some v, some u, some .non, none] H1
        (fun x H2 => tRet (tVar 3) { nx := fun _ H' => Q .non H', rt := Q } [some (.bl b), some v, some u, some x, none] H2) := fun least hl =>
      ⟨_, rfl, _, rfl, v, u, l, m, rfl, t.mono e1, R, fun hn x q H2 e2 Ax i => ⟨_, rfl, k hn x q _ (e1.trans e2) Ax (by rw [← hl]; exact i)⟩⟩
    cases b with
    | true => exact ⟨_, rfl, true, rfl, iteT (go 1 rfl)⟩
    | false => exact ⟨_, rfl, false, rfl, iteF (go 2 rfl)⟩
end
end Nv
set_option Elab.async false
set_option linter.all false
set_option maxRecDepth 100000
set_option maxHeartbeats 2000000
/-! NvPot: the law's pot, which each draw changes; what is evaluated beside it. -/
namespace Nv
open PySem PySem.Spec PyProof.Rows L2
open Evl (Ev EvT EvL EvU EvA)
/-- the pot at p: the great numbers at g, the small ones at s -/
structure Pt (p g s : Addr) (H : Hp) : Prop where
  ex : ∃ gs ss t m, H p = some (.lst [.ref g, .ref s, .int t, .int m]) ∧ H g = some (.lst (vI gs)) ∧ H s = some (.lst (vI ss)) ∧ (∀ x ∈ gs, 0 ≤ x) ∧ 0 < ss.length
  ne : g ≠ s
/-- from H to H' the pot may have changed, and new things came -/
structure Dr (p g s : Addr) (H H' : Hp) : Prop where
  p0 : Pt p g s H
  p1 : Pt p g s H'
  ew : ∀ a o, a ≠ p → a ≠ g → H a = some o → H' a = some o
section
variable {p g s : Addr} {H H1 H2 H' : Hp}
theorem Pt.hp (P : Pt p g s H) : ∃ o, H p = some o := let ⟨_, _, _, _, h, _⟩ := P.ex; ⟨_, h⟩
theorem Pt.hg (P : Pt p g s H) : ∃ o, H g = some o := let ⟨_, _, _, _, _, h, _⟩ := P.ex; ⟨_, h⟩
theorem Pt.hs (P : Pt p g s H) : ∃ o, H s = some o := let ⟨_, _, _, _, _, _, h, _⟩ := P.ex; ⟨_, h⟩
theorem vI_ne {gs : List Int} {a : Addr} {xs : List V} : vI gs ≠ .ref a :: xs := fun e => by
  cases gs with
  | nil => cases e
  | cons x r => injection e with e1 _; cases e1
theorem Pt.pg (P : Pt p g s H) : p ≠ g := fun e => by
  obtain ⟨gs, ss, t, m, h1, h2, _⟩ := P.ex
  subst e
  rw [h1] at h2
  exact vI_ne (HO.lst.inj (Option.some.inj h2)).symm
theorem Pt.ps (P : Pt p g s H) : p ≠ s := fun e => by
  obtain ⟨gs, ss, t, m, h1, _, h2, _⟩ := P.ex
  subst e
  rw [h1] at h2
  exact vI_ne (HO.lst.inj (Option.some.inj h2)).symm
theorem Pt.ex' (P : Pt p g s H) (e : Ex H H') : Pt p g s H' :=
  ⟨let ⟨gs, ss, t, m, h1, h2, h3, h4⟩ := P.ex; ⟨gs, ss, t, m, e _ _ h1, e _ _ h2, e _ _ h3, h4⟩, P.ne⟩
theorem Dr.refl (P : Pt p g s H) : Dr p g s H H := ⟨P, P, fun _ _ _ _ h => h⟩
theorem Dr.trans (a : Dr p g s H H1) (b : Dr p g s H1 H2) : Dr p g s H H2 := ⟨a.p0, b.p1, fun x o n1 n2 h => b.ew x o n1 n2 (a.ew x o n1 n2 h)⟩
theorem Dr.of (P : Pt p g s H) (e : Ex H H') : Dr p g s H H' := ⟨P, P.ex' e, fun a o _ _ h => e a o h⟩
theorem Dr.tup {a : Addr} {xs : List V} (d : Dr p g s H H') (h : H a = some (.tup xs)) : H' a = some (.tup xs) := d.ew a _ (fun e => by
    obtain ⟨gs, ss, t, m, h1, _⟩ := d.p0.ex
    rw [e, h1] at h
    cases h) (fun e => by
    obtain ⟨gs, ss, t, m, _, h1, _⟩ := d.p0.ex
    rw [e, h1] at h
    cases h) h
theorem Dr.Tp {v : V} {ns : List Int} (d : Dr p g s H H') (h : Tp H v ns) : Tp H' v ns := let ⟨a, e, h1⟩ := h; ⟨a, e, d.tup h1⟩
/-- what was not there is not the pot's -/
theorem Pt.fresh (P : Pt p g s H) {a : Addr} (h : H a = none) : a ≠ p ∧ a ≠ g ∧ a ≠ s := by
  obtain ⟨gs, ss, t, m, h1, h2, h3, _⟩ := P.ex
  refine ⟨fun e => ?_, fun e => ?_, fun e => ?_⟩
  · rw [e, h1] at h; cases h
  · rw [e, h2] at h; cases h
  · rw [e, h3] at h; cases h
theorem Pt.upd' (P : Pt p g s H) {a : Addr} {o : HO} (n : a ≠ p ∧ a ≠ g ∧ a ≠ s) : Pt p g s (upd H a o) := by
  obtain ⟨gs, ss, t, m, h1, h2, h3, h4⟩ := P.ex
  exact ⟨⟨gs, ss, t, m, by rw [upd_ne (Ne.symm n.1)]; exact h1, by rw [upd_ne (Ne.symm n.2.1)]; exact h2, by rw [upd_ne (Ne.symm n.2.2)]; exact h3, h4⟩, P.ne⟩
theorem Dr.mut (d : Dr p g s H H') {a : Addr} {o : HO} (h : H a = none) : Dr p g s H (upd H' a o) :=
  ⟨d.p0, d.p1.upd' (d.p0.fresh h), fun x u n1 n2 hx => by
    by_cases e : x = a
    · rw [e, h] at hx; cases hx
    · rw [upd_ne e]; exact d.ew x u n1 n2 hx⟩
end
/-! ### evaluated beside the pot -/
def EvD (p g s : Addr) (te : TE) (σ : L2.St) (H : Hp) (P : V → Hp → Prop) : Prop := ∀ H1, Dr p g s H H1 → ∀ Q : VK, (∀ v H2, Dr p g s H1 H2 → P v H2 → Q v H2) → te σ H1 Q
def EvI (p g s : Addr) (te : TE) (σ : L2.St) (H : Hp) (A : Int → Prop) : Prop := EvD p g s te σ H (fun v _ => ∃ i, v = .int i ∧ A i)
def EvDT (p g s : Addr) (t : TT) (σ : L2.St) (H : Hp) (B : Bool → Prop) : Prop := ∀ H1, Dr p g s H H1 → ∀ Q : Bool → Hp → Prop, (∀ b H2, Dr p g s H1 H2 → B b → Q b H2) → t σ H1 Q
def LsP (p g : Addr) (H : Hp) (v : V) (ns : List Int) : Prop := ∃ D, v = .ref D ∧ D ≠ p ∧ D ≠ g ∧ H D = some (.lst (vI ns))
/-- a draw: a number from 0 to below n -/
def spDraw : Sp := fun vs H Q _ => ∃ (p g s : Addr) (n : Int), vs = [.ref p, .int n] ∧ Pt p g s H ∧ 0 < n ∧ n < 2 ^ 200 ∧ ∀ v H2, Dr p g s H H2 → 0 ≤ v → v < n → Q (.int v) H2
section
variable {p g s : Addr} {σ : L2.St} {H H1 H' : Hp} {te ta tb tn : TE} {t u : TT} {P : V → Hp → Prop} {A B C N : Int → Prop} {n : Int} {i j : Nat} {v : V} {E : XK} {D : Ends} {tz tu tw : TS} {ns : List Int}
theorem LsP.mono (d : Dr p g s H H1) (h : LsP p g H v ns) : LsP p g H1 v ns := let ⟨D, e, n1, n2, h1⟩ := h; ⟨D, e, n1, n2, d.ew D _ n1 n2 h1⟩
theorem EvD.mono (h : EvD p g s te σ H P) (d : Dr p g s H H') : EvD p g s te σ H' P := fun H1 d1 Q q => h H1 (d.trans d1) Q q
theorem EvI.mono (h : EvI p g s te σ H A) (d : Dr p g s H H') : EvI p g s te σ H' A := EvD.mono h d
theorem EvI.imp (h : EvI p g s te σ H A) (k : ∀ i, A i → B i) : EvI p g s te σ H B := fun H1 d Q q => h H1 d Q fun v H2 d2 ⟨i, e, a⟩ => q v H2 d2 ⟨i, e, k i a⟩
theorem evd_of {v : V} (h : ∀ H1, Dr p g s H H1 → Ev te σ H1 v) : EvD p g s te σ H (fun w _ => w = v) := fun H1 d Q q => h H1 d H1 (Evl.Ex.refl _) Q fun H2 e => q v H2 (.of d.p1 e) rfl
theorem evi_of (h : ∀ H1, Dr p g s H H1 → Ev te σ H1 (.int n)) (a : A n) : EvI p g s te σ H A := fun H1 d Q q => h H1 d H1 (Evl.Ex.refl _) Q fun H2 e => q _ H2 (.of d.p1 e) ⟨n, rfl, a⟩
theorem evi_c (a : A n) : EvI p g s (tC (.int n)) σ H A := evi_of (fun _ _ => Evl.ev_c) a
theorem evi_var (h : σ[i]? = some (some (.int n))) (a : A n) : EvI p g s (tVar i) σ H A := evi_of (fun _ _ => Evl.ev_var h) a
theorem evi_op {r : R2} (ha : EvI p g s ta σ H A) (hb : EvI p g s tb σ H B) (hr : ∀ x y, A x → B y → ∃ z, C z ∧ ∀ H1 (Q : VK), Q (.int z) H1 → r (.int x) (.int y) H1 Q) : EvI p g s (tOp r ta tb) σ H C := fun H1 d Q q =>
  ha H1 d _ fun x H2 d2 ⟨i, e, hi⟩ => by
    subst e
    exact hb H2 (d.trans d2) _ fun y H3 d3 ⟨j, e, hj⟩ => by
      subst e
      obtain ⟨z, hz, k⟩ := hr i j hi hj
      exact k H3 Q (q _ H3 (d2.trans d3) ⟨z, rfl, hz⟩)
theorem evi_add (ha : EvI p g s ta σ H A) (hb : EvI p g s tb σ H B) (h : ∀ x y, A x → B y → C (x + y)) : EvI p g s (tOp (rI0 fun i j => .int (i + j)) ta tb) σ H C := evi_op ha hb fun x y hx hy => ⟨_, h x y hx hy, fun H1 Q q => ⟨x, y, rfl, rfl, q⟩⟩
theorem evi_sub (ha : EvI p g s ta σ H A) (hb : EvI p g s tb σ H B) (h : ∀ x y, A x → B y → C (x - y)) : EvI p g s (tOp (rI0 fun i j => .int (i - j)) ta tb) σ H C := evi_op ha hb fun x y hx hy => ⟨_, h x y hx hy, fun H1 Q q => ⟨x, y, rfl, rfl, q⟩⟩
theorem evi_mul (ha : EvI p g s ta σ H A) (hb : EvI p g s tb σ H B) (h : ∀ x y, A x → B y → CMul x y ∧ C (x * y)) : EvI p g s (tOp (rI CMul fun i j => .int (i * j)) ta tb) σ H C := evi_op ha hb fun x y hx hy => ⟨_, (h x y hx hy).2, fun H1 Q q => ⟨x, y, rfl, rfl, (h x y hx hy).1, q⟩⟩
theorem evi_min2 (ha : EvI p g s ta σ H A) (hb : EvI p g s tb σ H B) (h : ∀ x y, A x → B y → C (min x y)) : EvI p g s (tCB (fun xs H Q => ∃ i j, xs = [.int i, .int j] ∧ Q (.int (if j < i then j else i)) H) (tCons ta (tCons tb tNil))) σ H C := fun H1 d Q q =>
  ha H1 d _ fun x H2 d2 ⟨i, e, hi⟩ => by
    subst e
    exact hb H2 (d.trans d2) _ fun y H3 d3 ⟨j, e, hj⟩ => by
      subst e
      refine ⟨i, j, rfl, ?_⟩
      rw [show (if j < i then j else i) = min i j by split <;> omega]
      exact q _ H3 (d2.trans d3) ⟨_, rfl, h i j hi hj⟩
theorem evi_draw (hp : σ[i]? = some (some (.ref p))) (hn : EvI p g s tn σ H N) (h : ∀ n, N n → 0 < n ∧ n < 2 ^ 200) (k : ∀ n v, N n → 0 ≤ v → v < n → A v) : EvI p g s (tCall spDraw [] E (tCons (tVar i) (tCons tn tNil))) σ H A := fun H1 d Q q =>
  ⟨_, hp, hn H1 d _ fun x H2 d2 ⟨n, e, a⟩ => by
    subst e
    exact ⟨p, g, s, n, rfl, d2.p1, (h n a).1, (h n a).2, fun v H3 d3 v0 v1 => q _ H3 (d2.trans d3) ⟨v, rfl, k n v a v0 v1⟩⟩⟩
/-- draw(n), n given -/
theorem evi_draw1 (hp : σ[i]? = some (some (.ref p))) (h : 0 < n ∧ n < 2 ^ 200) (k : ∀ v, 0 ≤ v → v < n → A v) : EvI p g s (tCall spDraw [] E (tCons (tVar i) (tCons (tC (.int n)) tNil))) σ H A :=
  evi_draw hp (evi_c (A := fun m => m = n) rfl) (fun m e => by rw [e]; exact h) (fun m v e h0 h1 => k v h0 (by rw [← e]; exact h1))
theorem edt_cmp {r : R2} {f : Int → Int → Bool} {Bb : Bool → Prop} (ha : EvI p g s ta σ H A) (hb : EvI p g s tb σ H B) (hr : ∀ x y, ∀ H1 (Q : VK), Q (.bl (f x y)) H1 → r (.int x) (.int y) H1 Q) (k : ∀ x y, A x → B y → Bb (f x y)) : EvDT p g s (tTest (tOp r ta tb)) σ H Bb := fun H1 d Q q =>
  ha H1 d _ fun x H2 d2 ⟨i, e, hi⟩ => by
    subst e
    exact hb H2 (d.trans d2) _ fun y H3 d3 ⟨j, e, hj⟩ => by
      subst e
      exact hr i j H3 _ ⟨_, rfl, q _ H3 (d2.trans d3) (k i j hi hj)⟩
theorem edt_gt {Bb : Bool → Prop} (ha : EvI p g s ta σ H A) (hb : EvI p g s tb σ H B) (k : ∀ x y, A x → B y → Bb (decide (y < x))) : EvDT p g s (tTest (tOp (rI0 fun i j => .bl (decide (j < i))) ta tb)) σ H Bb := edt_cmp (f := fun x y => decide (y < x)) ha hb (fun x y H1 Q q => ⟨x, y, rfl, rfl, q⟩) k
theorem edt_eq {Bb : Bool → Prop} (ha : EvI p g s ta σ H A) (hb : EvI p g s tb σ H B) (k : ∀ x y, A x → B y → Bb (decide (x = y))) : EvDT p g s (tTest (tOp rEq ta tb)) σ H Bb := edt_cmp (f := fun x y => decide (x = y)) ha hb (fun x y H1 Q q => ⟨rfl, by
  rw [decide_eq_decide.mpr (⟨fun z => V.int.inj z, fun z => congrArg V.int z⟩ : V.int x = V.int y ↔ x = y)]
  exact q⟩) k
theorem edt_of {b : Bool} {Bb : Bool → Prop} (h : ∀ H1, Dr p g s H H1 → EvT t σ H1 b) (k : Bb b) : EvDT p g s t σ H Bb := fun H1 d Q q => h H1 d H1 (Evl.Ex.refl _) Q fun H2 e => q b H2 (.of d.p1 e) k
theorem edt_and {B1 B2 : Bool → Prop} (h1 : EvDT p g s t σ H B1) (h2 : B1 true → EvDT p g s u σ H B2) : EvDT p g s (tAnd t u) σ H (fun b => b = true → B1 true ∧ B2 true) := fun H1 d Q q => h1 H1 d _ fun b H2 d2 hb => by
  cases b with
  | true => exact iteT (h2 hb H2 (d.trans d2) Q fun b H3 d3 hb2 => q b H3 (d2.trans d3) fun e => ⟨hb, by rw [← e]; exact hb2⟩)
  | false => exact iteF (q false H2 d2 fun e => Bool.noConfusion e)
/-- if, by a test that draws -/
theorem s_whenD {Bb : Bool → Prop} (h : EvDT p g s t σ H Bb) (P0 : Pt p g s H) (h1 : Bb true → ∀ H1, Dr p g s H H1 → tu D σ H1) (h2 : Bb false → ∀ H1, Dr p g s H H1 → D.nx σ H1) : tIfS t tu tNext D σ H := h H (.refl P0) _ fun b H1 d hb => by
  cases b with
  | true => exact iteT (h1 hb H1 d)
  | false => exact iteF (h2 hb H1 d)
theorem q_whenD {Bb : Bool → Prop} (h : EvDT p g s t σ H Bb) (P0 : Pt p g s H) (h1 : Bb true → ∀ H1, Dr p g s H H1 → tu { D with nx := tz D } σ H1) (h2 : Bb false → ∀ H1, Dr p g s H H1 → tz D σ H1) : tSeq (tIfS t tu tNext) tz D σ H := s_whenD (D := { D with nx := tz D }) h P0 h1 h2
theorem evd_if {Bb : Bool → Prop} (h : EvDT p g s t σ H Bb) (h1 : Bb true → EvD p g s ta σ H P) (h2 : Bb false → EvD p g s tb σ H P) : EvD p g s (tIf t ta tb) σ H P := fun H1 d Q q => h H1 d _ fun b H2 d2 hb => by
  cases b with
  | true => exact iteT (h1 hb H2 (d.trans d2) Q fun v H3 d3 pv => q v H3 (d2.trans d3) pv)
  | false => exact iteF (h2 hb H2 (d.trans d2) Q fun v H3 d3 pv => q v H3 (d2.trans d3) pv)
theorem q_asgD (h : EvD p g s te σ H P) (P0 : Pt p g s H) (k : ∀ v H1, Dr p g s H H1 → P v H1 → tz D (σ.set i (some v)) H1) : tSeq (tAsg te (gName i)) tz D σ H := h H (.refl P0) _ k
theorem q_asgI (h : EvI p g s te σ H A) (P0 : Pt p g s H) (k : ∀ n H1, Dr p g s H H1 → A n → tz D (σ.set i (some (.int n))) H1) : tSeq (tAsg te (gName i)) tz D σ H := h H (.refl P0) _ fun v H1 d ⟨n, e, a⟩ => by
  subst e
  exact k n H1 d a
theorem s_retD (h : EvD p g s te σ H P) (P0 : Pt p g s H) (k : ∀ v H1, Dr p g s H H1 → P v H1 → D.rt v H1) : tRet te D σ H := h H (.refl P0) _ k
/-- [.. draws .. for turn in range(..)] -/
theorem evd_comp {vs : List Nat} (hn : EvI p g s tn σ H (fun n => (0 ≤ n ∧ n ≤ 1000) ∧ N n)) (hw : ∀ x, wipe ((wipe σ vs).set j (some x)) vs = wipe σ vs)
    (he : ∀ n, N n → ∀ i : Nat, (i : Int) < n → EvI p g s te ((wipe σ vs).set j (some (.int (i : Int)))) H A) :
    EvD p g s (tLc (iRng1 (tCons tn tNil)) (gName j) tYes te vs) σ H (fun v H2 => ∃ ns n, LsP p g H2 v ns ∧ (∀ x ∈ ns, A x) ∧ N n ∧ (ns.length : Int) = n ∧ n ≤ 1000) := fun H0 d Q q => hn H0 d _ fun v H1 d1 ⟨n, e, hb, hN⟩ => by
  subst e
  refine ⟨n, rfl, by omega, by omega, fun D hD => ?_⟩
  have fr := d1.p1.fresh hD
  refine lc_range (lo := 0) (n := n.toNat) (fun i Hc => ∃ ns, Hc D = some (.lst (vI ns)) ∧ ns.length = i ∧ (∀ x ∈ ns, A x) ∧ Dr p g s H1 Hc) ⟨[], upd_same, rfl, (fun x hx => by cases hx), (Dr.refl d1.p1).mut hD⟩ ?_ ?_
  · rintro i Hc hi ⟨ns, h1, h2, h3, d2⟩
    refine ⟨hw _, ?_⟩
    unfold tYes
    refine iteT ?_
    rw [show (0 : Int) + (i : Int) = (i : Int) from Int.zero_add _]
    refine he n hN i (by omega) Hc ((d.trans d1).trans d2) _ fun y H4 d4 ⟨z, e, hz⟩ => ?_
    subst e
    refine ⟨vI ns, d4.ew D _ fr.1 fr.2.1 h1, by rw [vI_len, sizeLine_eq]; omega, ns ++ [z], ?_, by rw [List.length_append, h2]; rfl, fun x hx => ?_, (d2.trans d4).mut hD⟩
    · rw [upd_same]
      unfold vI
      rw [List.map_append]
      rfl
    · rcases List.mem_append.mp hx with hx | hx
      · exact h3 x hx
      · rw [List.mem_singleton.mp hx]
        exact hz
  · rintro Hc ⟨ns, h1, h2, h3, d2⟩
    exact q _ Hc (d1.trans d2) ⟨ns, n, ⟨D, rfl, fr.1, fr.2.1, h1⟩, h3, hN, by omega, hb.2⟩
end
end Nv
set_option Elab.async false
set_option linter.all false
set_option maxRecDepth 100000
set_option maxHeartbeats 4000000
/-! NvP: _law_pot, _law_draw, _law_any, _law_far. -/
namespace Nv
open PySem PySem.Spec PyProof.Rows L2
open Evl (Ev EvT EvL EvU EvA)
def spPot (K : PySem.W.Frag) : Sp := fun vs H Q _ => ∃ (a : Addr) (ns : List Int), vs = [.ref a] ∧ SqL K H a (vI ns) ∧ ns.length ≤ 63 ∧ ∀ p g s H2, Ex H H2 → Pt p g s H2 → Q (.ref p) H2
def spAny : Sp := fun vs H Q _ => ∃ (p g s : Addr) (v : V) (ns : List Int), vs = [.ref p, v] ∧ Pt p g s H ∧ Tp H v ns ∧ 0 < ns.length ∧ ns.length < 1000 ∧ ∀ n H2, Dr p g s H H2 → n ∈ ns → Q (.int n) H2
def spFar : Sp := fun vs H Q _ => ∃ (p g s : Addr), vs = [.ref p] ∧ Pt p g s H ∧ ∀ n H2, Dr p g s H H2 → Q (.int n) H2
theorem atI_in {ns : List Int} {i : Int} (h0 : 0 ≤ i) (h1 : i < ns.length) : ∃ z, z ∈ ns ∧ atI (vI ns) i = some (.int z) := by
  obtain ⟨j, rfl⟩ := Int.eq_ofNat_of_zero_le h0
  have hj : j < ns.length := by omega
  refine ⟨ns[j], List.getElem_mem hj, atI_nat ?_⟩
  unfold vI
  rw [List.getElem?_map, List.getElem?_eq_getElem hj]
  rfl
theorem ev_abs {σ : L2.St} {H : Hp} {ta : TE} {n : Int} (h : Ev ta σ H (.int n)) : Ev (tCB (fun xs H Q => ∃ i, xs = [.int i] ∧ Q (.int (if i < 0 then -i else i)) H) (tCons ta tNil)) σ H (.int (n.natAbs : Int)) := fun H1 e Q q =>
  h H1 e _ fun H2 e2 => ⟨n, rfl, by
    rw [show (if n < 0 then -n else n) = (n.natAbs : Int) by split <;> omega]
    exact q H2 e2⟩
theorem ev_pow {σ : L2.St} {H : Hp} {ta tb : TE} {n m : Int} (ha : Ev ta σ H (.int n)) (hb : Ev tb σ H (.int m)) (h : CPow n m) : Ev (tOp (rI CPow fun i j => .int (i ^ j.toNat)) ta tb) σ H (.int (n ^ m.toNat)) := Evl.ev_op ha hb (Evl.rv_I h)
theorem cut_take {xs : List V} {n : Nat} : cutV xs none (some (n : Int)) = xs.take n := by
  unfold cutV
  rw [HT.sIx_none, HT.sIx_nat, List.drop_zero, Nat.sub_zero]
  by_cases c : n ≤ xs.length
  · rw [Nat.min_eq_left c]
  · rw [Nat.min_eq_right (by omega), List.take_length, List.take_of_length_le (by omega)]
theorem q_setLg {σ : L2.St} {H : Hp} {te ta tb : TE} {v : V} {D : Ends} {tz : TS} {l : Addr} {xs : List V} {j : Nat} (hl : H l = some (.lst xs)) (h : Ev te σ H v) (ho : Ev ta σ H (.ref l)) (hi : Ev tb σ H (.int (j : Int))) (hj : j < xs.length) (k : ∀ H1 H3, Ex H H1 → H3 = upd H1 l (.lst (xs.set j v)) → tz D σ H3) :
    tSeq (tAsg te (gSub ta tb rSetL)) tz D σ H := Evl.q_setL hl h ho hi hj fun H1 e => k H1 _ e rfl
theorem el_NL {K : PySem.W.Frag} {σ : L2.St} {H : Hp} {te tl : TE} {t : TT} {ns : List Int} {j : Nat} {vs : List Nat} (f : Int → Bool) (v : Int → V) (h : EvL tl σ H (vI ns)) (hz : ns.length < sizeLine) (hw : ∀ x, wipe ((wipe σ vs).set j (some x)) vs = wipe σ vs)
    (ht : ∀ z H1, z ∈ ns → Ex H H1 → EvT t ((wipe σ vs).set j (some (.int z))) H1 (f z)) (he : ∀ z H1, z ∈ ns → Ex H H1 → f z = true → Ev te ((wipe σ vs).set j (some (.int z))) H1 (v z)) :
    EvL (tLc (iList K tl) (gName j) t te vs) σ H ((ns.filter f).map v) := fun H0 e Q q => h H0 e _ fun a H1 _ e1 h1 => ⟨a, rfl, ⟨vI ns, SqL.of h1⟩, fun D hD =>
  lc_list (xs := vI ns) (Cw H1 ns f v D) (cw_start hD) (fun i H' _ p => SqL.of (p.2.1 _ _ h1)) (fun i x H' hi p => by
      obtain ⟨z, hz1, rfl⟩ := vI_get hi
      have hm : z ∈ ns := List.mem_of_getElem? hz1
      exact ⟨hw _, cw_turn p hz hz1 (ht z H1 hm (e.trans e1)) (fun hf => he z H1 hm (e.trans e1) hf)⟩)
    (fun H' p => q D H' (Ex.free e1 p.1) (e1.trans p.2.1) (by
      have p3 := p.2.2
      rw [vI_len, List.take_length] at p3
      exact p3))⟩
theorem ev_sumV {K : PySem.W.Frag} {σ : L2.St} {H : Hp} {te : TE} {ns : List Int} {p : Addr} (h : Ev te σ H (.ref p)) (hp : H p = some (.lst (vI ns))) : Ev (tCB (rSum K) (tCons te tNil)) σ H (.int ns.sum) := fun H1 e Q q =>
  h H1 e _ fun H2 e2 => ⟨p, ns, rfl, SqL.of ((e.trans e2) _ _ hp), q H2 e2⟩
section
variable {P : Program} {w : World} {K : PySem.W.Frag} {mg : Str → Option Value} {base : Heap}
theorem sc_law_pot : FnScope ["_law_script", "_law_cells", "_law_greats", "_law_smalls", "_law_item"] ["_law_script"] (defScope sLPot) := ⟨rfl, rfl, rfl, by decide +kernel, rfl, by decide +kernel, by decide +kernel⟩
theorem ok_law_pot (T : Txt K mg) : Gd P w K mg base CX0 1 (He.ga K "_law_pot") ["_law_script"] (spPot K) := by
  refine Fn.good T.f__law_pot sc_law_pot (fun _ _ _ _ _ _ us hl => match us, hl with | [_], _ => rfl) (fun vs H Q E h => ?_) (fun cdv A outer s H vs Q E hr h => ?_)
  · obtain ⟨a, ns, rfl, _⟩ := h
    rfl
  · obtain ⟨a, ns, rfl, hx, hz, k⟩ := h
    refine ⟨_, (pss_cons (ps_setLc (i := 1) (own := [("_law_item", 4)]) (g := gName 4) rfl sc_law_pot.nd rfl rfl (sw_true rfl rfl rfl (by decide +kernel)) (pi_list (pe_slice sl_list (pv 0) po_none (po_some pe_int))) (blkOk_by (N := ["_law_script", "_law_cells", "_law_greats", "_law_smalls", "_law_item"]) (sc := defScope sLPot) (by decide +kernel)) (fun _ _ _ _ _ => pg_name (i := 4) sc_law_pot.nd rfl (Or.inl rfl)) (fun _ _ _ _ _ => pts_nil) (fun _ _ _ _ _ => (pe_callTy call_int1 (by rfl) T.n_int (by decide +kernel) (pa_cons (pv 4) pa_nil))))
      (pss_cons (ps_setLc (i := 2) (own := [("_law_item", 4)]) (g := gName 4) rfl sc_law_pot.nd rfl rfl (sw_true rfl rfl rfl (by decide +kernel)) (pi_list (pv 1)) (blkOk_by (N := ["_law_script", "_law_cells", "_law_greats", "_law_smalls", "_law_item"]) (sc := defScope sLPot) (by decide +kernel)) (fun _ _ _ _ _ => pg_name (i := 4) sc_law_pot.nd rfl (Or.inl rfl)) (fun _ _ _ _ _ => pts_one (pt_cmpR op_ge (pe_callB call_abs (by rfl) T.n_abs (by decide +kernel) (pa_cons (pv 4) pa_nil)) (pe_op op_pow pe_int pe_int) (nomark _))) (fun _ _ _ _ _ => (pe_callB call_abs (by rfl) T.n_abs (by decide +kernel) (pa_cons (pv 4) pa_nil))))
      (pss_cons (ps_set (i := 3) sc_law_pot.nd rfl (Or.inl rfl) (pe_op op_cat (pe_lc (own := [("_law_item", 4)]) (g := gName 4) rfl sc_law_pot.nd (pi_list (pv 1)) (blkOk_by (N := ["_law_script", "_law_cells", "_law_greats", "_law_smalls", "_law_item"]) (sc := defScope sLPot) (by decide +kernel)) (fun _ _ _ _ _ => pg_name (i := 4) sc_law_pot.nd rfl (Or.inl rfl)) (fun _ _ _ _ _ => pts_one (pt_cmpR op_lt (pe_callB call_abs (by rfl) T.n_abs (by decide +kernel) (pa_cons (pv 4) pa_nil)) (pe_op op_pow pe_int pe_int) (nomark _))) (fun _ _ _ _ _ => (pe_op op_mod (pe_callTy call_int1 (by rfl) T.n_int (by decide +kernel) (pa_cons (pv 4) pa_nil)) pe_int))) (pe_lst (pa_cons (pe_op op_add (pe_callB (kLen (K := K) rfl) (by rfl) T.n_len (by decide +kernel) (pa_cons (pv 1) pa_nil)) pe_int) pa_nil))))
      (pss_one (ps_ret (pe_lst (pa_cons (pv 2) (pa_cons (pv 3) (pa_cons pe_int (pa_cons (pe_op op_mod (pe_callTy call_int1 (by rfl) T.n_int (by decide +kernel) (pa_cons (pe_callB (cr_sum rfl) (by rfl) T.n_sum (by decide +kernel) (pa_cons (pv 3) pa_nil)) pa_nil)) pe_int) pa_nil)))))))))), ?_⟩
    have z0 : ∀ {xs : List Int}, xs.length ≤ 63 → xs.length < sizeLine := fun h => by rw [sizeLine_eq]; omega
    have hp18 : CPow 10 18 := ⟨by decide, by decide, by decide⟩
    refine Evl.q_asgL (xs := vI (ns.take 63)) (EvL.is (el_NL (ns := ns.take 63) (fun _ => true) V.int (EvL.is (Evl.el_sl (a := a) (lo := none) (hi := some ((63 : Nat) : Int)) (Evl.ev_var rfl) Evl.eo_none (Evl.eo_some Evl.ev_c) hx) (cut_take.trans (List.map_take ..).symm)) (z0 (by rw [List.length_take]; omega)) (fun x => rfl) (fun z Hz _ ez => et_yes) (fun z Hz _ ez _ => ev_int1 (Evl.ev_var rfl))) (by rw [filter_yes])) fun pc H1 _ e1 hc => ?_
    have zc : (ns.take 63).length ≤ 63 := by rw [List.length_take]; omega
    refine Evl.q_asgL (EvL.is (ys := vI (((ns.take 63).filter fun x => decide ((10 : Int) ^ 18 ≤ (x.natAbs : Int))).map fun x => (x.natAbs : Int))) (el_L (ns := ns.take 63) (fun x => decide ((10 : Int) ^ 18 ≤ (x.natAbs : Int))) (fun x => .int (x.natAbs : Int)) (Evl.ev_var rfl) (SqL.of hc) (z0 zc) (fun x => rfl) (fun z Hz _ ez => et_ge (ev_abs (Evl.ev_var rfl)) (ev_pow Evl.ev_c Evl.ev_c hp18)) (fun z Hz _ ez _ => ev_abs (Evl.ev_var rfl))) (by unfold vI; rw [List.map_map]; rfl)) fun pg H2 fg e2 hg => ?_
    refine Evl.q_asgL (xs := vI ((((ns.take 63).filter fun x => decide ((x.natAbs : Int) < (10 : Int) ^ 18)).map fun x => x % 1000000007) ++ [((ns.take 63).length : Int) + 1])) (EvL.is (el_cat (el_L (ns := ns.take 63) (fun x => decide ((x.natAbs : Int) < (10 : Int) ^ 18)) (fun x => .int (x % 1000000007)) (Evl.ev_var rfl) (SqL.of (e2 _ _ hc)) (z0 zc) (fun x => rfl) (fun z Hz _ ez => et_lt (ev_abs (Evl.ev_var rfl)) (ev_pow Evl.ev_c Evl.ev_c hp18)) (fun z Hz _ ez _ => ev_mod (ev_int1 (Evl.ev_var rfl)) Evl.ev_c (by decide)))
      (Evl.el_lst (Evl.ea_cons (ev_add (ev_lenL (Evl.ev_var rfl) (e2 _ _ hc)) Evl.ev_c) Evl.ea_nil) (by show 1 ≤ 100000; decide)) ?_) ?_) fun ps H3 fs e3 hs => ?_
    · have z1 := List.length_filter_le (fun x : Int => decide ((x.natAbs : Int) < (10 : Int) ^ 18)) (ns.take 63)
      rw [List.length_map, sizeLine_eq]
      show _ + 1 ≤ _
      omega
    · unfold vI
      rw [List.map_append, List.map_map, List.length_map]
      rfl
    refine Evl.s_retL (xs := [.ref pg, .ref ps, .int 0, .int _]) (Evl.el_lst (Evl.ea_cons (Evl.ev_var rfl) (Evl.ea_cons (Evl.ev_var rfl) (Evl.ea_cons Evl.ev_c (Evl.ea_cons (ev_mod (ev_int1 (ev_sumV (Evl.ev_var rfl) hs)) Evl.ev_c (by decide)) Evl.ea_nil)))) (by show 4 ≤ 100000; decide)) fun p H4 fp e4 hp => ?_
    refine k p pg ps H4 (((e1.trans e2).trans e3).trans e4) ⟨⟨_, _, _, _, hp, e4 _ _ (e3 _ _ hg), e4 _ _ hs, fun x hx => ?_, ?_⟩, ?_⟩
    · obtain ⟨y, _, rfl⟩ := List.mem_map.mp hx
      omega
    · rw [List.length_append]
      exact Nat.lt_add_left _ (by show 0 < 1; decide)
    · exact ne_of_none hg fs
theorem sc_law_draw : FnScope ["_law_pot_here", "_law_many", "_law_turn", "_law_number", "_law_seed"] ["_law_pot_here", "_law_many"] (defScope sLDraw) := ⟨rfl, rfl, rfl, by decide +kernel, rfl, by decide +kernel, by decide +kernel⟩
theorem ok_law_draw (T : Txt K mg) : Gd P w K mg base CX0 1 (He.ga K "_law_draw") ["_law_pot_here", "_law_many"] spDraw := by
  refine Fn.good T.f__law_draw sc_law_draw (fun _ _ _ _ _ _ us hl => match us, hl with | [_, _], _ => rfl) (fun vs H Q E h => ?_) (fun cdv A outer s H vs Q E hr h => ?_)
  · obtain ⟨p, g, s, n, rfl, _⟩ := h
    rfl
  · obtain ⟨p, g, s, n, rfl, pt, n0, n1, k⟩ := h
    refine ⟨_, (pss_cons (ps_set (i := 2) sc_law_draw.nd rfl (Or.inl rfl) (pe_ix (kIxL (K := K) rfl) (pv 0) pe_int (fun _ _ => rfl)))
      (pss_cons (ps_asg (pe_op op_add (pv 2) pe_int) (pg_sub (pv 0) pe_int set_list))
      (pss_cons (ps_if (pt_cmpR op_gt (pe_callB (kLen (K := K) rfl) (by rfl) T.n_len (by decide +kernel) (pa_cons (pe_ix (kIxL (K := K) rfl) (pv 0) pe_int (fun _ _ => rfl)) pa_nil)) pe_int (nomark _)) (pss_cons (ps_set (i := 3) sc_law_draw.nd rfl (Or.inl rfl) (pe_ix (kIxL (K := K) rfl) (pe_ix (kIxL (K := K) rfl) (pv 0) pe_int (fun _ _ => rfl)) pe_int (fun _ _ => rfl)))
      (pss_cons (ps_asg (pe_op op_fdivW (pv 3) (pv 1)) (pg_sub (pe_ix (kIxL (K := K) rfl) (pv 0) pe_int (fun _ _ => rfl)) pe_int set_list))
      (pss_cons (ps_if (pt_cmpR op_lt (pv 3) (pv 1) (nomark _)) (pss_one (ps_expr (pe_bm PySem.F.plainAttrs_list PySem.F.slot_list_pop PySem.F.type_list_pop mt_popAt (pe_ix (kIxL (K := K) rfl) (pv 0) pe_int (fun _ _ => rfl)) (pa_cons pe_int pa_nil)))) pss_nil)
      (pss_one (ps_ret (pe_op op_mod (pe_callTy call_int1 (by rfl) T.n_int (by decide +kernel) (pa_cons (pv 3) pa_nil)) (pv 1))))))) pss_nil)
      (pss_cons (ps_set (i := 4) sc_law_draw.nd rfl (Or.inl rfl) (pe_op op_add (pe_op op_add (pe_op op_mul (pe_ix (kIxL (K := K) rfl) (pe_ix (kIxL (K := K) rfl) (pv 0) pe_int (fun _ _ => rfl)) (pe_op op_mod (pe_callTy call_int1 (by rfl) T.n_int (by decide +kernel) (pa_cons (pv 2) pa_nil)) (pe_callB (kLen (K := K) rfl) (by rfl) T.n_len (by decide +kernel) (pa_cons (pe_ix (kIxL (K := K) rfl) (pv 0) pe_int (fun _ _ => rfl)) pa_nil))) (fun _ _ => rfl)) pe_int) (pe_op op_mul pe_int (pv 2))) (pe_op op_mul (pe_ix (kIxL (K := K) rfl) (pv 0) pe_int (fun _ _ => rfl)) pe_int)))
      (pss_cons (ps_set (i := 3) sc_law_draw.nd rfl (Or.inl rfl) (pe_op op_mod (pe_callTy call_int1 (by rfl) T.n_int (by decide +kernel) (pa_cons (pe_op op_add (pe_op op_mul (pv 4) pe_int) pe_int) pa_nil)) pe_int))
      (pss_cons (ps_set (i := 3) sc_law_draw.nd rfl (Or.inl rfl) (pe_op op_mod (pe_callTy call_int1 (by rfl) T.n_int (by decide +kernel) (pa_cons (pe_op op_mul (pv 3) (pe_op op_add (pe_op op_fdiv (pv 3) pe_int) pe_int)) pa_nil)) pe_int))
      (pss_cons (ps_set (i := 3) sc_law_draw.nd rfl (Or.inl rfl) (pe_op op_mod (pe_callTy call_int1 (by rfl) T.n_int (by decide +kernel) (pa_cons (pe_op op_add (pe_op op_mul (pv 3) (pe_op op_add (pe_op op_fdiv (pv 3) pe_int) pe_int)) (pv 2)) pa_nil)) pe_int))
      (pss_one (ps_ret (pe_op op_mod (pe_callTy call_int1 (by rfl) T.n_int (by decide +kernel) (pa_cons (pe_op op_fdiv (pv 3) pe_int) pa_nil)) (pv 1))))))))))), ?_⟩
    have pg := pt.pg
    have ps := pt.ps
    have gs' := pt.ne
    obtain ⟨gs, ss, t, m, hp, hg, hs, nn, sz⟩ := pt.ex
    refine Evl.q_asg (ev_ixL (v := .int t) (Evl.ev_var rfl) Evl.ev_c hp rfl) fun H1 e1 => ?_
    refine q_setLg (j := 2) (e1 _ _ hp) (ev_add (Evl.ev_var rfl) Evl.ev_c) (Evl.ev_var rfl) Evl.ev_c (by show 2 < 4; decide) fun H2 H3 e2 q3 => ?_
    have e2 := e1.trans e2
    have hp3 : H3 p = some (.lst [.ref g, .ref s, .int (t + 1), .int m]) := by rw [q3]; exact upd_same
    have hg3 : H3 g = some (.lst (vI gs)) := by rw [q3, upd_ne (Ne.symm pg)]; exact e2 _ _ hg
    have hs3 : H3 s = some (.lst (vI ss)) := by rw [q3, upd_ne (Ne.symm ps)]; exact e2 _ _ hs
    have d3 : Dr p g s H H3 := ⟨pt, ⟨⟨gs, ss, t + 1, m, hp3, hg3, hs3, nn, sz⟩, gs'⟩, fun a o a1 a2 h => by rw [q3, upd_ne a1]; exact e2 _ _ h⟩
    refine Evl.q_when (et_gt (ev_lenL (Evl.ev_is (ev_ixL (v := .ref g) (Evl.ev_var rfl) Evl.ev_c hp3 rfl) rfl) hg3) Evl.ev_c) (fun c H4 e4 => ?_) (fun c H4 e4 => ?_)
    · have hp4 := e4 _ _ hp3
      have hg4 := e4 _ _ hg3
      have hs4 := e4 _ _ hs3
      have d4 := d3.trans (.of d3.p1 e4)
      have c1 : (0 : Int) < ((vI gs).length : Int) := of_decide_eq_true c
      cases gs with
      | nil => exact absurd c1 (by decide)
      | cons x r =>
        have x0 : 0 ≤ x := nn x List.mem_cons_self
        have r0 : ∀ y ∈ r, 0 ≤ y := fun y hy => nn y (List.mem_cons_of_mem _ hy)
        refine Evl.q_asg (ev_ixL (v := .int x) (ev_ixL (v := .ref g) (Evl.ev_var rfl) Evl.ev_c hp4 rfl) Evl.ev_c hg4 (atI_nat (j := 0) rfl)) fun H5 e5 => ?_
        have d5 := d4.trans (.of d4.p1 e5)
        have hp5 := e5 _ _ hp4
        have hg5 := e5 _ _ hg4
        have hs5 := e5 _ _ hs4
        refine q_setLg (j := 0) hg5 (Evl.ev_op (Evl.ev_var rfl) (Evl.ev_var rfl) (Evl.rv_I (wide_div (b := 200) n0 (by omega) (by decide) (by decide)))) (ev_ixL (v := .ref g) (Evl.ev_var rfl) Evl.ev_c hp5 rfl) Evl.ev_c (by rw [vI_len, List.length_cons]; exact Nat.succ_pos _) fun H6 H7 e6 q7 => ?_
        have q0 : 0 ≤ x / n := Int.ediv_nonneg x0 (by omega)
        have hg7 : H7 g = some (.lst (vI (x / n :: r))) := by rw [q7]; exact upd_same
        have hp7 : H7 p = some (.lst [.ref g, .ref s, .int (t + 1), .int m]) := by rw [q7, upd_ne pg]; exact e6 _ _ hp5
        have hs7 : H7 s = some (.lst (vI ss)) := by rw [q7, upd_ne (Ne.symm gs')]; exact e6 _ _ hs5
        have d7 : Dr p g s H H7 := ⟨pt, ⟨⟨_, ss, t + 1, m, hp7, hg7, hs7, fun y hy => by
          rcases List.mem_cons.mp hy with rfl | hy
          · exact q0
          · exact r0 y hy, sz⟩, gs'⟩, fun a o a1 a2 h => by rw [q7, upd_ne a2]; exact e6 _ _ (d5.ew a o a1 a2 h)⟩
        have fin : ∀ H8, Dr p g s H H8 → tRet (tOp (rI (fun _ j => 0 < j) fun i j => .int (i % j)) (tCB (fun xs H Q => (∃ i, xs = [V.int i] ∧ Q (.int i) H) ∨ ∃ k : Bool, xs = [.bl k] ∧ Q (.int (if k then 1 else 0)) H) (tCons (tVar 3) tNil)) (tVar 1)) { nx := fun _ H' => Q .non H', rt := Q } [some (.ref p), some (.int n), some (.int t), some (.int x), none] H8 := fun H8 d8 =>
          s_retE (ev_mod (ev_int1 (Evl.ev_var rfl)) (Evl.ev_var rfl) n0) fun H9 e9 => k _ _ (d8.trans (.of d8.p1 e9)) (Int.emod_nonneg _ (by omega)) (Int.emod_lt_of_pos _ n0)
        refine Evl.q_when (et_lt (Evl.ev_var rfl) (Evl.ev_var rfl)) (fun _ H8 e8 => ?_) (fun _ H8 e8 => fin H8 (d7.trans (.of d7.p1 e8)))
        refine ev_ixL (v := .ref g) (Evl.ev_var rfl) Evl.ev_c (e8 _ _ hp7) rfl H8 (Evl.Ex.refl _) _ fun H9 e9 => ?_
        have hg9 := e9 _ _ (e8 _ _ hg7)
        have d9 := d7.trans (.of d7.p1 (e8.trans e9))
        refine ⟨Or.inl ⟨rfl, _, Evl.sq_of hg9⟩, g, _, 0, 0, .int (x / n), rfl, rfl, hg9, by decide, by decide, (ixN_seq (Evl.ixN_nat (j := 0) (by rw [vI_len, List.length_cons]; exact Nat.succ_pos _))).1, rfl, ?_⟩
        refine fin _ ⟨pt, ⟨⟨r, ss, t + 1, m, ?_, ?_, ?_, r0, sz⟩, gs'⟩, fun a o a1 a2 h => ?_⟩
        · rw [upd_ne pg]
          exact e9 _ _ (e8 _ _ hp7)
        · exact upd_same
        · rw [upd_ne (Ne.symm gs')]
          exact e9 _ _ (e8 _ _ hs7)
        · rw [upd_ne a2]
          exact d9.ew a o a1 a2 h
    · have hp4 := e4 _ _ hp3
      have hs4 := e4 _ _ hs3
      have d4 := d3.trans (.of d3.p1 e4)
      have sz' : (0 : Int) < ((vI ss).length : Int) := by rw [vI_len]; omega
      obtain ⟨y, _, hy⟩ := atI_in (ns := ss) (i := t % ((vI ss).length : Int)) (Int.emod_nonneg _ (by omega)) (by have := Int.emod_lt_of_pos t sz'; rw [vI_len] at this ⊢; exact this)
      have cm : ∀ {a b : Int}, -(2 ^ 64) < b ∧ b < 2 ^ 64 → CMul a b := fun h => .inr h
      have cl : ∀ {a b : Int}, -(2 ^ 64) < a ∧ a < 2 ^ 64 → CMul a b := fun h => .inl h
      have ml : ∀ {a b : Int}, 0 < b → b < 2 ^ 40 → -(2 ^ 64) < a % b ∧ a % b < 2 ^ 64 := fun {a b} h0 h1 => by
        have z0 := Int.emod_nonneg a (show b ≠ 0 by omega)
        have z1 := Int.emod_lt_of_pos a h0
        omega
      refine Evl.q_asg (ev_add (ev_add (ev_mul (ev_ixL (v := .int y) (ev_ixL (v := .ref s) (Evl.ev_var rfl) Evl.ev_c hp4 rfl) (ev_mod (ev_int1 (Evl.ev_var rfl)) (ev_lenL (ev_ixL (v := .ref s) (Evl.ev_var rfl) Evl.ev_c hp4 rfl) hs4) sz') hs4 hy) Evl.ev_c (cm (by decide))) (ev_mul Evl.ev_c (Evl.ev_var rfl) (cl (by decide)))) (ev_mul (ev_ixL (v := .int m) (Evl.ev_var rfl) Evl.ev_c hp4 rfl) Evl.ev_c (cm (by decide)))) fun H5 e5 => ?_
      refine Evl.q_asg (ev_mod (ev_int1 (ev_add (ev_mul (Evl.ev_var rfl) Evl.ev_c (cm (by decide))) Evl.ev_c)) Evl.ev_c (by decide)) fun H6 e6 => ?_
      refine Evl.q_asg (ev_mod (ev_int1 (ev_mul (Evl.ev_var rfl) (ev_add (ev_fdiv (Evl.ev_var rfl) Evl.ev_c ⟨by decide, by decide⟩) Evl.ev_c) (cl (ml (by decide) (by decide))))) Evl.ev_c (by decide)) fun H7 e7 => ?_
      refine Evl.q_asg (ev_mod (ev_int1 (ev_add (ev_mul (Evl.ev_var rfl) (ev_add (ev_fdiv (Evl.ev_var rfl) Evl.ev_c ⟨by decide, by decide⟩) Evl.ev_c) (cl (ml (by decide) (by decide)))) (Evl.ev_var rfl))) Evl.ev_c (by decide)) fun H8 e8 => ?_
      refine s_retE (ev_mod (ev_int1 (ev_fdiv (Evl.ev_var rfl) Evl.ev_c ⟨by decide, by decide⟩)) (Evl.ev_var rfl) n0) fun H9 e9 => ?_
      exact k _ _ (d4.trans (.of d4.p1 ((((e5.trans e6).trans e7).trans e8).trans e9))) (Int.emod_nonneg _ (by omega)) (Int.emod_lt_of_pos _ n0)
theorem sc_law_any : FnScope ["_law_pot_here", "_law_items"] ["_law_pot_here", "_law_items"] (defScope sLAny) := ⟨rfl, rfl, rfl, by decide +kernel, rfl, by decide +kernel, by decide +kernel⟩
theorem ok_law_any (T : Txt K mg) : Gd P w K mg base CX0 2 (He.ga K "_law_any") ["_law_pot_here", "_law_items"] spAny := by
  have G__law_draw : Gd P w K mg base CX0 1 (He.ga K "_law_draw") ["_law_pot_here", "_law_many"] spDraw := ok_law_draw T
  refine Fn.good T.f__law_any sc_law_any (fun _ _ _ _ _ _ us hl => match us, hl with | [_, _], _ => rfl) (fun vs H Q E h => ?_) (fun cdv A outer s H vs Q E hr h => ?_)
  · obtain ⟨p, g, s, v, ns, rfl, _⟩ := h
    rfl
  · obtain ⟨p, g, s, v, ns, rfl, pt, ⟨a, rfl, ha⟩, n0, n1, k⟩ := h
    refine ⟨_, (pss_one (ps_ret (pe_ix (kIxT (K := K) rfl) (pv 1) (pcl G__law_draw (hr.mono (by decide)) T.g__law_draw (pa_cons (pv 0) (pa_cons (pe_callB (kLen (K := K) rfl) (by rfl) T.n_len (by decide +kernel) (pa_cons (pv 1) pa_nil)) pa_nil))) (fun _ _ => rfl)))), ?_⟩
    refine u_ret ⟨_, rfl, ?_⟩
    refine evi_draw (p := p) (g := g) (s := s) (N := fun n => n = (ns.length : Int)) (A := fun i => 0 ≤ i ∧ i < ns.length) rfl (evi_of (fun H1 d => Evl.ev_is (ev_lenT (Evl.ev_var rfl) (d.tup ha)) (by rw [vI_len])) rfl) (fun n e => by subst e; omega) (fun n v e h0 h1 => by subst e; exact ⟨h0, h1⟩) H (.refl pt) _ fun v H2 d ⟨i, e, i0, i1⟩ => ?_
    subst e
    obtain ⟨z, hz, hy⟩ := atI_in i0 i1
    exact ⟨a, vI ns, i, .int z, rfl, rfl, SqT.of (d.tup ha), hy, k z _ d hz⟩
theorem sc_law_far : FnScope ["_law_pot_here"] ["_law_pot_here"] (defScope sLFar) := ⟨rfl, rfl, rfl, by decide +kernel, rfl, by decide +kernel, by decide +kernel⟩
theorem ok_law_far (T : Txt K mg) : Gd P w K mg base CX0 2 (He.ga K "_law_far") ["_law_pot_here"] spFar := by
  have G__law_draw : Gd P w K mg base CX0 1 (He.ga K "_law_draw") ["_law_pot_here", "_law_many"] spDraw := ok_law_draw T
  refine Fn.good T.f__law_far sc_law_far (fun _ _ _ _ _ _ us hl => match us, hl with | [_], _ => rfl) (fun vs H Q E h => ?_) (fun cdv A outer s H vs Q E hr h => ?_)
  · obtain ⟨p, g, s, rfl, _⟩ := h
    rfl
  · obtain ⟨p, g, s, rfl, pt, k⟩ := h
    refine ⟨_, (pss_cons (ps_if (pt_cmpR op_gt (pcl G__law_draw (hr.mono (by decide)) T.g__law_draw (pa_cons (pv 0) (pa_cons pe_int pa_nil))) pe_int (nomark _)) (pss_one (ps_ret pe_int)) pss_nil)
      (pss_one (ps_ret (pe_op op_sub (pcl G__law_draw (hr.mono (by decide)) T.g__law_draw (pa_cons (pv 0) (pa_cons (pe_op op_mul pe_int (pe_op op_pow pe_int pe_int)) pa_nil))) (pe_op op_pow pe_int pe_int))))), ?_⟩
    have hp38 : CPow 10 38 := ⟨by decide, by decide, by decide⟩
    refine q_whenD (p := p) (g := g) (s := s) (Bb := fun _ => True) (edt_gt (A := fun _ => True) (B := fun _ => True) (evi_draw1 rfl ⟨by decide, by decide⟩ fun _ _ _ => trivial) (evi_c trivial) fun _ _ _ _ => trivial) pt (fun _ H1 d1 => ?_) (fun _ H1 d1 => ?_)
    · exact s_retE Evl.ev_c fun H2 e2 => k _ _ (d1.trans (.of d1.p1 e2))
    · refine s_retD (p := p) (g := g) (s := s) (evi_sub (A := fun _ => True) (B := fun _ => True) (C := fun _ => True) (evi_draw (N := fun n => n = 2 * 10 ^ 38) rfl (evi_of (fun H2 _ => ev_mul Evl.ev_c (ev_pow Evl.ev_c Evl.ev_c hp38) (.inl ⟨by decide, by decide⟩)) rfl) (fun n e => by subst e; decide) fun _ _ _ _ _ => trivial) (evi_of (fun H2 _ => ev_pow Evl.ev_c Evl.ev_c hp38) trivial) fun _ _ _ _ => trivial) d1.p1 fun v H2 d2 ⟨i, e, _⟩ => ?_
      subst e
      exact k _ _ (d1.trans d2)
end
end Nv
set_option Elab.async false
set_option linter.all false
set_option maxRecDepth 100000
set_option maxHeartbeats 4000000
/-! NvQ: _law_rests, _law_great. -/
namespace Nv
open PySem PySem.Spec PyProof.Rows L2
open Evl (Ev EvT EvL EvU EvA)
/-- the six parts as the law has them: a tuple -/
def PartsV (H : Hp) (v : V) (p : P6) : Prop := ∃ q pm pb pa, v = .ref q ∧ H q = some (.tup [.int p.low, .int p.high, .ref pm, .int p.st, .ref pb, .ref pa]) ∧ H pm = some (.tup (vI p.ms)) ∧ H pb = some (.tup (vI p.bl)) ∧ H pa = some (.tup (vI p.ab))
theorem PartsV.mono {H H' : Hp} {v : V} {p : P6} (h : PartsV H v p) (e : Ex H H') : PartsV H' v p := let ⟨q, pm, pb, pa, e0, h1, h2, h3, h4⟩ := h; ⟨q, pm, pb, pa, e0, e _ _ h1, e _ _ h2, e _ _ h3, e _ _ h4⟩
theorem PartsV.dr {H H' : Hp} {v : V} {q : P6} {p g s : Addr} (h : PartsV H v q) (d : Dr p g s H H') : PartsV H' v q := let ⟨q, pm, pb, pa, e0, h1, h2, h3, h4⟩ := h; ⟨q, pm, pb, pa, e0, d.tup h1, d.tup h2, d.tup h3, d.tup h4⟩
/-- the law's lots are small -/
structure Sm (p : P6) : Prop where
  wf : p.Wf
  st : p.st ≤ 4000
  span : p.high - p.low ≤ 100000
  ms : p.ms.length ≤ 6
  bl : p.bl.length ≤ 12
  ab : p.ab.length ≤ 12
def spRests : Sp := fun vs H Q _ => ∃ (p g s : Addr) (st : Int), vs = [.ref p, .int st] ∧ Pt p g s H ∧ 0 < st ∧ st ≤ 4000 ∧ ∀ v rs H2, Dr p g s H H2 → Tp H2 v rs → Rests st rs → rs.length ≤ 12 → Q v H2
def spGreat : Sp := fun vs H Q _ => ∃ (p g s : Addr), vs = [.ref p] ∧ Pt p g s H ∧ ∀ v q H2, Dr p g s H H2 → PartsV H2 v q → Sm q → Q v H2
theorem lt_of_le_nodup {ms : List Int} (h : ms.Pairwise (· ≤ ·)) (n : ms.Nodup) : ms.Pairwise (· < ·) := by
  refine (h.and n).imp ?_
  rintro a b ⟨h1, h2⟩
  omega
section
variable {K : PySem.W.Frag} {w : World} {σ : L2.St} {H : Hp} {te tl : TE} {ns : List Int} {p g s : Addr} {P : V → Hp → Prop} {v : V} {i j : Nat} {A : Int → Prop} {C : List Int → Prop} {tu tz : TS} {D : Ends} {ta : TA}
/-- tuple(xs) of a list told by a word -/
theorem evp_tuple (h : EvP te σ H (fun v H1 => ∃ ms, Ls H1 v ms ∧ C ms)) : EvP (tCB (fun xs H Q => ∃ p ys, xs = [.ref p] ∧ ((SqL K H p ys ∧ ∀ l, H l = none → Q (.ref l) (upd H l (.tup ys))) ∨ (SqT K H p ys ∧ Q (.ref p) H))) (tCons te tNil)) σ H (fun v H1 => ∃ ms, Tp H1 v ms ∧ C ms) := fun H1 e Q q =>
  h H1 e _ fun v H2 e2 ⟨ms, ⟨a, ev, ha⟩, hc⟩ => by
    subst ev
    exact ⟨a, vI ms, rfl, .inl ⟨SqL.of ha, fun l hl => q _ _ (Ex.step e2 hl) ⟨ms, ⟨l, rfl, upd_same⟩, hc⟩⟩⟩
/-- over a new tuple of ints -/
theorem s_forTN (h : EvU tl σ H (vI ns)) (k : ∀ a H1, Ex H H1 → H1 a = some (.tup (vI ns)) → ∃ Pv : Nat → L2.St → Hp → Prop, Pv 0 σ H1 ∧ (∀ i σ' H', Pv i σ' H' → H' a = some (.tup (vI ns))) ∧
      (∀ i z σ' H', ns[i]? = some z → Pv i σ' H' → tu { D with nx := Pv (i + 1), ct := Pv (i + 1), bk := D.nx } (σ'.set j (some (.int z))) H') ∧ (∀ σ' H', Pv ns.length σ' H' → D.nx σ' H')) : tFor (iTup K tl) (gName j) tu D σ H :=
  h H (Evl.Ex.refl H) _ fun a H1 _ e ha => by
    obtain ⟨Pv, p0, pl, ps, pd⟩ := k a H1 e ha
    refine ⟨a, rfl, ⟨vI ns, SqT.of ha⟩, for_tup (xs := vI ns) Pv p0 (fun i σ' H' _ p => SqT.of (pl i σ' H' p)) (fun i x σ' H' hi p => ?_) (fun σ' H' p => pd σ' H' (by rw [vI_len] at p; exact p))⟩
    obtain ⟨z, hz, rfl⟩ := vI_get hi
    exact ps i z σ' H' hz p
theorem q_forTN (h : EvU tl σ H (vI ns)) (k : ∀ a H1, Ex H H1 → H1 a = some (.tup (vI ns)) → ∃ Pv : Nat → L2.St → Hp → Prop, Pv 0 σ H1 ∧ (∀ i σ' H', Pv i σ' H' → H' a = some (.tup (vI ns))) ∧
      (∀ i z σ' H', ns[i]? = some z → Pv i σ' H' → tu { D with nx := Pv (i + 1), ct := Pv (i + 1), bk := tz D } (σ'.set j (some (.int z))) H') ∧ (∀ σ' H', Pv ns.length σ' H' → tz D σ' H')) : tSeq (tFor (iTup K tl) (gName j) tu) tz D σ H :=
  s_forTN (D := { D with nx := tz D }) h k
/-- tuple(sorted(set(xs))) -/
theorem evd_tss (h : EvD p g s te σ H (fun v H1 => ∃ ns, LsP p g H1 v ns ∧ C ns)) (hz : ∀ ns, C ns → ns.length < 63) :
    EvD p g s (tCB (fun xs H Q => ∃ p ys, xs = [.ref p] ∧ ((SqL K H p ys ∧ ∀ l, H l = none → Q (.ref l) (upd H l (.tup ys))) ∨ (SqT K H p ys ∧ Q (.ref p) H))) (tCons (tCB (rSortedSet w) (tCons (tCB (rSetI K w) (tCons te tNil)) tNil)) tNil)) σ H
      (fun v H1 => ∃ ms ns, Tp H1 v ms ∧ C ns ∧ ms.Pairwise (· < ·) ∧ (∀ k, k ∈ ms ↔ k ∈ ns) ∧ ms.length ≤ ns.length) := fun H1 d Q q =>
  h H1 d _ fun v H2 d2 ⟨ns, ⟨a, ev, _, _, ha⟩, hc⟩ => by
    subst ev
    have lz := hz ns hc
    refine ⟨a, ns, rfl, SqL.of ha, lz, fun o c hcn ho => ?_⟩
    have d3 := (Dr.refl d2.p1).mut (o := SetO w o (fun j => decide (j ∈ ns)) c) ho
    refine ⟨o, _, c, rfl, upd_same, by omega, fun ms l h1 h2 h3 hl => ?_⟩
    have d4 := (Dr.refl d3.p1).mut (o := .lst (ms.map V.int)) hl
    refine ⟨l, vI ms, rfl, .inl ⟨SqL.of upd_same, fun t ht => q _ _ (((d2.trans d3).trans d4).trans ((Dr.refl d4.p1).mut ht)) ⟨ms, ns, ⟨t, rfl, upd_same⟩, hc, h1, fun k => ?_, by omega⟩⟩⟩
    exact (h2 k).trans (by simp)
theorem evd_varL (h : σ[i]? = some (some v)) (hl : LsP p g H v ns) (hc : C ns) : EvD p g s (tVar i) σ H (fun v H1 => ∃ ns, LsP p g H1 v ns ∧ C ns) := fun H1 d Q q => ⟨v, h, q v H1 (.refl d.p1) ⟨ns, hl.mono d, hc⟩⟩
/-- a tuple of draws -/
def EvAI (p g s : Addr) (ta : TA) (σ : L2.St) (H : Hp) (A : Int → Prop) (k : Nat) : Prop := ∀ H1, Dr p g s H H1 → ∀ Q : List V → Hp → Prop, (∀ ns H2, Dr p g s H1 H2 → (∀ x ∈ ns, A x) → ns.length = k → Q (vI ns) H2) → ta σ H1 Q
theorem eai_nil : EvAI p g s tNil σ H A 0 := fun H1 d Q q => q [] H1 (.refl d.p1) (fun x hx => by cases hx) rfl
theorem eai_cons {k : Nat} (h : EvI p g s te σ H A) (hr : EvAI p g s ta σ H A k) : EvAI p g s (tCons te ta) σ H A (k + 1) := fun H1 d Q q =>
  h H1 d _ fun v H2 d2 ⟨n, e, hn⟩ => by
    subst e
    exact hr H2 (d.trans d2) _ fun ns H3 d3 h1 h2 => q (n :: ns) H3 (d2.trans d3) (fun x hx => by
      rcases List.mem_cons.mp hx with rfl | hx
      · exact hn
      · exact h1 x hx) (by rw [List.length_cons, h2])
/-- any(pot, (.., ..)) -/
theorem evi_anyT {k : Nat} {E : XK} (hp : σ[i]? = some (some (.ref p))) (h : EvAI p g s ta σ H A k) (k0 : 0 < k) (k1 : k < 1000) : EvI p g s (tCall spAny [] E (tCons (tVar i) (tCons (tTup ta) tNil))) σ H A := fun H1 d Q q =>
  ⟨_, hp, h H1 d _ fun ns H2 d2 h1 h2 => ⟨by rw [vI_len, sizeLine_eq]; omega, fun a ha => by
    have d3 := (Dr.refl d2.p1).mut (o := .tup (vI ns)) ha
    exact ⟨p, g, s, _, ns, rfl, d3.p1, ⟨a, rfl, upd_same⟩, by omega, by omega, fun n H3 d4 hn => q _ H3 ((d2.trans d3).trans d4) ⟨n, rfl, h1 n hn⟩⟩⟩⟩
theorem evd_rests {st : Int} {E : XK} (hp : σ[i]? = some (some (.ref p))) (hs : σ[j]? = some (some (.int st))) (s0 : 0 < st) (s1 : st ≤ 4000) : EvD p g s (tCall spRests [] E (tCons (tVar i) (tCons (tVar j) tNil))) σ H (fun v H2 => ∃ rs, Tp H2 v rs ∧ Rests st rs ∧ rs.length ≤ 12) := fun H1 d Q q =>
  ⟨_, hp, _, hs, p, g, s, st, rfl, d.p1, s0, s1, fun v rs H2 d2 h1 h2 h3 => q v H2 d2 ⟨rs, h1, h2, h3⟩⟩
end
/-- x % short + short * turn: below short * part, each once -/
theorem turns_asc {a short : Int} (s0 : 0 < short) : ∀ n : Nat, ((zR 0 1 n).map fun z => a + short * z).Nodup := fun n => by
  unfold zR List.Nodup
  rw [List.map_map, List.pairwise_map]
  refine List.Pairwise.imp ?_ List.pairwise_lt_range
  intro x y hxy e
  have e' : short * (x : Int) = short * (y : Int) := by
    have e2 : a + short * (0 + (x : Int) * 1) = a + short * (0 + (y : Int) * 1) := e
    rw [Int.mul_one, Int.mul_one, Int.zero_add, Int.zero_add] at e2
    omega
  have := Int.eq_of_mul_eq_mul_left (by omega) e'
  omega
section
variable {P : Program} {w : World} {K : PySem.W.Frag} {mg : Str → Option Value} {base : Heap}
theorem sc_law_rests : FnScope ["_law_pot_here", "_law_step", "_law_rests_here", "_law_part", "_law_short", "_law_turn"] ["_law_pot_here", "_law_step"] (defScope sLRests) := ⟨rfl, rfl, rfl, by decide +kernel, rfl, by decide +kernel, by decide +kernel⟩
theorem ok_law_rests (T : Txt K mg) : Gd P w K mg base CX0 2 (He.ga K "_law_rests") ["_law_pot_here", "_law_step"] spRests := by
  have G__law_draw : Gd P w K mg base CX0 1 (He.ga K "_law_draw") ["_law_pot_here", "_law_many"] spDraw := ok_law_draw T
  refine Fn.good T.f__law_rests sc_law_rests (fun _ _ _ _ _ _ us hl => match us, hl with | [_, _], _ => rfl) (fun vs H Q E h => ?_) (fun cdv A outer s H vs Q E hr h => ?_)
  · obtain ⟨p, g, s, st, rfl, _⟩ := h
    rfl
  · obtain ⟨p, g, s, st, rfl, pt, s0, s1, k⟩ := h
    refine ⟨_, (pss_cons (ps_set (i := 2) sc_law_rests.nd rfl (Or.inr rfl) (pe_lc (own := [("_law_turn", 5)]) (g := gName 5) rfl sc_law_rests.nd (pi_range1 (by rfl) T.n_range (pa_cons (pcl G__law_draw (hr.mono (by decide)) T.g__law_draw (pa_cons (pv 0) (pa_cons pe_int pa_nil))) pa_nil)) (blkOk_by (N := ["_law_pot_here", "_law_step", "_law_rests_here", "_law_part", "_law_short", "_law_turn"]) (sc := defScope sLRests) (by decide +kernel)) (fun _ _ _ _ _ => pg_name (i := 5) sc_law_rests.nd rfl (Or.inl rfl)) (fun _ _ _ _ _ => pts_nil) (fun _ _ _ _ _ => (pcl G__law_draw (hr.mono (by decide)) T.g__law_draw (pa_cons (pv 0) (pa_cons (pv 1) pa_nil))))))
      (pss_cons (ps_for PassesOwn.never rfl (pi_tup (pe_tup (pa_cons pe_int (pa_cons pe_int (pa_cons pe_int (pa_cons pe_int (pa_cons pe_int pa_nil))))))) (pg_name (i := 3) sc_law_rests.nd rfl (Or.inl rfl)) (pss_one (ps_if (PW.pt (pw_and (pt_cmpR op_eq (pe_op op_mod (pe_callTy call_int1 (by rfl) T.n_int (by decide +kernel) (pa_cons (pv 1) pa_nil)) (pv 3)) pe_int (nomark _)) (pw_and (pt_cmpR op_gt (pe_callB (kLen (K := K) rfl) (by rfl) T.n_len (by decide +kernel) (pa_cons (pv 2) pa_nil)) pe_int (nomark _)) (pw_and1 (pt_cmpR op_eq (pcl G__law_draw (hr.mono (by decide)) T.g__law_draw (pa_cons (pv 0) (pa_cons pe_int pa_nil))) pe_int (nomark _)))))) (pss_cons (ps_set (i := 4) sc_law_rests.nd rfl (Or.inr rfl) (pe_op op_fdiv (pv 1) (pv 3)))
      (pss_one (ps_ret (pe_callTy call_tuple_of (by rfl) T.n_tuple (by decide +kernel) (pa_cons (pe_callB cr_sorted (by rfl) T.n_sorted (by decide +kernel) (pa_cons (pe_lc (own := [("_law_turn", 5)]) (g := gName 5) rfl sc_law_rests.nd (pi_range1 (by rfl) T.n_range (pa_cons (pv 3) pa_nil)) (blkOk_by (N := ["_law_pot_here", "_law_step", "_law_rests_here", "_law_part", "_law_short", "_law_turn"]) (sc := defScope sLRests) (by decide +kernel)) (fun _ _ _ _ _ => pg_name (i := 5) sc_law_rests.nd rfl (Or.inl rfl)) (fun _ _ _ _ _ => pts_nil) (fun _ _ _ _ _ => (pe_op op_add (pe_op op_mod (pe_callTy call_int1 (by rfl) T.n_int (by decide +kernel) (pa_cons (pe_ix (kIxL (K := K) rfl) (pv 2) pe_int (fun _ _ => rfl)) pa_nil)) (pv 4)) (pe_op op_mul (pv 4) (pv 5))))) pa_nil)) pa_nil))))) pss_nil)))
      (pss_one (ps_ret (pe_callTy call_tuple_of (by rfl) T.n_tuple (by decide +kernel) (pa_cons (pe_callB (cr_sortedSet rfl) (by rfl) T.n_sorted (by decide +kernel) (pa_cons (pe_callTy (cr_setI rfl) (by rfl) T.n_set (by decide +kernel) (pa_cons (pv 2) pa_nil)) pa_nil)) pa_nil)))))), ?_⟩
    refine q_asgD (evd_comp (A := fun x => 0 ≤ x ∧ x < st) (N := fun n => n ≤ 4) (evi_draw1 rfl ⟨by decide, by decide⟩ fun v h0 h1 => ⟨⟨h0, by omega⟩, by omega⟩) (fun x => rfl) (fun n hn i hi => evi_draw (N := fun m => m = st) rfl (evi_var rfl rfl) (fun m e => by rw [e]; omega) (fun m v e h0 h1 => ⟨h0, by rw [← e]; exact h1⟩))) pt fun v H1 d1 pv => ?_
    obtain ⟨ns, n, hl, hA, hn4, hlen, _⟩ := pv
    refine q_forTN (ns := [12, 7, 5, 3, 2]) (Evl.eu_tup (Evl.ea_cons Evl.ev_c (Evl.ea_cons Evl.ev_c (Evl.ea_cons Evl.ev_c (Evl.ea_cons Evl.ev_c (Evl.ea_cons Evl.ev_c Evl.ea_nil))))) (by decide)) fun a H2 e2 ha => ⟨fun i σ' H' => ∃ x y, σ' = [some (.ref p), some (.int st), some v, x, y, none] ∧ Dr p g s H2 H', ⟨none, none, rfl, .refl (d1.p1.ex' e2)⟩, ?_, ?_, ?_⟩
    · rintro i σ' H' ⟨x, y, rfl, d⟩
      exact d.tup ha
    · rintro i z σ' H' hz ⟨x, y, rfl, d⟩
      have zm := List.mem_of_getElem? hz
      have z2 : 2 ≤ z ∧ z ≤ 12 := by
        simp only [List.mem_cons, List.not_mem_nil, or_false] at zm
        omega
      have dd := (d1.trans (.of d1.p1 e2)).trans d
      have hl' : LsP p g H' v ns := hl.mono ((Dr.of d1.p1 e2).trans d)
      refine s_whenD (edt_and (edt_of (b := decide (st % z = 0)) (Bb := fun b => b = decide (st % z = 0)) (fun H3 d3 => et_eqI (ev_mod (ev_int1 (Evl.ev_var rfl)) (Evl.ev_var rfl) (by omega)) Evl.ev_c) rfl) fun _ => edt_and (edt_of (b := decide ((0 : Int) < ((vI ns).length : Int))) (Bb := fun b => b = decide ((0 : Int) < ((vI ns).length : Int))) (fun H3 d3 => ?_) rfl) fun _ => edt_eq (A := fun _ => True) (B := fun _ => True) (Bb := fun _ => True) (evi_draw1 rfl ⟨by decide, by decide⟩ fun _ _ _ => trivial) (evi_c trivial) fun _ _ _ _ => trivial) dd.p1 (fun hb H3 d3 => ?_) (fun _ H3 d3 => ⟨_, _, rfl, d.trans d3⟩)
      · obtain ⟨D, e, _, _, hD⟩ := hl'.mono d3
        subst e
        exact et_gt (ev_lenL (Evl.ev_var rfl) hD) Evl.ev_c
      · obtain ⟨b1, b2⟩ := hb rfl
        obtain ⟨b2, _⟩ := b2 rfl
        have m0 : st % z = 0 := of_decide_eq_true b1.symm
        have l0 : (0 : Int) < ((vI ns).length : Int) := of_decide_eq_true b2.symm
        rw [vI_len] at l0
        obtain ⟨D, e, _, _, hD⟩ := hl'.mono d3
        subst e
        have ee := Int.emod_add_mul_ediv st z
        have sh : st = z * (st / z) := by omega
        have sp : 0 < st / z := by
          rcases Int.lt_or_le 0 (st / z) with c | c
          · exact c
          · have : z * (st / z) ≤ 0 := Int.mul_nonpos_of_nonneg_of_nonpos (by omega) c
            omega
        refine Evl.q_asg (ev_fdiv (Evl.ev_var rfl) (Evl.ev_var rfl) ⟨by omega, by omega⟩) fun H4 e4 => ?_
        obtain ⟨x, hx, hxa⟩ := atI_in (ns := ns) (i := 0) (by decide) l0
        refine s_retP (evp_tuple (evp_sorted (ns := (zR 0 1 z.toNat).map fun t => x % (st / z) + st / z * t) (EvL.is (el_R1 (hi := z) (fun _ => true) (fun t => .int (x % (st / z) + st / z * t)) (Evl.ea_cons (Evl.ev_var rfl) Evl.ea_nil) ⟨by omega, by omega⟩ (by rw [sizeLine_eq]; omega) (fun x => rfl) (fun t Ht _ et => et_yes) (fun t Ht _ et _ => ev_add (ev_mod (ev_int1 (ev_ixL (v := .int x) (Evl.ev_var rfl) Evl.ev_c (et _ _ (e4 _ _ hD)) hxa)) (Evl.ev_var rfl) sp) (ev_mul (Evl.ev_var rfl) (Evl.ev_var rfl) (.inl ⟨by omega, ?_⟩)))) ?_) ?_)) fun w H5 e5 pw => ?_
        · have : z * (st / z) ≥ 2 * (st / z) := Int.mul_le_mul_of_nonneg_right z2.1 (by omega)
          omega
        · rw [filter_yes]
          unfold vI
          rw [List.map_map]
          rfl
        · rw [List.length_map, zR_len]
          omega
        · obtain ⟨ms, tp, pm, pl⟩ := pw
          have mm : ∀ r ∈ ms, ∃ t, (0 ≤ t ∧ t < z) ∧ r = x % (st / z) + st / z * t := fun r hr => by
            obtain ⟨t, ht, e⟩ := List.mem_map.mp (pm.mem_iff.mp hr)
            have := (mem_zR1 (lo := 0) (hi := z)).mp (by rw [Int.sub_zero]; exact ht)
            exact ⟨t, this, e.symm⟩
          refine k w ms _ (dd.trans (d3.trans (.of d3.p1 (e4.trans e5)))) tp ⟨lt_of_le_nodup pl (pm.nodup_iff.mpr (turns_asc sp _)), fun r hr => ?_⟩ ?_
          · obtain ⟨t, ⟨t0, t1⟩, rfl⟩ := mm r hr
            have a0 := Int.emod_nonneg x (show st / z ≠ 0 by omega)
            have a1 := Int.emod_lt_of_pos x sp
            have a2 : 0 ≤ st / z * t := Int.mul_nonneg (by omega) t0
            have a3 : st / z * t ≤ st / z * (z - 1) := Int.mul_le_mul_of_nonneg_left (by omega) (by omega)
            have a4 : st / z * (z - 1) = z * (st / z) - st / z := by rw [Int.mul_sub, Int.mul_one, Int.mul_comm]
            omega
          · rw [pm.length_eq, List.length_map, zR_len]
            omega
    · rintro σ' H' ⟨x, y, rfl, d⟩
      have dd := (d1.trans (.of d1.p1 e2)).trans d
      have hl' : LsP p g H' v ns := hl.mono ((Dr.of d1.p1 e2).trans d)
      refine s_retD (evd_tss (C := fun l => l = ns) (evd_varL rfl hl' rfl) (fun l e => by rw [e]; omega)) dd.p1 fun w H3 d3 pw => ?_
      obtain ⟨ms, l, tp, rfl, h1, h2, h3⟩ := pw
      exact k w ms _ (dd.trans d3) tp ⟨h1, fun r hr => hA r ((h2 r).mp hr)⟩ (by omega)
theorem sc_law_great : FnScope ["_law_pot_here", "_law_step", "_law_low", "_law_span", "_law_members", "_law_turn"] ["_law_pot_here"] (defScope sLGreat) := ⟨rfl, rfl, rfl, by decide +kernel, rfl, by decide +kernel, by decide +kernel⟩
theorem ok_law_great (T : Txt K mg) : Gd P w K mg base CX0 3 (He.ga K "_law_great") ["_law_pot_here"] spGreat := by
  have G__law_draw : Gd P w K mg base CX0 1 (He.ga K "_law_draw") ["_law_pot_here", "_law_many"] spDraw := ok_law_draw T
  have G__law_any : Gd P w K mg base CX0 2 (He.ga K "_law_any") ["_law_pot_here", "_law_items"] spAny := ok_law_any T
  have G__law_rests : Gd P w K mg base CX0 2 (He.ga K "_law_rests") ["_law_pot_here", "_law_step"] spRests := ok_law_rests T
  refine Fn.good T.f__law_great sc_law_great (fun _ _ _ _ _ _ us hl => match us, hl with | [_], _ => rfl) (fun vs H Q E h => ?_) (fun cdv A outer s H vs Q E hr h => ?_)
  · obtain ⟨p, g, s, rfl, _⟩ := h
    rfl
  · obtain ⟨p, g, s, rfl, pt, k⟩ := h
    refine ⟨_, (pss_cons (ps_set (i := 1) sc_law_great.nd rfl (Or.inl rfl) (pcl G__law_any (hr.mono (by decide)) T.g__law_any (pa_cons (pv 0) (pa_cons (pe_tup (pa_cons (pe_op op_add pe_int (pcl G__law_draw (hr.mono (by decide)) T.g__law_draw (pa_cons (pv 0) (pa_cons pe_int pa_nil)))) (pa_cons (pe_op op_mul pe_int (pe_op op_add pe_int (pcl G__law_draw (hr.mono (by decide)) T.g__law_draw (pa_cons (pv 0) (pa_cons pe_int pa_nil))))) (pa_cons pe_int (pa_cons (pe_op op_add pe_int (pcl G__law_draw (hr.mono (by decide)) T.g__law_draw (pa_cons (pv 0) (pa_cons pe_int pa_nil)))) pa_nil))))) pa_nil))))
      (pss_cons (ps_set (i := 2) sc_law_great.nd rfl (Or.inr rfl) (pe_op op_sub (pcl G__law_draw (hr.mono (by decide)) T.g__law_draw (pa_cons (pv 0) (pa_cons pe_int pa_nil))) pe_int))
      (pss_cons (ps_set (i := 3) sc_law_great.nd rfl (Or.inr rfl) (pe_ifExp (pt_cmpR op_gt (pcl G__law_draw (hr.mono (by decide)) T.g__law_draw (pa_cons (pv 0) (pa_cons pe_int pa_nil))) pe_int (nomark _)) (pcl G__law_draw (hr.mono (by decide)) T.g__law_draw (pa_cons (pv 0) (pa_cons pe_int pa_nil))) (pe_op op_sub pe_int (pcl G__law_draw (hr.mono (by decide)) T.g__law_draw (pa_cons (pv 0) (pa_cons pe_int pa_nil))))))
      (pss_cons (ps_set (i := 4) sc_law_great.nd rfl (Or.inl rfl) (pe_callTy call_tuple_of (by rfl) T.n_tuple (by decide +kernel) (pa_cons (pe_callB (cr_sortedSet rfl) (by rfl) T.n_sorted (by decide +kernel) (pa_cons (pe_callTy (cr_setI rfl) (by rfl) T.n_set (by decide +kernel) (pa_cons (pe_lc (own := [("_law_turn", 5)]) (g := gName 5) rfl sc_law_great.nd (pi_range1 (by rfl) T.n_range (pa_cons (pe_callB (call_min2 rfl) (by rfl) T.n_min (by decide +kernel) (pa_cons (pv 3) (pa_cons (pcl G__law_draw (hr.mono (by decide)) T.g__law_draw (pa_cons (pv 0) (pa_cons pe_int pa_nil))) pa_nil))) pa_nil)) (blkOk_by (N := ["_law_pot_here", "_law_step", "_law_low", "_law_span", "_law_members", "_law_turn"]) (sc := defScope sLGreat) (by decide +kernel)) (fun _ _ _ _ _ => pg_name (i := 5) sc_law_great.nd rfl (Or.inl rfl)) (fun _ _ _ _ _ => pts_nil) (fun _ _ _ _ _ => (pe_op op_add (pv 2) (pcl G__law_draw (hr.mono (by decide)) T.g__law_draw (pa_cons (pv 0) (pa_cons (pv 3) pa_nil)))))) pa_nil)) pa_nil)) pa_nil)))
      (pss_one (ps_ret (pe_tup (pa_cons (pv 2) (pa_cons (pe_op op_add (pv 2) (pv 3)) (pa_cons (pv 4) (pa_cons (pv 1) (pa_cons (pcl G__law_rests (hr.mono (by decide)) T.g__law_rests (pa_cons (pv 0) (pa_cons (pv 1) pa_nil))) (pa_cons (pcl G__law_rests (hr.mono (by decide)) T.g__law_rests (pa_cons (pv 0) (pa_cons (pv 1) pa_nil))) pa_nil))))))))))))), ?_⟩
    refine q_asgI (p := p) (g := g) (s := s) (evi_anyT (A := fun x => 1 ≤ x ∧ x ≤ 4000) (k := 4) rfl
      (eai_cons (evi_add (A := fun x => x = 1) (B := fun x => 0 ≤ x ∧ x < 4000) (evi_c rfl) (evi_draw1 rfl ⟨by decide, by decide⟩ fun v h0 h1 => ⟨h0, h1⟩) fun x y hx hy => by subst hx; omega)
      (eai_cons (evi_mul (A := fun x => x = 60) (B := fun x => 1 ≤ x ∧ x ≤ 66) (evi_c rfl) (evi_add (A := fun x => x = 1) (B := fun x => 0 ≤ x ∧ x < 66) (evi_c rfl) (evi_draw1 rfl ⟨by decide, by decide⟩ fun v h0 h1 => ⟨h0, h1⟩) fun x y hx hy => by subst hx; omega) fun x y hx hy => by subst hx; exact ⟨.inl ⟨by decide, by decide⟩, by omega⟩)
      (eai_cons (evi_c ⟨by decide, by decide⟩)
      (eai_cons (evi_add (A := fun x => x = 1) (B := fun x => 0 ≤ x ∧ x < 70) (evi_c rfl) (evi_draw1 rfl ⟨by decide, by decide⟩ fun v h0 h1 => ⟨h0, h1⟩) fun x y hx hy => by subst hx; omega) eai_nil)))) (by decide) (by decide)) pt fun st H1 d1 hst => ?_
    refine q_asgI (p := p) (g := g) (s := s) (A := fun _ => True) (evi_sub (A := fun _ => True) (B := fun _ => True) (evi_draw1 rfl ⟨by decide, by decide⟩ fun _ _ _ => trivial) (evi_c trivial) fun _ _ _ _ => trivial) d1.p1 fun low H2 d2 _ => ?_
    refine q_asgI (p := p) (g := g) (s := s) (A := fun x => 0 ≤ x ∧ x ≤ 100000) (evd_if (Bb := fun _ => True) (edt_gt (A := fun _ => True) (B := fun _ => True) (evi_draw1 rfl ⟨by decide, by decide⟩ fun _ _ _ => trivial) (evi_c trivial) fun _ _ _ _ => trivial) (fun _ => evi_draw1 (A := fun x => 0 ≤ x ∧ x ≤ 100000) rfl ⟨by decide, by decide⟩ fun v h0 h1 => ⟨h0, by omega⟩) (fun _ => evi_sub (A := fun x => x = 100000) (B := fun x => 0 ≤ x ∧ x < 11) (C := fun x => 0 ≤ x ∧ x ≤ 100000) (evi_c rfl) (evi_draw1 rfl ⟨by decide, by decide⟩ fun v h0 h1 => ⟨h0, h1⟩) fun x y hx hy => by subst hx; omega)) d2.p1 fun span H3 d3 hsp => ?_
    refine q_asgD (p := p) (g := g) (s := s) (evd_tss (C := fun l => (∀ x ∈ l, low ≤ x ∧ x < low + span) ∧ l.length ≤ 6) ?_ (fun l e => by omega)) d3.p1 fun v H4 d4 pv => ?_
    · refine fun H0 d Q q => evd_comp (A := fun x => low ≤ x ∧ x < low + span) (N := fun n => n ≤ span ∧ n ≤ 6) (evi_min2 (A := fun x => x = span) (B := fun x => 0 ≤ x ∧ x < 7) (evi_var rfl rfl) (evi_draw1 rfl ⟨by decide, by decide⟩ fun v h0 h1 => ⟨h0, h1⟩) fun x y hx hy => by subst hx; omega) (fun x => rfl) (fun n hn i hi => evi_add (A := fun x => x = low) (B := fun x => 0 ≤ x ∧ x < span) (evi_var rfl rfl) (evi_draw (N := fun m => m = span) rfl (evi_var rfl rfl) (fun m e => by subst e; omega) (fun m v e h0 h1 => by subst e; exact ⟨h0, h1⟩)) fun x y hx hy => by subst hx; omega) H0 d Q fun v H1 d1 ⟨ns, n, h1, h2, h3, h4, _⟩ => q v H1 d1 ⟨ns, h1, h2, by omega⟩
    obtain ⟨ms, ns, ⟨pm, rfl, hm⟩, ⟨hA, hl⟩, h1, h2, h3⟩ := pv
    refine u_ret ⟨_, rfl, _, rfl, _, rfl, _, _, rfl, rfl, _, rfl, _, rfl, ?_⟩
    refine evd_rests (p := p) (g := g) (s := s) (i := 0) (j := 1) rfl rfl (by omega) hst.2 H4 (.refl d4.p1) _ fun v5 H5 d5 ⟨bl, ⟨pb, e, hb⟩, rb, lb⟩ => ?_
    subst e
    refine evd_rests (p := p) (g := g) (s := s) (i := 0) (j := 1) rfl rfl (by omega) hst.2 H5 (.refl d5.p1) _ fun v6 H6 d6 ⟨ab, ⟨pa, e, ha⟩, ra, la⟩ => ?_
    subst e
    refine ⟨by show 6 ≤ sizeLine; decide, fun q hq => ?_⟩
    have d7 := (Dr.refl d6.p1).mut (o := .tup [.int low, .int (low + span), .ref pm, .int st, .ref pb, .ref pa]) hq
    refine k _ ⟨low, low + span, ms, st, bl, ab⟩ _ ((((((d1.trans d2).trans d3).trans d4).trans d5).trans d6).trans d7) ⟨q, pm, pb, pa, rfl, upd_same, d7.tup (d6.tup (d5.tup hm)), d7.tup (d6.tup hb), d7.tup ha⟩ ⟨⟨?_, h1, fun n hn => hA n ((h2 n).mp hn), by show 0 < st; omega, rb, ra⟩, hst.2, ?_, by show ms.length ≤ 6; omega, lb, la⟩
    · show low ≤ low + span
      omega
    · show low + span - low ≤ 100000
      omega
end
end Nv
set_option Elab.async false
set_option linter.all false
set_option maxRecDepth 100000
set_option maxHeartbeats 4000000
/-! NvR: _law_moved, _law_is_flag, _law_lot, _law_six, _law_has, _law_gcd, _law_round. -/
namespace Nv
open PySem PySem.Spec PyProof.Rows L2
open Evl (Ev EvT EvL EvU EvA)
def spMoved : Sp := fun vs H Q _ => ∃ (v : V) (p : P6) (b : Int), vs = [v, .int b] ∧ PartsV H v p ∧ Sm p ∧ ∀ u q H2, Ex H H2 → PartsV H2 u q → Sm q → Q u H2
def spFlag : Sp := fun vs H Q _ => ∃ a b : Bool, vs = [.bl a, .bl b] ∧ ∀ H2, Ex H H2 → Q (.bl (decide (a = b))) H2
def spLawLot (K : PySem.W.Frag) : Sp := fun vs H Q _ => ∃ (v : V) (p : P6), vs = [v] ∧ PartsV H v p ∧ Sm p ∧ ∀ x l H2, Ex H H2 → LotA H2 x (aLot K) l → IsLeast p l → Q (.ref x) H2
def spSix (K : PySem.W.Frag) : Sp := fun vs H Q _ => ∃ (v : V) (l : P6), vs = [v] ∧ LotV K H v l ∧ ∀ u H2, Ex H H2 → PartsV H2 u l → Q u H2
def spLawHas : Sp := fun vs H Q _ => ∃ (v : V) (p : P6) (n : Int), vs = [v, .int n] ∧ PartsV H v p ∧ p.Wf ∧ ∀ H2, Ex H H2 → Q (.bl (p.has n)) H2
def spLawGcd : Sp := fun vs H Q _ => ∃ a b : Int, vs = [.int a, .int b] ∧ 0 < a ∧ a ≤ 4000 ∧ 0 < b ∧ b ≤ 4000 ∧ ∀ H2, Ex H H2 → Q (.int (Nat.gcd a.natAbs b.natAbs : Nat)) H2
def spLawRound : Sp := fun vs H Q _ => ∃ (p : Addr) (rs : List Int) (st k : Int), vs = [.ref p, .int st, .int k] ∧ H p = some (.tup (vI rs)) ∧ rs.length ≤ 12 ∧ 0 < st ∧ ∀ H2, Ex H H2 → Q (.bl (rndB rs st k)) H2
theorem sp_law_has {H : Hp} {v : V} {p : P6} {n : Int} (L : PartsV H v p) (wf : p.Wf) : SpP spLawHas [v, .int n] H (fun u _ => u = .bl (p.has n)) := fun H1 e Q q E => ⟨v, p, n, rfl, L.mono e, wf, fun H2 e2 => q _ H2 e2 rfl⟩
theorem sp_flag {H : Hp} {a b : Bool} : SpP spFlag [.bl a, .bl b] H (fun u _ => u = .bl (decide (a = b))) := fun H1 e Q q E => ⟨a, b, rfl, fun H2 e2 => q _ H2 e2 rfl⟩
theorem sp_law_gcd {H : Hp} {a b : Int} (a0 : 0 < a) (a1 : a ≤ 4000) (b0 : 0 < b) (b1 : b ≤ 4000) : SpP spLawGcd [.int a, .int b] H (fun u _ => u = .int (Nat.gcd a.natAbs b.natAbs : Nat)) := fun H1 e Q q E => ⟨a, b, rfl, a0, a1, b0, b1, fun H2 e2 => q _ H2 e2 rfl⟩
theorem sp_law_round {H : Hp} {p : Addr} {rs : List Int} {st k : Int} (hp : H p = some (.tup (vI rs))) (hz : rs.length ≤ 12) (s0 : 0 < st) : SpP spLawRound [.ref p, .int st, .int k] H (fun u _ => u = .bl (rndB rs st k)) := fun H1 e Q q E => ⟨p, rs, st, k, rfl, e _ _ hp, hz, s0, fun H2 e2 => q _ H2 e2 rfl⟩
/-- rests moved: each once -/
theorem move_nodup {st b : Int} : ∀ {rs : List Int}, 0 < st → rs.Nodup → (∀ r ∈ rs, 0 ≤ r ∧ r < st) → (rs.map fun r => (r + b) % st).Nodup := fun {rs} s0 nd bd => by
  unfold List.Nodup
  rw [List.pairwise_map]
  refine List.Pairwise.imp_of_mem ?_ nd
  intro x y hx hy ne e
  obtain ⟨j, hj⟩ := (mod_eq_iff s0).mp e
  obtain ⟨x0, x1⟩ := bd x hx
  obtain ⟨y0, y1⟩ := bd y hy
  have : j = 0 := by
    rcases Int.lt_trichotomy j 0 with c | c | c
    · have : st * j ≤ st * (-1) := Int.mul_le_mul_of_nonneg_left (by omega) (by omega)
      omega
    · exact c
    · have : st * 1 ≤ st * j := Int.mul_le_mul_of_nonneg_left (by omega) (by omega)
      omega
  subst this
  rw [Int.mul_zero] at hj
  omega
theorem move_rests {st b : Int} {rs ms : List Int} (s0 : 0 < st) (h : Rests st rs) (pm : ms.Perm (rs.map fun r => (r + b) % st)) (pl : ms.Pairwise (· ≤ ·)) : Rests st ms :=
  ⟨lt_of_le_nodup pl (pm.nodup_iff.mpr (move_nodup s0 h.nodup h.bnd)), fun r hr => by
    obtain ⟨x, _, e⟩ := List.mem_map.mp (pm.mem_iff.mp hr)
    rw [← e]
    exact ⟨Int.emod_nonneg _ (by omega), Int.emod_lt_of_pos _ s0⟩⟩
/-- six names from six parts -/
theorem q_asg6 {K : PySem.W.Frag} {σ : L2.St} {H : Hp} {v : V} {p : P6} {i i1 i2 i3 i4 i5 i6 : Nat} {tz : TS} {D : Ends} (hs : σ[i]? = some (some v)) (h : PartsV H v p)
    (k : ∀ pm pb pa, H pm = some (.tup (vI p.ms)) → H pb = some (.tup (vI p.bl)) → H pa = some (.tup (vI p.ab)) → tz D ((((((σ.set i1 (some (.int p.low))).set i2 (some (.int p.high))).set i3 (some (.ref pm))).set i4 (some (.int p.st))).set i5 (some (.ref pb))).set i6 (some (.ref pa))) H) :
    tSeq (tAsg (tVar i) (gTup K 6 (gCons (gName i1) (gCons (gName i2) (gCons (gName i3) (gCons (gName i4) (gCons (gName i5) (gCons (gName i6) gNil)))))))) tz D σ H := by
  obtain ⟨q, pm, pb, pa, rfl, h1, h2, h3, h4⟩ := h
  exact ⟨_, hs, q, _, rfl, SqT.of h1, rfl, _, _, rfl, _, _, rfl, _, _, rfl, _, _, rfl, _, _, rfl, _, _, rfl, rfl, k pm pb pa h2 h3 h4⟩
theorem ev_at {K : PySem.W.Frag} {σ : L2.St} {H : Hp} {q : Addr} {xs : List V} {u : V} {i : Nat} (n : Nat) (hs : σ[i]? = some (some (.ref q))) (h : H q = some (.tup xs)) (hx : xs[n]? = some u) : Ev (tOp (rIxT K) (tVar i) (tC (.int (n : Int)))) σ H u := ev_ixT (Evl.ev_var hs) Evl.ev_c h (atI_nat hx)
section
variable {P : Program} {w : World} {K : PySem.W.Frag} {mg : Str → Option Value} {base : Heap}
theorem sc_law_moved : FnScope ["_law_parts", "_law_by", "_law_low", "_law_high", "_law_members", "_law_step", "_law_below", "_law_above", "_law_rest", "_law_number"] ["_law_parts", "_law_by"] (defScope sLMoved) := ⟨rfl, rfl, rfl, by decide +kernel, rfl, by decide +kernel, by decide +kernel⟩
theorem ok_law_moved (T : Txt K mg) : Gd P w K mg base CX0 1 (He.ga K "_law_moved") ["_law_parts", "_law_by"] spMoved := by
  refine Fn.good T.f__law_moved sc_law_moved (fun _ _ _ _ _ _ us hl => match us, hl with | [_, _], _ => rfl) (fun vs H Q E h => ?_) (fun cdv A outer s H vs Q E hr h => ?_)
  · obtain ⟨v, p, b, rfl, _⟩ := h
    rfl
  · obtain ⟨v, p, b, rfl, L, sm, k⟩ := h
    refine ⟨_, (pss_cons (ps_asg (pv 0) (pg_tup rfl (pgs_cons (pg_name (i := 2) sc_law_moved.nd rfl (Or.inl rfl)) (pgs_cons (pg_name (i := 3) sc_law_moved.nd rfl (Or.inl rfl)) (pgs_cons (pg_name (i := 4) sc_law_moved.nd rfl (Or.inl rfl)) (pgs_cons (pg_name (i := 5) sc_law_moved.nd rfl (Or.inr rfl)) (pgs_cons (pg_name (i := 6) sc_law_moved.nd rfl (Or.inl rfl)) (pgs_cons (pg_name (i := 7) sc_law_moved.nd rfl (Or.inl rfl)) pgs_nil))))))))
      (pss_cons (ps_set (i := 6) sc_law_moved.nd rfl (Or.inl rfl) (pe_callTy call_tuple_of (by rfl) T.n_tuple (by decide +kernel) (pa_cons (pe_callB cr_sorted (by rfl) T.n_sorted (by decide +kernel) (pa_cons (pe_lc (own := [("_law_rest", 8)]) (g := gName 8) rfl sc_law_moved.nd (pi_tup (pv 6)) (blkOk_by (N := ["_law_parts", "_law_by", "_law_low", "_law_high", "_law_members", "_law_step", "_law_below", "_law_above", "_law_rest", "_law_number"]) (sc := defScope sLMoved) (by decide +kernel)) (fun _ _ _ _ _ => pg_name (i := 8) sc_law_moved.nd rfl (Or.inl rfl)) (fun _ _ _ _ _ => pts_nil) (fun _ _ _ _ _ => (pe_op op_mod (pe_callTy call_int1 (by rfl) T.n_int (by decide +kernel) (pa_cons (pe_op op_add (pv 8) (pv 1)) pa_nil)) (pv 5)))) pa_nil)) pa_nil)))
      (pss_cons (ps_set (i := 7) sc_law_moved.nd rfl (Or.inl rfl) (pe_callTy call_tuple_of (by rfl) T.n_tuple (by decide +kernel) (pa_cons (pe_callB cr_sorted (by rfl) T.n_sorted (by decide +kernel) (pa_cons (pe_lc (own := [("_law_rest", 8)]) (g := gName 8) rfl sc_law_moved.nd (pi_tup (pv 7)) (blkOk_by (N := ["_law_parts", "_law_by", "_law_low", "_law_high", "_law_members", "_law_step", "_law_below", "_law_above", "_law_rest", "_law_number"]) (sc := defScope sLMoved) (by decide +kernel)) (fun _ _ _ _ _ => pg_name (i := 8) sc_law_moved.nd rfl (Or.inl rfl)) (fun _ _ _ _ _ => pts_nil) (fun _ _ _ _ _ => (pe_op op_mod (pe_callTy call_int1 (by rfl) T.n_int (by decide +kernel) (pa_cons (pe_op op_add (pv 8) (pv 1)) pa_nil)) (pv 5)))) pa_nil)) pa_nil)))
      (pss_one (ps_ret (pe_tup (pa_cons (pe_op op_add (pv 2) (pv 1)) (pa_cons (pe_op op_add (pv 3) (pv 1)) (pa_cons (pe_callTy call_tuple_of (by rfl) T.n_tuple (by decide +kernel) (pa_cons (pe_lc (own := [("_law_number", 9)]) (g := gName 9) rfl sc_law_moved.nd (pi_tup (pv 4)) (blkOk_by (N := ["_law_parts", "_law_by", "_law_low", "_law_high", "_law_members", "_law_step", "_law_below", "_law_above", "_law_rest", "_law_number"]) (sc := defScope sLMoved) (by decide +kernel)) (fun _ _ _ _ _ => pg_name (i := 9) sc_law_moved.nd rfl (Or.inl rfl)) (fun _ _ _ _ _ => pts_nil) (fun _ _ _ _ _ => (pe_op op_add (pv 9) (pv 1)))) pa_nil)) (pa_cons (pv 5) (pa_cons (pv 6) (pa_cons (pv 7) pa_nil)))))))))))), ?_⟩
    have wf := sm.wf
    have s0 := wf.pos
    have z12 : ∀ {l : List Int}, l.length ≤ 12 → l.length < sizeLine := fun h => by rw [sizeLine_eq]; omega
    refine q_asg6 rfl L fun pm pb pa hm hb ha => ?_
    refine q_asgP (evp_tuple (evp_sorted (ns := p.bl.map fun r => (r + b) % p.st) (EvL.is (el_T (ns := p.bl) (fun _ => true) (fun r => .int ((r + b) % p.st)) (Evl.ev_var rfl) hb (z12 sm.bl) (fun x => rfl) (fun z Hz _ ez => et_yes) (fun z Hz _ ez _ => ev_mod (ev_int1 (ev_add (Evl.ev_var rfl) (Evl.ev_var rfl))) (Evl.ev_var rfl) s0)) (by rw [filter_yes]; unfold vI; rw [List.map_map]; rfl)) (by rw [List.length_map]; have := sm.bl; omega))) fun v1 H1 e1 pv => ?_
    obtain ⟨bl, ⟨pb', rfl, hb'⟩, bp, bs⟩ := pv
    refine q_asgP (evp_tuple (evp_sorted (ns := p.ab.map fun r => (r + b) % p.st) (EvL.is (el_T (ns := p.ab) (fun _ => true) (fun r => .int ((r + b) % p.st)) (Evl.ev_var rfl) (e1 _ _ ha) (z12 sm.ab) (fun x => rfl) (fun z Hz _ ez => et_yes) (fun z Hz _ ez _ => ev_mod (ev_int1 (ev_add (Evl.ev_var rfl) (Evl.ev_var rfl))) (Evl.ev_var rfl) s0)) (by rw [filter_yes]; unfold vI; rw [List.map_map]; rfl)) (by rw [List.length_map]; have := sm.ab; omega))) fun v2 H2 e2 pv => ?_
    obtain ⟨ab, ⟨pa', rfl, ha'⟩, ap, as⟩ := pv
    refine u_ret ⟨_, rfl, _, rfl, _, _, rfl, rfl, _, rfl, _, rfl, _, _, rfl, rfl, ?_⟩
    refine eu_tuple (xs := vI (p.ms.map fun n => n + b)) (EvL.is (el_T (ns := p.ms) (fun _ => true) (fun n => .int (n + b)) (Evl.ev_var rfl) (e2 _ _ (e1 _ _ hm)) (z12 (by have := sm.ms; omega)) (fun x => rfl) (fun z Hz _ ez => et_yes) (fun z Hz _ ez _ => ev_add (Evl.ev_var rfl) (Evl.ev_var rfl))) (by rw [filter_yes]; unfold vI; rw [List.map_map]; rfl)) _ (Evl.Ex.refl _) _ fun pm' H3 _ e3 hm' => ?_
    refine ⟨_, rfl, _, rfl, _, rfl, by show 6 ≤ sizeLine; decide, fun q hq => ?_⟩
    have e4 : Ex H3 (upd H3 q (.tup [.int (p.low + b), .int (p.high + b), .ref pm', .int p.st, .ref pb', .ref pa'])) := Evl.Ex.new hq
    refine k _ ⟨p.low + b, p.high + b, p.ms.map fun n => n + b, p.st, bl, ab⟩ _ (((e1.trans e2).trans e3).trans e4) ⟨q, pm', pb', pa', rfl, upd_same, e4 _ _ hm', e4 _ _ (e3 _ _ (e2 _ _ hb')), e4 _ _ (e3 _ _ ha')⟩ ⟨⟨?_, ?_, ?_, s0, move_rests s0 wf.bl bp bs, move_rests s0 wf.ab ap as⟩, sm.st, ?_, ?_, ?_, ?_⟩
    · show p.low + b ≤ p.high + b
      have := wf.le
      omega
    · show (p.ms.map fun n => n + b).Pairwise (· < ·)
      rw [List.pairwise_map]
      exact wf.asc.imp fun h => by omega
    · intro n hn
      obtain ⟨m, hm, rfl⟩ := List.mem_map.mp hn
      have := wf.bnd m hm
      show p.low + b ≤ m + b ∧ m + b < p.high + b
      omega
    · show p.high + b - (p.low + b) ≤ 100000
      have := sm.span
      omega
    · show (p.ms.map fun n => n + b).length ≤ 6
      rw [List.length_map]
      exact sm.ms
    · show bl.length ≤ 12
      rw [bp.length_eq, List.length_map]
      exact sm.bl
    · show ab.length ≤ 12
      rw [ap.length_eq, List.length_map]
      exact sm.ab
theorem sc_law_is_flag : FnScope ["_law_told", "_law_due"] ["_law_told", "_law_due"] (defScope sLIsFlag) := ⟨rfl, rfl, rfl, by decide +kernel, rfl, by decide +kernel, by decide +kernel⟩
theorem ok_law_is_flag (T : Txt K mg) : Gd P w K mg base CX0 1 (He.ga K "_law_is_flag") ["_law_told", "_law_due"] spFlag := by
  refine Fn.good T.f__law_is_flag sc_law_is_flag (fun _ _ _ _ _ _ us hl => match us, hl with | [_, _], _ => rfl) (fun vs H Q E h => ?_) (fun cdv A outer s H vs Q E hr h => ?_)
  · obtain ⟨a, b, rfl, _⟩ := h
    rfl
  · obtain ⟨a, b, rfl, k⟩ := h
    refine ⟨_, (pss_one (ps_ret (pe_and (pe_callB call_isi (by rfl) T.n_isinstance (by decide +kernel) (pa_cons (pv 0) (pa_cons (pe_bltn (v := .ty "bool") (u := .type "bool") (by rfl) T.n_bool (by decide +kernel) rfl) pa_nil))) (pe_one (pe_cmpR op_eq (pv 0) (pv 1) (nomark _)))))), ?_⟩
    refine s_retE (Evl.ev_is (Evl.ev_andV (a := true) (ev_isi (tn := "bool") (Evl.ev_var rfl) (fun H1 _ => .base (.bl _)) (by decide +kernel)) fun _ => ev_eqB (Evl.ev_var rfl) (Evl.ev_var rfl)) rfl) fun H1 e1 => k H1 e1
theorem sc_law_lot : FnScope ["_law_parts"] ["_law_parts"] (defScope sLLot) := ⟨rfl, rfl, rfl, by decide +kernel, rfl, by decide +kernel, by decide +kernel⟩
theorem ok_law_lot (T : Txt K mg) : Gd P w K mg base CX0 7 (He.ga K "_law_lot") ["_law_parts"] (spLawLot K) := by
  have G_Lot : Gd P w K mg base CX0 5 (He.ma K (aLot K) "__init__") ["self", "low", "high", "members", "step", "below", "above"] (spLotI (aLot K)) := ok_Lot T
  refine Fn.good T.f__law_lot sc_law_lot (fun _ _ _ _ _ _ us hl => match us, hl with | [_], _ => rfl) (fun vs H Q E h => ?_) (fun cdv A outer s H vs Q E hr h => ?_)
  · obtain ⟨v, p, rfl, _⟩ := h
    rfl
  · obtain ⟨v, p, rfl, ⟨q, pm, pb, pa, rfl, h1, h2, h3, h4⟩, sm, k⟩ := h
    refine ⟨_, (pss_one (ps_ret (pmk T.mk_Lot G_Lot (hr.mono (by decide)) T.g_Lot (pa_cons (pe_ix (kIxT (K := K) rfl) (pv 0) pe_int (fun _ _ => rfl)) (pa_cons (pe_ix (kIxT (K := K) rfl) (pv 0) pe_int (fun _ _ => rfl)) (pa_cons (pe_ix (kIxT (K := K) rfl) (pv 0) pe_int (fun _ _ => rfl)) (pa_cons (pe_ix (kIxT (K := K) rfl) (pv 0) pe_int (fun _ _ => rfl)) (pa_cons (pe_ix (kIxT (K := K) rfl) (pv 0) pe_int (fun _ _ => rfl)) (pa_cons (pe_ix (kIxT (K := K) rfl) (pv 0) pe_int (fun _ _ => rfl)) pa_nil))))))))), ?_⟩
    refine u_ret (u_make ?_)
    refine Evl.ea_cons (ev_at 0 rfl h1 rfl) (Evl.ea_cons (ev_at 1 rfl h1 rfl) (Evl.ea_cons (ev_at 2 rfl h1 rfl) (Evl.ea_cons (ev_at 3 rfl h1 rfl) (Evl.ea_cons (ev_at 4 rfl h1 rfl) (Evl.ea_cons (ev_at 5 rfl h1 rfl) Evl.ea_nil))))) H (Evl.Ex.refl _) _ fun H1 e1 x dx hx hd _ => ?_
    refine ⟨fun a b ha hb => ?_, ?_⟩
    · have ea := Option.some.inj ha
      have eb := Option.some.inj hb
      cases ea
      cases eb
      have := sm.span
      omega
    · refine keep_make (H := H1) (p := p) (Evl.Ex.refl _) hx hd (e1 _ _ h2) (e1 _ _ h3) (e1 _ _ h4) sm.wf sm.st ?_ fun l H2 e2 A isL => ⟨rfl, k x l H2 (e1.trans e2) A isL⟩
      have := sm.ms
      rw [sizeLine_eq]
      omega
theorem sc_law_six : FnScope ["_law_lot_here"] ["_law_lot_here"] (defScope sLSix) := ⟨rfl, rfl, rfl, by decide +kernel, rfl, by decide +kernel, by decide +kernel⟩
theorem ok_law_six (T : Txt K mg) : Gd P w K mg base CX0 1 (He.ga K "_law_six") ["_law_lot_here"] (spSix K) := by
  refine Fn.good T.f__law_six sc_law_six (fun _ _ _ _ _ _ us hl => match us, hl with | [_], _ => rfl) (fun vs H Q E h => ?_) (fun cdv A outer s H vs Q E hr h => ?_)
  · obtain ⟨v, l, rfl, _⟩ := h
    rfl
  · obtain ⟨v, l, rfl, L, k⟩ := h
    refine ⟨_, (pss_one (ps_ret (pe_tup (pa_cons (kFld (K := K) rfl (pv 0) rfl) (pa_cons (kFld (K := K) rfl (pv 0) rfl) (pa_cons (kFld (K := K) rfl (pv 0) rfl) (pa_cons (kFld (K := K) rfl (pv 0) rfl) (pa_cons (kFld (K := K) rfl (pv 0) rfl) (pa_cons (kFld (K := K) rfl (pv 0) rfl) pa_nil))))))))), ?_⟩
    obtain ⟨pm, em, hm⟩ := ev_tm (σ := [some v]) (i := 0) L rfl
    obtain ⟨pb, eb, hb⟩ := ev_tb (σ := [some v]) (i := 0) L rfl
    obtain ⟨pa, ea, ha⟩ := ev_ta (σ := [some v]) (i := 0) L rfl
    refine Evl.s_retU (Evl.eu_tup (Evl.ea_cons (ev_low L rfl) (Evl.ea_cons (ev_high L rfl) (Evl.ea_cons em (Evl.ea_cons (ev_step L rfl) (Evl.ea_cons eb (Evl.ea_cons ea Evl.ea_nil)))))) (by show 6 ≤ 100000; decide)) fun q H1 _ e1 hq => ?_
    exact k _ H1 e1 ⟨q, pm, pb, pa, rfl, hq, e1 _ _ hm, e1 _ _ hb, e1 _ _ ha⟩
theorem sc_law_has : FnScope ["_law_parts", "_law_number"] ["_law_parts", "_law_number"] (defScope sLHas) := ⟨rfl, rfl, rfl, by decide +kernel, rfl, by decide +kernel, by decide +kernel⟩
theorem ok_law_has (T : Txt K mg) : Gd P w K mg base CX0 1 (He.ga K "_law_has") ["_law_parts", "_law_number"] spLawHas := by
  refine Fn.good T.f__law_has sc_law_has (fun _ _ _ _ _ _ us hl => match us, hl with | [_, _], _ => rfl) (fun vs H Q E h => ?_) (fun cdv A outer s H vs Q E hr h => ?_)
  · obtain ⟨v, p, n, rfl, _⟩ := h
    rfl
  · obtain ⟨v, p, n, rfl, ⟨q, pm, pb, pa, rfl, h1, h2, h3, h4⟩, wf, k⟩ := h
    refine ⟨_, (pss_cons (ps_if (pt_cmpR op_lt (pv 1) (pe_ix (kIxT (K := K) rfl) (pv 0) pe_int (fun _ _ => rfl)) (nomark _)) (pss_one (ps_ret (pe_cmpR (kInS (K := K) rfl) (pe_op op_mod (pe_callTy call_int1 (by rfl) T.n_int (by decide +kernel) (pa_cons (pv 1) pa_nil)) (pe_ix (kIxT (K := K) rfl) (pv 0) pe_int (fun _ _ => rfl))) (pe_ix (kIxT (K := K) rfl) (pv 0) pe_int (fun _ _ => rfl)) (by with_unfolding_all rfl)))) pss_nil)
      (pss_one (ps_ret (pe_ifExp (pt_cmpR op_lt (pv 1) (pe_ix (kIxT (K := K) rfl) (pv 0) pe_int (fun _ _ => rfl)) (nomark _)) (pe_cmpR (kInS (K := K) rfl) (pv 1) (pe_ix (kIxT (K := K) rfl) (pv 0) pe_int (fun _ _ => rfl)) (by with_unfolding_all rfl)) (pe_cmpR (kInS (K := K) rfl) (pe_op op_mod (pe_callTy call_int1 (by rfl) T.n_int (by decide +kernel) (pa_cons (pv 1) pa_nil)) (pe_ix (kIxT (K := K) rfl) (pv 0) pe_int (fun _ _ => rfl))) (pe_ix (kIxT (K := K) rfl) (pv 0) pe_int (fun _ _ => rfl)) (by with_unfolding_all rfl)))))), ?_⟩
    have s0 := wf.pos
    refine Evl.q_when (et_lt (Evl.ev_var rfl) (ev_at 0 rfl h1 rfl)) (fun c H1 e1 => ?_) (fun c H1 e1 => ?_)
    · have c1 : n < p.low := of_decide_eq_true c
      refine s_retE (ev_inT (ns := p.bl) (ev_mod (ev_int1 (Evl.ev_var rfl)) (ev_at 3 rfl (e1 _ _ h1) rfl) s0) (ev_at 4 rfl (e1 _ _ h1) rfl) (e1 _ _ h3)) fun H2 e2 => ?_
      have z := k H2 (e1.trans e2)
      rw [show p.has n = decide (n % p.st ∈ p.bl) by unfold P6.has; rw [if_pos c1]; rfl] at z
      exact z
    · have c1 : ¬ n < p.low := of_decide_eq_false c
      refine s_retE (v := .bl (p.has n)) (Evl.ev_if (et_lt (Evl.ev_var rfl) (ev_at 1 rfl (e1 _ _ h1) rfl)) (fun d => Evl.ev_is (ev_inT (ns := p.ms) (Evl.ev_var rfl) (ev_at 2 rfl (e1 _ _ h1) rfl) (e1 _ _ h2)) ?_) (fun d => Evl.ev_is (ev_inT (ns := p.ab) (ev_mod (ev_int1 (Evl.ev_var rfl)) (ev_at 3 rfl (e1 _ _ h1) rfl) s0) (ev_at 5 rfl (e1 _ _ h1) rfl) (e1 _ _ h4)) ?_)) fun H2 e2 => k H2 (e1.trans e2)
      · unfold P6.has
        rw [if_neg c1, if_pos (of_decide_eq_true d)]
      · unfold P6.has
        rw [if_neg c1, if_neg (of_decide_eq_false d)]
        rfl
theorem sc_law_round : FnScope ["_law_rests_here", "_law_step", "_law_part", "_law_rest"] ["_law_rests_here", "_law_step", "_law_part"] (defScope sLRound) := ⟨rfl, rfl, rfl, by decide +kernel, rfl, by decide +kernel, by decide +kernel⟩
theorem ok_law_round (T : Txt K mg) : Gd P w K mg base CX0 1 (He.ga K "_law_round") ["_law_rests_here", "_law_step", "_law_part"] spLawRound := by
  refine Fn.good T.f__law_round sc_law_round (fun _ _ _ _ _ _ us hl => match us, hl with | [_, _, _], _ => rfl) (fun vs H Q E h => ?_) (fun cdv A outer s H vs Q E hr h => ?_)
  · obtain ⟨p, rs, st, kk, rfl, _⟩ := h
    rfl
  · obtain ⟨p, rs, st, kk, rfl, hp, hz, s0, k⟩ := h
    refine ⟨_, (pss_one (ps_ret (pe_callB (cr_all rfl) (by rfl) T.n_all (by decide +kernel) (pa_cons (pe_lc (own := [("_law_rest", 3)]) (g := gName 3) rfl sc_law_round.nd (pi_tup (pv 0)) (blkOk_by (N := ["_law_rests_here", "_law_step", "_law_part", "_law_rest"]) (sc := defScope sLRound) (by decide +kernel)) (fun _ _ _ _ _ => pg_name (i := 3) sc_law_round.nd rfl (Or.inl rfl)) (fun _ _ _ _ _ => pts_nil) (fun _ _ _ _ _ => (pe_cmpR (kInS (K := K) rfl) (pe_op op_mod (pe_callTy call_int1 (by rfl) T.n_int (by decide +kernel) (pa_cons (pe_op op_add (pv 3) (pv 2)) pa_nil)) (pv 1)) (pv 0) (by with_unfolding_all rfl)))) pa_nil)))), ?_⟩
    refine s_retE (Evl.ev_is (ev_all (bs := rs.map fun r => decide ((r + kk) % st ∈ rs)) (EvL.is (el_T (ns := rs) (fun _ => true) (fun r => .bl (decide ((r + kk) % st ∈ rs))) (Evl.ev_var rfl) hp (by rw [sizeLine_eq]; omega) (fun x => rfl) (fun z Hz _ ez => et_yes) (fun z Hz _ ez _ => ev_inT (ns := rs) (ev_mod (ev_int1 (ev_add (Evl.ev_var rfl) (Evl.ev_var rfl))) (Evl.ev_var rfl) s0) (Evl.ev_var rfl) (ez _ _ hp))) (by rw [filter_yes, List.map_map]; rfl))) ?_) fun H1 e1 => k H1 e1
    unfold rndB
    rw [List.all_map]
    rfl
theorem sc_law_gcd : FnScope ["_law_one", "_law_other", "_law_turn"] ["_law_one", "_law_other"] (defScope sLGcd) := ⟨rfl, rfl, rfl, by decide +kernel, rfl, by decide +kernel, by decide +kernel⟩
theorem ok_law_gcd (T : Txt K mg) : Gd P w K mg base CX0 1 (He.ga K "_law_gcd") ["_law_one", "_law_other"] spLawGcd := by
  refine Fn.good T.f__law_gcd sc_law_gcd (fun _ _ _ _ _ _ us hl => match us, hl with | [_, _], _ => rfl) (fun vs H Q E h => ?_) (fun cdv A outer s H vs Q E hr h => ?_)
  · obtain ⟨a, b, rfl, _⟩ := h
    rfl
  · obtain ⟨a, b, rfl, a0, a1, b0, b1, k⟩ := h
    refine ⟨_, (pss_cons (ps_par (i := 0) (j := 1) rfl sc_law_gcd.nd rfl rfl (by decide) rfl rfl (pa_cons (pe_callB call_abs (by rfl) T.n_abs (by decide +kernel) (pa_cons (pv 0) pa_nil)) (pa_cons (pe_callB call_abs (by rfl) T.n_abs (by decide +kernel) (pa_cons (pv 1) pa_nil)) pa_nil)) (by rfl))
      (pss_cons (ps_for PassesOwn.never rfl (pi_range1 (by rfl) T.n_range (pa_cons pe_int pa_nil)) (pg_name (i := 2) sc_law_gcd.nd rfl (Or.inl rfl)) (pss_cons (ps_if (pt_cmpR op_eq (pv 1) pe_int (nomark _)) (pss_one ps_break) pss_nil)
      (pss_one (ps_par (i := 0) (j := 1) rfl sc_law_gcd.nd rfl rfl (by decide) rfl rfl (pa_cons (pv 1) (pa_cons (pe_op op_mod (pv 0) (pv 1)) pa_nil)) (by rfl)))))
      (pss_one (ps_ret (pv 0))))), ?_⟩
    refine ⟨_, rfl, a, rfl, ?_⟩
    refine ⟨_, rfl, b, rfl, ?_⟩
    refine ⟨_, _, rfl, ?_⟩
    have e : ∀ z : Int, (if z < 0 then -z else z) = (z.natAbs : Int) := fun z => by split <;> omega
    have fin : ∀ (x : Nat) (y : Option V) σ' H', σ' = [some (.int (x : Int)), some (.int 0), y] → Ex H H' → Nat.gcd x 0 = Nat.gcd a.natAbs b.natAbs → tRet (tVar 0) { nx := fun _ H' => Q .non H', rt := Q } σ' H' := fun x y σ' H' e e1 g => by
      subst e
      rw [Nat.gcd_zero_right] at g
      subst g
      exact s_retE (Evl.ev_var rfl) fun H2 e2 => k H2 (e1.trans e2)
    refine Evl.q_forR1 (j := 2) (Evl.ea_cons Evl.ev_c Evl.ea_nil) ⟨by decide, by decide⟩ (fun i σ' H' => ∃ (x y : Nat) (z : Option V), σ' = [some (.int (x : Int)), some (.int (y : Int)), z] ∧ Ex H H' ∧ Nat.gcd x y = Nat.gcd a.natAbs b.natAbs ∧ ((i = 0 ∧ x ≤ 4000 ∧ y ≤ 4000) ∨ (1 ≤ i ∧ y ≤ x ∧ x * y * 2 ^ (i - 1) ≤ 16000000))) (fun H1 e1 => ⟨a.natAbs, b.natAbs, none, ?_, e1, rfl, .inl ⟨rfl, by omega, by omega⟩⟩) ?_ ?_
    · show [some (V.int (if a < 0 then -a else a)), some (V.int (if b < 0 then -b else b)), none] = _
      rw [e, e]
    · rintro i σ' H' hi ⟨x, y, z, rfl, e1, g, m⟩
      refine Evl.q_when (et_eqI (n := (y : Int)) (m := 0) (Evl.ev_var rfl) Evl.ev_c) (fun c H2 e2 => ?_) (fun c H2 e2 => ?_)
      · have c1 : (y : Int) = 0 := of_decide_eq_true c
        obtain rfl : y = 0 := by omega
        exact fin x _ _ H2 rfl (e1.trans e2) g
      · have c1 : ¬ (y : Int) = 0 := of_decide_eq_false c
        have y0 : 0 < y := by omega
        refine ⟨_, rfl, _, rfl, _, rfl, _, _, rfl, rfl, by omega, _, _, rfl, y, x % y, _, rfl, e1.trans e2, ?_, .inr ⟨by omega, Nat.le_of_lt (Nat.mod_lt x y0), ?_⟩⟩
        · rw [← g, Nat.gcd_comm x y, Nat.gcd_rec y x, Nat.gcd_comm]
        · rw [Nat.add_sub_cancel]
          rcases m with ⟨rfl, x1, y1⟩ | ⟨i1, yx, m⟩
          · have h1 : x % y ≤ 4000 := Nat.le_trans (Nat.mod_le x y) x1
            have h2 := Nat.mul_le_mul y1 h1
            simpa using h2
          · obtain ⟨j, rfl⟩ : ∃ j, i = j + 1 := ⟨i - 1, by omega⟩
            rw [Nat.add_sub_cancel] at m
            have h1 := Nat.mod_lt x y0
            have h2 := Nat.mod_add_div x y
            have h3 : 1 ≤ x / y := (Nat.le_div_iff_mul_le y0).mpr (by omega)
            have h4 : y * 1 ≤ y * (x / y) := Nat.mul_le_mul_left _ h3
            have h5 : x % y * 2 ≤ x := by omega
            have h6 : y * (x % y * 2) ≤ y * x := Nat.mul_le_mul_left _ h5
            have h7 := Nat.mul_le_mul_right (2 ^ j) h6
            have h8 : y * (x % y) * 2 ^ (j + 1) = y * (x % y * 2) * 2 ^ j := by rw [Nat.pow_succ, Nat.mul_comm (2 ^ j) 2, ← Nat.mul_assoc, ← Nat.mul_assoc]
            rw [h8]
            rw [Nat.mul_comm x y] at m
            omega
    · rintro σ' H' ⟨x, y, z, rfl, e1, g, m⟩
      rcases m with ⟨h, _⟩ | ⟨_, yx, m⟩
      · exact absurd h (by decide)
      · have y0 : y = 0 := by
          rcases Nat.eq_zero_or_pos y with h | h
          · exact h
          · have x0 : 0 < x := Nat.lt_of_lt_of_le h yx
            have h1 : 1 ≤ x * y := Nat.mul_pos x0 h
            have h2 := Nat.mul_le_mul_right (2 ^ ((400 : Int).toNat - 1)) h1
            have h3 : (16000000 : Nat) < 1 * 2 ^ ((400 : Int).toNat - 1) := by decide +kernel
            omega
        subst y0
        exact fin x z _ H' rfl e1 g
end
end Nv
set_option Elab.async false
set_option linter.all false
set_option maxRecDepth 100000
set_option maxHeartbeats 2000000
/-! NvEq: == and != of tuples of whole numbers, of six parts. -/
namespace Nv
open PySem PySem.Spec PyProof.Rows L2
open Evl (Ev EvT EvL EvU EvA)
abbrev dI (ns : List Int) : List PyData := ns.map PyData.int
theorem dp_all {K : PySem.W.Frag} {H : Hp} : ∀ ns : List Int, DpAll K H (vI ns) (dI ns)
  | [] => .nil
  | n :: r => .cons (.int n) (dp_all r)
theorem dI_eqv : ∀ xs ys : List Int, PyData.eqvAll (dI xs) (dI ys) = decide (xs = ys)
  | [], [] => by simp [dI, PyData.eqvAll]
  | [], _ :: _ => by simp [dI, PyData.eqvAll]
  | _ :: _, [] => by simp [dI, PyData.eqvAll]
  | x :: xs, y :: ys => by
    have ih := dI_eqv xs ys
    unfold dI at ih ⊢
    rw [List.map_cons, List.map_cons, PyData.eqvAll, ih, PyData.eqv]
    by_cases e : x = y
    · subst e; simp
    · simp [e]
theorem dI_lay : ∀ ns : List Int, PyData.canLayAll0 (dI ns) = true
  | [] => by simp [dI, PyData.canLayAll0]
  | n :: r => by
    have ih := dI_lay r
    unfold dI at ih ⊢
    rw [List.map_cons, PyData.canLayAll0, ih]
    simp [PyData.canLay0]
theorem dI_depth : ∀ ns : List Int, PyData.depthAll (dI ns) = 0
  | [] => by simp [dI, PyData.depthAll]
  | n :: r => by
    have ih := dI_depth r
    unfold dI at ih ⊢
    rw [List.map_cons, PyData.depthAll, ih]
    simp [PyData.depth]
theorem tI_shaped (ns : List Int) : SeqAt.shaped (.tuple (dI ns)) = true := by
  unfold SeqAt.shaped
  rw [PyData.canLay0, PyData.depth, dI_lay, dI_depth]
  decide
def d6 (p : P6) : PyData := .tuple [.int p.low, .int p.high, .tuple (dI p.ms), .int p.st, .tuple (dI p.bl), .tuple (dI p.ab)]
theorem d6_lay (p : P6) : PyData.canLay0 (d6 p) = true := by
  simp [d6, PyData.canLay0, PyData.canLayAll0, dI_lay]
theorem d6_shaped (p : P6) : SeqAt.shaped (d6 p) = true := by
  unfold SeqAt.shaped
  rw [d6_lay]
  simp [d6, PyData.depth, PyData.depthAll, dI_depth]
theorem d6_dp {K : PySem.W.Frag} {H : Hp} {v : V} {p : P6} (h : PartsV H v p) : Dp K H v (d6 p) := by
  obtain ⟨q, pm, pb, pa, rfl, h1, h2, h3, h4⟩ := h
  exact .tup (SqT.of h1) (.cons (.int _) (.cons (.int _) (.cons (.tup (SqT.of h2) (dp_all _)) (.cons (.int _) (.cons (.tup (SqT.of h3) (dp_all _)) (.cons (.tup (SqT.of h4) (dp_all _)) .nil))))))
section
variable {X : Cx} {K : PySem.W.Frag} {σ : L2.St} {H : Hp} {ta tb : TE} {xs ys : List Int} {a b : Addr} {p : P6}
theorem kEqD (h : X.K = K) (hu : X.A.units + 64 < cLine) : OpR X (compareOp .Eq) (rEqD K) := h ▸ op_eqD hu
theorem kNeD (h : X.K = K) (hu : X.A.units + 64 < cLine) : OpR X (compareOp .NotEq) (rNeD K) := h ▸ op_neD hu
theorem ev_neT (ha : Ev ta σ H (.ref a)) (hb : Ev tb σ H (.ref b)) (h1 : H a = some (.tup (vI xs))) (h2 : H b = some (.tup (vI ys))) : Ev (tOp (rNeD K) ta tb) σ H (.bl (!decide (xs = ys))) :=
  Evl.ev_op ha hb fun H1 e Q q => ⟨_, _, .tup (SqT.of (e _ _ h1)) (dp_all xs), .tup (SqT.of (e _ _ h2)) (dp_all ys), tI_shaped xs, tI_shaped ys, by
    rw [PyData.eqv, dI_eqv]
    exact q H1 (Evl.Ex.refl _)⟩
theorem ev_eqU (ha : Ev ta σ H (.ref a)) (hb : EvU tb σ H (vI ys)) (h1 : H a = some (.tup (vI xs))) : Ev (tOp (rEqD K) ta tb) σ H (.bl (decide (xs = ys))) :=
  Evl.ev_opU ha hb fun b H1 h2 e1 H2 e2 Q q => ⟨_, _, .tup (SqT.of ((e1.trans e2) _ _ h1)) (dp_all xs), .tup (SqT.of (e2 _ _ h2)) (dp_all ys), tI_shaped xs, tI_shaped ys, by
    rw [PyData.eqv, dI_eqv]
    exact q H2 (Evl.Ex.refl _)⟩
/-- the same six parts -/
theorem ev_ne6 (ha : EvP ta σ H (fun v H1 => PartsV H1 v p)) (hb : EvP tb σ H (fun v H1 => PartsV H1 v p)) : Ev (tOp (rNeD K) ta tb) σ H (.bl false) := fun H1 e Q q =>
  ha H1 e _ fun x H2 e2 px => hb H2 (e.trans e2) _ fun y H3 e3 py => ⟨d6 p, d6 p, d6_dp (px.mono e3), d6_dp py, d6_shaped p, d6_shaped p, by
    rw [SeqAt.eqv_refl _ (d6_lay p)]
    exact q H3 (e2.trans e3)⟩
end
end Nv
set_option Elab.async false
set_option linter.all false
set_option maxRecDepth 100000
set_option maxHeartbeats 4000000
/-! NvS: _law_least. -/
namespace Nv
open PySem PySem.Spec PyProof.Rows L2
open Evl (Ev EvT EvL EvU EvA)
def spLawLeast : Sp := fun vs H Q _ => ∃ (v : V) (p : P6), vs = [v] ∧ PartsV H v p ∧ Sm p ∧ ∀ u l H2, Ex H H2 → PartsV H2 u l → IsLeast p l → Q u H2
def stepB (p : P6) (k : Int) : Bool := decide (p.st % k = 0) && (rndB p.bl p.st k && rndB p.ab p.st k)
theorem stepB_iff {p : P6} {k : Int} : stepB p k = true ↔ Good p.st p.bl p.ab k := by
  unfold stepB Good
  rw [Bool.and_eq_true, Bool.and_eq_true, decide_eq_true_iff, rndB_iff, rndB_iff]
theorem step_least {p : P6} {k : Int} (hm : k ∈ (zR 1 1 (p.st + 1 - 1).toNat).filter (stepB p)) (hl : ∀ y ∈ (zR 1 1 (p.st + 1 - 1).toNat).filter (stepB p), k ≤ y) : IsStep p.st p.bl p.ab k := by
  obtain ⟨h1, h2⟩ := List.mem_filter.mp hm
  obtain ⟨k1, k2⟩ := (mem_zR1 (lo := 1) (hi := p.st + 1)).mp h1
  refine ⟨k1, by omega, stepB_iff.mp h2, fun j j1 jk g => ?_⟩
  have := hl j (List.mem_filter.mpr ⟨(mem_zR1 (lo := 1) (hi := p.st + 1)).mpr ⟨j1, by omega⟩, stepB_iff.mpr g⟩)
  omega
theorem step_some {p : P6} (wf : p.Wf) : 0 < ((zR 1 1 (p.st + 1 - 1).toNat).filter (stepB p)).length :=
  List.length_pos_of_mem (a := p.st) (List.mem_filter.mpr ⟨(mem_zR1 (lo := 1) (hi := p.st + 1)).mpr ⟨by have := wf.pos; omega, by omega⟩, stepB_iff.mpr (good_self wf.pos wf.bl wf.ab)⟩)
theorem evp_addc {σ : L2.St} {H : Hp} {te : TE} {C : Int → Prop} {c : Int} (h : EvP te σ H (fun v _ => ∃ m, v = .int m ∧ C m)) : EvP (tOp (rI0 fun i j => .int (i + j)) te (tC (.int c))) σ H (fun v _ => ∃ m, v = .int (m + c) ∧ C m) := fun H1 e Q q =>
  h H1 e _ fun v H2 e2 ⟨m, ev, hm⟩ => by
    subst ev
    exact ⟨m, c, rfl, rfl, q _ H2 e2 ⟨m, rfl, hm⟩⟩
theorem flat_len {q : P6} {f : Int → List Int} (h : ∀ r, (f r).length ≤ 1) : ∀ l : List Int, (l.flatMap f).length ≤ l.length
  | [] => Nat.le_refl _
  | a :: r => by
    rw [List.flatMap_cons, List.length_append, List.length_cons]
    have := h a
    have := flat_len (q := q) h r
    omega
theorem topC_len {q : P6} {r : Int} : (topC q r).length ≤ 1 := by
  unfold topC
  rw [List.length_take]
  omega
theorem botC_len {q : P6} {t r : Int} : (botC q t r).length ≤ 1 := by
  unfold botC
  rw [List.length_take]
  omega
theorem flat_more {f : Int → List Int} {l : List Int} {i : Nat} {z : Int} (h : l[i]? = some z) : (l.take (i + 1)).flatMap f = (l.take i).flatMap f ++ f z := by
  rw [take_more h, List.flatMap_append]
  simp
theorem bne_dec (a b : Bool) : (!decide (a = b)) = (a != b) := by cases a <;> cases b <;> rfl
theorem ne_ref {a : Addr} : V.ref a ≠ V.non := fun h => by cases h
theorem vI_app {a b : List Int} : vI a ++ vI b = vI (a ++ b) := by
  unfold vI
  rw [List.map_append]
section
variable {P : Program} {w : World} {K : PySem.W.Frag} {mg : Str → Option Value} {base : Heap}
theorem sc_law_least : FnScope ["_law_parts", "_law_low", "_law_high", "_law_members", "_law_step", "_law_below", "_law_above", "_law_part", "_law_rest", "_law_odd", "_law_first", "_law_top", "_law_some", "_law_bottom", "_law_number", "_law_k"] ["_law_parts"] (defScope sLLeast) := ⟨rfl, rfl, rfl, by decide +kernel, rfl, by decide +kernel, by decide +kernel⟩
theorem ok_law_least (T : Txt K mg) : Gd P w K mg base CX0 2 (He.ga K "_law_least") ["_law_parts"] spLawLeast := by
  have G__law_round : Gd P w K mg base CX0 1 (He.ga K "_law_round") ["_law_rests_here", "_law_step", "_law_part"] spLawRound := ok_law_round T
  refine Fn.good T.f__law_least sc_law_least (fun _ _ _ _ _ _ us hl => match us, hl with | [_], _ => rfl) (fun vs H Q E h => ?_) (fun cdv A outer s H vs Q E hr h => ?_)
  · obtain ⟨v, p, rfl, _⟩ := h
    rfl
  · obtain ⟨v, p, rfl, L, sm, k⟩ := h
    refine ⟨_, (pss_cons (ps_asg (pv 0) (pg_tup rfl (pgs_cons (pg_name (i := 1) sc_law_least.nd rfl (Or.inl rfl)) (pgs_cons (pg_name (i := 2) sc_law_least.nd rfl (Or.inl rfl)) (pgs_cons (pg_name (i := 3) sc_law_least.nd rfl (Or.inr rfl)) (pgs_cons (pg_name (i := 4) sc_law_least.nd rfl (Or.inr rfl)) (pgs_cons (pg_name (i := 5) sc_law_least.nd rfl (Or.inr rfl)) (pgs_cons (pg_name (i := 6) sc_law_least.nd rfl (Or.inr rfl)) pgs_nil))))))))
      (pss_cons (ps_set (i := 7) sc_law_least.nd rfl (Or.inr rfl) (pe_callB (cr_min rfl) (by rfl) T.n_min (by decide +kernel) (pa_cons (pe_lc (own := [("_law_k", 15)]) (g := gName 15) rfl sc_law_least.nd (pi_range2 (by rfl) T.n_range (pa_cons pe_int (pa_cons (pe_op op_add (pv 4) pe_int) pa_nil))) (blkOk_by (N := ["_law_parts", "_law_low", "_law_high", "_law_members", "_law_step", "_law_below", "_law_above", "_law_part", "_law_rest", "_law_odd", "_law_first", "_law_top", "_law_some", "_law_bottom", "_law_number", "_law_k"]) (sc := defScope sLLeast) (by decide +kernel)) (fun _ _ _ _ _ => pg_name (i := 15) sc_law_least.nd rfl (Or.inl rfl)) (fun _ _ _ _ _ => pts_one (PW.pt (pw_and (pt_cmpR op_eq (pe_op op_mod (pe_callTy call_int1 (by rfl) T.n_int (by decide +kernel) (pa_cons (pv 4) pa_nil)) (pv 15)) pe_int (nomark _)) (pw_and (pt_val (pcl G__law_round (hr.mono (by decide)) T.g__law_round (pa_cons (pv 5) (pa_cons (pv 4) (pa_cons (pv 15) pa_nil))))) (pw_and1 (pt_val (pcl G__law_round (hr.mono (by decide)) T.g__law_round (pa_cons (pv 6) (pa_cons (pv 4) (pa_cons (pv 15) pa_nil)))))))))) (fun _ _ _ _ _ => (pv 15))) pa_nil)))
      (pss_cons (ps_set (i := 5) sc_law_least.nd rfl (Or.inr rfl) (pe_callTy call_tuple_of (by rfl) T.n_tuple (by decide +kernel) (pa_cons (pe_lc (own := [("_law_rest", 8)]) (g := gName 8) rfl sc_law_least.nd (pi_tup (pv 5)) (blkOk_by (N := ["_law_parts", "_law_low", "_law_high", "_law_members", "_law_step", "_law_below", "_law_above", "_law_part", "_law_rest", "_law_odd", "_law_first", "_law_top", "_law_some", "_law_bottom", "_law_number", "_law_k"]) (sc := defScope sLLeast) (by decide +kernel)) (fun _ _ _ _ _ => pg_name (i := 8) sc_law_least.nd rfl (Or.inl rfl)) (fun _ _ _ _ _ => pts_one (pt_cmpR op_lt (pv 8) (pv 7) (nomark _))) (fun _ _ _ _ _ => (pv 8))) pa_nil)))
      (pss_cons (ps_set (i := 6) sc_law_least.nd rfl (Or.inr rfl) (pe_callTy call_tuple_of (by rfl) T.n_tuple (by decide +kernel) (pa_cons (pe_lc (own := [("_law_rest", 8)]) (g := gName 8) rfl sc_law_least.nd (pi_tup (pv 6)) (blkOk_by (N := ["_law_parts", "_law_low", "_law_high", "_law_members", "_law_step", "_law_below", "_law_above", "_law_part", "_law_rest", "_law_odd", "_law_first", "_law_top", "_law_some", "_law_bottom", "_law_number", "_law_k"]) (sc := defScope sLLeast) (by decide +kernel)) (fun _ _ _ _ _ => pg_name (i := 8) sc_law_least.nd rfl (Or.inl rfl)) (fun _ _ _ _ _ => pts_one (pt_cmpR op_lt (pv 8) (pv 7) (nomark _))) (fun _ _ _ _ _ => (pv 8))) pa_nil)))
      (pss_cons (ps_setLc (i := 9) (own := [("_law_number", 14)]) (g := gName 14) rfl sc_law_least.nd rfl rfl (sw_true rfl rfl rfl (by decide +kernel)) (pi_tup (pv 3)) (blkOk_by (N := ["_law_parts", "_law_low", "_law_high", "_law_members", "_law_step", "_law_below", "_law_above", "_law_part", "_law_rest", "_law_odd", "_law_first", "_law_top", "_law_some", "_law_bottom", "_law_number", "_law_k"]) (sc := defScope sLLeast) (by decide +kernel)) (fun _ _ _ _ _ => pg_name (i := 14) sc_law_least.nd rfl (Or.inl rfl)) (fun _ _ _ _ _ => pts_one (pt_cmpR (kNiS (K := K) rfl) (pe_op op_mod (pe_callTy call_int1 (by rfl) T.n_int (by decide +kernel) (pa_cons (pv 14) pa_nil)) (pv 7)) (pv 6) (by with_unfolding_all rfl))) (fun _ _ _ _ _ => (pv 14)))
      (pss_cons (ps_for PassesOwn.never rfl (pi_tup (pv 6)) (pg_name (i := 8) sc_law_least.nd rfl (Or.inl rfl)) (pss_cons (ps_set (i := 10) sc_law_least.nd rfl (Or.inl rfl) (pe_op op_sub (pe_op op_sub (pv 2) pe_int) (pe_op op_mod (pe_callTy call_int1 (by rfl) T.n_int (by decide +kernel) (pa_cons (pe_op op_sub (pe_op op_sub (pv 2) pe_int) (pv 8)) pa_nil)) (pv 7))))
      (pss_one (ps_set (i := 9) sc_law_least.nd rfl (Or.inl rfl) (pe_op op_cat (pv 9) (pe_slice sl_list (pe_lc (own := [("_law_number", 14)]) (g := gName 14) rfl sc_law_least.nd (pi_rangeW3 (by rfl) T.n_range (pa_cons (pv 10) (pa_cons (pe_op op_sub (pe_callB (call_max2 rfl) (by rfl) T.n_max (by decide +kernel) (pa_cons (pv 1) (pa_cons (pe_op op_sub (pv 10) (pe_op op_mul pe_int (pv 7))) pa_nil))) pe_int) (pa_cons (pe_op op_sub pe_int (pv 7)) pa_nil)))) (blkOk_by (N := ["_law_parts", "_law_low", "_law_high", "_law_members", "_law_step", "_law_below", "_law_above", "_law_part", "_law_rest", "_law_odd", "_law_first", "_law_top", "_law_some", "_law_bottom", "_law_number", "_law_k"]) (sc := defScope sLLeast) (by decide +kernel)) (fun _ _ _ _ _ => pg_name (i := 14) sc_law_least.nd rfl (Or.inl rfl)) (fun _ _ _ _ _ => pts_one (pt_cmpR (kNiS (K := K) rfl) (pv 14) (pv 3) (by with_unfolding_all rfl))) (fun _ _ _ _ _ => (pv 14))) po_none (po_some pe_int)))))))
      (Evl.pss_cut (ps_if (pt_cmpR (kNeD (K := K) rfl hr.units) (pv 5) (pv 6) (nomark _)) (pss_one (ps_set (i := 9) sc_law_least.nd rfl (Or.inl rfl) (pe_op op_cat (pv 9) (pe_lc (own := [("_law_number", 14)]) (g := gName 14) rfl sc_law_least.nd (pi_rangeW2 (by rfl) T.n_range (pa_cons (pe_op op_sub (pv 1) (pv 7)) (pa_cons (pv 1) pa_nil))) (blkOk_by (N := ["_law_parts", "_law_low", "_law_high", "_law_members", "_law_step", "_law_below", "_law_above", "_law_part", "_law_rest", "_law_odd", "_law_first", "_law_top", "_law_some", "_law_bottom", "_law_number", "_law_k"]) (sc := defScope sLLeast) (by decide +kernel)) (fun _ _ _ _ _ => pg_name (i := 14) sc_law_least.nd rfl (Or.inl rfl)) (fun _ _ _ _ _ => pts_one (pt_cmpR op_ne (pe_cmpR (kInS (K := K) rfl) (pe_op op_mod (pe_callTy call_int1 (by rfl) T.n_int (by decide +kernel) (pa_cons (pv 14) pa_nil)) (pv 7)) (pv 5) (by with_unfolding_all rfl)) (pe_cmpR (kInS (K := K) rfl) (pe_op op_mod (pe_callTy call_int1 (by rfl) T.n_int (by decide +kernel) (pa_cons (pv 14) pa_nil)) (pv 7)) (pv 6) (by with_unfolding_all rfl)) (nomark _))) (fun _ _ _ _ _ => (pv 14)))))) pss_nil)
      (pss_cons (ps_if (pt_cmpR op_eq (pe_callB (kLen (K := K) rfl) (by rfl) T.n_len (by decide +kernel) (pa_cons (pv 9) pa_nil)) pe_int (nomark _)) (pss_one (ps_ret (pe_tup (pa_cons pe_int (pa_cons pe_int (pa_cons (pe_tup pa_nil) (pa_cons (pv 7) (pa_cons (pv 5) (pa_cons (pv 6) pa_nil))))))))) pss_nil)
      (pss_cons (ps_set (i := 11) sc_law_least.nd rfl (Or.inr rfl) (pe_op op_add (pe_callB (cr_max rfl) (by rfl) T.n_max (by decide +kernel) (pa_cons (pv 9) pa_nil)) pe_int))
      (pss_cons (ps_setLc (i := 12) (own := [("_law_number", 14)]) (g := gName 14) rfl sc_law_least.nd rfl rfl (sw_true rfl rfl rfl (by decide +kernel)) (pi_tup (pv 3)) (blkOk_by (N := ["_law_parts", "_law_low", "_law_high", "_law_members", "_law_step", "_law_below", "_law_above", "_law_part", "_law_rest", "_law_odd", "_law_first", "_law_top", "_law_some", "_law_bottom", "_law_number", "_law_k"]) (sc := defScope sLLeast) (by decide +kernel)) (fun _ _ _ _ _ => pg_name (i := 14) sc_law_least.nd rfl (Or.inl rfl)) (fun _ _ _ _ _ => pts_one (pt_cmpR (kNiS (K := K) rfl) (pe_op op_mod (pe_callTy call_int1 (by rfl) T.n_int (by decide +kernel) (pa_cons (pv 14) pa_nil)) (pv 7)) (pv 5) (by with_unfolding_all rfl))) (fun _ _ _ _ _ => (pv 14)))
      (pss_cons (ps_for PassesOwn.never rfl (pi_tup (pv 5)) (pg_name (i := 8) sc_law_least.nd rfl (Or.inl rfl)) (pss_cons (ps_set (i := 10) sc_law_least.nd rfl (Or.inl rfl) (pe_op op_add (pv 1) (pe_op op_mod (pe_callTy call_int1 (by rfl) T.n_int (by decide +kernel) (pa_cons (pe_op op_sub (pv 8) (pv 1)) pa_nil)) (pv 7))))
      (pss_one (ps_set (i := 12) sc_law_least.nd rfl (Or.inl rfl) (pe_op op_cat (pv 12) (pe_slice sl_list (pe_lc (own := [("_law_number", 14)]) (g := gName 14) rfl sc_law_least.nd (pi_rangeW3 (by rfl) T.n_range (pa_cons (pv 10) (pa_cons (pe_callB (call_min2 rfl) (by rfl) T.n_min (by decide +kernel) (pa_cons (pv 11) (pa_cons (pe_op op_add (pv 10) (pe_op op_mul pe_int (pv 7))) pa_nil))) (pa_cons (pv 7) pa_nil)))) (blkOk_by (N := ["_law_parts", "_law_low", "_law_high", "_law_members", "_law_step", "_law_below", "_law_above", "_law_part", "_law_rest", "_law_odd", "_law_first", "_law_top", "_law_some", "_law_bottom", "_law_number", "_law_k"]) (sc := defScope sLLeast) (by decide +kernel)) (fun _ _ _ _ _ => pg_name (i := 14) sc_law_least.nd rfl (Or.inl rfl)) (fun _ _ _ _ _ => pts_one (pt_cmpR (kNiS (K := K) rfl) (pv 14) (pv 3) (by with_unfolding_all rfl))) (fun _ _ _ _ _ => (pv 14))) po_none (po_some pe_int)))))))
      (pss_cons (ps_set (i := 13) sc_law_least.nd rfl (Or.inr rfl) (pe_callB (cr_min rfl) (by rfl) T.n_min (by decide +kernel) (pa_cons (pe_op op_cat (pv 12) (pe_lst (pa_cons (pv 11) pa_nil))) pa_nil)))
      (pss_one (ps_ret (pe_tup (pa_cons (pv 13) (pa_cons (pv 11) (pa_cons (pe_callTy call_tuple_of (by rfl) T.n_tuple (by decide +kernel) (pa_cons (pe_lc (own := [("_law_number", 14)]) (g := gName 14) rfl sc_law_least.nd (pi_tup (pv 3)) (blkOk_by (N := ["_law_parts", "_law_low", "_law_high", "_law_members", "_law_step", "_law_below", "_law_above", "_law_part", "_law_rest", "_law_odd", "_law_first", "_law_top", "_law_some", "_law_bottom", "_law_number", "_law_k"]) (sc := defScope sLLeast) (by decide +kernel)) (fun _ _ _ _ _ => pg_name (i := 14) sc_law_least.nd rfl (Or.inl rfl)) (fun _ _ _ _ _ => pts_one (pt_chain op_le op_lt (pv 13) (pv 14) (pv 11))) (fun _ _ _ _ _ => (pv 14))) pa_nil)) (pa_cons (pv 7) (pa_cons (pv 5) (pa_cons (pv 6) pa_nil))))))))))))))))))))), ?_⟩
    have wf := sm.wf
    have s0 := wf.pos
    have s1 := sm.st
    have b12 := sm.bl
    have a12 := sm.ab
    have m6 := sm.ms
    have zz : ∀ {n : Nat}, n ≤ 12 → n < sizeLine := fun h => by rw [sizeLine_eq]; omega
    refine q_asg6 rfl L fun pm pb pa hm hb ha => ?_
    -- part
    refine q_asgP (evp_min (ns := (zR 1 1 (p.st + 1 - 1).toNat).filter (stepB p)) (el_R2 (lo := 1) (hi := p.st + 1) (stepB p) V.int (Evl.ea_cons Evl.ev_c (Evl.ea_cons (ev_add (Evl.ev_var rfl) Evl.ev_c) Evl.ea_nil)) ⟨by decide, by decide, by omega, by omega⟩ (by rw [sizeLine_eq]; omega) (fun x => rfl) (fun z Hz hz ez => ?_) (fun z Hz _ ez _ => Evl.ev_var rfl)) (step_some wf)) fun v1 H1 e1 pv => ?_
    · have z1 := ((mem_zR1 (lo := 1) (hi := p.st + 1)).mp hz).1
      exact et_andV (et_eqI (ev_mod (ev_int1 (Evl.ev_var rfl)) (Evl.ev_var rfl) (by omega)) Evl.ev_c)
        (et_andV (Evl.et_B (ev_callV (Evl.ea_cons (Evl.ev_var rfl) (Evl.ea_cons (Evl.ev_var rfl) (Evl.ea_cons (Evl.ev_var rfl) Evl.ea_nil))) (sp_law_round (ez _ _ hb) b12 s0)))
          (Evl.et_B (ev_callV (Evl.ea_cons (Evl.ev_var rfl) (Evl.ea_cons (Evl.ev_var rfl) (Evl.ea_cons (Evl.ev_var rfl) Evl.ea_nil))) (sp_law_round (ez _ _ ha) a12 s0))))
    obtain ⟨kk, rfl, km, kl⟩ := pv
    have isS := step_least km kl
    have k0 : 0 < kk := by have := isS.lo; omega
    have k4 : kk ≤ 4000 := Int.le_trans isS.hi s1
    have wq := P6.red_wf wf k0
    have bz : (cut p.bl kk).length ≤ 12 := Nat.le_trans (List.length_filter_le _ _) b12
    have az : (cut p.ab kk).length ≤ 12 := Nat.le_trans (List.length_filter_le _ _) a12
    -- below, above
    refine Evl.q_asgU (xs := vI (cut p.bl kk)) (eu_tuple (el_T (ns := p.bl) (fun r => decide (r < kk)) V.int (Evl.ev_var rfl) (e1 _ _ hb) (zz b12) (fun x => rfl) (fun z Hz _ ez => et_lt (Evl.ev_var rfl) (Evl.ev_var rfl)) (fun z Hz _ ez _ => Evl.ev_var rfl))) fun qb H2 _ e2 hqb => ?_
    refine Evl.q_asgU (xs := vI (cut p.ab kk)) (eu_tuple (el_T (ns := p.ab) (fun r => decide (r < kk)) V.int (Evl.ev_var rfl) (e2 _ _ (e1 _ _ ha)) (zz a12) (fun x => rfl) (fun z Hz _ ez => et_lt (Evl.ev_var rfl) (Evl.ev_var rfl)) (fun z Hz _ ez _ => Evl.ev_var rfl))) fun qa H3 _ e3 hqa => ?_
    have hqb3 := e3 _ _ hqb
    have hm3 := e3 _ _ (e2 _ _ (e1 _ _ hm))
    -- odd
    refine Evl.q_asgL (xs := vI (topM (p.red kk))) (el_T (ns := p.ms) (fun n => !decide (n % kk ∈ cut p.ab kk)) V.int (Evl.ev_var rfl) hm3 (zz (by omega)) (fun x => rfl) (fun z Hz _ ez => Evl.et_test (ev_niT (ev_mod (ev_int1 (Evl.ev_var rfl)) (Evl.ev_var rfl) k0) (Evl.ev_var rfl) (ez _ _ hqa))) (fun z Hz _ ez _ => Evl.ev_var rfl)) fun o0 H4 _ e4 ho0 => ?_
    have tz : (topM (p.red kk)).length ≤ 6 := Nat.le_trans (List.length_filter_le _ _) m6
    refine q_forTI (j := 8) (ns := cut p.ab kk) (Evl.ev_var rfl) (e4 _ _ hqa) (fun i σ' H' => ∃ x o y, σ' = [some v, some (.int p.low), some (.int p.high), some (.ref pm), some (.int p.st), some (.ref qb), some (.ref qa), some (.int kk), x, some (.ref o), y, none, none, none, none, none] ∧ Ex H4 H' ∧ H' o = some (.lst (vI (topM (p.red kk) ++ ((cut p.ab kk).take i).flatMap (topC (p.red kk)))))) (fun H5 e5 => ⟨none, o0, none, rfl, e5, ?_⟩) (fun i σ' H' _ ⟨x, o, y, _, e5, _⟩ => e5 _ _ (e4 _ _ hqa)) ?_ ?_
    · rw [List.take_zero, List.flatMap_nil, List.append_nil]
      exact e5 _ _ ho0
    · rintro i z σ' H' hz ⟨x, o, y, rfl, e5, ho⟩
      have hm5 := e5 _ _ (e4 _ _ hm3)
      refine Evl.q_asg (v := .int (topF (p.red kk) z)) (ev_sub (ev_sub (Evl.ev_var rfl) Evl.ev_c) (ev_mod (ev_int1 (ev_sub (ev_sub (Evl.ev_var rfl) Evl.ev_c) (Evl.ev_var rfl))) (Evl.ev_var rfl) k0)) fun H6 e6 => ?_
      refine Evl.s_asgL (el_catV (ys := vI (topC (p.red kk) z)) (Evl.ev_var rfl) (e6 _ _ ho) (EvL.is (el_take (n := 1) (el_W3 (lo := topF (p.red kk) z) (hi := max p.low (topF (p.red kk) z - 9 * kk) - 1) (c := 0 - kk) (n := topN (p.red kk) z) (fun n => !decide (n ∈ p.ms)) V.int (Evl.ea_cons (Evl.ev_var rfl) (Evl.ea_cons (ev_sub (ev_max2 (Evl.ev_var rfl) (ev_sub (Evl.ev_var rfl) (ev_mul Evl.ev_c (Evl.ev_var rfl) (.inl ⟨by decide, by decide⟩)))) Evl.ev_c) (Evl.ea_cons (ev_sub Evl.ev_c (Evl.ev_var rfl)) Evl.ea_nil))) ⟨by omega, by omega, ?_⟩ ?_ (fun x => rfl) (fun n Hz _ ez => Evl.et_test (ev_niT (Evl.ev_var rfl) (Evl.ev_var rfl) (ez _ _ (e6 _ _ hm5)))) (fun n Hz _ ez _ => Evl.ev_var rfl))) ?_) ?_) fun o' H7 _ e7 ho' => ⟨_, o', _, rfl, (e5.trans e6).trans e7, ?_⟩
      · rw [Int.zero_sub]
        exact dn_size k0
      · show dnN _ _ _ < sizeLine
        have : dnN (topF (p.red kk) z) (max p.low (topF (p.red kk) z - 9 * kk) - 1) kk ≤ 10 := by
          rcases Nat.lt_or_ge 10 (dnN (topF (p.red kk) z) (max p.low (topF (p.red kk) z - 9 * kk) - 1) kk) with c | c
          · have := (dn_lt (i := 10) k0).mp c
            omega
          · exact c
        exact zz (by show dnN (topF (p.red kk) z) (max p.low (topF (p.red kk) z - 9 * kk) - 1) kk ≤ 12; omega)
      · rw [Int.zero_sub]
        exact (List.map_take ..).symm
      · have h1 := flat_len (q := p) (f := topC (p.red kk)) (fun r => topC_len) ((cut p.ab kk).take i)
        have h2 := topC_len (q := p.red kk) (r := z)
        rw [vI_len, vI_len, List.length_append, sizeLine_eq]
        rw [List.length_take] at h1
        omega
      · rw [flat_more hz, ← List.append_assoc, ← vI_app]
        exact ho'
    · rintro σ' H' ⟨x, o, y, rfl, e5, ho⟩
      rw [List.take_length] at ho
      have hqb5 := e5 _ _ (e4 _ _ hqb3)
      have hqa5 := e5 _ _ (e4 _ _ hqa)
      have lz : (topM (p.red kk) ++ (cut p.ab kk).flatMap (topC (p.red kk))).length ≤ 18 := by
        have h1 := flat_len (q := p) (f := topC (p.red kk)) (fun r => topC_len) (cut p.ab kk)
        rw [List.length_append]
        omega
      refine Evl.q_cut (M := fun σ2 H2 => ∃ o, σ2 = [some v, some (.int p.low), some (.int p.high), some (.ref pm), some (.int p.st), some (.ref qb), some (.ref qa), some (.int kk), x, some (.ref o), y, none, none, none, none, none] ∧ Ex H' H2 ∧ H2 o = some (.lst (vI (oddL (p.red kk))))) ?_ ?_
      · refine Evl.s_when (Evl.et_test (ev_neT (Evl.ev_var rfl) (Evl.ev_var rfl) hqb5 hqa5)) (fun c H6 e6 => ?_) (fun c H6 e6 => ⟨o, rfl, e6, ?_⟩)
        · have c1 : ¬ cut p.bl kk = cut p.ab kk := by simpa using c
          refine Evl.s_asgL (el_catV (ys := vI (topB (p.red kk))) (Evl.ev_var rfl) (e6 _ _ ho) (EvL.is (el_W2 (lo := p.low - kk) (hi := p.low) (fun n => !decide (decide (n % kk ∈ cut p.bl kk) = decide (n % kk ∈ cut p.ab kk))) V.int (Evl.ea_cons (ev_sub (Evl.ev_var rfl) (Evl.ev_var rfl)) (Evl.ea_cons (Evl.ev_var rfl) Evl.ea_nil)) ?_ (fun x => rfl) (fun n Hz _ ez => Evl.et_test (ev_neB (ev_inT (ev_mod (ev_int1 (Evl.ev_var rfl)) (Evl.ev_var rfl) k0) (Evl.ev_var rfl) (ez _ _ (e6 _ _ hqb5))) (ev_inT (ev_mod (ev_int1 (Evl.ev_var rfl)) (Evl.ev_var rfl) k0) (Evl.ev_var rfl) (ez _ _ (e6 _ _ hqa5))))) (fun n Hz _ ez _ => Evl.ev_var rfl)) ?_) ?_) fun o' H7 _ e7 ho' => ⟨o', rfl, e6.trans e7, ?_⟩
          · rw [sizeLine_eq]
            omega
          · unfold topB
            rw [show (p.low - (p.low - kk)).toNat = kk.toNat by congr 1; omega]
            simp only [bne_dec]
            rfl
          · have h1 := List.length_filter_le (fun n => decide (n % kk ∈ cut p.bl kk) != decide (n % kk ∈ cut p.ab kk)) (zR (p.low - kk) 1 kk.toNat)
            rw [zR_len] at h1
            rw [vI_len, vI_len, sizeLine_eq]
            show _ + (List.filter _ _).length ≤ _
            have h2 : (topB (p.red kk)).length ≤ kk.toNat := h1
            show _ + (topB (p.red kk)).length ≤ _
            omega
          · unfold oddL
            rw [if_neg (show ¬ (p.red kk).bl = (p.red kk).ab from c1), ← vI_app]
            exact ho'
        · have c1 : cut p.bl kk = cut p.ab kk := by simpa using c
          unfold oddL
          rw [if_pos (show (p.red kk).bl = (p.red kk).ab from c1), List.append_nil]
          exact e6 _ _ ho
      · rintro σ2 H6 ⟨o, rfl, e6, ho⟩
        have e06 : Ex H H6 := ((((e1.trans e2).trans e3).trans e4).trans e5).trans e6
        have hm6 := e6 _ _ (e5 _ _ (e4 _ _ hm3))
        have hqb6 := e6 _ _ hqb5
        have hqa6 := e6 _ _ hqa5
        refine Evl.q_when (et_eqI (ev_lenL (Evl.ev_var rfl) ho) Evl.ev_c) (fun c H7 e7 => ?_) (fun c H7 e7 => ?_)
        · -- everywhere as above
          have c1 : ((vI (oddL (p.red kk))).length : Int) = 0 := of_decide_eq_true c
          rw [vI_len] at c1
          have isT := odd_none wq m6 (len_nil c1)
          refine u_ret ⟨by decide, fun p0 hp0 => ?_⟩
          refine ⟨_, rfl, _, rfl, _, rfl, by show 6 ≤ sizeLine; decide, fun q hq => ?_⟩
          have x1 : Ex H7 (upd H7 p0 (.tup [])) := Evl.Ex.new hp0
          have x2 := Evl.Ex.new (o := .tup [.int 0, .int 0, .ref p0, .int kk, .ref qb, .ref qa]) hq
          exact k _ ⟨0, 0, [], kk, cut p.bl kk, cut p.ab kk⟩ _ (((e06.trans e7).trans x1).trans x2) ⟨q, p0, qb, qa, rfl, upd_same, x2 _ _ upd_same, x2 _ _ (x1 _ _ (e7 _ _ hqb6)), x2 _ _ (x1 _ _ (e7 _ _ hqa6))⟩ ⟨kk, isS, .inl ⟨isT, rfl⟩⟩
        · have c1 : ¬ ((vI (oddL (p.red kk))).length : Int) = 0 := of_decide_eq_false c
          rw [vI_len] at c1
          refine q_asgP (evp_addc (c := 1) (evp_maxV (Evl.ev_var rfl) (e7 _ _ ho) (by omega))) fun v8 H8 e8 pv => ?_
          obtain ⟨m, rfl, mm, ml⟩ := pv
          have isT := odd_some wq m6 mm ml
          have tl := isTop_le isT
          have hm8 := e8 _ _ (e7 _ _ hm6)
          have hqb8 := e8 _ _ (e7 _ _ hqb6)
          have hqa8 := e8 _ _ (e7 _ _ hqa6)
          -- some
          refine Evl.q_asgL (xs := vI (botM (p.red kk))) (el_T (ns := p.ms) (fun n => !decide (n % kk ∈ cut p.bl kk)) V.int (Evl.ev_var rfl) hm8 (zz (by omega)) (fun x => rfl) (fun z Hz _ ez => Evl.et_test (ev_niT (ev_mod (ev_int1 (Evl.ev_var rfl)) (Evl.ev_var rfl) k0) (Evl.ev_var rfl) (ez _ _ hqb8))) (fun z Hz _ ez _ => Evl.ev_var rfl)) fun u0 H9 _ e9 hu0 => ?_
          have uz : (botM (p.red kk)).length ≤ 6 := Nat.le_trans (List.length_filter_le _ _) m6
          refine q_forTI (j := 8) (ns := cut p.bl kk) (Evl.ev_var rfl) (e9 _ _ hqb8) (fun i σ' H' => ∃ x y u, σ' = [some v, some (.int p.low), some (.int p.high), some (.ref pm), some (.int p.st), some (.ref qb), some (.ref qa), some (.int kk), x, some (.ref o), y, some (.int (m + 1)), some (.ref u), none, none, none] ∧ Ex H9 H' ∧ H' u = some (.lst (vI (botM (p.red kk) ++ ((cut p.bl kk).take i).flatMap (botC (p.red kk) (m + 1)))))) (fun H10 e10 => ⟨_, _, u0, rfl, e10, ?_⟩) (fun i σ' H' _ ⟨x, y, u, _, e10, _⟩ => e10 _ _ (e9 _ _ hqb8)) ?_ ?_
          · rw [List.take_zero, List.flatMap_nil, List.append_nil]
            exact e10 _ _ hu0
          · rintro i z σ' H' hz ⟨x, y, u, rfl, e10, hu⟩
            have hm10 := e10 _ _ (e9 _ _ hm8)
            refine Evl.q_asg (v := .int (botF (p.red kk) z)) (ev_add (Evl.ev_var rfl) (ev_mod (ev_int1 (ev_sub (Evl.ev_var rfl) (Evl.ev_var rfl))) (Evl.ev_var rfl) k0)) fun H11 e11 => ?_
            refine Evl.s_asgL (el_catV (ys := vI (botC (p.red kk) (m + 1) z)) (Evl.ev_var rfl) (e11 _ _ hu) (EvL.is (el_take (n := 1) (el_W3 (lo := botF (p.red kk) z) (hi := min (m + 1) (botF (p.red kk) z + 9 * kk)) (c := kk) (n := botN (p.red kk) (m + 1) z) (fun n => !decide (n ∈ p.ms)) V.int (Evl.ea_cons (Evl.ev_var rfl) (Evl.ea_cons (ev_min2 (Evl.ev_var rfl) (ev_add (Evl.ev_var rfl) (ev_mul Evl.ev_c (Evl.ev_var rfl) (.inl ⟨by decide, by decide⟩)))) (Evl.ea_cons (Evl.ev_var rfl) Evl.ea_nil))) ⟨by omega, by omega, up_size k0⟩ ?_ (fun x => rfl) (fun n Hz _ ez => Evl.et_test (ev_niT (Evl.ev_var rfl) (Evl.ev_var rfl) (ez _ _ (e11 _ _ hm10)))) (fun n Hz _ ez _ => Evl.ev_var rfl))) (List.map_take ..).symm) ?_) fun u' H12 _ e12 hu' => ⟨_, _, u', rfl, (e10.trans e11).trans e12, ?_⟩
            · have : upN (botF (p.red kk) z) (min (m + 1) (botF (p.red kk) z + 9 * kk)) kk ≤ 9 := by
                rcases Nat.lt_or_ge 9 (upN (botF (p.red kk) z) (min (m + 1) (botF (p.red kk) z + 9 * kk)) kk) with c | c
                · have := (up_lt (i := 9) k0).mp c
                  omega
                · exact c
              exact zz (by show upN (botF (p.red kk) z) (min (m + 1) (botF (p.red kk) z + 9 * kk)) kk ≤ 12; omega)
            · have h1 := flat_len (q := p) (f := botC (p.red kk) (m + 1)) (fun r => botC_len) ((cut p.bl kk).take i)
              have h2 := botC_len (q := p.red kk) (t := m + 1) (r := z)
              rw [vI_len, vI_len, List.length_append, sizeLine_eq]
              rw [List.length_take] at h1
              omega
            · rw [flat_more hz, ← List.append_assoc, ← vI_app]
              exact hu'
          · rintro σ' H' ⟨x, y, u, rfl, e10, hu⟩
            rw [List.take_length] at hu
            have uz2 : (botM (p.red kk) ++ (cut p.bl kk).flatMap (botC (p.red kk) (m + 1))).length ≤ 18 := by
              have h1 := flat_len (q := p) (f := botC (p.red kk) (m + 1)) (fun r => botC_len) (cut p.bl kk)
              rw [List.length_append]
              omega
            refine q_asgP (evp_min (ns := someL (p.red kk) (m + 1) ++ [m + 1]) (EvL.is (el_catV (ys := vI [m + 1]) (Evl.ev_var rfl) hu (Evl.el_lst (Evl.ea_cons (Evl.ev_var rfl) Evl.ea_nil) (by show 1 ≤ 100000; decide)) ?_) vI_app) (by rw [List.length_append]; exact Nat.lt_add_left _ (by show 0 < 1; decide))) fun v11 H11 e11 pv => ?_
            · rw [vI_len, sizeLine_eq]
              show _ + 1 ≤ _
              omega
            obtain ⟨b, rfl, bm, bl⟩ := pv
            have isB := some_bot wq m6 bm bl tl
            refine u_ret ⟨_, rfl, _, rfl, ?_⟩
            have hm11 := e11 _ _ (e10 _ _ (e9 _ _ hm8))
            refine eu_tuple (xs := vI (within p.ms b (m + 1))) (el_T (ns := p.ms) (fun n => decide (b ≤ n ∧ n < m + 1)) V.int (Evl.ev_var rfl) hm11 (zz (by omega)) (fun x => rfl) (fun z Hz _ ez => Evl.et_is (Evl.et_test (ev_chain (Evl.ev_var rfl) (Evl.ev_var rfl) (Evl.ev_var rfl) (Evl.rv_I0 (g := fun i j => .bl (decide (i ≤ j)))) (Evl.rv_I0 (g := fun i j => .bl (decide (i < j)))))) (Bool.decide_and _ _).symm) (fun z Hz _ ez _ => Evl.ev_var rfl)) _ (Evl.Ex.refl _) _ fun pm' H12 _ e12 hm' => ?_
            refine ⟨_, rfl, _, rfl, _, rfl, by show 6 ≤ sizeLine; decide, fun q hq => ?_⟩
            have x2 := Evl.Ex.new (o := .tup [.int b, .int (m + 1), .ref pm', .int kk, .ref qb, .ref qa]) hq
            have e9' := ((e9.trans e10).trans e11).trans e12
            exact k _ ⟨b, m + 1, within p.ms b (m + 1), kk, cut p.bl kk, cut p.ab kk⟩ _ ((((e06.trans e7).trans e8).trans e9').trans x2) ⟨q, pm', qb, qa, rfl, upd_same, x2 _ _ hm', x2 _ _ (e9' _ _ hqb8), x2 _ _ (e9' _ _ hqa8)⟩ ⟨kk, isS, .inr ⟨m + 1, b, isT, isB, rfl⟩⟩
end
end Nv
set_option Elab.async false
set_option linter.all false
set_option maxRecDepth 100000
set_option maxHeartbeats 4000000
/-! NvT: _law_is_mixed. -/
namespace Nv
open PySem PySem.Spec PyProof.Rows L2
open Evl (Ev EvT EvL EvU EvA)
/-- what joined, common gave: the refusal's number in a tuple, or the lot -/
structure Told (K : PySem.W.Frag) (H : Hp) (t : V) (b : Bool) (l m : P6) : Prop where
  no : ∀ n, mixErr l m = some n → Tp H t [n]
  ok : mixErr l m = none → ∃ x q, t = .ref x ∧ LotA H x (aRaw K) q ∧ IsLeast (mixP (if b then 1 else 2) l m) q
theorem Told.mono {K : PySem.W.Frag} {H H' : Hp} {t : V} {b : Bool} {l m : P6} (h : Told K H t b l m) (e : Ex H H') : Told K H' t b l m := ⟨fun n hn => (h.no n hn).mono e, fun hn => let ⟨x, q, a, A, i⟩ := h.ok hn; ⟨x, q, a, A.mono e, i⟩⟩
def spIsMixed (K : PySem.W.Frag) : Sp := fun vs H Q _ => ∃ (t v1 v2 u1 u2 : V) (b : Bool) (p1 p2 l1 l2 : P6), vs = [t, .bl b, v1, v2, u1, u2] ∧ PartsV H v1 p1 ∧ PartsV H v2 p2 ∧ PartsV H u1 l1 ∧ PartsV H u2 l2 ∧ Sm p1 ∧ Sm p2 ∧ IsLeast p1 l1 ∧ IsLeast p2 l2 ∧ Told K H t b l1 l2 ∧ ∀ H2, Ex H H2 → Q (.bl true) H2
section
variable {K : PySem.W.Frag} {σ : L2.St} {H : Hp} {te ta tb tl : TE} {xs ns : List Int} {a : Addr} {m n i j : Nat} {tu tz : TS} {D : Ends}
theorem kCatA {X : Cx} (h : X.K = K) : OpR X (binaryOp .Add) (rCatA K) := h ▸ op_catA
theorem kSlA {X : Cx} (h : X.K = K) : SlR X (rSlA K) := h ▸ sl_tupA
/-- xs + ys of two lists that stand -/
theorem el_catVV {p r : Addr} {xs ys : List V} (ha : Ev ta σ H (.ref p)) (hp : H p = some (.lst xs)) (hb : Ev tb σ H (.ref r)) (hr : H r = some (.lst ys)) (hz : xs.length + ys.length ≤ sizeLine) : EvL (tOp rCat ta tb) σ H (xs ++ ys) := fun H1 e Q q =>
  ha H1 e _ fun H2 e2 => hb H2 (e.trans e2) _ fun H3 e3 => ⟨p, r, xs, ys, rfl, rfl, ((e.trans e2).trans e3) _ _ hp, ((e.trans e2).trans e3) _ _ hr, hz, fun l hl => q l _ (Ex.free (e2.trans e3) hl) (Ex.step (e2.trans e3) hl) upd_same⟩
theorem evp_slA (h : Ev ta σ H (.ref a)) (hx : H a = some (.tup (vI xs))) : EvP (tSl (rSlA K) ta tNoPart (tPart (tC (.int 1)))) σ H (fun v H1 => ∃ ns, Tp H1 v ns ∧ ns.length ≤ 1) := fun H1 e Q q =>
  h H1 e _ fun H2 e2 => ⟨1, rfl, a, vI xs, rfl, SqT.of ((e.trans e2) _ _ hx), fun w => by
    have w2 := w.2
    rw [show (some (1 : Int)) = some ((1 : Nat) : Int) from rfl, HT.sIx_nat, vI_len] at w2
    exact q _ H2 e2 ⟨xs, ⟨a, rfl, (e.trans e2) _ _ hx⟩, by omega⟩, fun _ p hp => q _ _ (Ex.step e2 hp) ⟨xs.take 1, ⟨p, rfl, by
    rw [show cutV (vI xs) none (some (1 : Int)) = vI (xs.take 1) from (cut_take (n := 1)).trans (List.map_take ..).symm]
    exact upd_same⟩, by rw [List.length_take]; omega⟩⟩
theorem evp_catA (ha : EvP ta σ H (fun v H1 => ∃ ns, Tp H1 v ns ∧ ns.length ≤ m)) (hb : EvP tb σ H (fun v H1 => ∃ ns, Tp H1 v ns ∧ ns.length ≤ n)) (hz : m + n ≤ 1000) : EvP (tOp (rCatA K) ta tb) σ H (fun v H1 => ∃ ns, Tp H1 v ns ∧ ns.length ≤ m + n) := fun H1 e Q q =>
  ha H1 e _ fun x H2 e2 ⟨ns, ⟨p, ex, hp⟩, zn⟩ => by
    subst ex
    exact hb H2 (e.trans e2) _ fun y H3 e3 ⟨ms, ⟨r, ey, hr⟩, zm⟩ => by
      subst ey
      refine ⟨p, r, vI ns, vI ms, rfl, rfl, SqT.of (e3 _ _ hp), SqT.of hr, by rw [vI_len, vI_len, sizeLine_eq]; omega, fun _ => q _ H3 (e2.trans e3) ⟨ms, ⟨r, rfl, hr⟩, by omega⟩, fun _ _ => q _ H3 (e2.trans e3) ⟨ns, ⟨p, rfl, e3 _ _ hp⟩, by omega⟩, fun _ _ o ho => q _ _ (Ex.step (e2.trans e3) ho) ⟨ns ++ ms, ⟨o, rfl, ?_⟩, by rw [List.length_append]; omega⟩⟩
      rw [← vI_app]
      exact upd_same
/-- over a list of ints that stands; over a new one -/
theorem s_forLI (h : Ev tl σ H (.ref a)) (hx : H a = some (.lst (vI ns))) (Pv : Nat → L2.St → Hp → Prop) (h0 : ∀ H1, Ex H H1 → Pv 0 σ H1) (hl : ∀ i σ' H', i ≤ ns.length → Pv i σ' H' → H' a = some (.lst (vI ns)))
    (hs : ∀ i z σ' H', ns[i]? = some z → Pv i σ' H' → tu { D with nx := Pv (i + 1), ct := Pv (i + 1), bk := D.nx } (σ'.set j (some (.int z))) H') (hd : ∀ σ' H', Pv ns.length σ' H' → D.nx σ' H') : tFor (iList K tl) (gName j) tu D σ H :=
  Evl.s_forL h (SqL.of hx) Pv h0 (fun i σ' H' hi p => SqL.of (hl i σ' H' (by rw [vI_len] at hi; exact hi) p)) (fun i x σ' H' hi p => by
    obtain ⟨z, hz, rfl⟩ := vI_get hi
    exact hs i z σ' H' hz p) (fun σ' H' p => hd σ' H' (by rw [vI_len] at p; exact p))
theorem q_forLI (h : Ev tl σ H (.ref a)) (hx : H a = some (.lst (vI ns))) (Pv : Nat → L2.St → Hp → Prop) (h0 : ∀ H1, Ex H H1 → Pv 0 σ H1) (hl : ∀ i σ' H', i ≤ ns.length → Pv i σ' H' → H' a = some (.lst (vI ns)))
    (hs : ∀ i z σ' H', ns[i]? = some z → Pv i σ' H' → tu { D with nx := Pv (i + 1), ct := Pv (i + 1), bk := tz D } (σ'.set j (some (.int z))) H') (hd : ∀ σ' H', Pv ns.length σ' H' → tz D σ' H') : tSeq (tFor (iList K tl) (gName j) tu) tz D σ H :=
  s_forLI (D := { D with nx := tz D }) h hx Pv h0 hl hs hd
theorem q_forNLI (h : EvL tl σ H (vI ns)) (k : ∀ a H1, Ex H H1 → H1 a = some (.lst (vI ns)) → ∃ Pv : Nat → L2.St → Hp → Prop, Pv 0 σ H1 ∧ (∀ i σ' H', Pv i σ' H' → H' a = some (.lst (vI ns))) ∧
      (∀ i z σ' H', ns[i]? = some z → Pv i σ' H' → tu { D with nx := Pv (i + 1), ct := Pv (i + 1), bk := tz D } (σ'.set j (some (.int z))) H') ∧ (∀ σ' H', Pv ns.length σ' H' → tz D σ' H')) : tSeq (tFor (iList K tl) (gName j) tu) tz D σ H :=
  h H (Evl.Ex.refl H) _ fun a H1 _ e ha => by
    obtain ⟨Pv, p0, pl, ps, pd⟩ := k a H1 e ha
    refine ⟨a, rfl, ⟨vI ns, SqL.of ha⟩, for_list (xs := vI ns) (D := { D with nx := tz D }) Pv p0 (fun i σ' H' _ p => SqL.of (pl i σ' H' p)) (fun i x σ' H' hi p => ?_) (fun σ' H' p => pd σ' H' (by rw [vI_len] at p; exact p))⟩
    obtain ⟨z, hz, rfl⟩ := vI_get hi
    exact ps i z σ' H' hz p
end
section
variable {P : Program} {w : World} {K : PySem.W.Frag} {mg : Str → Option Value} {base : Heap}
theorem ev_isiL (T : Txt K mg) {σ : L2.St} {H : Hp} {i : Nat} {x : Addr} {q : P6} (hs : σ[i]? = some (some (.ref x))) (A : LotA H x (aRaw K) q) : Ev (tCB (rIsi K) (tCons (tVar i) (tCons (tC (.ref (aLot K))) tNil))) σ H (.bl true) := fun H1 e Q q =>
  ⟨_, hs, .ref x, .ref (aLot K), .ref (aRaw K), .ref (aLot K), true, rfl, .own _, by
    obtain ⟨dx, pb, pa, qb, qa, pm, qm, hx, _⟩ := A
    exact .base (.ins (e _ _ hx) T.cRaw.cl T.i_at T.i_get T.i_tk T.i_mro), T.i_one, q H1 (Evl.Ex.refl _)⟩
theorem mix_flag {b : Bool} {p1 p2 l1 l2 q : P6} {n : Int} (w1 : p1.Wf) (w2 : p2.Wf) (i1 : IsLeast p1 l1) (i2 : IsLeast p2 l2) (iq : IsLeast (mixP (if b then 1 else 2) l1 l2) q) :
    decide (q.has n = decide ((if b then 1 else 2) ≤ b2i (p1.has n) + b2i (p2.has n))) = true := by
  refine decide_eq_true ?_
  rw [iq.has (mix_wf (i1.wf w1) (i2.wf w2)), mix_has (i1.wf w1) (i2.wf w2), i1.has w1, i2.has w2]
  rfl
theorem sc_law_is_mixed : FnScope ["_law_told", "_law_is_joined", "_law_parts", "_law_second", "_law_one", "_law_other", "_law_step", "_law_numbers", "_law_border", "_law_rests_here", "_law_more", "_law_number", "_law_there", "_law_rest"] ["_law_told", "_law_is_joined", "_law_parts", "_law_second", "_law_one", "_law_other"] (defScope sLIsMixed) := ⟨rfl, rfl, rfl, by decide +kernel, rfl, by decide +kernel, by decide +kernel⟩
theorem ok_law_is_mixed (T : Txt K mg) : Gd P w K mg base CX0 3 (He.ga K "_law_is_mixed") ["_law_told", "_law_is_joined", "_law_parts", "_law_second", "_law_one", "_law_other"] (spIsMixed K) := by
  have G__law_gcd : Gd P w K mg base CX0 1 (He.ga K "_law_gcd") ["_law_one", "_law_other"] spLawGcd := ok_law_gcd T
  have G__law_has : Gd P w K mg base CX0 1 (He.ga K "_law_has") ["_law_parts", "_law_number"] spLawHas := ok_law_has T
  have G__law_is_flag : Gd P w K mg base CX0 1 (He.ga K "_law_is_flag") ["_law_told", "_law_due"] spFlag := ok_law_is_flag T
  have G_is_in : Gd P w K mg base CX0 2 (He.ga K "is_in") ["lot", "thing"] (spHas K) := ok_is_in T
  refine Fn.good T.f__law_is_mixed sc_law_is_mixed (fun _ _ _ _ _ _ us hl => match us, hl with | [_, _, _, _, _, _], _ => rfl) (fun vs H Q E h => ?_) (fun cdv A outer s H vs Q E hr h => ?_)
  · obtain ⟨t, v1, v2, u1, u2, b, p1, p2, l1, l2, rfl, _⟩ := h
    rfl
  · obtain ⟨t, v1, v2, u1, u2, b, p1, p2, l1, l2, rfl, P1, P2, L1, L2', s1, s2, i1, i2, told, k⟩ := h
    refine ⟨_, (pss_cons (ps_set (i := 6) sc_law_is_mixed.nd rfl (Or.inr rfl) (pe_op op_fdiv (pe_op op_mul (pe_ix (kIxT (K := K) rfl) (pv 4) pe_int (fun _ _ => rfl)) (pe_ix (kIxT (K := K) rfl) (pv 5) pe_int (fun _ _ => rfl))) (pcl G__law_gcd (hr.mono (by decide)) T.g__law_gcd (pa_cons (pe_ix (kIxT (K := K) rfl) (pv 4) pe_int (fun _ _ => rfl)) (pa_cons (pe_ix (kIxT (K := K) rfl) (pv 5) pe_int (fun _ _ => rfl)) pa_nil)))))
      (pss_cons (ps_if (pt_cmpR op_gt (pv 6) pe_int (nomark _)) (pss_one (ps_ret (pe_cmpR (kEqD (K := K) rfl hr.units) (pv 0) (pe_tup (pa_cons pe_int pa_nil)) (nomark _)))) pss_nil)
      (pss_cons (ps_if (pt_cmpR op_gt (pe_op op_sub (pe_callB (call_max2 rfl) (by rfl) T.n_max (by decide +kernel) (pa_cons (pe_ix (kIxT (K := K) rfl) (pv 4) pe_int (fun _ _ => rfl)) (pa_cons (pe_ix (kIxT (K := K) rfl) (pv 5) pe_int (fun _ _ => rfl)) pa_nil))) (pe_callB (call_min2 rfl) (by rfl) T.n_min (by decide +kernel) (pa_cons (pe_ix (kIxT (K := K) rfl) (pv 4) pe_int (fun _ _ => rfl)) (pa_cons (pe_ix (kIxT (K := K) rfl) (pv 5) pe_int (fun _ _ => rfl)) pa_nil)))) pe_int (nomark _)) (pss_one (ps_ret (pe_cmpR (kEqD (K := K) rfl hr.units) (pv 0) (pe_tup (pa_cons pe_int pa_nil)) (nomark _)))) pss_nil)
      (pss_cons (ps_if (pt_not (pt_val (pe_callB call_isi (by rfl) T.n_isinstance (by decide +kernel) (pa_cons (pv 0) (pa_cons (pe_glob (v := .ref (aLot K)) rfl T.g_Lot rfl) pa_nil))))) (pss_one (ps_ret pe_bl)) pss_nil)
      (pss_cons (ps_set (i := 7) sc_law_is_mixed.nd rfl (Or.inl rfl) (pe_op op_cat (pe_callTy call_list_of (by rfl) T.n_list (by decide +kernel) (pa_cons (pe_ix (kIxT (K := K) rfl) (pv 2) pe_int (fun _ _ => rfl)) pa_nil)) (pe_callTy call_list_of (by rfl) T.n_list (by decide +kernel) (pa_cons (pe_ix (kIxT (K := K) rfl) (pv 3) pe_int (fun _ _ => rfl)) pa_nil))))
      (pss_cons (ps_for PassesOwn.never rfl (pi_tup (pe_tup (pa_cons (pe_ix (kIxT (K := K) rfl) (pv 2) pe_int (fun _ _ => rfl)) (pa_cons (pe_ix (kIxT (K := K) rfl) (pv 2) pe_int (fun _ _ => rfl)) (pa_cons (pe_ix (kIxT (K := K) rfl) (pv 3) pe_int (fun _ _ => rfl)) (pa_cons (pe_ix (kIxT (K := K) rfl) (pv 3) pe_int (fun _ _ => rfl)) (pa_cons pe_int pa_nil))))))) (pg_name (i := 8) sc_law_is_mixed.nd rfl (Or.inl rfl)) (pss_one (ps_set (i := 7) sc_law_is_mixed.nd rfl (Or.inl rfl) (pe_op op_cat (pv 7) (pe_lst (pa_cons (pe_op op_sub (pv 8) (pv 6)) (pa_cons (pe_op op_sub (pv 8) pe_int) (pa_cons (pv 8) (pa_cons (pe_op op_add (pv 8) pe_int) (pa_cons (pe_op op_add (pv 8) (pv 6)) pa_nil))))))))))
      (pss_cons (ps_set (i := 9) sc_law_is_mixed.nd rfl (Or.inl rfl) (pe_op (kCatA (K := K) rfl) (pe_op (kCatA (K := K) rfl) (pe_op (kCatA (K := K) rfl) (pe_slice (kSlA (K := K) rfl) (pe_ix (kIxT (K := K) rfl) (pv 2) pe_int (fun _ _ => rfl)) po_none (po_some pe_int)) (pe_slice (kSlA (K := K) rfl) (pe_ix (kIxT (K := K) rfl) (pv 2) pe_int (fun _ _ => rfl)) po_none (po_some pe_int))) (pe_slice (kSlA (K := K) rfl) (pe_ix (kIxT (K := K) rfl) (pv 3) pe_int (fun _ _ => rfl)) po_none (po_some pe_int))) (pe_slice (kSlA (K := K) rfl) (pe_ix (kIxT (K := K) rfl) (pv 3) pe_int (fun _ _ => rfl)) po_none (po_some pe_int))))
      (pss_cons (ps_set (i := 10) sc_law_is_mixed.nd rfl (Or.inl rfl) (pe_lst pa_nil))
      (pss_cons (ps_for PassesOwn.never rfl (pi_list (pv 7)) (pg_name (i := 11) sc_law_is_mixed.nd rfl (Or.inr rfl)) (pss_one (ps_set (i := 10) sc_law_is_mixed.nd rfl (Or.inl rfl) (pe_op op_cat (pv 10) (pe_lc (own := [("_law_rest", 13)]) (g := gName 13) rfl sc_law_is_mixed.nd (pi_tup (pv 9)) (blkOk_by (N := ["_law_told", "_law_is_joined", "_law_parts", "_law_second", "_law_one", "_law_other", "_law_step", "_law_numbers", "_law_border", "_law_rests_here", "_law_more", "_law_number", "_law_there", "_law_rest"]) (sc := defScope sLIsMixed) (by decide +kernel)) (fun _ _ _ _ _ => pg_name (i := 13) sc_law_is_mixed.nd rfl (Or.inl rfl)) (fun _ _ _ _ _ => pts_nil) (fun _ _ _ _ _ => (pe_op op_add (pv 11) (pe_op op_mod (pe_callTy call_int1 (by rfl) T.n_int (by decide +kernel) (pa_cons (pe_op op_sub (pv 13) (pv 11)) pa_nil)) (pv 6)))))))))
      (pss_cons (ps_for PassesOwn.never rfl (pi_list (pe_op op_cat (pv 7) (pv 10))) (pg_name (i := 11) sc_law_is_mixed.nd rfl (Or.inr rfl)) (pss_cons (ps_set (i := 12) sc_law_is_mixed.nd rfl (Or.inl rfl) (pe_op op_addB (pcl G__law_has (hr.mono (by decide)) T.g__law_has (pa_cons (pv 2) (pa_cons (pv 11) pa_nil))) (pcl G__law_has (hr.mono (by decide)) T.g__law_has (pa_cons (pv 3) (pa_cons (pv 11) pa_nil)))))
      (pss_one (ps_if (pt_not (pt_val (pcl G__law_is_flag (hr.mono (by decide)) T.g__law_is_flag (pa_cons (pcl G_is_in (hr.mono (by decide)) T.g_is_in (pa_cons (pv 0) (pa_cons (pv 11) pa_nil))) (pa_cons (pe_cmpR op_ge (pv 12) (pe_ifExp (pt_val (pv 1)) pe_int pe_int) (nomark _)) pa_nil))))) (pss_one (ps_ret pe_bl)) pss_nil))))
      (pss_one (ps_ret pe_bl)))))))))))), ?_⟩
    have w1 := s1.wf
    have w2 := s2.wf
    have st1 := i1.st_le
    have st2 := i2.st_le
    have m1 := s1.st
    have m2 := s2.st
    have c0 := lcmI_pos (a := l1.st) (b := l2.st) (by omega) (by omega)
    have gf := gcd_few (a := l1.st) (b := l2.st) (by omega)
    obtain ⟨q1, pm1, pb1, pa1, e1v, h1, hm1, hb1, ha1⟩ := id P1
    obtain ⟨q2, pm2, pb2, pa2, e2v, h2, hm2, hb2, ha2⟩ := id P2
    obtain ⟨q3, pm3, pb3, pa3, e3v, h3, hm3, hb3, ha3⟩ := L1
    obtain ⟨q4, pm4, pb4, pa4, e4v, h4, hm4, hb4, ha4⟩ := L2'
    subst e3v
    subst e4v
    refine Evl.q_asg (v := .int (lcmI l1.st l2.st)) (ev_fdiv (ev_mul (ev_at 3 rfl h3 rfl) (ev_at 3 rfl h4 rfl) (.inl ⟨by omega, by omega⟩)) (ev_callV (Evl.ea_cons (ev_at 3 rfl h3 rfl) (Evl.ea_cons (ev_at 3 rfl h4 rfl) Evl.ea_nil)) (sp_law_gcd (by omega) (by omega) (by omega) (by omega))) ⟨by omega, by omega⟩) fun H1 e1 => ?_
    refine Evl.q_when (et_gt (Evl.ev_var rfl) Evl.ev_c) (fun c H2 e2 => ?_) (fun c H2 e2 => ?_)
    · obtain ⟨a, ea, ha⟩ := (told.mono (e1.trans e2)).no 4000 (mix_hi (of_decide_eq_true c))
      subst ea
      exact s_retE (ev_eqU (ys := [4000]) (Evl.ev_var rfl) (Evl.eu_tup (Evl.ea_cons Evl.ev_c Evl.ea_nil) (by decide)) ha) fun H3 e3 => k H3 ((e1.trans e2).trans e3)
    have c1 : ¬ 4000 < lcmI l1.st l2.st := of_decide_eq_false c
    have e2 := e1.trans e2
    refine Evl.q_when (et_gt (ev_sub (ev_max2 (ev_at 1 rfl (e2 _ _ h3) rfl) (ev_at 1 rfl (e2 _ _ h4) rfl)) (ev_min2 (ev_at 0 rfl (e2 _ _ h3) rfl) (ev_at 0 rfl (e2 _ _ h4) rfl))) Evl.ev_c) (fun c H3 e3 => ?_) (fun c H3 e3 => ?_)
    · obtain ⟨a, ea, ha⟩ := (told.mono (e2.trans e3)).no 100000 (mix_far c1 (of_decide_eq_true c))
      subst ea
      exact s_retE (ev_eqU (ys := [100000]) (Evl.ev_var rfl) (Evl.eu_tup (Evl.ea_cons Evl.ev_c Evl.ea_nil) (by decide)) ha) fun H4 e4 => k H4 ((e2.trans e3).trans e4)
    have c2 : ¬ 100000 < max l1.high l2.high - min l1.low l2.low := of_decide_eq_false c
    have e3 := e2.trans e3
    obtain ⟨x, q, rfl, LA, iq⟩ := told.ok (mix_ok c1 c2)
    have isL : ∀ {H'}, Ex H H' → LotV K H' (.ref x) q := fun e => LotV.mono ⟨x, _, rfl, T.cRaw, LA⟩ e
    subst e1v
    subst e2v
    refine Evl.q_when (ev_notV (b := true) (ev_isiL T rfl (LA.mono e3))) (fun c => absurd c (by decide)) (fun _ H4 e4 => ?_)
    have e4 := e3.trans e4
    refine Evl.q_asgL (xs := vI (p1.ms ++ p2.ms)) (EvL.is (el_cat (el_listT (ev_at 2 rfl (e4 _ _ h1) rfl) (e4 _ _ hm1)) (el_listT (ev_at 2 rfl (e4 _ _ h2) rfl) (e4 _ _ hm2)) (by rw [vI_len, vI_len, sizeLine_eq]; have := s1.ms; have := s2.ms; omega)) vI_app) fun o0 H5 _ e5 ho0 => ?_
    have e5' := e4.trans e5
    have lz : (p1.ms ++ p2.ms).length ≤ 12 := by rw [List.length_append]; have := s1.ms; have := s2.ms; omega
    refine q_forTN (ns := [p1.low, p1.high, p2.low, p2.high, 0]) (Evl.eu_tup (Evl.ea_cons (ev_at 0 rfl (e5' _ _ h1) rfl) (Evl.ea_cons (ev_at 1 rfl (e5' _ _ h1) rfl) (Evl.ea_cons (ev_at 0 rfl (e5' _ _ h2) rfl) (Evl.ea_cons (ev_at 1 rfl (e5' _ _ h2) rfl) (Evl.ea_cons Evl.ev_c Evl.ea_nil))))) (by show 5 ≤ 100000; decide)) fun a6 H6 e6 ha6 => ⟨fun i σ' H' => ∃ y o ns, σ' = [some (.ref x), some (.bl b), some (.ref q1), some (.ref q2), some (.ref q3), some (.ref q4), some (.int (lcmI l1.st l2.st)), some (.ref o), y, none, none, none, none, none] ∧ Ex H6 H' ∧ H' o = some (.lst (vI ns)) ∧ ns.length ≤ 12 + 5 * i, ⟨none, o0, _, rfl, Evl.Ex.refl _, e6 _ _ ho0, by omega⟩, ?_, ?_, ?_⟩
    · rintro i σ' H' ⟨y, o, ns, _, e7, _⟩
      exact e7 _ _ ha6
    · rintro i z σ' H' hz ⟨y, o, ns, rfl, e7, ho, nz⟩
      have hi : i < 5 := (List.getElem?_eq_some_iff.mp hz).1
      refine Evl.s_asgL (xs := vI (ns ++ [z - lcmI l1.st l2.st, z - 1, z, z + 1, z + lcmI l1.st l2.st])) (EvL.is (el_catV (ys := vI [z - lcmI l1.st l2.st, z - 1, z, z + 1, z + lcmI l1.st l2.st]) (Evl.ev_var rfl) ho (Evl.el_lst (Evl.ea_cons (ev_sub (Evl.ev_var rfl) (Evl.ev_var rfl)) (Evl.ea_cons (ev_sub (Evl.ev_var rfl) Evl.ev_c) (Evl.ea_cons (Evl.ev_var rfl) (Evl.ea_cons (ev_add (Evl.ev_var rfl) Evl.ev_c) (Evl.ea_cons (ev_add (Evl.ev_var rfl) (Evl.ev_var rfl)) Evl.ea_nil))))) (by show 5 ≤ 100000; decide)) ?_) vI_app) fun o' H8 _ e8 ho' => ⟨_, o', _, rfl, e7.trans e8, ho', ?_⟩
      · rw [vI_len, vI_len, sizeLine_eq]
        show _ + 5 ≤ _
        omega
      · rw [List.length_append]
        show _ + 5 ≤ _
        omega
    · rintro σ' H7 ⟨y, o, ns, rfl, e7, ho, nz⟩
      have nz : ns.length ≤ 37 := nz
      have e7' := (e5'.trans e6).trans e7
      refine q_asgP (evp_catA (m := 3) (n := 1) (evp_catA (m := 2) (n := 1) (evp_catA (m := 1) (n := 1) (evp_slA (ev_at 4 rfl (e7' _ _ h1) rfl) (e7' _ _ hb1)) (evp_slA (ev_at 5 rfl (e7' _ _ h1) rfl) (e7' _ _ ha1)) (by decide)) (evp_slA (ev_at 4 rfl (e7' _ _ h2) rfl) (e7' _ _ hb2)) (by decide)) (evp_slA (ev_at 5 rfl (e7' _ _ h2) rfl) (e7' _ _ ha2)) (by decide)) fun v9 H8 e8 pv => ?_
      obtain ⟨rs, ⟨pr, rfl, hpr⟩, rz⟩ := pv
      have rz : rs.length ≤ 4 := rz
      refine Evl.q_asgL (xs := vI []) (Evl.el_lst Evl.ea_nil (by decide)) fun o1 H9 _ e9 ho1 => ?_
      have e9' := (e7'.trans e8).trans e9
      refine q_forLI (j := 11) (Evl.ev_var rfl) (e9 _ _ (e8 _ _ ho)) (fun i σ' H' => ∃ y2 o2 ms, σ' = [some (.ref x), some (.bl b), some (.ref q1), some (.ref q2), some (.ref q3), some (.ref q4), some (.int (lcmI l1.st l2.st)), some (.ref o), y, some (.ref pr), some (.ref o2), y2, none, none] ∧ Ex H9 H' ∧ H' o2 = some (.lst (vI ms)) ∧ ms.length ≤ 4 * i) (fun H10 e10 => ⟨none, o1, [], rfl, e10, e10 _ _ ho1, Nat.zero_le _⟩) (fun i σ' H' _ ⟨y2, o2, ms, _, e10, _⟩ => e10 _ _ (e9 _ _ (e8 _ _ ho))) ?_ ?_
      · rintro i z σ' H' hz ⟨y2, o2, ms, rfl, e10, ho2, mz⟩
        have hi := (List.getElem?_eq_some_iff.mp hz).1
        refine Evl.s_asgL (xs := vI (ms ++ rs.map fun r => z + (r - z) % lcmI l1.st l2.st)) (EvL.is (el_catV (ys := vI (rs.map fun r => z + (r - z) % lcmI l1.st l2.st)) (Evl.ev_var rfl) ho2 (EvL.is (el_T (ns := rs) (fun _ => true) (fun r => .int (z + (r - z) % lcmI l1.st l2.st)) (Evl.ev_var rfl) (e10 _ _ (e9 _ _ hpr)) (by rw [sizeLine_eq]; omega) (fun x => rfl) (fun r Hz _ ez => et_yes) (fun r Hz _ ez _ => ev_add (Evl.ev_var rfl) (ev_mod (ev_int1 (ev_sub (Evl.ev_var rfl) (Evl.ev_var rfl))) (Evl.ev_var rfl) c0))) (by rw [filter_yes]; unfold vI; rw [List.map_map]; rfl)) ?_) vI_app) fun o' H11 _ e11 ho' => ⟨_, o', _, rfl, e10.trans e11, ho', ?_⟩
        · rw [vI_len, vI_len, List.length_map, sizeLine_eq]
          omega
        · rw [List.length_append, List.length_map]
          omega
      · rintro σ' H10 ⟨y2, o2, ms, rfl, e10, ho2, mz⟩
        have e10' := e9'.trans e10
        refine q_forNLI (ns := ns ++ ms) (EvL.is (el_catVV (ys := vI ms) (xs := vI ns) (Evl.ev_var rfl) (e10 _ _ (e9 _ _ (e8 _ _ ho))) (Evl.ev_var rfl) ho2 ?_) vI_app) fun a11 H11 e11 ha11 => ⟨fun i σ' H' => ∃ y3 y4, σ' = [some (.ref x), some (.bl b), some (.ref q1), some (.ref q2), some (.ref q3), some (.ref q4), some (.int (lcmI l1.st l2.st)), some (.ref o), y, some (.ref pr), some (.ref o2), y3, y4, none] ∧ Ex H11 H', ⟨_, _, rfl, Evl.Ex.refl _⟩, ?_, ?_, ?_⟩
        · rw [vI_len, vI_len, sizeLine_eq]
          omega
        · rintro i σ' H' ⟨y3, y4, _, e12⟩
          exact e12 _ _ ha11
        · rintro i z σ' H' hz ⟨y3, y4, rfl, e12⟩
          have e12' := (e10'.trans e11).trans e12
          refine Evl.q_asg (ev_addB (ev_callV (Evl.ea_cons (Evl.ev_var rfl) (Evl.ea_cons (Evl.ev_var rfl) Evl.ea_nil)) (sp_law_has (P1.mono e12') w1)) (ev_callV (Evl.ea_cons (Evl.ev_var rfl) (Evl.ea_cons (Evl.ev_var rfl) Evl.ea_nil)) (sp_law_has (P2.mono e12') w2))) fun H13 e13 => ?_
          have e13' := e12'.trans e13
          refine Evl.s_when (b := false) (Evl.et_is (ev_notV (ev_callV (Evl.ea_cons (ev_callV (Evl.ea_cons (Evl.ev_var rfl) (Evl.ea_cons (Evl.ev_var rfl) Evl.ea_nil)) (sp_has (n := z) (isL e13') ?_)) (Evl.ea_cons (Evl.ev_op (Evl.ev_var rfl) (Evl.ev_if (v := .int (if b then 1 else 2)) (b := b) (Evl.et_test (Evl.ev_var rfl)) (fun e => ?_) (fun e => ?_)) Evl.rv_I0) Evl.ea_nil)) sp_flag)) ?_) (fun c => absurd c (by decide)) (fun _ H14 e14 => ⟨_, _, rfl, (e12.trans e13).trans e14⟩)
          · exact (iq.wf (mix_wf (i1.wf w1) (i2.wf w2))).pos
          · subst e
            exact Evl.ev_c
          · subst e
            exact Evl.ev_c
          · rw [mix_flag w1 w2 i1 i2 iq]
            rfl
        · rintro σ' H' ⟨y3, y4, rfl, e12⟩
          exact s_retE Evl.ev_c fun H13 e13 => k H13 (((e10'.trans e11).trans e12).trans e13)
end
end Nv
set_option Elab.async false
set_option linter.all false
set_option maxRecDepth 100000
set_option maxHeartbeats 4000000
/-! NvU: the law. -/
namespace Nv
open PySem PySem.Spec PyProof.Rows L2
open Evl (Ev EvT EvL EvU EvA)
def spLaw (K : PySem.W.Frag) : Sp := fun vs H Q _ => ∃ (a : Addr) (ns : List Int), vs = [.ref a] ∧ SqL K H a (vI ns) ∧ ns.length ≤ 63 ∧ ∀ H', Q (.bl true) H'
theorem Dr.any {p g s : Addr} {H H' : Hp} {a : Addr} {o : HO} (d : Dr p g s H H') (h : H a = some o) (n : ∀ xs, o ≠ .lst xs) : H' a = some o := d.ew a _ (fun e => by
    obtain ⟨gs, ss, t, m, h1, _⟩ := d.p0.ex
    rw [e, h1] at h
    exact n _ (Option.some.inj h).symm) (fun e => by
    obtain ⟨gs, ss, t, m, _, h1, _⟩ := d.p0.ex
    rw [e, h1] at h
    exact n _ (Option.some.inj h).symm) h
theorem LotV.dr {K : PySem.W.Frag} {p g s : Addr} {H H' : Hp} {v : V} {l : P6} (h : LotV K H v l) (d : Dr p g s H H') : LotV K H' v l := by
  obtain ⟨x, C, rfl, c, dx, pb, pa, qb, qa, pm, qm, hx, h2, h3, h4, h5, h6, h7⟩ := h
  exact ⟨x, C, rfl, c, dx, pb, pa, qb, qa, pm, qm, d.any hx (fun _ e => by cases e), d.any h2 (fun _ e => by cases e), d.any h3 (fun _ e => by cases e), d.any h4 (fun _ e => by cases e), d.any h5 (fun _ e => by cases e), d.any h6 (fun _ e => by cases e), d.any h7 (fun _ e => by cases e)⟩
section
variable {K : PySem.W.Frag} {σ : L2.St} {H : Hp} {te ta tb : TE} {p g s : Addr} {i : Nat} {ns : List Int} {v u : V} {q l m : P6} {n : Int} {E : XK}
theorem sp_pot {a : Addr} (h : SqL K H a (vI ns)) (hz : ns.length ≤ 63) : SpP (spPot K) [.ref a] H (fun v H2 => ∃ p g s, v = .ref p ∧ Pt p g s H2) := fun H1 e Q k E => ⟨a, ns, rfl, Evl.ex_l e h, hz, fun p g s H2 e2 pt => k _ H2 e2 ⟨p, g, s, rfl, pt⟩⟩
theorem evd_great (hs : σ[i]? = some (some (.ref p))) : EvD p g s (tCall spGreat [] E (tCons (tVar i) tNil)) σ H (fun v H2 => ∃ q, PartsV H2 v q ∧ Sm q) := fun H1 d Q k => ⟨_, hs, p, g, s, rfl, d.p1, fun v q H2 d2 L sm => k v H2 d2 ⟨q, L, sm⟩⟩
theorem evi_far (hs : σ[i]? = some (some (.ref p))) : EvI p g s (tCall spFar [] E (tCons (tVar i) tNil)) σ H (fun _ => True) := fun H1 d Q k => ⟨_, hs, p, g, s, rfl, d.p1, fun n H2 d2 => k _ H2 d2 ⟨n, rfl, trivial⟩⟩
theorem evi_anyU (hs : σ[i]? = some (some (.ref p))) (h : ∀ H1, Dr p g s H H1 → EvU te σ H1 (vI ns)) (n0 : 0 < ns.length) (n1 : ns.length < 1000) : EvI p g s (tCall spAny [] E (tCons (tVar i) (tCons te tNil))) σ H (fun _ => True) := fun H1 d Q k =>
  ⟨_, hs, h H1 d H1 (Evl.Ex.refl _) _ fun a H2 _ e ha => ⟨p, g, s, _, ns, rfl, d.p1.ex' e, ⟨a, rfl, ha⟩, n0, n1, fun n H3 d3 _ => k _ H3 ((Dr.of d.p1 e).trans d3) ⟨n, rfl, trivial⟩⟩⟩
theorem eu_by : EvU (tOp (rCatT K) (tOp (rRepT K) (tTup (tCons (tC (.int 0)) tNil)) (tC (.int 12))) (tTup (tCons (tC (.int 99000)) (tCons (tC (.int 100000)) (tCons (tUn (rU fun i => .int (-i)) (tC (.int 100000))) (tCons (tC (.int 96000)) tNil)))))) σ H (vI (List.replicate 12 0 ++ [99000, 100000, -100000, 96000])) := fun H1 e Q k => by
  refine u_op (u_op ((Evl.eu_tup (Evl.ea_cons Evl.ev_c Evl.ea_nil) (by decide) : EvU (tTup (tCons (tC (.int 0)) tNil)) σ H1 [V.int 0]) H1 (Evl.Ex.refl _) _ fun a H2 _ e2 ha => ?_))
  refine ⟨a, 12, [V.int 0], rfl, rfl, SqT.of ha, by decide, by decide, by decide, by decide, fun b hb => ?_⟩
  have e3 := e2.trans (Evl.Ex.new (o := .tup (List.replicate (12 : Int).toNat [V.int 0]).flatten) hb)
  refine (Evl.eu_tup (Evl.ea_cons Evl.ev_c (Evl.ea_cons Evl.ev_c (Evl.ea_cons (Evl.ev_un Evl.ev_c Evl.ru_neg) (Evl.ea_cons Evl.ev_c Evl.ea_nil)))) (by decide) : EvU (tTup (tCons (tC (.int 99000)) (tCons (tC (.int 100000)) (tCons (tUn (rU fun i => .int (-i)) (tC (.int 100000))) (tCons (tC (.int 96000)) tNil))))) σ H1 [V.int 99000, V.int 100000, V.int (-100000), V.int 96000]) _ e3 _ fun c H4 _ e4 hc => ?_
  refine ⟨b, c, _, _, rfl, rfl, SqT.of (e4 _ _ upd_same), SqT.of hc, by decide, by decide, (fun z => by cases z), fun _ r hr => k r _ (Ex.free (e3.trans e4) hr) (Ex.step (e3.trans e4) hr) ?_⟩
  rw [upd_same]
  rfl
theorem sp_moved (L : PartsV H v q) (sm : Sm q) : SpP spMoved [v, .int n] H (fun u H2 => ∃ r, PartsV H2 u r ∧ Sm r) := fun H1 e Q k E => ⟨v, q, n, rfl, L.mono e, sm, fun u r H2 e2 L2 s2 => k u H2 e2 ⟨r, L2, s2⟩⟩
theorem sp_law_lot (L : PartsV H v q) (sm : Sm q) : SpP (spLawLot K) [v] H (fun u H2 => ∃ x l, u = .ref x ∧ LotA H2 x (aLot K) l ∧ IsLeast q l) := fun H1 e Q k E => ⟨v, q, rfl, L.mono e, sm, fun x l H2 e2 A i => k _ H2 e2 ⟨x, l, rfl, A, i⟩⟩
theorem sp_law_least (L : PartsV H v q) (sm : Sm q) : SpP spLawLeast [v] H (fun u H2 => ∃ l, PartsV H2 u l ∧ IsLeast q l) := fun H1 e Q k E => ⟨v, q, rfl, L.mono e, sm, fun u l H2 e2 P i => k _ H2 e2 ⟨l, P, i⟩⟩
theorem sp_six (L : LotV K H v l) : SpP (spSix K) [v] H (fun u H2 => PartsV H2 u l) := fun H1 e Q k E => ⟨v, l, rfl, L.mono e, fun u H2 e2 P => k u H2 e2 P⟩
theorem sp_law_mix {b : Bool} (t : Two K H v u l m) : SpP (spLawMix K) [.bl b, v, u] H (fun w H2 => Told K H2 w b l m) := fun H1 e Q k E => ⟨b, v, u, l, m, rfl, t.mono e, fun n p H2 hn e2 hp => k _ H2 e2 ⟨fun n' hn' => by
    rw [hn] at hn'
    cases hn'
    exact ⟨p, rfl, hp⟩, (fun h => by rw [hn] at h; cases h)⟩, fun hn x q H2 e2 A i => k _ H2 e2 ⟨(fun n h => by rw [hn] at h; cases h), fun _ => ⟨x, q, rfl, A, i⟩⟩⟩
theorem sp_is_mixed {t v1 v2 u1 u2 : V} {b : Bool} {p1 p2 l1 l2 : P6} (P1 : PartsV H v1 p1) (P2 : PartsV H v2 p2) (L1 : PartsV H u1 l1) (L2 : PartsV H u2 l2) (s1 : Sm p1) (s2 : Sm p2) (i1 : IsLeast p1 l1) (i2 : IsLeast p2 l2) (told : Told K H t b l1 l2) :
    SpP (spIsMixed K) [t, .bl b, v1, v2, u1, u2] H (fun u _ => u = .bl true) := fun H1 e Q k E => ⟨t, v1, v2, u1, u2, b, p1, p2, l1, l2, rfl, P1.mono e, P2.mono e, L1.mono e, L2.mono e, s1, s2, i1, i2, told.mono e, fun H2 e2 => k _ H2 e2 rfl⟩
theorem evp_parts (hs : σ[i]? = some (some v)) (L : PartsV H v q) : EvP (tVar i) σ H (fun w H1 => PartsV H1 w q) := fun H1 e Q k => ⟨v, hs, k v H1 (Evl.Ex.refl _) (L.mono e)⟩
theorem evd_eq0 {A : Int → Prop} (h : EvI p g s te σ H A) : EvD p g s (tOp rEq te (tC (.int 0))) σ H (fun v _ => ∃ b, v = .bl b) := fun H1 d Q k => h H1 d _ fun v H2 d2 ⟨n, e, _⟩ => by
  subst e
  exact ⟨rfl, k _ H2 d2 ⟨_, rfl⟩⟩
theorem ev_neI (ha : Ev ta σ H (.int n)) {k : Int} (hb : Ev tb σ H (.int k)) : Ev (tOp rNe ta tb) σ H (.bl (!decide (n = k))) :=
  Evl.ev_is (Evl.ev_op ha hb (Evl.rv_ne rfl)) (by rw [decide_eq_decide.mpr (⟨fun z => V.int.inj z, fun z => congrArg V.int z⟩ : V.int n = V.int k ↔ n = k)])
end
theorem optI_scal {o : Option Int} {n : Int} : scal (optI o) (.int n) = true := by cases o <;> rfl
theorem optI_is {o : Option Int} {n : Int} {b : Bool} (h : o = some (n - 1 + 1) ↔ b = true) : decide (optI o = .int n) = b := by
  rw [show n - 1 + 1 = n by omega] at h
  have : optI o = .int n ↔ b = true := by
    rw [← h]
    cases o with
    | none => exact ⟨(fun e => by cases e), (fun e => by cases e)⟩
    | some m => exact ⟨fun e => congrArg some (V.int.inj e), fun e => congrArg V.int (Option.some.inj e)⟩
  cases b with
  | true => exact decide_eq_true (this.mpr rfl)
  | false => exact decide_eq_false fun e => by cases this.mp e
section
variable {P : Program} {w : World} {K : PySem.W.Frag} {mg : Str → Option Value} {base : Heap} {C fI : Addr} {fd : FuncData}
/-- of a def that is given -/
theorem FunD.goodF {x qual : Str} {st : Stmt} {f : Addr} {N ps : List Str} {k : Nat} {sp : Sp} (F : FunD K x qual (defArgs st) (defBody st) (defScope st) [] [] f fd) (S : FnScope N ps (defScope st)) (len : ∀ vs H Q E, sp vs H Q E → vs.length = ps.length)
    (hbody : ∀ (cdv : Value) (A : Around) (outer : List Env) (s : Shared) (H : Hp) (vs : List V) (Q : VK) (E : XK), Room k (A.deeper (envOfC qual (defScope st) s.heap.objs.size f cdv)) → sp vs H Q E →
      ∃ t, PSs (cxOf CX0 P w K mg base N qual (defScope st) f cdv A outer s H E).nox (defBody st) t ∧ t { nx := fun _ H' => Q .non H', rt := Q } (start N vs) H) : FnOk P w K mg base CX0 (k + 1) f fd ps sp := by
  refine F.ok S len fun cdv A outer s H vs Q E hr h => ?_
  obtain ⟨t, h1, h2⟩ := hbody cdv A outer s H vs Q E hr h
  exact ⟨t, h1.nox, h2⟩
theorem sc_law : FnScope ["_law_script", "_law_pot_here", "_law_parts", "_law_second", "_law_by", "_law_lot_here", "_law_other", "_law_one", "_law_two", "_law_low", "_law_high", "_law_members", "_law_step", "_law_below", "_law_above", "_law_number", "_law_up", "_law_is_joined", "_law_told", "_law_rest"] ["_law_script"] (defScope sLaw) := ⟨rfl, rfl, rfl, by decide +kernel, rfl, by decide +kernel, by decide +kernel⟩
theorem ok_law (T : Txt K mg) (TM : TmTxt P K mg C fI) (F : FunD K "law" "law" (defArgs sLaw) (defBody sLaw) (defScope sLaw) [] [] (He.ga K "law") fd) : FnOk P w K mg base CX0 10 (He.ga K "law") fd ["_law_script"] (spLaw K) := by
  have G__law_pot : Gd P w K mg base CX0 1 (He.ga K "_law_pot") ["_law_script"] (spPot K) := ok_law_pot T
  have G__law_draw : Gd P w K mg base CX0 1 (He.ga K "_law_draw") ["_law_pot_here", "_law_many"] spDraw := ok_law_draw T
  have G__law_any : Gd P w K mg base CX0 2 (He.ga K "_law_any") ["_law_pot_here", "_law_items"] spAny := ok_law_any T
  have G__law_far : Gd P w K mg base CX0 2 (He.ga K "_law_far") ["_law_pot_here"] spFar := ok_law_far T
  have G__law_great : Gd P w K mg base CX0 3 (He.ga K "_law_great") ["_law_pot_here"] spGreat := ok_law_great T
  have G__law_moved : Gd P w K mg base CX0 1 (He.ga K "_law_moved") ["_law_parts", "_law_by"] spMoved := ok_law_moved T
  have G__law_lot : Gd P w K mg base CX0 7 (He.ga K "_law_lot") ["_law_parts"] (spLawLot K) := ok_law_lot T
  have G__law_least : Gd P w K mg base CX0 2 (He.ga K "_law_least") ["_law_parts"] spLawLeast := ok_law_least T
  have G__law_six : Gd P w K mg base CX0 1 (He.ga K "_law_six") ["_law_lot_here"] (spSix K) := ok_law_six T
  have G__law_has : Gd P w K mg base CX0 1 (He.ga K "_law_has") ["_law_parts", "_law_number"] spLawHas := ok_law_has T
  have G__law_is_flag : Gd P w K mg base CX0 1 (He.ga K "_law_is_flag") ["_law_told", "_law_due"] spFlag := ok_law_is_flag T
  have G_is_in : Gd P w K mg base CX0 2 (He.ga K "is_in") ["lot", "thing"] (spHas K) := ok_is_in T
  have G_next_above : Gd P w K mg base CX0 3 (He.ga K "next_above") ["lot", "number"] (spNext K) := ok_next_above T
  have G_many_in : Gd P w K mg base CX0 3 (He.ga K "many_in") ["lot", "one", "other"] (spManyIn K) := ok_many_in T
  have G_is_part : Gd P w K mg base CX0 6 (He.ga K "is_part") ["lot", "second"] (spPart K) := ok_is_part T
  have G__law_mix : Gd P w K mg base CX0 9 (He.ga K "_law_mix") ["_law_is_joined", "_law_lot_here", "_law_other"] (spLawMix K) := ok_law_mix T TM
  have G__law_is_mixed : Gd P w K mg base CX0 3 (He.ga K "_law_is_mixed") ["_law_told", "_law_is_joined", "_law_parts", "_law_second", "_law_one", "_law_other"] (spIsMixed K) := ok_law_is_mixed T
  refine Nv.FunD.goodF F sc_law (fun vs H Q E h => ?_) (fun cdv A outer s H vs Q E hr h => ?_)
  · obtain ⟨a, ns, rfl, _⟩ := h
    rfl
  · obtain ⟨a, ns, rfl, hx, hz, k⟩ := h
    refine ⟨_, (pss_cons (ps_set (i := 1) sc_law.nd rfl (Or.inl rfl) (pcl G__law_pot (hr.mono (by decide)) T.g__law_pot (pa_cons (pv 0) pa_nil)))
      (pss_cons (ps_par (i := 2) (j := 3) rfl sc_law.nd rfl rfl (by decide) rfl rfl (pa_cons (pcl G__law_great (hr.mono (by decide)) T.g__law_great (pa_cons (pv 1) pa_nil)) (pa_cons (pcl G__law_great (hr.mono (by decide)) T.g__law_great (pa_cons (pv 1) pa_nil)) pa_nil)) (by rfl))
      (pss_cons (ps_set (i := 4) sc_law.nd rfl (Or.inl rfl) (pcl G__law_any (hr.mono (by decide)) T.g__law_any (pa_cons (pv 1) (pa_cons (pe_op op_catT (pe_op op_repT (pe_tup (pa_cons pe_int pa_nil)) pe_int) (pe_tup (pa_cons pe_int (pa_cons pe_int (pa_cons (pe_un un_neg pe_int) (pa_cons pe_int pa_nil)))))) pa_nil))))
      (pss_cons (ps_set (i := 3) sc_law.nd rfl (Or.inl rfl) (pcl G__law_moved (hr.mono (by decide)) T.g__law_moved (pa_cons (pv 3) (pa_cons (pv 4) pa_nil))))
      (Evl.pss_cut (ps_if (pt_cmpR op_eq (pcl G__law_draw (hr.mono (by decide)) T.g__law_draw (pa_cons (pv 1) (pa_cons pe_int pa_nil))) pe_int (nomark _)) (pss_cons (ps_set (i := 4) sc_law.nd rfl (Or.inl rfl) (pcl G__law_far (hr.mono (by decide)) T.g__law_far (pa_cons (pv 1) pa_nil)))
      (pss_one (ps_par (i := 2) (j := 3) rfl sc_law.nd rfl rfl (by decide) rfl rfl (pa_cons (pcl G__law_moved (hr.mono (by decide)) T.g__law_moved (pa_cons (pv 2) (pa_cons (pv 4) pa_nil))) (pa_cons (pcl G__law_moved (hr.mono (by decide)) T.g__law_moved (pa_cons (pv 3) (pa_cons (pv 4) pa_nil))) pa_nil)) (by rfl)))) pss_nil)
      (pss_cons (ps_par (i := 5) (j := 6) rfl sc_law.nd rfl rfl (by decide) rfl rfl (pa_cons (pcl G__law_lot (hr.mono (by decide)) T.g__law_lot (pa_cons (pv 2) pa_nil)) (pa_cons (pcl G__law_lot (hr.mono (by decide)) T.g__law_lot (pa_cons (pv 3) pa_nil)) pa_nil)) (by rfl))
      (pss_cons (ps_par (i := 7) (j := 8) rfl sc_law.nd rfl rfl (by decide) rfl rfl (pa_cons (pcl G__law_least (hr.mono (by decide)) T.g__law_least (pa_cons (pv 2) pa_nil)) (pa_cons (pcl G__law_least (hr.mono (by decide)) T.g__law_least (pa_cons (pv 3) pa_nil)) pa_nil)) (by rfl))
      (pss_cons (ps_if (PW.pt (pw_or (pt_cmpR (kNeD (K := K) rfl hr.units) (pcl G__law_six (hr.mono (by decide)) T.g__law_six (pa_cons (pv 5) pa_nil)) (pv 7) (nomark _)) (pw_or1 (pt_cmpR (kNeD (K := K) rfl hr.units) (pcl G__law_six (hr.mono (by decide)) T.g__law_six (pa_cons (pv 6) pa_nil)) (pv 8) (nomark _))))) (pss_one (ps_ret pe_bl)) pss_nil)
      (pss_cons (ps_asg (pv 2) (pg_tup rfl (pgs_cons (pg_name (i := 9) sc_law.nd rfl (Or.inl rfl)) (pgs_cons (pg_name (i := 10) sc_law.nd rfl (Or.inr rfl)) (pgs_cons (pg_name (i := 11) sc_law.nd rfl (Or.inl rfl)) (pgs_cons (pg_name (i := 12) sc_law.nd rfl (Or.inl rfl)) (pgs_cons (pg_name (i := 13) sc_law.nd rfl (Or.inl rfl)) (pgs_cons (pg_name (i := 14) sc_law.nd rfl (Or.inl rfl)) pgs_nil))))))))
      (pss_cons (ps_for PassesOwn.never rfl (pi_list (pe_op op_cat (pe_op op_cat (pe_lst (pa_cons (pv 9) (pa_cons (pv 10) (pa_cons (pe_op op_sub (pv 9) (pv 12)) (pa_cons (pe_op op_add (pv 10) (pv 12)) (pa_cons (pe_op op_sub (pv 9) pe_int) (pa_cons (pe_op op_sub (pv 10) pe_int) pa_nil))))))) (pe_callTy call_list_of (by rfl) T.n_list (by decide +kernel) (pa_cons (pv 11) pa_nil))) (pe_lc (own := [("_law_rest", 19)]) (g := gName 19) rfl sc_law.nd (pi_tup (pv 14)) (blkOk_by (N := ["_law_script", "_law_pot_here", "_law_parts", "_law_second", "_law_by", "_law_lot_here", "_law_other", "_law_one", "_law_two", "_law_low", "_law_high", "_law_members", "_law_step", "_law_below", "_law_above", "_law_number", "_law_up", "_law_is_joined", "_law_told", "_law_rest"]) (sc := defScope sLaw) (by decide +kernel)) (fun _ _ _ _ _ => pg_name (i := 19) sc_law.nd rfl (Or.inl rfl)) (fun _ _ _ _ _ => pts_nil) (fun _ _ _ _ _ => (pe_op op_add (pv 10) (pv 19)))))) (pg_name (i := 15) sc_law.nd rfl (Or.inl rfl)) (pss_cons (ps_if (pt_not (pt_val (pcl G__law_is_flag (hr.mono (by decide)) T.g__law_is_flag (pa_cons (pcl G_is_in (hr.mono (by decide)) T.g_is_in (pa_cons (pv 5) (pa_cons (pv 15) pa_nil))) (pa_cons (pcl G__law_has (hr.mono (by decide)) T.g__law_has (pa_cons (pv 2) (pa_cons (pv 15) pa_nil))) pa_nil))))) (pss_one (ps_ret pe_bl)) pss_nil)
      (pss_cons (ps_set (i := 16) sc_law.nd rfl (Or.inl rfl) (pcl G_next_above (hr.mono (by decide)) T.g_next_above (pa_cons (pv 5) (pa_cons (pe_op op_sub (pv 15) pe_int) pa_nil))))
      (pss_one (ps_if (pt_cmpR op_ne (pcl G__law_has (hr.mono (by decide)) T.g__law_has (pa_cons (pv 2) (pa_cons (pv 15) pa_nil))) (pe_cmpR op_eq (pv 16) (pv 15) (nomark _)) (nomark _)) (pss_one (ps_ret pe_bl)) pss_nil)))))
      (pss_cons (ps_if (pt_cmpR op_ne (pcl G_many_in (hr.mono (by decide)) T.g_many_in (pa_cons (pv 5) (pa_cons (pe_op op_sub (pv 9) (pe_op op_mul pe_int (pv 12))) (pa_cons (pe_op op_add (pv 10) (pe_op op_mul pe_int (pv 12))) pa_nil)))) (pe_op op_add (pe_op op_add (pe_op op_mul pe_int (pe_callB (kLen (K := K) rfl) (by rfl) T.n_len (by decide +kernel) (pa_cons (pv 13) pa_nil))) (pe_callB (kLen (K := K) rfl) (by rfl) T.n_len (by decide +kernel) (pa_cons (pv 11) pa_nil))) (pe_op op_mul pe_int (pe_callB (kLen (K := K) rfl) (by rfl) T.n_len (by decide +kernel) (pa_cons (pv 14) pa_nil)))) (nomark _)) (pss_one (ps_ret pe_bl)) pss_nil)
      (pss_cons (ps_if (pt_not (pt_val (pcl G__law_is_flag (hr.mono (by decide)) T.g__law_is_flag (pa_cons (pcl G_is_part (hr.mono (by decide)) T.g_is_part (pa_cons (pv 5) (pa_cons (pv 5) pa_nil))) (pa_cons pe_bl pa_nil))))) (pss_one (ps_ret pe_bl)) pss_nil)
      (pss_cons (ps_set (i := 17) sc_law.nd rfl (Or.inl rfl) (pe_cmpR op_eq (pcl G__law_draw (hr.mono (by decide)) T.g__law_draw (pa_cons (pv 1) (pa_cons pe_int pa_nil))) pe_int (nomark _)))
      (pss_cons (ps_set (i := 18) sc_law.nd rfl (Or.inl rfl) (pcl G__law_mix (hr.mono (by decide)) T.g__law_mix (pa_cons (pv 17) (pa_cons (pv 5) (pa_cons (pv 6) pa_nil)))))
      (pss_one (ps_ret (pcl G__law_is_mixed (hr.mono (by decide)) T.g__law_is_mixed (pa_cons (pv 18) (pa_cons (pv 17) (pa_cons (pv 2) (pa_cons (pv 3) (pa_cons (pv 7) (pa_cons (pv 8) pa_nil))))))))))))))))))))))), ?_⟩
    refine q_asgP (evp_call (Evl.ea_cons (Evl.ev_var rfl) Evl.ea_nil) (sp_pot hx hz)) fun v1 H1 _ pv => ?_
    obtain ⟨p, g, s, rfl, pt⟩ := pv
    -- the two lots' parts
    refine u_seq (evd_great (p := p) (g := g) (s := s) rfl H1 (.refl pt) _ fun v2 H2 d2 ⟨p1, P1, s1⟩ => evd_great (p := p) (g := g) (s := s) rfl H2 (.refl d2.p1) _ fun v3 H3 d3 ⟨p2, P2, s2⟩ => ⟨_, _, rfl, ?_⟩)
    refine q_asgI (p := p) (g := g) (s := s) (evi_anyU rfl (fun _ _ => eu_by) (by decide) (by decide)) d3.p1 fun by_ H4 d4 _ => ?_
    refine q_asgP (evp_call (Evl.ea_cons (Evl.ev_var rfl) (Evl.ea_cons (Evl.ev_var rfl) Evl.ea_nil)) (sp_moved (P2.dr d4) s2)) fun v3 H5 e5 pv => ?_
    obtain ⟨p2, P2, s2⟩ := pv
    have pt5 := d4.p1.ex' e5
    have P1 := ((P1.dr d3).dr d4).mono e5
    refine Evl.q_cut (M := fun σ' H' => ∃ v2 v3 b p1 p2, σ' = [some (.ref a), some (.ref p), some v2, some v3, some (.int b), none, none, none, none, none, none, none, none, none, none, none, none, none, none, none] ∧ Pt p g s H' ∧ PartsV H' v2 p1 ∧ Sm p1 ∧ PartsV H' v3 p2 ∧ Sm p2) ?_ ?_
    · refine s_whenD (p := p) (g := g) (s := s) (Bb := fun _ => True) (edt_eq (A := fun _ => True) (B := fun _ => True) (evi_draw1 rfl ⟨by decide, by decide⟩ fun _ _ _ => trivial) (evi_c trivial) fun _ _ _ _ => trivial) pt5 (fun _ H6 d6 => ?_) (fun _ H6 d6 => ⟨_, _, _, p1, p2, rfl, d6.p1, P1.dr d6, s1, P2.dr d6, s2⟩)
      refine q_asgI (p := p) (g := g) (s := s) (evi_far rfl) d6.p1 fun b H7 d7 _ => ?_
      have P1 := (P1.dr d6).dr d7
      have P2 := (P2.dr d6).dr d7
      refine evp_call (Evl.ea_cons (Evl.ev_var rfl) (Evl.ea_cons (Evl.ev_var rfl) Evl.ea_nil)) (sp_moved P1 s1) H7 (Evl.Ex.refl _) _ fun v2' H8 e8 ⟨p1', P1', s1'⟩ => ?_
      refine evp_call (Evl.ea_cons (Evl.ev_var rfl) (Evl.ea_cons (Evl.ev_var rfl) Evl.ea_nil)) (sp_moved P2 s2) H8 e8 _ fun v3' H9 e9 ⟨p2', P2', s2'⟩ => ⟨_, _, rfl, ?_⟩
      exact ⟨_, _, b, p1', p2', rfl, d7.p1.ex' (e8.trans e9), P1'.mono e9, s1', P2', s2'⟩
    clear P1 s1 P2 s2 d4 e5 d3 d2
    rintro σ' H6 ⟨v2, v3, b, p1, p2, rfl, pt6, P1, s1, P2, s2⟩
    have w1 := s1.wf
    have w2 := s2.wf
    -- the lots, the law's least forms
    refine u_seq (evp_call (Evl.ea_cons (Evl.ev_var rfl) Evl.ea_nil) (sp_law_lot P1 s1) H6 (Evl.Ex.refl _) _ fun v5 H7 e7 ⟨x1, l1, ex1, A1, i1⟩ => ?_)
    refine evp_call (Evl.ea_cons (Evl.ev_var rfl) Evl.ea_nil) (sp_law_lot P2 s2) H7 e7 _ fun v6 H8 e8 ⟨x2, l2, ex2, A2, i2⟩ => ⟨_, _, rfl, ?_⟩
    subst ex1
    subst ex2
    have L1 : LotV K H8 (.ref x1) l1 := LotV.mono ⟨x1, _, rfl, T.cLot, A1⟩ e8
    have L2' : LotV K H8 (.ref x2) l2 := ⟨x2, _, rfl, T.cLot, A2⟩
    have e8 := e7.trans e8
    refine u_seq (evp_call (Evl.ea_cons (Evl.ev_var rfl) Evl.ea_nil) (sp_law_least (P1.mono e8) s1) H8 (Evl.Ex.refl _) _ fun v7 H9 e9 ⟨m1, Q1, j1⟩ => ?_)
    refine evp_call (Evl.ea_cons (Evl.ev_var rfl) Evl.ea_nil) (sp_law_least (P2.mono e8) s2) H9 e9 _ fun v8 H10 e10 ⟨m2, Q2, j2⟩ => ⟨_, _, rfl, ?_⟩
    have em1 := j1.uniq i1
    have em2 := j2.uniq i2
    subst em1
    subst em2
    have Q1 := Q1.mono e10
    have e10' := e9.trans e10
    have L1 := L1.mono e10'
    have L2' := L2'.mono e10'
    have P1 := (P1.mono e8).mono e10'
    have P2 := (P2.mono e8).mono e10'
    have pt10 := (pt6.ex' e8).ex' e10'
    clear A1 A2 e7 e8 e9 e10 e10' pt6
    have lw1 := i1.wf w1
    have lw2 := i2.wf w2
    have ls1 : m1.st ≤ 4000 := Int.le_trans i1.st_le.2 s1.st
    have ls2 : m2.st ≤ 4000 := Int.le_trans i2.st_le.2 s2.st
    have lm1 : m1.ms.length < sizeLine := by have := i1.few.1; have := s1.ms; rw [sizeLine_eq]; omega
    refine Evl.q_when (b := false) (et_orV (a := false) (b := false) (Evl.et_test (ev_ne6 (evp_call (Evl.ea_cons (Evl.ev_var rfl) Evl.ea_nil) (sp_six L1)) (evp_parts rfl Q1))) (Evl.et_test (ev_ne6 (evp_call (Evl.ea_cons (Evl.ev_var rfl) Evl.ea_nil) (sp_six L2')) (evp_parts rfl Q2)))) (fun c => absurd c (by decide)) (fun _ H11 e11 => ?_)
    refine q_asg6 rfl (P1.mono e11) fun pm pb pa hm hb ha => ?_
    have az : p1.ab.length < sizeLine := by have := s1.ab; rw [sizeLine_eq]; omega
    refine q_forNLI (ns := [p1.low, p1.high, p1.low - p1.st, p1.high + p1.st, p1.low - 1, p1.high - 1] ++ p1.ms ++ p1.ab.map fun r => p1.high + r) (EvL.is (el_cat (ys := vI (p1.ab.map fun r => p1.high + r)) (EvL.is (el_cat (Evl.el_lst (Evl.ea_cons (Evl.ev_var rfl) (Evl.ea_cons (Evl.ev_var rfl) (Evl.ea_cons (ev_sub (Evl.ev_var rfl) (Evl.ev_var rfl)) (Evl.ea_cons (ev_add (Evl.ev_var rfl) (Evl.ev_var rfl)) (Evl.ea_cons (ev_sub (Evl.ev_var rfl) Evl.ev_c) (Evl.ea_cons (ev_sub (Evl.ev_var rfl) Evl.ev_c) Evl.ea_nil)))))) (by show 6 ≤ 100000; decide)) (el_listT (xs := vI p1.ms) (Evl.ev_var rfl) hm) ?_) (show [V.int p1.low, V.int p1.high, V.int (p1.low - p1.st), V.int (p1.high + p1.st), V.int (p1.low - 1), V.int (p1.high - 1)] ++ vI p1.ms = vI ([p1.low, p1.high, p1.low - p1.st, p1.high + p1.st, p1.low - 1, p1.high - 1] ++ p1.ms) from vI_app (a := [p1.low, p1.high, p1.low - p1.st, p1.high + p1.st, p1.low - 1, p1.high - 1])))
      (EvL.is (el_T (ns := p1.ab) (fun _ => true) (fun r => .int (p1.high + r)) (Evl.ev_var rfl) ha az (fun x => rfl) (fun r Hz _ ez => et_yes) (fun r Hz _ ez _ => ev_add (Evl.ev_var rfl) (Evl.ev_var rfl))) (by rw [filter_yes]; unfold vI; rw [List.map_map]; rfl)) ?_) vI_app) fun aL H12 e12 haL => ⟨fun i σ' H' => ∃ y z, σ' = [some (.ref a), some (.ref p), some v2, some v3, some (.int b), some (.ref x1), some (.ref x2), some v7, some v8, some (.int p1.low), some (.int p1.high), some (.ref pm), some (.int p1.st), some (.ref pb), some (.ref pa), y, z, none, none, none] ∧ Ex H12 H', ⟨_, _, rfl, Evl.Ex.refl _⟩, ?_, ?_, ?_⟩
    · rw [vI_len, sizeLine_eq]
      have := s1.ms
      show 6 + _ ≤ _
      omega
    · have := s1.ms
      have := s1.ab
      rw [vI_len, vI_len, List.length_append, List.length_map, sizeLine_eq]
      show 6 + _ + _ ≤ _
      omega
    · rintro i σ' H' ⟨y, z, _, e13⟩
      exact e13 _ _ haL
    · rintro i n σ' H' hn ⟨y, z, rfl, e13⟩
      have ee := (e11.trans e12).trans e13
      refine Evl.q_when (b := false) (Evl.et_is (ev_notV (ev_callV (Evl.ea_cons (ev_callV (Evl.ea_cons (Evl.ev_var rfl) (Evl.ea_cons (Evl.ev_var rfl) Evl.ea_nil)) (sp_has (n := n) (L1.mono ee) lw1.pos)) (Evl.ea_cons (ev_callV (Evl.ea_cons (Evl.ev_var rfl) (Evl.ea_cons (Evl.ev_var rfl) Evl.ea_nil)) (sp_law_has (n := n) (P1.mono ee) w1)) Evl.ea_nil)) sp_flag)) (by rw [i1.has w1]; simp)) (fun c => absurd c (by decide)) (fun _ H14 e14 => ?_)
      have ee := ee.trans e14
      refine q_asgP (evp_call (Evl.ea_cons (Evl.ev_var rfl) (Evl.ea_cons (ev_sub (Evl.ev_var rfl) Evl.ev_c) Evl.ea_nil)) (sp_next (n := n - 1) (L1.mono ee) lw1)) fun vu H15 e15 pv => ?_
      obtain ⟨o, rfl, ho⟩ := pv
      have ee := ee.trans e15
      refine Evl.s_when (b := false) (Evl.et_is (Evl.et_test (ev_neB (ev_callV (Evl.ea_cons (Evl.ev_var rfl) (Evl.ea_cons (Evl.ev_var rfl) Evl.ea_nil)) (sp_law_has (n := n) (P1.mono ee) w1)) (Evl.ev_op (Evl.ev_var rfl) (Evl.ev_var rfl) (Evl.rv_eq optI_scal)))) ?_) (fun c => absurd c (by decide)) (fun _ H16 e16 => ⟨_, _, rfl, ((e13.trans e14).trans e15).trans e16⟩)
      rw [show n - 1 + 1 = n by omega] at ho
      rw [optI_is (b := m1.has n) (by rw [show n - 1 + 1 = n by omega]; exact ho), i1.has w1]
      simp
    · rintro σ' H13 ⟨y, z, rfl, e13⟩
      have ee := (e11.trans e12).trans e13
      have hm := (e12.trans e13) _ _ hm
      have hb := (e12.trans e13) _ _ hb
      have ha := (e12.trans e13) _ _ ha
      have c5 : ∀ {x : Int}, CMul 5 x := .inl ⟨by decide, by decide⟩
      have c3 : ∀ {x : Int}, CMul 3 x := .inl ⟨by decide, by decide⟩
      refine Evl.q_when (b := false) (Evl.et_is (Evl.et_test (ev_neI (ev_callV (Evl.ea_cons (Evl.ev_var rfl) (Evl.ea_cons (ev_sub (Evl.ev_var rfl) (ev_mul Evl.ev_c (Evl.ev_var rfl) c5)) (Evl.ea_cons (ev_add (Evl.ev_var rfl) (ev_mul Evl.ev_c (Evl.ev_var rfl) c3)) Evl.ea_nil))) (sp_many_in (L1.mono ee) lw1 ls1 lm1)) (ev_add (ev_add (ev_mul Evl.ev_c (ev_lenT (Evl.ev_var rfl) hb) c5) (ev_lenT (Evl.ev_var rfl) hm)) (ev_mul Evl.ev_c (ev_lenT (Evl.ev_var rfl) ha) c3)))) ?_) (fun c => absurd c (by decide)) (fun _ H14 e14 => ?_)
      · rw [many_least w1 i1, vI_len, vI_len, vI_len, decide_eq_true rfl]
        rfl
      have ee := ee.trans e14
      refine Evl.q_when (b := false) (Evl.et_is (ev_notV (ev_callV (Evl.ea_cons (ev_callV (Evl.ea_cons (Evl.ev_var rfl) (Evl.ea_cons (Evl.ev_var rfl) Evl.ea_nil)) (sp_part (L1.mono ee) lw1 ls1 lm1)) (Evl.ea_cons Evl.ev_c Evl.ea_nil)) sp_flag)) (by rfl)) (fun c => absurd c (by decide)) (fun _ H15 e15 => ?_)
      have ee := ee.trans e15
      refine q_asgD (p := p) (g := g) (s := s) (evd_eq0 (A := fun _ => True) (evi_draw1 rfl ⟨by decide, by decide⟩ fun _ _ _ => trivial)) (pt10.ex' ee) fun v17 H16 d16 pv => ?_
      obtain ⟨b, rfl⟩ := pv
      have P1 := (P1.mono ee).dr d16
      have P2 := (P2.mono ee).dr d16
      have Q1 := (Q1.mono ee).dr d16
      have Q2 := (Q2.mono ee).dr d16
      refine q_asgP (evp_call (Evl.ea_cons (Evl.ev_var rfl) (Evl.ea_cons (Evl.ev_var rfl) (Evl.ea_cons (Evl.ev_var rfl) Evl.ea_nil))) (sp_law_mix (b := b) ⟨(L1.mono ee).dr d16, (L2'.mono ee).dr d16, lw1, lw2, ls1, ls2⟩)) fun t H17 e17 told => ?_
      refine s_retE (ev_callV (Evl.ea_cons (Evl.ev_var rfl) (Evl.ea_cons (Evl.ev_var rfl) (Evl.ea_cons (Evl.ev_var rfl) (Evl.ea_cons (Evl.ev_var rfl) (Evl.ea_cons (Evl.ev_var rfl) (Evl.ea_cons (Evl.ev_var rfl) Evl.ea_nil)))))) (sp_is_mixed (P1.mono e17) (P2.mono e17) (Q1.mono e17) (Q2.mono e17) s1 s2 i1 i2 told)) fun H18 _ => k H18
end
end Nv
set_option Elab.async false
set_option linter.all false
set_option maxRecDepth 100000
set_option maxHeartbeats 0
/-! NvHd: what the top leaves (printed by nvfin.py). -/
namespace Nv
open PySem PySem.W PySem.Calls PyProof.Rows PySem.HandSPX
/-- the own error's class, as its maker wants it -/
def tmClsB (K : Frag) (C : Addr) : Bool := match K.lookup C with
  | some ⟨.type t, _, .cls cd, sl⟩ => (match cd.mro, sl.toList with
    | .ref D :: bm, [_, _, _, _, some (.builtin n), _] => decide (t = "type") && (decide (D = C) && (decide (n = "ValueError.__new__") && (!cd.hasDel && (cd.hasDict && refsVE bm))))
    | _, _ => false)
  | _ => false
theorem tmCls_ok {K : Frag} {C : Addr} (h : tmClsB K C = true) : ∃ nm q N bs bm sn sub ab col dd k0 k1 k2 k3 k5, K.lookup C = some (excClassObj nm q C N bs bm true sn sub ab col dd k0 k1 k2 k3 k5 "ValueError.__new__") ∧ refsVE bm = true := by
  unfold tmClsB at h
  split at h
  · rename_i t dd cd sl ho
    split at h
    · rename_i D bm k0 k1 k2 k3 n k5 hm hs
      simp only [Bool.and_eq_true, decide_eq_true_eq, Bool.not_eq_true'] at h
      obtain ⟨h1, h2, h3, h4, h5, h6⟩ := h
      obtain ⟨nm, bs, mro, ns, qn, hd, sn, sub, ab, col, del⟩ := cd
      simp only at hm h4 h5
      subst h1 h2 h3 h4 h5 hm
      obtain ⟨l⟩ := sl
      simp only at hs
      subst hs
      exact ⟨nm, qn, ns, bs, bm, sn, sub, ab, col, dd, k0, k1, k2, k3, k5, ho, h6⟩
    · cases h
  · cases h
def cellAt (K : Frag) (c : Addr) : Option Value := match K.lookup c with
  | some ⟨_, _, .cell v, _⟩ => v
  | _ => none
def fileAt (K : Frag) (v : Value) : Option Str := match v with
  | .ref c => (match K.lookup c with
    | some ⟨_, _, .fields vs, _⟩ => (match vs.toList with
      | _ :: _ :: .str f _ :: _ => some f
      | _ => none)
    | _ => none)
  | _ => none
abbrev theFile : Str := PySem.Challenge.pw_neverleapt_k43_whole_great_steps_and_spa.main.file
/-- its __init__: the closure's cell holds the class, the code's file is the text's -/
def tmFnB (K : Frag) : Bool := match K.lookup (He.ma K (He.ga K "TooMany") "__init__") with
  | some ⟨_, _, .func fd, _⟩ => codeIn K fd.code "TooMany.__init__" && (decide (fd.closure.map (fun q => cellAt K q.2) = [some (.ref (He.ga K "TooMany"))]) && decide (fileAt K fd.code = some theFile))
  | _ => false
abbrev TmV : Type := Option (Str × Str × Arguments × FuncBody × Scope × Addr × List Str × Value × Value × Addr)
def tmObs (K : Frag) : TmV := match K.lookup (He.ma K (He.ga K "TooMany") "__init__") with
  | some ⟨_, _, .func fd, _⟩ => some (fd.name, fd.qualname, fd.params, fd.body, fd.scope, fd.globals, fd.closure.map (·.1), fd.defaults, fd.kwdefaults, fd.builtins)
  | _ => none
def tmVal : TmV := some (("__init__" : Str), ("TooMany.__init__" : Str), tmA, FuncBody.stmts tmB, tmS, mainGlobals, [("__class__" : Str)], Value.none, Value.none, builtinsNs)
theorem tmFn_ok {K : Frag} (h : tmFnB K = true) (e : tmObs K = tmVal) : ∃ (oc : Value) (od : Option Addr) (doc pm : Value) (an : Option Addr) (cda cc : Addr) (ct : Value) (osl : Array (Option Value)) (cl : Value) (cld : Option Addr) (csl : Array (Option Value)) (dl : Value) (dld : Option Addr) (dsl : Array (Option Value)) (vs : Array Value) (file : Str) (tf : Tok),
    K.lookup (He.ma K (He.ga K "TooMany") "__init__") = some ⟨oc, od, .func (ksFn "__init__" "TooMany.__init__" tmA tmB tmS .none .none doc pm an (.ref cda) ct cc), osl⟩ ∧ codeIn K (.ref cda) "TooMany.__init__" = true ∧
    K.lookup cc = some ⟨cl, cld, .cell (some (.ref (He.ga K "TooMany"))), csl⟩ ∧ K.lookup cda = some ⟨dl, dld, .fields vs, dsl⟩ ∧ vs[2]? = some (.str file tf) ∧ (theFile == file) = true := by
  unfold tmFnB at h
  unfold tmObs at e
  split at h
  · rename_i oc od fd osl ho
    rw [ho] at e
    simp only [Bool.and_eq_true, decide_eq_true_eq] at h
    obtain ⟨h1, h2, h3⟩ := h
    obtain ⟨n1, n2, n3, n4, n5, n6, n7, n8, n9, n10, n11, n12, n13, n14, n15⟩ := fd
    have e2 : (some (n1, n2, n3, n4, n5, n6, n7.map (·.1), n8, n9, n15) : TmV) = some (("__init__" : Str), ("TooMany.__init__" : Str), tmA, FuncBody.stmts tmB, tmS, mainGlobals, [("__class__" : Str)], Value.none, Value.none, builtinsNs) := e
    simp only [Option.some.injEq, Prod.mk.injEq] at e2
    obtain ⟨a1, a2, a3, a4, a5, a6, a7, a8, a9, a10⟩ := e2
    subst a1 a2 a3 a4 a5 a6 a8 a9 a10
    simp only at h1 h2 h3
    match n7, a7, h2 with
    | [(x, cc)], a7, h2 =>
      have hx : x = "__class__" := (List.cons.inj a7).1
      have hc : cellAt K cc = some (.ref (He.ga K "TooMany")) := (List.cons.inj h2).1
      subst hx
      unfold cellAt at hc
      split at hc
      · rename_i cl cld v csl hcc
        subst hc
        unfold fileAt at h3
        split at h3
        · rename_i cda
          split at h3
          · rename_i dl dld vs dsl hcd
            split at h3
            · rename_i v0 v1 f tf r hv
              have ef : f = theFile := Option.some.inj h3
              refine ⟨oc, od, n10, n11, n12, cda, cc, n14, osl, cl, cld, csl, dl, dld, dsl, vs, f, tf, ho, h1, hcc, hcd, ?_, by rw [ef]; exact beq_self_eq_true _⟩
              rw [← Array.getElem?_toList, hv]
              rfl
            · cases h3
          · cases h3
        · cases h3
      · cases hc
  · cases h
end Nv
namespace Nv
open PySem PySem.Spec PyProof.Rows L2
def dd (x : String) (i : Nat) : He.DefD := ⟨(Str.ofString x, none), Str.ofString x, Str.ofString x, defArgs (top i), defBody (top i), defScope (top i), [], []⟩
def dm (c m : String) (i j : Nat) : He.DefD := ⟨(Str.ofString c, some (Str.ofString m)), Str.ofString m, Str.ofString (c ++ "." ++ m), defArgs (inClass (top i) j), defBody (inClass (top i) j), defScope (inClass (top i) j), [], []⟩
/-- the method that RawLot has of Lot -/
def dRaw : He.DefD := ⟨("RawLot", some "keep"), "keep", "Lot.keep", defArgs (inClass (top 19) 1), defBody (inClass (top 19) 1), defScope (inClass (top 19) 1), [], []⟩
def fnL0 : List He.DefD := [dm "Lot" "__init__" 19 0, dm "Lot" "keep" 19 1, dm "RawLot" "__init__" 20 0, dRaw, dd "is_integer" 6, dd "is_within" 7, dd "is_ascending" 8, dd "common_divisor" 9, dd "is_rising" 13, dd "keyed" 14, dd "is_round" 15, dd "least_step" 16, dd "least_high" 17, dd "greatest_low" 18, dd "has" 21, dd "is_in" 22, dd "check_integer" 23, dd "common_multiple" 24, dd "mixed" 25, dd "check_mixing" 26]
def fnL1 : List He.DefD := [dd "joined" 27, dd "common" 28, dd "is_fitting" 29, dd "out_between" 30, dd "next_out_above" 31, dd "is_part_of" 32, dd "is_part" 33, dd "next_above_of" 34, dd "next_above" 35, dd "many_with" 36, dd "many_in" 37, dd "_law_pot" 39, dd "_law_draw" 40, dd "_law_any" 41, dd "_law_lot" 42, dd "_law_has" 43, dd "_law_gcd" 44, dd "_law_six" 45, dd "_law_moved" 46, dd "_law_far" 47]
def fnL2 : List He.DefD := [dd "_law_is_flag" 48, dd "_law_rests" 49, dd "_law_great" 50, dd "_law_round" 51, dd "_law_least" 52, dd "_law_mix" 53, dd "_law_is_mixed" 54, dd "law" 55]
def fnL : List He.DefD := fnL0 ++ fnL1 ++ fnL2
def faL0 : List He.Fa := [.cls "Lot", .cls "RawLot", .noat "Lot" "step", .noat "Lot" "below", .noat "Lot" "above", .noat "Lot" "has_below", .noat "Lot" "has_above", .noat "Lot" "low", .noat "Lot" "high", .noat "Lot" "members", .noat "Lot" "has_members", .noat "RawLot" "step", .noat "RawLot" "below", .noat "RawLot" "above", .noat "RawLot" "has_below", .noat "RawLot" "has_above", .noat "RawLot" "low", .noat "RawLot" "high", .noat "RawLot" "members", .noat "RawLot" "has_members"]
def faL1 : List He.Fa := [.glo "Lot", .glo "RawLot", .mkr "Lot", .mkr "RawLot", .meth "Lot" "keep", .meth "RawLot" "keep", .int "MOST_APART" 100000, .int "MOST_STEP" 4000, .glo "TooMany", .exm "TooMany" "TooMany" true, .free "super", .free "abs", .free "all", .free "bool", .free "int", .free "isinstance", .free "len", .free "list", .free "max", .free "min"]
def faL2 : List He.Fa := [.free "range", .free "set", .free "sorted", .free "sum", .free "tuple", .glo "is_integer", .glo "is_within", .glo "is_ascending", .glo "common_divisor", .glo "is_rising", .glo "keyed", .glo "is_round", .glo "least_step", .glo "least_high", .glo "greatest_low", .glo "has", .glo "is_in", .glo "check_integer", .glo "common_multiple", .glo "mixed"]
def faL3 : List He.Fa := [.glo "check_mixing", .glo "joined", .glo "common", .glo "is_fitting", .glo "out_between", .glo "next_out_above", .glo "is_part_of", .glo "is_part", .glo "next_above_of", .glo "next_above", .glo "many_with", .glo "many_in", .glo "_law_pot", .glo "_law_draw", .glo "_law_any", .glo "_law_lot", .glo "_law_has", .glo "_law_gcd", .glo "_law_six", .glo "_law_moved"]
def faL4 : List He.Fa := [.glo "_law_far", .glo "_law_is_flag", .glo "_law_rests", .glo "_law_great", .glo "_law_round", .glo "_law_least", .glo "_law_mix", .glo "_law_is_mixed", .glo "law"]
def faL : List He.Fa := faL0 ++ faL1 ++ faL2 ++ faL3 ++ faL4
def cuL (K : PySem.W.Frag) : List Bool := [tmClsB K (He.ga K "TooMany"),
  He.eqO (PySem.W.findIn K (.ref (He.ga K "TooMany")) "__setattr__") (some (some (.builtin "object.__setattr__"))),
  He.eqO (PySem.W.findIn K (.ref (He.ga K "TooMany")) "__getattribute__") (some (some (.builtin "BaseException.__getattribute__"))),
  He.eqO (PySem.W.findIn K (.ref (He.ga K "TooMany")) "__getattr__") (some none),
  He.eqO (PySem.W.findIn K (.ref (He.ga K "TooMany")) "most") (some none),
  He.eqO (PySem.W.findIn K (.ref (He.ga K "TooMany")) "__init__") (some (some (.ref (He.ma K (He.ga K "TooMany") "__init__")))),
  decide (PySem.W.typeIn K (.ref (He.ma K (He.ga K "TooMany") "__init__")) = some (.type "function")),
  PySem.W.keepIn K (.ref (He.ga K "TooMany")),
  decide (PySem.W.subIn K (.ref (He.ga K "TooMany")) (.type "BaseException") = some true),
  decide (PySem.W.typeIn K (.ref (He.ga K "TooMany")) = some (.type "type")),
  PySem.W.hasDictIn K (He.ga K "TooMany"),
  He.eqO (PySem.W.nsIn K cStatics "thirdparty.any") (some none),
  He.eqO (PySem.W.ks_superIn K (He.ga K "TooMany") (He.ga K "TooMany") "__init__") (some (some (.builtin "ValueError.__init__"))),
  decide (PySem.W.subIn K (.ref (He.ga K "TooMany")) (.type "ValueError") = some true),
  decide (PySem.W.mroIn K (He.ga K "TooMany") (.ref (He.ga K "TooMany")) = some true),
  PySem.W.excInitIn K (He.ga K "TooMany") veL "ValueError.__new__",
  tmFnB K,
  He.eqO (PySem.W.findIn K (.ref (aRaw K)) "__class__") (some (some (.builtin "object.__class__"))),
  He.eqO (PySem.W.specialIn K (.builtin "object.__class__") "__get__") (some (some (.builtin "getset_descriptor.__get__"))),
  decide (PySem.W.takesIn K (.builtin "object.__class__") = some true),
  decide (PySem.W.mroIn K (aRaw K) (.type "object") = some true),
  decide (PySem.W.kitOne K (.ref (aRaw K)) (.ref (aLot K)) = some true)]
abbrev AlN : Type := Bool × List He.FnW × TmV
def obsN (K : PySem.W.Frag) : AlN := ((He.obsD faL fnL K).1 && (cuL K).all id, (He.obsD faL fnL K).2, tmObs K)
def valN : AlN := (true, fnL.map He.DefD.val, tmVal)
def hkN : PySem.W.Hook where
  α := AlN
  obs := fun s => obsN (He.frG s.heap.get? (cStatics :: He.asD s.heap.get? 4))
  val := fun _ => valN
  says := fun _ h => ∃ K : PySem.W.Frag, K.In h ∧ obsN K = valN
  of := fun _ _ e => ⟨_, He.frG_in, e⟩
  keeps := fun _ _ _ ⟨K, hK, c⟩ k => ⟨K, PySem.W.Frag.In.keeps hK k, c⟩
abbrev RR : PySem.W.OpenRow := PySem.W.OpenLaw.row PySem.Challenge.rw_neverleapt_k43_whole_great_steps_and_spa
def obN (s : PySem.W.SharedT) : AlN := obsN (He.frG (HandSHeadRun.getT s) (cStatics :: He.asD (HandSHeadRun.getT s) 4))
theorem obN_eq (s : PySem.W.SharedT) : obN s = hkN.obs s.abs := by
  have e : HandSHeadRun.getT s = s.abs.heap.get? := funext (HandSHeadRun.getT_eq s)
  unfold obN
  rw [e]
  rfl
def looseL0 : List Str := ["__name__", "LeapError", "TooMany", "BadLot", "NoNumber", "is_integer", "is_within", "is_ascending", "common_divisor", "MOST_APART", "MOST_STEP", "is_rising", "keyed", "is_round", "least_step", "least_high", "greatest_low", "Lot", "RawLot", "has"]
def looseL1 : List Str := ["is_in", "check_integer", "common_multiple", "mixed", "check_mixing", "joined", "common", "is_fitting", "out_between", "next_out_above", "is_part_of", "is_part", "next_above_of", "next_above", "many_with", "many_in", "_law_pot", "_law_draw", "_law_any", "_law_lot"]
def looseL2 : List Str := ["_law_has", "_law_gcd", "_law_six", "_law_moved", "_law_far", "_law_is_flag", "_law_rests", "_law_great", "_law_round", "_law_least", "_law_mix", "_law_is_mixed"]
def looseL : List Str := looseL0 ++ looseL1 ++ looseL2
theorem run (w : World) : HandSHeadRun.RunEq RR (PySem.W.view RR.prog [55]) hkN obN 4000 looseL w := by
  intro os
  kernel_rfl
end Nv
set_option Elab.async false
set_option linter.all false
set_option maxRecDepth 100000
set_option maxHeartbeats 0
/-! NvFin: the end (printed by nvfin.py). -/
namespace Nv
open PySem PySem.Spec PyProof.Rows L2
theorem saysD {K : PySem.W.Frag} (c : obsN K = valN) : He.SaysD faL fnL K := by
  have e1 : ((He.obsD faL fnL K).1 && (cuL K).all id) = true := congrArg (fun z : AlN => z.1) c
  have e2 : (He.obsD faL fnL K).2 = fnL.map He.DefD.val := congrArg (fun z : AlN => z.2.1) c
  exact Prod.ext (He.ba e1).1 e2
theorem cu_at {K : PySem.W.Frag} (c : obsN K = valN) (i : Nat) {b : Bool} (h : (cuL K)[i]? = some b) : b = true := by
  have e1 : ((He.obsD faL fnL K).1 && (cuL K).all id) = true := congrArg (fun z : AlN => z.1) c
  exact List.all_eq_true.mp (He.ba e1).2 b (List.mem_of_getElem? h)
theorem txt_of {K : PySem.W.Frag} {h : Heap} {mg : Str → Option Value} (X : K.In h) (G : h.Ns mainGlobals mg) (c : obsN K = valN) (c1 : He.SaysD faL fnL K) : Txt K mg where
  cLot := ⟨He.cls_ok (c1.fact 0 (f := .cls "Lot") rfl), He.noat_ok (c1.fact 2 (f := .noat "Lot" "step") rfl), He.noat_ok (c1.fact 3 (f := .noat "Lot" "below") rfl), He.noat_ok (c1.fact 4 (f := .noat "Lot" "above") rfl), He.noat_ok (c1.fact 5 (f := .noat "Lot" "has_below") rfl), He.noat_ok (c1.fact 6 (f := .noat "Lot" "has_above") rfl), He.noat_ok (c1.fact 7 (f := .noat "Lot" "low") rfl), He.noat_ok (c1.fact 8 (f := .noat "Lot" "high") rfl), He.noat_ok (c1.fact 9 (f := .noat "Lot" "members") rfl), He.noat_ok (c1.fact 10 (f := .noat "Lot" "has_members") rfl)⟩
  cRaw := ⟨He.cls_ok (c1.fact 1 (f := .cls "RawLot") rfl), He.noat_ok (c1.fact 11 (f := .noat "RawLot" "step") rfl), He.noat_ok (c1.fact 12 (f := .noat "RawLot" "below") rfl), He.noat_ok (c1.fact 13 (f := .noat "RawLot" "above") rfl), He.noat_ok (c1.fact 14 (f := .noat "RawLot" "has_below") rfl), He.noat_ok (c1.fact 15 (f := .noat "RawLot" "has_above") rfl), He.noat_ok (c1.fact 16 (f := .noat "RawLot" "low") rfl), He.noat_ok (c1.fact 17 (f := .noat "RawLot" "high") rfl), He.noat_ok (c1.fact 18 (f := .noat "RawLot" "members") rfl), He.noat_ok (c1.fact 19 (f := .noat "RawLot" "has_members") rfl)⟩
  g_Lot := He.glo_ok X G (c1.fact 20 (f := .glo "Lot") rfl)
  g_RawLot := He.glo_ok X G (c1.fact 21 (f := .glo "RawLot") rfl)
  mk_Lot := He.mkr_ok (c1.fact 22 (f := .mkr "Lot") rfl)
  mk_RawLot := He.mkr_ok (c1.fact 23 (f := .mkr "RawLot") rfl)
  f_Lot := c1.def_ 0 (d := dm "Lot" "__init__" 19 0) rfl
  f_RawLot := c1.def_ 2 (d := dm "RawLot" "__init__" 20 0) rfl
  mt_Lot := He.meth_ok (c1.fact 24 (f := .meth "Lot" "keep") rfl)
  mt_RawLot := He.meth_ok (c1.fact 25 (f := .meth "RawLot" "keep") rfl)
  k_Lot := c1.def_ 1 (d := dm "Lot" "keep" 19 1) rfl
  k_RawLot := c1.def_ 3 (d := dRaw) rfl
  i_at := He.eqO_ok (cu_at c 17 rfl)
  i_get := He.eqO_ok (cu_at c 18 rfl)
  i_tk := of_decide_eq_true (cu_at c 19 rfl)
  i_mro := of_decide_eq_true (cu_at c 20 rfl)
  i_one := of_decide_eq_true (cu_at c 21 rfl)
  k_MOST_APART := He.int_ok X G (c1.fact 26 (f := .int "MOST_APART" 100000) rfl)
  k_MOST_STEP := He.int_ok X G (c1.fact 27 (f := .int "MOST_STEP" 4000) rfl)
  n_abs := He.free_ok X G (c1.fact 31 (f := .free "abs") rfl)
  n_all := He.free_ok X G (c1.fact 32 (f := .free "all") rfl)
  n_bool := He.free_ok X G (c1.fact 33 (f := .free "bool") rfl)
  n_int := He.free_ok X G (c1.fact 34 (f := .free "int") rfl)
  n_isinstance := He.free_ok X G (c1.fact 35 (f := .free "isinstance") rfl)
  n_len := He.free_ok X G (c1.fact 36 (f := .free "len") rfl)
  n_list := He.free_ok X G (c1.fact 37 (f := .free "list") rfl)
  n_max := He.free_ok X G (c1.fact 38 (f := .free "max") rfl)
  n_min := He.free_ok X G (c1.fact 39 (f := .free "min") rfl)
  n_range := He.free_ok X G (c1.fact 40 (f := .free "range") rfl)
  n_set := He.free_ok X G (c1.fact 41 (f := .free "set") rfl)
  n_sorted := He.free_ok X G (c1.fact 42 (f := .free "sorted") rfl)
  n_sum := He.free_ok X G (c1.fact 43 (f := .free "sum") rfl)
  n_tuple := He.free_ok X G (c1.fact 44 (f := .free "tuple") rfl)
  g_is_integer := He.glo_ok X G (c1.fact 45 (f := .glo "is_integer") rfl)
  f_is_integer := c1.def_ 4 (d := dd "is_integer" 6) rfl
  g_is_within := He.glo_ok X G (c1.fact 46 (f := .glo "is_within") rfl)
  f_is_within := c1.def_ 5 (d := dd "is_within" 7) rfl
  g_is_ascending := He.glo_ok X G (c1.fact 47 (f := .glo "is_ascending") rfl)
  f_is_ascending := c1.def_ 6 (d := dd "is_ascending" 8) rfl
  g_common_divisor := He.glo_ok X G (c1.fact 48 (f := .glo "common_divisor") rfl)
  f_common_divisor := c1.def_ 7 (d := dd "common_divisor" 9) rfl
  g_is_rising := He.glo_ok X G (c1.fact 49 (f := .glo "is_rising") rfl)
  f_is_rising := c1.def_ 8 (d := dd "is_rising" 13) rfl
  g_keyed := He.glo_ok X G (c1.fact 50 (f := .glo "keyed") rfl)
  f_keyed := c1.def_ 9 (d := dd "keyed" 14) rfl
  g_is_round := He.glo_ok X G (c1.fact 51 (f := .glo "is_round") rfl)
  f_is_round := c1.def_ 10 (d := dd "is_round" 15) rfl
  g_least_step := He.glo_ok X G (c1.fact 52 (f := .glo "least_step") rfl)
  f_least_step := c1.def_ 11 (d := dd "least_step" 16) rfl
  g_least_high := He.glo_ok X G (c1.fact 53 (f := .glo "least_high") rfl)
  f_least_high := c1.def_ 12 (d := dd "least_high" 17) rfl
  g_greatest_low := He.glo_ok X G (c1.fact 54 (f := .glo "greatest_low") rfl)
  f_greatest_low := c1.def_ 13 (d := dd "greatest_low" 18) rfl
  g_has := He.glo_ok X G (c1.fact 55 (f := .glo "has") rfl)
  f_has := c1.def_ 14 (d := dd "has" 21) rfl
  g_is_in := He.glo_ok X G (c1.fact 56 (f := .glo "is_in") rfl)
  f_is_in := c1.def_ 15 (d := dd "is_in" 22) rfl
  g_check_integer := He.glo_ok X G (c1.fact 57 (f := .glo "check_integer") rfl)
  f_check_integer := c1.def_ 16 (d := dd "check_integer" 23) rfl
  g_common_multiple := He.glo_ok X G (c1.fact 58 (f := .glo "common_multiple") rfl)
  f_common_multiple := c1.def_ 17 (d := dd "common_multiple" 24) rfl
  g_mixed := He.glo_ok X G (c1.fact 59 (f := .glo "mixed") rfl)
  f_mixed := c1.def_ 18 (d := dd "mixed" 25) rfl
  g_check_mixing := He.glo_ok X G (c1.fact 60 (f := .glo "check_mixing") rfl)
  f_check_mixing := c1.def_ 19 (d := dd "check_mixing" 26) rfl
  g_joined := He.glo_ok X G (c1.fact 61 (f := .glo "joined") rfl)
  f_joined := c1.def_ 20 (d := dd "joined" 27) rfl
  g_common := He.glo_ok X G (c1.fact 62 (f := .glo "common") rfl)
  f_common := c1.def_ 21 (d := dd "common" 28) rfl
  g_is_fitting := He.glo_ok X G (c1.fact 63 (f := .glo "is_fitting") rfl)
  f_is_fitting := c1.def_ 22 (d := dd "is_fitting" 29) rfl
  g_out_between := He.glo_ok X G (c1.fact 64 (f := .glo "out_between") rfl)
  f_out_between := c1.def_ 23 (d := dd "out_between" 30) rfl
  g_next_out_above := He.glo_ok X G (c1.fact 65 (f := .glo "next_out_above") rfl)
  f_next_out_above := c1.def_ 24 (d := dd "next_out_above" 31) rfl
  g_is_part_of := He.glo_ok X G (c1.fact 66 (f := .glo "is_part_of") rfl)
  f_is_part_of := c1.def_ 25 (d := dd "is_part_of" 32) rfl
  g_is_part := He.glo_ok X G (c1.fact 67 (f := .glo "is_part") rfl)
  f_is_part := c1.def_ 26 (d := dd "is_part" 33) rfl
  g_next_above_of := He.glo_ok X G (c1.fact 68 (f := .glo "next_above_of") rfl)
  f_next_above_of := c1.def_ 27 (d := dd "next_above_of" 34) rfl
  g_next_above := He.glo_ok X G (c1.fact 69 (f := .glo "next_above") rfl)
  f_next_above := c1.def_ 28 (d := dd "next_above" 35) rfl
  g_many_with := He.glo_ok X G (c1.fact 70 (f := .glo "many_with") rfl)
  f_many_with := c1.def_ 29 (d := dd "many_with" 36) rfl
  g_many_in := He.glo_ok X G (c1.fact 71 (f := .glo "many_in") rfl)
  f_many_in := c1.def_ 30 (d := dd "many_in" 37) rfl
  g__law_pot := He.glo_ok X G (c1.fact 72 (f := .glo "_law_pot") rfl)
  f__law_pot := c1.def_ 31 (d := dd "_law_pot" 39) rfl
  g__law_draw := He.glo_ok X G (c1.fact 73 (f := .glo "_law_draw") rfl)
  f__law_draw := c1.def_ 32 (d := dd "_law_draw" 40) rfl
  g__law_any := He.glo_ok X G (c1.fact 74 (f := .glo "_law_any") rfl)
  f__law_any := c1.def_ 33 (d := dd "_law_any" 41) rfl
  g__law_lot := He.glo_ok X G (c1.fact 75 (f := .glo "_law_lot") rfl)
  f__law_lot := c1.def_ 34 (d := dd "_law_lot" 42) rfl
  g__law_has := He.glo_ok X G (c1.fact 76 (f := .glo "_law_has") rfl)
  f__law_has := c1.def_ 35 (d := dd "_law_has" 43) rfl
  g__law_gcd := He.glo_ok X G (c1.fact 77 (f := .glo "_law_gcd") rfl)
  f__law_gcd := c1.def_ 36 (d := dd "_law_gcd" 44) rfl
  g__law_six := He.glo_ok X G (c1.fact 78 (f := .glo "_law_six") rfl)
  f__law_six := c1.def_ 37 (d := dd "_law_six" 45) rfl
  g__law_moved := He.glo_ok X G (c1.fact 79 (f := .glo "_law_moved") rfl)
  f__law_moved := c1.def_ 38 (d := dd "_law_moved" 46) rfl
  g__law_far := He.glo_ok X G (c1.fact 80 (f := .glo "_law_far") rfl)
  f__law_far := c1.def_ 39 (d := dd "_law_far" 47) rfl
  g__law_is_flag := He.glo_ok X G (c1.fact 81 (f := .glo "_law_is_flag") rfl)
  f__law_is_flag := c1.def_ 40 (d := dd "_law_is_flag" 48) rfl
  g__law_rests := He.glo_ok X G (c1.fact 82 (f := .glo "_law_rests") rfl)
  f__law_rests := c1.def_ 41 (d := dd "_law_rests" 49) rfl
  g__law_great := He.glo_ok X G (c1.fact 83 (f := .glo "_law_great") rfl)
  f__law_great := c1.def_ 42 (d := dd "_law_great" 50) rfl
  g__law_round := He.glo_ok X G (c1.fact 84 (f := .glo "_law_round") rfl)
  f__law_round := c1.def_ 43 (d := dd "_law_round" 51) rfl
  g__law_least := He.glo_ok X G (c1.fact 85 (f := .glo "_law_least") rfl)
  f__law_least := c1.def_ 44 (d := dd "_law_least" 52) rfl
  g__law_mix := He.glo_ok X G (c1.fact 86 (f := .glo "_law_mix") rfl)
  f__law_mix := c1.def_ 45 (d := dd "_law_mix" 53) rfl
  g__law_is_mixed := He.glo_ok X G (c1.fact 87 (f := .glo "_law_is_mixed") rfl)
  f__law_is_mixed := c1.def_ 46 (d := dd "_law_is_mixed" 54) rfl
  g_law := He.glo_ok X G (c1.fact 88 (f := .glo "law") rfl)
  f_law := c1.def_ 47 (d := dd "law" 55) rfl
theorem tm_of {K : PySem.W.Frag} {h : Heap} {mg : Str → Option Value} (X : K.In h) (G : h.Ns mainGlobals mg) (c : obsN K = valN) (c1 : He.SaysD faL fnL K) : TmTxt PySem.Challenge.pw_neverleapt_k43_whole_great_steps_and_spa K mg (He.ga K "TooMany") (He.ma K (He.ga K "TooMany") "__init__") where
  gC := He.glo_ok X G (c1.fact 28 (f := .glo "TooMany") rfl)
  cls := tmCls_ok (cu_at c 0 rfl)
  sa := He.eqO_ok (cu_at c 1 rfl)
  ga := He.eqO_ok (cu_at c 2 rfl)
  gg := He.eqO_ok (cu_at c 3 rfl)
  noN := He.eqO_ok (cu_at c 4 rfl)
  iC := He.eqO_ok (cu_at c 5 rfl)
  tC := of_decide_eq_true (cu_at c 6 rfl)
  kC := cu_at c 7 rfl
  exC := of_decide_eq_true (cu_at c 8 rfl)
  tyC := of_decide_eq_true (cu_at c 9 rfl)
  hdC := cu_at c 10 rfl
  te := He.exm_ok (c1.fact 29 (f := .exm "TooMany" "TooMany" true) rfl)
  mgS := He.free_ok X G (c1.fact 30 (f := .free "super") rfl)
  tp := He.eqO_ok (cu_at c 11 rfl)
  up := He.eqO_ok (cu_at c 12 rfl)
  ve := of_decide_eq_true (cu_at c 13 rfl)
  me := of_decide_eq_true (cu_at c 14 rfl)
  ini := cu_at c 15 rfl
  noSup := by decide +kernel
  fn := tmFn_ok (cu_at c 16 rfl) (congrArg (fun z : AlN => z.2.2) c)
theorem law_of {w : World} {K : PySem.W.Frag} {h : Heap} {mg : Str → Option Value} {f : Addr} (X : K.In h) (G : h.Ns mainGlobals mg) (hfa : mg ("law" : Str) = some (.ref f)) (c : obsN K = valN) :
    ∃ fd : FuncData, (∀ (s : Shared) (v : Value), BindsTo s fd ⟨[v], []⟩ [("_law_script", v)]) ∧ ∀ base : Heap, K.In base → base.Ns mainGlobals mg → FnOk PySem.Challenge.pw_neverleapt_k43_whole_great_steps_and_spa w K mg base CX0 10 f fd ["_law_script"] (spLaw K) := by
  have c1 := saysD c
  have T := txt_of X G c c1
  have TM := tm_of X G c c1
  have e := hfa.symm.trans T.g_law
  cases e
  obtain ⟨fd, F⟩ := T.f_law
  have b := FunD.bindsA (ps := ["_law_script"]) F fun _ _ _ _ _ _ us hl => match us, hl with | [_], _ => rfl
  exact ⟨fd, fun s v => b s [v] rfl, fun base _ _ => ok_law T TM F⟩
end Nv
open PySem PySem.W PySem.Calls PyProof.Rows
theorem PySem.Challenge.cw_neverleapt_k43_whole_great_steps_and_spa_holds : PySem.Challenge.rw_neverleapt_k43_whole_great_steps_and_spa.Holds := by
  w_on; o_law
  refine HandSHeadRun.head_any (r := Nv.RR) (q := view Nv.RR.prog [55]) (H := Nv.hkN) (ob := Nv.obN) (M := 4000) (loose := Nv.looseL) (d := HandSHeadRun.topDef Nv.RR.prog 55) (kwd := []) Nv.obN_eq
    (by kernel_rfl) (fun s => by kernel_rfl) Nv.run (by kernel_rfl) (by kernel_rfl) (by kernel_rfl) (by rfl) (by first | assumption | decide +kernel) (by decide +kernel) ⟨rfl, rfl, rfl, rfl, rfl, by decide +kernel⟩ ?hw ?hc
  case hw => w_witness2
  case hc =>
    refine L2.walk_ofE (l := PySem.Challenge.rw_neverleapt_k43_whole_great_steps_and_spa) (n := 63) (k := 10) (x := "_law_script") (CX := L2.CX0) rfl (by decide) (by kernel_rfl) ⟨rfl, by decide, by decide⟩ ?F (fun _ _ _ _ z => z)
    intro w mg fa h Y G hmg0
    obtain ⟨K, KX, c⟩ := Y
    have hmg : mg ("law" : PySem.Str) = some (.ref fa) := by
      have e : (HandSHeadRun.topDef Nv.RR.prog 55).name = ("law" : PySem.Str) := by kernel_rfl
      rw [← e]
      exact hmg0
    obtain ⟨fd, hb, hF⟩ := Nv.law_of (w := w) KX G hmg c
    exact ⟨K, fd, Nv.spLaw K, KX, hb, fun H a ns hl _ hS => ⟨a, ns, rfl, hS, hl, fun _ => rfl⟩, hF⟩
#print axioms PySem.Challenge.cw_neverleapt_k43_whole_great_steps_and_spa_holds
