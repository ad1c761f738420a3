import PyProof.Rows.All
import Wide.All
import OpenK.AllK
import Wide.FinOn
import HandS.ForMost
import HandS.ForExc
import HandS.Codes
import HandS.Conv
import HandS.Walk
import HandS.Zip
import HandS.TupAny
import HandS.TupMul
import HandS.TupLe
import HandS.IsInst
import HandS.SortInts
import HandS.Small
import HandS.Wide
import KE.DataCmp
import PySem.Challenge.RW_leastlays_k55_whole_papers_through_texts
import KE.GoesMore
import KE.KDictKeyed
set_option Elab.async false
set_option linter.all false
set_option maxRecDepth 100000
set_option maxHeartbeats 4000000
/-! Leastlays: the plain mathematics of the walk and of the looker (no program in sight). -/
namespace LL
abbrev Vec := List Int
def below (a b : Vec) : Bool := (a.zip b).all fun p => decide (p.1 ≤ p.2)
def plus (a b : Vec) : Vec := (a.zip b).map fun p => p.1 + p.2
def unit (w j : Nat) : Vec := List.replicate j 0 ++ [1] ++ List.replicate (w - 1 - j) 0
def aboveAny (s : List Vec) (v : Vec) : Bool := s.any fun o => below o v
def capOk (c : Option Int) (n : Int) : Bool := match c with
  | none => true
  | some k => decide (n ≤ k)
def within (cs : List (Option Int)) (v : Vec) : Bool := (cs.zip v).all fun p => capOk p.1 p.2
def dot (r v : Vec) : Int := ((r.zip v).map fun p => p.1 * p.2).sum
def sums (rs : List Vec) (v : Vec) : Vec := rs.map fun r => dot r v
def isAns (rs : List Vec) (v : Vec) : Bool := (sums rs v).all fun t => decide (t = 0)
def pullBy (rs : List Vec) (ts : Vec) (j : Nat) : Int := ((ts.zip rs).map fun p => p.1 * p.2.getD j 0).sum
def falls (rs : List Vec) (v : Vec) : List Nat := (List.range v.length).filter fun j => decide (pullBy rs (sums rs v) j < 0)

theorem below_nil : below [] [] = true := rfl
theorem below_cons {x y : Int} {a b : Vec} : below (x :: a) (y :: b) = (decide (x ≤ y) && below a b) := rfl
theorem below_refl : ∀ a : Vec, below a a = true
  | [] => rfl
  | x :: a => by rw [below_cons, below_refl a, Bool.and_true]; exact decide_eq_true (Int.le_refl x)
theorem below_sum : ∀ {a b : Vec}, a.length = b.length → below a b = true → a.sum ≤ b.sum
  | [], [], _, _ => Int.le_refl _
  | x :: a, y :: b, hl, h => by
    rw [below_cons, Bool.and_eq_true] at h
    have h1 := of_decide_eq_true h.1
    have h2 := below_sum (Nat.succ.inj hl) h.2
    rw [List.sum_cons, List.sum_cons]
    omega
  | [], _ :: _, hl, _ => nomatch hl
  | _ :: _, [], hl, _ => nomatch hl
theorem below_eq : ∀ {a b : Vec}, a.length = b.length → below a b = true → a.sum = b.sum → a = b
  | [], [], _, _, _ => rfl
  | x :: a, y :: b, hl, h, hs => by
    rw [below_cons, Bool.and_eq_true] at h
    have h1 := of_decide_eq_true h.1
    have h2 := below_sum (Nat.succ.inj hl) h.2
    rw [List.sum_cons, List.sum_cons] at hs
    have e1 : x = y := by omega
    have e2 : a.sum = b.sum := by omega
    rw [e1, below_eq (Nat.succ.inj hl) h.2 e2]
  | [], _ :: _, hl, _, _ => nomatch hl
  | _ :: _, [], hl, _, _ => nomatch hl

theorem plus_length {a b : Vec} (h : a.length = b.length) : (plus a b).length = a.length := by
  unfold plus
  rw [List.length_map, List.length_zip, ← h, Nat.min_self]
theorem plus_cons {x y : Int} {a b : Vec} : plus (x :: a) (y :: b) = (x + y) :: plus a b := rfl
theorem plus_sum : ∀ {a b : Vec}, a.length = b.length → (plus a b).sum = a.sum + b.sum
  | [], [], _ => rfl
  | x :: a, y :: b, hl => by
    rw [plus_cons, List.sum_cons, List.sum_cons, List.sum_cons, plus_sum (Nat.succ.inj hl)]
    omega
  | [], _ :: _, hl => nomatch hl
  | _ :: _, [], hl => nomatch hl
theorem plus_nonneg : ∀ {a b : Vec}, (∀ x ∈ a, 0 ≤ x) → (∀ x ∈ b, 0 ≤ x) → ∀ x ∈ plus a b, 0 ≤ x
  | [], _, _, _, x, hx => by simp [plus] at hx
  | _ :: _, [], _, _, x, hx => by simp [plus] at hx
  | y :: a, z :: b, ha, hb, x, hx => by
    rw [plus_cons] at hx
    rcases List.mem_cons.mp hx with e | hx
    · have h1 := ha y List.mem_cons_self
      have h2 := hb z List.mem_cons_self
      omega
    · exact plus_nonneg (fun u hu => ha u (List.mem_cons_of_mem _ hu)) (fun u hu => hb u (List.mem_cons_of_mem _ hu)) x hx
theorem sum_zeros (n : Nat) : (List.replicate n (0 : Int)).sum = 0 := by
  induction n with
  | zero => rfl
  | succ n ih => rw [List.replicate_succ, List.sum_cons, ih]; rfl
theorem unit_length {w j : Nat} (h : j < w) : (unit w j).length = w := by
  unfold unit
  simp only [List.length_append, List.length_replicate, List.length_cons, List.length_nil]
  omega
theorem unit_sum (w j : Nat) : (unit w j).sum = 1 := by
  unfold unit
  rw [List.sum_append, List.sum_append, sum_zeros, sum_zeros]
  rfl
theorem unit_nonneg (w j : Nat) : ∀ x ∈ unit w j, 0 ≤ x := fun x hx => by
  unfold unit at hx
  rcases List.mem_append.mp hx with hx | hx
  · rcases List.mem_append.mp hx with hx | hx
    · rw [(List.mem_replicate.mp hx).2]; decide
    · rw [List.mem_singleton.mp hx]; decide
  · rw [(List.mem_replicate.mp hx).2]; decide
theorem unit_at (w j : Nat) : (unit w j)[j]? = some 1 := by
  unfold unit
  rw [List.append_assoc, List.getElem?_append_right (by simp)]
  simp
theorem unit_off {w j i : Nat} (hi : i ≠ j) : (unit w j)[i]? ≠ some 1 := by
  unfold unit
  intro h
  have hm : ∀ n k : Nat, (List.replicate n (0 : Int))[k]? ≠ some 1 := fun n k e => by
    have := List.mem_replicate.mp (List.mem_of_getElem? e)
    exact absurd this.2 (by decide)
  rw [List.append_assoc] at h
  by_cases hlt : i < j
  · rw [List.getElem?_append_left (by simpa using hlt)] at h
    exact hm _ _ h
  · rw [List.getElem?_append_right (by simp; omega), List.length_replicate] at h
    obtain ⟨d, hd⟩ : ∃ d, i - j = d + 1 := ⟨i - j - 1, by omega⟩
    rw [hd] at h
    exact hm (w - 1 - j) d (by simpa using h)
theorem unit_inj {w i j : Nat} (h : unit w i = unit w j) : i = j := by
  by_cases e : i = j
  · exact e
  · have := unit_off (w := w) e
    rw [← h, unit_at] at this
    exact absurd rfl this
theorem nd_filter {α : Type} (p : α → Bool) {l : List α} (h : l.Nodup) : (l.filter p).Nodup := List.Pairwise.filter p h
theorem nd_map {α β : Type} {f : α → β} : ∀ {l : List α}, l.Nodup → (∀ a ∈ l, ∀ b ∈ l, f a = f b → a = b) → (l.map f).Nodup
  | [], _, _ => List.nodup_nil
  | x :: l, h, hf => by
    rw [List.nodup_cons] at h
    rw [List.map_cons, List.nodup_cons]
    refine ⟨fun hm => ?_, nd_map h.2 fun a ha b hb => hf a (List.mem_cons_of_mem _ ha) b (List.mem_cons_of_mem _ hb)⟩
    obtain ⟨y, hy, e⟩ := List.mem_map.mp hm
    have := hf y (List.mem_cons_of_mem _ hy) x List.mem_cons_self e
    rw [this] at hy
    exact h.1 hy
theorem falls_lt {rs : List Vec} {v : Vec} {j : Nat} (h : j ∈ falls rs v) : j < v.length := List.mem_range.mp (List.mem_filter.mp h).1
theorem falls_nodup (rs : List Vec) (v : Vec) : (falls rs v).Nodup := nd_filter _ List.nodup_range
theorem aboveAny_iff {s : List Vec} {v : Vec} : aboveAny s v = true ↔ ∃ o ∈ s, below o v = true := by
  unfold aboveAny
  rw [List.any_eq_true]
theorem aboveAny_no {s : List Vec} {v : Vec} : aboveAny s v = false ↔ ∀ o ∈ s, below o v = false := by
  rw [← Bool.not_eq_true, aboveAny_iff]
  constructor
  · intro h o ho
    cases e : below o v with
    | false => rfl
    | true => exact absurd ⟨o, ho, e⟩ h
  · rintro h ⟨o, ho, e⟩
    rw [h o ho] at e
    cases e

/-! ### the walk -/
/-- the vectors that come of the level last -/
structure IsNext (rs : List Vec) (cs : List (Option Int)) (last met new : List Vec) : Prop where
  nodup : new.Nodup
  mem : ∀ v, v ∈ new ↔ ∃ u ∈ last, isAns rs u = false ∧ ∃ j ∈ falls rs u, v = plus u (unit cs.length j) ∧ within cs v = true ∧ aboveAny met v = false
/-- what is kept from level to level -/
structure WInv (rs : List Vec) (cs : List (Option Int)) (levels : List (List Vec)) (met : List Vec) : Prop where
  vec : ∀ (i : Nat) (l : List Vec), levels[i]? = some l → ∀ v ∈ l, v.length = cs.length ∧ (∀ x ∈ v, 0 ≤ x) ∧ within cs v = true ∧ v.sum = (i : Int) + 1
  full : ∀ l ∈ levels, l ≠ []
  nodup : ∀ l ∈ levels, l.Nodup
  metd : met.Nodup
  ans : ∀ v, v ∈ met ↔ (∃ l ∈ levels, v ∈ l) ∧ isAns rs v = true
  least : ∀ l ∈ levels, ∀ v ∈ l, ∀ t ∈ met, below t v = true → t = v
  units : levels ≠ [] → ∀ j, j < cs.length → within cs (unit cs.length j) = true → ∃ l ∈ levels, unit cs.length j ∈ l
  closed : ∀ (i : Nat) (l : List Vec), levels[i]? = some l → i + 1 < levels.length → ∀ v ∈ l, isAns rs v = false → ∀ j ∈ falls rs v, within cs (plus v (unit cs.length j)) = true →
    (∃ l' ∈ levels, plus v (unit cs.length j) ∈ l') ∨ aboveAny met (plus v (unit cs.length j)) = true
  origin : ∀ l ∈ levels, ∀ v ∈ l, (∃ j, j < cs.length ∧ v = unit cs.length j) ∨ ∃ l' ∈ levels, ∃ u ∈ l', u.sum < v.sum ∧ isAns rs u = false ∧ ∃ j ∈ falls rs u, v = plus u (unit cs.length j)
/-- a whole walk: told ones and the paper -/
structure Walked (rs : List Vec) (cs : List (Option Int)) (told paper : List Vec) : Prop where
  vec : ∀ v ∈ paper, v.length = cs.length ∧ (∀ x ∈ v, 0 ≤ x) ∧ within cs v = true ∧ 0 < v.sum ∧ v.sum ≤ (paper.length : Int)
  nodup : paper.Nodup
  tolds : told.Nodup
  ans : ∀ v, v ∈ told ↔ v ∈ paper ∧ isAns rs v = true
  least : ∀ v ∈ paper, ∀ t ∈ told, below t v = true → t = v
  units : ∀ j, j < cs.length → within cs (unit cs.length j) = true → unit cs.length j ∈ paper
  closed : ∀ v ∈ paper, isAns rs v = false → ∀ j ∈ falls rs v, within cs (plus v (unit cs.length j)) = true → plus v (unit cs.length j) ∈ paper ∨ aboveAny told (plus v (unit cs.length j)) = true
  origin : ∀ v ∈ paper, (∃ j, j < cs.length ∧ v = unit cs.length j) ∨ ∃ u ∈ paper, u ≠ v ∧ isAns rs u = false ∧ ∃ j ∈ falls rs u, v = plus u (unit cs.length j)

theorem WInv.empty (rs : List Vec) (cs : List (Option Int)) : WInv rs cs [] [] :=
  ⟨fun i l h => by simp at h, fun l h => by simp at h, fun l h => by simp at h, List.nodup_nil, fun v => by simp, fun l h => by simp at h, fun h => absurd rfl h, fun i l h => by simp at h, fun l h => by simp at h⟩

/-- the first level -/
theorem WInv.first {rs : List Vec} {cs : List (Option Int)} {new lv : List Vec} (hn : new = ((List.range cs.length).map (unit cs.length)).filter (within cs)) (h0 : new ≠ []) (hp : lv.Perm new) :
    WInv rs cs [lv] (new.filter (isAns rs)) := by
  have mem : ∀ v, v ∈ new ↔ (∃ j, j < cs.length ∧ v = unit cs.length j) ∧ within cs v = true := fun v => by
    rw [hn, List.mem_filter, List.mem_map]
    constructor
    · rintro ⟨⟨j, hj, e⟩, h⟩
      exact ⟨⟨j, List.mem_range.mp hj, e.symm⟩, h⟩
    · rintro ⟨⟨j, hj, e⟩, h⟩
      exact ⟨⟨j, List.mem_range.mpr hj, e.symm⟩, h⟩
  have nd : new.Nodup := by
    rw [hn]
    exact nd_filter _ (nd_map List.nodup_range fun a _ b _ e => unit_inj e)
  have only : ∀ {l : List Vec}, l ∈ [lv] → l = lv := fun h => List.mem_singleton.mp h
  have vs : ∀ v ∈ lv, v.length = cs.length ∧ (∀ x ∈ v, 0 ≤ x) ∧ within cs v = true ∧ v.sum = 1 := fun v hv => by
    obtain ⟨⟨j, hj, e⟩, h⟩ := (mem v).mp (hp.mem_iff.mp hv)
    subst e
    exact ⟨unit_length hj, unit_nonneg _ _, h, unit_sum _ _⟩
  refine ⟨fun i l h v hv => ?_, fun l h => ?_, fun l h => ?_, nd_filter _ nd, fun v => ?_, fun l h v hv t ht hb => ?_, fun _ j hj h => ⟨lv, List.mem_singleton.mpr rfl, hp.mem_iff.mpr ((mem _).mpr ⟨⟨j, hj, rfl⟩, h⟩)⟩, fun i l h hi => ?_, fun l h v hv => ?_⟩
  · cases i with
    | zero =>
      have e : lv = l := Option.some.inj h
      subst e
      obtain ⟨a, b, c, d⟩ := vs v hv
      exact ⟨a, b, c, by rw [d]; rfl⟩
    | succ i => simp at h
  · rw [only h]
    intro e
    rw [e] at hp
    exact h0 hp.nil_eq.symm
  · rw [only h]
    exact hp.nodup_iff.mpr nd
  · rw [List.mem_filter]
    constructor
    · rintro ⟨h, a⟩
      exact ⟨⟨lv, List.mem_singleton.mpr rfl, hp.mem_iff.mpr h⟩, a⟩
    · rintro ⟨⟨l, hl, h⟩, a⟩
      rw [only hl] at h
      exact ⟨hp.mem_iff.mp h, a⟩
  · rw [only h] at hv
    obtain ⟨a, _, _, d⟩ := vs v hv
    obtain ⟨a', _, _, d'⟩ := vs t (hp.mem_iff.mpr (List.mem_filter.mp ht).1)
    exact below_eq (a'.trans a.symm) hb (d'.trans d.symm)
  · exact absurd hi (by simp)
  · rw [only h] at hv
    exact .inl ((mem v).mp (hp.mem_iff.mp hv)).1

/-- a further level -/
theorem WInv.next {rs : List Vec} {cs : List (Option Int)} {levels : List (List Vec)} {met last new lv : List Vec} (I : WInv rs cs levels met) (hlast : levels.getLast? = some last) (N : IsNext rs cs last met new) (h0 : new ≠ []) (hp : lv.Perm new) :
    WInv rs cs (levels ++ [lv]) (met ++ new.filter (isAns rs)) := by
  have hne : levels ≠ [] := fun e => by rw [e] at hlast; cases hlast
  have hlen : 0 < levels.length := List.length_pos_iff.mpr hne
  have hla : levels[levels.length - 1]? = some last := by rw [List.getLast?_eq_getElem?] at hlast; exact hlast
  have hlm : last ∈ levels := List.mem_of_getElem? hla
  have lvmem : ∀ v, v ∈ lv ↔ v ∈ new := fun v => hp.mem_iff
  have nv : ∀ v ∈ lv, v.length = cs.length ∧ (∀ x ∈ v, 0 ≤ x) ∧ within cs v = true ∧ v.sum = (levels.length : Int) + 1 := fun v hv => by
    obtain ⟨u, hu, _, j, hj, e, hw, _⟩ := (N.mem v).mp ((lvmem v).mp hv)
    obtain ⟨a, b, c, d⟩ := I.vec _ _ hla u hu
    have hj' : j < cs.length := by have := falls_lt hj; omega
    have hl : u.length = (unit cs.length j).length := by rw [a, unit_length hj']
    refine ⟨?_, ?_, hw, ?_⟩
    · rw [e, plus_length hl, a]
    · rw [e]; exact plus_nonneg b (unit_nonneg _ _)
    · rw [e, plus_sum hl, unit_sum, d]; omega
  have old : ∀ l ∈ levels, ∀ v ∈ l, v.length = cs.length ∧ v.sum ≤ (levels.length : Int) := fun l hl v hv => by
    obtain ⟨i, hi, e⟩ := List.mem_iff_getElem.mp hl
    obtain ⟨a, _, _, d⟩ := I.vec i l (by rw [List.getElem?_eq_getElem hi, e]) v hv
    exact ⟨a, by omega⟩
  have mets : ∀ t ∈ met, t.length = cs.length ∧ t.sum ≤ (levels.length : Int) := fun t ht => by
    obtain ⟨⟨l, hl, hv⟩, _⟩ := (I.ans t).mp ht
    exact old l hl t hv
  have memL : ∀ l, l ∈ levels ++ [lv] ↔ l ∈ levels ∨ l = lv := fun l => by rw [List.mem_append, List.mem_singleton]
  have nm : ∀ t, t ∈ new.filter (isAns rs) ↔ t ∈ lv ∧ isAns rs t = true := fun t => by rw [List.mem_filter, lvmem]
  refine ⟨fun i l h v hv => ?_, fun l h => ?_, fun l h => ?_, ?_, fun v => ?_, fun l h v hv t ht hb => ?_, fun _ j hj h => ?_, fun i l h hi v hv hv0 j hj hw => ?_, fun l h v hv => ?_⟩
  · by_cases hi : i < levels.length
    · rw [List.getElem?_append_left hi] at h
      exact I.vec i l h v hv
    · rw [List.getElem?_append_right (by omega)] at h
      obtain ⟨e1, e2⟩ : i = levels.length ∧ lv = l := by
        by_cases hz : i - levels.length = 0
        · rw [hz] at h
          exact ⟨by omega, Option.some.inj h⟩
        · obtain ⟨d, hd⟩ : ∃ d, i - levels.length = d + 1 := ⟨i - levels.length - 1, by omega⟩
          rw [hd] at h
          simp at h
      subst e1 e2
      exact nv v hv
  · rcases (memL l).mp h with h | e
    · exact I.full l h
    · rw [e]
      intro e'
      rw [e'] at hp
      exact h0 hp.nil_eq.symm
  · rcases (memL l).mp h with h | e
    · exact I.nodup l h
    · rw [e]
      exact hp.nodup_iff.mpr N.nodup
  · rw [List.nodup_append]
    refine ⟨I.metd, nd_filter _ N.nodup, fun a ha b hb e => ?_⟩
    subst e
    have h1 := (mets a ha).2
    have h2 := (nv a ((nm a).mp hb).1).2.2.2
    omega
  · rw [List.mem_append, nm, I.ans]
    constructor
    · rintro (⟨⟨l, hl, h⟩, a⟩ | ⟨h, a⟩)
      · exact ⟨⟨l, (memL l).mpr (.inl hl), h⟩, a⟩
      · exact ⟨⟨lv, (memL lv).mpr (.inr rfl), h⟩, a⟩
    · rintro ⟨⟨l, hl, h⟩, a⟩
      rcases (memL l).mp hl with hl | e
      · exact .inl ⟨⟨l, hl, h⟩, a⟩
      · rw [e] at h
        exact .inr ⟨h, a⟩
  · rcases List.mem_append.mp ht with ht | ht
    · rcases (memL l).mp h with h | e
      · exact I.least l h v hv t ht hb
      · rw [e] at hv
        obtain ⟨u, _, _, j, _, _, _, hno⟩ := (N.mem v).mp ((lvmem v).mp hv)
        rw [aboveAny_no.mp hno t ht] at hb
        cases hb
    · obtain ⟨a, _, _, d⟩ := nv t ((nm t).mp ht).1
      rcases (memL l).mp h with h | e
      · obtain ⟨a', d'⟩ := old l h v hv
        have := below_sum (a.trans a'.symm) hb
        omega
      · rw [e] at hv
        obtain ⟨a', _, _, d'⟩ := nv v hv
        exact below_eq (a.trans a'.symm) hb (d.trans d'.symm)
  · obtain ⟨l, hl, hv⟩ := I.units hne j hj h
    exact ⟨l, (memL l).mpr (.inl hl), hv⟩
  · rw [List.length_append, List.length_singleton] at hi
    have hi' : i < levels.length := by omega
    rw [List.getElem?_append_left hi'] at h
    have up : ∀ z, aboveAny met z = true → aboveAny (met ++ new.filter (isAns rs)) z = true := fun z hz => by
      obtain ⟨o, ho, hb⟩ := aboveAny_iff.mp hz
      exact aboveAny_iff.mpr ⟨o, List.mem_append_left _ ho, hb⟩
    by_cases hlt : i + 1 < levels.length
    · rcases I.closed i l h hlt v hv hv0 j hj hw with ⟨l', hl', h'⟩ | h'
      · exact .inl ⟨l', (memL l').mpr (.inl hl'), h'⟩
      · exact .inr (up _ h')
    · have ei : i = levels.length - 1 := by omega
      rw [ei, hla] at h
      have el : last = l := Option.some.inj h
      subst el
      cases hab : aboveAny met (plus v (unit cs.length j)) with
      | true => exact .inr (up _ hab)
      | false => exact .inl ⟨lv, (memL lv).mpr (.inr rfl), (lvmem _).mpr ((N.mem _).mpr ⟨v, hv, hv0, j, hj, rfl, hw, hab⟩)⟩
  · rcases (memL l).mp h with h | e
    · rcases I.origin l h v hv with h' | ⟨l', hl', r⟩
      · exact .inl h'
      · exact .inr ⟨l', (memL l').mpr (.inl hl'), r⟩
    · rw [e] at hv
      obtain ⟨u, hu, hu0, j, hj, e', _, _⟩ := (N.mem v).mp ((lvmem v).mp hv)
      refine .inr ⟨last, (memL last).mpr (.inl hlm), u, hu, ?_, hu0, j, hj, e'⟩
      have h1 := (old last hlm u hu).2
      have h2 := (nv v hv).2.2.2
      omega

theorem flatten_length : ∀ {ls : List (List Vec)}, (∀ l ∈ ls, l ≠ []) → ls.length ≤ ls.flatten.length
  | [], _ => Nat.le_refl _
  | l :: ls, h => by
    rw [List.flatten_cons, List.length_append, List.length_cons]
    have h1 := flatten_length (ls := ls) fun x hx => h x (List.mem_cons_of_mem _ hx)
    have h2 : 0 < l.length := List.length_pos_iff.mpr (h l List.mem_cons_self)
    omega
theorem flatten_nodup {ls : List (List Vec)} (hn : ∀ l ∈ ls, l.Nodup) (hs : ∀ (i : Nat) (l : List Vec), ls[i]? = some l → ∀ v ∈ l, v.sum = (i : Int) + 1) : ls.flatten.Nodup := by
  have gen : ∀ (ls : List (List Vec)) (k : Int), (∀ l ∈ ls, l.Nodup) → (∀ (i : Nat) (l : List Vec), ls[i]? = some l → ∀ v ∈ l, v.sum = k + (i : Int)) → ls.flatten.Nodup := by
    intro ls
    induction ls with
    | nil => intro k _ _; exact List.nodup_nil
    | cons l ls ih =>
      intro k hn hs
      rw [List.flatten_cons, List.nodup_append]
      refine ⟨hn l List.mem_cons_self, ih (k + 1) (fun x hx => hn x (List.mem_cons_of_mem _ hx)) (fun i x hx v hv => ?_), fun a ha b hb e => ?_⟩
      · have := hs (i + 1) x (by rw [List.getElem?_cons_succ]; exact hx) v hv
        omega
      · subst e
        have h1 := hs 0 l rfl a ha
        obtain ⟨x, hx, hv⟩ := List.mem_flatten.mp hb
        obtain ⟨i, hi, e⟩ := List.mem_iff_getElem.mp hx
        have h2 := hs (i + 1) x (by rw [List.getElem?_cons_succ, List.getElem?_eq_getElem hi, e]) a hv
        omega
  exact gen ls 1 hn fun i l h v hv => by have := hs i l h v hv; omega
/-- where the walk ends -/
theorem WInv.done {rs : List Vec} {cs : List (Option Int)} {levels : List (List Vec)} {met told last : List Vec} (I : WInv rs cs levels met) (hlast : levels.getLast? = some last) (N : IsNext rs cs last met []) (hp : told.Perm met) :
    Walked rs cs told levels.flatten := by
  have hne : levels ≠ [] := fun e => by rw [e] at hlast; cases hlast
  have hla : levels[levels.length - 1]? = some last := by rw [List.getLast?_eq_getElem?] at hlast; exact hlast
  have mp : ∀ v, v ∈ levels.flatten ↔ ∃ l ∈ levels, v ∈ l := fun v => List.mem_flatten
  have ab : ∀ z, aboveAny met z = true → aboveAny told z = true := fun z hz => by
    obtain ⟨o, ho, hb⟩ := aboveAny_iff.mp hz
    exact aboveAny_iff.mpr ⟨o, hp.mem_iff.mpr ho, hb⟩
  refine ⟨fun v hv => ?_, flatten_nodup I.nodup fun i l h v hv => (I.vec i l h v hv).2.2.2, hp.nodup_iff.mpr I.metd, fun v => ?_, fun v hv t ht hb => ?_, fun j hj h => ?_, fun v hv hv0 j hj hw => ?_, fun v hv => ?_⟩
  · obtain ⟨l, hl, h⟩ := (mp v).mp hv
    obtain ⟨i, hi, e⟩ := List.mem_iff_getElem.mp hl
    obtain ⟨a, b, c, d⟩ := I.vec i l (by rw [List.getElem?_eq_getElem hi, e]) v h
    have := flatten_length I.full
    exact ⟨a, b, c, by omega, by omega⟩
  · rw [hp.mem_iff, I.ans, mp]
  · obtain ⟨l, hl, h⟩ := (mp v).mp hv
    exact I.least l hl v h t (hp.mem_iff.mp ht) hb
  · exact (mp _).mpr (I.units hne j hj h)
  · obtain ⟨l, hl, h⟩ := (mp v).mp hv
    obtain ⟨i, hi, e⟩ := List.mem_iff_getElem.mp hl
    have hg : levels[i]? = some l := by rw [List.getElem?_eq_getElem hi, e]
    by_cases hlt : i + 1 < levels.length
    · rcases I.closed i l hg hlt v h hv0 j hj hw with h' | h'
      · exact .inl ((mp _).mpr h')
      · exact .inr (ab _ h')
    · have ei : i = levels.length - 1 := by omega
      rw [ei, hla] at hg
      have el : last = l := Option.some.inj hg
      subst el
      cases hab : aboveAny met (plus v (unit cs.length j)) with
      | true => exact .inr (ab _ hab)
      | false => exact absurd ((N.mem _).mpr ⟨v, h, hv0, j, hj, rfl, hw, hab⟩) (by simp)
  · obtain ⟨l, hl, h⟩ := (mp v).mp hv
    rcases I.origin l hl v h with h' | ⟨l', hl', u, hu, hs, r⟩
    · exact .inl h'
    · refine .inr ⟨u, (mp u).mpr ⟨l', hl', hu⟩, fun e => ?_, r⟩
      rw [e] at hs
      exact absurd hs (Int.lt_irrefl _)

/-! ### the looker -/
def isMet (cs : List (Option Int)) (told paper : List Vec) (v : Vec) : Bool := !within cs v || (decide (v ∈ paper) || aboveAny told v)
def goesOn (rs : List Vec) (cs : List (Option Int)) (told paper : List Vec) (v : Vec) : Bool :=
  if aboveAny told v = true then true else if isAns rs v = true then false else (falls rs v).all fun j => isMet cs told paper (plus v (unit cs.length j))
def holds (rs : List Vec) (cs : List (Option Int)) (told paper : List Vec) : Bool :=
  ((List.range cs.length).all fun j => isMet cs told paper (unit cs.length j)) && paper.all fun v => goesOn rs cs told paper v
theorem isMet_congr {cs : List (Option Int)} {told p q : List Vec} (h : ∀ v, v ∈ p ↔ v ∈ q) (v : Vec) : isMet cs told p v = isMet cs told q v := by
  unfold isMet
  rw [show decide (v ∈ p) = decide (v ∈ q) from by rw [decide_eq_decide]; exact h v]
theorem goesOn_congr {rs : List Vec} {cs : List (Option Int)} {told p q : List Vec} (h : ∀ v, v ∈ p ↔ v ∈ q) (v : Vec) : goesOn rs cs told p v = goesOn rs cs told q v := by
  unfold goesOn
  rw [show (fun j => isMet cs told p (plus v (unit cs.length j))) = fun j => isMet cs told q (plus v (unit cs.length j)) from funext fun j => isMet_congr h _]
theorem all_mem {α : Type} {p q : List α} (h : ∀ v, v ∈ p ↔ v ∈ q) (f : α → Bool) : p.all f = q.all f := by
  rw [Bool.eq_iff_iff, List.all_eq_true, List.all_eq_true]
  exact ⟨fun a x hx => a x ((h x).mpr hx), fun a x hx => a x ((h x).mp hx)⟩
/-- what is on the paper, not where or how often, is what counts -/
theorem holds_congr {rs : List Vec} {cs : List (Option Int)} {told p q : List Vec} (h : ∀ v, v ∈ p ↔ v ∈ q) : holds rs cs told p = holds rs cs told q := by
  unfold holds
  rw [show (fun j => isMet cs told p (unit cs.length j)) = fun j => isMet cs told q (unit cs.length j) from funext fun j => isMet_congr h _,
    show (fun v => goesOn rs cs told p v) = fun v => goesOn rs cs told q v from funext fun v => goesOn_congr h v, all_mem h]
theorem isMet_true {cs : List (Option Int)} {told paper : List Vec} {v : Vec} : isMet cs told paper v = true ↔ (within cs v = true → v ∈ paper ∨ aboveAny told v = true) := by
  unfold isMet
  cases within cs v with
  | false => simp
  | true => simp
theorem goesOn_true {rs : List Vec} {cs : List (Option Int)} {told paper : List Vec} {v : Vec} :
    goesOn rs cs told paper v = true ↔ (aboveAny told v = true ∨ (isAns rs v = false ∧ ∀ j ∈ falls rs v, isMet cs told paper (plus v (unit cs.length j)) = true)) := by
  unfold goesOn
  cases aboveAny told v with
  | true => simp
  | false =>
    cases isAns rs v with
    | true => simp
    | false => simp
theorem holds_true {rs : List Vec} {cs : List (Option Int)} {told paper : List Vec} :
    holds rs cs told paper = true ↔ (∀ j, j < cs.length → isMet cs told paper (unit cs.length j) = true) ∧ ∀ v ∈ paper, goesOn rs cs told paper v = true := by
  unfold holds
  rw [Bool.and_eq_true, List.all_eq_true, List.all_eq_true]
  constructor
  · rintro ⟨a, b⟩
    exact ⟨fun j hj => a j (List.mem_range.mpr hj), b⟩
  · rintro ⟨a, b⟩
    exact ⟨fun j hj => a j (List.mem_range.mp hj), b⟩

section
variable {rs : List Vec} {cs : List (Option Int)} {told paper : List Vec}
theorem Walked.self (W : Walked rs cs told paper) {v : Vec} (h : v ∈ told) : aboveAny told v = true := aboveAny_iff.mpr ⟨v, h, below_refl v⟩
/-- the walk's own paper is taken -/
theorem Walked.taken (W : Walked rs cs told paper) : holds rs cs told paper = true := by
  refine holds_true.mpr ⟨fun j hj => isMet_true.mpr fun h => .inl (W.units j hj h), fun v hv => goesOn_true.mpr ?_⟩
  cases e : isAns rs v with
  | true => exact .inl (W.self ((W.ans v).mpr ⟨hv, e⟩))
  | false => exact .inr ⟨rfl, fun j hj => isMet_true.mpr fun h => W.closed v hv e j hj h⟩
/-- with a told one left out it isn't -/
theorem Walked.untold (W : Walked rs cs told paper) {i : Nat} (hi : i < told.length) : holds rs cs (told.eraseIdx i) paper = false := by
  have ht : told[i] ∈ told := List.getElem_mem hi
  obtain ⟨hp, ha⟩ := (W.ans _).mp ht
  have hnot : told[i] ∉ told.eraseIdx i := fun h => by
    obtain ⟨j, hj, e⟩ := List.mem_eraseIdx_iff_getElem.mp h
    obtain ⟨hne, hj2, e2⟩ : j ≠ i ∧ ∃ h : j < told.length, told[j] = told[i] := by
      first
        | exact ⟨e.1, hj, e.2⟩
        | exact ⟨hj.1, hj.2, e⟩
    exact hne ((List.getElem_inj W.tolds).mp e2)
  have hab : aboveAny (told.eraseIdx i) told[i] = false := aboveAny_no.mpr fun o ho => by
    cases e : below o told[i] with
    | false => rfl
    | true =>
      have := W.least _ hp o (List.mem_of_mem_eraseIdx ho) e
      rw [this] at ho
      exact absurd ho hnot
  rw [← Bool.not_eq_true, holds_true]
  rintro ⟨_, h⟩
  rcases goesOn_true.mp (h _ hp) with h' | ⟨h', _⟩
  · rw [hab] at h'; cases h'
  · rw [ha] at h'; cases h'
/-- with a step left out it is taken just where the step is an answer -/
theorem Walked.unstep (W : Walked rs cs told paper) {i : Nat} (hi : i < paper.length) : holds rs cs told (paper.eraseIdx i) = isAns rs paper[i] := by
  have hm : paper[i] ∈ paper := List.getElem_mem hi
  have mem : ∀ v, v ∈ paper.eraseIdx i ↔ v ∈ paper ∧ v ≠ paper[i] := fun v => by
    constructor
    · intro h
      refine ⟨List.mem_of_mem_eraseIdx h, fun e => ?_⟩
      obtain ⟨j, hj, e'⟩ := List.mem_eraseIdx_iff_getElem.mp h
      obtain ⟨hne, hj2, e2⟩ : j ≠ i ∧ ∃ h : j < paper.length, paper[j] = v := by
        first
          | exact ⟨e'.1, hj, e'.2⟩
          | exact ⟨hj.1, hj.2, e'⟩
      exact hne ((List.getElem_inj W.nodup).mp (e2.trans e))
    · rintro ⟨h, hne⟩
      obtain ⟨j, hj, e⟩ := List.mem_iff_getElem.mp h
      have hji : j ≠ i := fun z => by subst z; exact hne e.symm
      refine List.mem_eraseIdx_iff_getElem.mpr ?_
      first
        | exact ⟨j, hj, hji, e⟩
        | exact ⟨j, ⟨hji, hj⟩, e⟩
  cases ea : isAns rs paper[i] with
  | true =>
    have hin : ∀ v, v ∈ paper → v ∈ paper.eraseIdx i ∨ aboveAny told v = true := fun v hv => by
      by_cases e : v = paper[i]
      · rw [e]; exact .inr (W.self ((W.ans _).mpr ⟨hm, ea⟩))
      · exact .inl ((mem v).mpr ⟨hv, e⟩)
    refine holds_true.mpr ⟨fun j hj => isMet_true.mpr fun h => hin _ (W.units j hj h), fun v hv => goesOn_true.mpr ?_⟩
    have hv' := ((mem v).mp hv).1
    cases e : isAns rs v with
    | true => exact .inl (W.self ((W.ans v).mpr ⟨hv', e⟩))
    | false =>
      refine .inr ⟨rfl, fun j hj => isMet_true.mpr fun h => ?_⟩
      rcases W.closed v hv' e j hj h with h' | h'
      · exact hin _ h'
      · exact .inr h'
  | false =>
    have nab : ∀ v ∈ paper, isAns rs v = false → aboveAny told v = false := fun v hv he => aboveAny_no.mpr fun o ho => by
      cases e : below o v with
      | false => rfl
      | true =>
        have := W.least v hv o ho e
        rw [this] at ho
        rw [((W.ans v).mp ho).2] at he
        cases he
    have hno : isMet cs told (paper.eraseIdx i) paper[i] = false := by
      rw [← Bool.not_eq_true, isMet_true]
      intro h
      rcases h (W.vec _ hm).2.2.1 with h' | h'
      · exact ((mem _).mp h').2 rfl
      · rw [nab _ hm ea] at h'; cases h'
    rw [← Bool.not_eq_true, holds_true]
    rintro ⟨hu, hg⟩
    rcases W.origin _ hm with ⟨j, hj, e⟩ | ⟨u, hu', hne, hua, j, hj, e⟩
    · have := hu j hj
      rw [← e, hno] at this
      cases this
    · rcases goesOn_true.mp (hg u ((mem u).mpr ⟨hu', hne⟩)) with h' | ⟨_, h'⟩
      · rw [nab u hu' hua] at h'; cases h'
      · have := h' j hj
        rw [← e, hno] at this
        cases this
/-- with a step line twice it is taken -/
theorem Walked.twice (W : Walked rs cs told paper) {q : List Vec} (h : ∀ v, v ∈ q ↔ v ∈ paper) : holds rs cs told q = true := by
  rw [holds_congr h]
  exact W.taken
end
end LL
/-! Leastlays: helpers over the hand layer. -/
namespace LL
open PySem PySem.Spec PyProof.Rows L2
/-! ### the text by places -/
def top (i : Nat) : Stmt := PySem.Challenge.pw_leastlays_k55_whole_papers_through_texts.main.body.getD i (.Pass ⟨0, 0, 0, 0⟩)
/-- a def of the module's top -/
structure Dn (K : PySem.W.Frag) (mg : Str → Option Value) (x : Str) (st : Stmt) (ps : List Str) : Prop where
  ex : ∃ (f : Addr) (fd : FuncData), Fun K x x st f fd ∧ mg x = some (.ref f) ∧ Binds K fd ps []
section
variable {P : Program} {w : World} {K : PySem.W.Frag} {mg : Str → Option Value} {base : Heap}
theorem Dn.cal {x : Str} {st : Stmt} {N ps : List Str} {k : Nat} {sp : Sp} (D : Dn K mg x st ps) (S : FnScope N ps (defScope st)) (len : ∀ vs H Q E, sp vs H Q E → vs.length = ps.length)
    (hbody : ∀ (f : Addr) (cdv : Value) (A : Around) (outer : List Env) (s : Shared) (H : Hp) (vs : List V) (Q : VK) (E : XK), Room k (A.deeper (envOfC x (defScope st) s.heap.objs.size f cdv)) → sp vs H Q E →
      ∃ t, PSs (cxOf CX0 P w K mg base N x (defScope st) f cdv A outer s H E).nox (defBody st) t ∧ t { nx := fun _ H' => Q .non H', rt := Q } (start N vs) H) : C8.Cal P w K mg base (k + 1) x sp [] := by
  obtain ⟨f, fd, F, g, b⟩ := D.ex
  exact ⟨f, fd, ps, [], F.ok S len (hbody f), g, F.kp, b, .nil⟩
end
/-! ### heaps -/
theorem same_new {H : Hp} {p : Addr} {o : HO} (h : H p = none) : Same H (upd H p o) := fun b x e => by
  rw [upd_ne (ne_of_none e h)]
  exact e
/-- what H does not know may change -/
theorem same_mut {H H' : Hp} {p : Addr} {o : HO} (s : Same H H') (h : H p = none) : Same H (upd H' p o) := fun b x e => by
  rw [upd_ne (ne_of_none e h)]
  exact s b x e
theorem _root_.L2.Same.tup {K : PySem.W.Frag} {H H' : Hp} {a : Addr} {xs : List V} (e : Same H H') (h : SqT K H a xs) : SqT K H' a xs := by
  rcases h with (h | ⟨o, h⟩) | h
  · exact .inl (.inl (e _ _ h))
  · exact .inl (.inr ⟨o, e _ _ h⟩)
  · exact .inr h
/-- the tuples stay -/
def TupS (H H' : Hp) : Prop := ∀ a xs, H a = some (.tup xs) → H' a = some (.tup xs)
theorem _root_.L2.Same.tups {H H' : Hp} (s : Same H H') : TupS H H' := fun a _ h => s a _ h
theorem TupS.refl (H : Hp) : TupS H H := fun _ _ h => h
theorem TupS.trans {H H1 H2 : Hp} (a : TupS H H1) (b : TupS H1 H2) : TupS H H2 := fun c o h => b c o (a c o h)
theorem tups_upd {H : Hp} {D : Addr} {o : HO} (h : ∀ xs, H D ≠ some (.tup xs)) : TupS H (upd H D o) := fun a xs e => by
  rw [upd_ne (fun z => by rw [z] at e; exact h xs e)]
  exact e
theorem tups_lst {H : Hp} {D : Addr} {ys : List V} {o : HO} (h : H D = some (.lst ys)) : TupS H (upd H D o) := tups_upd fun xs e => by
  rw [h] at e
  cases e
/-! ### what stands for a vector, a tuple of things -/
/-- x is a tuple of these ints -/
def IsVec (H : Hp) (x : V) (v : List Int) : Prop := ∃ a : Addr, x = .ref a ∧ H a = some (.tup (v.map V.int))
theorem IsVec.tups {H H' : Hp} {x : V} {v : List Int} (h : IsVec H x v) (s : TupS H H') : IsVec H' x v := let ⟨a, e, h⟩ := h; ⟨a, e, s _ _ h⟩
theorem IsVec.same {H H' : Hp} {x : V} {v : List Int} (h : IsVec H x v) (s : Same H H') : IsVec H' x v := h.tups s.tups
def Vecs (H : Hp) (xs : List V) (vs : List (List Int)) : Prop := Paired (IsVec H) xs vs
theorem Vecs.tups {H H' : Hp} : ∀ {xs : List V} {vs : List (List Int)}, Vecs H xs vs → TupS H H' → Vecs H' xs vs
  | _, _, .nil, _ => .nil
  | _, _, .cons h t, s => .cons (h.tups s) (Vecs.tups t s)
theorem Vecs.same {H H' : Hp} {xs : List V} {vs : List (List Int)} (h : Vecs H xs vs) (s : Same H H') : Vecs H' xs vs := h.tups s.tups
/-- x is a tuple of vectors -/
def IsVecT (H : Hp) (x : V) (vs : List (List Int)) : Prop := ∃ (a : Addr) (xs : List V), x = .ref a ∧ H a = some (.tup xs) ∧ Vecs H xs vs
theorem IsVecT.tups {H H' : Hp} {x : V} {vs : List (List Int)} (h : IsVecT H x vs) (s : TupS H H') : IsVecT H' x vs :=
  let ⟨a, xs, e, h, r⟩ := h; ⟨a, xs, e, s _ _ h, r.tups s⟩
theorem IsVecT.same {H H' : Hp} {x : V} {vs : List (List Int)} (h : IsVecT H x vs) (s : Same H H') : IsVecT H' x vs := h.tups s.tups
/-- x is a list of vectors -/
def IsVecL (H : Hp) (x : V) (vs : List (List Int)) : Prop := ∃ (a : Addr) (xs : List V), x = .ref a ∧ H a = some (.lst xs) ∧ Vecs H xs vs
theorem IsVecL.same {H H' : Hp} {x : V} {vs : List (List Int)} (h : IsVecL H x vs) (s : Same H H') : IsVecL H' x vs :=
  let ⟨a, xs, e, h, r⟩ := h; ⟨a, xs, e, s _ _ h, r.same s⟩
def capV : Option Int → V
  | none => .non
  | some n => .int n
/-- x is a tuple of caps -/
def IsCaps (H : Hp) (x : V) (cs : List (Option Int)) : Prop := ∃ a : Addr, x = .ref a ∧ H a = some (.tup (cs.map capV))
theorem IsCaps.tups {H H' : Hp} {x : V} {cs : List (Option Int)} (h : IsCaps H x cs) (s : TupS H H') : IsCaps H' x cs := let ⟨a, e, h⟩ := h; ⟨a, e, s _ _ h⟩
theorem IsCaps.same {H H' : Hp} {x : V} {cs : List (Option Int)} (h : IsCaps H x cs) (s : Same H H') : IsCaps H' x cs := h.tups s.tups
theorem pget {α β : Type} {F : α → β → Prop} : ∀ {l : List α} {m : List β} {i : Nat} {x : α}, Paired F l m → l[i]? = some x → ∃ y, m[i]? = some y ∧ F x y
  | _, _, _, _, .nil, h => by simp at h
  | _, _, 0, x, .cons r _, h => by
    have e := Option.some.inj h
    subst e
    exact ⟨_, rfl, r⟩
  | _, _, i + 1, x, .cons _ t, h => by
    obtain ⟨y, h1, h2⟩ := pget (i := i) t (by simpa using h)
    exact ⟨y, by simpa using h1, h2⟩
theorem pgetR {α β : Type} {F : α → β → Prop} : ∀ {l : List α} {m : List β} {i : Nat} {y : β}, Paired F l m → m[i]? = some y → ∃ x, l[i]? = some x ∧ F x y
  | _, _, _, _, .nil, h => by simp at h
  | _, _, 0, x, .cons r _, h => by
    have e := Option.some.inj h
    subst e
    exact ⟨_, rfl, r⟩
  | _, _, i + 1, x, .cons _ t, h => by
    obtain ⟨y, h1, h2⟩ := pgetR (i := i) t (by simpa using h)
    exact ⟨y, by simpa using h1, h2⟩
theorem plen {α β : Type} {F : α → β → Prop} {l : List α} {m : List β} (h : Paired F l m) : l.length = m.length := Paired.length h
theorem psnoc {α β : Type} {F : α → β → Prop} : ∀ {l : List α} {m : List β} {x : α} {y : β}, Paired F l m → F x y → Paired F (l ++ [x]) (m ++ [y])
  | _, _, _, _, .nil, h => .cons h .nil
  | _, _, _, _, .cons r t, h => .cons r (psnoc t h)
theorem papp {α β : Type} {F : α → β → Prop} : ∀ {l l' : List α} {m m' : List β}, Paired F l m → Paired F l' m' → Paired F (l ++ l') (m ++ m')
  | _, _, _, _, .nil, h => h
  | _, _, _, _, .cons r t, h => .cons r (papp t h)
theorem pimp {α β : Type} {F G : α → β → Prop} (i : ∀ a b, F a b → G a b) : ∀ {l : List α} {m : List β}, Paired F l m → Paired G l m
  | _, _, .nil => .nil
  | _, _, .cons r t => .cons (i _ _ r) (pimp i t)
theorem pmapL {α β γ : Type} {F : α → β → Prop} {f : γ → α} : ∀ {l : List γ} {m : List β}, Paired F (l.map f) m → Paired (fun c b => F (f c) b) l m
  | [], _, .nil => .nil
  | _ :: _, _, .cons r t => .cons r (pmapL t)
/-! ### comprehensions -/
/-- the turns that keep, ahead of turn n -/
def kept (kp : Nat → Bool) (n : Nat) : List Nat := (List.range n).filter kp
theorem kept_zero (kp : Nat → Bool) : kept kp 0 = [] := rfl
theorem kept_yes {kp : Nat → Bool} {n : Nat} (h : kp n = true) : kept kp (n + 1) = kept kp n ++ [n] := by
  unfold kept
  rw [List.range_succ, List.filter_append, List.filter_cons, if_pos h] <;> rfl
theorem kept_no {kp : Nat → Bool} {n : Nat} (h : kp n = false) : kept kp (n + 1) = kept kp n := by
  unfold kept
  rw [List.range_succ, List.filter_append, List.filter_cons, if_neg (by rw [h]; exact Bool.false_ne_true), List.filter_nil, List.append_nil]
theorem kept_le (kp : Nat → Bool) (n : Nat) : (kept kp n).length ≤ n := by
  unfold kept
  exact Nat.le_trans (List.length_filter_le _ _) (by rw [List.length_range]; exact Nat.le_refl _)
theorem kept_all (n : Nat) : kept (fun _ => true) n = List.range n := by
  unfold kept
  exact List.filter_eq_self.mpr fun _ _ => rfl
/-- a comprehension whose turns change nothing that stood: kp says which turns keep; the element stands in R with its turn -/
theorem lc_same {J : It} {n : Nat} {G : Hp → Prop} {Y : Nat → Hp → V → Hp → Prop} (w : Walk J n G Y) {g : TG} {tt : TT} {te : TE} {vs : List Nat} {σ : L2.St} {H1 : Hp} {D : Addr} {Qd : Hp → Prop}
    (hD : H1 D = none) (kp : Nat → Bool) (R : Nat → V → Hp → Prop) (hR : ∀ i v H H', R i v H → TupS H H' → R i v H') (hG : ∀ H, Same H1 H → G H) (hn : n ≤ 100000)
    (hs : ∀ i x H H', i < n → Same H1 H → Y i H x H' → ∀ (K1 : VK) (K0 : Hp → Prop), (kp i = true → ∀ y H4, Same H H4 → R i y H4 → K1 y H4) → (kp i = false → ∀ H3, Same H H3 → K0 H3) →
      g x (wipe σ vs) H' fun σ2 H2 => wipe σ2 vs = wipe σ vs ∧ tt σ2 H2 fun b H3 => if b = true then te σ2 H3 K1 else K0 H3)
    (hd : ∀ H acc, Same H1 H → H D = some (.lst acc) → Paired (fun y i => R i y H) acc (kept kp n) → Qd H) :
    ∃ W : Nat → Nat → Hp → Prop, (∃ m, W 0 m (upd H1 D (.lst []))) ∧ ∀ i m H, W i m H →
      (J.stop i H ∧ Qd H) ∨ (J.go i H ∧ ∃ Nx : Hp → Prop, (∀ H', Nx H' → ∃ m', m' < m ∧ W (i + 1) m' H') ∧ ∀ x H', J.yld i H x H' → g x (wipe σ vs) H' fun σ2 H2 => wipe σ2 vs = wipe σ vs ∧ tt σ2 H2 fun b H3 =>
        if b = true then te σ2 H3 fun y H4 => ∃ acc, H4 D = some (.lst acc) ∧ acc.length < sizeLine ∧ Nx (upd H4 D (.lst (acc ++ [y]))) else Nx H3) := by
  refine lc_it w (fun i H => Same H1 H ∧ ∃ acc, H D = some (.lst acc) ∧ Paired (fun y i => R i y H) acc (kept kp i)) ⟨same_new hD, [], upd_same, .nil⟩ (fun i H _ ⟨s, _⟩ => hG H s) (fun i x H H' hi ⟨s, acc, ha, hp⟩ y => ?_) (fun H ⟨s, acc, ha, hp⟩ => hd H acc s ha hp)
  refine hs i x H H' hi s y _ _ (fun hk y H4 s4 r4 => ?_) (fun hk H3 s3 => ?_)
  · have hz : acc.length < sizeLine := by
      have h1 := plen hp
      have h2 := kept_le kp i
      rw [sizeLine_eq]
      omega
    have hD4 := s4 _ _ ha
    have up : TupS H4 (upd H4 D (.lst (acc ++ [y]))) := tups_lst hD4
    refine ⟨acc, hD4, hz, same_mut (s.trans s4) hD, acc ++ [y], upd_same, ?_⟩
    rw [kept_yes hk]
    exact psnoc (pimp (fun y j r => hR j y H _ r (s4.tups.trans up)) hp) (hR i y H4 _ r4 up)
  · refine ⟨s.trans s3, acc, s3 _ _ ha, ?_⟩
    rw [kept_no hk]
    exact pimp (fun y j r => hR j y H H3 r s3.tups) hp
/-- .. without a test -/
theorem lc_all {J : It} {n : Nat} {G : Hp → Prop} {Y : Nat → Hp → V → Hp → Prop} (w : Walk J n G Y) {g : TG} {te : TE} {vs : List Nat} {σ : L2.St} {H1 : Hp} {D : Addr} {Qd : Hp → Prop}
    (hD : H1 D = none) (R : Nat → V → Hp → Prop) (hR : ∀ i v H H', R i v H → TupS H H' → R i v H') (hG : ∀ H, Same H1 H → G H) (hn : n ≤ 100000)
    (hs : ∀ i x H H', i < n → Same H1 H → Y i H x H' → ∀ K1 : VK, (∀ y H4, Same H H4 → R i y H4 → K1 y H4) → g x (wipe σ vs) H' fun σ2 H2 => wipe σ2 vs = wipe σ vs ∧ te σ2 H2 K1)
    (hd : ∀ H acc, Same H1 H → H D = some (.lst acc) → Paired (fun y i => R i y H) acc (List.range n) → Qd H) :
    ∃ W : Nat → Nat → Hp → Prop, (∃ m, W 0 m (upd H1 D (.lst []))) ∧ ∀ i m H, W i m H →
      (J.stop i H ∧ Qd H) ∨ (J.go i H ∧ ∃ Nx : Hp → Prop, (∀ H', Nx H' → ∃ m', m' < m ∧ W (i + 1) m' H') ∧ ∀ x H', J.yld i H x H' → g x (wipe σ vs) H' fun σ2 H2 => wipe σ2 vs = wipe σ vs ∧ tYes σ2 H2 fun b H3 =>
        if b = true then te σ2 H3 fun y H4 => ∃ acc, H4 D = some (.lst acc) ∧ acc.length < sizeLine ∧ Nx (upd H4 D (.lst (acc ++ [y]))) else Nx H3) := by
  refine lc_same w hD (fun _ => true) R hR hG hn (fun i x H H' hi s y K1 K0 k1 k0 => ?_) (fun H acc s ha hp => hd H acc s ha ((kept_all n) ▸ hp))
  exact hs i x H H' hi s y K1 (k1 rfl)
/-- .. whose elements are values told by their turns -/
theorem lc_vals {J : It} {n : Nat} {G : Hp → Prop} {Y : Nat → Hp → V → Hp → Prop} (w : Walk J n G Y) {g : TG} {te : TE} {vs : List Nat} {σ : L2.St} {H1 : Hp} {D : Addr} {Qd : Hp → Prop}
    (hD : H1 D = none) (f : Nat → V) (hG : ∀ H, Same H1 H → G H) (hn : n ≤ 100000)
    (hs : ∀ i x H H', i < n → Same H1 H → Y i H x H' → ∀ K1 : VK, (∀ H4, Same H H4 → K1 (f i) H4) → g x (wipe σ vs) H' fun σ2 H2 => wipe σ2 vs = wipe σ vs ∧ te σ2 H2 K1)
    (hd : ∀ H, Same H1 H → H D = some (.lst ((List.range n).map f)) → Qd H) :
    ∃ W : Nat → Nat → Hp → Prop, (∃ m, W 0 m (upd H1 D (.lst []))) ∧ ∀ i m H, W i m H →
      (J.stop i H ∧ Qd H) ∨ (J.go i H ∧ ∃ Nx : Hp → Prop, (∀ H', Nx H' → ∃ m', m' < m ∧ W (i + 1) m' H') ∧ ∀ x H', J.yld i H x H' → g x (wipe σ vs) H' fun σ2 H2 => wipe σ2 vs = wipe σ vs ∧ tYes σ2 H2 fun b H3 =>
        if b = true then te σ2 H3 fun y H4 => ∃ acc, H4 D = some (.lst acc) ∧ acc.length < sizeLine ∧ Nx (upd H4 D (.lst (acc ++ [y]))) else Nx H3) := by
  have val : ∀ {l : List V} {m : List Nat}, Paired (fun y i => y = f i) l m → l = m.map f := fun {l m} h => by
    induction h with
    | nil => rfl
    | cons r _ ih => rw [List.map_cons, r, ih]
  refine lc_all w hD (fun i y _ => y = f i) (fun _ _ _ _ r _ => r) hG hn (fun i x H H' hi s y K1 k1 => hs i x H H' hi s y K1 fun H4 s4 => k1 _ _ s4 rfl) (fun H acc s ha hp => hd H s (by rw [ha, val hp]))
/-- pairs of the items of two lists of one length -/
theorem range_zip {α β γ : Type} {xs : List α} {ys : List β} (hl : xs.length = ys.length) {f : Nat → γ} {g : α × β → γ} (h : ∀ (i : Nat) (x : α) (y : β), xs[i]? = some x → ys[i]? = some y → f i = g (x, y)) :
    (List.range xs.length).map f = (xs.zip ys).map g := by
  refine List.ext_getElem? fun i => ?_
  by_cases hi : i < xs.length
  · have hy : i < ys.length := by omega
    rw [List.getElem?_map, List.getElem?_range hi, List.getElem?_map, List.getElem?_zip_eq_some (z := (xs[i], ys[i])) |>.mpr ⟨List.getElem?_eq_getElem hi, List.getElem?_eq_getElem hy⟩]
    exact congrArg some (h i _ _ (List.getElem?_eq_getElem hi) (List.getElem?_eq_getElem hy))
  · rw [List.getElem?_eq_none (by simpa using hi), List.getElem?_eq_none (by simp; omega)]
theorem range_map {α γ : Type} {xs : List α} {f : Nat → γ} {g : α → γ} (h : ∀ (i : Nat) (x : α), xs[i]? = some x → f i = g x) : (List.range xs.length).map f = xs.map g := by
  refine List.ext_getElem? fun i => ?_
  by_cases hi : i < xs.length
  · rw [List.getElem?_map, List.getElem?_range hi, List.getElem?_map, List.getElem?_eq_getElem hi]
    exact congrArg some (h i _ (List.getElem?_eq_getElem hi))
  · rw [List.getElem?_eq_none (by simpa using hi), List.getElem?_eq_none (by simp; omega)]
/-- zip of two tuples of one length -/
theorem walk_zipT {K : PySem.W.Frag} {a b : Addr} {xs ys : List V} (hn : xs.length = ys.length) : Walk (RZ.ItzT K a b) xs.length (fun H => SqT K H a xs ∧ SqT K H b ys) (YPair (fun i => xs[i]?) (fun i => ys[i]?)) := by
  refine ⟨fun i _ hi q => ?_, fun _ q => ⟨xs, ys, q.1, q.2, .inl (Nat.le_refl _)⟩, fun i H v H' _ q y => ?_⟩
  · have h2 : i < ys.length := by omega
    exact ⟨xs, ys, xs[i], ys[i], q.1, q.2, by simp [hi], by simp [h2]⟩
  · obtain ⟨T, x, z, h1, h2, h3, h4, h5⟩ := y
    exact ⟨T, x, z, h1, h2, h3, h4 xs q.1, h5 ys q.2⟩
/-! ### the built-in names that the text leaves alone -/
structure Blt (mg : Str → Option Value) : Prop where
  all : mg "all" = none
  any : mg "any" = none
  zip : mg "zip" = none
  len : mg "len" = none
  tuple : mg "tuple" = none
  range : mg "range" = none
  sum : mg "sum" = none
  list : mg "list" = none
  dict : mg "dict" = none
  sorted : mg "sorted" = none
  isinstance : mg "isinstance" = none
  enumerate : mg "enumerate" = none
  int : mg "int" = none
  str : mg "str" = none
  bool : mg "bool" = none
end LL
namespace LL
open PySem PySem.Spec PyProof.Rows L2
theorem int_at {a : List Int} {i : Nat} {x : V} (h : (a.map V.int)[i]? = some x) : i < a.length ∧ x = .int (a.getD i 0) := by
  rw [List.getElem?_map] at h
  cases e : a[i]? with
  | none =>
    rw [e] at h
    cases h
  | some z =>
    rw [e] at h
    refine ⟨(List.getElem?_eq_some_iff.mp e).1, ?_⟩
    have q : a.getD i 0 = z := by rw [List.getD_eq_getElem?_getD, e]; rfl
    rw [q]
    exact (Option.some.inj h).symm
theorem map_zip {α β γ : Type} {xs : List α} {ys : List β} (hl : xs.length = ys.length) (d : α) (e : β) (g : α → β → γ) :
    (List.range xs.length).map (fun i => g (xs.getD i d) (ys.getD i e)) = (xs.zip ys).map fun p => g p.1 p.2 :=
  range_zip (g := fun p => g p.1 p.2) hl fun i x y hx hy => by
    show g (xs.getD i d) (ys.getD i e) = g x y
    rw [List.getD_eq_getElem?_getD, List.getD_eq_getElem?_getD, hx, hy] <;> rfl
theorem map_one {α γ : Type} {xs : List α} (d : α) (g : α → γ) : (List.range xs.length).map (fun i => g (xs.getD i d)) = xs.map g :=
  range_map fun i x hx => by
    rw [List.getD_eq_getElem?_getD, hx] <;> rfl
theorem map_bl {α : Type} (l : List α) (g : α → Bool) : l.map (fun x => V.bl (g x)) = (l.map g).map V.bl := by rw [List.map_map]; rfl
theorem map_int {α : Type} (l : List α) (g : α → Int) : l.map (fun x => V.int (g x)) = (l.map g).map V.int := by rw [List.map_map]; rfl
theorem all_map {α : Type} (l : List α) (g : α → Bool) : (l.map g).all id = l.all g := by rw [List.all_map]; rfl
theorem any_map {α : Type} (l : List α) (g : α → Bool) : (l.map g).any id = l.any g := by rw [List.any_map]; rfl
theorem sz {n : Nat} (h : n ≤ 100000) : n ≤ sizeLine := by
  rw [sizeLine_eq]
  omega
theorem all_iff {α : Type} {l : List α} {p q : α → Bool} (h : ∀ x ∈ l, p x = q x) : l.all p = l.all q := by
  induction l with
  | nil => rfl
  | cons x l ih => rw [List.all_cons, List.all_cons, h x List.mem_cons_self, ih fun y hy => h y (List.mem_cons_of_mem _ hy)]
end LL
/-! Own rules beside the hand layer's. -/
namespace LL
open PySem PySem.Spec PyProof.Rows L2
/-! ### t * k, k at most 1 -/
section
variable {l : Addr} {items : Array Value} {n : Nat} {dd : Option Addr} {sl : Array (Option Value)} {x : Int} {u : Tok}
theorem mul_one_tup (hx : x = 1) : Meets (Builtin.«tuple.__mul__» ⟨[.ref l, .int x u], []⟩) (fun _ R s => s.heap.get? l = some { cls := .type "tuple", dict := dd, data := .seq items n, slots := sl } ∧
    R (.ok (.ret (Value.ref l))) s) := .of_wp fun prog w A R s h => by
  subst hx
  obtain ⟨hp, g, d, tk, os⟩ := s
  obtain ⟨hl, h⟩ := h
  have f1 := AutoSeq1.idx_int
  have c1 : (items.isEmpty || ((1 : Int) == 1)) = true := by simp
  wp_walk using PySem.AutoSeq1.wpAny_loadPart' hl
  repeat (first
    | (refine wpAny_ite_false (decide_eq_false (by decide)) ?_; wp_walk using PySem.AutoSeq1.wpAny_loadPart' hl)
    | (refine wpAny_ite_true (decide_eq_true (by rw [c1])) ?_; wp_walk using PySem.AutoSeq1.wpAny_loadPart' hl))
  exact ⟨_, rfl, h⟩
theorem mul_none_tup (hi : items.isEmpty = false) (hx : x ≤ 0) (hb : -(2 ^ 63) ≤ x) : Meets (Builtin.«tuple.__mul__» ⟨[.ref l, .int x u], []⟩) (fun _ R s => s.heap.get? l = some { cls := .type "tuple", dict := dd, data := .seq items n, slots := sl } ∧
    R (.ok (.ret (Value.ref s.heap.objs.size))) { s with heap := s.heap.push { cls := .type "tuple", data := .seq #[] }, toks := s.toks }) := .of_wp fun prog w A R s h => by
  obtain ⟨hp, g, d, tk, os⟩ := s
  obtain ⟨hl, h⟩ := h
  have f1 := AutoSeq1.idx_int
  have c0 : (decide (x < -(2 ^ 63)) || decide (x ≥ 2 ^ 63)) = false := by
    rw [decide_eq_false (by omega), decide_eq_false (by omega)] <;> rfl
  have c1 : (items.isEmpty || (x == 1)) = false := by
    rw [hi, Bool.false_or]
    exact beq_eq_false_iff_ne.mpr (by omega)
  have c2 : (decide (x ≤ 0) || items.isEmpty) = true := by rw [decide_eq_true hx] <;> rfl
  wp_walk using PySem.AutoSeq1.wpAny_loadPart' hl
  repeat (first
    | (refine wpAny_ite_false (decide_eq_false (by rw [c0]; exact Bool.false_ne_true)) ?_; wp_walk using PySem.AutoSeq1.wpAny_loadPart' hl)
    | (refine wpAny_ite_false (decide_eq_false (by rw [c1]; exact Bool.false_ne_true)) ?_; wp_walk using PySem.AutoSeq1.wpAny_loadPart' hl)
    | (refine wpAny_ite_true (decide_eq_true (by rw [c2])) ?_; wp_walk using PySem.AutoSeq1.wpAny_loadPart' hl))
  exact ⟨_, rfl, h⟩
end
/-- t * k: t not empty, k at most 1000 -/
def rMulT (K : PySem.W.Frag) : R2 := fun x y H Q => ∃ l k xs, x = .ref l ∧ y = .int k ∧ SqT K H l xs ∧ xs ≠ [] ∧ 0 ≤ k ∧ k ≤ 1000 ∧ xs.length ≤ 1000 ∧ (k = 1 → Q (.ref l) H) ∧
  (k ≠ 1 → ∀ p, H p = none → Q (.ref p) (upd H p (.tup (List.replicate k.toNat xs).flatten)))
section
variable {X : Cx}
theorem op_mulT : OpR X (binaryOp .Mult) (rMulT X.K) := by
  intro pins s σ H x y v u Q I rx ry h
  obtain ⟨l, k, xs, rfl, rfl, hT, hne, h0, h1, hz, q1, q2⟩ := h
  by_cases hk : 2 ≤ k
  · exact op_repT pins s σ H _ _ v u Q I rx ry ⟨l, k, xs, rfl, rfl, hT, hne, hk, h1, hz, q2 (by omega)⟩
  · cases rx
    obtain ⟨t, rfl⟩ := ry
    obtain ⟨its, r, ⟨⟨cls, dd, data, sl⟩, ho, hc, n, hd⟩, hs⟩ := I.tuple hT
    simp only at hc hd
    subst hc hd
    have hle : its.length = xs.length := r.length.symm
    have hi : its.toArray.isEmpty = false := by
      cases its with
      | nil => exact absurd (List.eq_nil_of_length_eq_zero hle.symm) hne
      | cons a b => rfl
    by_cases k1 : k = 1
    · refine wpAny_binaryOp_repeat_ref (T := "tuple") (U := "int") (by decide) ⟨_, ho, rfl⟩ (fun s' => typeIs_int s' k t) noFill_tuple_mul F.fills_int_mul F.slot_int_rmul repeat_tuple F.slot_int_index.lookup
        (call_meets F.slot_int_rmul (typeIs_int s k t) F.entry_int_rmul (F.args_int_rmul_2 _ _) (int_rmul_tuple k t l its.toArray n dd sl)
          ⟨ho, rfl, ⟨_, ho, rfl⟩, call_meets F.slot_tuple_mul ⟨_, ho, rfl⟩ F.entry_tuple_mul (F.args_tuple_mul_2 _ _) (mul_one_tup k1) ⟨ho, ?_⟩⟩)
      exact ⟨.ref l, H, I, rfl, q1 k1⟩
    · have k0 : k = 0 := by omega
      refine wpAny_binaryOp_repeat_ref (T := "tuple") (U := "int") (by decide) ⟨_, ho, rfl⟩ (fun s' => typeIs_int s' k t) noFill_tuple_mul F.fills_int_mul F.slot_int_rmul repeat_tuple F.slot_int_index.lookup
        (call_meets F.slot_int_rmul (typeIs_int s k t) F.entry_int_rmul (F.args_int_rmul_2 _ _) (int_rmul_tuple k t l its.toArray n dd sl)
          ⟨ho, rfl, ⟨_, ho, rfl⟩, call_meets F.slot_tuple_mul ⟨_, ho, rfl⟩ F.entry_tuple_mul (F.args_tuple_mul_2 _ _) (mul_none_tup hi (by omega) (by omega)) ⟨ho, ?_⟩⟩)
      have e : (List.replicate k.toNat xs).flatten = [] := by
        rw [k0] <;> rfl
      have q := q2 k1
      rw [e] at q
      refine ⟨.ref s.heap.objs.size, _, I.laid (t' := s.toks) (o := .tup []) (fun b ob q => Heap.get?_push_of_some _ q) (Nat.le_refl _) ?_, rfl, q _ (I.hok.fresh (Nat.le_refl _))⟩
      exact ⟨Nat.zero_le _, [], .nil, IsTup.new _ _⟩
end
/-! ### t >= u of tuples of ints -/
theorem firstLt_lex : ∀ (ns ms : List Int) (j : Nat), ns.length = ms.length → ∀ (N M : List Int), N.drop j = ns → M.drop j = ms →
    PySem.SeqAt.firstLt (fun i => decide (N.getD i 0 = M.getD i 0)) (fun i => decide (M.getD i 0 ≤ N.getD i 0)) true (List.range' j ns.length) = !HT.lexLt ns ms
  | [], [], j, _, N, M, _, _ => rfl
  | x :: ns, y :: ms, j, hl, N, M, hN, hM => by
    have e1 : N.getD j 0 = x := by
      rw [List.getD_eq_getElem?_getD, ← List.head?_drop, hN] <;> rfl
    have e2 : M.getD j 0 = y := by
      rw [List.getD_eq_getElem?_getD, ← List.head?_drop, hM] <;> rfl
    have ih := firstLt_lex ns ms (j + 1) (Nat.succ.inj hl) N M (by rw [← List.drop_drop, hN]; rfl) (by rw [← List.drop_drop, hM]; rfl)
    rw [List.length_cons, List.range'_succ, HT.lexLt_cons]
    unfold PySem.SeqAt.firstLt
    simp only [e1, e2]
    by_cases e : x = y
    · rw [if_pos (by simpa using e), if_pos e]
      exact ih
    · rw [if_neg (by simpa using e), if_neg e]
      by_cases h : x < y
      · rw [decide_eq_true h, decide_eq_false (by omega)] <;> rfl
      · rw [decide_eq_false h, decide_eq_true (by omega)] <;> rfl
  | [], _ :: _, _, hl, _, _, _, _ => nomatch hl
  | _ :: _, [], _, hl, _, _, _, _ => nomatch hl
def rGeT (K : PySem.W.Frag) : R2 := fun x y H Q => ∃ (a b : Addr) (ns ms : List Int), x = .ref a ∧ y = .ref b ∧ SqT K H a (ns.map V.int) ∧ SqT K H b (ms.map V.int) ∧ ns.length = ms.length ∧ Q (.bl (!HT.lexLt ns ms)) H
theorem op_geT {X : Cx} (hu : X.A.units < cLine) : OpR X (compareOp .GtE) (rGeT X.K) := by
  intro pins s σ H x y v u Q I rx ry h
  obtain ⟨a, b, ns, ms, rfl, rfl, ha, hb, hl, q⟩ := h
  cases rx
  cases ry
  obtain ⟨its, r1, p1, _⟩ := I.tuple ha
  obtain ⟨its2, r2, p2, _⟩ := I.tuple hb
  have l1 := r1.length
  have l2 := r2.length
  rw [List.length_map] at l1 l2
  have at1 : ∀ j (h : j < its.toArray.size), ∃ t, its.toArray[j] = .int (ns.getD j 0) t := fun j h => by
    obtain ⟨x, h1, h2⟩ := pgetR r1 (show its[j]? = some its[j] from List.getElem?_eq_getElem (by simpa using h))
    obtain ⟨_, e⟩ := int_at h1
    subst e
    exact h2
  have at2 : ∀ j (h : j < its2.toArray.size), ∃ t, its2.toArray[j] = .int (ms.getD j 0) t := fun j h => by
    obtain ⟨x, h1, h2⟩ := pgetR r2 (show its2[j]? = some its2[j] from List.getElem?_eq_getElem (by simpa using h))
    obtain ⟨_, e⟩ := int_at h1
    subst e
    exact h2
  have key := PySem.SeqAt.RcOp.tuples_ge (A := X.A) (s := s) (l := a) (b := b) (items := its.toArray) (items2 := its2.toArray) (e := fun i => decide (ns.getD i 0 = ms.getD i 0)) (r := fun i => decide (ms.getD i 0 ≤ ns.getD i 0)) p1 p2 hu
    (fun j h1 h2 => by
      obtain ⟨t, e1⟩ := at1 j h1
      obtain ⟨t', e2⟩ := at2 j h2
      rw [e1, e2]
      intro prog w E Q h
      refine SeqAt.EqAt.int_int _ t _ t' prog w _ _ ?_
      have e : ((ns.getD j 0) == (ms.getD j 0)) = decide (ns.getD j 0 = ms.getD j 0) := by
        by_cases c : ns.getD j 0 = ms.getD j 0
        · rw [c, beq_self_eq_true, decide_eq_true rfl]
        · rw [decide_eq_false c]
          exact beq_eq_false_iff_ne.mpr c
      rw [e]
      exact h)
    (fun j h1 h2 _ => by
      obtain ⟨t, e1⟩ := at1 j h1
      obtain ⟨t', e2⟩ := at2 j h2
      rw [e1, e2]
      exact fun _ _ _ _ h => PyProof.Rows.ge_int h)
  have en : PySem.SeqAt.firstLt (fun i => decide (ns.getD i 0 = ms.getD i 0)) (fun i => decide (ms.getD i 0 ≤ ns.getD i 0)) (decide (its.toArray.size ≥ its2.toArray.size)) (List.range (min its.toArray.size its2.toArray.size)) = !HT.lexLt ns ms := by
    have s1 : its.toArray.size = ns.length := by rw [List.size_toArray, l1]
    have s2 : its2.toArray.size = ns.length := by rw [List.size_toArray, ← l2, hl]
    rw [s1, s2, Nat.min_self, decide_eq_true (Nat.le_refl _), List.range_eq_range']
    exact firstLt_lex ns ms 0 hl ns ms rfl rfl
  rw [en] at key
  exact key X.prog X.w _ _ ⟨.bl (!HT.lexLt ns ms), H, I, rfl, q⟩
/-! ### xs[i] op= e, xs a list, i from 0 -/
def rGetL (K : PySem.W.Frag) : R2 := fun x y H Q => ∃ (p : Addr) (xs : List V) (i : Nat) (v : V), x = .ref p ∧ y = .int (i : Nat) ∧ SqL K H p xs ∧ xs[i]? = some v ∧ Q v H
theorem get_list {X : Cx} : PGet X (rGetL X.K) := by
  intro pins s σ H o i ov iv Q I ro ri h
  obtain ⟨p, xs, j, v, rfl, rfl, hq, hv, q⟩ := h
  cases ro
  obtain ⟨t, rfl⟩ := ri
  obtain ⟨its, r, pl, hz⟩ := I.list hq
  obtain ⟨u, hu, ru⟩ := r.get hv
  have hj : j < xs.length := (List.getElem?_eq_some_iff.mp hv).1
  have hn := line63
  exact wpAny_getItem_list pl.isList (by omega) (by omega) (by simpa using hu) ⟨v, H, I, ru, q⟩
/-! ### sorted(xs), xs a list of tuples of ints of one length, any number of them -/
theorem lexLt_irr : ∀ a : List Int, HT.lexLt a a = false
  | [] => rfl
  | x :: a => by rw [HT.lexLt_cons, if_pos rfl, lexLt_irr a]
theorem lexLt_asym : ∀ {a b : List Int}, a.length = b.length → HT.lexLt a b = true → HT.lexLt b a = false
  | [], [], _, h => by cases h
  | x :: a, y :: b, hl, h => by
    rw [HT.lexLt_cons] at h ⊢
    by_cases e : x = y
    · rw [if_pos e] at h
      rw [if_pos e.symm]
      exact lexLt_asym (Nat.succ.inj hl) h
    · rw [if_neg e] at h
      rw [if_neg (fun z => e z.symm)]
      have := of_decide_eq_true h
      exact decide_eq_false (by omega)
  | [], _ :: _, hl, _ => nomatch hl
  | _ :: _, [], hl, _ => nomatch hl
/-- total on lists of one length -/
theorem lexLt_tot : ∀ {a b : List Int}, a.length = b.length → HT.lexLt a b = false → a ≠ b → HT.lexLt b a = true
  | [], [], _, _, n => absurd rfl n
  | x :: a, y :: b, hl, h, n => by
    rw [HT.lexLt_cons] at h ⊢
    by_cases e : x = y
    · rw [if_pos e] at h
      rw [if_pos e.symm]
      exact lexLt_tot (Nat.succ.inj hl) h fun z => n (by rw [e, z])
    · rw [if_neg e] at h
      rw [if_neg (fun z => e z.symm)]
      have := of_decide_eq_false h
      exact decide_eq_true (by omega)
  | [], _ :: _, hl, _, _ => nomatch hl
  | _ :: _, [], hl, _, _ => nomatch hl
theorem lexLt_trans' : ∀ {a b c : List Int}, a.length = b.length → b.length = c.length → HT.lexLt b a = false → HT.lexLt c b = false → HT.lexLt c a = false
  | [], [], [], _, _, _, _ => rfl
  | x :: a, y :: b, z :: c, h1, h2, p, q => by
    rw [HT.lexLt_cons] at p q ⊢
    by_cases e1 : y = x
    · rw [if_pos e1] at p
      by_cases e2 : z = y
      · rw [if_pos e2] at q
        rw [if_pos (e2.trans e1)]
        exact lexLt_trans' (Nat.succ.inj h1) (Nat.succ.inj h2) p q
      · rw [if_neg e2] at q
        have q' := of_decide_eq_false q
        rw [if_neg (by omega)]
        exact decide_eq_false (by omega)
    · rw [if_neg e1] at p
      have p' := of_decide_eq_false p
      by_cases e2 : z = y
      · rw [if_neg (by omega)]
        exact decide_eq_false (by omega)
      · rw [if_neg e2] at q
        have q' := of_decide_eq_false q
        rw [if_neg (by omega)]
        exact decide_eq_false (by omega)
  | [], _ :: _, _, h, _, _, _ => nomatch h
  | _ :: _, [], _, h, _, _, _ => nomatch h
  | _, [], _ :: _, _, h, _, _ => nomatch h
  | _, _ :: _, [], _, h, _, _ => nomatch h
section
variable {prog : Program} {w : World} {A : Around} {E : Value → Shared → Prop} {s : Shared} {Q : Bool → Shared → Prop}
theorem kat_ints {b : Bool} : ∀ {xs ys : List Value} {ns ms : List Int} (i : Nat), IntsAre xs ns → IntsAre ys ms → ns.length = ms.length → Q (HT.lexLt ns ms) s → PySem.W.KatLex prog w A b false Q (xs.zip ys) i s := by
  intro xs ys ns ms i hx
  induction hx generalizing ys ms i with
  | nil =>
    intro hy hl h
    cases hy with
    | nil => exact PySem.W.kat_nil h
    | cons q u hy => exact nomatch hl
  | @cons p t xs ns hx ih =>
    intro hy hl h
    cases hy with
    | nil => exact nomatch hl
    | @cons q u ys ms hy =>
      show PySem.W.KatLex prog w A b false Q ((Value.int p t, Value.int q u) :: xs.zip ys) i s
      rw [HT.lexLt_cons] at h
      refine PySem.W.kat_cons (wpAny_eqBool_int ?_)
      refine PySem.W.kat_go (fun e => PySem.W.kat_yes ?_) (fun e => PySem.W.kat_no ?_)
      · have e' : p = q := by simpa using e
        rw [if_pos e'] at h
        exact ih (i + 1) hy (Nat.succ.inj hl) h
      · have e' : ¬ p = q := by simpa using e
        rw [if_neg e'] at h
        exact TS.oneLt_ints _ h
/-- two tuples of ints compare as their lists do -/
theorem vec_cmp {vs : List Value} {d : Nat} {k : Value → List Int} (hp : ∀ v ∈ vs, TS.TupInts s.heap v (k v) ∧ (k v).length = d) : SrtO.Cmp prog w A s (tuples' true) (fun p => p.1 ∈ vs) (SrtO.lt2 fun v u => HT.lexLt (k v) (k u)) := by
  intro p q hm hm'
  have h1 := hp _ hm
  have h2 := hp _ hm'
  show wpAny (model prog w) A (keyLt' (tuples' true) p.1 q.1) (fun r s' => s' = s ∧ r = HT.lexLt (k p.1) (k q.1)) (fun _ _ => False) s
  generalize k p.1 = ns at h1 ⊢
  generalize k q.1 = ms at h2 ⊢
  obtain ⟨⟨a, xs, e, ⟨o, ho, hc, n, hd⟩, i⟩, hl⟩ := h1
  obtain ⟨⟨a', ys, e', ⟨o', ho', hc', n', hd'⟩, i'⟩, hl'⟩ := h2
  rw [e, e']
  refine PySem.W.kat_lt ho hd ho' hd' ?_
  have sz : decide (xs.size < ys.size) = false := by
    have l1 := i.length
    have l2 := i'.length
    rw [Array.length_toList] at l1 l2
    exact decide_eq_false (by omega)
  rw [sz]
  exact kat_ints 0 i i' (hl.trans hl'.symm) ⟨rfl, rfl⟩
theorem vec_swo {d : Nat} {k : Value → List Int} (hk : ∀ v, (k v).length = d) : SrtO.Swo fun v u => HT.lexLt (k v) (k u) :=
  ⟨fun x y h => lexLt_asym ((hk x).trans (hk y).symm) h, fun x y z h1 h2 => lexLt_trans' ((hk x).trans (hk y).symm) ((hk y).trans (hk z).symm) h1 h2⟩
theorem vec_firsts {h : Heap} {d : Nat} (hd : 1 ≤ d) : ∀ {vs : List Value} {k : Value → List Int}, (∀ v ∈ vs, TS.TupInts h v (k v) ∧ (k v).length = d) → ∃ fs, PySem.W.KatTups h vs fs ∧ fs.length = vs.length ∧ ∀ f ∈ fs, ∃ n t, f = Value.int n t
  | [], _, _ => ⟨[], PySem.W.KatTups.nil, rfl, fun f hf => absurd hf (by simp)⟩
  | v :: vs, k, x => by
    obtain ⟨fs, kk, hl, hi⟩ := vec_firsts hd (vs := vs) (k := k) fun u hu => x u (List.mem_cons_of_mem _ hu)
    obtain ⟨⟨a, xs, e, ⟨o, ho, hc, n, hdt⟩, i⟩, hn⟩ := x v List.mem_cons_self
    have hz : 0 < xs.size := by
      have := i.length
      rw [Array.length_toList] at this
      omega
    have hy : xs[0]? = some xs[0] := by simp [hz]
    obtain ⟨m, t, hm⟩ := i.all xs[0] (by simp)
    rw [e]
    refine ⟨xs[0] :: fs, PySem.W.KatTups.cons ho hc hdt hy kk, by rw [List.length_cons, List.length_cons, hl], fun f hf => ?_⟩
    rcases List.mem_cons.mp hf with e | hf
    · exact ⟨m, t, e.trans hm⟩
    · exact hi f hf
theorem vec_sortable {a : Addr} {vs : List Value} {d : Nat} {k : Value → List Int} (hd : 1 ≤ d) (h0 : 0 < vs.length) (hp : ∀ v ∈ vs, TS.TupInts s.heap v (k v) ∧ (k v).length = d) (ha : ∀ o, s.heap.get? a = some o → o.cls ≠ .type "tuple") :
    SrtO.SortableO prog w A s a vs fun v u => HT.lexLt (k v) (k u) := by
  intro h' keep
  have hp' : ∀ v ∈ vs, TS.TupInts h' v (k v) ∧ (k v).length = d := fun v hm => ⟨(hp v hm).1.keeps fun b o e c => keep b o (fun z => by subst z; exact ha o e c) e, (hp v hm).2⟩
  obtain ⟨fs, h1, h2, h3⟩ := vec_firsts hd hp'
  refine ⟨tuples' true, fun Q E hq => ?_, vec_cmp hp'⟩
  refine PySem.W.kat_kind (T := .type "int") h1 (by omega) (fun f hm => ?_) (by rfl) ?_
  · obtain ⟨x, t, rfl⟩ := h3 f hm
    exact PySem.W.Looks.now
  · rw [show (Value.type "int" != Value.type "tuple") = true by decide +kernel]
    exact hq
end
/-- sorted(xs): the same vectors, rising -/
def rSortV (K : PySem.W.Frag) : List V → Hp → VK → Prop := fun us H Q => ∃ (a : Addr) (xs : List V) (vs : List (List Int)) (d : Nat), us = [V.ref a] ∧ SqL K H a xs ∧ Vecs H xs vs ∧ 1 ≤ d ∧ (∀ v ∈ vs, v.length = d) ∧
  ∀ (p : Addr) (ys : List V) (ws : List (List Int)), H p = none → Vecs H ys ws → ws.Perm vs → ws.Pairwise (fun v u => HT.lexLt u v = false) → Q (.ref p) (upd H p (.lst ys))
theorem vecs_mem {H : Hp} : ∀ {xs : List V} {vs : List (List Int)} {x : V}, Vecs H xs vs → x ∈ xs → ∃ v ∈ vs, IsVec H x v
  | _, _, _, .nil, h => absurd h (by simp)
  | _, _, x, .cons r t, h => by
    rcases List.mem_cons.mp h with e | h
    · rw [e]
      exact ⟨_, List.mem_cons_self, r⟩
    · obtain ⟨v, hv, hx⟩ := vecs_mem t h
      exact ⟨v, List.mem_cons_of_mem _ hv, hx⟩
theorem cr_sortV {X : Cx} : CallR X (.builtin "sorted") (rSortV X.K) := by
  intro pins s σ H us us' Q I r h
  obtain ⟨a, xs, vs, d, rfl, hs, hv, hd, hl, q⟩ := h
  obtain ⟨its, rv, hL, hz⟩ := I.list hs
  rw [Vals.ref1 r]
  obtain ⟨e1, e2⟩ := refs_back rv fun x m => by
    obtain ⟨v, _, t, e, _⟩ := vecs_mem hv m
    exact ⟨t, e⟩
  let k : Value → List Int := fun v => if (TS.intsOf s.heap v).length = d then TS.intsOf s.heap v else List.replicate d 0
  have kl : ∀ v, (k v).length = d := fun v => by
    show (if (TS.intsOf s.heap v).length = d then TS.intsOf s.heap v else List.replicate d 0).length = d
    by_cases c : (TS.intsOf s.heap v).length = d
    · rw [if_pos c]
      exact c
    · rw [if_neg c]
      exact List.length_replicate
  have one : ∀ {x : V} {u : List Int} {t : Addr}, x = V.ref t → IsVec H x u → u.length = d → TS.TupInts s.heap (.ref t) u ∧ k (.ref t) = u := fun {x u t} ex hx hu => by
    obtain ⟨t', e, ht⟩ := hx
    rw [ex] at e
    cases e
    have ti : TS.TupInts s.heap (.ref t) u := by
      obtain ⟨its', rv', hT, _⟩ := I.tuple (SqT.of (K := X.K) ht)
      exact ⟨t, its'.toArray, rfl, hT, by simpa using rv'.ints⟩
    refine ⟨ti, ?_⟩
    show (if (TS.intsOf s.heap (.ref t)).length = d then TS.intsOf s.heap (.ref t) else List.replicate d 0) = u
    rw [ti.ints, if_pos hu]
  have hp : ∀ v ∈ its, TS.TupInts s.heap v (k v) ∧ (k v).length = d := fun v hm => by
    obtain ⟨t, rfl⟩ := e2 v hm
    have hx : V.ref t ∈ xs := by
      rw [e1]
      exact List.mem_map.mpr ⟨_, hm, rfl⟩
    obtain ⟨u, hu, hw⟩ := vecs_mem hv hx
    obtain ⟨ti, ke⟩ := one rfl hw (hl u hu)
    exact ⟨ke.symm ▸ ti, kl _⟩
  have all : ∀ {xs : List V} {vs : List (List Int)} {its : List Value}, Vals xs its → Vecs H xs vs → (∀ v ∈ vs, v.length = d) → its.map k = vs := by
    intro xs vs its r
    induction r generalizing vs with
    | nil => intro h _; cases h; rfl
    | cons rx _ ih =>
      intro h hl
      cases h with
      | @cons x u xs us hx t =>
        obtain ⟨a', ex, _⟩ := id hx
        subst ex
        cases rx
        rw [List.map_cons, (one rfl hx (hl u List.mem_cons_self)).2, ih t fun v hm => hl v (List.mem_cons_of_mem _ hm)]
  have hvs := all rv hv hl
  refine SrtO.sorted_ord (vec_swo kl) hL.isList (by rw [← rv.length]; exact hz) (fun h2 h₁ a' ha kk => ?_) fun out h1 h2 => ?_
  · refine vec_sortable (s := { s with heap := h₁ }) hd (by omega) (fun v hm => ⟨(hp v hm).1.keeps fun b o e _ => (kk b o e).2, kl v⟩) fun o e => ?_
    have e' : some o = some (seqObj "list" its.toArray 0) := e.symm.trans ha
    cases e'
    intro c
    exact absurd (Value.type.inj c) (by decide)
  · obtain ⟨ep, he'⟩ := PyProof.Rows.sortedAll_at s.heap its out.toArray
    have hm : ∀ u ∈ out, u ∈ its := fun u hu => h2.perm.mem_iff.mp hu
    have h3 : ∀ u ∈ out, ∃ a, u = Value.ref a := fun u hu => e2 u (hm u hu)
    have hlen : (out.map backV).length ≤ sizeLine := by
      rw [List.length_map, h2.perm.length_eq, ← rv.length]
      exact hz
    have vec : ∀ {l : List Value}, (∀ u ∈ l, u ∈ its) → Vecs H (l.map backV) (l.map k) := by
      intro l
      induction l with
      | nil => intro _; exact .nil
      | cons v l ih =>
        intro hl'
        refine .cons ?_ (ih fun u hu => hl' u (List.mem_cons_of_mem _ hu))
        have hmv := hl' v List.mem_cons_self
        obtain ⟨t, rfl⟩ := e2 v hmv
        have hx : V.ref t ∈ xs := by
          rw [e1]
          exact List.mem_map.mpr ⟨_, hmv, rfl⟩
        obtain ⟨u, hu, hw⟩ := vecs_mem hv hx
        rw [(one rfl hw (hl u hu)).2]
        exact hw
    refine ⟨.ref _, upd H (s.heap.objs.size + 1) (.lst (out.map backV)), I.laid (t' := s.toks) (fun _ _ => PyProof.Rows.sortedAll_old) (Nat.le_succ _) ⟨hlen, out, ep, vals_back h3, he'⟩, rfl,
      q _ _ (out.map k) (I.hok.fresh (Nat.le_succ _)) (vec hm) ?_ (List.pairwise_map.mpr h1)⟩
    rw [← hvs]
    exact h2.perm.map k
end LL
/-! Own rules: enumerate of a tuple. -/
namespace LL
open PySem PySem.Spec PyProof.Rows L2
theorem enum_newT (t : Addr) (items : Array Value) (n : Nat) (dct : Option Addr) (sl : Array (Option Value)) :
    Meets (Builtin.«enumerate.__new__» ⟨[.type "enumerate", .ref t], []⟩) (fun _ R s => s.heap.get? t = some { cls := .type "tuple", dict := dct, data := .seq items n, slots := sl } ∧
      R (.ok (.ret (.ref (s.heap.push { cls := .type "tuple_iterator", data := .fields #[.ref t, .int 0 0] }).objs.size)))
        { s with heap := (s.heap.push { cls := .type "tuple_iterator", data := .fields #[.ref t, .int 0 0] }).push { cls := .type "enumerate", data := .fields #[.none, .bool false, .ref s.heap.objs.size, rawInt 0, .none, .none] } }) :=
  .of_wp fun prog w A R s h => by
    obtain ⟨hp, g, d, tk, os⟩ := s
    obtain ⟨hl, h⟩ := h
    have hsub := sub_enumerate
    have hT : Heap.IsTuple (Shared.heap ⟨hp, g, d, tk, os⟩) t items := ⟨_, hl, rfl, n, rfl⟩
    wp_walk using PySem.AutoSeq1.wpAny_loadPart' hl
    refine wpAny_stack_any fun st => wpAny_pure ?_
    split
    · rename_i c _ _ _ _ _
      cases (c == Value.type "enumerate") <;> (wp_walk using PySem.AutoSeq1.wpAny_loadPart' hl, wpAny_pyIter_tuple hT; exact ⟨_, rfl, h⟩)
    · wp_walk using PySem.AutoSeq1.wpAny_loadPart' hl, wpAny_pyIter_tuple hT
      exact ⟨_, rfl, h⟩
section
variable {prog : Program} {w : World} {A : Around} {E : Value → Shared → Prop} {s : Shared}
theorem call_enumT {t : Addr} {items : Array Value} {Q : Value → Shared → Prop} (hT : s.heap.IsTuple t items)
    (h : ∀ h', IsEnum h' (s.heap.objs.size + 1) s.heap.objs.size 0 .none → h'.IsTupleIter s.heap.objs.size t 0 → (∀ b o, s.heap.get? b = some o → h'.get? b = some o) → Q (.ref (s.heap.objs.size + 1)) { s with heap := h' }) :
    wpAny (model prog w) A (call (.type "enumerate") [.ref t]) Q E s := by
  obtain ⟨⟨c, dct, dt, sl⟩, hl, hc, n, hd⟩ := hT
  simp only at hc hd
  subst hc hd
  have hz : (s.heap.push { cls := .type "tuple_iterator", data := .fields #[.ref t, .int 0 0] }).objs.size = s.heap.objs.size + 1 := Heap.size_push ..
  refine callType_new F.called_enumerate (by decide) (F.typeCall_enumerate_1 _) (F.newCall_enumerate_1 _) (fun obj => F.args_object_init_2 obj _) F.entry_enumerate_new (enum_newT t items n dct sl) ⟨hl, ?_⟩
  show _ ∧ _
  rw [hz]
  have he := Heap.get?_push_size (s.heap.push { cls := .type "tuple_iterator", data := .fields #[.ref t, .int 0 0] }) (o := { cls := .type "enumerate", data := .fields #[.none, .bool false, .ref s.heap.objs.size, rawInt 0, .none, .none] }) rfl
  rw [hz] at he
  exact ⟨⟨_, he, rfl⟩, h _ he ⟨_, Heap.get?_push_of_some _ (Heap.get?_push_size _ rfl), rfl, rfl⟩ fun b o x => Heap.get?_push_of_some _ (Heap.get?_push_of_some _ x)⟩
end
/-- enumerate of the tuple at a: new pairs of the turn and the item -/
def IteT (K : PySem.W.Frag) (a : Addr) : It :=
  ⟨fun i H => ∃ (xs : List V) (x : V), SqT K H a xs ∧ xs[i]? = some x, fun i H v H' => ∃ T x, v = .ref T ∧ H T = none ∧ H' = upd H T (.tup [.int (i : Nat), x]) ∧ ∀ xs, SqT K H a xs → xs[i]? = some x,
    fun i H => ∃ xs : List V, SqT K H a xs ∧ xs.length = i⟩
/-- its iterator's state: the tuple's own object is part of it -/
def StT (e it a : Addr) (items : Array Value) (i : Nat) (h : Heap) : Prop := (∃ old, IsEnum h e it ((i : Nat) : Int) old) ∧ h.IsTupleIter it a i ∧ e ≠ it
theorem walk_enumT {K : PySem.W.Frag} {a : Addr} {xs : List V} : Walk (IteT K a) xs.length (fun H => SqT K H a xs) (YPair (fun i => some (.int (i : Nat))) (fun i => xs[i]?)) := by
  refine ⟨fun i _ hi q => ⟨xs, xs[i], q, by simp [hi]⟩, fun _ q => ⟨xs, q, rfl⟩, fun i H v H' _ q y => ?_⟩
  obtain ⟨T, x, h1, h2, h3, h4⟩ := y
  exact ⟨T, .int (i : Nat), x, h1, h2, h3, rfl, h4 xs q⟩
theorem turn_enumT {P : Program} {w : World} {K : PySem.W.Frag} {elts : List Expr} {kk : Nat} {tpos : Pos} (a e it : Addr) :
    Turn P w K (.Tuple elts kk tpos) (IteT K a) [e, it] e (fun i h => (∃ old, IsEnum h e it ((i : Nat) : Int) old) ∧ h.IsTupleIter it a i ∧ e ≠ it ∧ a ≠ it ∧ a ≠ e) where
  mem := List.mem_cons_self
  obj := fun i h st b hb => by
    obtain ⟨⟨old, he⟩, ⟨o, ho, hc, hd⟩, _⟩ := st
    rcases List.mem_cons.mp hb with z | hb
    · rw [z]
      exact ⟨_, he, fun v q => nomatch q⟩
    · rw [List.mem_singleton.mp hb]
      exact ⟨o, ho, fun v q => by
        rw [hd] at q
        cases q⟩
  keep := fun i h h' st k => by
    obtain ⟨⟨old, he⟩, hi, hne⟩ := st
    exact ⟨⟨old, k e (by simp) _ he⟩, hi.at fun o q => k it (by simp) o q, hne⟩
  item := by
    intro X hP hw hK hc i pins s σ H E I hf st hg
    subst hP hw hK
    obtain ⟨⟨old, he⟩, hit, hne, hai, hae⟩ := st
    obtain ⟨xs, x, hq, hx⟩ := hg
    obtain ⟨its, rv, p, hz⟩ := I.tuple hq
    obtain ⟨u, hu, ru⟩ := rv.get hx
    have hel : e < s.heap.objs.size := Heap.lt_size he
    have hil : it < s.heap.objs.size := by
      obtain ⟨_, q, _⟩ := hit
      exact Heap.lt_size q
    have hj : i < its.toArray.size := by
      have := (List.getElem?_eq_some_iff.mp hu).1
      simpa using this
    refine wpAny_pyNext_enum_itemD (Draws.tuple (A := X.A.in1) (I.ok.hd hc) it a hai its.toArray) he ⟨hit, p⟩ hj hne (by simp [hne, hae.symm]) fun y h' tk hy ho hit' hT hsz hk => ?_
    have ey : y = u := by
      have h1 : its[i]? = some y := by simpa using hy
      exact Option.some.inj (h1.symm.trans hu)
    subst ey
    refine ⟨_, rfl, wpAny_letOwnedTupleGo_enum (s := { s with heap := h', toks := tk + 1 }) ho fun h'' he' sb => ?_⟩
    have hT2 : h''.get? s.heap.objs.size = some { cls := .type "tuple", data := .seq #[.int i tk, y] } := (sb.2 _ (Nat.ne_of_gt hel)).trans hT
    have new : ObjOk X.prog X.w (upd H s.heap.objs.size (.tup [.int (i : Nat), x])) h'' s.heap.objs.size (.tup [.int (i : Nat), x]) :=
      ⟨by show 2 ≤ sizeLine; decide, [.int i tk, y], .cons ⟨_, rfl⟩ (.cons ru .nil), ⟨_, hT2, rfl, _, rfl⟩⟩
    have I1 : Inv X pins σ (upd H s.heap.objs.size (.tup [.int (i : Nat), x])) { s with heap := h'', toks := tk + 1 } :=
      I.turnedNew (ch := [e, it]) (fun b ob hb q => (sb.2 b (fun z => hb (by simp [z]))).trans (hk b ob (fun z => hb (by simp [z])) (fun z => hb (by simp [z])) q)) hf (Nat.le_refl _) new
    refine ⟨.ref s.heap.objs.size, _, I1, rfl, ⟨_, x, rfl, I.hok.fresh (Nat.le_refl _), rfl, fun ys hy => by rw [I.tuple_inj hy hq]; exact hx⟩, ⟨⟨y, ?_⟩, hit'.1.at fun o q => (sb.2 it (Ne.symm hne)).trans q, hne, hai, hae⟩, fun b hb => ?_⟩
    · rw [show ((i + 1 : Nat) : Int) = (i : Int) + 1 by omega]
      exact he'
    · have hb' : b < s.heap.objs.size := by
        rcases List.mem_cons.mp hb with z | hb
        · rw [z]
          exact hel
        · rw [List.mem_singleton.mp hb]
          exact hil
      rw [upd_ne (Nat.ne_of_lt hb')]
      exact (hf b hb).1
  done := by
    intro X hP hw hK hc i pins s σ H E I hf st hg
    subst hP hw hK
    obtain ⟨⟨old, he⟩, hit, hne, hai, hae⟩ := st
    obtain ⟨xs, hq, hx⟩ := hg
    obtain ⟨its, rv, p, hz⟩ := I.tuple hq
    obtain ⟨f0, f1, f2, f3, f4, f5⟩ := hf it (by simp)
    have hl : its.toArray.size = i := by
      rw [List.size_toArray, ← rv.length, hx]
    subst hl
    exact wpAny_pyNext_enum_endD (Draws.tuple (A := X.A.in1) (I.ok.hd hc) it a hai its.toArray) he ⟨hit, p⟩ fun h' eb => ⟨rfl, I.turned (t' := s.toks) (fun b o hb q => eb b o hb q) f0 f1 f3 f4 f5⟩
  self := fun A i s Q E st h => by
    obtain ⟨⟨_, he⟩, _⟩ := st
    exact wpAny_pyIter_enum he h
def iEnumT (K : PySem.W.Frag) (ta : TA) : TI := fun σ H R => ta σ H fun vs H1 => ∃ a xs, vs = [.ref a] ∧ SqT K H1 a xs ∧ R (IteT K a) H1
theorem pi_enumT {X : Cx} {e : Expr} {ta : TA} {p pos tpos : Pos} {elts : List Expr} {kk : Nat} (hg : Gl X "enumerate") (hm : X.mg "enumerate" = none) (ha : PA X [e] ta) (hs : starEach [e] X.env = [(false, eval e X.env)] := by rfl) :
    PI X (.Tuple elts kk tpos) (.Call (.Name "enumerate" p) [e] [] pos) (iEnumT X.K ta) := by
  refine ⟨fun pins s σ H R I h => ?_⟩
  refine Call_ (ld_blt I hg hm boot_enumerate (PyProof.Rows.callWith_type1 (thn (ha.run pos pins s σ H _ I h) fun us s1 ⟨vs, H1, I1, r1, q1⟩ => ?_) hs rfl))
  obtain ⟨a, xs, ex, hq, q⟩ := q1
  subst ex
  cases r1 with
  | cons r rr =>
    cases rr
    cases r
    obtain ⟨its, rv, p', hz⟩ := I1.tuple hq
    have hlt : a < s1.heap.objs.size := by
      obtain ⟨o, ho, _⟩ := id p'
      exact Heap.lt_size ho
    refine call_enumT p' fun h' he hit hk => wpAny_pyIter_enum he ?_
    have I2 : Inv X pins σ H1 { s1 with heap := h' } := I1.kept (t' := s1.toks) hk
    refine ⟨s1.heap.objs.size + 1, [s1.heap.objs.size + 1, s1.heap.objs.size], _, _, H1, rfl, I2, turn_enumT a (s1.heap.objs.size + 1) s1.heap.objs.size, ⟨⟨.none, he⟩, hit, Nat.succ_ne_self _, Nat.ne_of_lt hlt, Nat.ne_of_lt (Nat.lt_succ_of_lt hlt)⟩, fun b hb => ?_, q⟩
    have hle : s1.heap.objs.size ≤ b := by
      rcases List.mem_cons.mp hb with z | hb
      · rw [z]
        exact Nat.le_add_right _ _
      · rw [List.mem_singleton.mp hb]
        exact Nat.le_refl _
    exact I1.fpOk hle (I1.hok.fresh hle)
end LL
/-! Own rules: dicts whose keys are vectors. -/
namespace LL
open PySem PySem.Spec PyProof.Rows L2
/-- a vector as a key -/
def keyV (v : List Int) : List L2.Key := v.map Sum.inl
theorem keyV_map (v : List Int) : (keyV v).map kV = v.map V.int := by
  unfold keyV
  rw [List.map_map]
  rfl
theorem keyV_inj : ∀ {v u : List Int}, keyV v = keyV u → v = u
  | [], [], _ => rfl
  | x :: v, y :: u, h => by
    have h' : (Sum.inl x : L2.Key) :: keyV v = Sum.inl y :: keyV u := h
    rw [Sum.inl.inj (List.cons.inj h').1, keyV_inj (List.cons.inj h').2]
  | [], _ :: _, h => nomatch h
  | _ :: _, [], h => nomatch h
/-- a dict that holds True at each of these vectors -/
def kvsOf (ks : List (List Int)) : List (List L2.Key × V) := ks.map fun v => (keyV v, V.bl true)
def putV (ks : List (List Int)) (v : List Int) : List (List Int) := if v ∈ ks then ks else ks ++ [v]
theorem valV_kvsOf {ks : List (List Int)} {v : List Int} : valV (kvsOf ks) (keyV v) = if v ∈ ks then some (V.bl true) else none := by
  induction ks with
  | nil => rfl
  | cons u ks ih =>
    show valV ((keyV u, V.bl true) :: kvsOf ks) (keyV v) = _
    by_cases e : u = v
    · rw [valV_pos (show (keyV u, V.bl true).1 = keyV v from congrArg keyV e), if_pos (by rw [e]; exact List.mem_cons_self)]
    · rw [valV_neg (fun z => e (keyV_inj z)), ih]
      by_cases hm : v ∈ ks
      · rw [if_pos hm, if_pos (List.mem_cons_of_mem _ hm)]
      · rw [if_neg hm, if_neg fun z => (List.mem_cons.mp z).elim (fun z => e z.symm) hm]
theorem putK_kvsOf (ks : List (List Int)) (v : List Int) : putK (kvsOf ks) (keyV v) (V.bl true) = kvsOf (putV ks v) := by
  have ha : ((kvsOf ks).any fun kv => decide (kv.1 = keyV v)) = decide (v ∈ ks) := by
    rw [valV_any, valV_kvsOf]
    by_cases hm : v ∈ ks
    · rw [if_pos hm, decide_eq_true hm] <;> rfl
    · rw [if_neg hm, decide_eq_false hm] <;> rfl
  unfold putK putV
  rw [ha]
  by_cases hm : v ∈ ks
  · rw [if_pos (decide_eq_true hm), if_pos hm]
    unfold kvsOf
    rw [List.map_map]
    refine List.map_congr_left fun u _ => ?_
    show (if keyV u = keyV v then (keyV u, V.bl true) else (keyV u, V.bl true)) = (keyV u, V.bl true)
    split <;> rfl
  · rw [if_neg (by rw [decide_eq_false hm]; exact Bool.false_ne_true), if_neg hm]
    unfold kvsOf
    rw [List.map_append] <;> rfl
theorem kvsOf_length (ks : List (List Int)) : (kvsOf ks).length = ks.length := List.length_map _
theorem putV_mem {ks : List (List Int)} {v u : List Int} : u ∈ putV ks v ↔ u ∈ ks ∨ u = v := by
  unfold putV
  by_cases hm : v ∈ ks
  · rw [if_pos hm]
    exact ⟨.inl, fun h => h.elim id fun e => e ▸ hm⟩
  · rw [if_neg hm, List.mem_append, List.mem_singleton]
theorem putV_nodup {ks : List (List Int)} {v : List Int} (h : ks.Nodup) : (putV ks v).Nodup := by
  unfold putV
  by_cases hm : v ∈ ks
  · rw [if_pos hm]
    exact h
  · rw [if_neg hm, List.nodup_append]
    refine ⟨h, by simp, fun a ha b hb e => ?_⟩
    rw [List.mem_singleton.mp hb] at e
    rw [e] at ha
    exact hm ha
theorem putV_length {ks : List (List Int)} {v : List Int} : (putV ks v).length ≤ ks.length + 1 := by
  unfold putV
  split
  · omega
  · simp
def dedup (vs : List (List Int)) : List (List Int) := vs.foldl putV []
theorem dedup_gen : ∀ (vs ks : List (List Int)), (∀ v, v ∈ vs.foldl putV ks ↔ v ∈ ks ∨ v ∈ vs) ∧ (vs.foldl putV ks).length ≤ ks.length + vs.length
  | [], ks => ⟨fun v => by simp, by simp⟩
  | u :: vs, ks => by
    obtain ⟨h1, h2⟩ := dedup_gen vs (putV ks u)
    refine ⟨fun v => ?_, ?_⟩
    · rw [List.foldl_cons, h1, putV_mem, List.mem_cons]
      constructor
      · rintro ((h | h) | h)
        · exact .inl h
        · exact .inr (.inl h)
        · exact .inr (.inr h)
      · rintro (h | h | h)
        · exact .inl (.inl h)
        · exact .inl (.inr h)
        · exact .inr h
    · rw [List.foldl_cons, List.length_cons]
      have := putV_length (ks := ks) (v := u)
      omega
theorem dedup_mem {vs : List (List Int)} {v : List Int} : v ∈ dedup vs ↔ v ∈ vs := by
  have := (dedup_gen vs []).1 v
  simpa [dedup] using this
theorem dedup_length (vs : List (List Int)) : (dedup vs).length ≤ vs.length := by
  have := (dedup_gen vs []).2
  simpa [dedup] using this
/-- what d[v], v in d says -/
theorem dget_vec {H : Hp} {d : Addr} {ks : List (List Int)} {x : V} {v : List Int} (hd : H d = some (.dT (kvsOf ks))) (hx : IsVec H x v) : DGet H d x (if v ∈ ks then some (V.bl true) else none) := by
  obtain ⟨a, rfl, ha⟩ := hx
  rw [← valV_kvsOf]
  exact DGet.t hd (by rw [keyV_map]; exact ha)
theorem dput_vec {H : Hp} {d : Addr} {ks : List (List Int)} {x : V} {v : List Int} (hd : H d = some (.dT (kvsOf ks))) (hx : IsVec H x v) (hl : ks.length < sizeLine) : DPut H d x (.bl true) (upd H d (.dT (kvsOf (putV ks v)))) := by
  obtain ⟨a, rfl, ha⟩ := hx
  rw [← putK_kvsOf]
  exact DPut.t hd (by rw [keyV_map]; exact ha) (by rw [kvsOf_length]; exact hl)
/-- dict(l), l a list of pairs of a vector and True -/
def IsPairT (H : Hp) (x : V) (v : List Int) : Prop := ∃ (t b : Addr), x = .ref t ∧ H t = some (.tup [.ref b, .bl true]) ∧ H b = some (.tup (v.map V.int))
theorem IsPairT.tups {H H' : Hp} {x : V} {v : List Int} (h : IsPairT H x v) (s : TupS H H') : IsPairT H' x v := let ⟨t, b, e, h1, h2⟩ := h; ⟨t, b, e, s _ _ h1, s _ _ h2⟩
def rDictV (K : PySem.W.Frag) : List V → Hp → VK → Prop := fun us H Q => ∃ (a : Addr) (xs : List V) (vs : List (List Int)), us = [V.ref a] ∧ SqL K H a xs ∧ Paired (IsPairT H) xs vs ∧
  ∀ p : Addr, H p = none → Q (.ref p) (upd H p (.dT (kvsOf (dedup vs))))
section
variable {X : Cx}
theorem pairs_vec {pins : List (Addr × Obj)} {σ : L2.St} {H : Hp} {s : Shared} (I : L2.Inv X pins σ H s) : ∀ {xs : List V} {vs : List (List Int)} {its : List Value}, Paired (IsPairT H) xs vs → Vals xs its →
    ∃ (Ts : List Addr) (bs : List Addr), its = Ts.map Value.ref ∧ Ts.length = vs.length ∧ bs.length = vs.length ∧
      ∀ (j : Nat) (v : List Int), vs[j]? = some v → ∃ T b, Ts[j]? = some T ∧ bs[j]? = some b ∧ s.heap.IsTuple T #[.ref b, .bool true] ∧ H b = some (.tup (v.map V.int))
  | _, _, _, .nil, .nil => ⟨[], [], rfl, rfl, rfl, fun j v h => by simp at h⟩
  | _, _, _, .cons h t, .cons r rr => by
    obtain ⟨T, b, rfl, hT, hb⟩ := h
    cases r
    obtain ⟨Ts, bs, e, l1, l2, hh⟩ := pairs_vec I t rr
    obtain ⟨_, its, r2, o, ho, hc, n, hd⟩ := I.hok _ _ hT
    obtain ⟨u1, u2, rfl, q1, q2⟩ := vals2 r2
    cases q1
    cases q2
    refine ⟨T :: Ts, b :: bs, by rw [List.map_cons, e], by rw [List.length_cons, List.length_cons, l1], by rw [List.length_cons, List.length_cons, l2], fun j v h => ?_⟩
    cases j with
    | zero =>
      have e := Option.some.inj h
      subst e
      exact ⟨T, b, rfl, rfl, ⟨o, ho, hc, n, hd⟩, hb⟩
    | succ j => exact hh j v h
theorem kt_all {H : Hp} : ∀ {vs : List (List Int)} {bs : List Addr} {ks : List (List Int)} {xs : List (List L2.Key × Addr × Value)}, bs.length = vs.length → (∀ (j : Nat) (v : List Int), vs[j]? = some v → ∃ b, bs[j]? = some b ∧ H b = some (.tup (v.map V.int))) →
    KT H (kvsOf ks) xs → KT H (kvsOf (vs.foldl putV ks)) (storedAllH xs ((vs.zip bs).map fun p => (keyV p.1, p.2, Value.bool true)))
  | [], [], ks, xs, _, _, r => r
  | v :: vs, b :: bs, ks, xs, hl, hb, r => by
    obtain ⟨b', e, h⟩ := hb 0 v rfl
    cases e
    have r' : KT H (kvsOf (putV ks v)) (storedH xs (keyV v) b (.bool true)) := by
      rw [← putK_kvsOf]
      exact KT.put r (keyV v) (by rw [keyV_map]; exact h) rfl
    exact kt_all (vs := vs) (bs := bs) (Nat.succ.inj hl) (fun j u hu => hb (j + 1) u hu) r'
  | [], _ :: _, _, _, hl, _, _ => nomatch hl
  | _ :: _, [], _, _, hl, _, _ => nomatch hl
theorem cr_dictV (hc : X.calm = true) (hu : X.A.units + 3 < cLine) : CallR X (.type "dict") (rDictV X.K) := by
  intro pins s σ H us us' Q I r h
  obtain ⟨a, xs, vs, rfl, hs, hp, q⟩ := h
  obtain ⟨its, rv, pl, hz⟩ := I.list hs
  rw [Vals.ref1 r]
  obtain ⟨Ts, bs, ei, l1, l2, hh⟩ := pairs_vec I hp rv
  subst ei
  obtain ⟨o, n, ho, hcl, hdi, hdat⟩ := pl
  have lx : vs.length = xs.length := (plen hp).symm
  have hb : ∀ (j : Nat) (v : List Int), vs[j]? = some v → ∃ b, bs[j]? = some b ∧ H b = some (.tup (v.map V.int)) := fun j v hv => by
    obtain ⟨T, b, _, h2, _, h4⟩ := hh j v hv
    exact ⟨b, h2, h4⟩
  have hat : ∀ (j : Nat) (k v : Value), (bs.map fun b => (Value.ref b, Value.bool true))[j]? = some (k, v) → ∃ u T b, vs[j]? = some u ∧ Ts[j]? = some T ∧ bs[j]? = some b ∧ k = .ref b ∧ v = .bool true ∧ s.heap.IsTuple T #[.ref b, .bool true] := fun j k v hj => by
    have hlt : j < bs.length := by
      have := (List.getElem?_eq_some_iff.mp hj).1
      simpa using this
    have hv : vs[j]? = some vs[j] := List.getElem?_eq_getElem (by omega)
    obtain ⟨T, b, h1, h2, h3, h4⟩ := hh j _ hv
    rw [List.getElem?_map, h2] at hj
    have e := Option.some.inj hj
    exact ⟨_, T, b, hv, h1, h2, (congrArg Prod.fst e).symm, (congrArg Prod.snd e).symm, h3⟩
  have ok : PlainSeq "list" s.heap a (Ts.map Value.ref).toArray ∧ PairItems s.heap (Ts.map Value.ref).toArray (fun j => Ts.getD j 0) (bs.map fun b => (Value.ref b, Value.bool true)) := by
    refine ⟨⟨o, n, ho, hcl, hdi, hdat⟩, by simp [l1, l2], fun j k v hj => ?_⟩
    obtain ⟨u, T, b, _, h1, h2, rfl, rfl, h3⟩ := hat j k v hj
    have e : Ts.getD j 0 = T := by rw [List.getD_eq_getElem?_getD, h1]; rfl
    have g : (Ts.map Value.ref).toArray[j]? = some (.ref T) := by
      rw [List.getElem?_toArray, List.getElem?_map, h1]
      rfl
    show (Ts.map Value.ref).toArray[j]? = some (.ref (Ts.getD j 0)) ∧ PairAt s.heap (Ts.getD j 0) (.ref b) (.bool true)
    rw [e]
    exact ⟨g, .inl h3⟩
  refine call_dict_pairsH (knd := tupleKind (mixKind X.prog X.w)) (ps := (vs.zip bs).map fun p => (keyV p.1, p.2, Value.bool true))
    (PairArg.list a (Ts.map Value.ref).toArray (fun j => Ts.getD j 0) (bs.map fun b => (Value.ref b, Value.bool true))) (I.ok.hd hc) (show X.A.in1.in1.units < cLine by show X.A.units + 1 + 1 < cLine; omega) ok ⟨by simp [l2], fun i k v hr => ?_⟩ (fun h' hk x hx => ?_) (by rw [List.length_map, l2, lx]; exact hz) (fun h' tk hd' hk => ?_)
  · obtain ⟨u, T, b, hv, h1, h2, rfl, rfl, h3⟩ := hat i k v hr
    refine ⟨keyV u, b, ?_, rfl⟩
    rw [List.getElem?_map, List.getElem?_zip_eq_some (z := (u, b)) |>.mpr ⟨hv, h2⟩]
    rfl
  · obtain ⟨p, hp', e⟩ := List.mem_map.mp hx
    subst e
    obtain ⟨j, hj, e⟩ := List.mem_iff_getElem.mp hp'
    have hz' : (vs.zip bs)[j]? = some p := by rw [List.getElem?_eq_getElem hj, e]
    obtain ⟨hv, hbj⟩ := List.getElem?_zip_eq_some.mp hz'
    obtain ⟨b, hb1, hb2⟩ := hb j p.1 hv
    have eb : b = p.2 := Option.some.inj (hb1.symm.trans hbj)
    subst eb
    have okh : HOk X.prog X.w H h' := I.hok.kept fun b u e => hk b u (Nat.ne_of_lt (Heap.lt_size e)) (by simp) e
    exact key_of okh (by rw [keyV_map]; exact hb2)
  · obtain ⟨o', es, ep, h1, h2, h3, h4, _, h5⟩ := hd'
    have hm : (s.heap.objs.size == sysModules) = false := beq_eq_false_iff_ne.mpr (Nat.ne_of_gt I.big)
    have kt := kt_all (ks := []) (xs := []) l2 hb .nil
    have hfresh := I.hok.fresh (Nat.le_refl s.heap.objs.size)
    have hlen : (kvsOf (dedup vs)).length ≤ sizeLine := by
      rw [kvsOf_length]
      have := dedup_length vs
      omega
    exact ⟨.ref s.heap.objs.size, upd H s.heap.objs.size (.dT (kvsOf (dedup vs))), I.laid (t' := tk) (fun b o e => hk b o (by simp) e) (Nat.le_refl _)
      (show ObjOk X.prog X.w _ _ _ (.dT (kvsOf (dedup vs))) from ⟨hlen, hm, _, kt.keeps fun b ys e => by rw [upd_ne (ne_of_none e hfresh)]; exact e, o', es, ep, h1, h2, h3, h4, h5⟩), rfl, q _ hfresh⟩
end
end LL
namespace LL
open PySem PySem.Spec PyProof.Rows L2
abbrev sBelow : Stmt := top 19
abbrev sPlus : Stmt := top 20
abbrev sUnit : Stmt := top 21
abbrev sAboveAny : Stmt := top 22
abbrev sWithin : Stmt := top 12
section
variable {P : Program} {w : World} {K : PySem.W.Frag} {mg : Str → Option Value} {base : Heap}
/-! ### below -/
def spBelow : Sp := fun vs H Q _ => ∃ (x y : V) (a b : List Int), vs = [x, y] ∧ IsVec H x a ∧ IsVec H y b ∧ a.length = b.length ∧ a.length ≤ 1000 ∧ ∀ H', Same H H' → Q (.bl (below a b)) H'
theorem scBelow : FnScope ["one", "other", "number", "more"] ["one", "other"] (defScope sBelow) := ⟨rfl, rfl, rfl, by decide +kernel, rfl, by decide +kernel, by decide +kernel⟩
theorem ok_below (D : Dn K mg "below" sBelow ["one", "other"]) (B : Blt mg) : C8.Cal P w K mg base 1 "below" spBelow [] := by
  refine D.cal scBelow (fun vs H Q E h => ?_) (fun f cdv A outer s H vs Q E hr h => ?_)
  · obtain ⟨x, y, a, b, rfl, _⟩ := h
    rfl
  · obtain ⟨x, y, a, b, rfl, ⟨p, rfl, hp⟩, ⟨q, rfl, hq⟩, hl, hz, k⟩ := h
    refine ⟨_, pss_one (ps_ret (pe_callB (cr_all rfl) (by rfl) B.all (by decide +kernel) (pa_cons
      (pe_lc (own := [("number", 2), ("more", 3)]) (g := gTup K 2 (gCons (gName 2) (gCons (gName 3) gNil))) (tt := tYes) (by rfl) scBelow.nd (RZ.pi_zipA (by rfl) B.zip (pa_cons (pv 0) (pa_cons (pv 1) pa_nil)))
        (blkOk_by (N := ["one", "other", "number", "more"]) (sc := defScope sBelow) (by decide +kernel))
        (fun _ _ _ _ _ => by exact pg_tup rfl (pgs_cons (pg_name (i := 2) scBelow.nd rfl (Or.inl rfl)) (pgs_cons (pg_name (i := 3) scBelow.nd rfl (Or.inl rfl)) pgs_nil)))
        (fun _ _ _ _ _ => pts_nil) (fun _ _ _ _ _ => by exact pe_cmpR op_le (pv 2) (pv 3) (nomark _))) pa_nil))), ?_⟩
    refine ⟨_, rfl, _, rfl, p, q, a.map V.int, b.map V.int, rfl, .inr ⟨SqT.of hp, SqT.of hq, fun L hL => ?_⟩⟩
    refine lc_vals (walk_zipT (by simpa using hl)) hL (fun i => .bl (decide (a.getD i 0 ≤ b.getD i 0))) (fun H' s' => ⟨s'.tup (SqT.of hp), s'.tup (SqT.of hq)⟩) (by simpa using Nat.le_trans hz (by decide))
      (fun i v H1 H2 hi s1 y K1 k1 => ?_) (fun H1 s1 h1 => ?_)
    · obtain ⟨T, x, z, rfl, nT, rfl, ex, ez⟩ := y
      obtain ⟨_, rfl⟩ := int_at ex
      obtain ⟨_, rfl⟩ := int_at ez
      exact ⟨T, _, rfl, SqT.of upd_same, rfl, _, _, rfl, _, _, rfl, rfl, rfl, _, rfl, _, rfl, _, _, rfl, rfl, k1 _ (same_new nT)⟩
    · rw [List.length_map, map_bl, map_zip hl 0 0 fun x y => decide (x ≤ y)] at h1
      refine ⟨L, _, rfl, SqL.of h1, ?_⟩
      rw [all_map]
      exact k _ s1
/-! ### plus -/
def spPlus : Sp := fun vs H Q _ => ∃ (x y : V) (a b : List Int), vs = [x, y] ∧ IsVec H x a ∧ IsVec H y b ∧ a.length = b.length ∧ a.length ≤ 1000 ∧ ∀ H' z, Same H H' → IsVec H' z (plus a b) → Q z H'
theorem scPlus : FnScope ["one", "other", "number", "more"] ["one", "other"] (defScope sPlus) := ⟨rfl, rfl, rfl, by decide +kernel, rfl, by decide +kernel, by decide +kernel⟩
theorem ok_plus (D : Dn K mg "plus" sPlus ["one", "other"]) (B : Blt mg) : C8.Cal P w K mg base 1 "plus" spPlus [] := by
  refine D.cal scPlus (fun vs H Q E h => ?_) (fun f cdv A outer s H vs Q E hr h => ?_)
  · obtain ⟨x, y, a, b, rfl, _⟩ := h
    rfl
  · obtain ⟨x, y, a, b, rfl, ⟨p, rfl, hp⟩, ⟨q, rfl, hq⟩, hl, hz, k⟩ := h
    refine ⟨_, pss_one (ps_ret (pe_callTy call_tuple_of (by rfl) B.tuple (by decide +kernel) (pa_cons
      (pe_lc (own := [("number", 2), ("more", 3)]) (g := gTup K 2 (gCons (gName 2) (gCons (gName 3) gNil))) (tt := tYes) (by rfl) scPlus.nd (RZ.pi_zipA (by rfl) B.zip (pa_cons (pv 0) (pa_cons (pv 1) pa_nil)))
        (blkOk_by (N := ["one", "other", "number", "more"]) (sc := defScope sPlus) (by decide +kernel))
        (fun _ _ _ _ _ => by exact pg_tup rfl (pgs_cons (pg_name (i := 2) scPlus.nd rfl (Or.inl rfl)) (pgs_cons (pg_name (i := 3) scPlus.nd rfl (Or.inl rfl)) pgs_nil)))
        (fun _ _ _ _ _ => pts_nil) (fun _ _ _ _ _ => by exact pe_op op_add (pv 2) (pv 3))) pa_nil))), ?_⟩
    refine ⟨_, rfl, _, rfl, p, q, a.map V.int, b.map V.int, rfl, .inr ⟨SqT.of hp, SqT.of hq, fun L hL => ?_⟩⟩
    refine lc_vals (walk_zipT (by simpa using hl)) hL (fun i => .int (a.getD i 0 + b.getD i 0)) (fun H' s' => ⟨s'.tup (SqT.of hp), s'.tup (SqT.of hq)⟩) (by simpa using Nat.le_trans hz (by decide))
      (fun i v H1 H2 hi s1 y K1 k1 => ?_) (fun H1 s1 h1 => ?_)
    · obtain ⟨T, x, z, rfl, nT, rfl, ex, ez⟩ := y
      obtain ⟨_, rfl⟩ := int_at ex
      obtain ⟨_, rfl⟩ := int_at ez
      exact ⟨T, _, rfl, SqT.of upd_same, rfl, _, _, rfl, _, _, rfl, rfl, rfl, _, rfl, _, rfl, _, _, rfl, rfl, k1 _ (same_new nT)⟩
    · rw [List.length_map, map_int, map_zip hl 0 0 fun x y => x + y] at h1
      exact ⟨L, _, rfl, .inl ⟨SqL.of h1, fun l hl => k _ _ (s1.trans (same_new hl)) ⟨l, rfl, upd_same⟩⟩⟩
/-! ### unit -/
def spUnit : Sp := fun vs H Q _ => ∃ (wd j : Nat), vs = [.int (wd : Int), .int (j : Int)] ∧ j < wd ∧ wd ≤ 1000 ∧ ∀ H' z, Same H H' → IsVec H' z (unit wd j) → Q z H'
theorem scUnit : FnScope ["width", "j"] ["width", "j"] (defScope sUnit) := ⟨rfl, rfl, rfl, by decide +kernel, rfl, by decide +kernel, by decide +kernel⟩
theorem rep_zero (n : Nat) : (List.replicate n [V.int 0]).flatten = (List.replicate n (0 : Int)).map V.int := by
  induction n with
  | zero => rfl
  | succ n ih => rw [List.replicate_succ, List.replicate_succ, List.flatten_cons, List.map_cons, ih] <;> rfl
/-- (0,) * n, n from 0 -/
theorem zeros {K : PySem.W.Frag} {H : Hp} {p : Addr} {n : Nat} {Q : VK} (hn : n ≤ 1000) (hp : H p = some (.tup [V.int 0])) (k : ∀ H' z, Same H H' → IsVec H' z (List.replicate n 0) → Q z H') : rMulT K (.ref p) (.int (n : Int)) H Q := by
  refine ⟨p, (n : Int), [V.int 0], rfl, rfl, SqT.of hp, by simp, by omega, by omega, by simp, fun e => ?_, fun e q hq => ?_⟩
  · have e' : n = 1 := by omega
    subst e'
    exact k H _ (Same.refl H) ⟨p, rfl, hp⟩
  · refine k _ _ (same_new hq) ⟨q, rfl, ?_⟩
    rw [upd_same, Int.toNat_natCast, rep_zero]
/-- one vector + another -/
theorem cats {K : PySem.W.Frag} {H : Hp} {x y : V} {a b : List Int} {Q : VK} (hx : IsVec H x a) (hy : IsVec H y b) (hl : a.length + b.length ≤ 10000) (k : ∀ H' z, Same H H' → IsVec H' z (a ++ b) → Q z H') : rCatA K x y H Q := by
  obtain ⟨p, rfl, hp⟩ := hx
  obtain ⟨q, rfl, hq⟩ := hy
  refine ⟨p, q, _, _, rfl, rfl, SqT.of hp, SqT.of hq, by rw [List.length_map, List.length_map, sizeLine_eq]; omega, fun e => ?_, fun _ e => ?_, fun _ _ r hr => ?_⟩
  · have e' : a = [] := List.map_eq_nil_iff.mp e
    subst e'
    exact k H _ (Same.refl H) ⟨q, rfl, hq⟩
  · have e' : b = [] := List.map_eq_nil_iff.mp e
    subst e'
    rw [List.append_nil] at k
    exact k H _ (Same.refl H) ⟨p, rfl, hp⟩
  · refine k _ _ (same_new hr) ⟨r, rfl, ?_⟩
    rw [upd_same, List.map_append]
theorem ok_unit (D : Dn K mg "unit" sUnit ["width", "j"]) : C8.Cal P w K mg base 1 "unit" spUnit [] := by
  refine D.cal scUnit (fun vs H Q E h => ?_) (fun f cdv A outer s H vs Q E hr h => ?_)
  · obtain ⟨wd, j, rfl, _⟩ := h
    rfl
  · obtain ⟨wd, j, rfl, hj, hw, k⟩ := h
    refine ⟨_, pss_one (ps_ret (pe_op op_catA (pe_op op_catA (pe_op op_mulT (pe_tup (pa_cons pe_int pa_nil)) (pv 1)) (pe_tup (pa_cons pe_int pa_nil)))
      (pe_op op_mulT (pe_tup (pa_cons pe_int pa_nil)) (pe_op op_sub (pe_op op_sub (pv 0) pe_int) (pv 1))))), ?_⟩
    refine ⟨by show 1 ≤ sizeLine; decide, fun p np => ⟨_, rfl, ?_⟩⟩
    refine zeros (by omega) upd_same fun H1 z1 s1 h1 => ?_
    refine ⟨by show 1 ≤ sizeLine; decide, fun q nq => ?_⟩
    refine cats (h1.same (same_new nq)) ⟨q, rfl, show _ = some (.tup ([(1 : Int)].map V.int)) from upd_same⟩ (by rw [List.length_replicate, List.length_singleton]; omega) fun H2 z2 s2 h2 => ?_
    refine ⟨by show 1 ≤ sizeLine; decide, fun r nr => ?_⟩
    have e : ((wd : Int) - 1 - (j : Int)) = ((wd - 1 - j : Nat) : Int) := by omega
    refine ⟨_, rfl, _, _, rfl, rfl, _, rfl, _, _, rfl, rfl, ?_⟩
    show rMulT K (.ref r) (.int ((wd : Int) - 1 - (j : Int))) _ _
    rw [e]
    refine zeros (by omega) upd_same fun H3 z3 s3 h3 => ?_
    refine cats ((h2.same (same_new nr)).same s3) h3 (by simp; omega) fun H4 z4 s4 h4 => ?_
    exact k H4 z4 (((((same_new np).trans s1).trans (same_new nq)).trans s2).trans ((same_new nr).trans (s3.trans s4))) h4
end
end LL
namespace LL
open PySem PySem.Spec PyProof.Rows L2
theorem vec_at {H : Hp} {xs : List V} {ss : List (List Int)} {i : Nat} {x : V} (hv : Vecs H xs ss) (h : xs[i]? = some x) : IsVec H x (ss.getD i []) ∧ ss.getD i [] ∈ ss := by
  obtain ⟨u, hu, hx⟩ := pget hv h
  have e : ss.getD i [] = u := by rw [List.getD_eq_getElem?_getD, hu]; rfl
  rw [e]
  exact ⟨hx, List.mem_of_getElem? hu⟩
/-- a comprehension's scope -/
def lcScope : Expr → Scope
  | .ListComp _ _ sc _ => sc
  | _ => ⟨.function, [], false, false, []⟩
/-- the first argument of the call that a def returns -/
def retArg (s : Stmt) : Expr := match defBody s with
  | .Return (some (.Call _ (e :: _) _ _)) _ :: _ => e
  | _ => .Constant .none 0 ⟨0, 0, 0, 0⟩
section
variable {P : Program} {w : World} {K : PySem.W.Frag} {mg : Str → Option Value} {base : Heap}
/-! ### above_any -/
def spAboveAny : Sp := fun vs H Q _ => ∃ (x y : V) (ss : List (List Int)) (v : List Int), vs = [x, y] ∧ (IsVecL H x ss ∨ IsVecT H x ss) ∧ IsVec H y v ∧ (∀ u ∈ ss, u.length = v.length) ∧ v.length ≤ 1000 ∧ ss.length ≤ 100000 ∧ ∀ H', Same H H' → Q (.bl (aboveAny ss v)) H'
theorem scAboveAny : FnScope ["some", "one", "other"] ["some", "one"] (defScope sAboveAny) := ⟨rfl, rfl, rfl, by decide +kernel, rfl, by decide +kernel, by decide +kernel⟩
theorem ok_aboveAny (D : Dn K mg "above_any" sAboveAny ["some", "one"]) (B : Blt mg) (c : C8.Cal P w K mg base 1 "below" spBelow []) : C8.Cal P w K mg base 2 "above_any" spAboveAny [] := by
  refine D.cal scAboveAny (fun vs H Q E h => ?_) (fun f cdv A outer s H vs Q E hr h => ?_)
  · obtain ⟨x, y, ss, v, rfl, _⟩ := h
    rfl
  · obtain ⟨x, y, ss, v, rfl, hx, hy, hl, hz, hn, k⟩ := h
    rcases hx with ⟨p, xs, rfl, hp, hv⟩ | ⟨p, xs, rfl, hp, hv⟩
    · refine ⟨_, pss_one (ps_ret (pe_callB (cr_any rfl) (by rfl) B.any (by decide +kernel) (pa_cons
        (pe_lc (own := [("other", 2)]) (g := gName 2) (tt := tYes) (by rfl) scAboveAny.nd (pi_list (pv 0))
          (blkOk_by (N := ["some", "one", "other"]) (sc := defScope sAboveAny) (by decide +kernel))
          (fun _ _ _ _ _ => by exact pg_name (i := 2) scAboveAny.nd rfl (Or.inl rfl))
          (fun _ _ _ _ _ => pts_nil) (fun _ _ _ _ _ => by exact C8.pe_c c hr (by decide) (by rfl) (pa_cons (pv 2) (pa_cons (pv 1) pa_nil)))) pa_nil))), ?_⟩
      refine ⟨_, rfl, p, rfl, ⟨_, SqL.of hp⟩, fun L hL => ?_⟩
      have hlen := plen hv
      refine lc_vals walk_list hL (fun i => .bl (below (ss.getD i []) v)) (fun H' s' => s'.seq (SqL.of hp)) (by omega) (fun i u H1 H2 hi s1 yy K1 k1 => ?_) (fun H1 s1 h1 => ?_)
      · obtain ⟨rfl, ex⟩ := yy
        obtain ⟨h1, h2⟩ := vec_at (hv.same s1) ex
        exact ⟨rfl, _, rfl, _, rfl, _, _, _, _, rfl, h1, hy.same s1, hl _ h2, by rw [hl _ h2]; exact hz, k1⟩
      · rw [hlen, map_bl, map_one [] fun u => below u v] at h1
        refine ⟨L, _, rfl, SqL.of h1, ?_⟩
        rw [any_map]
        exact k _ s1
    · refine ⟨_, pss_one (ps_ret (pe_callB (cr_any rfl) (by rfl) B.any (by decide +kernel) (pa_cons
        (pe_lc (own := [("other", 2)]) (g := gName 2) (tt := tYes) (by rfl) scAboveAny.nd (pi_tup (pv 0))
          (blkOk_by (N := ["some", "one", "other"]) (sc := defScope sAboveAny) (by decide +kernel))
          (fun _ _ _ _ _ => by exact pg_name (i := 2) scAboveAny.nd rfl (Or.inl rfl))
          (fun _ _ _ _ _ => pts_nil) (fun _ _ _ _ _ => by exact C8.pe_c c hr (by decide) (by rfl) (pa_cons (pv 2) (pa_cons (pv 1) pa_nil)))) pa_nil))), ?_⟩
      refine ⟨_, rfl, p, rfl, ⟨_, SqT.of hp⟩, fun L hL => ?_⟩
      have hlen := plen hv
      refine lc_vals walk_tup hL (fun i => .bl (below (ss.getD i []) v)) (fun H' s' => s'.tup (SqT.of hp)) (by omega) (fun i u H1 H2 hi s1 yy K1 k1 => ?_) (fun H1 s1 h1 => ?_)
      · obtain ⟨rfl, ex⟩ := yy
        obtain ⟨h1, h2⟩ := vec_at (hv.same s1) ex
        exact ⟨rfl, _, rfl, _, rfl, _, _, _, _, rfl, h1, hy.same s1, hl _ h2, by rw [hl _ h2]; exact hz, k1⟩
      · rw [hlen, map_bl, map_one [] fun u => below u v] at h1
        refine ⟨L, _, rfl, SqL.of h1, ?_⟩
        rw [any_map]
        exact k _ s1
/-! ### within -/
def spWithin : Sp := fun vs H Q _ => ∃ (x y : V) (cs : List (Option Int)) (v : List Int), vs = [x, y] ∧ IsCaps H x cs ∧ IsVec H y v ∧ cs.length = v.length ∧ v.length ≤ 1000 ∧ ∀ H', Same H H' → Q (.bl (within cs v)) H'
theorem scWithin : FnScope ["caps", "one", "cap", "number"] ["caps", "one"] (defScope sWithin) := ⟨rfl, rfl, rfl, by decide +kernel, rfl, by decide +kernel, by decide +kernel⟩
theorem cap_at {cs : List (Option Int)} {i : Nat} {x : V} (h : (cs.map capV)[i]? = some x) : x = capV (cs.getD i none) := by
  rw [List.getElem?_map] at h
  cases e : cs[i]? with
  | none =>
    rw [e] at h
    cases h
  | some z =>
    rw [e] at h
    rw [List.getD_eq_getElem?_getD, e]
    exact (Option.some.inj h).symm
theorem ok_within (D : Dn K mg "within" sWithin ["caps", "one"]) (B : Blt mg) : C8.Cal P w K mg base 1 "within" spWithin [] := by
  refine D.cal scWithin (fun vs H Q E h => ?_) (fun f cdv A outer s H vs Q E hr h => ?_)
  · obtain ⟨x, y, cs, v, rfl, _⟩ := h
    rfl
  · obtain ⟨x, y, cs, v, rfl, ⟨p, rfl, hp⟩, ⟨q, rfl, hq⟩, hl, hz, k⟩ := h
    refine ⟨_, pss_one (ps_ret (pe_callB (cr_all rfl) (by rfl) B.all (by decide +kernel) (pa_cons
      (pe_lc (own := [("cap", 2), ("number", 3)]) (g := gTup K 2 (gCons (gName 2) (gCons (gName 3) gNil))) (tt := tYes) (by rfl) scWithin.nd (RZ.pi_zipA (by rfl) B.zip (pa_cons (pv 0) (pa_cons (pv 1) pa_nil)))
        (blkOk_by (N := ["caps", "one", "cap", "number"]) (sc := defScope sWithin) (by decide +kernel))
        (fun _ _ _ _ _ => by exact pg_tup rfl (pgs_cons (pg_name (i := 2) scWithin.nd rfl (Or.inl rfl)) (pgs_cons (pg_name (i := 3) scWithin.nd rfl (Or.inl rfl)) pgs_nil)))
        (fun _ _ _ _ _ => pts_nil) (fun _ _ _ _ _ => by exact pe_or (pe_cmpR op_isN (pv 2) pe_non (nomark _)) (pe_one (pe_cmpR op_le (pv 3) (pv 2) (nomark _))))) pa_nil))), ?_⟩
    refine ⟨_, rfl, _, rfl, p, q, cs.map capV, v.map V.int, rfl, .inr ⟨SqT.of hp, SqT.of hq, fun L hL => ?_⟩⟩
    refine lc_vals (walk_zipT (by simpa using hl)) hL (fun i => .bl (capOk (cs.getD i none) (v.getD i 0))) (fun H' s' => ⟨s'.tup (SqT.of hp), s'.tup (SqT.of hq)⟩) (by simp; omega)
      (fun i u H1 H2 hi s1 y K1 k1 => ?_) (fun H1 s1 h1 => ?_)
    · obtain ⟨T, x, z, rfl, nT, rfl, ex, ez⟩ := y
      have ex' := cap_at ex
      subst ex'
      obtain ⟨_, rfl⟩ := int_at ez
      have kk := k1 _ (same_new (o := .tup [capV (cs.getD i none), .int (v.getD i 0)]) nT)
      refine ⟨T, _, rfl, SqT.of upd_same, rfl, _, _, rfl, _, _, rfl, rfl, rfl, _, rfl, rfl, _, rfl, ?_⟩
      cases hc : cs.getD i none with
      | none =>
        rw [hc] at kk
        exact iteT kk
      | some m =>
        rw [hc] at kk
        exact iteF ⟨_, rfl, V.int m, rfl, _, _, rfl, rfl, kk⟩
    · rw [List.length_map, map_bl, map_zip hl none 0 fun x y => capOk x y] at h1
      refine ⟨L, _, rfl, SqL.of h1, ?_⟩
      rw [all_map]
      exact k _ s1
end
end LL
namespace LL
open PySem PySem.Spec PyProof.Rows L2
abbrev sSums : Stmt := top 14
abbrev sIsAnswer : Stmt := top 15
abbrev sPullBy : Stmt := top 16
abbrev sFalls : Stmt := top 17
/-- a number that one may multiply by -/
def Sm (n : Int) : Prop := -(2 ^ 64) < n ∧ n < 2 ^ 64
/-- rows of so many numbers each, none too great -/
structure RowsOk (rs : List (List Int)) (n : Nat) : Prop where
  len : ∀ r ∈ rs, r.length = n
  sm : ∀ r ∈ rs, ∀ x ∈ r, Sm x
  few : rs.length ≤ 1000
theorem getD_mem {α : Type} {l : List α} {i : Nat} {d : α} (h : i < l.length) : l.getD i d ∈ l := by
  rw [List.getD_eq_getElem?_getD, List.getElem?_eq_getElem h]
  exact List.getElem_mem h
theorem vec_ix {a : List Int} {j : Nat} (h : j < a.length) : (a.map V.int)[j]? = some (V.int (a.getD j 0)) := by
  rw [List.getD_eq_getElem?_getD, List.getElem?_map, List.getElem?_eq_getElem h]
  rfl
section
variable {P : Program} {w : World} {K : PySem.W.Frag} {mg : Str → Option Value} {base : Heap}
/-! ### sums -/
def spSums : Sp := fun vs H Q _ => ∃ (x y : V) (rs : List (List Int)) (v : List Int), vs = [x, y] ∧ IsVecT H x rs ∧ IsVec H y v ∧ RowsOk rs v.length ∧ v.length ≤ 1000 ∧ ∀ H' z, Same H H' → IsVec H' z (sums rs v) → Q z H'
theorem scSums : FnScope ["rows", "one", "row", "number", "many"] ["rows", "one"] (defScope sSums) := ⟨rfl, rfl, rfl, by decide +kernel, rfl, by decide +kernel, by decide +kernel⟩
theorem ok_sums (D : Dn K mg "sums" sSums ["rows", "one"]) (B : Blt mg) : C8.Cal P w K mg base 1 "sums" spSums [] := by
  refine D.cal scSums (fun vs H Q E h => ?_) (fun f cdv A outer s H vs Q E hr h => ?_)
  · obtain ⟨x, y, rs, v, rfl, _⟩ := h
    rfl
  · obtain ⟨x, y, rs, v, rfl, ⟨p, xs, rfl, hp, hv⟩, ⟨q, rfl, hq⟩, ro, hz, k⟩ := h
    refine ⟨_, pss_one (ps_ret (pe_callTy call_tuple_of (by rfl) B.tuple (by decide +kernel) (pa_cons
      (pe_lc (own := [("row", 2)]) (g := gName 2) (tt := tYes) (by rfl) scSums.nd (pi_tup (pv 0))
        (blkOk_by (N := ["rows", "one", "row", "number", "many"]) (sc := defScope sSums) (by decide +kernel))
        (fun _ _ _ _ _ => by exact pg_name (i := 2) scSums.nd rfl (Or.inl rfl))
        (fun _ _ _ _ _ => pts_nil) (fun _ _ _ _ _ => by
          exact pe_callB (r := rSum K) (cr_sum rfl) (by rfl) B.sum (by decide +kernel) (pa_cons (pe_lc (own := [("number", 3), ("many", 4)]) (wi := RZ.iZipA K (tCons (tVar 2) (tCons (tVar 1) tNil))) (g := gTup K 2 (gCons (gName 3) (gCons (gName 4) gNil))) (tt := tYes) (by rfl) scSums.nd (RZ.pi_zipA (by rfl) B.zip (pa_cons (pv 2) (pa_cons (pv 1) pa_nil)))
              (blkOk_by (N := ["rows", "one", "row", "number", "many"]) (sc := { kind := .function, names := [(".0", .local), ("row", .local), ("sum", .globalImplicit), ("zip", .globalImplicit), ("one", .cell)], isGenerator := false, isCoroutine := false }) (by decide +kernel))
              (fun _ _ _ _ _ => by exact pg_tup rfl (pgs_cons (pg_name (i := 3) scSums.nd rfl (Or.inl rfl)) (pgs_cons (pg_name (i := 4) scSums.nd rfl (Or.inl rfl)) pgs_nil)))
              (fun _ _ _ _ _ => pts_nil) (fun _ _ _ _ _ => by exact pe_op op_mul (pv 3) (pv 4))) pa_nil))) pa_nil))), ?_⟩
    have hlen := plen hv
    refine ⟨_, rfl, p, rfl, ⟨_, SqT.of hp⟩, fun L hL => ?_⟩
    refine lc_vals walk_tup hL (fun i => .int (dot (rs.getD i []) v)) (fun H' s' => s'.tup (SqT.of hp)) (by have := ro.few; omega) (fun i u H1 H2 hi s1 yy K1 k1 => ?_) (fun H1 s1 h1 => ?_)
    · obtain ⟨rfl, ex⟩ := yy
      obtain ⟨⟨r, rfl, hr1⟩, hm⟩ := vec_at (hv.same s1) ex
      have hl1 := ro.len _ hm
      have hq1 := s1 _ _ hq
      refine ⟨rfl, _, rfl, _, rfl, r, q, (rs.getD i []).map V.int, v.map V.int, rfl, .inr ⟨SqT.of hr1, SqT.of hq1, fun L2 hL2 => ?_⟩⟩
      refine lc_vals (walk_zipT (by simpa using hl1)) hL2 (fun j => .int ((rs.getD i []).getD j 0 * v.getD j 0)) (fun H' s' => ⟨s'.tup (SqT.of hr1), s'.tup (SqT.of hq1)⟩) (by rw [List.length_map]; omega)
        (fun j u H3 H4 hj s3 y K2 k2 => ?_) (fun H3 s3 h3 => ?_)
      · obtain ⟨T, x, z, rfl, nT, rfl, ex, ez⟩ := y
        obtain ⟨hj1, rfl⟩ := int_at ex
        obtain ⟨_, rfl⟩ := int_at ez
        exact ⟨T, _, rfl, SqT.of upd_same, rfl, _, _, rfl, _, _, rfl, rfl, rfl, _, rfl, _, rfl, _, _, rfl, rfl, .inl (ro.sm _ hm _ (getD_mem hj1)), k2 _ (same_new nT)⟩
      · rw [List.length_map, map_int, map_zip hl1 0 0 fun x y => x * y] at h3
        exact ⟨L2, _, rfl, SqL.of h3, k1 _ s3⟩
    · rw [hlen, map_int, map_one [] fun r => dot r v] at h1
      exact ⟨L, _, rfl, .inl ⟨SqL.of h1, fun l hl => k _ _ (s1.trans (same_new hl)) ⟨l, rfl, upd_same⟩⟩⟩
/-! ### is_answer -/
def spIsAnswer : Sp := fun vs H Q _ => ∃ (x y : V) (rs : List (List Int)) (v : List Int), vs = [x, y] ∧ IsVecT H x rs ∧ IsVec H y v ∧ RowsOk rs v.length ∧ v.length ≤ 1000 ∧ ∀ H', Same H H' → Q (.bl (isAns rs v)) H'
theorem scIsAnswer : FnScope ["rows", "one", "total"] ["rows", "one"] (defScope sIsAnswer) := ⟨rfl, rfl, rfl, by decide +kernel, rfl, by decide +kernel, by decide +kernel⟩
theorem ok_isAnswer (D : Dn K mg "is_answer" sIsAnswer ["rows", "one"]) (B : Blt mg) (c : C8.Cal P w K mg base 1 "sums" spSums []) : C8.Cal P w K mg base 2 "is_answer" spIsAnswer [] := by
  refine D.cal scIsAnswer (fun vs H Q E h => ?_) (fun f cdv A outer s H vs Q E hr h => ?_)
  · obtain ⟨x, y, rs, v, rfl, _⟩ := h
    rfl
  · obtain ⟨x, y, rs, v, rfl, hx, hy, ro, hz, k⟩ := h
    refine ⟨_, pss_one (ps_ret (pe_callB (cr_all rfl) (by rfl) B.all (by decide +kernel) (pa_cons
      (pe_lc (own := [("total", 2)]) (g := gName 2) (tt := tYes) (by rfl) scIsAnswer.nd (pi_tup (C8.pe_c c hr (by decide) (by rfl) (pa_cons (pv 0) (pa_cons (pv 1) pa_nil))))
        (blkOk_by (N := ["rows", "one", "total"]) (sc := defScope sIsAnswer) (by decide +kernel))
        (fun _ _ _ _ _ => by exact pg_name (i := 2) scIsAnswer.nd rfl (Or.inl rfl))
        (fun _ _ _ _ _ => pts_nil) (fun _ _ _ _ _ => by exact pe_cmpR op_eq (pv 2) pe_int (nomark _))) pa_nil))), ?_⟩
    refine ⟨_, rfl, _, rfl, x, y, rs, v, rfl, hx, hy, ro, hz, fun H0 z s0 ⟨p, ez, hp⟩ => ?_⟩
    subst ez
    refine ⟨p, rfl, ⟨_, SqT.of hp⟩, fun L hL => ?_⟩
    have hsl : (sums rs v).length = rs.length := List.length_map _
    refine lc_vals walk_tup hL (fun i => .bl (decide ((sums rs v).getD i 0 = 0))) (fun H' s' => s'.tup (SqT.of hp)) (by have := ro.few; rw [List.length_map]; omega) (fun i u H1 H2 hi s1 yy K1 k1 => ?_) (fun H1 s1 h1 => ?_)
    · obtain ⟨rfl, ex⟩ := yy
      obtain ⟨_, rfl⟩ := int_at ex
      refine ⟨rfl, _, rfl, rfl, ?_⟩
      have e : decide (V.int ((sums rs v).getD i 0) = V.int 0) = decide ((sums rs v).getD i 0 = 0) := by
        rw [decide_eq_decide]
        exact ⟨V.int.inj, fun h => by rw [h]⟩
      rw [e]
      exact k1 _ (Same.refl _)
    · rw [List.length_map, map_bl, map_one 0 fun t => decide (t = 0)] at h1
      refine ⟨L, _, rfl, SqL.of h1, ?_⟩
      rw [all_map]
      exact k _ (s0.trans s1)
/-! ### pull_by -/
def spPullBy : Sp := fun vs H Q _ => ∃ (x y : V) (rs : List (List Int)) (ts : List Int) (n j : Nat), vs = [x, y, .int (j : Int)] ∧ IsVecT H x rs ∧ IsVec H y ts ∧ RowsOk rs n ∧ j < n ∧ n ≤ 1000 ∧ ts.length = rs.length ∧ ∀ H', Same H H' → Q (.int (pullBy rs ts j)) H'
theorem scPullBy : FnScope ["rows", "totals", "j", "total", "row"] ["rows", "totals", "j"] (defScope sPullBy) := ⟨rfl, rfl, rfl, by decide +kernel, rfl, by decide +kernel, by decide +kernel⟩
theorem ok_pullBy (D : Dn K mg "pull_by" sPullBy ["rows", "totals", "j"]) (B : Blt mg) : C8.Cal P w K mg base 1 "pull_by" spPullBy [] := by
  refine D.cal scPullBy (fun vs H Q E h => ?_) (fun f cdv A outer s H vs Q E hr h => ?_)
  · obtain ⟨x, y, rs, ts, n, j, rfl, _⟩ := h
    rfl
  · obtain ⟨x, y, rs, ts, n, j, rfl, ⟨p, xs, rfl, hp, hv⟩, ⟨q, rfl, hq⟩, ro, hj, hz, hl, k⟩ := h
    refine ⟨_, pss_one (ps_ret (pe_callB (cr_sum rfl) (by rfl) B.sum (by decide +kernel) (pa_cons
      (pe_lc (own := [("total", 3), ("row", 4)]) (g := gTup K 2 (gCons (gName 3) (gCons (gName 4) gNil))) (tt := tYes) (by rfl) scPullBy.nd (RZ.pi_zipA (by rfl) B.zip (pa_cons (pv 1) (pa_cons (pv 0) pa_nil)))
        (blkOk_by (N := ["rows", "totals", "j", "total", "row"]) (sc := defScope sPullBy) (by decide +kernel))
        (fun _ _ _ _ _ => by exact pg_tup rfl (pgs_cons (pg_name (i := 3) scPullBy.nd rfl (Or.inl rfl)) (pgs_cons (pg_name (i := 4) scPullBy.nd rfl (Or.inl rfl)) pgs_nil)))
        (fun _ _ _ _ _ => pts_nil) (fun _ _ _ _ _ => by exact pe_op op_mul (pv 3) (pe_ix (r := rIxT K) ix_tup (pv 4) (pv 2) (fun _ _ => rfl)))) pa_nil))), ?_⟩
    have hlen := plen hv
    refine ⟨_, rfl, _, rfl, q, p, ts.map V.int, xs, rfl, .inr ⟨SqT.of hq, SqT.of hp, fun L hL => ?_⟩⟩
    refine lc_vals (walk_zipT (by simp; omega)) hL (fun i => .int (ts.getD i 0 * (rs.getD i []).getD j 0)) (fun H' s' => ⟨s'.tup (SqT.of hq), s'.tup (SqT.of hp)⟩) (by have := ro.few; rw [List.length_map]; omega)
      (fun i u H1 H2 hi s1 y K1 k1 => ?_) (fun H1 s1 h1 => ?_)
    · obtain ⟨T, x, z, rfl, nT, rfl, ex, ez⟩ := y
      obtain ⟨_, rfl⟩ := int_at ex
      obtain ⟨⟨r, rfl, hr1⟩, hm⟩ := vec_at (hv.same s1) ez
      have hj2 : j < (rs.getD i []).length := by rw [ro.len _ hm]; exact hj
      have hix : ((rs.getD i []).map V.int)[j]? = some (V.int ((rs.getD i []).getD j 0)) := vec_ix hj2
      have sT := same_new (o := .tup [V.int (ts.getD i 0), V.ref r]) nT
      exact ⟨T, _, rfl, SqT.of upd_same, rfl, _, _, rfl, _, _, rfl, rfl, rfl, _, rfl, _, rfl, _, rfl, r, _, _, _, rfl, rfl, SqT.of (sT _ _ hr1), atI_nat hix, _, _, rfl, rfl, .inr (ro.sm _ hm _ (getD_mem hj2)), k1 _ sT⟩
    · rw [List.length_map, map_int, map_zip hl 0 [] fun t r => t * r.getD j 0] at h1
      exact ⟨L, _, rfl, SqL.of h1, k _ s1⟩
/-! ### falls -/
def natsV (js : List Nat) : List Int := js.map fun j : Nat => (j : Int)
def spFalls : Sp := fun vs H Q _ => ∃ (x y : V) (rs : List (List Int)) (v : List Int), vs = [x, y] ∧ IsVecT H x rs ∧ IsVec H y v ∧ RowsOk rs v.length ∧ v.length ≤ 1000 ∧ ∀ H' z, Same H H' → IsVec H' z (natsV (falls rs v)) → Q z H'
theorem scFalls : FnScope ["rows", "one", "totals", "j"] ["rows", "one"] (defScope sFalls) := ⟨rfl, rfl, rfl, by decide +kernel, rfl, by decide +kernel, by decide +kernel⟩
theorem val_kept {f : Nat → V} {l : List V} {m : List Nat} {H : Hp} (h : Paired (fun y i => y = f i) l m) : l = m.map f := by
  induction h with
  | nil => rfl
  | cons r _ ih => rw [List.map_cons, r, ih]
theorem ok_falls (D : Dn K mg "falls" sFalls ["rows", "one"]) (B : Blt mg) (c : C8.Cal P w K mg base 1 "sums" spSums []) (cp : C8.Cal P w K mg base 1 "pull_by" spPullBy []) : C8.Cal P w K mg base 2 "falls" spFalls [] := by
  refine D.cal scFalls (fun vs H Q E h => ?_) (fun f cdv A outer s H vs Q E hr h => ?_)
  · obtain ⟨x, y, rs, v, rfl, _⟩ := h
    rfl
  · obtain ⟨x, y, rs, v, rfl, hx, hy, ro, hz, k⟩ := h
    refine ⟨_, pss_cons (ps_set (i := 2) scFalls.nd rfl (Or.inr rfl) (C8.pe_c c hr (by decide) (by rfl) (pa_cons (pv 0) (pa_cons (pv 1) pa_nil))))
      (pss_one (ps_ret (pe_callTy call_tuple_of (by rfl) B.tuple (by decide +kernel) (pa_cons
      (pe_lc (own := [("j", 3)]) (g := gName 3) (tt := tTest (tOp (rI0 fun i j => .bl (decide (i < j))) (tCall spPullBy [] E0 (tCons (tVar 0) (tCons (tVar 2) (tCons (tVar 3) tNil)))) (tC (.int 0)))) (by rfl) scFalls.nd
        (pi_range1 (by rfl) B.range (pa_cons (pe_callB call_len_seq (by rfl) B.len PySem.boot_len (pa_cons (pv 1) pa_nil)) pa_nil))
        (blkOk_by (N := ["rows", "one", "totals", "j"]) (sc := defScope sFalls) (by decide +kernel))
        (fun _ _ _ _ _ => by exact pg_name (i := 3) scFalls.nd rfl (Or.inl rfl))
        (fun _ _ _ _ _ => by exact pts_one (pt_cmpR op_lt (C8.pe_c cp hr (by decide) (by rfl) (pa_cons (pv 0) (pa_cons (pv 2) (pa_cons (pv 3) pa_nil)))) pe_int (nomark _))) (fun _ _ _ _ _ => by exact pv 3)) pa_nil)))), ?_⟩
    obtain ⟨q, rfl, hq⟩ := id hy
    refine ⟨_, rfl, _, rfl, x, _, rs, v, rfl, hx, hy, ro, hz, fun H0 z s0 h0 => ?_⟩
    refine ⟨_, rfl, q, _, rfl, .inr (SqT.of (s0 _ _ hq)), (v.length : Int), by rw [List.length_map], by omega, by omega, fun L hL => ?_⟩
    refine lc_same walk_range hL (fun i => decide (pullBy rs (sums rs v) i < 0)) (fun i y _ => y = V.int (i : Int)) (fun _ _ _ _ r _ => r) (fun _ _ => trivial) (by rw [Int.toNat_natCast]; omega) (fun i u H1 H2 hi s1 yy K1 K0 k1 k0 => ?_) (fun H1 acc s1 h1 hp => ?_)
    · obtain ⟨rfl, ey⟩ := yy
      rw [Int.toNat_natCast] at hi
      have ey' : u = V.int (i : Int) := by
        rw [ey]
        show V.int (0 + (i : Int)) = _
        rw [Int.zero_add]
      subst ey'
      refine ⟨rfl, ?_⟩
      refine ⟨_, rfl, _, rfl, _, rfl, x, z, rs, sums rs v, v.length, i, rfl, hx.same (s0.trans s1), h0.same s1, ro, hi, hz, by unfold sums; rw [List.length_map], fun H3 s3 => ?_⟩
      refine ⟨_, _, rfl, rfl, _, rfl, ite2 (fun e => ?_) (fun e => ?_)⟩
      · exact ⟨_, rfl, k1 e _ _ s3 rfl⟩
      · exact k0 (by simpa using e) _ s3
    · rw [Int.toNat_natCast] at hp
      have e : acc = (natsV (falls rs v)).map V.int := by
        rw [val_kept (f := fun i => V.int (i : Int)) (H := H1) hp]
        unfold natsV
        rw [List.map_map]
        rfl
      rw [e] at h1
      exact ⟨L, _, rfl, .inl ⟨SqL.of h1, fun l hl => k _ _ (s0.trans (s1.trans (same_new hl))) ⟨l, rfl, upd_same⟩⟩⟩
end
end LL
namespace LL
open PySem PySem.Spec PyProof.Rows L2
abbrev sFinder : Stmt := top 24
abbrev sFInit : Stmt := inClass sFinder 0
abbrev sFUnits : Stmt := inClass sFinder 1
abbrev sFTold : Stmt := inClass sFinder 5
abbrev sFPaper : Stmt := inClass sFinder 6
abbrev sFEnded : Stmt := inClass sFinder 7
/-- a method of the class at C -/
structure Mn (K : PySem.W.Frag) (C : Addr) (m qual : Str) (st : Stmt) (ps : List Str) : Prop where
  ex : ∃ (f : Addr) (fd : FuncData), Fun K m qual st f fd ∧ Meth K C m f ∧ Binds K fd ps []
section
variable {P : Program} {w : World} {K : PySem.W.Frag} {mg : Str → Option Value} {base : Heap}
theorem Mn.met {C : Addr} {m qual : Str} {st : Stmt} {N ps : List Str} {k : Nat} {sp : Sp} (D : Mn K C m qual st ps) (cl : Cls K C) (S : FnScope N ps (defScope st)) (len : ∀ vs H Q E, sp vs H Q E → vs.length = ps.length)
    (hbody : ∀ (f : Addr) (cdv : Value) (A : Around) (outer : List Env) (s : Shared) (H : Hp) (vs : List V) (Q : VK) (E : XK), Room k (A.deeper (envOfC qual (defScope st) s.heap.objs.size f cdv)) → sp vs H Q E →
      ∃ t, PSs (cxOf CX0 P w K mg base N qual (defScope st) f cdv A outer s H E).nox (defBody st) t ∧ t { nx := fun _ H' => Q .non H', rt := Q } (start N vs) H) : C8.Met P w K mg base (k + 1) C m sp [] := by
  obtain ⟨f, fd, F, me, b⟩ := D.ex
  exact ⟨f, fd, ps, [], cl, me, F.ok S len (hbody f), b, .nil⟩
end
/-! ### the walk's object -/
def fFs (r c l m : V) (o : Bool) : List (Str × V) := [("rows", r), ("caps", c), ("levels", l), ("met", m), ("over", .bl o)]
/-- x is a list of vectors, apart from l and m -/
def IsLvl (H : Hp) (l m : Addr) (x : V) (vs : List (List Int)) : Prop := ∃ (a : Addr) (xs : List V), x = .ref a ∧ a ≠ l ∧ a ≠ m ∧ H a = some (.lst xs) ∧ Vecs H xs vs
theorem IsLvl.same {H H' : Hp} {l m : Addr} {x : V} {vs : List (List Int)} (h : IsLvl H l m x vs) (s : Same H H') : IsLvl H' l m x vs :=
  let ⟨a, xs, e, h1, h2, h3, r⟩ := h; ⟨a, xs, e, h1, h2, s _ _ h3, r.same s⟩
/-- a walk at p, of the rows and caps, made behind H0 -/
structure FAt (C : Addr) (H0 H : Hp) (p : Addr) (xr xc : V) (rs : List (List Int)) (cs : List (Option Int)) (levels : List (List (List Int))) (met : List (List Int)) (over : Bool) : Prop where
  same : Same H0 H
  p0 : H0 p = none
  rows : IsVecT H0 xr rs
  caps : IsCaps H0 xc cs
  ex : ∃ (dx l m : Addr) (lx mx : List V), H0 l = none ∧ H0 m = none ∧ l ≠ m ∧ H p = some (.ins C dx (fFs xr xc (.ref l) (.ref m) over)) ∧ H l = some (.lst lx) ∧ H m = some (.lst mx) ∧ Paired (IsLvl H l m) lx levels ∧ Vecs H mx met
theorem FAt.mono {C : Addr} {H0 H H' : Hp} {p : Addr} {xr xc : V} {rs : List (List Int)} {cs : List (Option Int)} {levels : List (List (List Int))} {met : List (List Int)} {over : Bool}
    (F : FAt C H0 H p xr xc rs cs levels met over) (s : Same H H') : FAt C H0 H' p xr xc rs cs levels met over := by
  obtain ⟨sm, p0, r, c, dx, l, m, lx, mx, l0, m0, lm, h1, h2, h3, h4, h5⟩ := F
  exact ⟨sm.trans s, p0, r, c, dx, l, m, lx, mx, l0, m0, lm, s _ _ h1, s _ _ h2, s _ _ h3, pimp (fun _ _ q => q.same s) h4, h5.same s⟩
/-- what the top says of the class Finder -/
structure FTxt (K : PySem.W.Frag) (C : Addr) : Prop where
  cl : Cls K C
  nR : NoAttr K C "rows"
  nC : NoAttr K C "caps"
  nL : NoAttr K C "levels"
  nM : NoAttr K C "met"
  nO : NoAttr K C "over"
section
variable {P : Program} {w : World} {K : PySem.W.Frag} {mg : Str → Option Value} {base : Heap} {C : Addr}
/-! ### __init__ -/
def spFInit (C : Addr) : Sp := fun vs H Q _ => ∃ (H0 : Hp) (p dx : Addr) (xr xc : V) (rs : List (List Int)) (cs : List (Option Int)), vs = [.ref p, xr, xc] ∧ Same H0 H ∧ H0 p = none ∧ H p = some (.ins C dx []) ∧ IsVecT H0 xr rs ∧ IsCaps H0 xc cs ∧
  ∀ H', FAt C H0 H' p xr xc rs cs [] [] false → Q .non H'
theorem scFInit : FnScope ["self", "rows", "caps"] ["self", "rows", "caps"] (defScope sFInit) := ⟨rfl, rfl, rfl, by decide +kernel, rfl, by decide +kernel, by decide +kernel⟩
theorem ok_fInit {f : Addr} {fd : FuncData} (F : Fun K "__init__" "Finder.__init__" sFInit f fd) (T : FTxt K C) : FnOk P w K mg base CX0 1 f fd ["self", "rows", "caps"] (spFInit C) := by
  refine F.ok scFInit (fun vs H Q E h => ?_) (fun cdv A outer s H vs Q E hr h => ?_)
  · obtain ⟨H0, p, dx, xr, xc, rs, cs, rfl, _⟩ := h
    rfl
  · obtain ⟨H0, p, dx, xr, xc, rs, cs, rfl, s0, p0, hp, hrs, hcs, k⟩ := h
    refine ⟨_, pss_cons (ps_fld (pv 0) (pv 1) rfl) (pss_cons (ps_fld (pv 0) (pv 2) rfl) (pss_cons (ps_fld (pv 0) (pe_lst pa_nil) rfl) (pss_cons (ps_fld (pv 0) (pe_lst pa_nil) rfl) (pss_one (ps_fld (pv 0) pe_bl rfl))))), ?_⟩
    refine ⟨_, rfl, _, rfl, p, C, dx, [], rfl, hp, T.cl, T.nR, (by show 0 < 1000; decide), ?_⟩
    refine ⟨_, rfl, _, rfl, p, C, dx, _, rfl, upd_same, T.cl, T.nC, (by show 1 < 1000; decide), ?_⟩
    have s2 := same_mut (o := .ins C dx (putF "caps" xc (putF "rows" xr []))) (same_mut (o := .ins C dx (putF "rows" xr [])) s0 p0) p0
    refine ⟨Nat.zero_le _, fun l hl => ?_⟩
    have l0 := s2.free hl
    have pl : p ≠ l := fun e => by
      rw [← e, upd_same] at hl
      cases hl
    have s3 := same_mut (o := .lst []) s2 l0
    refine ⟨_, rfl, p, C, dx, _, rfl, (by rw [upd_ne pl]; exact upd_same), T.cl, T.nL, (by show 2 < 1000; decide), ?_⟩
    have s4 := same_mut (o := .ins C dx (putF "levels" (.ref l) (putF "caps" xc (putF "rows" xr [])))) s3 p0
    refine ⟨Nat.zero_le _, fun m hm => ?_⟩
    have m0 := s4.free hm
    have pm : p ≠ m := fun e => by
      rw [← e, upd_same] at hm
      cases hm
    have lm : l ≠ m := fun e => by
      rw [← e, upd_ne pl.symm, upd_same] at hm
      cases hm
    have s5 := same_mut (o := .lst []) s4 m0
    refine ⟨_, rfl, p, C, dx, _, rfl, (by rw [upd_ne pm]; exact upd_same), T.cl, T.nM, (by show 3 < 1000; decide), ?_⟩
    have s6 := same_mut (o := .ins C dx (putF "met" (.ref m) (putF "levels" (.ref l) (putF "caps" xc (putF "rows" xr []))))) s5 p0
    refine ⟨_, rfl, p, C, dx, _, rfl, upd_same, T.cl, T.nO, (by show 4 < 1000; decide), ?_⟩
    refine k _ ⟨same_mut s6 p0, p0, hrs, hcs, dx, l, m, [], [], l0, m0, lm, upd_same, ?_, ?_, .nil, .nil⟩
    · rw [upd_ne pl.symm, upd_ne pl.symm, upd_ne lm, upd_ne pl.symm, upd_same]
    · rw [upd_ne pm.symm, upd_ne pm.symm, upd_same]
/-! ### ended -/
def spFEnded (C : Addr) : Sp := fun vs H Q _ => ∃ (H0 : Hp) (p : Addr) (xr xc : V) (rs : List (List Int)) (cs : List (Option Int)) (levels : List (List (List Int))) (met : List (List Int)) (over : Bool), vs = [.ref p] ∧ FAt C H0 H p xr xc rs cs levels met over ∧ Q (.bl over) H
theorem scFEnded : FnScope ["self"] ["self"] (defScope sFEnded) := ⟨rfl, rfl, rfl, by decide +kernel, rfl, by decide +kernel, by decide +kernel⟩
theorem ok_fEnded (D : Mn K C "ended" "Finder.ended" sFEnded ["self"]) (T : FTxt K C) : C8.Met P w K mg base 1 C "ended" (spFEnded C) [] := by
  refine D.met T.cl scFEnded (fun vs H Q E h => ?_) (fun f cdv A outer s H vs Q E hr h => ?_)
  · obtain ⟨H0, p, xr, xc, rs, cs, levels, met, over, rfl, _⟩ := h
    rfl
  · obtain ⟨H0, p, xr, xc, rs, cs, levels, met, over, rfl, F, k⟩ := h
    obtain ⟨dx, l, m, lx, mx, l0, m0, lm, h1, _⟩ := F.ex
    refine ⟨_, pss_one (ps_ret (pe_fld (pv 0) rfl)), ?_⟩
    exact ⟨_, rfl, p, C, dx, _, _, rfl, h1, T.cl, T.nO, (by rfl), k⟩
/-! ### told -/
def spFTold (C : Addr) : Sp := fun vs H Q _ => ∃ (H0 : Hp) (p : Addr) (xr xc : V) (rs : List (List Int)) (cs : List (Option Int)) (levels : List (List (List Int))) (met : List (List Int)) (over : Bool), vs = [.ref p] ∧ FAt C H0 H p xr xc rs cs levels met over ∧ 1 ≤ cs.length ∧ (∀ v ∈ met, v.length = cs.length) ∧
  ∀ H' z told, Same H H' → IsVecT H' z told → told.Perm met → told.Pairwise (fun v u => HT.lexLt u v = false) → Q z H'
theorem scFTold : FnScope ["self"] ["self"] (defScope sFTold) := ⟨rfl, rfl, rfl, by decide +kernel, rfl, by decide +kernel, by decide +kernel⟩
theorem ok_fTold (D : Mn K C "told" "Finder.told" sFTold ["self"]) (B : Blt mg) (T : FTxt K C) : C8.Met P w K mg base 1 C "told" (spFTold C) [] := by
  refine D.met T.cl scFTold (fun vs H Q E h => ?_) (fun f cdv A outer s H vs Q E hr h => ?_)
  · obtain ⟨H0, p, xr, xc, rs, cs, levels, met, over, rfl, _⟩ := h
    rfl
  · obtain ⟨H0, p, xr, xc, rs, cs, levels, met, over, rfl, F, hw, hl, k⟩ := h
    obtain ⟨dx, l, m, lx, mx, l0, m0, lm, h1, h2, h3, h4, h5⟩ := F.ex
    refine ⟨_, pss_one (ps_ret (pe_callTy call_tuple_of (by rfl) B.tuple (by decide +kernel) (pa_cons (pe_callB cr_sortV (by rfl) B.sorted (by decide +kernel) (pa_cons (pe_fld (pv 0) rfl) pa_nil)) pa_nil))), ?_⟩
    refine ⟨_, rfl, p, C, dx, _, _, rfl, h1, T.cl, T.nM, (by rfl), m, mx, met, cs.length, rfl, SqL.of h3, h5, hw, hl, fun q ys ws nq hy hp hs => ?_⟩
    have sq := same_new (o := .lst ys) nq
    exact ⟨q, ys, rfl, .inl ⟨SqL.of upd_same, fun t nt => k _ _ ws (sq.trans (same_new nt)) ⟨t, ys, rfl, upd_same, (hy.same sq).same (same_new nt)⟩ hp hs⟩⟩
end
end LL
namespace LL
open PySem PySem.Spec PyProof.Rows L2
theorem range_getD {α : Type} (us : List α) (d : α) : (List.range us.length).map (fun i => us.getD i d) = us := by
  have := map_one (xs := us) d id
  rw [List.map_id] at this
  exact this
theorem kept_filter {α : Type} {us : List α} (d : α) (p : α → Bool) : (kept (fun i => p (us.getD i d)) us.length).map (fun i => us.getD i d) = us.filter p := by
  have h := congrArg (List.filter p) (range_getD us d)
  rw [List.filter_map] at h
  exact h
theorem pmapR {α β γ : Type} {F : α → γ → Prop} {f : β → γ} : ∀ {l : List α} {m : List β}, Paired (fun a b => F a (f b)) l m → Paired F l (m.map f)
  | _, _, .nil => .nil
  | _, _, .cons r t => .cons r (pmapR t)
theorem take_snoc {α : Type} {l : List α} {i : Nat} {x : α} (h : l[i]? = some x) : l.take (i + 1) = l.take i ++ [x] := by
  rw [List.take_add_one, h]
  rfl
/-- the vectors that come of a level: as the program finds them -/
def nx1 (cs : List (Option Int)) (met : List (List Int)) (u : List Int) (ks : List (List Int)) (j : Nat) : List (List Int) :=
  if (within cs (plus u (unit cs.length j)) && !aboveAny met (plus u (unit cs.length j))) = true then putV ks (plus u (unit cs.length j)) else ks
def nxs (rs : List (List Int)) (cs : List (Option Int)) (met : List (List Int)) (ks : List (List Int)) (u : List Int) : List (List Int) :=
  if isAns rs u = true then ks else (falls rs u).foldl (nx1 cs met u) ks
def nx (rs : List (List Int)) (cs : List (Option Int)) (met last : List (List Int)) : List (List Int) := last.foldl (nxs rs cs met) []
theorem nx1_mem {cs : List (Option Int)} {met : List (List Int)} {u v : List Int} {ks : List (List Int)} {j : Nat} :
    v ∈ nx1 cs met u ks j ↔ v ∈ ks ∨ (v = plus u (unit cs.length j) ∧ within cs v = true ∧ aboveAny met v = false) := by
  unfold nx1
  by_cases c : (within cs (plus u (unit cs.length j)) && !aboveAny met (plus u (unit cs.length j))) = true
  · rw [if_pos c, putV_mem]
    rw [Bool.and_eq_true, Bool.not_eq_true'] at c
    constructor
    · rintro (h | h)
      · exact .inl h
      · exact .inr ⟨h, h ▸ c.1, h ▸ c.2⟩
    · rintro (h | ⟨h, _⟩)
      · exact .inl h
      · exact .inr h
  · rw [if_neg c]
    refine ⟨.inl, fun h => h.elim id fun ⟨e, a, b⟩ => absurd ?_ c⟩
    rw [← e, a, b]
    rfl
theorem nx1_fold {cs : List (Option Int)} {met : List (List Int)} {u v : List Int} : ∀ {js : List Nat} {ks : List (List Int)},
    v ∈ js.foldl (nx1 cs met u) ks ↔ v ∈ ks ∨ ∃ j ∈ js, v = plus u (unit cs.length j) ∧ within cs v = true ∧ aboveAny met v = false
  | [], ks => by simp
  | j :: js, ks => by
    rw [List.foldl_cons, nx1_fold, nx1_mem]
    constructor
    · rintro ((h | h) | ⟨i, hi, h⟩)
      · exact .inl h
      · exact .inr ⟨j, List.mem_cons_self, h⟩
      · exact .inr ⟨i, List.mem_cons_of_mem _ hi, h⟩
    · rintro (h | ⟨i, hi, h⟩)
      · exact .inl (.inl h)
      · rcases List.mem_cons.mp hi with e | hi
        · subst e
          exact .inl (.inr h)
        · exact .inr ⟨i, hi, h⟩
theorem nxs_fold {rs : List (List Int)} {cs : List (Option Int)} {met : List (List Int)} {v : List Int} : ∀ {us : List (List Int)} {ks : List (List Int)},
    v ∈ us.foldl (nxs rs cs met) ks ↔ v ∈ ks ∨ ∃ u ∈ us, isAns rs u = false ∧ ∃ j ∈ falls rs u, v = plus u (unit cs.length j) ∧ within cs v = true ∧ aboveAny met v = false
  | [], ks => by simp
  | u :: us, ks => by
    rw [List.foldl_cons, nxs_fold]
    have one : v ∈ nxs rs cs met ks u ↔ v ∈ ks ∨ (isAns rs u = false ∧ ∃ j ∈ falls rs u, v = plus u (unit cs.length j) ∧ within cs v = true ∧ aboveAny met v = false) := by
      unfold nxs
      cases isAns rs u with
      | true => simp
      | false => simp [nx1_fold]
    rw [one]
    constructor
    · rintro ((h | h) | ⟨i, hi, h⟩)
      · exact .inl h
      · exact .inr ⟨u, List.mem_cons_self, h⟩
      · exact .inr ⟨i, List.mem_cons_of_mem _ hi, h⟩
    · rintro (h | ⟨i, hi, h⟩)
      · exact .inl (.inl h)
      · rcases List.mem_cons.mp hi with e | hi
        · subst e
          exact .inl (.inr h)
        · exact .inr ⟨i, hi, h⟩
theorem fold_keeps {α β : Type} {Z : β → Prop} {f : β → α → β} (h : ∀ b a, Z b → Z (f b a)) : ∀ {l : List α} {b : β}, Z b → Z (l.foldl f b)
  | [], _, z => z
  | a :: l, b, z => fold_keeps h (l := l) (h b a z)
theorem nx_isNext (rs : List (List Int)) (cs : List (Option Int)) (met last : List (List Int)) : IsNext rs cs last met (nx rs cs met last) := by
  refine ⟨?_, fun v => ?_⟩
  · refine fold_keeps (Z := List.Nodup) (fun ks u z => ?_) List.nodup_nil
    unfold nxs
    split
    · exact z
    · refine fold_keeps (Z := List.Nodup) (fun ks j z => ?_) z
      unfold nx1
      split
      · exact putV_nodup z
      · exact z
  · unfold nx
    rw [nxs_fold]
    simp
theorem nx1_length {cs : List (Option Int)} {met : List (List Int)} {u : List Int} {ks : List (List Int)} {j : Nat} : (nx1 cs met u ks j).length ≤ ks.length + 1 := by
  unfold nx1
  split
  · exact putV_length
  · omega
section
variable {P : Program} {w : World} {K : PySem.W.Frag} {mg : Str → Option Value} {base : Heap} {C : Addr}
/-! ### paper -/
def spFPaper (C : Addr) : Sp := fun vs H Q _ => ∃ (H0 : Hp) (p : Addr) (xr xc : V) (rs : List (List Int)) (cs : List (Option Int)) (levels : List (List (List Int))) (met : List (List Int)) (over : Bool), vs = [.ref p] ∧ FAt C H0 H p xr xc rs cs levels met over ∧ levels.flatten.length ≤ 100000 ∧
  ∀ H' z, Same H H' → IsVecT H' z levels.flatten → Q z H'
theorem scFPaper : FnScope ["self", "some", "level"] ["self"] (defScope sFPaper) := ⟨rfl, rfl, rfl, by decide +kernel, rfl, by decide +kernel, by decide +kernel⟩
theorem flat_le {ls : List (List (List Int))} {i : Nat} : (ls.take i).flatten.length ≤ ls.flatten.length := by
  have e := congrArg List.flatten (List.take_append_drop i ls)
  rw [List.flatten_append] at e
  rw [← e, List.length_append]
  omega
theorem ok_fPaper (D : Mn K C "paper" "Finder.paper" sFPaper ["self"]) (B : Blt mg) (T : FTxt K C) : C8.Met P w K mg base 1 C "paper" (spFPaper C) [] := by
  refine D.met T.cl scFPaper (fun vs H Q E h => ?_) (fun f cdv A outer s H vs Q E hr h => ?_)
  · obtain ⟨H0, p, xr, xc, rs, cs, levels, met, over, rfl, _⟩ := h
    rfl
  · obtain ⟨H0, p, xr, xc, rs, cs, levels, met, over, rfl, F, hz, k⟩ := h
    obtain ⟨dx, l, m, lx, mx, l0, m0, lm, h1, h2, h3, h4, h5⟩ := F.ex
    refine ⟨_, pss_cons (ps_set (i := 1) scFPaper.nd rfl (Or.inl rfl) (pe_lst pa_nil)) (pss_cons (ps_for PassesOwn.never rfl (pi_list (pe_fld (pv 0) rfl)) (pg_name (i := 2) scFPaper.nd rfl (Or.inl rfl))
      (pss_one (ps_expr (pe_bm PySem.F.plainAttrs_list PySem.F.slot_list_extend PySem.F.type_list_extend mt_extend (pv 1) (pa_cons (pv 2) pa_nil)))))
      (pss_one (ps_ret (pe_callTy call_tuple_of (by rfl) B.tuple (by decide +kernel) (pa_cons (pv 1) pa_nil))))), ?_⟩
    refine ⟨Nat.zero_le _, fun q nq => ?_⟩
    have sq := same_new (o := .lst []) nq
    refine ⟨_, rfl, p, C, dx, _, _, rfl, sq _ _ h1, T.cl, T.nL, (by rfl), l, rfl, ⟨_, SqL.of (sq _ _ h2)⟩, for_it walk_list (fun i σ H' => ∃ v2, σ = [some (.ref p), some (.ref q), v2] ∧ Same H H' ∧ ∃ ys, H' q = some (.lst ys) ∧ Vecs H' ys (levels.take i).flatten)
      ⟨none, rfl, sq, [], upd_same, by rw [List.take_zero]; exact .nil⟩ (fun i σ H' _ ⟨_, _, s', _⟩ => s'.seq (SqL.of h2)) (fun i x σ H1 H2 hi hP y => ?_) (fun σ H' hP => ?_)⟩
    · obtain ⟨v2, rfl, s1, ys, hq, hv⟩ := hP
      obtain ⟨rfl, hx⟩ := y
      obtain ⟨lv, hlv, a, zs, rfl, al, am, ha, hz2⟩ := pget h4 hx
      have ha1 := s1 _ _ ha
      have hz1 : Vecs H2 zs lv := hz2.same s1
      have ly := plen hv
      have lz := plen hz1
      have hfl : (levels.take (i + 1)).flatten = (levels.take i).flatten ++ lv := by
        rw [take_snoc hlv, List.flatten_append, List.flatten_singleton]
      have hle := flat_le (ls := levels) (i := i + 1)
      rw [hfl, List.length_append] at hle
      refine ⟨_, rfl, .inl ⟨rfl, _, SqL.of hq⟩, _, rfl, q, a, ys, zs, rfl, rfl, hq, ha1, sz (by omega), ?_⟩
      refine ⟨_, rfl, same_mut s1 nq, ys ++ zs, upd_same, ?_⟩
      rw [hfl]
      have up : TupS H2 (upd H2 q (.lst (ys ++ zs))) := tups_lst hq
      exact papp (hv.tups up) (hz1.tups up)
    · obtain ⟨v2, rfl, s1, ys, hq, hv⟩ := hP
      rw [plen h4, List.take_length] at hv
      exact ⟨_, rfl, q, ys, rfl, .inl ⟨SqL.of hq, fun t nt => k _ _ (s1.trans (same_new nt)) ⟨t, ys, rfl, upd_same, hv.same (same_new nt)⟩⟩⟩
end
end LL
namespace LL
open PySem PySem.Spec PyProof.Rows L2
abbrev sFNexts : Stmt := inClass sFinder 2
theorem caps_len {cs : List (Option Int)} : (cs.map capV).length = cs.length := List.length_map _
section
variable {P : Program} {w : World} {K : PySem.W.Frag} {mg : Str → Option Value} {base : Heap} {C : Addr}
/-! ### units -/
def unitsOf (cs : List (Option Int)) : List (List Int) := ((List.range cs.length).map (unit cs.length)).filter (within cs)
def spFUnits (C : Addr) : Sp := fun vs H Q _ => ∃ (H0 : Hp) (p : Addr) (xr xc : V) (rs : List (List Int)) (cs : List (Option Int)) (levels : List (List (List Int))) (met : List (List Int)) (over : Bool), vs = [.ref p] ∧ FAt C H0 H p xr xc rs cs levels met over ∧ cs.length ≤ 100 ∧
  ∀ (H' : Hp) (q : Addr) (xs : List V), Same H H' → H q = none → H' q = some (.lst xs) → Vecs H' xs (unitsOf cs) → Q (.ref q) H'
theorem scFUnits : FnScope ["self", "width", "some", "j", "one"] ["self"] (defScope sFUnits) := ⟨rfl, rfl, rfl, by decide +kernel, rfl, by decide +kernel, by decide +kernel⟩
theorem ok_fUnits (D : Mn K C "units" "Finder.units" sFUnits ["self"]) (B : Blt mg) (T : FTxt K C) (cu : C8.Cal P w K mg base 1 "unit" spUnit []) (cw : C8.Cal P w K mg base 1 "within" spWithin []) : C8.Met P w K mg base 2 C "units" (spFUnits C) [] := by
  refine D.met T.cl scFUnits (fun vs H Q E h => ?_) (fun f cdv A outer s H vs Q E hr h => ?_)
  · obtain ⟨H0, p, xr, xc, rs, cs, levels, met, over, rfl, _⟩ := h
    rfl
  · obtain ⟨H0, p, xr, xc, rs, cs, levels, met, over, rfl, F, hw, k⟩ := h
    obtain ⟨dx, l, m, lx, mx, l0, m0, lm, h1, h2, h3, h4, h5⟩ := F.ex
    obtain ⟨c, rfl, hc0⟩ := F.caps
    have hc := F.same _ _ hc0
    refine ⟨_, pss_cons (ps_set (i := 1) scFUnits.nd rfl (Or.inr rfl) (pe_callB call_len_seq (by rfl) B.len PySem.boot_len (pa_cons (pe_fld (pv 0) rfl) pa_nil)))
      (pss_cons (ps_setLc (i := 2) (own := [("j", 3)]) (g := gName 3) (tt := tYes) rfl scFUnits.nd rfl rfl (sw_true rfl rfl rfl (by decide +kernel)) (pi_range1 (by rfl) B.range (pa_cons (pv 1) pa_nil))
          (blkOk_by (N := ["self", "width", "some", "j", "one"]) (sc := defScope sFUnits) (by decide +kernel))
          (fun _ _ _ _ _ => by exact pg_name (i := 3) scFUnits.nd rfl (Or.inl rfl)) (fun _ _ _ _ _ => pts_nil) (fun _ _ _ _ _ => by exact C8.pe_c cu hr (by decide) (by rfl) (pa_cons (pv 1) (pa_cons (pv 3) pa_nil))))
      (pss_one (ps_ret (pe_lc (own := [("one", 4)]) (g := gName 4) (tt := tB (tCall spWithin [] E0 (tCons (tFld K (tVar 0) "caps") (tCons (tVar 4) tNil)))) (by rfl) scFUnits.nd (pi_list (pv 2))
          (blkOk_by (N := ["self", "width", "some", "j", "one"]) (sc := defScope sFUnits) (by decide +kernel))
          (fun _ _ _ _ _ => by exact pg_name (i := 4) scFUnits.nd rfl (Or.inl rfl))
          (fun _ _ _ _ _ => by exact pts_one (pt_val (C8.pe_c cw hr (by decide) (by rfl) (pa_cons (pe_fld (pv 0) rfl) (pa_cons (pv 4) pa_nil))))) (fun _ _ _ _ _ => by exact pv 4))))), ?_⟩
    refine ⟨_, rfl, p, C, dx, _, _, rfl, h1, T.cl, T.nC, (by rfl), c, _, rfl, .inr (SqT.of hc), ?_⟩
    rw [caps_len]
    refine ⟨_, rfl, (cs.length : Int), rfl, by omega, by omega, fun L hL => ?_⟩
    refine lc_all walk_range hL (fun i y H => IsVec H y (unit cs.length i)) (fun _ _ _ _ r s => r.tups s) (fun _ _ => trivial) (by rw [Int.toNat_natCast]; omega) (fun i u H1 H2 hi s1 yy K1 k1 => ?_) (fun H1 acc s1 ha hp => ?_)
    · obtain ⟨rfl, ey⟩ := yy
      rw [Int.toNat_natCast] at hi
      have ey' : u = V.int (i : Int) := by
        rw [ey]
        show V.int (0 + (i : Int)) = _
        rw [Int.zero_add]
      subst ey'
      exact ⟨rfl, _, rfl, _, rfl, cs.length, i, rfl, hi, by omega, fun H3 z s3 hz => k1 z H3 s3 hz⟩
    · rw [Int.toNat_natCast] at hp
      have hv : Vecs H1 acc ((List.range cs.length).map (unit cs.length)) := pmapR hp
      have nL := hL
      refine ⟨_, rfl, L, rfl, ⟨_, SqL.of ha⟩, fun L2 hL2 => ?_⟩
      have hlen : acc.length = cs.length := by
        rw [plen hv, List.length_map, List.length_range]
      refine lc_same walk_list hL2 (fun i => within cs (((List.range cs.length).map (unit cs.length)).getD i [])) (fun i y H => IsVec H y (((List.range cs.length).map (unit cs.length)).getD i [])) (fun _ _ _ _ r s => r.tups s)
        (fun H' s' => s'.seq (SqL.of ha)) (by omega) (fun i u H2 H3 hi s2 yy K1 K0 k1 k0 => ?_) (fun H2 acc2 s2 ha2 hp2 => ?_)
      · obtain ⟨rfl, ex⟩ := yy
        obtain ⟨hu, hm⟩ := vec_at (hv.same s2) ex
        obtain ⟨j, hj, e⟩ := List.mem_map.mp hm
        have hl : (((List.range cs.length).map (unit cs.length)).getD i []).length = cs.length := by
          rw [← e, unit_length (List.mem_range.mp hj)]
        refine ⟨rfl, _, rfl, p, C, dx, _, _, rfl, (s1.trans s2) _ _ h1, T.cl, T.nC, (by rfl), _, rfl, _, _, cs, _, rfl, ⟨c, rfl, (s1.trans s2) _ _ hc⟩, hu, hl.symm, by rw [hl]; omega, fun H4 s4 => ⟨_, rfl, ite2 (fun e => ?_) (fun e => ?_)⟩⟩
        · exact ⟨_, rfl, k1 e _ _ s4 (hu.same s4)⟩
        · exact k0 (by simpa using e) _ s4
      · refine k H2 L2 acc2 (s1.trans s2) (s1.free hL2) ha2 ?_
        have hv2 := pmapR (f := fun i => ((List.range cs.length).map (unit cs.length)).getD i []) hp2
        have el : acc.length = ((List.range cs.length).map (unit cs.length)).length := by rw [hlen]; simp
        rw [el, kept_filter [] (within cs)] at hv2
        exact hv2
end
end LL
namespace LL
open PySem PySem.Spec PyProof.Rows L2
theorem keys_vecs {H : Hp} : ∀ {ks : List (List Int)} {bs : List Addr}, IsKeys H (kvsOf ks) bs → Vecs H (bs.map V.ref) ks
  | [], [], _ => .nil
  | v :: ks, b :: bs, .cons h t => .cons ⟨b, rfl, by rw [keyV_map] at h; exact h⟩ (keys_vecs t)
  | [], _ :: _, h => by cases h
  | _ :: _, [], h => by cases h
theorem atI_last {xs : List V} {x : V} (h : xs.getLast? = some x) : atI xs (-1) = some x := by
  have hne : xs ≠ [] := fun e => by
    rw [e] at h
    cases h
  have hp := List.length_pos_iff.mpr hne
  rw [List.getLast?_eq_getElem?] at h
  unfold atI ixN
  rw [if_neg (by decide), if_pos (by omega)]
  show xs[(-1 + (xs.length : Int)).toNat]? = some x
  rw [show (-1 + (xs.length : Int)).toNat = xs.length - 1 by omega]
  exact h
theorem pgetLast {α β : Type} {F : α → β → Prop} {l : List α} {m : List β} {y : β} (h : Paired F l m) (e : m.getLast? = some y) : ∃ x, l.getLast? = some x ∧ F x y := by
  rw [List.getLast?_eq_getElem?] at e
  obtain ⟨x, h1, h2⟩ := pgetR h e
  refine ⟨x, ?_, h2⟩
  rw [List.getLast?_eq_getElem?, plen h]
  exact h1
section
variable {P : Program} {w : World} {K : PySem.W.Frag} {mg : Str → Option Value} {base : Heap} {C : Addr}
def spFNexts (C : Addr) : Sp := fun vs H Q _ => ∃ (H0 : Hp) (p : Addr) (xr xc : V) (rs : List (List Int)) (cs : List (Option Int)) (levels : List (List (List Int))) (met : List (List Int)) (over : Bool) (last : List (List Int)), vs = [.ref p] ∧ FAt C H0 H p xr xc rs cs levels met over ∧
  levels.getLast? = some last ∧ cs.length ≤ 100 ∧ last.length ≤ 1000 ∧ met.length ≤ 100000 ∧ (∀ v ∈ last, v.length = cs.length) ∧ (∀ v ∈ met, v.length = cs.length) ∧ RowsOk rs cs.length ∧
  ∀ (H' : Hp) (q : Addr) (xs : List V), Same H H' → H q = none → H' q = some (.lst xs) → Vecs H' xs (nx rs cs met last) → Q (.ref q) H'
theorem scFNexts : FnScope ["self", "width", "found", "one", "j", "more"] ["self"] (defScope sFNexts) := ⟨rfl, rfl, rfl, by decide +kernel, rfl, by decide +kernel, by decide +kernel⟩
theorem ok_fNexts (D : Mn K C "nexts" "Finder.nexts" sFNexts ["self"]) (B : Blt mg) (T : FTxt K C) (cu : C8.Cal P w K mg base 1 "unit" spUnit []) (cp : C8.Cal P w K mg base 1 "plus" spPlus []) (cw : C8.Cal P w K mg base 1 "within" spWithin [])
    (ca : C8.Cal P w K mg base 2 "above_any" spAboveAny []) (ci : C8.Cal P w K mg base 2 "is_answer" spIsAnswer []) (cf : C8.Cal P w K mg base 2 "falls" spFalls []) : C8.Met P w K mg base 3 C "nexts" (spFNexts C) [] := by
  refine D.met T.cl scFNexts (fun vs H Q E h => ?_) (fun f cdv A outer s H vs Q E hr h => ?_)
  · obtain ⟨H0, p, xr, xc, rs, cs, levels, met, over, last, rfl, _⟩ := h
    rfl
  · obtain ⟨H0, p, xr, xc, rs, cs, levels, met, over, last, rfl, F, hlast, hw, hll, hml, hlv, hmv, ro, k⟩ := h
    obtain ⟨dx, l, m, lx, mx, l0, m0, lm, h1, h2, h3, h4, h5⟩ := F.ex
    obtain ⟨c, rfl, hc0⟩ := F.caps
    have hc := F.same _ _ hc0
    have hrows := F.rows.same F.same
    obtain ⟨lvx, hlx, a, zs, rfl, al, am, ha, hzs⟩ := pgetLast h4 hlast
    have lz := plen hzs
    have hu := hu_of hr
    refine ⟨_, pss_cons (ps_set (i := 1) scFNexts.nd rfl (Or.inl rfl) (pe_callB call_len_seq (by rfl) B.len PySem.boot_len (pa_cons (pe_fld (pv 0) rfl) pa_nil)))
      (pss_cons (ps_set (i := 2) scFNexts.nd rfl (Or.inl rfl) pe_dnewT)
      (pss_cons (ps_for PassesOwn.never rfl (pi_list (pe_ix ix_list (pe_fld (pv 0) rfl) (pe_un un_neg pe_int) (fun _ _ => rfl))) (pg_name (i := 3) scFNexts.nd rfl (Or.inl rfl))
        (pss_one (ps_if (pt_not (pt_val (C8.pe_c ci hr (by decide) (by rfl) (pa_cons (pe_fld (pv 0) rfl) (pa_cons (pv 3) pa_nil)))))
          (pss_one (ps_for PassesOwn.never rfl (pi_tup (C8.pe_c cf hr (by decide) (by rfl) (pa_cons (pe_fld (pv 0) rfl) (pa_cons (pv 3) pa_nil)))) (pg_name (i := 4) scFNexts.nd rfl (Or.inl rfl))
            (pss_cons (ps_set (i := 5) scFNexts.nd rfl (Or.inl rfl) (C8.pe_c cp hr (by decide) (by rfl) (pa_cons (pv 3) (pa_cons (C8.pe_c cu hr (by decide) (by rfl) (pa_cons (pv 1) (pa_cons (pv 4) pa_nil))) pa_nil))))
            (pss_one (ps_if (PW.pt (pw_and (pt_val (C8.pe_c cw hr (by decide) (by rfl) (pa_cons (pe_fld (pv 0) rfl) (pa_cons (pv 5) pa_nil)))) (pw_and1 (pt_not (pt_val (C8.pe_c ca hr (by decide) (by rfl) (pa_cons (pe_fld (pv 0) rfl) (pa_cons (pv 5) pa_nil))))))))
              (pss_one (ps_dput hu (pv 2) (pv 5) pe_bl rfl)) pss_nil)))))
          pss_nil)))
      (pss_one (ps_ret (pe_callTy (call_list_dT rfl) (by rfl) B.list (by decide +kernel) (pa_cons (pv 2) pa_nil)))))), ?_⟩
    refine ⟨_, rfl, p, C, dx, _, _, rfl, h1, T.cl, T.nC, (by rfl), c, _, rfl, .inr (SqT.of hc), ?_⟩
    rw [caps_len]
    refine fun d nd => ?_
    have sd := same_new (o := .dT []) nd
    refine ⟨_, rfl, p, C, dx, _, _, rfl, sd _ _ h1, T.cl, T.nL, (by rfl), 1, rfl, l, lx, _, _, rfl, rfl, SqL.of (sd _ _ h2), atI_last hlx, a, rfl, ⟨_, SqL.of (sd _ _ ha)⟩, ?_⟩
    refine for_it walk_list (fun i σ H' => ∃ v3 v4 v5, σ = [some (.ref p), some (.int (cs.length : Int)), some (.ref d), v3, v4, v5] ∧ Same H H' ∧ ∃ ks, H' d = some (.dT (kvsOf ks)) ∧ ks = (last.take i).foldl (nxs rs cs met) [] ∧ ks.length ≤ 100 * i)
      ⟨none, none, none, rfl, sd, [], upd_same, by rw [List.take_zero]; rfl, Nat.zero_le _⟩ (fun i σ H' _ ⟨_, _, _, _, s', _⟩ => s'.seq (SqL.of ha)) (fun i x σ H1 H2 hi hP y => ?_) (fun σ H' hP => ?_)
    · obtain ⟨v3, v4, v5, rfl, s1, ks, hk, ek, hkl⟩ := hP
      obtain ⟨rfl, hx⟩ := y
      obtain ⟨u, hu1, hux⟩ := pget (hzs.same s1) hx
      have hum := List.mem_of_getElem? hu1
      have hul := hlv u hum
      have hi' : i < last.length := (List.getElem?_eq_some_iff.mp hu1).1
      have ro' : RowsOk rs u.length := hul.symm ▸ ro
      have step : (last.take (i + 1)).foldl (nxs rs cs met) [] = nxs rs cs met ks u := by
        rw [take_snoc hu1, List.foldl_append, ek]
        rfl
      refine ⟨_, rfl, p, C, dx, _, _, rfl, s1 _ _ h1, T.cl, T.nR, (by rfl), _, rfl, xr, x, rs, u, rfl, hrows.same s1, hux, ro', by omega, fun H3 s3 => ⟨_, rfl, ?_⟩⟩
      have s13 := s1.trans s3
      cases hia : isAns rs u with
      | true =>
        refine iteF ⟨_, _, _, rfl, s13, ks, s3 _ _ hk, ?_, by omega⟩
        rw [step]
        unfold nxs
        rw [if_pos hia]
      | false =>
        refine iteT ?_
        refine ⟨_, rfl, p, C, dx, _, _, rfl, s13 _ _ h1, T.cl, T.nR, (by rfl), _, rfl, xr, x, rs, u, rfl, hrows.same s13, hux.same s3, ro', by omega, fun H4 z s4 hz => ?_⟩
        obtain ⟨t, rfl, ht⟩ := hz
        have s14 := s13.trans s4
        have hux4 := (hux.same s3).same s4
        have hfl : (falls rs u).length ≤ 100 := by
          have : (falls rs u).length ≤ u.length := by
            unfold falls
            exact Nat.le_trans (List.length_filter_le _ _) (by rw [List.length_range]; exact Nat.le_refl _)
          omega
        refine ⟨t, rfl, ⟨_, SqT.of ht⟩, for_it walk_tup (fun j σ H' => ∃ v4 v5, σ = [some (.ref p), some (.int (cs.length : Int)), some (.ref d), some x, v4, v5] ∧ Same H H' ∧ TupS H4 H' ∧ SqT K H' t ((natsV (falls rs u)).map V.int) ∧ ∃ ks', H' d = some (.dT (kvsOf ks')) ∧ ks' = ((falls rs u).take j).foldl (nx1 cs met u) ks ∧ ks'.length ≤ 100 * i + j)
          ⟨v4, v5, rfl, s14, TupS.refl _, SqT.of ht, ks, s4 _ _ (s3 _ _ hk), by rw [List.take_zero]; rfl, by omega⟩ (fun j σ H' _ ⟨_, _, _, _, _, q, _⟩ => q) (fun j y σ H5 H6 hj hP y' => ?_) (fun σ H' hP => ?_)⟩
        · obtain ⟨w4, w5, rfl, s5, t5, hsq, ks', hk', ek', hkl'⟩ := hP
          obtain ⟨rfl, hy⟩ := y'
          obtain ⟨hj', rfl⟩ := int_at hy
          have hjl : j < (falls rs u).length := by
            have : (natsV (falls rs u)).length = (falls rs u).length := List.length_map _
            omega
          have hjat : (falls rs u)[j]? = some (falls rs u)[j] := List.getElem?_eq_getElem hjl
          have hjn : (natsV (falls rs u)).getD j 0 = (((falls rs u)[j] : Nat) : Int) := by
            unfold natsV
            rw [List.getD_eq_getElem?_getD, List.getElem?_map, hjat]
            rfl
          rw [hjn]
          have hjm : (falls rs u)[j] ∈ falls rs u := List.getElem_mem hjl
          have hjw : (falls rs u)[j] < cs.length := by have := falls_lt hjm; omega
          have step' : ((falls rs u).take (j + 1)).foldl (nx1 cs met u) ks = nx1 cs met u ks' (falls rs u)[j] := by
            rw [take_snoc hjat, List.foldl_append, ek']
            rfl
          have hux6 : IsVec H6 x u := hux4.tups t5
          refine ⟨_, rfl, _, rfl, _, rfl, cs.length, (falls rs u)[j], rfl, hjw, by omega, fun H7 z7 s7 hz7 => ?_⟩
          refine ⟨x, z7, u, unit cs.length (falls rs u)[j], rfl, hux6.same s7, hz7, by rw [hul, unit_length hjw], by omega, fun H8 z8 s8 hz8 => ?_⟩
          have s68 := s7.trans s8
          have s58 := s5.trans s68
          have hpl : (plus u (unit cs.length (falls rs u)[j])).length = cs.length := by
            rw [plus_length (by rw [hul, unit_length hjw]), hul]
          have fin : ∀ (H9 : Hp), Same H8 H9 → (within cs (plus u (unit cs.length (falls rs u)[j])) && !aboveAny met (plus u (unit cs.length (falls rs u)[j]))) = false →
              ∃ w4 w5, [some (V.ref p), some (V.int (cs.length : Int)), some (V.ref d), some x, some (V.int (((falls rs u)[j] : Nat) : Int)), some z8] = [some (.ref p), some (.int (cs.length : Int)), some (.ref d), some x, w4, w5] ∧ Same H H9 ∧ TupS H4 H9 ∧ SqT K H9 t ((natsV (falls rs u)).map V.int) ∧ ∃ ks', H9 d = some (.dT (kvsOf ks')) ∧ ks' = ((falls rs u).take (j + 1)).foldl (nx1 cs met u) ks ∧ ks'.length ≤ 100 * i + (j + 1) := fun H9 s9 e => by
            refine ⟨_, _, rfl, s58.trans s9, t5.trans (s68.trans s9).tups, (s68.trans s9).tup hsq, ks', (s68.trans s9) _ _ hk', ?_, by omega⟩
            rw [step']
            unfold nx1
            rw [if_neg (by rw [e]; exact Bool.false_ne_true)]
          refine ⟨_, rfl, p, C, dx, _, _, rfl, s58 _ _ h1, T.cl, T.nC, (by rfl), _, rfl, _, z8, cs, _, rfl, ⟨c, rfl, s58 _ _ hc⟩, hz8, hpl.symm, by omega, fun H9 s9 => ⟨_, rfl, ?_⟩⟩
          have s59 := s58.trans s9
          cases hwi : within cs (plus u (unit cs.length (falls rs u)[j])) with
          | false => exact iteF (iteF (fin H9 s9 (by rw [hwi] <;> rfl)))
          | true =>
            refine iteT ?_
            refine ⟨_, rfl, p, C, dx, _, _, rfl, s59 _ _ h1, T.cl, T.nM, (by rfl), _, rfl, _, z8, met, _, rfl, .inl ⟨m, mx, rfl, s59 _ _ h3, h5.same s59⟩, hz8.same s9, fun v hv => by rw [hpl, hmv v hv], by omega, hml, fun H10 s10 => ⟨_, rfl, ?_⟩⟩
            cases hab : aboveAny met (plus u (unit cs.length (falls rs u)[j])) with
            | true => exact iteF (fin H10 (s9.trans s10) (by rw [hwi, hab] <;> rfl))
            | false =>
              refine iteT ?_
              have s8T := s9.trans s10
              have hd10 : H10 d = some (.dT (kvsOf ks')) := (s68.trans s8T) _ _ hk'
              have up : TupS H10 (upd H10 d (.dT (kvsOf (putV ks' (plus u (unit cs.length (falls rs u)[j])))))) := tups_upd fun xs e => by
                rw [hd10] at e
                cases e
              have hput := dput_vec hd10 (hz8.same s8T) (by rw [sizeLine_eq]; omega)
              refine ⟨_, rfl, _, rfl, d, _, rfl, hput, ?_⟩
              refine ⟨_, _, rfl, same_mut (s58.trans s8T) nd, t5.trans (((s68.trans s8T).tups).trans up), ?_, putV ks' (plus u (unit cs.length (falls rs u)[j])), upd_same, ?_, ?_⟩
              · obtain hsq' := (s68.trans s8T).tup hsq
                have htt : H10 t = some (.tup ((natsV (falls rs u)).map V.int)) := ((s68.trans s8T).tups _ _ (t5 _ _ ht))
                exact SqT.of (up _ _ htt)
              · rw [step']
                unfold nx1
                rw [if_pos (by rw [hwi, hab] <;> rfl)]
              · have := putV_length (ks := ks') (v := plus u (unit cs.length (falls rs u)[j]))
                omega
        · obtain ⟨w4, w5, rfl, s5, t5, hsq, ks', hk', ek', hkl'⟩ := hP
          have hn : ((natsV (falls rs u)).map V.int).length = (falls rs u).length := by
            rw [List.length_map]
            exact List.length_map _
          rw [hn] at ek' hkl'
          rw [List.take_length] at ek'
          refine ⟨_, _, _, rfl, s5, ks', hk', ?_, by omega⟩
          rw [step]
          unfold nxs
          rw [if_neg (by rw [hia]; exact Bool.false_ne_true)]
          exact ek'
    · obtain ⟨v3, v4, v5, rfl, s1, ks, hk, ek, hkl⟩ := hP
      refine ⟨_, rfl, d, kvsOf ks, rfl, .inl hk, fun q bs nq hb => ?_⟩
      have hv := keys_vecs hb
      rw [lz, List.take_length] at ek
      refine k _ q _ (s1.trans (same_new nq)) (s1.free nq) upd_same ?_
      have e : ks = nx rs cs met last := ek
      rw [← e]
      exact hv.same (same_new nq)
end
end LL
namespace LL
open PySem PySem.Spec PyProof.Rows L2
abbrev sFStep : Stmt := inClass sFinder 3
theorem IsLvl.updl {H : Hp} {l m : Addr} {x : V} {vs : List (List Int)} {ys zs : List V} (h : IsLvl H l m x vs) (hl : H l = some (.lst ys)) : IsLvl (upd H l (.lst zs)) l m x vs := by
  obtain ⟨a, xs, e, h1, h2, h3, r⟩ := h
  exact ⟨a, xs, e, h1, h2, by rw [upd_ne h1]; exact h3, r.tups (tups_lst hl)⟩
theorem IsLvl.updm {H : Hp} {l m : Addr} {x : V} {vs : List (List Int)} {ys zs : List V} (h : IsLvl H l m x vs) (hl : H m = some (.lst ys)) : IsLvl (upd H m (.lst zs)) l m x vs := by
  obtain ⟨a, xs, e, h1, h2, h3, r⟩ := h
  exact ⟨a, xs, e, h1, h2, by rw [upd_ne h2]; exact h3, r.tups (tups_lst hl)⟩
theorem IsLvl.updp {H : Hp} {l m p : Addr} {x : V} {vs : List (List Int)} {C dx : Addr} {fs : List (Str × V)} {o : HO} (h : IsLvl H l m x vs) (hp : H p = some (.ins C dx fs)) : IsLvl (upd H p o) l m x vs := by
  obtain ⟨a, xs, e, h1, h2, h3, r⟩ := h
  refine ⟨a, xs, e, h1, h2, ?_, r.tups (tups_upd fun ys z => by rw [hp] at z; cases z)⟩
  rw [upd_ne (ne_of h3 hp (fun z => nomatch z))]
  exact h3
/-- what the next level is made of -/
def newOf (rs : List (List Int)) (cs : List (Option Int)) (levels : List (List (List Int))) (met : List (List Int)) : List (List Int) := match levels.getLast? with
  | none => unitsOf cs
  | some last => nx rs cs met last
theorem newOf_len {rs : List (List Int)} {cs : List (Option Int)} {levels : List (List (List Int))} {met : List (List Int)} (h : ∀ last, levels.getLast? = some last → ∀ v ∈ last, v.length = cs.length) : ∀ v ∈ newOf rs cs levels met, v.length = cs.length := by
  intro v hv
  unfold newOf at hv
  cases e : levels.getLast? with
  | none =>
    rw [e] at hv
    obtain ⟨j, hj, rfl⟩ := List.mem_map.mp (List.mem_filter.mp hv).1
    exact unit_length (List.mem_range.mp hj)
  | some last =>
    rw [e] at hv
    obtain ⟨u, hu, _, j, hj, rfl, _⟩ := ((nx_isNext rs cs met last).mem v).mp hv
    have hul := h last e u hu
    have := falls_lt hj
    rw [plus_length (by rw [unit_length (by omega), hul]), hul]
theorem nxs_length {rs : List (List Int)} {cs : List (Option Int)} {met : List (List Int)} {ks : List (List Int)} {u : List Int} (h : u.length ≤ 100) : (nxs rs cs met ks u).length ≤ ks.length + 100 := by
  unfold nxs
  split
  · omega
  · have gen : ∀ (js : List Nat) (ks : List (List Int)), (js.foldl (nx1 cs met u) ks).length ≤ ks.length + js.length := by
      intro js
      induction js with
      | nil => intro ks; simp
      | cons j js ih =>
        intro ks
        have h1 := ih (nx1 cs met u ks j)
        have h2 := nx1_length (cs := cs) (met := met) (u := u) (ks := ks) (j := j)
        rw [List.foldl_cons, List.length_cons]
        omega
    have h1 := gen (falls rs u) ks
    have h2 : (falls rs u).length ≤ u.length := by
      unfold falls
      exact Nat.le_trans (List.length_filter_le _ _) (by rw [List.length_range]; exact Nat.le_refl _)
    omega
theorem nx_length {rs : List (List Int)} {cs : List (Option Int)} {met : List (List Int)} : ∀ {us ks : List (List Int)}, (∀ u ∈ us, u.length ≤ 100) → (us.foldl (nxs rs cs met) ks).length ≤ ks.length + 100 * us.length
  | [], ks, _ => by simp
  | u :: us, ks, h => by
    have h1 := nx_length (rs := rs) (cs := cs) (met := met) (us := us) (ks := nxs rs cs met ks u) fun v hv => h v (List.mem_cons_of_mem _ hv)
    have h2 := nxs_length (rs := rs) (cs := cs) (met := met) (ks := ks) (h u List.mem_cons_self)
    rw [List.foldl_cons, List.length_cons]
    omega
theorem newOf_small {rs : List (List Int)} {cs : List (Option Int)} {levels : List (List (List Int))} {met : List (List Int)} (hw : cs.length ≤ 100) (h : ∀ last, levels.getLast? = some last → last.length ≤ 1000 ∧ ∀ v ∈ last, v.length = cs.length) : (newOf rs cs levels met).length ≤ 100000 := by
  unfold newOf
  cases e : levels.getLast? with
  | none =>
    show (unitsOf cs).length ≤ 100000
    unfold unitsOf
    refine Nat.le_trans (List.length_filter_le _ _) ?_
    rw [List.length_map, List.length_range]
    omega
  | some last =>
    obtain ⟨h1, h2⟩ := h last e
    have := nx_length (rs := rs) (cs := cs) (met := met) (us := last) (ks := []) fun u hu => by rw [h2 u hu]; exact hw
    show (nx rs cs met last).length ≤ 100000
    unfold nx
    simp only [List.length_nil] at this
    omega
section
variable {P : Program} {w : World} {K : PySem.W.Frag} {mg : Str → Option Value} {base : Heap} {C : Addr}
def spFStep (C : Addr) : Sp := fun vs H Q _ => ∃ (H0 : Hp) (p : Addr) (xr xc : V) (rs : List (List Int)) (cs : List (Option Int)) (levels : List (List (List Int))) (met : List (List Int)), vs = [.ref p] ∧ FAt C H0 H p xr xc rs cs levels met false ∧
  1 ≤ cs.length ∧ cs.length ≤ 100 ∧ (∀ last, levels.getLast? = some last → last.length ≤ 1000 ∧ ∀ v ∈ last, v.length = cs.length) ∧ levels.length ≤ 1000 ∧ met.length ≤ 1000 ∧ (∀ v ∈ met, v.length = cs.length) ∧ RowsOk rs cs.length ∧
  (newOf rs cs levels met = [] → ∀ H', FAt C H0 H' p xr xc rs cs levels met true → Q (.int 0) H') ∧
  (newOf rs cs levels met ≠ [] → ∀ H' lv, lv.Perm (newOf rs cs levels met) → FAt C H0 H' p xr xc rs cs (levels ++ [lv]) (met ++ (newOf rs cs levels met).filter (isAns rs)) false → Q (.int ((newOf rs cs levels met).length : Int)) H')
theorem scFStep : FnScope ["self", "new", "one"] ["self"] (defScope sFStep) := ⟨rfl, rfl, rfl, by decide +kernel, rfl, by decide +kernel, by decide +kernel⟩
theorem zero_len {n : Nat} : decide (V.int (n : Int) = V.int 0) = decide (n = 0) := by
  rw [decide_eq_decide]
  exact ⟨fun h => by have := V.int.inj h; omega, fun h => by rw [h]; rfl⟩
theorem ok_fStep (D : Mn K C "step" "Finder.step" sFStep ["self"]) (B : Blt mg) (T : FTxt K C) (cu : C8.Met P w K mg base 2 C "units" (spFUnits C) []) (cn : C8.Met P w K mg base 3 C "nexts" (spFNexts C) []) (ci : C8.Cal P w K mg base 2 "is_answer" spIsAnswer []) : C8.Met P w K mg base 4 C "step" (spFStep C) [] := by
  refine D.met T.cl scFStep (fun vs H Q E h => ?_) (fun f cdv A outer s H vs Q E hr h => ?_)
  · obtain ⟨H0, p, xr, xc, rs, cs, levels, met, rfl, _⟩ := h
    rfl
  · obtain ⟨H0, p, xr, xc, rs, cs, levels, met, rfl, F, hw1, hw, hla, hll, hml, hmv, ro, kE, kN⟩ := h
    obtain ⟨dx, l, m, lx, mx, l0, m0, lm, h1, h2, h3, h4, h5⟩ := id F.ex
    have lenL := plen h4
    have lenM := plen h5
    have noU : (fFs xr xc (.ref l) (.ref m) false).lookup ("units" : Str) = none := by rfl
    have noN : (fFs xr xc (.ref l) (.ref m) false).lookup ("nexts" : Str) = none := by rfl
    refine ⟨_, pss_cons (ps_if (pt_val (pe_fld (pv 0) rfl)) (pss_one (ps_ret pe_int)) pss_nil)
      (C8.pss_cut (ps_if (pt_cmpR op_eq (pe_callB call_len_seq (by rfl) B.len PySem.boot_len (pa_cons (pe_fld (pv 0) rfl) pa_nil)) pe_int (nomark _))
        (pss_one (ps_set (i := 1) scFStep.nd rfl (Or.inl rfl) (C8.pe_mt0 cu hr (by decide) (pv 0))))
        (pss_one (ps_set (i := 1) scFStep.nd rfl (Or.inl rfl) (C8.pe_mt0 cn hr (by decide) (pv 0)))))
      (pss_cons (ps_if (pt_cmpR op_eq (pe_callB call_len_seq (by rfl) B.len PySem.boot_len (pa_cons (pv 1) pa_nil)) pe_int (nomark _))
        (pss_cons (ps_fld (pv 0) pe_bl rfl) (pss_one (ps_ret pe_int))) pss_nil)
      (pss_cons (ps_expr (pe_bm PySem.F.plainAttrs_list PySem.F.slot_list_append PySem.F.type_list_append mt_append (pe_fld (pv 0) rfl) (pa_cons (pe_callB cr_sortV (by rfl) B.sorted (by decide +kernel) (pa_cons (pv 1) pa_nil)) pa_nil)))
      (pss_cons (ps_expr (pe_bm PySem.F.plainAttrs_list PySem.F.slot_list_extend PySem.F.type_list_extend mt_extend (pe_fld (pv 0) rfl) (pa_cons
        (pe_lc (own := [("one", 2)]) (g := gName 2) (tt := tB (tCall spIsAnswer [] E0 (tCons (tFld K (tVar 0) "rows") (tCons (tVar 2) tNil)))) (by rfl) scFStep.nd (pi_list (pv 1))
          (blkOk_by (N := ["self", "new", "one"]) (sc := defScope sFStep) (by decide +kernel))
          (fun _ _ _ _ _ => by exact pg_name (i := 2) scFStep.nd rfl (Or.inl rfl))
          (fun _ _ _ _ _ => by exact pts_one (pt_val (C8.pe_c ci hr (by decide) (by rfl) (pa_cons (pe_fld (pv 0) rfl) (pa_cons (pv 2) pa_nil))))) (fun _ _ _ _ _ => by exact pv 2)) pa_nil)))
      (pss_one (ps_ret (pe_callB call_len_seq (by rfl) B.len PySem.boot_len (pa_cons (pv 1) pa_nil)))))))), ?_⟩
    refine ⟨_, rfl, p, C, dx, _, _, rfl, h1, T.cl, T.nO, (by rfl), false, rfl, iteF ?_⟩
    refine ⟨fun σ' H' => ∃ (q : Addr) (xs : List V), σ' = [some (.ref p), some (.ref q), none] ∧ Same H H' ∧ H q = none ∧ H' q = some (.lst xs) ∧ Vecs H' xs (newOf rs cs levels met), ?_, ?_⟩
    · refine ⟨_, rfl, p, C, dx, _, _, rfl, h1, T.cl, T.nL, (by rfl), l, lx, rfl, .inl (SqL.of h2), rfl, _, rfl, ?_⟩
      rw [zero_len]
      refine ite2 (fun e => ?_) (fun e => ?_)
      · have e' : levels = [] := List.eq_nil_of_length_eq_zero (by rw [← lenL]; exact of_decide_eq_true e)
        refine ⟨_, rfl, p, dx, _, rfl, h1, noU, H0, p, xr, xc, rs, cs, levels, met, false, rfl, F, hw, fun H1 q xs s1 nq hq hv => ?_⟩
        refine ⟨q, xs, rfl, s1, nq, hq, ?_⟩
        rw [e']
        exact hv
      · have hne : levels ≠ [] := fun z => e (by rw [z] at lenL; rw [lenL]; rfl)
        obtain ⟨last, hlast⟩ : ∃ last, levels.getLast? = some last := ⟨_, List.getLast?_eq_some_getLast hne⟩
        obtain ⟨hla1, hla2⟩ := hla last hlast
        refine ⟨_, rfl, p, dx, _, rfl, h1, noN, H0, p, xr, xc, rs, cs, levels, met, false, last, rfl, F, hlast, hw, hla1, by omega, hla2, hmv, ro, fun H1 q xs s1 nq hq hv => ?_⟩
        refine ⟨q, xs, rfl, s1, nq, hq, ?_⟩
        unfold newOf
        rw [hlast]
        exact hv
    · rintro σ' H1 ⟨q, xs, rfl, s1, nq, hq, hv⟩
      have lenX := plen hv
      have h1' := s1 _ _ h1
      have h2' := s1 _ _ h2
      have h3' := s1 _ _ h3
      have small := newOf_small (rs := rs) (met := met) hw hla
      have hlen := newOf_len (rs := rs) (cs := cs) (met := met) fun last e => (hla last e).2
      refine ⟨_, rfl, q, xs, rfl, .inl (SqL.of hq), rfl, _, rfl, ?_⟩
      rw [zero_len]
      refine ite2 (fun e => ?_) (fun e => ?_)
      · have e' : newOf rs cs levels met = [] := List.eq_nil_of_length_eq_zero (by rw [← lenX]; exact of_decide_eq_true e)
        refine ⟨_, rfl, p, C, dx, _, rfl, h1', T.cl, T.nO, (by show 5 < 1000; decide), ?_⟩
        refine kE e' _ ⟨same_mut (F.same.trans s1) F.p0, F.p0, F.rows, F.caps, dx, l, m, lx, mx, l0, m0, lm, upd_same, ?_, ?_, pimp (fun _ _ r => (r.same s1).updp h1') h4, (h5.same s1).tups (tups_upd fun ys z => by rw [h1'] at z; cases z)⟩
        · rw [upd_ne (ne_of h2' h1' (fun z => nomatch z))]
          exact h2'
        · rw [upd_ne (ne_of h3' h1' (fun z => nomatch z))]
          exact h3'
      · have hne : newOf rs cs levels met ≠ [] := fun z => e (by rw [z] at lenX; rw [lenX]; rfl)
        have lq : l ≠ q := ne_of_none h2 nq
        have mq : m ≠ q := ne_of_none h3 nq
        refine ⟨_, rfl, p, C, dx, _, _, rfl, h1', T.cl, T.nL, rfl, .inl ⟨rfl, _, SqL.of h2'⟩, _, rfl, q, xs, _, cs.length, rfl, SqL.of hq, hv, hw1, hlen, fun r ys ws nr hy hp _ => ?_⟩
        have sr := same_new (o := .lst ys) nr
        have h2r := sr _ _ h2'
        have h3r := sr _ _ h3'
        have lr : l ≠ r := ne_of_none h2' nr
        have mr : m ≠ r := ne_of_none h3' nr
        have qr : q ≠ r := ne_of_none hq nr
        have rl : r ≠ l := lr.symm
        refine ⟨l, lx, _, rfl, rfl, h2r, by rw [sizeLine_eq]; omega, ?_⟩
        -- self.met.extend(..)
        have ppl : p ≠ l := ne_of h1' h2' (fun z => nomatch z)
        have ppm : p ≠ m := ne_of h1' h3' (fun z => nomatch z)
        have h1l : (upd (upd H1 r (.lst ys)) l (.lst (lx ++ [.ref r]))) p = some (.ins C dx (fFs xr xc (.ref l) (.ref m) false)) := by
          rw [upd_ne ppl]
          exact sr _ _ h1'
        have h3l : (upd (upd H1 r (.lst ys)) l (.lst (lx ++ [.ref r]))) m = some (.lst mx) := by
          rw [upd_ne lm.symm]
          exact h3r
        have hql : (upd (upd H1 r (.lst ys)) l (.lst (lx ++ [.ref r]))) q = some (.lst xs) := by
          rw [upd_ne lq.symm]
          exact sr _ _ hq
        have hrl : (upd (upd H1 r (.lst ys)) l (.lst (lx ++ [.ref r]))) r = some (.lst ys) := by
          rw [upd_ne rl, upd_same]
        have tl : TupS (upd H1 r (.lst ys)) (upd (upd H1 r (.lst ys)) l (.lst (lx ++ [.ref r]))) := tups_lst h2r
        have t1 : TupS H1 (upd (upd H1 r (.lst ys)) l (.lst (lx ++ [.ref r]))) := sr.tups.trans tl
        have s0l : Same H0 (upd (upd H1 r (.lst ys)) l (.lst (lx ++ [.ref r]))) := same_mut ((F.same.trans s1).trans sr) l0
        have hvl := hv.tups t1
        have hrows : IsVecT (upd (upd H1 r (.lst ys)) l (.lst (lx ++ [.ref r]))) xr rs := F.rows.same s0l
        have hll2 : (upd (upd H1 r (.lst ys)) l (.lst (lx ++ [.ref r]))) l = some (.lst (lx ++ [.ref r])) := upd_same
        have lvl : Paired (IsLvl (upd (upd H1 r (.lst ys)) l (.lst (lx ++ [.ref r]))) l m) (lx ++ [.ref r]) (levels ++ [ws]) :=
          psnoc (pimp (fun _ _ z => ((z.same s1).same sr).updl h2r) h4) ⟨r, ys, rfl, rl, mr.symm, hrl, (hy.same sr).tups tl⟩
        have hmets := (h5.same s1).tups t1
        generalize upd (upd H1 r (.lst ys)) l (.lst (lx ++ [.ref r])) = H2 at *
        refine ⟨_, rfl, p, C, dx, _, _, rfl, h1l, T.cl, T.nM, rfl, .inl ⟨rfl, _, SqL.of h3l⟩, _, rfl, q, rfl, ⟨_, SqL.of hql⟩, fun L hL => ?_⟩
        refine lc_same walk_list hL (fun i => isAns rs ((newOf rs cs levels met).getD i [])) (fun i y H => IsVec H y ((newOf rs cs levels met).getD i [])) (fun _ _ _ _ z s => z.tups s)
          (fun H' s' => s'.seq (SqL.of hql)) (by omega) (fun i u H3 H4 hi s3 yy K1 K0 k1 k0 => ?_) (fun H3 acc s3 ha hp3 => ?_)
        · obtain ⟨rfl, ex⟩ := yy
          obtain ⟨hu, hm⟩ := vec_at (hvl.same s3) ex
          have hul := hlen _ hm
          refine ⟨rfl, _, rfl, p, C, dx, _, _, rfl, s3 _ _ h1l, T.cl, T.nR, (by rfl), _, rfl, xr, u, rs, _, rfl, hrows.same s3, hu, hul.symm ▸ ro, by omega, fun H5 s5 => ⟨_, rfl, ite2 (fun e => ?_) (fun e => ?_)⟩⟩
          · exact ⟨_, rfl, k1 e _ _ s5 (hu.same s5)⟩
          · exact k0 (by simpa using e) _ s5
        · have hv3 := pmapR (f := fun i => (newOf rs cs levels met).getD i []) hp3
          rw [lenX, kept_filter [] (isAns rs)] at hv3
          have lenA := plen hv3
          have hfl : ((newOf rs cs levels met).filter (isAns rs)).length ≤ (newOf rs cs levels met).length := List.length_filter_le _ _
          have h3m := s3 _ _ h3l
          refine ⟨m, L, mx, acc, rfl, rfl, h3m, ha, by rw [sizeLine_eq]; omega, ?_⟩
          have tm : TupS H3 (upd H3 m (.lst (mx ++ acc))) := tups_lst h3m
          refine ⟨_, rfl, q, xs, rfl, .inl (SqL.of (by rw [upd_ne mq.symm]; exact s3 _ _ hql)), ?_⟩
          rw [lenX]
          refine kN hne _ ws hp ⟨same_mut (s0l.trans s3) m0, F.p0, F.rows, F.caps, dx, l, m, lx ++ [.ref r], mx ++ acc, l0, m0, lm, ?_, ?_, upd_same, pimp (fun _ _ z => (z.same s3).updm h3m) lvl, papp ((hmets.same s3).tups tm) (Vecs.tups (show Vecs H3 acc _ from hv3) tm)⟩
          · rw [upd_ne ppm]
            exact s3 _ _ h1l
          · rw [upd_ne lm]
            exact s3 _ _ hll2
end
end LL
namespace LL
open PySem PySem.Spec PyProof.Rows L2
abbrev sLeast : Stmt := top 25
/-- what the top says of the class TooMany -/
structure ETxt (K : PySem.W.Frag) (mg : Str → Option Value) (CT : Addr) : Prop where
  g : mg "TooMany" = some (.ref CT)
  x : PySem.W.excIn K CT [.type "ValueError", .type "Exception", .type "BaseException", .type "object"] "ValueError.__new__" = true
  k : PySem.W.keepIn K (.ref CT) = true
  b : PySem.W.subIn K (.ref CT) (.type "BaseException") = some true
  t : PySem.W.typeIn K (.ref CT) = some (.type "type")
/-- z is (told, paper) -/
def IsFound (H : Hp) (z : V) (told paper : List (List Int)) : Prop := ∃ (t : Addr) (x y : V), z = .ref t ∧ H t = some (.tup [x, y]) ∧ IsVecT H x told ∧ IsVecT H y paper
theorem IsFound.tups {H H' : Hp} {z : V} {told paper : List (List Int)} (h : IsFound H z told paper) (s : TupS H H') : IsFound H' z told paper :=
  let ⟨t, x, y, e, h1, h2, h3⟩ := h; ⟨t, x, y, e, s _ _ h1, h2.tups s, h3.tups s⟩
theorem IsFound.same {H H' : Hp} {z : V} {told paper : List (List Int)} (h : IsFound H z told paper) (s : Same H H') : IsFound H' z told paper := h.tups s.tups
/-- what least tells -/
def LeastOk (rs : List (List Int)) (cs : List (Option Int)) (told paper : List (List Int)) : Prop :=
  (paper = [] ∧ told = []) ∨ (Walked rs cs told paper ∧ told.Pairwise (fun v u => HT.lexLt u v = false) ∧ paper.length ≤ 90)
/-- between two steps -/
structure WSt (rs : List (List Int)) (cs : List (Option Int)) (levels : List (List (List Int))) (met : List (List Int)) (over : Bool) (many : Nat) : Prop where
  nil : levels = [] → over = true ∧ met = []
  inv : levels ≠ [] → WInv rs cs levels met
  cnt : many = levels.flatten.length
  fin : over = true → many ≤ 90 ∧ ∀ last, levels.getLast? = some last → nx rs cs met last = []
theorem flat_snoc (ls : List (List (List Int))) (l : List (List Int)) : (ls ++ [l]).flatten.length = ls.flatten.length + l.length := by
  rw [List.flatten_append, List.length_append, List.flatten_singleton]
theorem last_le {ls : List (List (List Int))} {l : List (List Int)} (h : ls.getLast? = some l) : l.length ≤ ls.flatten.length := by
  obtain ⟨ys, rfl⟩ := List.getLast?_eq_some_iff.mp h
  rw [flat_snoc]
  omega
theorem nodup_len {α : Type} [BEq α] [LawfulBEq α] : ∀ {l m : List α}, l.Nodup → (∀ x ∈ l, x ∈ m) → l.length ≤ m.length
  | [], _, _, _ => Nat.zero_le _
  | x :: l, m, hn, h => by
    rw [List.nodup_cons] at hn
    have hx := h x List.mem_cons_self
    have ih := nodup_len (l := l) (m := m.erase x) hn.2 fun y hy => (List.mem_erase_of_ne (fun e => hn.1 (by rw [← e]; exact hy))).mpr (h y (List.mem_cons_of_mem _ hy))
    have h1 := List.length_erase_of_mem hx
    have h2 : 0 < m.length := List.length_pos_of_mem hx
    rw [List.length_cons]
    omega
theorem WInv.last_len {rs : List (List Int)} {cs : List (Option Int)} {levels : List (List (List Int))} {met last : List (List Int)} (I : WInv rs cs levels met) (h : levels.getLast? = some last) : ∀ v ∈ last, v.length = cs.length := fun v hv => by
  rw [List.getLast?_eq_getElem?] at h
  exact (I.vec _ _ h v hv).1
theorem WInv.met_len {rs : List (List Int)} {cs : List (Option Int)} {levels : List (List (List Int))} {met : List (List Int)} (I : WInv rs cs levels met) : ∀ v ∈ met, v.length = cs.length := fun v hv => by
  obtain ⟨⟨l, hl, h⟩, _⟩ := (I.ans v).mp hv
  obtain ⟨i, hi, e⟩ := List.mem_iff_getElem.mp hl
  exact (I.vec i l (by rw [List.getElem?_eq_getElem hi, e]) v h).1
theorem WInv.met_le {rs : List (List Int)} {cs : List (Option Int)} {levels : List (List (List Int))} {met : List (List Int)} (I : WInv rs cs levels met) : met.length ≤ levels.flatten.length := by
  refine nodup_len I.metd fun v hv => ?_
  obtain ⟨⟨l, hl, h⟩, _⟩ := (I.ans v).mp hv
  exact List.mem_flatten.mpr ⟨l, hl, h⟩
section
variable {P : Program} {w : World} {K : PySem.W.Frag} {mg : Str → Option Value} {base : Heap} {C CT : Addr}
def spLeast (CT : Addr) : Sp := fun vs H Q E => ∃ (xr xc : V) (rs : List (List Int)) (cs : List (Option Int)), vs = [xr, xc, .int 90] ∧ IsVecT H xr rs ∧ IsCaps H xc cs ∧ RowsOk rs cs.length ∧ 1 ≤ cs.length ∧ cs.length ≤ 100 ∧
  (∀ H', Same H H' → E (.ref CT) none H') ∧ (∀ H' z told paper, Same H H' → IsFound H' z told paper → LeastOk rs cs told paper → Q z H')
theorem scLeast : FnScope ["rows", "caps", "most", "finder", "many"] ["rows", "caps", "most"] (defScope sLeast) := ⟨rfl, rfl, rfl, by decide +kernel, rfl, by decide +kernel, by decide +kernel⟩
theorem ok_least {f : Addr} {fd : FuncData} (F : Fun K "least" "least" sLeast f fd) (T : FTxt K C) (ET : ETxt K mg CT) (cm : C8.Mak P w K mg base 1 "Finder" C (spFInit C) []) (cs1 : C8.Met P w K mg base 4 C "step" (spFStep C) []) (ce : C8.Met P w K mg base 1 C "ended" (spFEnded C) [])
    (ct : C8.Met P w K mg base 1 C "told" (spFTold C) []) (cp : C8.Met P w K mg base 1 C "paper" (spFPaper C) []) : FnOk P w K mg base (L2.CX P w) 5 f fd ["rows", "caps", "most"] (spLeast CT) := by
  refine F.okX scLeast (fun vs H Q E h => ?_) (fun cdv A outer s H vs Q E hr h => ?_)
  · obtain ⟨xr, xc, rs, cs, rfl, _⟩ := h
    rfl
  · obtain ⟨xr, xc, rs, cs, rfl, hrows, hcaps, ro, hw1, hw, kE, kQ⟩ := h
    refine ⟨_, pss_cons (ps_set (i := 3) scLeast.nd rfl (Or.inl rfl) (C8.pe_mk cm hr (by decide) (by rfl) (pa_cons (pv 0) (pa_cons (pv 1) pa_nil))))
      (C8.pss_cut (ps_set (i := 4) scLeast.nd rfl (Or.inl rfl) (C8.pe_mt0 cs1 hr (by decide) (pv 3)))
      (pss_cons (ps_while (passes_of rfl) (pt_not (pt_val (C8.pe_mt0 ce hr (by decide) (pv 3))))
        (pss_cons (ps_if (pt_cmpR op_gt (pv 4) (pv 2) (nomark _)) (pss_one (ps_raise rfl (takes_of rfl rfl rfl rfl) (pmk_own PySem.F.excBase_ValueError ET.x ET.g ET.k (raises_own ET.b ET.t) rfl))) pss_nil)
        (pss_one (ps_aug (i := 4) scLeast.nd rfl (Or.inl rfl) (C8.pe_mt0 cs1 hr (by decide) (pv 3)) ip_add))))
      (pss_one (ps_ret (pe_tup (pa_cons (C8.pe_mt0 ct hr (by decide) (pv 3)) (pa_cons (C8.pe_mt0 cp hr (by decide) (pv 3)) pa_nil))))))), ?_⟩
    refine ⟨_, rfl, _, rfl, fun p dp np nd nex => ?_⟩
    refine ⟨H, p, dp, xr, xc, rs, cs, rfl, same_mut (same_new nd) np, np, upd_same, hrows, hcaps, fun H1 F1 => ⟨rfl, ?_⟩⟩
    have ins : ∀ {H' : Hp} {levels : List (List (List Int))} {met : List (List Int)} {over : Bool}, FAt C H H' p xr xc rs cs levels met over → ∃ dx l m, H' p = some (.ins C dx (fFs xr xc (.ref l) (.ref m) over)) := fun {H' levels met over} F => by
      obtain ⟨dx, l, m, lx, mx, l0, m0, lm, h1, _⟩ := F.ex
      exact ⟨dx, l, m, h1⟩
    let Wh : Nat → L2.St → Hp → Prop := fun m σ H' => ∃ (levels : List (List (List Int))) (met : List (List Int)) (over : Bool) (many : Nat), σ = [some xr, some xc, some (.int 90), some (.ref p), some (.int (many : Int))] ∧ FAt C H H' p xr xc rs cs levels met over ∧ WSt rs cs levels met over many ∧ m = if over = true then 0 else 1 + (91 - many)
    refine ⟨fun σ H' => ∃ m, Wh m σ H', ?_, fun σ H' hM => ⟨Wh, hM, fun m σ H' hW => ?_⟩⟩
    · obtain ⟨dx, l, m, h1⟩ := ins F1
      refine ⟨_, rfl, p, dx, _, rfl, h1, (by rfl), H, p, xr, xc, rs, cs, [], [], rfl, F1, hw1, hw, (fun last e => by cases e), Nat.zero_le _, Nat.zero_le _, (fun v hv => absurd hv (by simp)), ro, fun e H2 F2 => ?_, fun e H2 lv hp F2 => ?_⟩
      · exact ⟨_, [], [], true, 0, rfl, F2, ⟨fun _ => ⟨rfl, rfl⟩, fun h => absurd rfl h, rfl, fun _ => ⟨by omega, fun last e => (by cases e)⟩⟩, rfl⟩
      · have e0 : newOf rs cs [] [] = unitsOf cs := rfl
        have I1 : WInv rs cs [lv] ((newOf rs cs [] []).filter (isAns rs)) := WInv.first (by rw [e0]; rfl) e hp
        refine ⟨_, [lv], (newOf rs cs [] []).filter (isAns rs), false, (newOf rs cs [] []).length, rfl, by simpa using F2, ⟨fun h => (by cases h), fun _ => I1, ?_, fun h => (by cases h)⟩, rfl⟩
        rw [List.flatten_singleton, hp.length_eq]
    · obtain ⟨levels, met, over, many, rfl, F2, W, rfl⟩ := hW
      obtain ⟨dx, l, m, h1⟩ := ins F2
      refine ⟨_, rfl, p, dx, _, rfl, h1, (by rfl), H, p, xr, xc, rs, cs, levels, met, over, rfl, F2, over, rfl, ?_⟩
      cases over with
      | false =>
        refine iteT ⟨fun σ' H' => ∃ m', m' < _ ∧ Wh m' σ' H', fun _ _ h => h, ?_⟩
        have hne : levels ≠ [] := fun e => nomatch (W.nil e).1
        have I := W.inv hne
        refine ⟨_, rfl, _, rfl, _, _, rfl, rfl, _, rfl, ite2 (fun _ => kE _ F2.same) (fun e => ?_)⟩
        have hm90 : many ≤ 90 := by
          have := of_decide_eq_false (by simpa using e : decide ((90 : Int) < (many : Int)) = false)
          omega
        have hcnt := W.cnt
        have hlv := flatten_length I.full
        have hmt := I.met_le
        refine ⟨_, rfl, _, rfl, p, dx, _, rfl, h1, (by rfl), H, p, xr, xc, rs, cs, levels, met, rfl, F2, hw1, hw, (fun last e => ⟨by have := last_le e; omega, I.last_len e⟩), by omega, by omega, I.met_len, ro, fun e3 H3 F3 => ?_, fun e3 H3 lv hp F3 => ?_⟩
        · refine ⟨_, _, rfl, rfl, 0, (by rw [if_neg Bool.false_ne_true]; omega), levels, met, true, many, by simp, F3, ⟨fun h => absurd h hne, fun _ => I, hcnt, fun _ => ⟨hm90, fun last e => ?_⟩⟩, rfl⟩
          unfold newOf at e3
          rw [e] at e3
          exact e3
        · obtain ⟨last, hlast⟩ : ∃ last, levels.getLast? = some last := ⟨_, List.getLast?_eq_some_getLast hne⟩
          have e4 : newOf rs cs levels met = nx rs cs met last := by
            unfold newOf
            rw [hlast]
          have I3 : WInv rs cs (levels ++ [lv]) (met ++ (newOf rs cs levels met).filter (isAns rs)) := WInv.next I hlast (e4 ▸ nx_isNext rs cs met last) e3 hp
          have hpos : 0 < (newOf rs cs levels met).length := List.length_pos_iff.mpr e3
          refine ⟨_, _, rfl, rfl, 1 + (91 - (many + (newOf rs cs levels met).length)), ?_, levels ++ [lv], _, false, many + (newOf rs cs levels met).length, by rw [Int.natCast_add]; rfl, F3, ⟨fun h => absurd h (by simp), fun _ => I3, ?_, fun h => (by cases h)⟩, rfl⟩
          · rw [if_neg Bool.false_ne_true]
            omega
          · rw [flat_snoc, hp.length_eq, hcnt]
      | true =>
        refine iteF ?_
        obtain ⟨hm90, hno⟩ := W.fin rfl
        have hcnt := W.cnt
        have hmet : ∀ v ∈ met, v.length = cs.length := fun v hv => by
          by_cases hne : levels = []
          · rw [(W.nil hne).2] at hv
            cases hv
          · exact (W.inv hne).met_len v hv
        refine ⟨_, rfl, p, dx, _, rfl, h1, (by rfl), H, p, xr, xc, rs, cs, levels, met, true, rfl, F2, hw1, hmet, fun H3 z told s3 hz hp hs => ?_⟩
        have F3 := F2.mono s3
        obtain ⟨dx3, l3, m3, h13⟩ := ins F3
        refine ⟨_, rfl, p, dx3, _, rfl, h13, (by rfl), H, p, xr, xc, rs, cs, levels, met, true, rfl, F3, by omega, fun H4 y s4 hy => ?_⟩
        refine ⟨by show 2 ≤ sizeLine; decide, fun t nt => ?_⟩
        have st := same_new (o := .tup [z, y]) nt
        refine kQ _ _ told levels.flatten (((F2.same.trans s3).trans s4).trans st) ⟨t, z, y, rfl, upd_same, (hz.same s4).same st, hy.same st⟩ ?_
        by_cases hne : levels = []
        · left
          rw [(W.nil hne).2] at hp
          exact ⟨by rw [hne]; rfl, hp.eq_nil⟩
        · right
          obtain ⟨last, hlast⟩ : ∃ last, levels.getLast? = some last := ⟨_, List.getLast?_eq_some_getLast hne⟩
          have N := nx_isNext rs cs met last
          rw [hno last hlast] at N
          exact ⟨(W.inv hne).done hlast N hp, hs, by omega⟩
end
end LL
namespace LL
open PySem PySem.Spec PyProof.Rows L2
abbrev sIsNumber : Stmt := top 27
abbrev sIsLet : Stmt := top 28
abbrev sAreLet : Stmt := top 29
abbrev sStandApart : Stmt := top 30
/-! ### sum(t), t a tuple of ints -/
theorem preSum_get (ns : List Int) : ∀ j, j ≤ ns.length → preSum (fun i => ns.getD i 0) j = (ns.take j).sum
  | 0, _ => by simp [preSum]
  | j + 1, h => by
    have hj : j < ns.length := by omega
    rw [preSum, preSum_get ns j (by omega), List.take_add_one, List.getElem?_eq_getElem hj, List.getD_eq_getElem?_getD, List.getElem?_eq_getElem hj]
    show (ns.take j).sum + ns[j] = (ns.take j ++ [ns[j]]).sum
    rw [List.sum_append]
    simp
def rSumT (K : PySem.W.Frag) : List V → Hp → VK → Prop := fun vs H Q => ∃ (a : Addr) (ns : List Int), vs = [V.ref a] ∧ SqT K H a (ns.map V.int) ∧ Q (.int ns.sum) H
theorem cr_sumT {X : Cx} (hc : X.calm = true) : CallR X (.builtin "sum") (rSumT X.K) := by
  intro pins s σ H vs us Q I r h
  obtain ⟨a, ns, rfl, hs, q⟩ := h
  obtain ⟨its, rv, hT, _⟩ := I.tuple hs
  rw [Vals.ref1 r]
  have hlt : a < s.heap.objs.size := by
    obtain ⟨o, ho, _⟩ := id hT
    exact Heap.lt_size ho
  have hl := rv.length
  rw [List.length_map] at hl
  refine call_sum_walkG (wpAny_pyIter_tuple hT ⟨s.heap.objs.size, [s.heap.objs.size, a], [s.heap.objs.size], its.toArray.size, _, _, fun i => ns.getD i 0, rfl, Walks.tuple (A := X.A.in1) (I.ok.hd hc) s.heap.objs.size a (Nat.ne_of_lt hlt) its.toArray,
    ⟨⟨_, Heap.get?_push_size _ rfl, rfl, rfl⟩, ?_⟩, fun b hb => ?_, fun i v hv => ?_, fun h' tk t' hk => ?_⟩)
  · obtain ⟨o, ho, hc, n, hd⟩ := hT
    exact ⟨o, Heap.get?_push_of_some _ ho, hc, n, hd⟩
  · show b < (s.heap.push _).objs.size
    rw [Heap.size_push]
    rcases List.mem_cons.mp hb with z | hb
    · rw [z]
      exact Nat.lt_succ_self _
    · rw [List.mem_singleton.mp hb]
      exact Nat.lt_succ_of_lt hlt
  · have hv' : its[i]? = some v := by simpa using hv
    obtain ⟨x, h1, h2⟩ := pgetR rv hv'
    obtain ⟨_, rfl⟩ := int_at h1
    exact h2
  · have e : preSum (fun i => ns.getD i 0) its.toArray.size = ns.sum := by
      rw [List.size_toArray, ← hl, preSum_get ns _ (Nat.le_refl _), List.take_length]
    rw [e]
    exact ⟨.int ns.sum, H, I.kept (t' := tk) fun b o eb => hk b o (by simp [Nat.ne_of_lt (Heap.lt_size eb)]) (Heap.get?_push_of_some _ eb), ⟨_, rfl⟩, q⟩
section
variable {P : Program} {w : World} {K : PySem.W.Frag} {mg : Str → Option Value} {base : Heap}
/-! ### is_number -/
def spIsNumber : Sp := fun vs H Q _ => ∃ n : Int, vs = [.int n] ∧ 0 ≤ n ∧ Q (.bl true) H
theorem scIsNumber : FnScope ["thing"] ["thing"] (defScope sIsNumber) := ⟨rfl, rfl, rfl, by decide +kernel, rfl, by decide +kernel, by decide +kernel⟩
theorem ok_isNumber (D : Dn K mg "is_number" sIsNumber ["thing"]) (B : Blt mg) : C8.Cal P w K mg base 1 "is_number" spIsNumber [] := by
  refine D.cal scIsNumber (fun vs H Q E h => ?_) (fun f cdv A outer s H vs Q E hr h => ?_)
  · obtain ⟨n, rfl, _⟩ := h
    rfl
  · obtain ⟨n, rfl, h0, k⟩ := h
    refine ⟨_, pss_one (ps_ret (pe_and (pe_callB call_isi (by rfl) B.isinstance (by decide +kernel) (pa_cons (pv 0) (pa_cons (pe_bltn (v := .ty "int") (by rfl) B.int (by decide +kernel) rfl) pa_nil)))
      (pe_and (pe_not (pe_callB call_isi (by rfl) B.isinstance (by decide +kernel) (pa_cons (pv 0) (pa_cons (pe_bltn (v := .ty "bool") (by rfl) B.bool (by decide +kernel) rfl) pa_nil))))
        (pe_one (pe_cmpR op_ge (pv 0) pe_int (nomark _)))))), ?_⟩
    refine ⟨_, rfl, .int n, .ty "int", .type "int", .type "int", true, rfl, .ty _, .base (.int n), kit_ty (by decide +kernel), true, rfl, iteT ?_⟩
    refine ⟨_, rfl, .int n, .ty "bool", .type "int", .type "bool", false, rfl, .ty _, .base (.int n), kit_ty (by decide +kernel), false, rfl, ?_⟩
    refine ⟨true, rfl, iteT ⟨_, rfl, _, _, rfl, rfl, ?_⟩⟩
    show Q (V.bl (decide (0 ≤ n))) H
    rw [decide_eq_true h0]
    exact k
/-! ### is_let, are_let -/
/-- a vector that a paper may have -/
structure LetOk (cs : List (Option Int)) (v : List Int) : Prop where
  len : v.length = cs.length
  pos : ∀ x ∈ v, 0 ≤ x
  wi : within cs v = true
  sum : 0 < v.sum
def spIsLet : Sp := fun vs H Q _ => ∃ (xc x : V) (cs : List (Option Int)) (v : List Int), vs = [xc, x] ∧ IsCaps H xc cs ∧ IsVec H x v ∧ LetOk cs v ∧ cs.length ≤ 1000 ∧ ∀ H', Same H H' → Q (.bl true) H'
theorem scIsLet : FnScope ["caps", "thing", "number"] ["caps", "thing"] (defScope sIsLet) := ⟨rfl, rfl, rfl, by decide +kernel, rfl, by decide +kernel, by decide +kernel⟩
theorem all_true {n : Nat} : ((List.range n).map fun _ => V.bl true) = (List.replicate n true).map V.bl := by
  rw [List.map_replicate]
  exact List.eq_replicate_iff.mpr ⟨by simp, fun b hb => by
    obtain ⟨_, _, e⟩ := List.mem_map.mp hb
    exact e.symm⟩
theorem all_rep (n : Nat) : (List.replicate n true).all id = true := by simp
theorem ok_isLet (D : Dn K mg "is_let" sIsLet ["caps", "thing"]) (B : Blt mg) (cn : C8.Cal P w K mg base 1 "is_number" spIsNumber []) (cw : C8.Cal P w K mg base 1 "within" spWithin []) : C8.Cal P w K mg base 2 "is_let" spIsLet [] := by
  refine D.cal scIsLet (fun vs H Q E h => ?_) (fun f cdv A outer s H vs Q E hr h => ?_)
  · obtain ⟨xc, x, cs, v, rfl, _⟩ := h
    rfl
  · obtain ⟨xc, x, cs, v, rfl, hc, hx, ok, hz, k⟩ := h
    obtain ⟨c, rfl, hc0⟩ := id hc
    obtain ⟨p, rfl, hp⟩ := id hx
    refine ⟨_, pss_cons (ps_if (PW.pt (pw_or (pt_not (pt_val (pe_callB call_isi (by rfl) B.isinstance (by decide +kernel) (pa_cons (pv 1) (pa_cons (pe_bltn (v := .ty "tuple") (by rfl) B.tuple (by decide +kernel) rfl) pa_nil)))))
        (pw_or1 (pt_cmpR op_ne (pe_callB call_len_seq (by rfl) B.len PySem.boot_len (pa_cons (pv 1) pa_nil)) (pe_callB call_len_seq (by rfl) B.len PySem.boot_len (pa_cons (pv 0) pa_nil)) (nomark _))))) (pss_one (ps_ret pe_bl)) pss_nil)
      (pss_one (ps_ret (pe_and (pe_callB (cr_all rfl) (by rfl) B.all (by decide +kernel) (pa_cons
          (pe_lc (own := [("number", 2)]) (g := gName 2) (tt := tYes) (by rfl) scIsLet.nd (pi_tup (pv 1)) (blkOk_by (N := ["caps", "thing", "number"]) (sc := defScope sIsLet) (by decide +kernel))
            (fun _ _ _ _ _ => by exact pg_name (i := 2) scIsLet.nd rfl (Or.inl rfl)) (fun _ _ _ _ _ => pts_nil) (fun _ _ _ _ _ => by exact C8.pe_c cn hr (by decide) (by rfl) (pa_cons (pv 2) pa_nil))) pa_nil))
        (pe_and (C8.pe_c cw hr (by decide) (by rfl) (pa_cons (pv 0) (pa_cons (pv 1) pa_nil)))
          (pe_one (pe_cmpR op_gt (pe_callB (cr_sumT rfl) (by rfl) B.sum (by decide +kernel) (pa_cons (pv 1) pa_nil)) pe_int (nomark _))))))), ?_⟩
    refine ⟨_, rfl, .ref p, .ty "tuple", .type "tuple", .type "tuple", true, rfl, .ty _, .base (.tup hp), kit_ty (by decide +kernel), true, rfl, iteF ?_⟩
    refine ⟨_, rfl, p, _, rfl, .inr (SqT.of hp), _, rfl, c, _, rfl, .inr (SqT.of hc0), rfl, _, rfl, ?_⟩
    have el : V.int ((v.map V.int).length : Int) = V.int ((cs.map capV).length : Int) := by rw [List.length_map, List.length_map, ok.len]
    refine iteNS el ?_
    refine ⟨_, rfl, p, rfl, ⟨_, SqT.of hp⟩, fun L hL => ?_⟩
    have hlen := ok.len
    refine lc_vals walk_tup hL (fun _ => .bl true) (fun H' s' => s'.tup (SqT.of hp)) (by rw [List.length_map]; omega) (fun i u H1 H2 hi s1 yy K1 k1 => ?_) (fun H1 s1 h1 => ?_)
    · obtain ⟨rfl, ex⟩ := yy
      obtain ⟨hi2, rfl⟩ := int_at ex
      exact ⟨rfl, _, rfl, _, rfl, ok.pos _ (getD_mem hi2), k1 _ (Same.refl _)⟩
    · rw [all_true] at h1
      refine ⟨L, _, rfl, SqL.of h1, ?_⟩
      rw [all_rep]
      refine ⟨true, rfl, iteT ?_⟩
      refine ⟨_, rfl, _, rfl, _, _, cs, v, rfl, hc.same s1, hx.same s1, hlen.symm, by omega, fun H2 s2 => ?_⟩
      rw [ok.wi]
      refine ⟨true, rfl, iteT ?_⟩
      refine ⟨_, rfl, p, v, rfl, SqT.of ((s1.trans s2) _ _ hp), _, _, rfl, rfl, ?_⟩
      show Q (V.bl (decide (0 < v.sum))) H2
      rw [decide_eq_true ok.sum]
      exact k _ (s1.trans s2)
def spAreLet : Sp := fun vs H Q _ => ∃ (xc x : V) (cs : List (Option Int)) (us : List (List Int)), vs = [xc, x] ∧ IsCaps H xc cs ∧ IsVecT H x us ∧ (∀ v ∈ us, LetOk cs v) ∧ cs.length ≤ 1000 ∧ us.length ≤ 100000 ∧ ∀ H', Same H H' → Q (.bl true) H'
theorem scAreLet : FnScope ["caps", "thing", "one"] ["caps", "thing"] (defScope sAreLet) := ⟨rfl, rfl, rfl, by decide +kernel, rfl, by decide +kernel, by decide +kernel⟩
theorem ok_areLet (D : Dn K mg "are_let" sAreLet ["caps", "thing"]) (B : Blt mg) (cl : C8.Cal P w K mg base 2 "is_let" spIsLet []) : C8.Cal P w K mg base 3 "are_let" spAreLet [] := by
  refine D.cal scAreLet (fun vs H Q E h => ?_) (fun f cdv A outer s H vs Q E hr h => ?_)
  · obtain ⟨xc, x, cs, us, rfl, _⟩ := h
    rfl
  · obtain ⟨xc, x, cs, us, rfl, hc, ⟨p, xs, rfl, hp, hv⟩, ok, hz, hn, k⟩ := h
    refine ⟨_, pss_one (ps_ret (pe_and (pe_callB call_isi (by rfl) B.isinstance (by decide +kernel) (pa_cons (pv 1) (pa_cons (pe_bltn (v := .ty "tuple") (by rfl) B.tuple (by decide +kernel) rfl) pa_nil)))
      (pe_one (pe_callB (cr_all rfl) (by rfl) B.all (by decide +kernel) (pa_cons
          (pe_lc (own := [("one", 2)]) (g := gName 2) (tt := tYes) (by rfl) scAreLet.nd (pi_tup (pv 1)) (blkOk_by (N := ["caps", "thing", "one"]) (sc := defScope sAreLet) (by decide +kernel))
            (fun _ _ _ _ _ => by exact pg_name (i := 2) scAreLet.nd rfl (Or.inl rfl)) (fun _ _ _ _ _ => pts_nil) (fun _ _ _ _ _ => by exact C8.pe_c cl hr (by decide) (by rfl) (pa_cons (pv 0) (pa_cons (pv 2) pa_nil)))) pa_nil))))), ?_⟩
    refine ⟨_, rfl, .ref p, .ty "tuple", .type "tuple", .type "tuple", true, rfl, .ty _, .base (.tup hp), kit_ty (by decide +kernel), true, rfl, iteT ?_⟩
    refine ⟨_, rfl, p, rfl, ⟨_, SqT.of hp⟩, fun L hL => ?_⟩
    have lenX := plen hv
    refine lc_vals walk_tup hL (fun _ => .bl true) (fun H' s' => s'.tup (SqT.of hp)) (by omega) (fun i u H1 H2 hi s1 yy K1 k1 => ?_) (fun H1 s1 h1 => ?_)
    · obtain ⟨rfl, ex⟩ := yy
      obtain ⟨hu, hm⟩ := vec_at (hv.same s1) ex
      exact ⟨rfl, _, rfl, _, rfl, _, _, cs, _, rfl, hc.same s1, hu, ok _ hm, hz, k1⟩
    · rw [all_true] at h1
      refine ⟨L, _, rfl, SqL.of h1, ?_⟩
      rw [all_rep]
      exact k _ s1
end
end LL
namespace LL
open PySem PySem.Spec PyProof.Rows L2
section
variable {P : Program} {w : World} {K : PySem.W.Frag} {mg : Str → Option Value} {base : Heap}
/-! ### stand_apart -/
theorem cut_from (xs : List V) {j : Nat} (h : j ≤ xs.length) : cutV xs (some (j : Int)) none = xs.drop j := by
  unfold cutV
  rw [show HT.sIx xs.length 0 (some (j : Int)) = min j xs.length from HT.sIx_nat xs.length 0 j, HT.sIx_none, Nat.min_eq_left h]
  exact List.take_of_length_le (by rw [List.length_drop]; exact Nat.le_refl _)
/-- each ahead of the next ones, and none below another -/
def Apart (told : List (List Int)) : Prop := told.Pairwise fun a b => HT.lexLt a b = true ∧ below a b = false ∧ below b a = false
def spStandApart : Sp := fun vs H Q _ => ∃ (x : V) (told : List (List Int)) (d : Nat), vs = [x] ∧ IsVecT H x told ∧ Apart told ∧ (∀ v ∈ told, v.length = d) ∧ d ≤ 1000 ∧ told.length ≤ 1000 ∧ ∀ H', Same H H' → Q (.bl true) H'
theorem scStandApart : FnScope ["told", "place", "one", "other"] ["told"] (defScope sStandApart) := ⟨rfl, rfl, rfl, by decide +kernel, rfl, by decide +kernel, by decide +kernel⟩
theorem ok_standApart (D : Dn K mg "stand_apart" sStandApart ["told"]) (B : Blt mg) (cb : C8.Cal P w K mg base 1 "below" spBelow []) : C8.Cal P w K mg base 2 "stand_apart" spStandApart [] := by
  refine D.cal scStandApart (fun vs H Q E h => ?_) (fun f cdv A outer s H vs Q E hr h => ?_)
  · obtain ⟨x, told, d, rfl, _⟩ := h
    rfl
  · obtain ⟨x, told, d, rfl, ⟨p, xs, rfl, hp, hv⟩, ap, hd, hz, hn, k⟩ := h
    refine ⟨_, pss_cons (ps_for PassesOwn.never rfl (pi_enumT (by rfl) B.enumerate (pa_cons (pv 0) pa_nil)) (pg_tup rfl (pgs_cons (pg_name (i := 1) scStandApart.nd rfl (Or.inl rfl)) (pgs_cons (pg_name (i := 2) scStandApart.nd rfl (Or.inl rfl)) pgs_nil)))
        (pss_one (ps_for PassesOwn.never rfl (pi_tup (pe_slice sl_tupA (pv 0) (po_some (pe_op op_add (pv 1) pe_int)) po_none)) (pg_name (i := 3) scStandApart.nd rfl (Or.inl rfl))
          (pss_one (ps_if (PW.pt (pw_or (pt_cmpR (op_geT hr.units0) (pv 2) (pv 3) (nomark _)) (pw_or (pt_val (C8.pe_c cb hr (by decide) (by rfl) (pa_cons (pv 2) (pa_cons (pv 3) pa_nil)))) (pw_or1 (pt_val (C8.pe_c cb hr (by decide) (by rfl) (pa_cons (pv 3) (pa_cons (pv 2) pa_nil))))))))
            (pss_one (ps_ret pe_bl)) pss_nil)))))
      (pss_one (ps_ret pe_bl)), ?_⟩
    have lenX := plen hv
    refine ⟨_, rfl, p, xs, rfl, SqT.of hp, for_it walk_enumT (fun i σ H' => ∃ v1 v2 v3, σ = [some (.ref p), v1, v2, v3] ∧ Same H H') ⟨none, none, none, rfl, Same.refl H⟩ (fun i σ H' _ ⟨_, _, _, _, s'⟩ => s'.tup (SqT.of hp)) (fun i x σ H1 H2 hi hP y => ?_) (fun σ H' hP => ?_)⟩
    · obtain ⟨v1, v2, v3, rfl, s1⟩ := hP
      obtain ⟨T, z1, x1, rfl, nT, rfl, e1, ex⟩ := y
      have e1' := Option.some.inj e1
      subst e1'
      have sT := same_new (o := .tup [V.int (i : Int), x1]) nT
      have s2 := s1.trans sT
      obtain ⟨hx1, hm1⟩ := vec_at (hv.same s2) ex
      have hi' : i + 1 ≤ xs.length := hi
      refine ⟨T, _, rfl, SqT.of upd_same, rfl, _, _, rfl, _, _, rfl, rfl, ?_⟩
      refine ⟨_, rfl, _, rfl, _, _, rfl, rfl, _, rfl, p, xs, rfl, SqT.of (s2 _ _ hp), fun hw => ?_, fun _ q nq => ?_⟩
      · exfalso
        have h0 := hw.1
        rw [show ((i : Int) + 1) = ((i + 1 : Nat) : Int) by omega, show HT.sIx xs.length 0 (some ((i + 1 : Nat) : Int)) = min (i + 1) xs.length from HT.sIx_nat xs.length 0 (i + 1)] at h0
        omega
      · have sq := same_new (o := .tup (cutV xs (some ((i : Int) + 1)) none)) nq
        have ec : cutV xs (some ((i : Int) + 1)) none = xs.drop (i + 1) := by
          rw [show ((i : Int) + 1) = ((i + 1 : Nat) : Int) by omega]
          exact cut_from xs hi'
        have hq : (upd (upd H1 T (.tup [V.int (i : Int), x1])) q (.tup (cutV xs (some ((i : Int) + 1)) none))) q = some (.tup (xs.drop (i + 1))) := by rw [upd_same, ec]
        have s3 := s2.trans sq
        generalize upd (upd H1 T (.tup [V.int (i : Int), x1])) q (.tup (cutV xs (some ((i : Int) + 1)) none)) = H3 at *
        refine ⟨q, rfl, ⟨_, SqT.of hq⟩, for_it walk_tup (fun j σ H' => ∃ v3, σ = [some (.ref p), some (.int (i : Int)), some x1, v3] ∧ Same H3 H') ⟨v3, rfl, Same.refl _⟩ (fun j σ H' _ ⟨_, _, s'⟩ => s'.tup (SqT.of hq)) (fun j x2 σ H4 H5 hj hP y => ?_) (fun σ H' hP => ?_)⟩
        · obtain ⟨w3, rfl, s4⟩ := hP
          obtain ⟨rfl, ex2⟩ := y
          rw [List.getElem?_drop] at ex2
          have s5 := s3.trans s4
          obtain ⟨hx2, hm2⟩ := vec_at (hv.same s5) ex2
          have hi1 : i < told.length := by omega
          have hj1 : i + 1 + j < told.length := by
            have := (List.getElem?_eq_some_iff.mp ex2).1
            omega
          have ap' := List.pairwise_iff_getElem.mp ap i (i + 1 + j) hi1 hj1 (by omega)
          have g1 : told.getD i [] = told[i] := by rw [List.getD_eq_getElem?_getD, List.getElem?_eq_getElem hi1]; rfl
          have g2 : told.getD (i + 1 + j) [] = told[i + 1 + j] := by rw [List.getD_eq_getElem?_getD, List.getElem?_eq_getElem hj1]; rfl
          obtain ⟨b1, b2, b3⟩ := ap'
          rw [← g1, ← g2] at b1 b2 b3
          have hx1' := hx1.same (sq.trans s4)
          have l1 := hd _ hm1
          have l2 := hd _ hm2
          obtain ⟨a1, rfl, ha1⟩ := id hx1'
          obtain ⟨a2, rfl, ha2⟩ := id hx2
          refine ⟨_, rfl, _, rfl, a1, a2, _, _, rfl, rfl, SqT.of ha1, SqT.of ha2, l1.trans l2.symm, _, rfl, ?_⟩
          rw [b1]
          refine iteF ?_
          refine ⟨_, rfl, _, rfl, _, _, _, _, rfl, hx1', hx2, l1.trans l2.symm, by omega, fun H6 s6 => ⟨_, rfl, ?_⟩⟩
          rw [b2]
          refine iteF ?_
          refine ⟨_, rfl, _, rfl, _, _, _, _, rfl, hx2.same s6, hx1'.same s6, l2.trans l1.symm, by omega, fun H7 s7 => ⟨_, rfl, ?_⟩⟩
          rw [b3]
          exact iteF ⟨_, rfl, (s4.trans s6).trans s7⟩
        · obtain ⟨w3, rfl, s4⟩ := hP
          exact ⟨_, _, _, rfl, s3.trans s4⟩
    · obtain ⟨v1, v2, v3, rfl, s1⟩ := hP
      exact k _ s1
end
end LL
namespace LL
open PySem PySem.Spec PyProof.Rows L2
abbrev sLook : Stmt := top 31
abbrev sLInit : Stmt := inClass sLook 0
abbrev sLIsMet : Stmt := inClass sLook 1
abbrev sLGoesOn : Stmt := inClass sLook 2
def lFs (r c s t : V) : List (Str × V) := [("rows", r), ("caps", c), ("some", s), ("sheet", t)]
/-- a looker at p -/
def LkAt (C : Addr) (H : Hp) (p : Addr) (rs : List (List Int)) (cs : List (Option Int)) (told ks : List (List Int)) : Prop :=
  ∃ (dx : Addr) (xr xc xs : V) (d : Addr), H p = some (.ins C dx (lFs xr xc xs (.ref d))) ∧ IsVecT H xr rs ∧ IsCaps H xc cs ∧ IsVecT H xs told ∧ H d = some (.dT (kvsOf ks))
theorem LkAt.same {C : Addr} {H H' : Hp} {p : Addr} {rs : List (List Int)} {cs : List (Option Int)} {told ks : List (List Int)} (h : LkAt C H p rs cs told ks) (s : Same H H') : LkAt C H' p rs cs told ks :=
  let ⟨dx, xr, xc, xs, d, h1, h2, h3, h4, h5⟩ := h; ⟨dx, xr, xc, xs, d, s _ _ h1, h2.same s, h3.same s, h4.same s, s _ _ h5⟩
/-- what the top says of the class Look -/
structure LTxt (K : PySem.W.Frag) (C : Addr) : Prop where
  cl : Cls K C
  nR : NoAttr K C "rows"
  nC : NoAttr K C "caps"
  nS : NoAttr K C "some"
  nT : NoAttr K C "sheet"
section
variable {P : Program} {w : World} {K : PySem.W.Frag} {mg : Str → Option Value} {base : Heap} {C : Addr}
/-! ### __init__ -/
def spLInit (C : Addr) : Sp := fun vs H Q _ => ∃ (H0 : Hp) (p dx : Addr) (xr xc xs xp : V) (rs : List (List Int)) (cs : List (Option Int)) (told paper : List (List Int)), vs = [.ref p, xr, xc, xs, xp] ∧ Same H0 H ∧ H0 p = none ∧ H p = some (.ins C dx []) ∧
  IsVecT H0 xr rs ∧ IsCaps H0 xc cs ∧ IsVecT H0 xs told ∧ IsVecT H0 xp paper ∧ paper.length ≤ 100000 ∧ ∀ H', Same H0 H' → LkAt C H' p rs cs told (dedup paper) → Q .non H'
theorem scLInit : FnScope ["self", "rows", "caps", "some", "sheet", "one"] ["self", "rows", "caps", "some", "sheet"] (defScope sLInit) := ⟨rfl, rfl, rfl, by decide +kernel, rfl, by decide +kernel, by decide +kernel⟩
theorem ok_lInit {f : Addr} {fd : FuncData} (F : Fun K "__init__" "Look.__init__" sLInit f fd) (B : Blt mg) (T : LTxt K C) : FnOk P w K mg base CX0 1 f fd ["self", "rows", "caps", "some", "sheet"] (spLInit C) := by
  refine F.ok scLInit (fun vs H Q E h => ?_) (fun cdv A outer s H vs Q E hr h => ?_)
  · obtain ⟨H0, p, dx, xr, xc, xs, xp, rs, cs, told, paper, rfl, _⟩ := h
    rfl
  · obtain ⟨H0, p, dx, xr, xc, xs, xp, rs, cs, told, paper, rfl, s0, p0, hp, hrs, hcs, hts, ⟨pp, xps, rfl, hpp, hpv⟩, hn, k⟩ := h
    have hu3 : (A.deeper (envOfC "Look.__init__" (defScope sLInit) s.heap.objs.size f cdv)).units + 3 < cLine := by
      have := hr.un
      omega
    refine ⟨_, pss_cons (ps_fld (pv 0) (pv 1) rfl) (pss_cons (ps_fld (pv 0) (pv 2) rfl) (pss_cons (ps_fld (pv 0) (pv 3) rfl) (pss_one (ps_fld (pv 0) (pe_callTy (cr_dictV rfl hu3) (by rfl) B.dict (by decide +kernel) (pa_cons
      (pe_lc (own := [("one", 5)]) (g := gName 5) (tt := tYes) (by rfl) scLInit.nd (pi_tup (pv 4)) (blkOk_by (N := ["self", "rows", "caps", "some", "sheet", "one"]) (sc := defScope sLInit) (by decide +kernel))
        (fun _ _ _ _ _ => by exact pg_name (i := 5) scLInit.nd rfl (Or.inl rfl)) (fun _ _ _ _ _ => pts_nil) (fun _ _ _ _ _ => by exact pe_tup (pa_cons (pv 5) (pa_cons pe_bl pa_nil)))) pa_nil)) rfl)))), ?_⟩
    refine ⟨_, rfl, _, rfl, p, C, dx, [], rfl, hp, T.cl, T.nR, (by show 0 < 1000; decide), ?_⟩
    refine ⟨_, rfl, _, rfl, p, C, dx, _, rfl, upd_same, T.cl, T.nC, (by show 1 < 1000; decide), ?_⟩
    refine ⟨_, rfl, _, rfl, p, C, dx, _, rfl, upd_same, T.cl, T.nS, (by show 2 < 1000; decide), ?_⟩
    have s3 := same_mut (o := .ins C dx (putF "some" xs (putF "caps" xc (putF "rows" xr [])))) (same_mut (o := .ins C dx (putF "caps" xc (putF "rows" xr []))) (same_mut (o := .ins C dx (putF "rows" xr [])) s0 p0) p0) p0
    have hp3 : (upd (upd (upd H p (.ins C dx (putF "rows" xr []))) p (.ins C dx (putF "caps" xc (putF "rows" xr [])))) p (.ins C dx (putF "some" xs (putF "caps" xc (putF "rows" xr []))))) p = some (.ins C dx (putF "some" xs (putF "caps" xc (putF "rows" xr [])))) := upd_same
    have hpp3 := s3 _ _ hpp
    have hpv3 := hpv.same s3
    refine ⟨_, rfl, pp, rfl, ⟨_, SqT.of hpp3⟩, fun L hL => ?_⟩
    have lenX := plen hpv
    refine lc_all walk_tup hL (fun i y H => IsPairT H y (paper.getD i [])) (fun _ _ _ _ r s => r.tups s) (fun H' s' => s'.tup (SqT.of hpp3)) (by omega) (fun i u H1 H2 hi s1 yy K1 k1 => ?_) (fun H1 acc s1 ha hpa => ?_)
    · obtain ⟨rfl, ex⟩ := yy
      obtain ⟨⟨b, rfl, hb⟩, hm⟩ := vec_at (hpv3.same s1) ex
      refine ⟨rfl, _, rfl, by show 2 ≤ sizeLine; decide, fun t nt => ?_⟩
      have st := same_new (o := .tup [V.ref b, .bl true]) nt
      exact k1 _ _ st ⟨t, b, rfl, upd_same, st _ _ hb⟩
    · have hpr : Paired (IsPairT H1) acc paper := by
        have h1 := pmapR (f := fun i => paper.getD i []) hpa
        rw [lenX, range_getD] at h1
        exact h1
      refine ⟨L, acc, paper, rfl, SqL.of ha, hpr, fun d nd => ?_⟩
      have hp1 := s1 _ _ hp3
      have pd : p ≠ d := ne_of_none hp1 nd
      refine ⟨_, rfl, p, C, dx, _, rfl, (by rw [upd_ne pd]; exact hp1), T.cl, T.nT, (by show 3 < 1000; decide), ?_⟩
      have s4 : Same H0 (upd (upd H1 d (.dT (kvsOf (dedup paper)))) p (.ins C dx (putF "sheet" (.ref d) (putF "some" xs (putF "caps" xc (putF "rows" xr [])))))) := same_mut ((s3.trans s1).trans (same_new nd)) p0
      refine k _ s4 ⟨dx, xr, xc, xs, d, upd_same, hrs.same s4, hcs.same s4, hts.same s4, ?_⟩
      rw [upd_ne pd.symm, upd_same]
/-! ### is_met -/
def spLIsMet (C : Addr) : Sp := fun vs H Q _ => ∃ (p : Addr) (x : V) (rs : List (List Int)) (cs : List (Option Int)) (told ks : List (List Int)) (v : List Int), vs = [.ref p, x] ∧ LkAt C H p rs cs told ks ∧ IsVec H x v ∧ v.length = cs.length ∧ cs.length ≤ 1000 ∧
  (∀ t ∈ told, t.length = cs.length) ∧ told.length ≤ 100000 ∧ ∀ H', Same H H' → Q (.bl (isMet cs told ks v)) H'
theorem scLIsMet : FnScope ["self", "one"] ["self", "one"] (defScope sLIsMet) := ⟨rfl, rfl, rfl, by decide +kernel, rfl, by decide +kernel, by decide +kernel⟩
theorem ok_lIsMet (D : Mn K C "is_met" "Look.is_met" sLIsMet ["self", "one"]) (T : LTxt K C) (cw : C8.Cal P w K mg base 1 "within" spWithin []) (ca : C8.Cal P w K mg base 2 "above_any" spAboveAny []) : C8.Met P w K mg base 3 C "is_met" (spLIsMet C) [] := by
  refine D.met T.cl scLIsMet (fun vs H Q E h => ?_) (fun f cdv A outer s H vs Q E hr h => ?_)
  · obtain ⟨p, x, rs, cs, told, ks, v, rfl, _⟩ := h
    rfl
  · obtain ⟨p, x, rs, cs, told, ks, v, rfl, L, hx, hl, hz, htl, htn, k⟩ := h
    obtain ⟨dx, xr, xc, xs, d, h1, h2, h3, h4, h5⟩ := L
    have hu := hu_of hr
    refine ⟨_, pss_one (ps_ret (pe_or (pe_not (C8.pe_c cw hr (by decide) (by rfl) (pa_cons (pe_fld (pv 0) rfl) (pa_cons (pv 1) pa_nil)))) (pe_or (pe_cmp (pc_din hu (pv 1) (pe_fld (pv 0) rfl)) rfl) (pe_one (C8.pe_c ca hr (by decide) (by rfl) (pa_cons (pe_fld (pv 0) rfl) (pa_cons (pv 1) pa_nil))))))), ?_⟩
    refine ⟨_, rfl, p, C, dx, _, _, rfl, h1, T.cl, T.nC, (by rfl), _, rfl, _, _, cs, v, rfl, h3, hx, hl.symm, by omega, fun H1 s1 => ⟨_, rfl, ?_⟩⟩
    have e : isMet cs told ks v = (!within cs v || (decide (v ∈ ks) || aboveAny told v)) := rfl
    rw [e] at k
    cases hw : within cs v with
    | false =>
      rw [hw] at k
      exact ⟨_, rfl, iteT (k _ s1)⟩
    | true =>
      rw [hw] at k
      refine ⟨_, rfl, iteF ?_⟩
      refine ⟨_, rfl, _, rfl, p, C, dx, _, _, rfl, s1 _ _ h1, T.cl, T.nT, (by rfl), d, _, rfl, dget_vec (s1 _ _ h5) (hx.same s1), ?_⟩
      by_cases hm : v ∈ ks
      · rw [if_pos hm]
        rw [decide_eq_true hm] at k
        exact ⟨_, rfl, iteT (k _ s1)⟩
      · rw [if_neg hm]
        rw [decide_eq_false hm] at k
        refine ⟨_, rfl, iteF ?_⟩
        exact ⟨_, rfl, p, C, dx, _, _, rfl, s1 _ _ h1, T.cl, T.nS, (by rfl), _, rfl, _, _, told, v, rfl, .inr (h4.same s1), hx.same s1, fun u hu => by rw [htl u hu, hl], by omega, htn, fun H2 s2 => k _ (s1.trans s2)⟩
/-! ### goes_on -/
def spLGoesOn (C : Addr) : Sp := fun vs H Q _ => ∃ (p : Addr) (x : V) (rs : List (List Int)) (cs : List (Option Int)) (told ks : List (List Int)) (v : List Int), vs = [.ref p, x] ∧ LkAt C H p rs cs told ks ∧ IsVec H x v ∧ v.length = cs.length ∧ cs.length ≤ 1000 ∧
  (∀ t ∈ told, t.length = cs.length) ∧ told.length ≤ 100000 ∧ RowsOk rs cs.length ∧ ∀ H', Same H H' → Q (.bl (goesOn rs cs told ks v)) H'
theorem scLGoesOn : FnScope ["self", "one", "width", "j"] ["self", "one"] (defScope sLGoesOn) := ⟨rfl, rfl, rfl, by decide +kernel, rfl, by decide +kernel, by decide +kernel⟩
theorem ok_lGoesOn (D : Mn K C "goes_on" "Look.goes_on" sLGoesOn ["self", "one"]) (B : Blt mg) (T : LTxt K C) (ca : C8.Cal P w K mg base 2 "above_any" spAboveAny []) (ci : C8.Cal P w K mg base 2 "is_answer" spIsAnswer []) (cf : C8.Cal P w K mg base 2 "falls" spFalls [])
    (cp : C8.Cal P w K mg base 1 "plus" spPlus []) (cu : C8.Cal P w K mg base 1 "unit" spUnit []) (cm : C8.Met P w K mg base 3 C "is_met" (spLIsMet C) []) : C8.Met P w K mg base 4 C "goes_on" (spLGoesOn C) [] := by
  refine D.met T.cl scLGoesOn (fun vs H Q E h => ?_) (fun f cdv A outer s H vs Q E hr h => ?_)
  · obtain ⟨p, x, rs, cs, told, ks, v, rfl, _⟩ := h
    rfl
  · obtain ⟨p, x, rs, cs, told, ks, v, rfl, L, hx, hl, hz, htl, htn, ro, k⟩ := h
    obtain ⟨dx, xr, xc, xs, d, h1, h2, h3, h4, h5⟩ := id L
    have ro' : RowsOk rs v.length := hl.symm ▸ ro
    refine ⟨_, pss_cons (ps_if (pt_val (C8.pe_c ca hr (by decide) (by rfl) (pa_cons (pe_fld (pv 0) rfl) (pa_cons (pv 1) pa_nil)))) (pss_one (ps_ret pe_bl)) pss_nil)
      (pss_cons (ps_if (pt_val (C8.pe_c ci hr (by decide) (by rfl) (pa_cons (pe_fld (pv 0) rfl) (pa_cons (pv 1) pa_nil)))) (pss_one (ps_ret pe_bl)) pss_nil)
      (pss_cons (ps_set (i := 2) scLGoesOn.nd rfl (Or.inr rfl) (pe_callB call_len_seq (by rfl) B.len PySem.boot_len (pa_cons (pe_fld (pv 0) rfl) pa_nil)))
      (pss_one (ps_ret (pe_callB (cr_all rfl) (by rfl) B.all (by decide +kernel) (pa_cons
        (pe_lc (own := [("j", 3)]) (g := gName 3) (tt := tYes) (te := tMeth C "is_met" (spLIsMet C) [] E0 (tVar 0) (tCons (tCall spPlus [] E0 (tCons (tVar 1) (tCons (tCall spUnit [] E0 (tCons (tVar 2) (tCons (tVar 3) tNil))) tNil))) tNil)) (by rfl) scLGoesOn.nd
          (pi_tup (C8.pe_c cf hr (by decide) (by rfl) (pa_cons (pe_fld (pv 0) rfl) (pa_cons (pv 1) pa_nil)))) (blkOk_by (N := ["self", "one", "width", "j"]) (sc := defScope sLGoesOn) (by decide +kernel))
          (fun _ _ _ _ _ => by exact pg_name (i := 3) scLGoesOn.nd rfl (Or.inl rfl)) (fun _ _ _ _ _ => pts_nil)
          (fun _ _ _ _ _ => by exact C8.pe_mt cm hr (by decide) (pv 0) (pa_cons (C8.pe_c cp hr (by decide) (by rfl) (pa_cons (pv 1) (pa_cons (C8.pe_c cu hr (by decide) (by rfl) (pa_cons (pv 2) (pa_cons (pv 3) pa_nil))) pa_nil))) pa_nil))) pa_nil)))))), ?_⟩
    refine ⟨_, rfl, p, C, dx, _, _, rfl, h1, T.cl, T.nS, (by rfl), _, rfl, _, _, told, v, rfl, .inr h4, hx, fun u hu => by rw [htl u hu, hl], by omega, htn, fun H1 s1 => ⟨_, rfl, ?_⟩⟩
    have e : goesOn rs cs told ks v = if aboveAny told v = true then true else if isAns rs v = true then false else (falls rs v).all fun j => isMet cs told ks (plus v (unit cs.length j)) := rfl
    rw [e] at k
    cases hab : aboveAny told v with
    | true =>
      rw [hab, if_pos rfl] at k
      exact iteT (k _ s1)
    | false =>
      rw [hab, if_neg Bool.false_ne_true] at k
      refine iteF ?_
      refine ⟨_, rfl, p, C, dx, _, _, rfl, s1 _ _ h1, T.cl, T.nR, (by rfl), _, rfl, xr, x, rs, v, rfl, h2.same s1, hx.same s1, ro', by omega, fun H2 s2 => ⟨_, rfl, ?_⟩⟩
      have s12 := s1.trans s2
      cases hia : isAns rs v with
      | true =>
        rw [hia, if_pos rfl] at k
        exact iteT (k _ s12)
      | false =>
        rw [hia, if_neg Bool.false_ne_true] at k
        refine iteF ?_
        obtain ⟨c, rfl, hc⟩ := id h3
        refine ⟨_, rfl, p, C, dx, _, _, rfl, s12 _ _ h1, T.cl, T.nC, (by rfl), c, _, rfl, .inr (SqT.of (s12 _ _ hc)), ?_⟩
        rw [caps_len]
        refine ⟨_, rfl, p, C, dx, _, _, rfl, s12 _ _ h1, T.cl, T.nR, (by rfl), _, rfl, xr, x, rs, v, rfl, h2.same s12, hx.same s12, ro', by omega, fun H3 z s3 hz3 => ?_⟩
        obtain ⟨t, rfl, ht⟩ := hz3
        have s13 := s12.trans s3
        refine ⟨t, rfl, ⟨_, SqT.of ht⟩, fun LL hLL => ?_⟩
        have hn : ((natsV (falls rs v)).map V.int).length = (falls rs v).length := by
          rw [List.length_map]
          exact List.length_map _
        have hfl : (falls rs v).length ≤ v.length := by
          unfold falls
          exact Nat.le_trans (List.length_filter_le _ _) (by rw [List.length_range]; exact Nat.le_refl _)
        refine lc_vals walk_tup hLL (fun i => .bl (isMet cs told ks (plus v (unit cs.length ((falls rs v).getD i 0))))) (fun H' s' => s'.tup (SqT.of ht)) (by rw [hn]; omega) (fun i u H4 H5 hi s4 yy K1 k1 => ?_) (fun H4 s4 h4' => ?_)
        · obtain ⟨rfl, ex⟩ := yy
          obtain ⟨hi2, rfl⟩ := int_at ex
          rw [hn] at hi
          have hjn : (natsV (falls rs v)).getD i 0 = (((falls rs v).getD i 0 : Nat) : Int) := by
            unfold natsV
            rw [List.getD_eq_getElem?_getD, List.getD_eq_getElem?_getD, List.getElem?_map, List.getElem?_eq_getElem hi]
            rfl
          have hjw : (falls rs v).getD i 0 < cs.length := by
            have := falls_lt (getD_mem (d := 0) hi)
            omega
          have s14 := s13.trans s4
          rw [hjn]
          refine ⟨rfl, _, rfl, p, dx, _, rfl, s14 _ _ h1, (by rfl), _, rfl, _, rfl, _, rfl, cs.length, _, rfl, hjw, by omega, fun H6 z6 s6 hz6 => ?_⟩
          have hpl : (plus v (unit cs.length ((falls rs v).getD i 0))).length = cs.length := by
            rw [plus_length (by rw [hl, unit_length hjw]), hl]
          refine ⟨x, z6, v, _, rfl, hx.same (s14.trans s6), hz6, by rw [hl, unit_length hjw], by omega, fun H7 z7 s7 hz7 => ?_⟩
          refine ⟨p, z7, rs, cs, told, ks, _, rfl, L.same ((s14.trans s6).trans s7), hz7, hpl, hz, htl, htn, fun H8 s8 => k1 _ ((s6.trans s7).trans s8)⟩
        · rw [hn, map_bl, map_one 0 fun j => isMet cs told ks (plus v (unit cs.length j))] at h4'
          refine ⟨LL, _, rfl, SqL.of h4', ?_⟩
          rw [all_map]
          exact k _ (s13.trans s4)
end
end LL
namespace LL
open PySem PySem.Spec PyProof.Rows L2
abbrev sLHolds : Stmt := inClass sLook 3
abbrev sShows : Stmt := top 32
section
variable {P : Program} {w : World} {K : PySem.W.Frag} {mg : Str → Option Value} {base : Heap} {C : Addr}
/-! ### holds -/
def spLHolds (C : Addr) : Sp := fun vs H Q _ => ∃ (p : Addr) (rs : List (List Int)) (cs : List (Option Int)) (told ks : List (List Int)), vs = [.ref p] ∧ LkAt C H p rs cs told ks ∧ cs.length ≤ 1000 ∧
  (∀ t ∈ told, t.length = cs.length) ∧ told.length ≤ 100000 ∧ (∀ t ∈ ks, t.length = cs.length) ∧ ks.length ≤ 100000 ∧ RowsOk rs cs.length ∧ ∀ H', Same H H' → Q (.bl (holds rs cs told ks)) H'
theorem scLHolds : FnScope ["self", "width", "units", "j", "one"] ["self"] (defScope sLHolds) := ⟨rfl, rfl, rfl, by decide +kernel, rfl, by decide +kernel, by decide +kernel⟩
theorem range_all {n : Nat} (f : Nat → List Int) (g : List Int → Bool) : ((List.range n).map f).all g = (List.range n).all fun j => g (f j) := by
  rw [List.all_map]
  rfl
theorem ok_lHolds (D : Mn K C "holds" "Look.holds" sLHolds ["self"]) (B : Blt mg) (T : LTxt K C) (cu : C8.Cal P w K mg base 1 "unit" spUnit []) (cm : C8.Met P w K mg base 3 C "is_met" (spLIsMet C) []) (cg : C8.Met P w K mg base 4 C "goes_on" (spLGoesOn C) []) : C8.Met P w K mg base 5 C "holds" (spLHolds C) [] := by
  refine D.met T.cl scLHolds (fun vs H Q E h => ?_) (fun f cdv A outer s H vs Q E hr h => ?_)
  · obtain ⟨p, rs, cs, told, ks, rfl, _⟩ := h
    rfl
  · obtain ⟨p, rs, cs, told, ks, rfl, L, hz, htl, htn, hkl, hkn, ro, k⟩ := h
    obtain ⟨dx, xr, xc, xs, d, h1, h2, h3, h4, h5⟩ := id L
    obtain ⟨c, rfl, hc⟩ := id h3
    refine ⟨_, pss_cons (ps_set (i := 1) scLHolds.nd rfl (Or.inr rfl) (pe_callB call_len_seq (by rfl) B.len PySem.boot_len (pa_cons (pe_fld (pv 0) rfl) pa_nil)))
      (pss_cons (ps_setLc (i := 2) (own := [("j", 3)]) (g := gName 3) (tt := tYes) rfl scLHolds.nd rfl rfl (sw_true rfl rfl rfl (by decide +kernel)) (pi_range1 (by rfl) B.range (pa_cons (pv 1) pa_nil))
          (blkOk_by (N := ["self", "width", "units", "j", "one"]) (sc := defScope sLHolds) (by decide +kernel))
          (fun _ _ _ _ _ => by exact pg_name (i := 3) scLHolds.nd rfl (Or.inl rfl)) (fun _ _ _ _ _ => pts_nil) (fun _ _ _ _ _ => by exact C8.pe_c cu hr (by decide) (by rfl) (pa_cons (pv 1) (pa_cons (pv 3) pa_nil))))
      (pss_one (ps_ret (pe_and (pe_callB (cr_all rfl) (by rfl) B.all (by decide +kernel) (pa_cons
          (pe_lc (own := [("one", 4)]) (g := gName 4) (tt := tYes) (by rfl) scLHolds.nd (pi_list (pv 2)) (blkOk_by (N := ["self", "width", "units", "j", "one"]) (sc := defScope sLHolds) (by decide +kernel))
            (fun _ _ _ _ _ => by exact pg_name (i := 4) scLHolds.nd rfl (Or.inl rfl)) (fun _ _ _ _ _ => pts_nil) (fun _ _ _ _ _ => by exact C8.pe_mt cm hr (by decide) (pv 0) (pa_cons (pv 4) pa_nil))) pa_nil))
        (pe_one (pe_callB (cr_all rfl) (by rfl) B.all (by decide +kernel) (pa_cons
          (pe_lc (own := [("one", 4)]) (g := gName 4) (tt := tYes) (by rfl) scLHolds.nd (pi_list (pe_callTy (call_list_dT rfl) (by rfl) B.list (by decide +kernel) (pa_cons (pe_fld (pv 0) rfl) pa_nil))) (blkOk_by (N := ["self", "width", "units", "j", "one"]) (sc := defScope sLHolds) (by decide +kernel))
            (fun _ _ _ _ _ => by exact pg_name (i := 4) scLHolds.nd rfl (Or.inl rfl)) (fun _ _ _ _ _ => pts_nil) (fun _ _ _ _ _ => by exact C8.pe_mt cg hr (by decide) (pv 0) (pa_cons (pv 4) pa_nil))) pa_nil))))))), ?_⟩
    refine ⟨_, rfl, p, C, dx, _, _, rfl, h1, T.cl, T.nC, (by rfl), c, _, rfl, .inr (SqT.of hc), ?_⟩
    rw [caps_len]
    refine ⟨_, rfl, (cs.length : Int), rfl, by omega, by omega, fun U hU => ?_⟩
    refine lc_all walk_range hU (fun i y H => IsVec H y (unit cs.length i)) (fun _ _ _ _ r s => r.tups s) (fun _ _ => trivial) (by rw [Int.toNat_natCast]; omega) (fun i u H1 H2 hi s1 yy K1 k1 => ?_) (fun H1 acc s1 ha hp => ?_)
    · obtain ⟨rfl, ey⟩ := yy
      rw [Int.toNat_natCast] at hi
      have ey' : u = V.int (i : Int) := by
        rw [ey]
        show V.int (0 + (i : Int)) = _
        rw [Int.zero_add]
      subst ey'
      exact ⟨rfl, _, rfl, _, rfl, cs.length, i, rfl, hi, by omega, fun H3 z s3 hz => k1 z H3 s3 hz⟩
    · rw [Int.toNat_natCast] at hp
      have hv : Vecs H1 acc ((List.range cs.length).map (unit cs.length)) := pmapR hp
      have hlen : acc.length = ((List.range cs.length).map (unit cs.length)).length := plen hv
      have hlen2 : acc.length = cs.length := by
        rw [hlen, List.length_map, List.length_range]
      have L1 := L.same s1
      refine ⟨_, rfl, U, rfl, ⟨_, SqL.of ha⟩, fun M hM => ?_⟩
      refine lc_vals walk_list hM (fun i => .bl (isMet cs told ks (((List.range cs.length).map (unit cs.length)).getD i []))) (fun H' s' => s'.seq (SqL.of ha)) (by omega) (fun i u H2 H3 hi s2 yy K1 k1 => ?_) (fun H2 s2 hM2 => ?_)
      · obtain ⟨rfl, ex⟩ := yy
        obtain ⟨hu, hm⟩ := vec_at (hv.same s2) ex
        obtain ⟨j, hj, e⟩ := List.mem_map.mp hm
        have hl : (((List.range cs.length).map (unit cs.length)).getD i []).length = cs.length := by
          rw [← e, unit_length (List.mem_range.mp hj)]
        exact ⟨rfl, _, rfl, p, dx, _, rfl, (s1.trans s2) _ _ h1, (by rfl), _, rfl, p, u, rs, cs, told, ks, _, rfl, L1.same s2, hu, hl, hz, htl, htn, k1⟩
      · rw [hlen, map_bl, map_one [] fun u => isMet cs told ks u] at hM2
        refine ⟨M, _, rfl, SqL.of hM2, ?_⟩
        rw [all_map, range_all]
        have e : holds rs cs told ks = (((List.range cs.length).all fun j => isMet cs told ks (unit cs.length j)) && ks.all fun v => goesOn rs cs told ks v) := rfl
        rw [e] at k
        have s12 := s1.trans s2
        cases hb : ((List.range cs.length).all fun j => isMet cs told ks (unit cs.length j)) with
        | false =>
          rw [hb] at k
          exact ⟨_, rfl, iteF (k _ s12)⟩
        | true =>
          rw [hb] at k
          refine ⟨_, rfl, iteT ?_⟩
          refine ⟨_, rfl, p, C, dx, _, _, rfl, s12 _ _ h1, T.cl, T.nT, (by rfl), d, _, rfl, .inl (s12 _ _ h5), fun q bs nq hbs => ⟨q, rfl, ⟨_, SqL.of upd_same⟩, fun N hN => ?_⟩⟩
          have sq := same_new (o := .lst (bs.map V.ref)) nq
          have hvk := (keys_vecs hbs).same sq
          have hq : (upd H2 q (.lst (bs.map V.ref))) q = some (.lst (bs.map V.ref)) := upd_same
          have s13 := s12.trans sq
          have lenK := plen hvk
          generalize upd H2 q (.lst (bs.map V.ref)) = H3 at *
          refine lc_vals walk_list hN (fun i => .bl (goesOn rs cs told ks (ks.getD i []))) (fun H' s' => s'.seq (SqL.of hq)) (by omega) (fun i u H4 H5 hi s4 yy K1 k1 => ?_) (fun H4 s4 hN4 => ?_)
          · obtain ⟨rfl, ex⟩ := yy
            obtain ⟨hu, hm⟩ := vec_at (hvk.same s4) ex
            exact ⟨rfl, _, rfl, p, dx, _, rfl, (s13.trans s4) _ _ h1, (by rfl), _, rfl, p, u, rs, cs, told, ks, _, rfl, L.same (s13.trans s4), hu, hkl _ hm, hz, htl, htn, ro, k1⟩
          · rw [lenK, map_bl, map_one [] fun u => goesOn rs cs told ks u] at hN4
            refine ⟨N, _, rfl, SqL.of hN4, ?_⟩
            rw [all_map]
            exact k _ (s13.trans s4)
/-! ### shows -/
def spShows : Sp := fun vs H Q _ => ∃ (xr xc xt xp : V) (rs : List (List Int)) (cs : List (Option Int)) (told paper : List (List Int)), vs = [xr, xc, xt, xp] ∧ IsVecT H xr rs ∧ IsCaps H xc cs ∧ IsVecT H xt told ∧ IsVecT H xp paper ∧ RowsOk rs cs.length ∧ cs.length ≤ 1000 ∧
  (∀ v ∈ told, LetOk cs v) ∧ (∀ v ∈ paper, LetOk cs v) ∧ (∀ v ∈ told, isAns rs v = true) ∧ Apart told ∧ told.length ≤ 1000 ∧ paper.length ≤ 100000 ∧ ∀ H', Same H H' → Q (.bl (holds rs cs told paper)) H'
theorem scShows : FnScope ["rows", "caps", "told", "paper", "one"] ["rows", "caps", "told", "paper"] (defScope sShows) := ⟨rfl, rfl, rfl, by decide +kernel, rfl, by decide +kernel, by decide +kernel⟩
theorem ok_shows (D : Dn K mg "shows" sShows ["rows", "caps", "told", "paper"]) (B : Blt mg) (T : LTxt K C) (cl : C8.Cal P w K mg base 3 "are_let" spAreLet []) (ci : C8.Cal P w K mg base 2 "is_answer" spIsAnswer []) (cs1 : C8.Cal P w K mg base 2 "stand_apart" spStandApart [])
    (cm : C8.Mak P w K mg base 1 "Look" C (spLInit C) []) (ch : C8.Met P w K mg base 5 C "holds" (spLHolds C) []) : C8.Cal P w K mg base 6 "shows" spShows [] := by
  refine D.cal scShows (fun vs H Q E h => ?_) (fun f cdv A outer s H vs Q E hr h => ?_)
  · obtain ⟨xr, xc, xt, xp, rs, cs, told, paper, rfl, _⟩ := h
    rfl
  · obtain ⟨xr, xc, xt, xp, rs, cs, told, paper, rfl, hrs, hcs, hts, hps, ro, hz, lt, lp, an, ap, hn, hpn, k⟩ := h
    obtain ⟨t, ts, rfl, ht, htv⟩ := id hts
    refine ⟨_, pss_cons (ps_if (PW.pt (pw_or (pt_not (pt_val (C8.pe_c cl hr (by decide) (by rfl) (pa_cons (pv 1) (pa_cons (pv 2) pa_nil))))) (pw_or1 (pt_not (pt_val (C8.pe_c cl hr (by decide) (by rfl) (pa_cons (pv 1) (pa_cons (pv 3) pa_nil)))))))) (pss_one (ps_ret pe_bl)) pss_nil)
      (pss_cons (ps_if (PW.pt (pw_or (pt_not (pt_val (pe_callB (cr_all rfl) (by rfl) B.all (by decide +kernel) (pa_cons
          (pe_lc (own := [("one", 4)]) (g := gName 4) (tt := tYes) (by rfl) scShows.nd (pi_tup (pv 2)) (blkOk_by (N := ["rows", "caps", "told", "paper", "one"]) (sc := defScope sShows) (by decide +kernel))
            (fun _ _ _ _ _ => by exact pg_name (i := 4) scShows.nd rfl (Or.inl rfl)) (fun _ _ _ _ _ => pts_nil) (fun _ _ _ _ _ => by exact C8.pe_c ci hr (by decide) (by rfl) (pa_cons (pv 0) (pa_cons (pv 4) pa_nil)))) pa_nil))))
          (pw_or1 (pt_not (pt_val (C8.pe_c cs1 hr (by decide) (by rfl) (pa_cons (pv 2) pa_nil))))))) (pss_one (ps_ret pe_bl)) pss_nil)
      (pss_one (ps_ret (C8.pe_mt0 ch hr (by decide) (C8.pe_mk cm hr (by decide) (by rfl) (pa_cons (pv 0) (pa_cons (pv 1) (pa_cons (pv 2) (pa_cons (pv 3) pa_nil))))))))), ?_⟩
    refine ⟨_, rfl, _, rfl, _, _, cs, told, rfl, hcs, hts, lt, hz, by omega, fun H1 s1 => ⟨_, rfl, iteF ?_⟩⟩
    refine ⟨_, rfl, _, rfl, _, _, cs, paper, rfl, hcs.same s1, hps.same s1, lp, hz, hpn, fun H2 s2 => ⟨_, rfl, iteF ?_⟩⟩
    have s12 := s1.trans s2
    refine ⟨_, rfl, t, rfl, ⟨_, SqT.of (s12 _ _ ht)⟩, fun L hL => ?_⟩
    have lenT := plen htv
    refine lc_vals walk_tup hL (fun _ => .bl true) (fun H' s' => s'.tup (SqT.of (s12 _ _ ht))) (by omega) (fun i u H3 H4 hi s3 yy K1 k1 => ?_) (fun H3 s3 h3 => ?_)
    · obtain ⟨rfl, ex⟩ := yy
      obtain ⟨hu, hm⟩ := vec_at (htv.same (s12.trans s3)) ex
      have hul := (lt _ hm).len
      refine ⟨rfl, _, rfl, _, rfl, _, _, rs, _, rfl, hrs.same (s12.trans s3), hu, hul.symm ▸ ro, by omega, fun H5 s5 => ?_⟩
      rw [an _ hm]
      exact k1 _ s5
    · rw [all_true] at h3
      refine ⟨L, _, rfl, SqL.of h3, ?_⟩
      rw [all_rep]
      have s13 := s12.trans s3
      refine ⟨_, rfl, iteF ?_⟩
      refine ⟨_, rfl, _, told, cs.length, rfl, hts.same s13, ap, fun v hv => (lt v hv).len, hz, hn, fun H4 s4 => ⟨_, rfl, iteF ?_⟩⟩
      have s14 := s13.trans s4
      refine ⟨_, rfl, _, rfl, _, rfl, _, rfl, fun p dx np nd nex => ?_⟩
      have sp0 : Same H4 (upd (upd H4 dx (.own p)) p (.ins C dx [])) := same_mut (same_new nd) np
      refine ⟨H4, p, dx, _, _, _, _, rs, cs, told, paper, rfl, sp0, np, upd_same, hrs.same s14, hcs.same s14, hts.same s14, hps.same s14, hpn, fun H5 s5 Lk => ⟨rfl, ?_⟩⟩
      obtain ⟨dx2, xr2, xc2, xs2, d2, g1, _⟩ := id Lk
      refine ⟨p, dx2, _, rfl, g1, (by rfl), p, rs, cs, told, dedup paper, rfl, Lk, hz, fun v hv => (lt v hv).len, by omega, fun v hv => (lp v (dedup_mem.mp hv)).len, Nat.le_trans (dedup_length _) hpn, ro, fun H6 s6 => ?_⟩
      rw [holds_congr (q := paper) fun v => dedup_mem]
      exact k _ (s14.trans (s5.trans s6))
end
end LL
namespace LL
open PySem PySem.Spec PyProof.Rows L2
/-! ### the texts -/
/-- a number's text -/
def wd (n : Int) : Str := Str.ofString (toString n)
def hdT (b : Bool) : Str := if b then ("step" : Str) else ("least" : Str)
def hdS (b : Bool) : Str := if b then ("step " : Str) else ("least " : Str)
def lineT (b : Bool) (v : List Int) : Str := hdS b ++ Txt.join (" " : Str) (v.map wd)
def linesT (told paper : List (List Int)) : List Str := told.map (lineT false) ++ paper.map (lineT true)
def textT (told paper : List (List Int)) : Str := Txt.join ("\n" : Str) (linesT told paper)
/-- a vector that may be told -/
structure Tell (v : List Int) : Prop where
  one : 1 ≤ v.length
  len : v.length ≤ 8
  pos : ∀ n ∈ v, 0 ≤ n
  few : ∀ n ∈ v, n < 10 ^ 20
theorem wd_nat (n : Nat) : TL.tl (wd (n : Int)) = TL.numL n := TL.tl_num n
theorem wd_tl {n : Int} (h : 0 ≤ n) : TL.tl (wd n) = TL.numL n.toNat := by
  obtain ⟨m, rfl⟩ := Int.eq_ofNat_of_zero_le h
  exact TL.tl_num m
theorem wd_ne {n : Int} (h : 0 ≤ n) : 1 ≤ (wd n).length := by
  rw [TL.len_tl, wd_tl h]
  exact List.length_pos_iff.mpr (TL.numL_ne _)
theorem wd_len {n : Int} (h : 0 ≤ n) (h2 : n < 10 ^ 20) : (wd n).length ≤ 20 := by
  rw [TL.len_tl, wd_tl h]
  exact TL.numL_len (by decide) (by omega)
theorem wd_int {n : Int} (h : 0 ≤ n) (h2 : n < 10 ^ 20) : intText? (wd n) = some n := by
  obtain ⟨m, rfl⟩ := Int.eq_ofNat_of_zero_le h
  exact TL.int_num (Nat.le_trans (TL.numL_len (k := 20) (by decide) (by omega)) (by decide))
theorem wd_free {n : Int} {s : Nat} (h : 0 ≤ n) (hs : s < 48 ∨ 57 < s) : s ∉ TL.tl (wd n) := by
  rw [wd_tl h]
  exact TL.numL_free hs
theorem wd_dig {n : Int} (h : 0 ≤ n) {c : Nat} (hc : c ∈ TL.tl (wd n)) : 48 ≤ c ∧ c ≤ 57 := by
  rw [wd_tl h] at hc
  exact TL.numL_digits n.toNat c hc
theorem numL_head : ∀ (k n : Nat), n < k → 1 ≤ n → (TL.numL n).head? ≠ some 48
  | 0, _, h, _ => by omega
  | k + 1, n, h, h1 => by
    by_cases e : n < 10
    · rw [TL.numL_lt e]
      intro z
      have z' : 48 + n = 48 := Option.some.inj z
      omega
    · rw [TL.numL_step (by omega)]
      intro z
      have i := numL_head k (n / 10) (by omega) (by omega)
      cases hq : TL.numL (n / 10) with
      | nil => exact TL.numL_ne _ hq
      | cons a r =>
        rw [hq] at i z
        exact i z
theorem wd_head {n : Int} (h : 1 ≤ n) : (TL.tl (wd n)).head? ≠ some 48 := by
  rw [wd_tl (by omega)]
  exact numL_head _ n.toNat (Nat.lt_succ_self _) (by omega)
theorem wd_zero : wd 0 = ("0" : Str) := by decide +kernel
/-! a line -/
theorem line_join (b : Bool) {v : List Int} (h : v ≠ []) : lineT b v = Txt.join (" " : Str) (hdT b :: v.map wd) := by
  cases v with
  | nil => exact absurd rfl h
  | cons n r =>
    refine TL.ext_tl ?_
    rw [lineT, TL.tl_append, TL.join_eq, TL.join_eq, TL.tl_join, TL.tl_join]
    show TL.tl (hdS b) ++ TL.joinL _ ((wd n :: r.map wd).map TL.tl) = TL.tl (hdT b) ++ (TL.tl (" " : Str) ++ TL.joinL _ ((wd n :: r.map wd).map TL.tl))
    rw [← List.append_assoc]
    congr 1
    cases b <;> decide +kernel
theorem line_split (b : Bool) {v : List Int} (h : v ≠ []) (hp : ∀ n ∈ v, 0 ≤ n) : Txt.split (lineT b v) (" " : Str) = hdT b :: v.map wd := by
  rw [line_join b h]
  refine TL.split_join (s := 32) (S := []) (by decide +kernel) (by decide +kernel) (by simp) fun p hm => ?_
  rcases List.mem_cons.mp hm with rfl | hm
  · cases b <;> decide +kernel
  · obtain ⟨n, hn, rfl⟩ := List.mem_map.mp hm
    exact wd_free (hp n hn) (by omega)
/-! signs of joined texts -/
theorem joinL_mem {S : List Nat} {c : Nat} : ∀ {ps : List (List Nat)}, c ∈ TL.joinL S ps → c ∈ S ∨ ∃ p ∈ ps, c ∈ p
  | [], h => by cases h
  | [p], h => .inr ⟨p, List.mem_cons_self .., h⟩
  | p :: q :: r, h => by
    have h' : c ∈ p ++ (S ++ TL.joinL S (q :: r)) := h
    rcases List.mem_append.mp h' with h | h
    · exact .inr ⟨p, List.mem_cons_self .., h⟩
    · rcases List.mem_append.mp h with h | h
      · exact .inl h
      · rcases joinL_mem h with h | ⟨z, hz, hc⟩
        · exact .inl h
        · exact .inr ⟨z, List.mem_cons_of_mem _ hz, hc⟩
theorem line_free (b : Bool) {v : List Int} (hp : ∀ n ∈ v, 0 ≤ n) : 10 ∉ TL.tl (lineT b v) := by
  intro h
  rw [lineT, TL.tl_append, TL.join_eq, TL.tl_join] at h
  rcases List.mem_append.mp h with h | h
  · revert h
    cases b <;> decide +kernel
  · rcases joinL_mem h with h | ⟨p, hm, hc⟩
    · revert h
      decide +kernel
    · obtain ⟨z, hz, rfl⟩ := List.mem_map.mp hm
      obtain ⟨n, hn, rfl⟩ := List.mem_map.mp hz
      exact wd_free (hp n hn) (by omega) hc
theorem lines_mem {told paper : List (List Int)} {z : Str} (h : z ∈ linesT told paper) : ∃ b v, (v ∈ told ∨ v ∈ paper) ∧ z = lineT b v := by
  rcases List.mem_append.mp h with h | h
  · obtain ⟨v, hv, rfl⟩ := List.mem_map.mp h
    exact ⟨false, v, .inl hv, rfl⟩
  · obtain ⟨v, hv, rfl⟩ := List.mem_map.mp h
    exact ⟨true, v, .inr hv, rfl⟩
theorem text_split {told paper : List (List Int)} (h : linesT told paper ≠ []) (hp : ∀ v, v ∈ told ∨ v ∈ paper → ∀ n ∈ v, 0 ≤ n) : Txt.split (textT told paper) ("\n" : Str) = linesT told paper := by
  refine TL.split_join (s := 10) (S := []) (by decide +kernel) (by decide +kernel) h fun p hm => ?_
  obtain ⟨b, v, hv, rfl⟩ := lines_mem hm
  exact line_free b (hp v hv)
/-! lengths -/
theorem joinL_len {S : List Nat} : ∀ ps : List (List Nat), (TL.joinL S ps).length ≤ (ps.map (·.length)).sum + ps.length * S.length
  | [] => Nat.zero_le _
  | [p] => by
    show p.length ≤ p.length + 0 + 1 * S.length
    omega
  | p :: q :: r => by
    have i := joinL_len (S := S) (q :: r)
    show (p ++ (S ++ TL.joinL S (q :: r))).length ≤ p.length + ((q :: r).map (·.length)).sum + ((q :: r).length + 1) * S.length
    rw [List.length_append, List.length_append, Nat.add_mul]
    omega
theorem sum_le {l : List Nat} {k : Nat} (h : ∀ n ∈ l, n ≤ k) : l.sum ≤ l.length * k := by
  induction l with
  | nil => exact Nat.zero_le _
  | cons a r ih =>
    have h1 := h a (List.mem_cons_self ..)
    have h2 := ih fun n hn => h n (List.mem_cons_of_mem _ hn)
    rw [List.sum_cons, List.length_cons, Nat.add_mul]
    omega
theorem join_len {y : Str} {ps : List Str} {k : Nat} (h : ∀ p ∈ ps, p.length ≤ k) : (Txt.join y ps).length ≤ ps.length * (k + y.length) := by
  rw [TL.join_eq, TL.len_tl, TL.tl_join]
  refine Nat.le_trans (joinL_len _) ?_
  rw [List.length_map, List.map_map, Nat.mul_add, ← TL.len_tl]
  refine Nat.add_le_add_right ?_ _
  have e := sum_le (l := ps.map (List.length ∘ TL.tl)) (k := k) fun n hn => by
    obtain ⟨p, hp, rfl⟩ := List.mem_map.mp hn
    show (TL.tl p).length ≤ k
    rw [← TL.len_tl]
    exact h p hp
  rw [List.length_map] at e
  exact e
theorem nums_len {v : List Int} (T : Tell v) : (Txt.join (" " : Str) (v.map wd)).length ≤ 168 := by
  have h := join_len (y := (" " : Str)) (ps := v.map wd) (k := 20) fun p hp => by
    obtain ⟨n, hn, rfl⟩ := List.mem_map.mp hp
    exact wd_len (T.pos n hn) (T.few n hn)
  rw [List.length_map] at h
  have e : (" " : Str).length = 1 := by decide +kernel
  rw [e] at h
  have := T.len
  omega
theorem hdS_len (b : Bool) : (hdS b).length ≤ 6 := by cases b <;> decide +kernel
theorem line_len (b : Bool) {v : List Int} (T : Tell v) : (lineT b v).length ≤ 174 := by
  rw [lineT, TL.len_tl, TL.tl_append, List.length_append, ← TL.len_tl, ← TL.len_tl]
  have := nums_len T
  have := hdS_len b
  omega
theorem lines_len {told paper : List (List Int)} : (linesT told paper).length = told.length + paper.length := by
  rw [linesT, List.length_append, List.length_map, List.length_map]
theorem text_len {told paper : List (List Int)} (T : ∀ v, v ∈ told ∨ v ∈ paper → Tell v) : (textT told paper).length ≤ (told.length + paper.length) * 175 := by
  have h := join_len (y := ("\n" : Str)) (ps := linesT told paper) (k := 174) fun p hp => by
    obtain ⟨b, v, hv, rfl⟩ := lines_mem hp
    exact line_len b (T v hv)
  have e : ("\n" : Str).length = 1 := by decide +kernel
  rw [e, lines_len] at h
  exact h
theorem joinL_ne {S p : List Nat} {ps : List (List Nat)} (h : p ≠ []) : TL.joinL S (p :: ps) ≠ [] := by
  cases ps with
  | nil => exact h
  | cons q r =>
    intro e
    exact h (List.append_eq_nil_iff.mp e).1
theorem line_ne (b : Bool) (v : List Int) : TL.tl (lineT b v) ≠ [] := by
  rw [lineT, TL.tl_append]
  intro e
  have := (List.append_eq_nil_iff.mp e).1
  revert this
  cases b <;> decide +kernel
theorem text_ne {told paper : List (List Int)} (h : linesT told paper ≠ []) : textT told paper ≠ ("" : Str) := by
  intro e
  have e' := congrArg TL.tl e
  rw [textT, TL.join_eq, TL.tl_join] at e'
  cases hl : linesT told paper with
  | nil => exact h hl
  | cons z r =>
    rw [hl] at e'
    have hz : z ∈ linesT told paper := by rw [hl]; exact List.mem_cons_self ..
    obtain ⟨b, v, _, rfl⟩ := lines_mem hz
    refine joinL_ne (line_ne b v) (e'.trans ?_)
    decide +kernel
theorem text_nil : textT [] [] = ("" : Str) := by decide +kernel
end LL
namespace LL
open PySem PySem.Spec PyProof.Rows L2
abbrev sIsFigures : Stmt := top 8
abbrev sVectorOf : Stmt := top 9
abbrev sReadPaper : Stmt := top 10
abbrev sNumbersText : Stmt := top 34
abbrev sShowPaper : Stmt := top 35
/-- the constants of the module -/
structure Cns (mg : Str → Option Value) : Prop where
  fig : ∃ u, mg "FIGURES" = some u ∧ RelV (.str ("0123456789" : Str)) u
  most : ∃ u, mg "MOST_PAPER_FIGURES" = some u ∧ RelV (.int 60) u
  width : ∃ u, mg "MOST_WIDTH" = some u ∧ RelV (.int 8) u
section
variable {P : Program} {w : World} {K : PySem.W.Frag} {mg : Str → Option Value} {base : Heap}
/-! ### is_figures -/
def spIsFigures : Sp := fun vs H Q _ => ∃ n : Int, vs = [.str (wd n), .int 60] ∧ 0 ≤ n ∧ n < 10 ^ 20 ∧ ∀ H', Same H H' → Q (.bl true) H'
theorem scIsFigures : FnScope ["word", "most", "sign"] ["word", "most"] (defScope sIsFigures) := ⟨rfl, rfl, rfl, by decide +kernel, rfl, by decide +kernel, by decide +kernel⟩
theorem fig_mem {c : Nat} (h : 48 ≤ c ∧ c ≤ 57) : c ∈ ("0123456789" : Str).cps.toList := by
  have e : ("0123456789" : Str).cps.toList = [48, 49, 50, 51, 52, 53, 54, 55, 56, 57] := by decide +kernel
  rw [e]
  simp only [List.mem_cons, List.not_mem_nil, or_false]
  omega
theorem ok_isFigures (D : Dn K mg "is_figures" sIsFigures ["word", "most"]) (B : Blt mg) (C : Cns mg) : C8.Cal P w K mg base 1 "is_figures" spIsFigures [] := by
  refine D.cal scIsFigures (fun vs H Q E h => ?_) (fun f cdv A outer s H vs Q E hr h => ?_)
  · obtain ⟨n, rfl, _⟩ := h
    rfl
  · obtain ⟨n, rfl, h0, h1, k⟩ := h
    refine ⟨_, pss_cons (ps_if (PW.pt (pw_or (pt_not (pt_chain op_le op_le pe_int (pe_callB call_len_str (by rfl) B.len PySem.boot_len (pa_cons (pv 0) pa_nil)) (pv 1)))
        (pw_or1 (pt_not (pt_val (pe_callB (cr_all rfl) (by rfl) B.all (by decide +kernel) (pa_cons
          (pe_lc (own := [("sign", 2)]) (g := gName 2) (tt := tYes) (by rfl) scIsFigures.nd (pi_str (pv 0)) (blkOk_by (N := ["word", "most", "sign"]) (sc := defScope sIsFigures) (by decide +kernel))
            (fun _ _ _ _ _ => by exact pg_name (i := 2) scIsFigures.nd rfl (Or.inl rfl)) (fun _ _ _ _ _ => pts_nil) (fun _ _ _ _ _ => by exact pe_cmpR op_in_sign (ta := tVar 2) (tb := tC (.str ("0123456789" : Str))) (pv 2) (C8.pe_gc (by rfl) C.fig) (by rfl))) pa_nil))))))) (pss_one (ps_ret pe_bl)) pss_nil)
      (pss_one (ps_ret (pe_or (pe_cmpR op_eq (pv 0) pe_str (by rfl)) (pe_one (pe_cmpR op_ne (pe_ix ix_str (pv 0) pe_int (fun _ _ => rfl)) pe_str (by rfl)))))), ?_⟩
    have hl := wd_len h0 h1
    have hne := wd_ne h0
    have hz : (wd n).length ≤ sizeLine := by rw [sizeLine_eq]; omega
    refine ⟨_, rfl, _, rfl, hz, _, _, rfl, rfl, decide ((1 : Int) ≤ ((wd n).length : Int)), rfl, ?_⟩
    rw [decide_eq_true (show (1 : Int) ≤ ((wd n).length : Int) by omega)]
    refine iteT ⟨_, rfl, _, _, rfl, rfl, decide (((wd n).length : Int) ≤ 60), rfl, ?_⟩
    rw [decide_eq_true (show ((wd n).length : Int) ≤ 60 by omega)]
    refine iteF ?_
    refine ⟨_, rfl, _, rfl, fun L hL => ?_⟩
    refine lc_vals walk_str hL (fun _ => .bl true) (fun H' s' => trivial) (by show (wd n).cps.size ≤ _; have e : (wd n).length = (wd n).cps.size := rfl; omega) (fun i u H1 H2 hi s1 yy K1 k1 => ?_) (fun H1 s1 h1 => ?_)
    · obtain ⟨rfl, c, ec, rfl⟩ := yy
      refine ⟨rfl, _, rfl, c, _, rfl, rfl, ?_⟩
      have hm : c ∈ TL.tl (wd n) := by
        have := Array.mem_of_getElem? ec
        exact Array.mem_toList_iff.mpr this
      rw [decide_eq_true (fig_mem (wd_dig h0 hm))]
      exact k1 _ (Same.refl _)
    · rw [all_true] at h1
      refine ⟨L, _, rfl, SqL.of h1, ?_⟩
      rw [all_rep]
      refine ⟨_, rfl, iteF ?_⟩
      refine ⟨_, rfl, rfl, ?_⟩
      by_cases e : wd n = ("0" : Str)
      · refine ⟨_, rfl, ?_⟩
        have e2 : decide (V.str (wd n) = V.str ("0" : Str)) = true := decide_eq_true (by rw [e])
        refine (if_pos e2).mpr ?_
        exact k _ s1
      · refine ⟨_, rfl, ?_⟩
        have e2 : ¬ decide (V.str (wd n) = V.str ("0" : Str)) = true := fun z => e (V.str.inj (of_decide_eq_true z))
        refine (if_neg e2).mpr ?_
        have h2 : 1 ≤ n := by
          rcases Int.lt_or_le 0 n with h | h
          · omega
          · exact absurd (by rw [show n = 0 by omega]; exact wd_zero) e
        have hd := wd_head h2
        cases hq : TL.tl (wd n) with
        | nil =>
          rw [TL.len_tl, hq] at hne
          exact absurd hne (by decide)
        | cons c r =>
          rw [hq] at hd
          refine ⟨_, rfl, _, _, c, rfl, rfl, hz, ?_, rfl, ?_⟩
          · show atI (TL.tl (wd n)) 0 = some c
            rw [hq]
            exact atI_nat (j := 0) rfl
          · have hc : c ≠ 48 := fun z => hd (congrArg some z)
            have e3 : decide (V.str (⟨#[c]⟩ : Str) = V.str ("0" : Str)) = false := decide_eq_false fun z => by
              have z1 : (⟨#[c]⟩ : Str).cps.toList = ("0" : Str).cps.toList := congrArg (fun y : Str => y.cps.toList) (V.str.inj z)
              have z2 : ("0" : Str).cps.toList = [48] := by decide +kernel
              rw [z2] at z1
              exact hc (List.cons.inj z1).1
            show Q (V.bl (!decide (V.str (⟨#[c]⟩ : Str) = V.str ("0" : Str)))) H1
            rw [e3]
            exact k _ s1
/-! ### vector_of -/
def wordsV (v : List Int) : List V := (v.map wd).map V.str
theorem wordsV_len (v : List Int) : (wordsV v).length = v.length := by rw [wordsV, List.length_map, List.length_map]
theorem word_at {v : List Int} {i : Nat} {u : V} (h : (wordsV v)[i]? = some u) : i < v.length ∧ u = V.str (wd (v.getD i 0)) := by
  have hi : i < v.length := by
    have := (List.getElem?_eq_some_iff.mp h).1
    rw [wordsV_len] at this
    exact this
  refine ⟨hi, ?_⟩
  have e : (wordsV v)[i]? = some (V.str (wd v[i])) := by
    rw [wordsV, List.getElem?_map, List.getElem?_map, List.getElem?_eq_getElem hi]
    rfl
  rw [h] at e
  rw [Option.some.inj e, List.getD_eq_getElem?_getD, List.getElem?_eq_getElem hi]
  rfl
def spVectorOf : Sp := fun vs H Q _ => ∃ (p : Addr) (v : List Int), vs = [.ref p] ∧ H p = some (.lst (wordsV v)) ∧ Tell v ∧ ∀ H' z, Same H H' → IsVec H' z v → Q z H'
theorem scVectorOf : FnScope ["words", "word"] ["words"] (defScope sVectorOf) := ⟨rfl, rfl, rfl, by decide +kernel, rfl, by decide +kernel, by decide +kernel⟩
theorem ok_vectorOf (D : Dn K mg "vector_of" sVectorOf ["words"]) (B : Blt mg) (C : Cns mg) (ci : C8.Cal P w K mg base 1 "is_figures" spIsFigures []) : C8.Cal P w K mg base 2 "vector_of" spVectorOf [] := by
  refine D.cal scVectorOf (fun vs H Q E h => ?_) (fun f cdv A outer s H vs Q E hr h => ?_)
  · obtain ⟨p, v, rfl, _⟩ := h
    rfl
  · obtain ⟨p, v, rfl, hp, T, k⟩ := h
    refine ⟨_, pss_cons (ps_if (PW.pt (pw_or (pt_not (pt_chain op_le op_le pe_int (pe_callB call_len_seq (by rfl) B.len PySem.boot_len (pa_cons (pv 0) pa_nil)) (C8.pe_gc (by rfl) C.width)))
        (pw_or1 (pt_not (pt_val (pe_callB (cr_all rfl) (by rfl) B.all (by decide +kernel) (pa_cons
          (pe_lc (own := [("word", 1)]) (g := gName 1) (tt := tYes) (by rfl) scVectorOf.nd (pi_list (pv 0)) (blkOk_by (N := ["words", "word"]) (sc := defScope sVectorOf) (by decide +kernel))
            (fun _ _ _ _ _ => by exact pg_name (i := 1) scVectorOf.nd rfl (Or.inl rfl)) (fun _ _ _ _ _ => pts_nil) (fun _ _ _ _ _ => by exact C8.pe_c ci hr (by decide) (by rfl) (pa_cons (pv 1) (pa_cons (C8.pe_gc (by rfl) C.most) pa_nil)))) pa_nil))))))) (pss_one (ps_ret pe_non)) pss_nil)
      (pss_one (ps_ret (pe_callTy call_tuple_of (by rfl) B.tuple (by decide +kernel) (pa_cons
          (pe_lc (own := [("word", 1)]) (g := gName 1) (tt := tYes) (by rfl) scVectorOf.nd (pi_list (pv 0)) (blkOk_by (N := ["words", "word"]) (sc := defScope sVectorOf) (by decide +kernel))
            (fun _ _ _ _ _ => by exact pg_name (i := 1) scVectorOf.nd rfl (Or.inl rfl)) (fun _ _ _ _ _ => pts_nil) (fun _ _ _ _ _ => by exact pe_callTy call_int_str (by rfl) B.int (by decide +kernel) (pa_cons (pv 1) pa_nil))) pa_nil)))), ?_⟩
    have h1 := T.one
    have h8 := T.len
    refine ⟨_, rfl, p, _, rfl, .inl (SqL.of hp), _, _, rfl, rfl, decide ((1 : Int) ≤ ((wordsV v).length : Int)), rfl, ?_⟩
    rw [wordsV_len, decide_eq_true (show (1 : Int) ≤ (v.length : Int) by omega)]
    refine iteT ⟨_, _, rfl, rfl, decide ((v.length : Int) ≤ 8), rfl, ?_⟩
    rw [decide_eq_true (show (v.length : Int) ≤ 8 by omega)]
    refine iteF ?_
    refine ⟨_, rfl, p, rfl, ⟨_, SqL.of hp⟩, fun L hL => ?_⟩
    refine lc_vals walk_list hL (fun _ => .bl true) (fun H' s' => s'.seq (SqL.of hp)) (by rw [wordsV_len]; omega) (fun i u H1 H2 hi s1 yy K1 k1 => ?_) (fun H1 s1 hL1 => ?_)
    · obtain ⟨rfl, ex⟩ := yy
      obtain ⟨hi, rfl⟩ := word_at ex
      have hm := getD_mem (d := 0) hi
      exact ⟨rfl, _, rfl, _, rfl, T.pos _ hm, T.few _ hm, k1⟩
    · rw [all_true] at hL1
      refine ⟨L, _, rfl, SqL.of hL1, ?_⟩
      rw [all_rep]
      refine ⟨_, rfl, iteF ?_⟩
      have hp1 := s1 _ _ hp
      refine ⟨_, rfl, p, rfl, ⟨_, SqL.of hp1⟩, fun M hM => ?_⟩
      refine lc_vals walk_list hM (fun i => .int (v.getD i 0)) (fun H' s' => s'.seq (SqL.of hp1)) (by rw [wordsV_len]; omega) (fun i u H2 H3 hi s2 yy K1 k1 => ?_) (fun H2 s2 hM2 => ?_)
      · obtain ⟨rfl, ex⟩ := yy
        obtain ⟨hi, rfl⟩ := word_at ex
        have hm := getD_mem (d := 0) hi
        exact ⟨rfl, _, rfl, _, _, rfl, wd_int (T.pos _ hm) (T.few _ hm), Nat.le_trans (wd_len (T.pos _ hm) (T.few _ hm)) (by decide), k1 _ (Same.refl _)⟩
      · rw [wordsV_len, map_int, map_one 0 fun n => n, List.map_id'] at hM2
        exact ⟨M, _, rfl, .inl ⟨SqL.of hM2, fun l hl => k _ _ ((s1.trans s2).trans (same_new hl)) ⟨l, rfl, upd_same⟩⟩⟩
/-! ### numbers_text -/
theorem log_few {n : Int} (h0 : 0 ≤ n) (h1 : n < 10 ^ 20) : n.natAbs.log2 < 1920 := by
  by_cases e : n.natAbs = 0
  · rw [e]
    decide
  · refine (Nat.log2_lt e).mpr (Nat.lt_of_lt_of_le (m := 10 ^ 20) (by omega) ?_)
    exact Nat.le_trans (show 10 ^ 20 ≤ 2 ^ 67 by decide) (Nat.pow_le_pow_right (by decide) (by decide))
def spNumbersText : Sp := fun vs H Q _ => ∃ (x : V) (v : List Int), vs = [x] ∧ IsVec H x v ∧ Tell v ∧ ∀ H', Same H H' → Q (.str (Txt.join (" " : Str) (v.map wd))) H'
theorem scNumbersText : FnScope ["one", "number"] ["one"] (defScope sNumbersText) := ⟨rfl, rfl, rfl, by decide +kernel, rfl, by decide +kernel, by decide +kernel⟩
theorem ok_numbersText (D : Dn K mg "numbers_text" sNumbersText ["one"]) (B : Blt mg) : C8.Cal P w K mg base 1 "numbers_text" spNumbersText [] := by
  refine D.cal scNumbersText (fun vs H Q E h => ?_) (fun f cdv A outer s H vs Q E hr h => ?_)
  · obtain ⟨x, v, rfl, _⟩ := h
    rfl
  · obtain ⟨x, v, rfl, ⟨p, rfl, hp⟩, T, k⟩ := h
    refine ⟨_, pss_one (ps_ret (pe_join pe_str
          (pe_lc (own := [("number", 1)]) (g := gName 1) (tt := tYes) (by rfl) scNumbersText.nd (pi_tup (pv 0)) (blkOk_by (N := ["one", "number"]) (sc := defScope sNumbersText) (by decide +kernel))
            (fun _ _ _ _ _ => by exact pg_name (i := 1) scNumbersText.nd rfl (Or.inl rfl)) (fun _ _ _ _ _ => pts_nil) (fun _ _ _ _ _ => by exact pe_callTy call_str_int (by rfl) B.str (by decide +kernel) (pa_cons (pv 1) pa_nil))))), ?_⟩
    have h8 := T.len
    refine ⟨⟨_, rfl⟩, _, rfl, p, rfl, ⟨_, SqT.of hp⟩, fun L hL => ?_⟩
    refine lc_vals walk_tup hL (fun i => .str (wd (v.getD i 0))) (fun H' s' => s'.tup (SqT.of hp)) (by rw [List.length_map]; omega) (fun i u H1 H2 hi s1 yy K1 k1 => ?_) (fun H1 s1 h1 => ?_)
    · obtain ⟨rfl, ex⟩ := yy
      obtain ⟨hi, rfl⟩ := int_at ex
      have hm := getD_mem (d := 0) hi
      exact ⟨rfl, _, rfl, _, rfl, log_few (T.pos _ hm) (T.few _ hm), k1 _ (Same.refl _)⟩
    · rw [List.length_map, map_one 0 fun n => V.str (wd n)] at h1
      refine ⟨_, L, v.map wd, rfl, rfl, .inl (SqL.of (by rw [h1, List.map_map]; rfl)), ?_, k _ s1⟩
      have z := sum_le (l := (v.map wd).map (·.length)) (k := 20) fun n hn => by
        obtain ⟨y, hy, rfl⟩ := List.mem_map.mp hn
        obtain ⟨m, hm, rfl⟩ := List.mem_map.mp hy
        exact wd_len (T.pos _ hm) (T.few _ hm)
      have e : (" " : Str).length = 1 := by decide +kernel
      rw [List.length_map, List.length_map] at z
      rw [e, List.length_map]
      omega
/-! ### show_paper -/
def spShowPaper : Sp := fun vs H Q _ => ∃ (xt xp : V) (told paper : List (List Int)), vs = [xt, xp] ∧ IsVecT H xt told ∧ IsVecT H xp paper ∧ (∀ v, v ∈ told ∨ v ∈ paper → Tell v) ∧ told.length ≤ 1000 ∧ paper.length ≤ 1000 ∧ ∀ H', Same H H' → Q (.str (textT told paper)) H'
theorem scShowPaper : FnScope ["told", "paper", "lines", "one"] ["told", "paper"] (defScope sShowPaper) := ⟨rfl, rfl, rfl, by decide +kernel, rfl, by decide +kernel, by decide +kernel⟩
theorem ok_showPaper (D : Dn K mg "show_paper" sShowPaper ["told", "paper"]) (B : Blt mg) (cn : C8.Cal P w K mg base 1 "numbers_text" spNumbersText []) : C8.Cal P w K mg base 2 "show_paper" spShowPaper [] := by
  refine D.cal scShowPaper (fun vs H Q E h => ?_) (fun f cdv A outer s H vs Q E hr h => ?_)
  · obtain ⟨xt, xp, told, paper, rfl, _⟩ := h
    rfl
  · obtain ⟨xt, xp, told, paper, rfl, ⟨t, ts, rfl, ht, htv⟩, ⟨q, qs, rfl, hq, hqv⟩, T, hn, hm, k⟩ := h
    refine ⟨_, pss_cons (ps_setLc (i := 2) (own := [("one", 3)]) (g := gName 3) (tt := tYes) rfl scShowPaper.nd rfl rfl (sw_true rfl rfl rfl (by decide +kernel)) (pi_tup (pv 0))
          (blkOk_by (N := ["told", "paper", "lines", "one"]) (sc := defScope sShowPaper) (by decide +kernel))
          (fun _ _ _ _ _ => by exact pg_name (i := 3) scShowPaper.nd rfl (Or.inl rfl)) (fun _ _ _ _ _ => pts_nil) (fun _ _ _ _ _ => by exact pe_op op_add_str pe_str (C8.pe_c cn hr (by decide) (by rfl) (pa_cons (pv 3) pa_nil))))
      (pss_one (ps_ret (pe_join pe_str (pe_op op_cat (pv 2)
          (pe_lc (own := [("one", 3)]) (g := gName 3) (tt := tYes) (by rfl) scShowPaper.nd (pi_tup (pv 1)) (blkOk_by (N := ["told", "paper", "lines", "one"]) (sc := defScope sShowPaper) (by decide +kernel))
            (fun _ _ _ _ _ => by exact pg_name (i := 3) scShowPaper.nd rfl (Or.inl rfl)) (fun _ _ _ _ _ => pts_nil) (fun _ _ _ _ _ => by exact pe_op op_add_str pe_str (C8.pe_c cn hr (by decide) (by rfl) (pa_cons (pv 3) pa_nil)))))))), ?_⟩
    have lt := plen htv
    have lq := plen hqv
    refine ⟨_, rfl, t, rfl, ⟨_, SqT.of ht⟩, fun L hL => ?_⟩
    refine lc_vals walk_tup hL (fun i => .str (lineT false (told.getD i []))) (fun H' s' => s'.tup (SqT.of ht)) (by omega) (fun i u H1 H2 hi s1 yy K1 k1 => ?_) (fun H1 s1 h1 => ?_)
    · obtain ⟨rfl, ex⟩ := yy
      obtain ⟨hu, hm⟩ := vec_at (htv.same s1) ex
      have Tu := T _ (.inl hm)
      refine ⟨rfl, _, rfl, _, _, rfl, hu, Tu, fun H3 s3 => ⟨_, _, rfl, rfl, ?_, k1 _ s3⟩⟩
      have := nums_len Tu
      have := hdS_len false
      have e : ("least " : Str).length = 6 := by decide +kernel
      rw [e, sizeLine_eq]
      omega
    · rw [lt, map_one [] fun v => V.str (lineT false v)] at h1
      refine ⟨⟨_, rfl⟩, _, rfl, _, rfl, q, rfl, ⟨_, SqT.of (s1 _ _ hq)⟩, fun M hM => ?_⟩
      refine lc_vals walk_tup hM (fun i => .str (lineT true (paper.getD i []))) (fun H' s' => s'.tup (SqT.of (s1 _ _ hq))) (by omega) (fun i u H2 H3 hi s2 yy K1 k1 => ?_) (fun H2 s2 h2 => ?_)
      · obtain ⟨rfl, ex⟩ := yy
        obtain ⟨hu, hm⟩ := vec_at (hqv.same (s1.trans s2)) ex
        have Tu := T _ (.inr hm)
        refine ⟨rfl, _, rfl, _, _, rfl, hu, Tu, fun H3 s3 => ⟨_, _, rfl, rfl, ?_, k1 _ s3⟩⟩
        have := nums_len Tu
        have e : ("step " : Str).length = 5 := by decide +kernel
        rw [e, sizeLine_eq]
        omega
      · rw [lq, map_one [] fun v => V.str (lineT true v)] at h2
        refine ⟨L, M, _, _, rfl, rfl, s2 _ _ h1, h2, by rw [List.length_map, List.length_map, sizeLine_eq]; omega, fun N hN => ?_⟩
        refine ⟨_, N, linesT told paper, rfl, rfl, .inl (SqL.of (by rw [upd_same, linesT, List.map_append, List.map_map, List.map_map]; rfl)), ?_, k _ ((s1.trans s2).trans (same_new hN))⟩
        have z := sum_le (l := (linesT told paper).map (·.length)) (k := 174) fun n hn => by
          obtain ⟨y, hy, rfl⟩ := List.mem_map.mp hn
          obtain ⟨b, v, hv, rfl⟩ := lines_mem hy
          exact line_len b (T v hv)
        have e : ("\n" : Str).length = 1 := by decide +kernel
        rw [List.length_map, lines_len] at z
        rw [e, lines_len]
        omega
end
end LL
namespace LL
open PySem PySem.Spec PyProof.Rows L2
/-! ### read_paper -/
/-- the two lists by their names -/
def fdK (a b : Addr) : List (L2.Key × V) := [(.inr ("least" : Str), .ref a), (.inr ("step" : Str), .ref b)]
theorem fdK_at (a b : Addr) (c : Bool) : valV (fdK a b) (.inr (hdT c)) = some (.ref (if c then b else a)) := by
  cases c with
  | false => exact valV_pos rfl
  | true =>
    refine (valV_neg (fun e => ?_)).trans (valV_pos rfl)
    have := Sum.inr.inj e
    revert this
    decide +kernel
theorem fdK_get {H : Hp} {d a b : Addr} (c : Bool) (h : H d = some (.dK (fdK a b))) : DGet H d (.str (hdT c)) (some (.ref (if c then b else a))) :=
  .inl ⟨_, .inr (hdT c), .inl h, rfl, (fdK_at a b c).symm⟩
theorem fdK_merge (a b : Addr) : mergeK [] [((.inr ("least" : Str) : L2.Key), V.ref a), (.inr ("step" : Str), V.ref b)] = fdK a b := by
  have n : ¬ ((.inr ("least" : Str) : L2.Key) = .inr ("step" : Str)) := fun e => by
    have := Sum.inr.inj e
    revert this
    decide +kernel
  simp [mergeK, putK, fdK, n]
/-- the line at i -/
theorem line_at {told paper : List (List Int)} {i : Nat} {z : V} (h : ((linesT told paper).map V.str)[i]? = some z) :
    (∃ v, told[i]? = some v ∧ z = .str (lineT false v)) ∨ (told.length ≤ i ∧ ∃ v, paper[i - told.length]? = some v ∧ z = .str (lineT true v)) := by
  rw [List.getElem?_map, linesT] at h
  obtain ⟨x, hx, rfl⟩ := Option.map_eq_some_iff.mp h
  by_cases e : i < told.length
  · rw [List.getElem?_append_left (by rw [List.length_map]; exact e), List.getElem?_map] at hx
    obtain ⟨v, hv, rfl⟩ := Option.map_eq_some_iff.mp hx
    exact .inl ⟨v, hv, rfl⟩
  · rw [List.getElem?_append_right (by rw [List.length_map]; omega), List.length_map, List.getElem?_map] at hx
    obtain ⟨v, hv, rfl⟩ := Option.map_eq_some_iff.mp hx
    exact .inr ⟨by omega, v, hv, rfl⟩
/-- where the reader stands -/
structure RdAt (H0 H : Hp) (d l a b : Addr) (told paper ts ps : List (List Int)) : Prop where
  same : Same H0 H
  fnd : H d = some (.dK (fdK a b))
  lns : H l = some (.lst ((linesT told paper).map V.str))
  na : H0 a = none
  nb : H0 b = none
  ab : a ≠ b
  al : l ≠ a
  bl : l ≠ b
  vec : ∃ xs ys, H a = some (.lst xs) ∧ H b = some (.lst ys) ∧ Vecs H xs ts ∧ Vecs H ys ps
theorem RdAt.later {H0 H H' : Hp} {d l a b : Addr} {told paper ts ps : List (List Int)} (R : RdAt H0 H d l a b told paper ts ps) (s : Same H H') : RdAt H0 H' d l a b told paper ts ps :=
  let ⟨xs, ys, h1, h2, h3, h4⟩ := R.vec
  ⟨R.same.trans s, s _ _ R.fnd, s _ _ R.lns, R.na, R.nb, R.ab, R.al, R.bl, xs, ys, s _ _ h1, s _ _ h2, h3.same s, h4.same s⟩
def snocIf (c : Bool) (l : List (List Int)) (v : List Int) : List (List Int) := if c then l ++ [v] else l
theorem RdAt.put {H0 H : Hp} {d l a b : Addr} {told paper ts ps : List (List Int)} {z : V} {v : List Int} (R : RdAt H0 H d l a b told paper ts ps) (hz : IsVec H z v) (c : Bool) :
    ∃ xs, H (if c then b else a) = some (.lst xs) ∧ xs.length = (if c then ps else ts).length ∧ RdAt H0 (upd H (if c then b else a) (.lst (xs ++ [z]))) d l a b told paper (snocIf (!c) ts v) (snocIf c ps v) := by
  obtain ⟨xs, ys, h1, h2, h3, h4⟩ := R.vec
  have hd1 : d ≠ a := fun e => by
    have := R.fnd
    rw [e, h1] at this
    cases this
  have hd2 : d ≠ b := fun e => by
    have := R.fnd
    rw [e, h2] at this
    cases this
  cases c with
  | false =>
    refine ⟨xs, h1, plen h3, ?_⟩
    have up : TupS H (upd H a (.lst (xs ++ [z]))) := tups_lst h1
    exact ⟨same_mut R.same R.na, (upd_ne hd1).trans R.fnd, (upd_ne R.al).trans R.lns, R.na, R.nb, R.ab, R.al, R.bl, xs ++ [z], ys, upd_same, (upd_ne (Ne.symm R.ab)).trans h2, psnoc (h3.tups up) (hz.tups up), h4.tups up⟩
  | true =>
    refine ⟨ys, h2, plen h4, ?_⟩
    have up : TupS H (upd H b (.lst (ys ++ [z]))) := tups_lst h2
    exact ⟨same_mut R.same R.nb, (upd_ne hd2).trans R.fnd, (upd_ne R.bl).trans R.lns, R.na, R.nb, R.ab, R.al, R.bl, xs, ys ++ [z], (upd_ne R.ab).trans h1, upd_same, h3.tups up, psnoc (h4.tups up) (hz.tups up)⟩
section
variable {P : Program} {w : World} {K : PySem.W.Frag} {mg : Str → Option Value} {base : Heap}
def spReadPaper : Sp := fun vs H Q _ => ∃ (told paper : List (List Int)) (d : Nat), vs = [.str (textT told paper)] ∧ (∀ v, v ∈ told ∨ v ∈ paper → Tell v ∧ v.length = d) ∧ told.length ≤ 1000 ∧ paper.length ≤ 1000 ∧ ∀ H' z, Same H H' → IsFound H' z told paper → Q z H'
theorem scReadPaper : FnScope ["text", "found", "lines", "width", "place", "line", "words", "one"] ["text"] (defScope sReadPaper) := ⟨rfl, rfl, rfl, by decide +kernel, rfl, by decide +kernel, by decide +kernel⟩
theorem ok_readPaper (D : Dn K mg "read_paper" sReadPaper ["text"]) (B : Blt mg) (cv : C8.Cal P w K mg base 2 "vector_of" spVectorOf []) : C8.Cal P w K mg base 3 "read_paper" spReadPaper [] := by
  refine D.cal scReadPaper (fun vs H Q E h => ?_) (fun f cdv A outer s H vs Q E hr h => ?_)
  · obtain ⟨told, paper, d, rfl, _⟩ := h
    rfl
  · obtain ⟨told, paper, wd0, rfl, T, hn, hm, k⟩ := h
    have hu := hu_of hr
    refine ⟨_, pss_cons (ps_set (i := 1) scReadPaper.nd rfl (Or.inl rfl) (pe_disp (pps_cons pe_str (pe_lst pa_nil) (pps_cons pe_str (pe_lst pa_nil) pps_nil)) rfl rfl (by simp) (by decide)))
      (pss_cons (ps_set (i := 2) scReadPaper.nd rfl (Or.inl rfl) (pe_lst pa_nil))
      (C8.pss_cut (ps_if (pt_cmpR op_ne (pv 0) pe_str (nomark _)) (pss_one (ps_set (i := 2) scReadPaper.nd rfl (Or.inl rfl) (pe_split (pv 0) pe_str))) pss_nil)
      (pss_cons (ps_set (i := 3) scReadPaper.nd rfl (Or.inl rfl) pe_non)
      (pss_cons (ps_for PassesOwn.never rfl (pi_enum (by rfl) B.enumerate (pa_cons (pv 2) pa_nil)) (pg_tup rfl (pgs_cons (pg_name (i := 4) scReadPaper.nd rfl (Or.inl rfl)) (pgs_cons (pg_name (i := 5) scReadPaper.nd rfl (Or.inl rfl)) pgs_nil)))
        (pss_cons (ps_set (i := 6) scReadPaper.nd rfl (Or.inl rfl) (pe_split (pv 5) pe_str))
        (pss_cons (ps_set (i := 7) scReadPaper.nd rfl (Or.inl rfl) (C8.pe_c cv hr (by decide) (by rfl) (pa_cons (pe_slice sl_list (pv 6) (po_some pe_int) po_none) pa_nil)))
        (C8.pss_cut (ps_if (PW.pt (pw_or (pt_cmp (pc_dnotin hu (pe_ix ix_list (pv 6) pe_int (fun _ _ => rfl)) (pv 1))) (pw_or (pt_cmpR op_isN (pv 7) pe_non (nomark _))
            (pw_or1 (PW.pt (pw_and (pt_cmpR op_notN (pv 3) pe_non (nomark _)) (pw_and1 (pt_cmpR op_ne (pe_callB call_len_seq (by rfl) B.len PySem.boot_len (pa_cons (pv 7) pa_nil)) (pv 3) (nomark _)))))))))
          (pss_one ps_never) pss_nil)
        (C8.pss_cut (ps_if (PW.pt (pw_and (pt_cmpR op_eq (pe_ix ix_list (pv 6) pe_int (fun _ _ => rfl)) pe_str (nomark _)) (pw_and1 (pt_cmpR (op_neD hr.units) (pe_dget hu (pv 1) pe_str (fun _ _ => rfl)) (pe_lst pa_nil) (nomark _)))))
          (pss_one ps_never) pss_nil)
        (pss_cons (ps_set (i := 3) scReadPaper.nd rfl (Or.inl rfl) (pe_callB call_len_seq (by rfl) B.len PySem.boot_len (pa_cons (pv 7) pa_nil)))
        (pss_one (ps_expr (pe_bm PySem.F.plainAttrs_list PySem.F.slot_list_append PySem.F.type_list_append mt_append (pe_dget hu (pv 1) (pe_ix ix_list (pv 6) pe_int (fun _ _ => rfl)) (fun _ _ => rfl)) (pa_cons (pv 7) pa_nil))))))))))
      (pss_one (ps_ret (pe_tup (pa_cons (pe_callTy call_tuple_of (by rfl) B.tuple (by decide +kernel) (pa_cons (pe_dget hu (pv 1) pe_str (fun _ _ => rfl)) pa_nil))
        (pa_cons (pe_callTy call_tuple_of (by rfl) B.tuple (by decide +kernel) (pa_cons (pe_dget hu (pv 1) pe_str (fun _ _ => rfl)) pa_nil)) pa_nil))))))))), ?_⟩
    refine fun d nd => ⟨Nat.zero_le _, fun a na => ⟨Nat.zero_le _, fun b nb => ⟨?_, [(.inr ("least" : Str), .ref a), (.inr ("step" : Str), .ref b)], rfl, by show 2 ≤ 15; decide, ?_⟩⟩⟩
    · have ab : a ≠ b := fun e => by
        rw [← e, upd_same] at nb
        cases nb
      have da : d ≠ a := fun e => by
        rw [← e, upd_same] at na
        cases na
      have db : d ≠ b := fun e => by
        rw [← e, upd_ne da, upd_same] at nb
        cases nb
      rw [upd_ne db, upd_ne da, upd_same]
    · have ab : a ≠ b := fun e => by
        rw [← e, upd_same] at nb
        cases nb
      have da : d ≠ a := fun e => by
        rw [← e, upd_same] at na
        cases na
      have db : d ≠ b := fun e => by
        rw [← e, upd_ne da, upd_same] at nb
        cases nb
      rw [fdK_merge]
      have na0 : H a = none := by
        rw [upd_ne (Ne.symm da)] at na
        exact na
      have nb0 : H b = none := by
        rw [upd_ne (Ne.symm ab), upd_ne (Ne.symm db)] at nb
        exact nb
      have s4 : Same H (upd (upd (upd (upd H d (.dK [])) a (.lst [])) b (.lst [])) d (.dK (fdK a b))) := same_mut (same_mut (same_mut (same_new nd) na0) nb0) nd
      have e4 : (upd (upd (upd (upd H d (.dK [])) a (.lst [])) b (.lst [])) d (.dK (fdK a b))) d = some (.dK (fdK a b)) := upd_same
      have e5 : (upd (upd (upd (upd H d (.dK [])) a (.lst [])) b (.lst [])) d (.dK (fdK a b))) a = some (.lst []) := by
        rw [upd_ne (Ne.symm da), upd_ne ab, upd_same]
      have e6 : (upd (upd (upd (upd H d (.dK [])) a (.lst [])) b (.lst [])) d (.dK (fdK a b))) b = some (.lst []) := by
        rw [upd_ne (Ne.symm db), upd_same]
      generalize upd (upd (upd (upd H d (.dK [])) a (.lst [])) b (.lst [])) d (.dK (fdK a b)) = H4 at *
      refine ⟨Nat.zero_le _, fun l0 nl0 => ?_⟩
      have sl := same_new (o := .lst []) nl0
      have new_ne : ∀ {Hx : Hp} {q : Addr}, Hx q = none → Same H4 Hx → q ≠ a ∧ q ≠ b := fun {Hx q} hq hs => ⟨fun e => (by rw [e, hs _ _ e5] at hq; cases hq), fun e => (by rw [e, hs _ _ e6] at hq; cases hq)⟩
      refine ⟨fun σ' H' => ∃ l, σ' = [some (.str (textT told paper)), some (.ref d), some (.ref l), none, none, none, none, none] ∧ RdAt H H' d l a b told paper [] [], ?_, ?_⟩
      · refine ⟨_, rfl, rfl, _, rfl, ?_⟩
        by_cases e : linesT told paper = []
        · have et : told = [] ∧ paper = [] := by
            have z := congrArg List.length e
            rw [lines_len] at z
            have z' : told.length + paper.length = 0 := z
            exact ⟨List.eq_nil_of_length_eq_zero (by omega), List.eq_nil_of_length_eq_zero (by omega)⟩
          obtain ⟨rfl, rfl⟩ := et
          have e2 : (!decide (V.str (textT [] []) = V.str ("" : Str))) = false := by
            rw [text_nil, decide_eq_true rfl]
            rfl
          refine ite2 (fun z => ?_) (fun z => ?_)
          · rw [e2] at z
            cases z
          · exact ⟨l0, rfl, s4.trans sl, sl _ _ e4, upd_same, na0, nb0, ab, (new_ne nl0 (Same.refl _)).1, (new_ne nl0 (Same.refl _)).2, [], [], sl _ _ e5, sl _ _ e6, .nil, .nil⟩
        · have e2 : (!decide (V.str (textT told paper) = V.str ("" : Str))) = true := by
            rw [decide_eq_false fun z => text_ne e (V.str.inj z)]
            rfl
          refine ite2 (fun z => ?_) (fun z => absurd e2 z)
          have hlen := text_len (told := told) (paper := paper) fun v hv => (T v hv).1
          have hle := Nat.mul_le_mul_right 175 (show told.length + paper.length ≤ 2000 by omega)
          refine ⟨_, rfl, ⟨_, rfl⟩, _, _, rfl, rfl, by decide +kernel, by rw [sizeLine_eq]; omega, fun p np => ?_⟩
          rw [text_split e fun v hv => (T v hv).1.pos]
          have sp := same_new (o := .lst ((linesT told paper).map V.str)) np
          have sq := sl.trans sp
          exact ⟨p, rfl, s4.trans sq, sq _ _ e4, upd_same, na0, nb0, ab, (new_ne np sl).1, (new_ne np sl).2, [], [], sq _ _ e5, sq _ _ e6, .nil, .nil⟩
      · rintro σ' H1 ⟨l, rfl, R⟩
        refine ⟨_, rfl, l, _, rfl, SqL.of R.lns, for_it walk_enum (fun i σ H' => ∃ v3 v4 v5 v6 v7, σ = [some (.str (textT told paper)), some (.ref d), some (.ref l), some v3, v4, v5, v6, v7] ∧ (v3 = .non ∨ v3 = .int (wd0 : Int)) ∧
            RdAt H H' d l a b told paper (told.take i) (paper.take (i - told.length))) ⟨.non, none, none, none, none, rfl, .inl rfl, by rw [List.take_zero, Nat.zero_sub, List.take_zero]; exact R⟩ (fun i σ H' _ ⟨_, _, _, _, _, _, _, R'⟩ => SqL.of R'.lns) (fun i x σ H2 H3 hi hP y => ?_) (fun σ H' hP => ?_)⟩
        · obtain ⟨v3, v4, v5, v6, v7, rfl, hv3, R2⟩ := hP
          obtain ⟨T1, z1, x1, rfl, nT, rfl, e1, ex⟩ := y
          have e1' := Option.some.inj e1
          subst e1'
          have sT := same_new (o := .tup [V.int (i : Int), x1]) nT
          have R3 := R2.later sT
          have line : ∃ (c : Bool) (v : List Int), x1 = .str (lineT c v) ∧ (v ∈ told ∨ v ∈ paper) ∧ told.take (i + 1) = snocIf (!c) (told.take i) v ∧ paper.take (i + 1 - told.length) = snocIf c (paper.take (i - told.length)) v ∧ (c = false → paper.take (i - told.length) = []) := by
            rcases line_at ex with ⟨v, hv, rfl⟩ | ⟨hl, v, hv, rfl⟩
            · have hi1 := (List.getElem?_eq_some_iff.mp hv).1
              refine ⟨false, v, rfl, .inl (List.mem_of_getElem? hv), take_snoc hv, ?_, fun _ => ?_⟩
              · rw [show i + 1 - told.length = i - told.length by omega]
                rfl
              · rw [show i - told.length = 0 by omega, List.take_zero]
            · refine ⟨true, v, rfl, .inr (List.mem_of_getElem? hv), ?_, ?_, fun z => by cases z⟩
              · rw [List.take_of_length_le (by omega), List.take_of_length_le hl]
                rfl
              · rw [show i + 1 - told.length = i - told.length + 1 by omega]
                exact take_snoc hv
          obtain ⟨c, v, rfl, hv, et, ep, e0⟩ := line
          obtain ⟨Tv, lv⟩ := T v hv
          have hne : v ≠ [] := fun z => by
            have := Tv.one
            rw [z] at this
            exact absurd this (by decide)
          refine ⟨T1, _, rfl, SqT.of upd_same, rfl, _, _, rfl, _, _, rfl, rfl, ?_⟩
          refine ⟨_, rfl, ⟨_, rfl⟩, _, _, rfl, rfl, by decide +kernel, by have := line_len c Tv; rw [sizeLine_eq]; omega, fun p np => ?_⟩
          rw [line_split c hne Tv.pos]
          have sp := same_new (o := .lst ((hdT c :: v.map wd).map V.str)) np
          have hp : (upd (upd H2 T1 (.tup [V.int (i : Int), .str (lineT c v)])) p (.lst ((hdT c :: v.map wd).map V.str))) p = some (.lst (.str (hdT c) :: wordsV v)) := upd_same
          have R4 := R3.later sp
          generalize upd (upd H2 T1 (.tup [V.int (i : Int), .str (lineT c v)])) p (.lst ((hdT c :: v.map wd).map V.str)) = H4 at *
          refine ⟨_, rfl, _, rfl, p, _, rfl, SqL.of hp, fun q nq => ?_⟩
          have sq := same_new (o := .lst (cutV (.str (hdT c) :: wordsV v) (some 1) none)) nq
          have ec : cutV (V.str (hdT c) :: wordsV v) (some 1) none = wordsV v := cut_from (V.str (hdT c) :: wordsV v) (j := 1) (by rw [List.length_cons]; omega)
          have hq : (upd H4 q (.lst (cutV (.str (hdT c) :: wordsV v) (some 1) none))) q = some (.lst (wordsV v)) := by rw [upd_same, ec]
          have R5 := R4.later sq
          have hp5 := sq _ _ hp
          generalize upd H4 q (.lst (cutV (.str (hdT c) :: wordsV v) (some 1) none)) = H5 at *
          refine ⟨q, v, rfl, hq, Tv, fun H6 z s6 hz => ?_⟩
          have R6 := R5.later s6
          have hp6 := s6 _ _ hp5
          clear R5 R4 R3 R2
          refine ⟨fun σ' H' => σ' = [some (.str (textT told paper)), some (.ref d), some (.ref l), some v3, some (.int (i : Int)), some (.str (lineT c v)), some (.ref p), some z] ∧ H' = H6, ?_, ?_⟩
          · refine ⟨_, rfl, p, _, _, _, rfl, rfl, SqL.of hp6, atI_nat (j := 0) rfl, _, rfl, d, _, rfl, fdK_get c R6.fnd, _, rfl, iteF ?_⟩
            obtain ⟨q2, rfl, hq2⟩ := id hz
            refine ⟨_, rfl, rfl, _, rfl, iteF ?_⟩
            refine ⟨_, rfl, rfl, _, rfl, ?_⟩
            rcases hv3 with rfl | rfl
            · refine iteF (iteF ?_)
              exact ⟨rfl, rfl⟩
            · refine iteT ?_
              refine ⟨_, rfl, q2, _, rfl, .inr (SqT.of hq2), _, rfl, rfl, _, rfl, ?_⟩
              have el : V.int ((v.map V.int).length : Int) = V.int (wd0 : Int) := by rw [List.length_map, lv]
              refine iteNS el ?_
              exact ⟨rfl, rfl⟩
          · rintro σ' H7 ⟨rfl, rfl⟩
            refine ⟨fun σ' H' => σ' = [some (.str (textT told paper)), some (.ref d), some (.ref l), some v3, some (.int (i : Int)), some (.str (lineT c v)), some (.ref p), some z] ∧ Same H7 H', ?_, ?_⟩
            · refine ⟨_, rfl, p, _, _, _, rfl, rfl, SqL.of hp6, atI_nat (j := 0) rfl, rfl, _, rfl, ?_⟩
              cases c with
              | true =>
                have e2 : decide (V.str (hdT true) = V.str ("least" : Str)) = false := by decide +kernel
                refine ite2 (fun z => ?_) (fun _ => ?_)
                · rw [e2] at z
                  cases z
                · exact iteF ⟨rfl, Same.refl _⟩
              | false =>
                have e2 : decide (V.str (hdT false) = V.str ("least" : Str)) = true := by decide +kernel
                refine ite2 (fun _ => ?_) (fun z => absurd e2 z)
                refine ⟨_, rfl, d, _, rfl, fdK_get true R6.fnd, ?_⟩
                refine ⟨Nat.zero_le _, fun q2 nq2 => ?_⟩
                have sq2 := same_new (o := .lst []) nq2
                obtain ⟨xs, ys, g1, g2, g3, g4⟩ := R6.vec
                have ly := plen g4
                rw [e0 rfl] at ly
                have ey : ys = [] := List.eq_nil_of_length_eq_zero ly
                subst ey
                exact ⟨_, _, .lst (SqL.of (sq2 _ _ g2)) .nil, .lst (SqL.of upd_same) .nil, rfl, rfl, _, rfl, iteF ⟨rfl, sq2⟩⟩
            · rintro σ' H8 ⟨rfl, s8⟩
              have R8 := R6.later s8
              have hp8 := s8 _ _ hp6
              have hz8 := hz.same s8
              obtain ⟨q2, rfl, hq2⟩ := id hz8
              refine ⟨_, rfl, q2, _, rfl, .inr (SqT.of hq2), ?_⟩
              obtain ⟨xs, g1, g2, R9⟩ := R8.put hz8 c
              have hxl : xs.length ≤ 1000 := by
                rw [g2]
                have h1 : (told.take i).length ≤ told.length := by rw [List.length_take]; omega
                have h2 : (paper.take (i - told.length)).length ≤ paper.length := by rw [List.length_take]; omega
                cases c
                · exact Nat.le_trans h1 hn
                · exact Nat.le_trans h2 hm
              refine ⟨_, rfl, _, rfl, p, _, _, _, rfl, rfl, SqL.of hp8, atI_nat (j := 0) rfl, d, _, rfl, fdK_get c R8.fnd, .inl ⟨rfl, _, SqL.of g1⟩, _, rfl, _, xs, _, rfl, rfl, g1, by rw [sizeLine_eq]; omega, ?_⟩
              refine ⟨_, _, _, _, _, rfl, .inr (by rw [List.length_map, lv]), ?_⟩
              rw [et, ep]
              exact R9
        · obtain ⟨v3, v4, v5, v6, v7, rfl, hv3, R2⟩ := hP
          rw [List.length_map, lines_len, List.take_of_length_le (by omega), List.take_of_length_le (by omega)] at R2
          obtain ⟨xs, ys, g1, g2, g3, g4⟩ := R2.vec
          refine ⟨_, rfl, d, _, rfl, fdK_get false R2.fnd, _, _, rfl, .inl ⟨SqL.of g1, fun t1 n1 => ?_⟩⟩
          have s1 := same_new (o := .tup xs) n1
          refine ⟨_, rfl, d, _, rfl, fdK_get true (s1 _ _ R2.fnd), _, _, rfl, .inl ⟨SqL.of (s1 _ _ g2), fun t2 n2 => ?_⟩⟩
          have s2 := same_new (o := .tup ys) n2
          refine ⟨by show 2 ≤ sizeLine; decide, fun t3 n3 => ?_⟩
          have s3 := same_new (o := .tup [V.ref t1, .ref t2]) n3
          have s12 := s1.trans s2
          refine k _ _ (R2.same.trans (s12.trans s3)) ⟨t3, _, _, rfl, upd_same, ⟨t1, xs, rfl, ?_, g3.same (s12.trans s3)⟩, ⟨t2, ys, rfl, ?_, g4.same (s12.trans s3)⟩⟩
          · exact (s2.trans s3) _ _ upd_same
          · exact s3 _ _ upd_same
end
end LL
namespace LL
open PySem PySem.Spec PyProof.Rows L2
abbrev sLPot : Stmt := top 37
abbrev sLTake : Stmt := top 38
/-! ### the law's own part: the pot -/
/-- all but what stands at p and l -/
def PS (p l : Addr) (H H' : Hp) : Prop := ∀ b o, b ≠ p → b ≠ l → H b = some o → H' b = some o
theorem PS.refl {p l : Addr} (H : Hp) : PS p l H H := fun _ _ _ _ h => h
theorem PS.trans {p l : Addr} {H H1 H2 : Hp} (a : PS p l H H1) (b : PS p l H1 H2) : PS p l H H2 := fun c o h1 h2 h => b c o h1 h2 (a c o h1 h2 h)
theorem PS.of {p l : Addr} {H H' : Hp} (s : Same H H') : PS p l H H' := fun b o _ _ h => s b o h
theorem PS.then_ {p l : Addr} {H H1 H2 : Hp} (a : PS p l H H1) (s : Same H1 H2) : PS p l H H2 := a.trans (.of s)
theorem PS.atP {p l : Addr} {H H' : Hp} (a : PS p l H H') {o : HO} : PS p l H (upd H' p o) := fun b x h1 h2 h => by
  rw [upd_ne h1]
  exact a b x h1 h2 h
theorem PS.atL {p l : Addr} {H H' : Hp} (a : PS p l H H') {o : HO} : PS p l H (upd H' l o) := fun b x h1 h2 h => by
  rw [upd_ne h2]
  exact a b x h1 h2 h
/-- the pot at p, its numbers' list at l; it was asked at most n times for a number of its own -/
structure PotAt (H : Hp) (p l : Addr) (n : Nat) : Prop where
  ne : p ≠ l
  val : ∃ (zs : List Int) (t : Int) (c : Nat), H p = some (.lst [.ref l, .int t, .int (c : Int)]) ∧ H l = some (.lst (zs.map V.int)) ∧ 0 ≤ t ∧ t < 2 ^ 61 ∧ c ≤ n
theorem PotAt.same {H H' : Hp} {p l : Addr} {n : Nat} (h : PotAt H p l n) (s : Same H H') : PotAt H' p l n :=
  let ⟨zs, t, c, h1, h2, h3⟩ := h.val; ⟨h.ne, zs, t, c, s _ _ h1, s _ _ h2, h3⟩
theorem PotAt.le {H : Hp} {p l : Addr} {n m : Nat} (h : PotAt H p l n) (e : n ≤ m) : PotAt H p l m :=
  let ⟨zs, t, c, h1, h2, h3, h4, h5⟩ := h.val; ⟨h.ne, zs, t, c, h1, h2, h3, h4, Nat.le_trans h5 e⟩
theorem PotAt.tups {H H' : Hp} {p l : Addr} {n : Nat} (h : PotAt H p l n) (s : PS p l H H') : TupS H H' := fun a xs e => by
  obtain ⟨zs, t, c, h1, h2, _⟩ := h.val
  refine s a _ (fun z => ?_) (fun z => ?_) e
  · rw [z, h1] at e
    cases e
  · rw [z, h2] at e
    cases e
/-- what is new stands off the pot -/
theorem PotAt.off {H : Hp} {p l q : Addr} {n : Nat} (h : PotAt H p l n) (e : H q = none) : q ≠ p ∧ q ≠ l := by
  obtain ⟨zs, t, c, h1, h2, _⟩ := h.val
  exact ⟨fun z => (by rw [z, h1] at e; cases e), fun z => (by rw [z, h2] at e; cases e)⟩
theorem PotAt.upd_ {H : Hp} {p l q : Addr} {n : Nat} (h : PotAt H p l n) (e : q ≠ p ∧ q ≠ l) {o : HO} : PotAt (upd H q o) p l n :=
  let ⟨zs, t, c, h1, h2, h3⟩ := h.val; ⟨h.ne, zs, t, c, (upd_ne (Ne.symm e.1)).trans h1, (upd_ne (Ne.symm e.2)).trans h2, h3⟩
/-! data -/
theorem dp_ints {K : PySem.W.Frag} {H : Hp} : ∀ ns : List Int, DpAll K H (ns.map V.int) (ns.map PyData.int)
  | [] => .nil
  | n :: r => .cons (.int n) (dp_ints r)
theorem lay_ints : ∀ ns : List Int, PyData.canLayAll0 (ns.map PyData.int) = true
  | [] => rfl
  | n :: r => lay_ints r
theorem depth_ints : ∀ ns : List Int, PyData.depthAll (ns.map PyData.int) = 0
  | [] => rfl
  | n :: r => by
    show max 0 (PyData.depthAll (r.map PyData.int)) = 0
    rw [depth_ints r]
    rfl
theorem shape_ints (ns : List Int) : SeqAt.shaped (.list (ns.map PyData.int)) = true := by
  have h : PyData.canLay0 (.list (ns.map PyData.int)) = true := lay_ints ns
  have d : PyData.depth (.list (ns.map PyData.int)) = 1 := by
    show PyData.depthAll (ns.map PyData.int) + 1 = 1
    rw [depth_ints]
  rw [SeqAt.shaped, h, d]
  rfl
theorem ixN_at {n j : Nat} (h : j < n) : ixN n (j : Int) = some j := by
  unfold ixN
  rw [if_pos (by omega), if_pos (by omega)]
  simp
theorem mod_rng (x : Int) {m : Int} (h : 0 < m) : ∃ y, x % m = y ∧ 0 ≤ y ∧ y < m := ⟨_, rfl, Int.emod_nonneg _ (by omega), Int.emod_lt_of_pos _ h⟩
section
variable {P : Program} {w : World} {K : PySem.W.Frag} {mg : Str → Option Value} {base : Heap}
/-! ### _law_take -/
def spLTake : Sp := fun vs H Q _ => ∃ (p l : Addr) (n : Nat) (many : Int), vs = [.ref p, .int many] ∧ PotAt H p l n ∧ n ≤ 1000000 ∧ 0 < many ∧ many < 1073741824 ∧
  ∀ H' r, PS p l H H' → PotAt H' p l (n + 1) → 0 ≤ r → r < many → Q (.int r) H'
theorem scLTake : FnScope ["_law_pot_here", "_law_many", "_law_digit", "_law_at", "_law_number"] ["_law_pot_here", "_law_many"] (defScope sLTake) := ⟨rfl, rfl, rfl, by decide +kernel, rfl, by decide +kernel, by decide +kernel⟩
theorem ok_lTake (D : Dn K mg "_law_take" sLTake ["_law_pot_here", "_law_many"]) : C8.Cal P w K mg base 1 "_law_take" spLTake [] := by
  refine D.cal scLTake (fun vs H Q E h => ?_) (fun f cdv A outer s H vs Q E hr h => ?_)
  · obtain ⟨p, l, n, many, rfl, _⟩ := h
    rfl
  · obtain ⟨p, l, n, many, rfl, pot, hn, m0, m1, k⟩ := h
    obtain ⟨ne, zs0, t, c, hp0, hl0, t0, t1, hc⟩ := id pot
    refine ⟨_, C8.pss_cut (ps_while PassesOwn.never (PW.pt (pw_and (pt_cmpR (op_neD hr.units) (pe_ix ix_list (pv 0) pe_int (fun _ _ => rfl)) (pe_lst pa_nil) (nomark _))
          (pw_and1 (pt_cmpR op_eq (pe_ix ix_list (pe_ix ix_list (pv 0) pe_int (fun _ _ => rfl)) pe_int (fun _ _ => rfl)) pe_int (nomark _)))))
        (pss_one (ps_expr (pe_bm PySem.F.plainAttrs_list PySem.F.slot_list_pop PySem.F.type_list_pop mt_popAt (pe_ix ix_list (pv 0) pe_int (fun _ _ => rfl)) (pa_cons pe_int pa_nil)))))
      (pss_cons (ps_if (pt_cmpR (op_neD hr.units) (pe_ix ix_list (pv 0) pe_int (fun _ _ => rfl)) (pe_lst pa_nil) (nomark _))
        (pss_cons (ps_set (i := 2) scLTake.nd rfl (Or.inl rfl) (pe_op op_mod (pe_ix ix_list (pe_ix ix_list (pv 0) pe_int (fun _ _ => rfl)) pe_int (fun _ _ => rfl)) (pv 1)))
        (pss_cons (ps_asg (pe_op op_fdivN (pe_ix ix_list (pe_ix ix_list (pv 0) pe_int (fun _ _ => rfl)) pe_int (fun _ _ => rfl)) (pv 1)) (pg_sub (pe_ix ix_list (pv 0) pe_int (fun _ _ => rfl)) pe_int set_list))
        (pss_one (ps_ret (pv 2))))) pss_nil)
      (pss_cons (ps_augS (pv 0) pe_int get_list pe_int ip_add set_list)
      (pss_cons (ps_set (i := 3) scLTake.nd rfl (Or.inl rfl) (pe_ix ix_list (pv 0) pe_int (fun _ _ => rfl)))
      (pss_cons (ps_set (i := 4) scLTake.nd rfl (Or.inl rfl) (pe_op op_mod (pe_op op_add (pe_ix ix_list (pv 0) pe_int (fun _ _ => rfl)) (pe_op op_mul pe_int (pv 3))) pe_int))
      (pss_cons (ps_set (i := 4) scLTake.nd rfl (Or.inl rfl) (pe_op op_mod (pe_op op_mul (pv 4) (pe_op op_add pe_int (pe_op op_mul (pe_op op_mul pe_int (pv 3)) (pv 3)))) pe_int))
      (pss_cons (ps_set (i := 4) scLTake.nd rfl (Or.inl rfl) (pe_op op_add (pe_op op_mod (pe_op op_mul (pv 4) (pv 4)) pe_int) (pv 3)))
      (pss_one (ps_ret (pe_op op_mod (pe_op op_fdiv (pe_op op_mod (pe_op op_mul (pv 4) (pe_op op_add (pe_op op_mod (pv 4) pe_int) pe_int)) pe_int) pe_int) (pv 1)))))))))), ?_⟩
    let M : L2.St → Hp → List Int → Prop := fun σ' H' zs => σ' = [some (.ref p), some (.int many), none, none, none] ∧ PS p l H H' ∧ H' p = some (.lst [.ref l, .int t, .int (c : Int)]) ∧ H' l = some (.lst (zs.map V.int))
    refine ⟨fun σ' H' => ∃ zs, M σ' H' zs, ⟨fun m σ' H' => ∃ zs, M σ' H' zs ∧ m = zs.length, ⟨_, zs0, ⟨rfl, PS.refl H, hp0, hl0⟩, rfl⟩, ?_⟩, ?_⟩
    · rintro m σ' H1 ⟨zs, ⟨rfl, s1, hp, hl⟩, rfl⟩
      refine ⟨_, rfl, p, _, 0, _, rfl, rfl, SqL.of hp, rfl, Nat.zero_le _, fun q nq => ?_⟩
      have sq := same_new (o := .lst []) nq
      have hp' := sq _ _ hp
      have hl' := sq _ _ hl
      have hq : (upd H1 q (.lst [])) q = some (.lst []) := upd_same
      have s2 := s1.then_ sq
      generalize upd H1 q (.lst []) = H2 at *
      refine ⟨_, _, .lst (SqL.of hl') (dp_ints zs), .lst (SqL.of hq) .nil, shape_ints zs, rfl, _, rfl, ?_⟩
      cases zs with
      | nil => exact iteF (iteF ⟨[], rfl, s2, hp', hl'⟩)
      | cons z r =>
        refine iteT ?_
        refine ⟨_, rfl, p, _, 0, _, rfl, rfl, SqL.of hp', rfl, l, _, 0, .int z, rfl, rfl, SqL.of hl', atI_nat (j := 0) rfl, rfl, _, rfl, ?_⟩
        refine ite2 (fun _ => ?_) (fun _ => ⟨z :: r, rfl, s2, hp', hl'⟩)
        refine ⟨fun σ' H' => ∃ m', m' < (z :: r).length ∧ ∃ zs, M σ' H' zs ∧ m' = zs.length, fun _ _ h => h, ?_⟩
        refine ⟨_, rfl, p, _, 0, _, rfl, rfl, SqL.of hp', rfl, .inl ⟨rfl, _, SqL.of hl'⟩, l, _, 0, 0, _, rfl, rfl, hl', by decide, by decide, ?_, rfl, ?_⟩
        · rw [List.length_map, List.length_cons]
          unfold seqIndex?
          simp
        · exact ⟨r.length, Nat.lt_succ_self _, r, ⟨rfl, s2.atL, (upd_ne ne).trans hp', upd_same⟩, rfl⟩
    · rintro σ' H1 ⟨zs, rfl, s1, hp, hl⟩
      refine ⟨_, rfl, p, _, 0, _, rfl, rfl, SqL.of hp, rfl, Nat.zero_le _, fun q nq => ?_⟩
      have sq := same_new (o := .lst []) nq
      have hp' := sq _ _ hp
      have hl' := sq _ _ hl
      have hq : (upd H1 q (.lst [])) q = some (.lst []) := upd_same
      have s2 := s1.then_ sq
      generalize upd H1 q (.lst []) = H2 at *
      refine ⟨_, _, .lst (SqL.of hl') (dp_ints zs), .lst (SqL.of hq) .nil, shape_ints zs, rfl, _, rfl, ?_⟩
      cases zs with
      | cons z r =>
        refine iteT ?_
        refine ⟨_, rfl, p, _, 0, _, rfl, rfl, SqL.of hp', rfl, l, _, 0, .int z, rfl, rfl, SqL.of hl', atI_nat (j := 0) rfl, _, rfl, z, many, rfl, rfl, m0, ?_⟩
        refine ⟨_, rfl, p, _, 0, _, rfl, rfl, SqL.of hp', rfl, l, _, 0, .int z, rfl, rfl, SqL.of hl', atI_nat (j := 0) rfl, _, rfl, z, many, rfl, rfl, ⟨by omega, by omega⟩, ?_⟩
        refine ⟨_, rfl, p, _, 0, _, rfl, rfl, SqL.of hp', rfl, l, _, 0, 0, rfl, rfl, hl', ixN_at (by rw [List.length_map]; exact Nat.succ_pos _), ?_⟩
        refine ⟨_, rfl, k _ _ s2.atL ⟨ne, z.fdiv many :: r, t, c, (upd_ne ne).trans hp', upd_same, t0, t1, Nat.le_succ_of_le hc⟩ (Int.emod_nonneg _ (by omega)) (Int.emod_lt_of_pos _ m0)⟩
      | nil =>
        refine iteF ?_
        refine ⟨_, rfl, p, _, 2, _, rfl, rfl, SqL.of hp', rfl, _, _, rfl, rfl, p, _, 2, 2, rfl, rfl, hp', rfl, ?_⟩
        have ec : ((c : Int) + 1) = ((c + 1 : Nat) : Int) := by omega
        have hp3 : (upd H2 p (.lst ([V.ref l, .int t, .int (c : Int)].set 2 (.int ((c : Int) + 1))))) p = some (.lst [.ref l, .int t, .int ((c + 1 : Nat) : Int)]) := by
          rw [upd_same, ec]
          rfl
        have hl3 : (upd H2 p (.lst ([V.ref l, .int t, .int (c : Int)].set 2 (.int ((c : Int) + 1))))) l = some (.lst (([] : List Int).map V.int)) := (upd_ne (Ne.symm ne)).trans hl'
        have s3 : PS p l H (upd H2 p (.lst ([V.ref l, .int t, .int (c : Int)].set 2 (.int ((c : Int) + 1))))) := s2.atP
        generalize upd H2 p (.lst ([V.ref l, .int t, .int (c : Int)].set 2 (.int ((c : Int) + 1)))) = H3 at *
        refine ⟨_, rfl, p, _, 2, _, rfl, rfl, SqL.of hp3, rfl, ?_⟩
        refine ⟨_, rfl, p, _, 1, _, rfl, rfl, SqL.of hp3, rfl, _, rfl, _, _, rfl, rfl, .inl ⟨by decide, by decide⟩, _, _, rfl, rfl, _, _, rfl, rfl, by show (0 : Int) < 2147483629; decide, ?_⟩
        show gName 4 (V.int ((t + 104729 * ((c + 1 : Nat) : Int)) % 2147483629)) _ _ _
        obtain ⟨x1, e1, l1, u1⟩ := mod_rng (t + 104729 * ((c + 1 : Nat) : Int)) (m := 2147483629) (by decide)
        rw [e1]
        refine ⟨_, rfl, _, rfl, _, _, rfl, rfl, .inl ⟨by decide, by decide⟩, _, rfl, _, _, rfl, rfl, .inl ⟨by omega, by omega⟩, _, _, rfl, rfl, _, _, rfl, rfl, .inl ⟨by omega, by omega⟩, _, _, rfl, rfl, by show (0 : Int) < 2147483629; decide, ?_⟩
        show gName 4 (V.int ((x1 * (48271 + 2 * ((c + 1 : Nat) : Int) * ((c + 1 : Nat) : Int))) % 2147483629)) _ _ _
        obtain ⟨x2, e2, l2, u2⟩ := mod_rng (x1 * (48271 + 2 * ((c + 1 : Nat) : Int) * ((c + 1 : Nat) : Int))) (m := 2147483629) (by decide)
        rw [e2]
        refine ⟨_, rfl, _, rfl, _, _, rfl, rfl, .inl ⟨by omega, by omega⟩, _, _, rfl, rfl, by show (0 : Int) < 2147483587; decide, _, rfl, _, _, rfl, rfl, ?_⟩
        show gName 4 (V.int (x2 * x2 % 2147483587 + ((c + 1 : Nat) : Int))) _ _ _
        obtain ⟨x3, e3, l3, u3⟩ := mod_rng (x2 * x2) (m := 2147483587) (by decide)
        rw [e3]
        refine ⟨_, rfl, _, rfl, _, _, rfl, rfl, by show (0 : Int) < 65521; decide, _, _, rfl, rfl, _, _, rfl, rfl, .inl ⟨by omega, by omega⟩, _, _, rfl, rfl, by show (0 : Int) < 2147483563; decide, _, _, rfl, rfl, ⟨by decide, by decide⟩, _, rfl, _, _, rfl, rfl, m0, ?_⟩
        exact k _ _ s3 ⟨ne, [], t, c + 1, hp3, hl3, t0, t1, by omega⟩ (Int.emod_nonneg _ (by omega)) (Int.emod_lt_of_pos _ m0)
end
end LL
namespace LL
open PySem PySem.Spec PyProof.Rows L2
abbrev sLWidth : Stmt := top 41
theorem cut_map {α : Type} (f : α → V) (ns : List α) (lo hi : Option Int) : ∃ ms : List α, cutV (ns.map f) lo hi = ms.map f ∧ ms.length ≤ ns.length := by
  refine ⟨(ns.drop (HT.sIx ns.length 0 lo)).take (HT.sIx ns.length ns.length hi - HT.sIx ns.length 0 lo), ?_, ?_⟩
  · unfold cutV
    rw [List.length_map, List.map_take, List.map_drop]
  · rw [List.length_take, List.length_drop]
    omega
section
variable {P : Program} {w : World} {K : PySem.W.Frag} {mg : Str → Option Value} {base : Heap}
/-! ### _law_pot -/
def spLPot (K : PySem.W.Frag) : Sp := fun vs H Q _ => ∃ (a : Addr) (ns : List Int), vs = [.ref a] ∧ SqL K H a (ns.map V.int) ∧ ns.length ≤ 63 ∧ ∀ H' p l, PotAt H' p l 0 → Q (.ref p) H'
theorem scLPot : FnScope ["_law_script", "_law_total", "_law_cell"] ["_law_script"] (defScope sLPot) := ⟨rfl, rfl, rfl, by decide +kernel, rfl, by decide +kernel, by decide +kernel⟩
theorem ok_lPot (D : Dn K mg "_law_pot" sLPot ["_law_script"]) : C8.Cal P w K mg base 1 "_law_pot" (spLPot K) [] := by
  refine D.cal scLPot (fun vs H Q E h => ?_) (fun f cdv A outer s H vs Q E hr h => ?_)
  · obtain ⟨a, ns, rfl, _⟩ := h
    rfl
  · obtain ⟨a, ns, rfl, hS, hn, k⟩ := h
    refine ⟨_, pss_cons (ps_set (i := 1) scLPot.nd rfl (Or.inl rfl) pe_int)
      (pss_cons (ps_for PassesOwn.never rfl (pi_list (pe_slice sl_list (pv 0) po_none (po_some pe_int))) (pg_name (i := 2) scLPot.nd rfl (Or.inl rfl))
        (pss_one (ps_set (i := 1) scLPot.nd rfl (Or.inl rfl) (pe_op op_mod (pe_op op_add (pe_op op_add (pe_op op_mul (pv 1) pe_int) (pe_op op_mod (pv 2) (pe_op op_pow pe_int pe_int))) pe_int) (pe_op op_sub (pe_op op_pow pe_int pe_int) pe_int)))))
      (pss_one (ps_ret (pe_lst (pa_cons
        (pe_lc (own := [("_law_cell", 2)]) (g := gName 2) (by rfl) scLPot.nd (pi_list (pe_slice sl_list (pv 0) po_none (po_some pe_int))) (blkOk_by (N := ["_law_script", "_law_total", "_law_cell"]) (sc := defScope sLPot) (by decide +kernel))
            (fun _ _ _ _ _ => by exact pg_name (i := 2) scLPot.nd rfl (Or.inl rfl)) (fun _ _ _ _ _ => by exact pts_one (pt_cmpR op_ge (pv 2) (pe_op op_pow pe_int pe_int) (nomark _))) (fun _ _ _ _ _ => by exact pv 2))
        (pa_cons (pv 1) (pa_cons pe_int pa_nil))))))), ?_⟩
    refine ⟨_, rfl, _, rfl, a, _, rfl, hS, fun q nq => ?_⟩
    obtain ⟨ms, em, hm⟩ := cut_map V.int ns none (some 200)
    rw [em]
    have sq := same_new (o := .lst (ms.map V.int)) nq
    have hq : (upd H q (.lst (ms.map V.int))) q = some (.lst (ms.map V.int)) := upd_same
    generalize upd H q (.lst (ms.map V.int)) = H1 at *
    refine ⟨q, rfl, ⟨_, SqL.of hq⟩, for_it walk_list (fun i σ H' => ∃ (v2 : Option V) (t : Int), σ = [some (.ref a), some (.int t), v2] ∧ Same H1 H' ∧ 0 ≤ t ∧ t < 2 ^ 61) ⟨none, 7, rfl, Same.refl _, by decide, by decide⟩ (fun i σ H' _ ⟨_, _, _, s', _⟩ => s'.seq (SqL.of hq)) (fun i x σ H2 H3 hi hP y => ?_) (fun σ H2 hP => ?_)⟩
    · obtain ⟨v2, t, rfl, s1, t0, t1⟩ := hP
      obtain ⟨rfl, ex⟩ := y
      obtain ⟨_, rfl⟩ := int_at ex
      refine ⟨_, rfl, _, _, rfl, rfl, .inr ⟨by decide, by decide⟩, _, rfl, _, _, rfl, rfl, ⟨by decide, by decide, by decide⟩, _, _, rfl, rfl, by show (0 : Int) < 10 ^ 40; decide, _, _, rfl, rfl, _, _, rfl, rfl, _, _, rfl, rfl, ⟨by decide, by decide, by decide⟩, _, _, rfl, rfl, _, _, rfl, rfl, by show (0 : Int) < 2 ^ 61 - 1; decide, ?_⟩
      refine ⟨_, _, rfl, s1, Int.emod_nonneg _ (by decide), Int.lt_trans (Int.emod_lt_of_pos _ (by decide)) (by decide)⟩
    · obtain ⟨v2, t, rfl, s1, t0, t1⟩ := hP
      have s2 := sq.trans s1
      refine ⟨_, rfl, _, rfl, a, _, rfl, s2.seq hS, fun q2 nq2 => ?_⟩
      obtain ⟨ms2, em2, hm2⟩ := cut_map V.int ns none (some 63)
      rw [em2]
      have sq2 := same_new (o := .lst (ms2.map V.int)) nq2
      have hq2 : (upd H2 q2 (.lst (ms2.map V.int))) q2 = some (.lst (ms2.map V.int)) := upd_same
      generalize upd H2 q2 (.lst (ms2.map V.int)) = H3 at *
      refine ⟨q2, rfl, ⟨_, SqL.of hq2⟩, fun L hL => ?_⟩
      refine lc_same walk_list hL (fun i => decide ((10 : Int) ^ 18 ≤ ms2.getD i 0)) (fun i v _ => v = .int (ms2.getD i 0)) (fun _ _ _ _ h _ => h) (fun H' s' => s'.seq (SqL.of hq2)) (by rw [List.length_map]; omega) (fun i u H4 H5 hi s4 yy K1 K0 k1 k0 => ?_) (fun H4 acc s4 ha hp => ?_)
      · obtain ⟨rfl, ex⟩ := yy
        obtain ⟨_, rfl⟩ := int_at ex
        refine ⟨rfl, _, rfl, _, _, rfl, rfl, ⟨by decide, by decide, by decide⟩, _, _, rfl, rfl, _, rfl, ite2 (fun e => ?_) (fun e => ?_)⟩
        · exact ⟨_, rfl, k1 e _ _ (Same.refl _) rfl⟩
        · exact k0 (by simpa using e) _ (Same.refl _)
      · obtain ⟨zs, rfl⟩ : ∃ zs : List Int, acc = zs.map V.int := by
          clear ha
          generalize kept _ _ = ks at hp
          induction hp with
          | nil => exact ⟨[], rfl⟩
          | cons h t ih =>
            obtain ⟨zs, rfl⟩ := ih
            exact ⟨_ :: zs, by rw [List.map_cons, h]⟩
        refine ⟨_, rfl, by show 3 ≤ sizeLine; decide, fun p np => ?_⟩
        have nl : p ≠ L := fun e => by
          rw [e, ha] at np
          cases np
        exact k _ p L ⟨nl, zs, t, 0, upd_same, (upd_ne (Ne.symm nl)).trans ha, t0, t1, Nat.le_refl _⟩
/-! ### _law_width -/
def spLWidth : Sp := fun vs H Q _ => ∃ (p l : Addr) (n : Nat), vs = [.ref p] ∧ PotAt H p l n ∧ n ≤ 100000 ∧ ∀ H' (wd : Nat), PS p l H H' → PotAt H' p l (n + 2) → 1 ≤ wd → wd ≤ 8 → Q (.int (wd : Int)) H'
theorem scLWidth : FnScope ["_law_pot_here"] ["_law_pot_here"] (defScope sLWidth) := ⟨rfl, rfl, rfl, by decide +kernel, rfl, by decide +kernel, by decide +kernel⟩
theorem ok_lWidth (D : Dn K mg "_law_width" sLWidth ["_law_pot_here"]) (B : Blt mg) (ct : C8.Cal P w K mg base 1 "_law_take" spLTake []) : C8.Cal P w K mg base 2 "_law_width" spLWidth [] := by
  refine D.cal scLWidth (fun vs H Q E h => ?_) (fun f cdv A outer s H vs Q E hr h => ?_)
  · obtain ⟨p, l, n, rfl, _⟩ := h
    rfl
  · obtain ⟨p, l, n, rfl, pot, hn, k⟩ := h
    refine ⟨_, pss_one (ps_ret (pe_op op_add pe_int (C8.pe_c ct hr (by decide) (by rfl) (pa_cons (pv 0) (pa_cons (pe_ix ix_list (pe_lst (pa_cons pe_int (pa_cons pe_int pa_nil)))
        (pe_callTy call_int1 (by rfl) B.int (by decide +kernel) (pa_cons (pe_cmpR op_eq (C8.pe_c ct hr (by decide) (by rfl) (pa_cons (pv 0) (pa_cons pe_int pa_nil))) pe_int (nomark _)) pa_nil)) (fun _ _ => rfl)) pa_nil))))), ?_⟩
    refine ⟨_, rfl, by show 2 ≤ sizeLine; decide, fun q nq => ?_⟩
    have sq := same_new (o := .lst [V.int 4, .int 8]) nq
    have hq : (upd H q (.lst [V.int 4, .int 8])) q = some (.lst [V.int 4, .int 8]) := upd_same
    have pot1 := pot.same sq
    have off := pot.off nq
    generalize upd H q (.lst [V.int 4, .int 8]) = H1 at *
    refine ⟨_, rfl, p, l, n, 8, rfl, pot1, by omega, by decide, by decide, fun H2 r s2 pot2 r0 r1 => ?_⟩
    have hq2 := s2 _ _ off.1 off.2 hq
    refine ⟨rfl, .inr ⟨_, rfl, ?_⟩⟩
    have key : ∀ b : Bool, ∃ m : Int, atI [V.int 4, V.int 8] (if b then 1 else 0) = some (.int m) ∧ 0 < m ∧ m ≤ 8 := fun b => by
      cases b
      · exact ⟨4, rfl, by decide, by decide⟩
      · exact ⟨8, rfl, by decide, by decide⟩
    obtain ⟨m, em, m0, m1⟩ := key (decide (V.int r = V.int 7))
    refine ⟨q, _, _, _, rfl, rfl, SqL.of hq2, em, p, l, n + 1, m, rfl, pot2, by omega, m0, by omega, fun H3 r2 s3 pot3 r20 r21 => ?_⟩
    obtain ⟨r3, rfl⟩ := Int.eq_ofNat_of_zero_le r20
    refine ⟨_, _, rfl, rfl, ?_⟩
    have e : (1 : Int) + (r3 : Int) = ((r3 + 1 : Nat) : Int) := by omega
    show Q (V.int ((1 : Int) + (r3 : Int))) H3
    rw [e]
    exact k H3 (r3 + 1) (((PS.of sq).trans s2).trans s3) pot3 (by omega) (by omega)
end
end LL
namespace LL
open PySem PySem.Spec PyProof.Rows L2
abbrev sLRows : Stmt := top 42
abbrev sLCaps : Stmt := top 43
theorem PS.atN {p l q : Addr} {H H' : Hp} (a : PS p l H H') (h : H q = none) {o : HO} : PS p l H (upd H' q o) := fun b x h1 h2 e => by
  rw [upd_ne (ne_of_none e h)]
  exact a b x h1 h2 e
theorem PS.free {p l q : Addr} {H H' : Hp} (a : PS p l H H') (h1 : q ≠ p) (h2 : q ≠ l) (h : H' q = none) : H q = none := by
  cases e : H q with
  | none => rfl
  | some o =>
    rw [a q o h1 h2 e] at h
    cases h
theorem six_at {r : Int} (h0 : 0 ≤ r) (h1 : r < 6) : ∃ m : Nat, atI [V.int 0, .int 1, .int 1, .int 2, .int 2, .int 1] r = some (.int (m : Int)) ∧ m ≤ 6 := by
  have h : r = 0 ∨ r = 1 ∨ r = 2 ∨ r = 3 ∨ r = 4 ∨ r = 5 := by omega
  rcases h with rfl | rfl | rfl | rfl | rfl | rfl
  · exact ⟨0, rfl, by decide⟩
  · exact ⟨1, rfl, by decide⟩
  · exact ⟨1, rfl, by decide⟩
  · exact ⟨2, rfl, by decide⟩
  · exact ⟨2, rfl, by decide⟩
  · exact ⟨1, rfl, by decide⟩
theorem two_at (x y : V) (b : Bool) : atI [x, y] (if b then 1 else 0) = some (if b then y else x) := by
  cases b <;> rfl
theorem two_of (x y : V) {r : Int} (h0 : 0 ≤ r) (h1 : r < 2) : atI [x, y] r = some x ∨ atI [x, y] r = some y := by
  have h : r = 0 ∨ r = 1 := by omega
  rcases h with rfl | rfl
  · exact .inl rfl
  · exact .inr rfl
theorem yes_it {σ : L2.St} {H : Hp} {A B : Hp → Prop} (h : A H) : tYes σ H (fun b H3 => if b = true then A H3 else B H3) := by
  show if true = true then A H else B H
  exact iteT h
/-- where a row of the system stands -/
def RowAt (H : Hp) (q : Addr) (wd : Nat) : Prop := ∃ ns : List Int, H q = some (.lst (ns.map V.int)) ∧ ns.length = wd ∧ ∀ x ∈ ns, Sm x
section
variable {P : Program} {w : World} {K : PySem.W.Frag} {mg : Str → Option Value} {base : Heap}
/-! ### _law_rows -/
def spLRows : Sp := fun vs H Q _ => ∃ (p l : Addr) (n wd : Nat), vs = [.ref p, .int (wd : Int)] ∧ PotAt H p l n ∧ n ≤ 100000 ∧ 1 ≤ wd ∧ wd ≤ 8 ∧
  ∀ H' z rs, PS p l H H' → PotAt H' p l (n + 100) → IsVecT H' z rs → RowsOk rs wd → Q z H'
theorem scLRows : FnScope ["_law_pot_here", "_law_width_here", "_law_many", "_law_far", "_law_rows_here", "_law_k", "_law_row", "_law_j", "_law_great"] ["_law_pot_here", "_law_width_here"] (defScope sLRows) := ⟨rfl, rfl, rfl, by decide +kernel, rfl, by decide +kernel, by decide +kernel⟩
theorem ok_lRows (D : Dn K mg "_law_rows" sLRows ["_law_pot_here", "_law_width_here"]) (B : Blt mg) (ct : C8.Cal P w K mg base 1 "_law_take" spLTake []) : C8.Cal P w K mg base 2 "_law_rows" spLRows [] := by
  refine D.cal scLRows (fun vs H Q E h => ?_) (fun f cdv A outer s H vs Q E hr h => ?_)
  · obtain ⟨p, l, n, wd, rfl, _⟩ := h
    rfl
  · obtain ⟨p, l, n, wd, rfl, pot, hn, hw1, hw8, k⟩ := h
    refine ⟨_, C8.pss_cut (ps_set (i := 2) scLRows.nd rfl (Or.inl rfl) (pe_ix ix_list (pe_lst (pa_cons
          (pe_ix ix_list (pe_lst (pa_cons pe_int (pa_cons pe_int (pa_cons pe_int (pa_cons pe_int (pa_cons pe_int (pa_cons pe_int pa_nil))))))) (C8.pe_c ct hr (by decide) (by rfl) (pa_cons (pv 0) (pa_cons pe_int pa_nil))) (fun _ _ => rfl))
          (pa_cons (C8.pe_c ct hr (by decide) (by rfl) (pa_cons (pv 0) (pa_cons pe_int pa_nil))) pa_nil)))
        (pe_callTy call_int1 (by rfl) B.int (by decide +kernel) (pa_cons (pe_cmpR op_eq (C8.pe_c ct hr (by decide) (by rfl) (pa_cons (pv 0) (pa_cons pe_int pa_nil))) pe_int (nomark _)) pa_nil)) (fun _ _ => rfl)))
      (pss_cons (ps_set (i := 3) scLRows.nd rfl (Or.inl rfl) (pe_cmpR op_eq (C8.pe_c ct hr (by decide) (by rfl) (pa_cons (pv 0) (pa_cons pe_int pa_nil))) pe_int (nomark _)))
      (pss_cons (ps_set (i := 4) scLRows.nd rfl (Or.inl rfl) (pe_lst pa_nil))
      (pss_cons (ps_for PassesOwn.never rfl (pi_range1 (by rfl) B.range (pa_cons (pv 2) pa_nil)) (pg_name (i := 5) scLRows.nd rfl (Or.inl rfl))
        (pss_cons (ps_setLc (i := 6) (own := [("_law_j", 7)]) (g := gName 7) (tt := tYes) rfl scLRows.nd rfl rfl (sw_true rfl rfl rfl (by decide +kernel)) (pi_range1 (by rfl) B.range (pa_cons (pv 1) pa_nil))
          (blkOk_by (N := ["_law_pot_here", "_law_width_here", "_law_many", "_law_far", "_law_rows_here", "_law_k", "_law_row", "_law_j", "_law_great"]) (sc := defScope sLRows) (by decide +kernel))
          (fun _ _ _ _ _ => by exact pg_name (i := 7) scLRows.nd rfl (Or.inl rfl)) (fun _ _ _ _ _ => pts_nil) (fun _ _ _ _ _ => by exact pe_op op_sub (C8.pe_c ct hr (by decide) (by rfl) (pa_cons (pv 0) (pa_cons pe_int pa_nil))) pe_int))
        (C8.pss_cut (ps_if (PW.pt (pw_and (pt_val (pv 3)) (pw_and1 (pt_cmpR op_eq (C8.pe_c ct hr (by decide) (by rfl) (pa_cons (pv 0) (pa_cons pe_int pa_nil))) pe_int (nomark _)))))
          (pss_cons (ps_set (i := 8) scLRows.nd rfl (Or.inl rfl) (pe_op op_add (pe_op op_add (pe_op op_mul (C8.pe_c ct hr (by decide) (by rfl) (pa_cons (pv 0) (pa_cons (pe_op op_pow pe_int pe_int) pa_nil))) (pe_op op_pow pe_int pe_int))
              (C8.pe_c ct hr (by decide) (by rfl) (pa_cons (pv 0) (pa_cons (pe_op op_pow pe_int pe_int) pa_nil)))) pe_int))
          (pss_one (ps_asg (pe_ix ix_list (pe_lst (pa_cons (pv 8) (pa_cons (pe_un un_neg (pv 8)) pa_nil))) (C8.pe_c ct hr (by decide) (by rfl) (pa_cons (pv 0) (pa_cons pe_int pa_nil))) (fun _ _ => rfl))
            (pg_sub (pv 6) (C8.pe_c ct hr (by decide) (by rfl) (pa_cons (pv 0) (pa_cons (pv 1) pa_nil))) set_list)))) pss_nil)
        (pss_one (ps_expr (pe_bm PySem.F.plainAttrs_list PySem.F.slot_list_append PySem.F.type_list_append mt_append (pv 4) (pa_cons (pe_callTy call_tuple_of (by rfl) B.tuple (by decide +kernel) (pa_cons (pv 6) pa_nil)) pa_nil)))))))
      (pss_one (ps_ret (pe_callTy call_tuple_of (by rfl) B.tuple (by decide +kernel) (pa_cons (pv 4) pa_nil))))))), ?_⟩
    refine ⟨fun σ' H' => ∃ m : Nat, σ' = [some (.ref p), some (.int (wd : Int)), some (.int (m : Int)), none, none, none, none, none, none] ∧ m ≤ 6 ∧ PS p l H H' ∧ PotAt H' p l (n + 3), ?_, ?_⟩
    · refine ⟨by show 6 ≤ sizeLine; decide, fun q1 nq1 => ?_⟩
      have sq := same_new (o := .lst [V.int 0, .int 1, .int 1, .int 2, .int 2, .int 1]) nq1
      have hq : (upd H q1 (.lst [V.int 0, .int 1, .int 1, .int 2, .int 2, .int 1])) q1 = some (.lst [V.int 0, .int 1, .int 1, .int 2, .int 2, .int 1]) := upd_same
      have pot1 := pot.same sq
      have off := pot.off nq1
      generalize upd H q1 (.lst [V.int 0, .int 1, .int 1, .int 2, .int 2, .int 1]) = H1 at *
      refine ⟨_, rfl, p, l, n, 6, rfl, pot1, by omega, by decide, by decide, fun H2 r s2 pot2 r0 r1 => ?_⟩
      obtain ⟨m1, em1, hm1⟩ := six_at r0 r1
      refine ⟨q1, _, _, _, rfl, rfl, SqL.of (s2 _ _ off.1 off.2 hq), em1, ?_⟩
      refine ⟨_, rfl, p, l, n + 1, 7, rfl, pot2, by omega, by decide, by decide, fun H3 r2 s3 pot3 r20 r21 => ?_⟩
      refine ⟨by show 2 ≤ sizeLine; decide, fun q2 nq2 => ?_⟩
      have sq2 := same_new (o := .lst [V.int (m1 : Int), .int r2]) nq2
      have hq2 : (upd H3 q2 (.lst [V.int (m1 : Int), .int r2])) q2 = some (.lst [V.int (m1 : Int), .int r2]) := upd_same
      have pot4 := pot3.same sq2
      have off2 := pot3.off nq2
      generalize upd H3 q2 (.lst [V.int (m1 : Int), .int r2]) = H4 at *
      refine ⟨_, rfl, p, l, n + 2, 8, rfl, pot4, by omega, by decide, by decide, fun H5 r3 s5 pot5 r30 r31 => ?_⟩
      refine ⟨rfl, .inr ⟨_, rfl, q2, _, _, _, rfl, rfl, SqL.of (s5 _ _ off2.1 off2.2 hq2), two_at _ _ _, ?_⟩⟩
      have s15 : PS p l H H5 := (((PS.of sq).trans s2).trans s3).then_ sq2 |>.trans s5
      obtain ⟨m2, rfl⟩ := Int.eq_ofNat_of_zero_le r20
      cases decide (V.int r3 = V.int 7) with
      | false => exact ⟨m1, rfl, hm1, s15, pot5⟩
      | true => exact ⟨m2, rfl, by omega, s15, pot5⟩
    · rintro σ' H1 ⟨m, rfl, hm, s1, pot1⟩
      refine ⟨_, rfl, p, l, n + 3, 8, rfl, pot1, by omega, by decide, by decide, fun H2 r s2 pot2 r0 r1 => ?_⟩
      refine ⟨rfl, ?_⟩
      generalize decide (V.int r = V.int 7) = far
      refine ⟨Nat.zero_le _, fun R nR => ?_⟩
      have offR := pot2.off nR
      have s12 := s1.trans s2
      have nR0 := s12.free offR.1 offR.2 nR
      refine ⟨_, rfl, (m : Int), rfl, by omega, by omega, for_it walk_range (fun i σ H' => ∃ v5 v6 v7 v8, σ = [some (.ref p), some (.int (wd : Int)), some (.int (m : Int)), some (.bl far), some (.ref R), v5, v6, v7, v8] ∧ PS p l H H' ∧ PotAt H' p l (n + 4 + 13 * i) ∧
          ∃ xs rs, H' R = some (.lst xs) ∧ Vecs H' xs rs ∧ rs.length = i ∧ ∀ r ∈ rs, r.length = wd ∧ ∀ x ∈ r, Sm x)
        ⟨none, none, none, none, rfl, s12.then_ (same_new nR), pot2.same (same_new nR), [], [], upd_same, .nil, rfl, fun _ h => (by cases h)⟩ (fun _ _ _ _ _ => trivial) (fun i x σ H3 H4 hi hP y => ?_) (fun σ H3 hP => ?_)⟩
      · obtain ⟨v5, v6, v7, v8, rfl, s3, pot3, xs, rs, hR, hv, hl, hrs⟩ := hP
        obtain ⟨rfl, ey⟩ := y
        rw [Int.toNat_natCast] at hi
        refine ⟨_, rfl, (wd : Int), rfl, by omega, by omega, fun L nL => ?_⟩
        have offL := pot3.off nL
        refine lc_it walk_range (fun j H' => PS p l H4 H' ∧ PotAt H' p l (n + 4 + 13 * i + j) ∧ ∃ ns : List Int, H' L = some (.lst (ns.map V.int)) ∧ ns.length = j ∧ ∀ x ∈ ns, Sm x)
          ⟨.of (same_new nL), pot3.same (same_new nL), [], upd_same, rfl, fun _ h => (by cases h)⟩ (fun _ _ _ _ => trivial) (fun j y H5 H6 hj hP yy => ?_) (fun H5 hP => ?_)
        · obtain ⟨s5, pot5, ns, hL, hns, hsm⟩ := hP
          obtain ⟨rfl, _⟩ := yy
          rw [Int.toNat_natCast] at hj
          refine ⟨rfl, yes_it ?_⟩
          refine ⟨_, rfl, p, l, _, 7, rfl, pot5, by omega, by decide, by decide, fun H7 r s7 pot7 r0 r1 => ⟨_, _, rfl, rfl, ?_⟩⟩
          have hL7 := s7 _ _ offL.1 offL.2 hL
          refine ⟨_, hL7, by rw [List.length_map, hns, sizeLine_eq]; omega, (s5.trans s7).atN nL, (pot7.upd_ offL).le (by omega), ns ++ [r - 3], ?_, ?_, ?_⟩
          · rw [upd_same, List.map_append]
            rfl
          · rw [List.length_append, hns]
            rfl
          · intro x hx
            rcases List.mem_append.mp hx with hx | hx
            · exact hsm x hx
            · rw [List.mem_singleton.mp hx]
              exact ⟨by omega, by omega⟩
        · obtain ⟨s5, pot5, ns, hL, hns, hsm⟩ := hP
          rw [Int.toNat_natCast] at pot5 hns
          refine ⟨fun σ' H' => ∃ v5' v8', σ' = [some (.ref p), some (.int (wd : Int)), some (.int (m : Int)), some (.bl far), some (.ref R), v5', some (.ref L), v7, v8'] ∧ PS p l H4 H' ∧ PotAt H' p l (n + 4 + 13 * (i + 1)) ∧ RowAt H' L wd, ?_, ?_⟩
          · refine ⟨_, rfl, far, rfl, ?_⟩
            cases far with
            | false => exact iteF (iteF ⟨_, _, rfl, s5, pot5.le (by omega), ns, hL, hns, hsm⟩)
            | true =>
              refine iteT ?_
              refine ⟨_, rfl, p, l, _, 2, rfl, pot5, by omega, by decide, by decide, fun H6 r s6 pot6 r0 r1 => ⟨rfl, _, rfl, ite2 (fun _ => ?_) (fun _ => ?_)⟩⟩
              · refine ⟨_, rfl, _, _, rfl, rfl, ⟨by decide, by decide, by decide⟩, p, l, _, _, rfl, pot6, by omega, by show (0 : Int) < 10 ^ 6; decide, by show (10 : Int) ^ 6 < _; decide, fun H7 g1 s7 pot7 g10 g11 => ?_⟩
                have g11' : g1 < 10 ^ 6 := g11
                refine ⟨_, _, rfl, rfl, ⟨by decide, by decide, by decide⟩, _, _, rfl, rfl, .inr ⟨by decide, by decide⟩, ?_⟩
                refine ⟨_, rfl, _, _, rfl, rfl, ⟨by decide, by decide, by decide⟩, p, l, _, _, rfl, pot7, by omega, by show (0 : Int) < 10 ^ 6; decide, by show (10 : Int) ^ 6 < _; decide, fun H8 g2 s8 pot8 g20 g21 => ?_⟩
                have g21' : g2 < 10 ^ 6 := g21
                refine ⟨_, _, rfl, rfl, _, _, rfl, rfl, ?_⟩
                show gName 8 (V.int (g1 * 10 ^ 6 + g2 + 1)) _ _ _
                obtain ⟨G, eG⟩ : ∃ G, G = g1 * 10 ^ 6 + g2 + 1 := ⟨_, rfl⟩
                rw [← eG]
                have G0 : Sm G := ⟨by omega, by omega⟩
                have G1 : Sm (-G) := ⟨by omega, by omega⟩
                refine ⟨_, rfl, _, rfl, _, rfl, by show 2 ≤ sizeLine; decide, fun q nq => ?_⟩
                have offq := pot8.off nq
                have sq := same_new (o := .lst [V.int G, .int (-G)]) nq
                have hq : (upd H8 q (.lst [V.int G, .int (-G)])) q = some (.lst [V.int G, .int (-G)]) := upd_same
                have pot9 := pot8.same sq
                have hL9 := sq _ _ (s8 _ _ offL.1 offL.2 (s7 _ _ offL.1 offL.2 (s6 _ _ offL.1 offL.2 hL)))
                have s9 := ((s5.trans s6).trans (s7.trans s8)).then_ sq
                generalize upd H8 q (.lst [V.int G, .int (-G)]) = H9 at *
                refine ⟨_, rfl, p, l, _, 2, rfl, pot9, by omega, by decide, by decide, fun H10 r2 s10 pot10 r20 r21 => ?_⟩
                obtain ⟨v, ev, hv2⟩ : ∃ v, atI [V.int G, V.int (-G)] r2 = some (.int v) ∧ Sm v := by
                  rcases two_of (V.int G) (V.int (-G)) r20 r21 with e | e
                  · exact ⟨G, e, G0⟩
                  · exact ⟨-G, e, G1⟩
                refine ⟨q, _, _, _, rfl, rfl, SqL.of (s10 _ _ offq.1 offq.2 hq), ev, ?_⟩
                refine ⟨_, rfl, _, rfl, _, rfl, p, l, _, _, rfl, pot10, by omega, by omega, by omega, fun H11 j s11 pot11 j0 j1 => ?_⟩
                obtain ⟨jn, rfl⟩ := Int.eq_ofNat_of_zero_le j0
                have hL11 := s11 _ _ offL.1 offL.2 (s10 _ _ offL.1 offL.2 hL9)
                refine ⟨L, _, _, jn, rfl, rfl, hL11, ixN_at (by rw [List.length_map]; omega), ?_⟩
                refine ⟨_, _, rfl, (s9.trans (s10.trans s11)).atN nL, (pot11.upd_ offL).le (by omega), ns.set jn v, by rw [upd_same, List.map_set], by rw [List.length_set]; exact hns, fun x hx => ?_⟩
                rcases List.mem_or_eq_of_mem_set hx with hx | rfl
                · exact hsm x hx
                · exact hv2
              · exact ⟨_, _, rfl, s5.trans s6, pot6.le (by omega), ns, s6 _ _ offL.1 offL.2 hL, hns, hsm⟩
          · rintro σ' H6 ⟨v5', v8', rfl, s6, pot6, ns2, hL6, hns2, hsm2⟩
            have hR6 := s6 _ _ offR.1 offR.2 hR
            refine ⟨_, rfl, .inl ⟨rfl, _, SqL.of hR6⟩, _, rfl, L, _, rfl, .inl ⟨SqL.of hL6, fun t nt => ?_⟩⟩
            have st := same_new (o := .tup (ns2.map V.int)) nt
            have offt := pot6.off nt
            have hR7 := st _ _ hR6
            have lx := plen hv
            refine ⟨R, xs, _, rfl, rfl, hR7, by rw [sizeLine_eq]; omega, ?_⟩
            have up : TupS (upd H6 t (.tup (ns2.map V.int))) (upd (upd H6 t (.tup (ns2.map V.int))) R (.lst (xs ++ [.ref t]))) := tups_lst hR7
            have vt : IsVec (upd H6 t (.tup (ns2.map V.int))) (.ref t) ns2 := ⟨t, rfl, upd_same⟩
            refine ⟨_, _, _, _, rfl, ((s3.trans s6).then_ st).atN nR0, (pot6.same st).upd_ offR, xs ++ [.ref t], rs ++ [ns2], upd_same, psnoc (((hv.tups (pot3.tups s6)).same st).tups up) (vt.tups up), by rw [List.length_append, hl]; rfl, fun r hr => ?_⟩
            rcases List.mem_append.mp hr with hr | hr
            · exact hrs r hr
            · rw [List.mem_singleton.mp hr]
              exact ⟨hns2, hsm2⟩
      · obtain ⟨v5, v6, v7, v8, rfl, s3, pot3, xs, rs, hR, hv, hl, hrs⟩ := hP
        rw [Int.toNat_natCast] at pot3 hl
        refine ⟨_, rfl, R, xs, rfl, .inl ⟨SqL.of hR, fun t nt => ?_⟩⟩
        have st := same_new (o := .tup xs) nt
        exact k _ _ rs (s3.then_ st) ((pot3.same st).le (by omega)) ⟨t, xs, rfl, upd_same, hv.same st⟩ ⟨fun r hr => (hrs r hr).1, fun r hr => (hrs r hr).2, by omega⟩
end
end LL
namespace LL
open PySem PySem.Spec PyProof.Rows L2
section
variable {P : Program} {w : World} {K : PySem.W.Frag} {mg : Str → Option Value} {base : Heap}
/-! ### _law_caps -/
def spLCaps : Sp := fun vs H Q _ => ∃ (p l : Addr) (n wd : Nat), vs = [.ref p, .int (wd : Int)] ∧ PotAt H p l n ∧ n ≤ 100000 ∧ 1 ≤ wd ∧ wd ≤ 8 ∧
  ∀ H' z cs, PS p l H H' → PotAt H' p l (n + 100) → IsCaps H' z cs → cs.length = wd → Q z H'
theorem scLCaps : FnScope ["_law_pot_here", "_law_width_here", "_law_open_here", "_law_caps_here", "_law_j", "_law_cap"] ["_law_pot_here", "_law_width_here"] (defScope sLCaps) := ⟨rfl, rfl, rfl, by decide +kernel, rfl, by decide +kernel, by decide +kernel⟩
theorem ok_lCaps (D : Dn K mg "_law_caps" sLCaps ["_law_pot_here", "_law_width_here"]) (B : Blt mg) (ct : C8.Cal P w K mg base 1 "_law_take" spLTake []) : C8.Cal P w K mg base 2 "_law_caps" spLCaps [] := by
  refine D.cal scLCaps (fun vs H Q E h => ?_) (fun f cdv A outer s H vs Q E hr h => ?_)
  · obtain ⟨p, l, n, wd, rfl, _⟩ := h
    rfl
  · obtain ⟨p, l, n, wd, rfl, pot, hn, hw1, hw8, k⟩ := h
    refine ⟨_, pss_cons (ps_set (i := 2) scLCaps.nd rfl (Or.inl rfl) (C8.pe_c ct hr (by decide) (by rfl) (pa_cons (pv 0) (pa_cons pe_int pa_nil))))
      (pss_cons (ps_set (i := 3) scLCaps.nd rfl (Or.inl rfl) (pe_lst pa_nil))
      (pss_cons (ps_for PassesOwn.never rfl (pi_range1 (by rfl) B.range (pa_cons (pv 1) pa_nil)) (pg_name (i := 4) scLCaps.nd rfl (Or.inl rfl))
        (pss_cons (ps_set (i := 5) scLCaps.nd rfl (Or.inl rfl) (C8.pe_c ct hr (by decide) (by rfl) (pa_cons (pv 0) (pa_cons
          (pe_ix ix_list (pe_lst (pa_cons pe_int (pa_cons pe_int pa_nil))) (C8.pe_c ct hr (by decide) (by rfl) (pa_cons (pv 0) (pa_cons pe_int pa_nil))) (fun _ _ => rfl)) pa_nil))))
        (pss_one (ps_if (pt_cmpR op_ge (C8.pe_c ct hr (by decide) (by rfl) (pa_cons (pv 0) (pa_cons pe_int pa_nil))) (pv 2) (nomark _))
          (pss_one (ps_expr (pe_bm PySem.F.plainAttrs_list PySem.F.slot_list_append PySem.F.type_list_append mt_append (pv 3) (pa_cons pe_non pa_nil))))
          (pss_one (ps_expr (pe_bm PySem.F.plainAttrs_list PySem.F.slot_list_append PySem.F.type_list_append mt_append (pv 3) (pa_cons (pv 5) pa_nil))))))))
      (pss_one (ps_ret (pe_callTy call_tuple_of (by rfl) B.tuple (by decide +kernel) (pa_cons (pv 3) pa_nil)))))), ?_⟩
    refine ⟨_, rfl, p, l, n, 3, rfl, pot, by omega, by decide, by decide, fun H1 op s1 pot1 op0 op1 => ?_⟩
    refine ⟨Nat.zero_le _, fun R nR => ?_⟩
    have offR := pot1.off nR
    have nR0 := s1.free offR.1 offR.2 nR
    refine ⟨_, rfl, (wd : Int), rfl, by omega, by omega, for_it walk_range (fun i σ H' => ∃ v4 v5, σ = [some (.ref p), some (.int (wd : Int)), some (.int op), some (.ref R), v4, v5] ∧ PS p l H H' ∧ PotAt H' p l (n + 1 + 3 * i) ∧
          ∃ cs : List (Option Int), H' R = some (.lst (cs.map capV)) ∧ cs.length = i)
        ⟨none, none, rfl, s1.then_ (same_new nR), pot1.same (same_new nR), [], upd_same, rfl⟩ (fun _ _ _ _ _ => trivial) (fun i x σ H3 H4 hi hP y => ?_) (fun σ H3 hP => ?_)⟩
    · obtain ⟨v4, v5, rfl, s3, pot3, cs, hR, hl⟩ := hP
      obtain ⟨rfl, ey⟩ := y
      rw [Int.toNat_natCast] at hi
      refine ⟨_, rfl, by show 2 ≤ sizeLine; decide, fun q nq => ?_⟩
      have offq := pot3.off nq
      have sq := same_new (o := .lst [V.int 6, .int 2]) nq
      have hq : (upd H4 q (.lst [V.int 6, .int 2])) q = some (.lst [V.int 6, .int 2]) := upd_same
      have pot5 := pot3.same sq
      have hR5 := sq _ _ hR
      have s5 := s3.then_ sq
      generalize upd H4 q (.lst [V.int 6, .int 2]) = H5 at *
      refine ⟨_, rfl, p, l, _, 2, rfl, pot5, by omega, by decide, by decide, fun H6 r s6 pot6 r0 r1 => ?_⟩
      obtain ⟨v, ev, hv0, hv6⟩ : ∃ v, atI [V.int 6, V.int 2] r = some (.int v) ∧ 0 < v ∧ v ≤ 6 := by
        rcases two_of (V.int 6) (V.int 2) r0 r1 with e | e
        · exact ⟨6, e, by decide, by decide⟩
        · exact ⟨2, e, by decide, by decide⟩
      refine ⟨q, _, _, _, rfl, rfl, SqL.of (s6 _ _ offq.1 offq.2 hq), ev, p, l, _, v, rfl, pot6, by omega, hv0, by omega, fun H7 cap s7 pot7 c0 c1 => ?_⟩
      refine ⟨_, rfl, p, l, _, 3, rfl, pot7, by omega, by decide, by decide, fun H8 r2 s8 pot8 r20 r21 => ?_⟩
      have hR8 := s8 _ _ offR.1 offR.2 (s7 _ _ offR.1 offR.2 (s6 _ _ offR.1 offR.2 hR5))
      have s38 := (s5.trans s6).trans (s7.trans s8)
      have lz : (cs.map capV).length < sizeLine := by rw [List.length_map, sizeLine_eq]; omega
      refine ⟨_, rfl, _, _, rfl, rfl, _, rfl, ite2 (fun _ => ?_) (fun _ => ?_)⟩
      · refine ⟨_, rfl, .inl ⟨rfl, _, SqL.of hR8⟩, R, _, _, rfl, rfl, hR8, lz, ?_⟩
        refine ⟨_, _, rfl, s38.atN nR0, (pot8.upd_ offR).le (by omega), cs ++ [none], by rw [upd_same, List.map_append]; rfl, by rw [List.length_append, hl]; rfl⟩
      · refine ⟨_, rfl, .inl ⟨rfl, _, SqL.of hR8⟩, _, rfl, R, _, _, rfl, rfl, hR8, lz, ?_⟩
        refine ⟨_, _, rfl, s38.atN nR0, (pot8.upd_ offR).le (by omega), cs ++ [some cap], by rw [upd_same, List.map_append]; rfl, by rw [List.length_append, hl]; rfl⟩
    · obtain ⟨v4, v5, rfl, s3, pot3, cs, hR, hl⟩ := hP
      rw [Int.toNat_natCast] at pot3 hl
      refine ⟨_, rfl, R, _, rfl, .inl ⟨SqL.of hR, fun t nt => ?_⟩⟩
      have st := same_new (o := .tup (cs.map capV)) nt
      exact k _ _ cs (s3.then_ st) ((pot3.same st).le (by omega)) ⟨t, rfl, upd_same⟩ hl
end
end LL
namespace LL
open PySem PySem.Spec PyProof.Rows L2
abbrev sLFound : Stmt := top 44
abbrev sLSystem : Stmt := top 45
/-- least as the module holds it -/
structure LeastFn (P : Program) (w : World) (K : PySem.W.Frag) (mg : Str → Option Value) (base : Heap) (CT : Addr) : Prop where
  ex : ∃ (f : Addr) (fd : FuncData), FnOk P w K mg base (L2.CX P w) 5 f fd ["rows", "caps", "most"] (spLeast CT) ∧ mg "least" = some (.ref f) ∧ PySem.W.keepIn K (.ref f) = true ∧ Binds K fd ["rows", "caps", "most"] []
section
variable {P : Program} {w : World} {K : PySem.W.Frag} {mg : Str → Option Value} {base : Heap} {CT : Addr}
/-- what is found: nothing where there are too many -/
def FoundOk (H : Hp) (z : V) (rs : List (List Int)) (cs : List (Option Int)) : Prop := z = .non ∨ ∃ told paper, IsFound H z told paper ∧ LeastOk rs cs told paper
theorem FoundOk.tups {H H' : Hp} {z : V} {rs : List (List Int)} {cs : List (Option Int)} (h : FoundOk H z rs cs) (s : TupS H H') : FoundOk H' z rs cs := by
  rcases h with h | ⟨told, paper, h1, h2⟩
  · exact .inl h
  · exact .inr ⟨told, paper, h1.tups s, h2⟩
def spLFound : Sp := fun vs H Q _ => ∃ (xr xc : V) (rs : List (List Int)) (cs : List (Option Int)), vs = [xr, xc, .int 90] ∧ IsVecT H xr rs ∧ IsCaps H xc cs ∧ RowsOk rs cs.length ∧ 1 ≤ cs.length ∧ cs.length ≤ 100 ∧
  ∀ H' z, Same H H' → FoundOk H' z rs cs → Q z H'
theorem scLFound : FnScope ["_law_rows_here", "_law_caps_here", "_law_most", "_law_found_here"] ["_law_rows_here", "_law_caps_here", "_law_most"] (defScope sLFound) := ⟨rfl, rfl, rfl, by decide +kernel, rfl, by decide +kernel, by decide +kernel⟩
theorem ok_lFound (D : Dn K mg "_law_found" sLFound ["_law_rows_here", "_law_caps_here", "_law_most"]) (ET : ETxt K mg CT) (te : PySem.W.exmOne K (.ref CT) (.ref CT) = some true) (G : LeastFn P w K mg base CT) : C8.Cal P w K mg base 6 "_law_found" spLFound [] := by
  obtain ⟨fL, fdL, GL, gL, kL, bL⟩ := G.ex
  refine D.cal scLFound (fun vs H Q E h => ?_) (fun f cdv A outer s H vs Q E hr h => ?_)
  · obtain ⟨xr, xc, rs, cs, rfl, _⟩ := h
    rfl
  · obtain ⟨xr, xc, rs, cs, rfl, h1, h2, ro, hw1, hw, k⟩ := h
    refine ⟨_, pss_cons (ps_set (i := 3) scLFound.nd rfl (Or.inl rfl) pe_non)
      (pss_cons (ps_try_only (tb := fun W => tAsg (tCallS (spLeast CT) (WE W) (tCons (tVar 0) (tCons (tVar 1) (tCons (tVar 2) tNil)))) (gName 3)) (ts := fun _ _ _ => tAsg (tC .non) (gName 3)) (Wout := fun _ _ _ _ => False) rfl rfl ⟨rfl, by decide, Or.inl ET.g⟩ takes0
        (fun W pn xe tk _ => pss_one (ps_set (i := 3) scLFound.nd rfl (Or.inl rfl) (by exact (pe_callS GL hr rfl gL kL bL (fun σ => passAt tk σ) (by exact (pa_cons (pv 0) (pa_cons (pv 1) (pa_cons (pv 2) pa_nil))))))))
        (fun a oe cls d pn hz hf => pss_one (ps_set (i := 3) scLFound.nd rfl (Or.inl rfl) (by exact pe_non))))
      (pss_one (ps_ret (pv 3)))), ?_⟩
    refine ⟨_, rfl, _, rfl, _, rfl, xr, xc, rs, cs, rfl, h1, h2, ro, hw1, hw, fun H1 s1 => ?_, fun H1 z told paper s1 hz hl => ?_⟩
    · exact ⟨true, te, fun _ a0 _ => ⟨_, rfl, k _ _ s1 (.inl rfl)⟩, fun q => (by cases q)⟩
    · exact ⟨_, rfl, k _ _ s1 (.inr ⟨told, paper, hz, hl⟩)⟩
/-! ### _law_system -/
/-- a system: its rows, its caps, what is found -/
def IsSystem (H : Hp) (z : V) : Prop := ∃ (t : Addr) (xr xc xf : V) (rs : List (List Int)) (cs : List (Option Int)), z = .ref t ∧ H t = some (.tup [xr, xc, xf]) ∧ IsVecT H xr rs ∧ IsCaps H xc cs ∧ FoundOk H xf rs cs ∧ RowsOk rs cs.length ∧ 1 ≤ cs.length ∧ cs.length ≤ 8
def spLSystem : Sp := fun vs H Q _ => ∃ (p l : Addr) (n : Nat), vs = [.ref p, .int 90] ∧ PotAt H p l n ∧ n ≤ 50000 ∧ ∀ H' z, PS p l H H' → PotAt H' p l (n + 300) → IsSystem H' z → Q z H'
theorem scLSystem : FnScope ["_law_pot_here", "_law_most", "_law_width_here", "_law_rows_here", "_law_caps_here"] ["_law_pot_here", "_law_most"] (defScope sLSystem) := ⟨rfl, rfl, rfl, by decide +kernel, rfl, by decide +kernel, by decide +kernel⟩
theorem ok_lSystem (D : Dn K mg "_law_system" sLSystem ["_law_pot_here", "_law_most"]) (cw : C8.Cal P w K mg base 2 "_law_width" spLWidth []) (cr : C8.Cal P w K mg base 2 "_law_rows" spLRows []) (cc : C8.Cal P w K mg base 2 "_law_caps" spLCaps [])
    (cf : C8.Cal P w K mg base 6 "_law_found" spLFound []) : C8.Cal P w K mg base 7 "_law_system" spLSystem [] := by
  refine D.cal scLSystem (fun vs H Q E h => ?_) (fun f cdv A outer s H vs Q E hr h => ?_)
  · obtain ⟨p, l, n, rfl, _⟩ := h
    rfl
  · obtain ⟨p, l, n, rfl, pot, hn, k⟩ := h
    refine ⟨_, pss_cons (ps_set (i := 2) scLSystem.nd rfl (Or.inl rfl) (C8.pe_c cw hr (by decide) (by rfl) (pa_cons (pv 0) pa_nil)))
      (pss_cons (ps_set (i := 3) scLSystem.nd rfl (Or.inl rfl) (C8.pe_c cr hr (by decide) (by rfl) (pa_cons (pv 0) (pa_cons (pv 2) pa_nil))))
      (pss_cons (ps_set (i := 4) scLSystem.nd rfl (Or.inl rfl) (C8.pe_c cc hr (by decide) (by rfl) (pa_cons (pv 0) (pa_cons (pv 2) pa_nil))))
      (pss_one (ps_ret (pe_tup (pa_cons (pv 3) (pa_cons (pv 4) (pa_cons (C8.pe_c cf hr (by decide) (by rfl) (pa_cons (pv 3) (pa_cons (pv 4) (pa_cons (pv 1) pa_nil)))) pa_nil)))))))), ?_⟩
    refine ⟨_, rfl, p, l, n, rfl, pot, by omega, fun H1 wd s1 pot1 w1 w8 => ?_⟩
    refine ⟨_, rfl, _, rfl, p, l, _, wd, rfl, pot1, by omega, w1, w8, fun H2 zr rs s2 pot2 hr2 ro => ?_⟩
    refine ⟨_, rfl, _, rfl, p, l, _, wd, rfl, pot2, by omega, w1, w8, fun H3 zc cs s3 pot3 hc3 lc => ?_⟩
    subst lc
    have hr3 := hr2.tups (pot2.tups s3)
    refine ⟨_, rfl, _, rfl, _, rfl, _, rfl, _, rfl, zr, zc, rs, cs, rfl, hr3, hc3, ro, w1, by omega, fun H4 zf s4 hf => ?_⟩
    refine ⟨by show 3 ≤ sizeLine; decide, fun t nt => ?_⟩
    have st := same_new (o := .tup [zr, zc, zf]) nt
    exact k _ _ (((s1.trans s2).trans s3).then_ (s4.trans st)) ((pot3.same (s4.trans st)).le (by omega)) ⟨t, zr, zc, zf, rs, cs, rfl, upd_same, hr3.same (s4.trans st), hc3.same (s4.trans st), hf.tups st.tups, ro, w1, w8⟩
end
end LL
namespace LL
open PySem PySem.Spec PyProof.Rows L2
abbrev sLSame : Stmt := top 39
abbrev sLTruth : Stmt := top 40
abbrev sLTotals : Stmt := top 46
abbrev sLAnswers : Stmt := top 47
abbrev sLLooked : Stmt := top 48
section
variable {P : Program} {w : World} {K : PySem.W.Frag} {mg : Str → Option Value} {base : Heap}
/-! ### _law_truth -/
def spLTruth : Sp := fun vs H Q _ => ∃ a b : Bool, vs = [.bl a, .bl b] ∧ a = b ∧ Q (.bl true) H
theorem scLTruth : FnScope ["_law_found_here", "_law_due"] ["_law_found_here", "_law_due"] (defScope sLTruth) := ⟨rfl, rfl, rfl, by decide +kernel, rfl, by decide +kernel, by decide +kernel⟩
theorem ok_lTruth (D : Dn K mg "_law_truth" sLTruth ["_law_found_here", "_law_due"]) : C8.Cal P w K mg base 1 "_law_truth" spLTruth [] := by
  refine D.cal scLTruth (fun vs H Q E h => ?_) (fun f cdv A outer s H vs Q E hr h => ?_)
  · obtain ⟨a, b, rfl, _⟩ := h
    rfl
  · obtain ⟨a, b, rfl, e, k⟩ := h
    refine ⟨_, pss_cons (ps_if (pt_val (pv 1)) (pss_one (ps_ret (pe_cmpR op_is_bl (pv 0) pe_bl (nomark _)))) pss_nil)
      (pss_one (ps_ret (pe_cmpR op_is_bl (pv 0) pe_bl (nomark _)))), ?_⟩
    subst e
    refine ⟨_, rfl, a, rfl, ?_⟩
    cases a with
    | true => exact iteT ⟨_, rfl, _, _, rfl, rfl, k⟩
    | false => exact iteF ⟨_, rfl, _, _, rfl, rfl, k⟩
/-! ### _law_totals, _law_answers -/
def spLTotals : Sp := fun vs H Q _ => ∃ (x y : V) (rs : List (List Int)) (v : List Int), vs = [x, y] ∧ IsVecT H x rs ∧ IsVec H y v ∧ RowsOk rs v.length ∧ v.length ≤ 1000 ∧ ∀ H' q, Same H H' → H' q = some (.lst ((sums rs v).map V.int)) → Q (.ref q) H'
theorem scLTotals : FnScope ["_law_rows_here", "_law_one", "_law_row", "_law_number", "_law_many"] ["_law_rows_here", "_law_one"] (defScope sLTotals) := ⟨rfl, rfl, rfl, by decide +kernel, rfl, by decide +kernel, by decide +kernel⟩
theorem ok_lTotals (D : Dn K mg "_law_totals" sLTotals ["_law_rows_here", "_law_one"]) (B : Blt mg) : C8.Cal P w K mg base 1 "_law_totals" spLTotals [] := by
  refine D.cal scLTotals (fun vs H Q E h => ?_) (fun f cdv A outer s H vs Q E hr h => ?_)
  · obtain ⟨x, y, rs, v, rfl, _⟩ := h
    rfl
  · obtain ⟨x, y, rs, v, rfl, ⟨p, xs, rfl, hp, hv⟩, ⟨q, rfl, hq⟩, ro, hz, k⟩ := h
    refine ⟨_, pss_one (ps_ret
      (pe_lc (own := [("_law_row", 2)]) (g := gName 2) (tt := tYes) (by rfl) scLTotals.nd (pi_tup (pv 0))
        (blkOk_by (N := ["_law_rows_here", "_law_one", "_law_row", "_law_number", "_law_many"]) (sc := defScope sLTotals) (by decide +kernel))
        (fun _ _ _ _ _ => by exact pg_name (i := 2) scLTotals.nd rfl (Or.inl rfl))
        (fun _ _ _ _ _ => pts_nil) (fun _ _ _ _ _ => by
          exact pe_callB (r := rSum K) (cr_sum rfl) (by rfl) B.sum (by decide +kernel) (pa_cons (pe_lc (own := [("_law_number", 3), ("_law_many", 4)]) (wi := RZ.iZipA K (tCons (tVar 2) (tCons (tVar 1) tNil))) (g := gTup K 2 (gCons (gName 3) (gCons (gName 4) gNil))) (tt := tYes) (by rfl) scLTotals.nd (RZ.pi_zipA (by rfl) B.zip (pa_cons (pv 2) (pa_cons (pv 1) pa_nil)))
              (blkOk_by (N := ["_law_rows_here", "_law_one", "_law_row", "_law_number", "_law_many"]) (sc := { kind := .function, names := [(".0", .local), ("_law_row", .local), ("sum", .globalImplicit), ("zip", .globalImplicit), ("_law_one", .cell)], isGenerator := false, isCoroutine := false }) (by decide +kernel))
              (fun _ _ _ _ _ => by exact pg_tup rfl (pgs_cons (pg_name (i := 3) scLTotals.nd rfl (Or.inl rfl)) (pgs_cons (pg_name (i := 4) scLTotals.nd rfl (Or.inl rfl)) pgs_nil)))
              (fun _ _ _ _ _ => pts_nil) (fun _ _ _ _ _ => by exact pe_op op_mul (pv 3) (pv 4))) pa_nil)))), ?_⟩
    have hlen := plen hv
    refine ⟨_, rfl, p, rfl, ⟨_, SqT.of hp⟩, fun L hL => ?_⟩
    refine lc_vals walk_tup hL (fun i => .int (dot (rs.getD i []) v)) (fun H' s' => s'.tup (SqT.of hp)) (by have := ro.few; omega) (fun i u H1 H2 hi s1 yy K1 k1 => ?_) (fun H1 s1 h1 => ?_)
    · obtain ⟨rfl, ex⟩ := yy
      obtain ⟨⟨r, rfl, hr1⟩, hm⟩ := vec_at (hv.same s1) ex
      have hl1 := ro.len _ hm
      have hq1 := s1 _ _ hq
      refine ⟨rfl, _, rfl, _, rfl, r, q, (rs.getD i []).map V.int, v.map V.int, rfl, .inr ⟨SqT.of hr1, SqT.of hq1, fun L2 hL2 => ?_⟩⟩
      refine lc_vals (walk_zipT (by simpa using hl1)) hL2 (fun j => .int ((rs.getD i []).getD j 0 * v.getD j 0)) (fun H' s' => ⟨s'.tup (SqT.of hr1), s'.tup (SqT.of hq1)⟩) (by rw [List.length_map]; omega)
        (fun j u H3 H4 hj s3 y K2 k2 => ?_) (fun H3 s3 h3 => ?_)
      · obtain ⟨T, x, z, rfl, nT, rfl, ex, ez⟩ := y
        obtain ⟨hj1, rfl⟩ := int_at ex
        obtain ⟨_, rfl⟩ := int_at ez
        exact ⟨T, _, rfl, SqT.of upd_same, rfl, _, _, rfl, _, _, rfl, rfl, rfl, _, rfl, _, rfl, _, _, rfl, rfl, .inl (ro.sm _ hm _ (getD_mem hj1)), k2 _ (same_new nT)⟩
      · rw [List.length_map, map_int, map_zip hl1 0 0 fun x y => x * y] at h3
        exact ⟨L2, _, rfl, SqL.of h3, k1 _ s3⟩
    · rw [hlen, map_int, map_one [] fun r => dot r v] at h1
      exact k _ L s1 h1
def spLAnswers : Sp := fun vs H Q _ => ∃ (x y : V) (rs : List (List Int)) (v : List Int), vs = [x, y] ∧ IsVecT H x rs ∧ IsVec H y v ∧ RowsOk rs v.length ∧ v.length ≤ 1000 ∧ ∀ H', Same H H' → Q (.bl (isAns rs v)) H'
theorem scLAnswers : FnScope ["_law_rows_here", "_law_one", "_law_total"] ["_law_rows_here", "_law_one"] (defScope sLAnswers) := ⟨rfl, rfl, rfl, by decide +kernel, rfl, by decide +kernel, by decide +kernel⟩
theorem ok_lAnswers (D : Dn K mg "_law_answers" sLAnswers ["_law_rows_here", "_law_one"]) (ct : C8.Cal P w K mg base 1 "_law_totals" spLTotals []) : C8.Cal P w K mg base 2 "_law_answers" spLAnswers [] := by
  refine D.cal scLAnswers (fun vs H Q E h => ?_) (fun f cdv A outer s H vs Q E hr h => ?_)
  · obtain ⟨x, y, rs, v, rfl, _⟩ := h
    rfl
  · obtain ⟨x, y, rs, v, rfl, hx, hy, ro, hz, k⟩ := h
    refine ⟨_, pss_one (ps_ret (pe_cmpR (op_eqD hr.units)
      (pe_lc (own := [("_law_total", 2)]) (g := gName 2) (by rfl) scLAnswers.nd (pi_list (C8.pe_c ct hr (by decide) (by rfl) (pa_cons (pv 0) (pa_cons (pv 1) pa_nil)))) (blkOk_by (N := ["_law_rows_here", "_law_one", "_law_total"]) (sc := defScope sLAnswers) (by decide +kernel))
            (fun _ _ _ _ _ => by exact pg_name (i := 2) scLAnswers.nd rfl (Or.inl rfl)) (fun _ _ _ _ _ => by exact pts_one (pt_cmpR op_ne (pv 2) pe_int (nomark _))) (fun _ _ _ _ _ => by exact pv 2)) (pe_lst pa_nil) (nomark _))), ?_⟩
    refine ⟨_, rfl, _, rfl, x, y, rs, v, rfl, hx, hy, ro, hz, fun H1 q s1 hq => ?_⟩
    refine ⟨q, rfl, ⟨_, SqL.of hq⟩, fun L hL => ?_⟩
    have hsl : (sums rs v).length = rs.length := List.length_map _
    refine lc_same walk_list hL (fun i => !decide ((sums rs v).getD i 0 = 0)) (fun i u _ => u = .int ((sums rs v).getD i 0)) (fun _ _ _ _ h _ => h) (fun H' s' => s'.seq (SqL.of hq)) (by have := ro.few; rw [List.length_map]; omega) (fun i u H2 H3 hi s2 yy K1 K0 k1 k0 => ?_) (fun H2 acc s2 ha hp => ?_)
    · obtain ⟨rfl, ex⟩ := yy
      obtain ⟨_, rfl⟩ := int_at ex
      have e : decide (V.int ((sums rs v).getD i 0) = V.int 0) = decide ((sums rs v).getD i 0 = 0) := by
        rw [decide_eq_decide]
        exact ⟨V.int.inj, fun h => by rw [h]⟩
      refine ⟨rfl, _, rfl, rfl, _, rfl, ?_⟩
      rw [e]
      refine ite2 (fun e => ?_) (fun e => ?_)
      · exact ⟨_, rfl, k1 e _ _ (Same.refl _) rfl⟩
      · exact k0 (by simpa using e) _ (Same.refl _)
    · obtain ⟨zs, rfl⟩ : ∃ zs : List Int, acc = zs.map V.int := by
        clear ha
        generalize kept _ _ = ks at hp
        induction hp with
        | nil => exact ⟨[], rfl⟩
        | cons h t ih =>
          obtain ⟨zs, rfl⟩ := ih
          exact ⟨_ :: zs, by rw [List.map_cons, h]⟩
      refine ⟨Nat.zero_le _, fun q2 nq2 => ?_⟩
      have sq := same_new (o := .lst []) nq2
      refine ⟨_, _, .lst (SqL.of (sq _ _ ha)) (dp_ints zs), .lst (SqL.of upd_same) .nil, shape_ints zs, rfl, ?_⟩
      have lk := plen hp
      rw [List.length_map, List.length_map] at lk
      have key : PyData.eqv (.list (zs.map PyData.int)) (.list []) = isAns rs v := by
        cases zs with
        | nil =>
          have e0 : kept (fun i => !decide ((sums rs v).getD i 0 = 0)) (sums rs v).length = [] := List.eq_nil_of_length_eq_zero lk.symm
          have h0 := List.filter_eq_nil_iff.mp e0
          have : isAns rs v = true := by
            refine List.all_eq_true.mpr fun t ht => ?_
            obtain ⟨i, hi, rfl⟩ := List.mem_iff_getElem.mp ht
            have h1 := h0 i (List.mem_range.mpr hi)
            rw [List.getD_eq_getElem?_getD, List.getElem?_eq_getElem hi] at h1
            simpa using h1
          rw [this]
          rfl
        | cons z r =>
          have e0 : kept (fun i => !decide ((sums rs v).getD i 0 = 0)) (sums rs v).length ≠ [] := fun e => by
            rw [e] at lk
            cases lk
          have : isAns rs v = false := by
            cases hb : isAns rs v with
            | false => rfl
            | true =>
              refine absurd (List.filter_eq_nil_iff.mpr fun i hi => ?_) e0
              have h1 := List.all_eq_true.mp hb _ (getD_mem (d := 0) (List.mem_range.mp hi))
              simpa using h1
          rw [this]
          rfl
      rw [key]
      exact k _ ((s1.trans s2).trans sq)
end
end LL
namespace LL
open PySem PySem.Spec PyProof.Rows L2
/-- the same things, so many tuples deep -/
def SameD (H : Hp) : Nat → V → V → Prop
  | 0, x, y => ∃ n : Int, x = .int n ∧ y = .int n
  | k + 1, x, y => ∃ (a b : Addr) (xs ys : List V), x = .ref a ∧ y = .ref b ∧ H a = some (.tup xs) ∧ H b = some (.tup ys) ∧ xs.length ≤ 1000 ∧ Paired (SameD H k) xs ys
theorem SameD.tups {H H' : Hp} (s : TupS H H') : ∀ {k : Nat} {x y : V}, SameD H k x y → SameD H' k x y
  | 0, _, _, h => h
  | k + 1, _, _, h =>
    let ⟨a, b, xs, ys, e1, e2, h1, h2, hl, hp⟩ := h
    ⟨a, b, xs, ys, e1, e2, s _ _ h1, s _ _ h2, hl, pimp (fun _ _ z => SameD.tups s z) hp⟩
theorem pboth {α β : Type} {F : α → β → Prop} {l : List α} {m : List β} {i : Nat} {x : α} {y : β} (h : Paired F l m) (hx : l[i]? = some x) (hy : m[i]? = some y) : F x y := by
  obtain ⟨z, hz, r⟩ := pget h hx
  rw [hy] at hz
  cases hz
  exact r
theorem same_ints {H : Hp} : ∀ ns : List Int, Paired (SameD H 0) (ns.map V.int) (ns.map V.int)
  | [] => .nil
  | n :: r => .cons ⟨n, rfl, rfl⟩ (same_ints r)
theorem same_vec {H : Hp} {x y : V} {v : List Int} (h : v.length ≤ 1000) (hx : IsVec H x v) (hy : IsVec H y v) : SameD H 1 x y := by
  obtain ⟨a, rfl, ha⟩ := hx
  obtain ⟨b, rfl, hb⟩ := hy
  exact ⟨a, b, _, _, rfl, rfl, ha, hb, by rw [List.length_map]; exact h, same_ints v⟩
theorem same_vecs {H : Hp} : ∀ {xs ys : List V} {vs : List (List Int)}, (∀ v ∈ vs, v.length ≤ 1000) → Vecs H xs vs → Vecs H ys vs → Paired (SameD H 1) xs ys
  | _, _, _, _, .nil, .nil => .nil
  | _, _, _, h, .cons a ta, .cons b tb => .cons (same_vec (h _ List.mem_cons_self) a b) (same_vecs (fun v hv => h v (List.mem_cons_of_mem _ hv)) ta tb)
theorem same_vecT {H : Hp} {x y : V} {vs : List (List Int)} (h : ∀ v ∈ vs, v.length ≤ 1000) (hn : vs.length ≤ 1000) (hx : IsVecT H x vs) (hy : IsVecT H y vs) : SameD H 2 x y := by
  obtain ⟨a, xs, rfl, ha, va⟩ := hx
  obtain ⟨b, ys, rfl, hb, vb⟩ := hy
  exact ⟨a, b, xs, ys, rfl, rfl, ha, hb, by rw [plen va]; exact hn, same_vecs h va vb⟩
theorem same_found {H : Hp} {x y : V} {told paper : List (List Int)} (h : ∀ v, v ∈ told ∨ v ∈ paper → v.length ≤ 1000) (hn : told.length ≤ 1000) (hm : paper.length ≤ 1000) (hx : IsFound H x told paper) (hy : IsFound H y told paper) : SameD H 3 x y := by
  obtain ⟨a, x1, x2, rfl, ha, u1, u2⟩ := hx
  obtain ⟨b, y1, y2, rfl, hb, v1, v2⟩ := hy
  exact ⟨a, b, _, _, rfl, rfl, ha, hb, (show 2 ≤ 1000 by decide), .cons (same_vecT (fun v hv => h v (.inl hv)) hn u1 v1) (.cons (same_vecT (fun v hv => h v (.inr hv)) hm u2 v2) .nil)⟩
section
variable {P : Program} {w : World} {K : PySem.W.Frag} {mg : Str → Option Value} {base : Heap} {C : Addr}
/-! ### _law_same -/
def spLSame (k : Nat) : Sp := fun vs H Q _ => ∃ x y : V, vs = [x, y] ∧ SameD H k x y ∧ ∀ H', Same H H' → Q (.bl true) H'
theorem scLSame : FnScope ["_law_found_here", "_law_due", "_law_x", "_law_y"] ["_law_found_here", "_law_due"] (defScope sLSame) := ⟨rfl, rfl, rfl, by decide +kernel, rfl, by decide +kernel, by decide +kernel⟩
theorem ok_lSame0 (D : Dn K mg "_law_same" sLSame ["_law_found_here", "_law_due"]) (B : Blt mg) : C8.Cal P w K mg base 1 "_law_same" (spLSame 0) [] := by
  refine D.cal scLSame (fun vs H Q E h => ?_) (fun f cdv A outer s H vs Q E hr h => ?_)
  · obtain ⟨x, y, rfl, _⟩ := h
    rfl
  · obtain ⟨x, y, rfl, ⟨n, rfl, rfl⟩, k⟩ := h
    refine ⟨_, pss_cons (ps_if (pt_val (pe_callB call_isi (by rfl) B.isinstance (by decide +kernel) (pa_cons (pv 1) (pa_cons (pe_bltn (v := .ty "tuple") (by rfl) B.tuple (by decide +kernel) rfl) pa_nil)))) pss_never pss_nil)
      (pss_one (ps_ret (pe_and (pe_callB call_isi (by rfl) B.isinstance (by decide +kernel) (pa_cons (pv 0) (pa_cons (pe_bltn (v := .ty "int") (by rfl) B.int (by decide +kernel) rfl) pa_nil)))
        (pe_and (pe_not (pe_callB call_isi (by rfl) B.isinstance (by decide +kernel) (pa_cons (pv 0) (pa_cons (pe_bltn (v := .ty "bool") (by rfl) B.bool (by decide +kernel) rfl) pa_nil))))
          (pe_one (pe_cmpR op_eq (pv 0) (pv 1) (nomark _))))))), ?_⟩
    refine ⟨_, rfl, .int n, .ty "tuple", .type "int", .type "tuple", false, rfl, .ty _, .base (.int n), kit_ty (by decide +kernel), false, rfl, iteF ?_⟩
    refine ⟨_, rfl, .int n, .ty "int", .type "int", .type "int", true, rfl, .ty _, .base (.int n), kit_ty (by decide +kernel), true, rfl, iteT ?_⟩
    refine ⟨_, rfl, .int n, .ty "bool", .type "int", .type "bool", false, rfl, .ty _, .base (.int n), kit_ty (by decide +kernel), false, rfl, ?_⟩
    refine ⟨true, rfl, iteT ⟨_, rfl, _, rfl, rfl, ?_⟩⟩
    show Q (V.bl (decide (V.int n = V.int n))) H
    rw [decide_eq_true rfl]
    exact k _ (Same.refl _)
theorem ok_lSameS {j : Nat} (D : Dn K mg "_law_same" sLSame ["_law_found_here", "_law_due"]) (B : Blt mg) (c : C8.Cal P w K mg base (j + 1) "_law_same" (spLSame j) []) : C8.Cal P w K mg base (j + 2) "_law_same" (spLSame (j + 1)) [] := by
  refine D.cal scLSame (fun vs H Q E h => ?_) (fun f cdv A outer s H vs Q E hr h => ?_)
  · obtain ⟨x, y, rfl, _⟩ := h
    rfl
  · obtain ⟨x, y, rfl, ⟨a, b, xs, ys, rfl, rfl, ha, hb, hl, hp⟩, k⟩ := h
    have hlen := plen hp
    refine ⟨_, pss_cons (ps_if (pt_val (pe_callB call_isi (by rfl) B.isinstance (by decide +kernel) (pa_cons (pv 1) (pa_cons (pe_bltn (v := .ty "tuple") (by rfl) B.tuple (by decide +kernel) rfl) pa_nil))))
        (pss_cons (ps_if (PW.pt (pw_or (pt_not (pt_val (pe_callB call_isi (by rfl) B.isinstance (by decide +kernel) (pa_cons (pv 0) (pa_cons (pe_bltn (v := .ty "tuple") (by rfl) B.tuple (by decide +kernel) rfl) pa_nil)))))
            (pw_or1 (pt_cmpR op_ne (pe_callB call_len_seq (by rfl) B.len PySem.boot_len (pa_cons (pv 0) pa_nil)) (pe_callB call_len_seq (by rfl) B.len PySem.boot_len (pa_cons (pv 1) pa_nil)) (nomark _))))) (pss_one (ps_ret pe_bl)) pss_nil)
          (pss_one (ps_ret (pe_callB (cr_all rfl) (by rfl) B.all (by decide +kernel) (pa_cons
            (pe_lc (own := [("_law_x", 2), ("_law_y", 3)]) (g := gTup K 2 (gCons (gName 2) (gCons (gName 3) gNil))) (tt := tYes) (by rfl) scLSame.nd (RZ.pi_zipA (by rfl) B.zip (pa_cons (pv 0) (pa_cons (pv 1) pa_nil)))
              (blkOk_by (N := ["_law_found_here", "_law_due", "_law_x", "_law_y"]) (sc := defScope sLSame) (by decide +kernel))
              (fun _ _ _ _ _ => by exact pg_tup rfl (pgs_cons (pg_name (i := 2) scLSame.nd rfl (Or.inl rfl)) (pgs_cons (pg_name (i := 3) scLSame.nd rfl (Or.inl rfl)) pgs_nil)))
              (fun _ _ _ _ _ => pts_nil) (fun _ _ _ _ _ => by exact C8.pe_c c hr (Nat.le_refl _) (by rfl) (pa_cons (pv 2) (pa_cons (pv 3) pa_nil)))) pa_nil))))) pss_nil)
      pss_never, ?_⟩
    refine ⟨_, rfl, .ref b, .ty "tuple", .type "tuple", .type "tuple", true, rfl, .ty _, .base (.tup hb), kit_ty (by decide +kernel), true, rfl, iteT ?_⟩
    refine ⟨_, rfl, .ref a, .ty "tuple", .type "tuple", .type "tuple", true, rfl, .ty _, .base (.tup ha), kit_ty (by decide +kernel), true, rfl, iteF ?_⟩
    refine ⟨_, rfl, a, _, rfl, .inr (SqT.of ha), _, rfl, b, _, rfl, .inr (SqT.of hb), rfl, _, rfl, ?_⟩
    have el : V.int (xs.length : Int) = V.int (ys.length : Int) := by rw [hlen]
    refine iteNS el ?_
    refine ⟨_, rfl, _, rfl, a, b, xs, ys, rfl, .inr ⟨SqT.of ha, SqT.of hb, fun L hL => ?_⟩⟩
    refine lc_vals (walk_zipT hlen) hL (fun _ => .bl true) (fun H' s' => ⟨s'.tup (SqT.of ha), s'.tup (SqT.of hb)⟩) (by omega)
      (fun i v H1 H2 hi s1 y K1 k1 => ?_) (fun H1 s1 h1 => ?_)
    · obtain ⟨T, x, z, rfl, nT, rfl, ex, ez⟩ := y
      have sT := same_new (o := .tup [x, z]) nT
      exact ⟨T, _, rfl, SqT.of upd_same, rfl, _, _, rfl, _, _, rfl, rfl, rfl, _, rfl, _, rfl, x, z, rfl, SameD.tups (s1.trans sT).tups (pboth hp ex ez), fun H5 s5 => k1 _ (sT.trans s5)⟩
    · rw [all_true] at h1
      refine ⟨L, _, rfl, SqL.of h1, ?_⟩
      rw [all_rep]
      exact k _ s1
theorem ok_lSame (D : Dn K mg "_law_same" sLSame ["_law_found_here", "_law_due"]) (B : Blt mg) : C8.Cal P w K mg base 4 "_law_same" (spLSame 3) [] :=
  ok_lSameS D B (ok_lSameS D B (ok_lSameS D B (ok_lSame0 D B)))
/-! ### _law_looked -/
/-- what the looker may be shown -/
structure LookOk (rs : List (List Int)) (cs : List (Option Int)) (told paper : List (List Int)) : Prop where
  tell : ∀ v, v ∈ told ∨ v ∈ paper → Tell v ∧ LetOk cs v
  ro : RowsOk rs cs.length
  wid : cs.length ≤ 1000
  ans : ∀ v ∈ told, isAns rs v = true
  ap : Apart told
  hn : told.length ≤ 1000
  hm : paper.length ≤ 1000
def spLLooked : Sp := fun vs H Q _ => ∃ (xr xc : V) (L : Addr) (rs : List (List Int)) (cs : List (Option Int)) (told paper : List (List Int)), vs = [xr, xc, .ref L] ∧ IsVecT H xr rs ∧ IsCaps H xc cs ∧ H L = some (.lst ((linesT told paper).map V.str)) ∧ LookOk rs cs told paper ∧
  ∀ H', Same H H' → Q (.bl (holds rs cs told paper)) H'
theorem scLLooked : FnScope ["_law_rows_here", "_law_caps_here", "_law_lines", "_law_told", "_law_paper"] ["_law_rows_here", "_law_caps_here", "_law_lines"] (defScope sLLooked) := ⟨rfl, rfl, rfl, by decide +kernel, rfl, by decide +kernel, by decide +kernel⟩
theorem ok_lLooked (D : Dn K mg "_law_looked" sLLooked ["_law_rows_here", "_law_caps_here", "_law_lines"]) (cr : C8.Cal P w K mg base 3 "read_paper" spReadPaper []) (cs1 : C8.Cal P w K mg base 6 "shows" spShows []) : C8.Cal P w K mg base 7 "_law_looked" spLLooked [] := by
  refine D.cal scLLooked (fun vs H Q E h => ?_) (fun f cdv A outer s H vs Q E hr h => ?_)
  · obtain ⟨xr, xc, L, rs, cs, told, paper, rfl, _⟩ := h
    rfl
  · obtain ⟨xr, xc, L, rs, cs, told, paper, rfl, h1, h2, hL, ok, k⟩ := h
    refine ⟨_, pss_cons (ps_asg (C8.pe_c cr hr (by decide) (by rfl) (pa_cons (pe_join pe_str (pv 2)) pa_nil)) (pg_tup rfl (pgs_cons (pg_name (i := 3) scLLooked.nd rfl (Or.inl rfl)) (pgs_cons (pg_name (i := 4) scLLooked.nd rfl (Or.inl rfl)) pgs_nil))))
      (pss_one (ps_ret (C8.pe_c cs1 hr (by decide) (by rfl) (pa_cons (pv 0) (pa_cons (pv 1) (pa_cons (pv 3) (pa_cons (pv 4) pa_nil))))))), ?_⟩
    refine ⟨⟨_, rfl⟩, _, rfl, _, L, linesT told paper, rfl, rfl, .inl (SqL.of hL), ?_, ?_⟩
    · have z := sum_le (l := (linesT told paper).map (·.length)) (k := 174) fun n hn => by
        obtain ⟨y, hy, rfl⟩ := List.mem_map.mp hn
        obtain ⟨b, v, hv, rfl⟩ := lines_mem hy
        exact line_len b (ok.tell v hv).1
      have e : ("\n" : Str).length = 1 := by decide +kernel
      have := ok.hn
      have := ok.hm
      rw [List.length_map, lines_len] at z
      rw [e, lines_len]
      omega
    · refine ⟨told, paper, cs.length, rfl, fun v hv => ⟨(ok.tell v hv).1, (ok.tell v hv).2.len⟩, ok.hn, ok.hm, fun H1 z s1 ⟨t, x, y, ez, ht, hx, hy⟩ => ?_⟩
      subst ez
      refine ⟨t, _, rfl, SqT.of ht, rfl, _, _, rfl, _, _, rfl, rfl, ?_⟩
      exact ⟨_, rfl, _, rfl, _, rfl, _, rfl, xr, xc, x, y, rs, cs, told, paper, rfl, h1.same s1, h2.same s1, hx, hy, ok.ro, ok.wid, fun v hv => (ok.tell v (.inl hv)).2, fun v hv => (ok.tell v (.inr hv)).2, ok.ans, ok.ap, ok.hn, Nat.le_trans ok.hm (by decide), fun H2 s2 => k _ (s1.trans s2)⟩
end
end LL
namespace LL
open PySem PySem.Spec PyProof.Rows L2
/-! ### the plain law -/
theorem mem_le_sum : ∀ {v : List Int}, (∀ x ∈ v, 0 ≤ x) → ∀ n ∈ v, n ≤ v.sum
  | [], _, n, h => by cases h
  | a :: r, p, n, h => by
    have pa := p a List.mem_cons_self
    have pr : ∀ x ∈ r, 0 ≤ x := fun x hx => p x (List.mem_cons_of_mem _ hx)
    have s0 : 0 ≤ r.sum := by
      clear h
      induction r with
      | nil => exact Int.le_refl _
      | cons b t ih =>
        rw [List.sum_cons]
        have := pr b List.mem_cons_self
        have := ih (fun x hx => p x (by rcases List.mem_cons.mp hx with rfl | hx; exact List.mem_cons_self; exact List.mem_cons_of_mem _ (List.mem_cons_of_mem _ hx))) fun x hx => pr x (List.mem_cons_of_mem _ hx)
        omega
    rw [List.sum_cons]
    rcases List.mem_cons.mp h with rfl | h
    · omega
    · have := mem_le_sum pr n h
      omega
section
variable {rs : List (List Int)} {cs : List (Option Int)} {told paper : List (List Int)}
theorem walked_tell (W : Walked rs cs told paper) (w1 : 1 ≤ cs.length) (w8 : cs.length ≤ 8) (hp : paper.length ≤ 90) {v : List Int} (h : v ∈ paper) : Tell v ∧ LetOk cs v := by
  obtain ⟨h1, h2, h3, h4, h5⟩ := W.vec v h
  refine ⟨⟨by omega, by omega, h2, fun n hn => ?_⟩, ⟨h1, h2, h3, h4⟩⟩
  have := mem_le_sum h2 n hn
  omega
theorem walked_apart (W : Walked rs cs told paper) (S : told.Pairwise fun v u => HT.lexLt u v = false) : Apart told := by
  have N := W.tolds
  have hm : ∀ v ∈ told, v ∈ paper := fun v hv => ((W.ans v).mp hv).1
  refine List.Pairwise.imp_of_mem (R := fun v u => HT.lexLt u v = false ∧ v ≠ u) (fun {a b} ha hb ⟨h1, h2⟩ => ?_) (List.Pairwise.and S N)
  have la := (W.vec a (hm a ha)).1
  have lb := (W.vec b (hm b hb)).1
  refine ⟨lexLt_tot (lb.trans la.symm) h1 (Ne.symm h2), ?_, ?_⟩
  · cases e : below a b with
    | false => rfl
    | true => exact absurd (W.least b (hm b hb) a ha e) h2
  · cases e : below b a with
    | false => rfl
    | true => exact absurd (W.least a (hm a ha) b hb e) (Ne.symm h2)
theorem look_of (W : Walked rs cs told paper) (S : told.Pairwise fun v u => HT.lexLt u v = false) (ro : RowsOk rs cs.length) (w1 : 1 ≤ cs.length) (w8 : cs.length ≤ 8) (hp : paper.length ≤ 90)
    {t q : List (List Int)} (ht : t.Sublist told) (hq : ∀ v ∈ q, v ∈ paper) (hm : q.length ≤ 1000) : LookOk rs cs t q := by
  have ht' : ∀ v ∈ t, v ∈ told := fun v hv => ht.subset hv
  refine ⟨fun v hv => ?_, ro, by omega, fun v hv => ((W.ans v).mp (ht' v hv)).2, (walked_apart W S).sublist ht, ?_, hm⟩
  · rcases hv with hv | hv
    · exact walked_tell W w1 w8 hp ((W.ans v).mp (ht' v hv)).1
    · exact walked_tell W w1 w8 hp (hq v hv)
  · have h1 := ht.length_le
    have h2 := nodup_len W.tolds fun v hv => ((W.ans v).mp hv).1
    omega
theorem told_le (W : Walked rs cs told paper) : told.length ≤ paper.length := nodup_len W.tolds fun v hv => ((W.ans v).mp hv).1
theorem erase_map {α β : Type} (f : α → β) : ∀ (l : List α) (i : Nat), (l.map f).eraseIdx i = (l.eraseIdx i).map f
  | [], _ => rfl
  | _ :: _, 0 => rfl
  | a :: l, i + 1 => by
    show f a :: (l.map f).eraseIdx i = f a :: (l.eraseIdx i).map f
    rw [erase_map f l i]
/-- a line left out: what is read is taken just where the line was a step to an answer -/
theorem left_out (W : Walked rs cs told paper) (S : told.Pairwise fun v u => HT.lexLt u v = false) (ro : RowsOk rs cs.length) (w1 : 1 ≤ cs.length) (w8 : cs.length ≤ 8) (hp : paper.length ≤ 90) {at_ : Nat} (h : at_ < told.length + paper.length) :
    ∃ t q, (linesT told paper).eraseIdx at_ = linesT t q ∧ LookOk rs cs t q ∧ holds rs cs t q = (decide (told.length ≤ at_) && isAns rs (paper.getD (at_ - told.length) [])) := by
  by_cases e : at_ < told.length
  · refine ⟨told.eraseIdx at_, paper, ?_, look_of W S ro w1 w8 hp (List.eraseIdx_sublist _ _) (fun _ h => h) (by omega), ?_⟩
    · rw [linesT, List.eraseIdx_append_of_lt_length (by rw [List.length_map]; exact e), linesT, erase_map]
    · rw [W.untold e, decide_eq_false (by omega)]
      rfl
  · refine ⟨told, paper.eraseIdx (at_ - told.length), ?_, look_of W S ro w1 w8 hp (List.Sublist.refl _) (fun v hv => List.mem_of_mem_eraseIdx hv) ?_, ?_⟩
    · rw [linesT, List.eraseIdx_append_of_length_le (by rw [List.length_map]; omega), linesT, erase_map, List.length_map]
    · have := List.length_eraseIdx_le paper (at_ - told.length)
      omega
    · have hi : at_ - told.length < paper.length := by omega
      rw [W.unstep hi, decide_eq_true (by omega), List.getD_eq_getElem?_getD, List.getElem?_eq_getElem hi]
      rfl
/-- a step line twice: taken -/
theorem put_twice (W : Walked rs cs told paper) (S : told.Pairwise fun v u => HT.lexLt u v = false) (ro : RowsOk rs cs.length) (w1 : 1 ≤ cs.length) (w8 : cs.length ≤ 8) (hp : paper.length ≤ 90) (hne : paper ≠ []) {r : Nat} (h : r < paper.length) :
    ∃ q, ∀ z, (linesT told paper).getLast? = some z → (linesT told paper).take (told.length + r) ++ [z] ++ (linesT told paper).drop (told.length + r) = linesT told q ∧ LookOk rs cs told q ∧ holds rs cs told q = true := by
  refine ⟨paper.take r ++ [paper.getLast hne] ++ paper.drop r, fun z hz => ⟨?_, ?_, ?_⟩⟩
  · have ez : z = lineT true (paper.getLast hne) := by
      rw [linesT, List.getLast?_append, List.getLast?_map, List.getLast?_eq_some_getLast hne] at hz
      exact (Option.some.inj hz).symm
    rw [ez, linesT, linesT, List.take_append, List.drop_append, List.length_map, show told.length + r - told.length = r by omega, List.take_of_length_le (by rw [List.length_map]; omega), List.drop_of_length_le (by rw [List.length_map]; omega),
      List.map_append, List.map_append, List.map_take, List.map_drop]
    simp
  · refine look_of W S ro w1 w8 hp (List.Sublist.refl _) (fun v hv => ?_) ?_
    · rcases List.mem_append.mp hv with hv | hv
      · rcases List.mem_append.mp hv with hv | hv
        · exact List.mem_of_mem_take hv
        · rw [List.mem_singleton.mp hv]
          exact List.getLast_mem hne
      · exact List.mem_of_mem_drop hv
    · rw [List.length_append, List.length_append, List.length_take, List.length_drop, List.length_singleton]
      omega
  · refine W.twice fun v => ⟨fun hv => ?_, fun hv => ?_⟩
    · rcases List.mem_append.mp hv with hv | hv
      · rcases List.mem_append.mp hv with hv | hv
        · exact List.mem_of_mem_take hv
        · rw [List.mem_singleton.mp hv]
          exact List.getLast_mem hne
      · exact List.mem_of_mem_drop hv
    · have e := List.take_append_drop r paper
      rw [← e] at hv
      rcases List.mem_append.mp hv with hv | hv
      · exact List.mem_append_left _ (List.mem_append_left _ hv)
      · exact List.mem_append_right _ hv
end
/-! cut lists -/
theorem cut_to (xs : List V) {j : Nat} (h : j ≤ xs.length) : cutV xs none (some (j : Int)) = xs.take j := by
  unfold cutV
  rw [HT.sIx_none, show HT.sIx xs.length xs.length (some (j : Int)) = min j xs.length from HT.sIx_nat _ _ _, Nat.min_eq_left h, List.drop_zero, Nat.sub_zero]
/-! data of vectors -/
def vecD (v : List Int) : PyData := .tuple (v.map PyData.int)
theorem dp_vec {K : PySem.W.Frag} {H : Hp} {x : V} {v : List Int} (h : IsVec H x v) : Dp K H x (vecD v) := by
  obtain ⟨a, rfl, ha⟩ := h
  exact .tup (SqT.of ha) (dp_ints v)
theorem dp_vecs {K : PySem.W.Frag} {H : Hp} : ∀ {xs : List V} {vs : List (List Int)}, Vecs H xs vs → DpAll K H xs (vs.map vecD)
  | _, _, .nil => .nil
  | _, _, .cons h t => .cons (dp_vec h) (dp_vecs t)
theorem lay_vecs : ∀ vs : List (List Int), PyData.canLayAll0 (vs.map vecD) = true
  | [] => rfl
  | v :: r => by
    show (PyData.canLay0 (vecD v) && PyData.canLayAll0 (r.map vecD)) = true
    rw [lay_vecs r, Bool.and_true]
    exact lay_ints v
theorem depth_vecs : ∀ vs : List (List Int), PyData.depthAll (vs.map vecD) ≤ 1
  | [] => Nat.zero_le _
  | v :: r => by
    show max (PyData.depthAll (v.map PyData.int) + 1) (PyData.depthAll (r.map vecD)) ≤ 1
    rw [depth_ints]
    exact Nat.max_le.mpr ⟨Nat.le_refl _, depth_vecs r⟩
theorem shape_vecs (vs : List (List Int)) : SeqAt.shaped (.tuple (vs.map vecD)) = true := by
  have h : PyData.canLay0 (.tuple (vs.map vecD)) = true := lay_vecs vs
  have d : PyData.depth (.tuple (vs.map vecD)) ≤ 64 := by
    show PyData.depthAll (vs.map vecD) + 1 ≤ 64
    have := depth_vecs vs
    omega
  rw [SeqAt.shaped, h, decide_eq_true d]
  rfl
end LL
namespace LL
open PySem PySem.Spec PyProof.Rows L2
abbrev sLaw : Stmt := top 49
/-- what a turn of the law holds -/
structure LawAt (p l tf at1 ap1 : Addr) (xr xc : V) (ts ps : List V) (rs : List (List Int)) (cs : List (Option Int)) (told paper : List (List Int)) (n : Nat) (H : Hp) : Prop where
  pot : PotAt H p l n
  htf : H tf = some (.tup [.ref at1, .ref ap1])
  hat : H at1 = some (.tup ts)
  hap : H ap1 = some (.tup ps)
  hts : Vecs H ts told
  hps : Vecs H ps paper
  hr : IsVecT H xr rs
  hc : IsCaps H xc cs
section
variable {p l tf at1 ap1 : Addr} {xr xc : V} {ts ps : List V} {rs : List (List Int)} {cs : List (Option Int)} {told paper : List (List Int)} {n m : Nat} {H H' : Hp}
theorem LawAt.tups (A : LawAt p l tf at1 ap1 xr xc ts ps rs cs told paper n H) (s : TupS H H') (q : PotAt H' p l m) : LawAt p l tf at1 ap1 xr xc ts ps rs cs told paper m H' :=
  ⟨q, s _ _ A.htf, s _ _ A.hat, s _ _ A.hap, A.hts.tups s, A.hps.tups s, A.hr.tups s, A.hc.tups s⟩
theorem LawAt.same (A : LawAt p l tf at1 ap1 xr xc ts ps rs cs told paper n H) (s : Same H H') : LawAt p l tf at1 ap1 xr xc ts ps rs cs told paper n H' := A.tups s.tups (A.pot.same s)
theorem LawAt.pot_ (A : LawAt p l tf at1 ap1 xr xc ts ps rs cs told paper n H) (s : PS p l H H') (q : PotAt H' p l m) : LawAt p l tf at1 ap1 xr xc ts ps rs cs told paper m H' := A.tups (A.pot.tups s) q
theorem LawAt.fnd (A : LawAt p l tf at1 ap1 xr xc ts ps rs cs told paper n H) : IsFound H (.ref tf) told paper := ⟨tf, _, _, rfl, A.htf, ⟨at1, ts, rfl, A.hat, A.hts⟩, ⟨ap1, ps, rfl, A.hap, A.hps⟩⟩
end
def spLaw (K : PySem.W.Frag) : Sp := fun vs H Q _ => ∃ (a : Addr) (ns : List Int), vs = [.ref a] ∧ SqL K H a (ns.map V.int) ∧ ns.length ≤ 63 ∧ ∀ H', Q (.bl true) H'
section
variable {P : Program} {w : World} {K : PySem.W.Frag} {mg : Str → Option Value} {base : Heap}
theorem scLaw : FnScope ["_law_script", "_law_pot_here", "_law_turn", "_law_rows_here", "_law_caps_here", "_law_found_here", "_law_text", "_law_lines", "_law_at", "_law_due"] ["_law_script"] (defScope sLaw) := ⟨rfl, rfl, rfl, by decide +kernel, rfl, by decide +kernel, by decide +kernel⟩
theorem ok_law {f : Addr} {fd : FuncData} (F : Fun K "law" "law" sLaw f fd) (B : Blt mg) (cpot : C8.Cal P w K mg base 1 "_law_pot" (spLPot K) []) (ctk : C8.Cal P w K mg base 1 "_law_take" spLTake []) (csys : C8.Cal P w K mg base 7 "_law_system" spLSystem [])
    (cshow : C8.Cal P w K mg base 2 "show_paper" spShowPaper []) (cread : C8.Cal P w K mg base 3 "read_paper" spReadPaper []) (csame : C8.Cal P w K mg base 4 "_law_same" (spLSame 3) []) (clook : C8.Cal P w K mg base 7 "_law_looked" spLLooked [])
    (cans : C8.Cal P w K mg base 2 "_law_answers" spLAnswers []) (ctru : C8.Cal P w K mg base 1 "_law_truth" spLTruth []) : FnOk P w K mg base CX0 8 f fd ["_law_script"] (spLaw K) := by
  refine F.ok scLaw (fun vs H Q E h => ?_) (fun cdv A outer s H vs Q E hr h => ?_)
  · obtain ⟨a, ns, rfl, _⟩ := h
    rfl
  · obtain ⟨a, ns, rfl, hS, hlen, k⟩ := h
    refine ⟨_, (pss_cons (ps_set (i := 1) scLaw.nd rfl (Or.inl rfl) (C8.pe_c cpot hr (by decide) (by rfl) (pa_cons (pv 0) pa_nil)))
      (pss_cons (ps_for PassesOwn.never rfl (pi_range1 (by rfl) B.range (pa_cons pe_int pa_nil)) (pg_name (i := 2) scLaw.nd rfl (Or.inl rfl))
      (pss_cons (ps_asg (C8.pe_c csys hr (by decide) (by rfl) (pa_cons (pv 1) (pa_cons pe_int pa_nil))) (pg_tup rfl (pgs_cons (pg_name (i := 3) scLaw.nd rfl (Or.inl rfl)) (pgs_cons (pg_name (i := 4) scLaw.nd rfl (Or.inl rfl)) (pgs_cons (pg_name (i := 5) scLaw.nd rfl (Or.inl rfl)) pgs_nil)))))
      (pss_one (ps_if (PW.pt (pw_and (pt_cmpR op_notN (pv 5) pe_non (nomark _)) (pw_and1 (pt_cmpR (op_neD hr.units) (pe_ix ix_tup (pv 5) pe_int (fun _ _ => rfl)) (pe_tup pa_nil) (nomark _))))) (pss_cons (ps_set (i := 6) scLaw.nd rfl (Or.inl rfl) (C8.pe_c cshow hr (by decide) (by rfl) (pa_cons (pe_ix ix_tup (pv 5) pe_int (fun _ _ => rfl)) (pa_cons (pe_ix ix_tup (pv 5) pe_int (fun _ _ => rfl)) pa_nil))))
      (pss_cons (ps_if (PW.pt (pw_or (pt_not (pt_val (pe_callB call_isi (by rfl) B.isinstance (by decide +kernel) (pa_cons (pv 6) (pa_cons (pe_bltn (v := .ty "str") (by rfl) B.str (by decide +kernel) rfl) pa_nil))))) (pw_or1 (pt_not (pt_val (C8.pe_c csame hr (by decide) (by rfl) (pa_cons (C8.pe_c cread hr (by decide) (by rfl) (pa_cons (pv 6) pa_nil)) (pa_cons (pv 5) pa_nil)))))))) (pss_one (ps_ret pe_bl)) pss_nil)
      (pss_cons (ps_set (i := 7) scLaw.nd rfl (Or.inl rfl) (pe_split (pv 6) pe_str))
      (pss_cons (ps_if (PW.pt (pw_or (pt_cmpR op_isnot_bl (C8.pe_c clook hr (by decide) (by rfl) (pa_cons (pv 3) (pa_cons (pv 4) (pa_cons (pv 7) pa_nil)))) pe_bl (nomark _)) (pw_or1 (pt_cmpR op_ne (pe_callB call_len_seq (by rfl) B.len PySem.boot_len (pa_cons (pv 7) pa_nil)) (pe_op op_add (pe_callB call_len_seq (by rfl) B.len PySem.boot_len (pa_cons (pe_ix ix_tup (pv 5) pe_int (fun _ _ => rfl)) pa_nil)) (pe_callB call_len_seq (by rfl) B.len PySem.boot_len (pa_cons (pe_ix ix_tup (pv 5) pe_int (fun _ _ => rfl)) pa_nil))) (nomark _))))) (pss_one (ps_ret pe_bl)) pss_nil)
      (pss_cons (ps_set (i := 8) scLaw.nd rfl (Or.inl rfl) (C8.pe_c ctk hr (by decide) (by rfl) (pa_cons (pv 1) (pa_cons (pe_callB call_len_seq (by rfl) B.len PySem.boot_len (pa_cons (pv 7) pa_nil)) pa_nil))))
      (C8.pss_cut (ps_set (i := 9) scLaw.nd rfl (Or.inl rfl) (pe_and (pe_cmpR op_ge (pv 8) (pe_callB call_len_seq (by rfl) B.len PySem.boot_len (pa_cons (pe_ix ix_tup (pv 5) pe_int (fun _ _ => rfl)) pa_nil)) (nomark _)) (pe_one (C8.pe_c cans hr (by decide) (by rfl) (pa_cons (pv 3) (pa_cons (pe_ix ix_tup (pe_ix ix_tup (pv 5) pe_int (fun _ _ => rfl)) (pe_op op_sub (pv 8) (pe_callB call_len_seq (by rfl) B.len PySem.boot_len (pa_cons (pe_ix ix_tup (pv 5) pe_int (fun _ _ => rfl)) pa_nil))) (fun _ _ => rfl)) pa_nil)))))) (pss_cons (ps_if (pt_not (pt_val (C8.pe_c ctru hr (by decide) (by rfl) (pa_cons (C8.pe_c clook hr (by decide) (by rfl) (pa_cons (pv 3) (pa_cons (pv 4) (pa_cons (pe_op op_cat (pe_slice sl_list (pv 7) po_none (po_some (pv 8))) (pe_slice sl_list (pv 7) (po_some (pe_op op_add (pv 8) pe_int)) po_none)) pa_nil)))) (pa_cons (pv 9) pa_nil))))) (pss_one (ps_ret pe_bl)) pss_nil)
      (pss_cons (ps_set (i := 8) scLaw.nd rfl (Or.inl rfl) (pe_op op_add (pe_callB call_len_seq (by rfl) B.len PySem.boot_len (pa_cons (pe_ix ix_tup (pv 5) pe_int (fun _ _ => rfl)) pa_nil)) (C8.pe_c ctk hr (by decide) (by rfl) (pa_cons (pv 1) (pa_cons (pe_callB call_len_seq (by rfl) B.len PySem.boot_len (pa_cons (pe_ix ix_tup (pv 5) pe_int (fun _ _ => rfl)) pa_nil)) pa_nil)))))
      (pss_one (ps_if (pt_cmpR op_isnot_bl (C8.pe_c clook hr (by decide) (by rfl) (pa_cons (pv 3) (pa_cons (pv 4) (pa_cons (pe_op op_cat (pe_op op_cat (pe_slice sl_list (pv 7) po_none (po_some (pv 8))) (pe_lst (pa_cons (pe_ix ix_list (pv 7) (pe_un un_neg pe_int) (fun _ _ => rfl)) pa_nil))) (pe_slice sl_list (pv 7) (po_some (pv 8)) po_none)) pa_nil)))) pe_bl (nomark _)) (pss_one (ps_ret pe_bl)) pss_nil)))))))))) pss_nil))))
      (pss_one (ps_ret (pe_cmpR (op_eqD hr.units) (C8.pe_c cread hr (by decide) (by rfl) (pa_cons (C8.pe_c cshow hr (by decide) (by rfl) (pa_cons (pe_tup pa_nil) (pa_cons (pe_tup pa_nil) pa_nil))) pa_nil)) (pe_tup (pa_cons (pe_tup pa_nil) (pa_cons (pe_tup pa_nil) pa_nil))) (nomark _)))))), ?_⟩
    refine ⟨_, rfl, a, ns, rfl, hS, hlen, fun H1 p l pot => ?_⟩
    refine ⟨3, rfl, by decide, by decide, for_it walk_range (fun i σ H' => ∃ v2 v3 v4 v5 v6 v7 v8 v9, σ = [some (.ref a), some (.ref p), v2, v3, v4, v5, v6, v7, v8, v9] ∧ PotAt H' p l (400 * i))
      ⟨none, none, none, none, none, none, none, none, rfl, pot⟩ (fun _ _ _ _ _ => trivial) (fun i x σ H2 H3 hi hP y => ?_) (fun σ H2 hP => ?_)⟩
    · obtain ⟨v2, v3, v4, v5, v6, v7, v8, v9, rfl, pot2⟩ := hP
      obtain ⟨rfl, ey⟩ := y
      have hi3 : i < 3 := hi
      refine ⟨_, rfl, p, l, 400 * i, rfl, pot2, by omega, fun H4 z s4 pot4 hz => ?_⟩
      obtain ⟨t, xr, xc, xf, rs, cs, rfl, ht, hr1, hc1, hf, ro, w1, w8⟩ := hz
      refine ⟨t, _, rfl, SqT.of ht, rfl, _, _, rfl, _, _, rfl, _, _, rfl, rfl, ?_⟩
      refine ⟨_, rfl, rfl, _, rfl, ?_⟩
      rcases hf with rfl | ⟨told, paper, hF, hL⟩
      · exact iteF (iteF ⟨_, _, _, _, _, _, _, _, rfl, pot4.le (by omega)⟩)
      · obtain ⟨tf, xt, xp, rfl, htf, ⟨at1, ts, rfl, hat, hts⟩, ⟨ap1, ps, rfl, hap, hps⟩⟩ := id hF
        refine iteT ?_
        refine ⟨_, rfl, tf, _, 1, _, rfl, rfl, SqT.of htf, atI_nat (j := 1) rfl, Nat.zero_le _, fun q nq => ?_⟩
        have sq := same_new (o := .tup []) nq
        have hq : (upd H4 q (.tup [])) q = some (.tup []) := upd_same
        have pot5 := pot4.same sq
        have hF5 := hF.same sq
        have hr5 := hr1.same sq
        have hc5 := hc1.same sq
        have htf5 := sq _ _ htf
        have hat5 := sq _ _ hat
        have hap5 := sq _ _ hap
        have hts5 := hts.same sq
        have hps5 := hps.same sq
        generalize upd H4 q (.tup []) = H5 at *
        refine ⟨_, _, .tup (SqT.of hap5) (dp_vecs hps5), .tup (SqT.of hq) .nil, shape_vecs paper, rfl, _, rfl, ?_⟩
        by_cases hne : paper = []
        · subst hne
          exact iteF ⟨_, _, _, _, _, _, _, _, rfl, pot5.le (by omega)⟩
        · obtain ⟨W, S, hp90⟩ := hL.resolve_left fun z => hne z.1
          have e0 : (!PyData.eqv (.tuple (paper.map vecD)) (.tuple [])) = true := by
            cases paper with
            | nil => exact absurd rfl hne
            | cons v r => rfl
          rw [e0]
          refine iteT ?_
          have A5 : LawAt p l tf at1 ap1 xr xc ts ps rs cs told paper (400 * i + 300) H5 := ⟨pot5, htf5, hat5, hap5, hts5, hps5, hr5, hc5⟩
          clear hF hL hF5 hr5 hc5 htf5 hat5 hap5 hts5 hps5 hts hps hat hap htf hr1 hc1 hq e0
          have lk := look_of W S ro w1 w8 hp90 (List.Sublist.refl _) (fun _ h => h) (show paper.length ≤ 1000 by omega)
          have T : ∀ v, v ∈ told ∨ v ∈ paper → Tell v := fun v hv => (lk.tell v hv).1
          have lt := told_le W
          have hpos : 0 < paper.length := List.length_pos_iff.mpr hne
          have lts := plen A5.hts
          have lps := plen A5.hps
          refine ⟨_, rfl, tf, _, 0, _, rfl, rfl, SqT.of A5.htf, atI_nat (j := 0) rfl, _, rfl, tf, _, 1, _, rfl, rfl, SqT.of A5.htf, atI_nat (j := 1) rfl, ?_⟩
          refine ⟨_, _, told, paper, rfl, ⟨at1, ts, rfl, A5.hat, A5.hts⟩, ⟨ap1, ps, rfl, A5.hap, A5.hps⟩, T, by omega, by omega, fun H6 s6 => ?_⟩
          have A6 := A5.same s6
          refine ⟨_, rfl, .str (textT told paper), .ty "str", .type "str", .type "str", true, rfl, .ty _, .base (.str _), kit_ty (by decide +kernel), true, rfl, iteF ?_⟩
          refine ⟨_, rfl, told, paper, cs.length, rfl, fun v hv => ⟨T v hv, (lk.tell v hv).2.len⟩, by omega, by omega, fun H7 z7 s7 hz7 => ?_⟩
          have A7 := A6.same s7
          refine ⟨_, rfl, z7, .ref tf, rfl, same_found (fun v hv => by have := (T v hv).len; omega) (by omega) (by omega) hz7 A7.fnd, fun H8 s8 => ⟨_, rfl, iteF ?_⟩⟩
          have A8 := A7.same s8
          have hlne : linesT told paper ≠ [] := fun z => by
            have := congrArg List.length z
            rw [lines_len] at this
            have e : told.length + paper.length = 0 := this
            omega
          refine ⟨_, rfl, ⟨_, rfl⟩, _, _, rfl, rfl, by decide +kernel, ?_, fun L nL => ?_⟩
          · have := text_len T
            have := Nat.mul_le_mul_right 175 (show told.length + paper.length ≤ 180 by omega)
            rw [sizeLine_eq]
            omega
          rw [text_split hlne fun v hv => (T v hv).pos]
          have sL := same_new (o := .lst ((linesT told paper).map V.str)) nL
          have offL := A8.pot.off nL
          have hL9 : (upd H8 L (.lst ((linesT told paper).map V.str))) L = some (.lst ((linesT told paper).map V.str)) := upd_same
          have A9 := A8.same sL
          generalize upd H8 L (.lst ((linesT told paper).map V.str)) = H9 at *
          refine ⟨_, rfl, _, rfl, _, rfl, xr, xc, L, rs, cs, told, paper, rfl, A9.hr, A9.hc, hL9, lk, fun H10 s10 => ?_⟩
          rw [W.taken]
          have A10 := A9.same s10
          have hL10 := s10 _ _ hL9
          refine ⟨_, _, rfl, rfl, _, rfl, iteF ?_⟩
          refine ⟨_, rfl, L, _, rfl, .inl (SqL.of hL10), _, rfl, tf, _, 0, _, rfl, rfl, SqT.of A10.htf, atI_nat (j := 0) rfl, at1, _, rfl, .inr (SqT.of A10.hat), _, rfl, tf, _, 1, _, rfl, rfl, SqT.of A10.htf, atI_nat (j := 1) rfl, ap1, _, rfl, .inr (SqT.of A10.hap), _, _, rfl, rfl, rfl, _, rfl, ?_⟩
          have ll := lines_len (told := told) (paper := paper)
          have el : V.int ((((linesT told paper).map V.str).length : Nat) : Int) = V.int ((ts.length : Int) + (ps.length : Int)) := by
            rw [List.length_map, ll, lts, lps, Int.natCast_add]
          refine iteNS el ?_
          refine ⟨_, rfl, _, rfl, L, _, rfl, .inl (SqL.of hL10), p, l, _, _, rfl, A10.pot, by omega, by rw [List.length_map, ll]; omega, by rw [List.length_map, ll]; omega, fun H11 ai s11 pot11 a0 a1 => ?_⟩
          rw [List.length_map, ll] at a1
          obtain ⟨an, rfl⟩ := Int.eq_ofNat_of_zero_le a0
          have A11 := A10.pot_ s11 pot11
          have hL11 := s11 _ _ offL.1 offL.2 hL10
          have han : an < told.length + paper.length := by omega
          refine ⟨fun σ' H' => σ' = [some (.ref a), some (.ref p), some x, some xr, some xc, some (.ref tf), some (.str (textT told paper)), some (.ref L), some (.int (an : Int)), some (.bl (decide (told.length ≤ an) && isAns rs (paper.getD (an - told.length) [])))] ∧ Same H11 H', ?_, ?_⟩
          · refine ⟨_, rfl, _, rfl, tf, _, 0, _, rfl, rfl, SqT.of A11.htf, atI_nat (j := 0) rfl, at1, _, rfl, .inr (SqT.of A11.hat), _, _, rfl, rfl, ?_⟩
            have eb : decide ((ts.length : Int) ≤ (an : Int)) = decide (told.length ≤ an) := by
              rw [decide_eq_decide, lts]
              omega
            refine ⟨decide ((ts.length : Int) ≤ (an : Int)), rfl, ?_⟩
            rw [eb]
            by_cases h : told.length ≤ an
            · rw [decide_eq_true h, Bool.true_and]
              refine iteT ?_
              have hj : an - told.length < paper.length := by omega
              obtain ⟨y, hy⟩ : ∃ y, ps[an - told.length]? = some y := ⟨_, List.getElem?_eq_getElem (by omega)⟩
              obtain ⟨hv, hm⟩ := vec_at A11.hps hy
              have el2 : (an : Int) - (ts.length : Int) = ((an - told.length : Nat) : Int) := by rw [lts]; omega
              refine ⟨_, rfl, _, rfl, tf, _, 1, _, rfl, rfl, SqT.of A11.htf, atI_nat (j := 1) rfl, _, rfl, _, rfl, tf, _, 0, _, rfl, rfl, SqT.of A11.htf, atI_nat (j := 0) rfl, at1, _, rfl, .inr (SqT.of A11.hat), _, _, rfl, rfl, ap1, _, _, y, rfl, rfl, SqT.of A11.hap, by rw [el2]; exact atI_nat hy, ?_⟩
              have hvl : (paper.getD (an - told.length) []).length = cs.length := (lk.tell _ (.inr hm)).2.len
              exact ⟨xr, y, rs, _, rfl, A11.hr, hv, hvl.symm ▸ ro, by omega, fun H12 s12 => ⟨rfl, s12⟩⟩
            · rw [decide_eq_false h]
              exact iteF ⟨rfl, Same.refl _⟩
          · rintro σ' H12 ⟨rfl, s12⟩
            have A12 := A11.same s12
            have hL12 := s12 _ _ hL11
            have hlL : ((linesT told paper).map V.str).length = told.length + paper.length := by rw [List.length_map, ll]
            refine ⟨_, rfl, _, rfl, _, rfl, _, rfl, _, rfl, L, _, rfl, SqL.of hL12, fun q1 n1 => ?_⟩
            rw [cut_to _ (by omega)]
            have sq1 := same_new (o := .lst (((linesT told paper).map V.str).take an)) n1
            refine ⟨_, rfl, _, rfl, _, _, rfl, rfl, _, rfl, L, _, rfl, SqL.of (sq1 _ _ hL12), fun q2 n2 => ?_⟩
            have ec : cutV ((linesT told paper).map V.str) (some ((an : Int) + 1)) none = ((linesT told paper).map V.str).drop (an + 1) := by
              rw [show ((an : Int) + 1) = ((an + 1 : Nat) : Int) by omega]
              exact cut_from _ (by omega)
            rw [ec]
            have sq2 := same_new (o := .lst (((linesT told paper).map V.str).drop (an + 1))) n2
            refine ⟨q1, q2, _, _, rfl, rfl, sq2 _ _ upd_same, upd_same, by rw [List.length_take, List.length_drop, sizeLine_eq]; omega, fun q3 n3 => ?_⟩
            have sq3 := same_new (o := .lst (((linesT told paper).map V.str).take an ++ ((linesT told paper).map V.str).drop (an + 1))) n3
            obtain ⟨t1, p1, e1, lk1, ho1⟩ := left_out W S ro w1 w8 hp90 han
            have hq3 : (upd (upd (upd H12 q1 (.lst (((linesT told paper).map V.str).take an))) q2 (.lst (((linesT told paper).map V.str).drop (an + 1)))) q3 (.lst (((linesT told paper).map V.str).take an ++ ((linesT told paper).map V.str).drop (an + 1)))) q3 = some (.lst ((linesT t1 p1).map V.str)) := by
              rw [upd_same, ← e1, ← erase_map, List.eraseIdx_eq_take_drop_succ]
            have s123 := sq1.trans (sq2.trans sq3)
            have A13 := A12.same s123
            have hL13 := s123 _ _ hL12
            generalize upd (upd (upd H12 q1 (.lst (((linesT told paper).map V.str).take an))) q2 (.lst (((linesT told paper).map V.str).drop (an + 1)))) q3 (.lst (((linesT told paper).map V.str).take an ++ ((linesT told paper).map V.str).drop (an + 1))) = H13 at *
            refine ⟨xr, xc, q3, rs, cs, t1, p1, rfl, A13.hr, A13.hc, hq3, lk1, fun H14 s14 => ?_⟩
            have A14 := A13.same s14
            have hL14 := s14 _ _ hL13
            refine ⟨_, rfl, _, _, rfl, ho1, _, rfl, iteF ?_⟩
            refine ⟨_, rfl, tf, _, 0, _, rfl, rfl, SqT.of A14.htf, atI_nat (j := 0) rfl, at1, _, rfl, .inr (SqT.of A14.hat), ?_⟩
            refine ⟨_, rfl, _, rfl, tf, _, 1, _, rfl, rfl, SqT.of A14.htf, atI_nat (j := 1) rfl, ap1, _, rfl, .inr (SqT.of A14.hap), p, l, _, _, rfl, A14.pot, by omega, by omega, by omega, fun H15 bi s15 pot15 b0 b1 => ?_⟩
            obtain ⟨bn, rfl⟩ := Int.eq_ofNat_of_zero_le b0
            have A15 := A14.pot_ s15 pot15
            have hL15 := s15 _ _ offL.1 offL.2 hL14
            have hbn : bn < paper.length := by omega
            refine ⟨_, _, rfl, rfl, ?_⟩
            show gName 8 (V.int ((ts.length : Int) + (bn : Int))) _ _ _
            rw [show ((ts.length : Int) + (bn : Int)) = ((told.length + bn : Nat) : Int) by rw [lts]; omega]
            obtain ⟨z, hz⟩ : ∃ z, (linesT told paper).getLast? = some z := ⟨_, List.getLast?_eq_some_getLast hlne⟩
            obtain ⟨p2, hp2⟩ := put_twice W S ro w1 w8 hp90 hne hbn
            obtain ⟨e2, lk2, ho2⟩ := hp2 z hz
            have hat1 : atI ((linesT told paper).map V.str) (-1) = some (.str z) := by
              obtain ⟨ys, ey2⟩ := List.getLast?_eq_some_iff.mp hz
              rw [ey2, List.map_append]
              exact L2.atI_last _ _
            have hle : told.length + bn ≤ ((linesT told paper).map V.str).length := by omega
            refine ⟨_, rfl, _, rfl, _, rfl, _, rfl, _, rfl, L, _, rfl, SqL.of hL15, fun q4 n4 => ?_⟩
            rw [cut_to _ hle]
            have sq4 := same_new (o := .lst (((linesT told paper).map V.str).take (told.length + bn))) n4
            have h4 : (upd H15 q4 (.lst (((linesT told paper).map V.str).take (told.length + bn)))) q4 = _ := upd_same
            have hL16 := sq4 _ _ hL15
            have A16 := A15.same sq4
            generalize upd H15 q4 (.lst (((linesT told paper).map V.str).take (told.length + bn))) = H16 at *
            refine ⟨_, rfl, _, rfl, L, _, _, _, rfl, rfl, SqL.of hL16, hat1, by show 1 ≤ sizeLine; decide, fun q5 n5 => ?_⟩
            have sq5 := same_new (o := .lst [V.str z]) n5
            have h5 : (upd H16 q5 (.lst [V.str z])) q5 = _ := upd_same
            have hL17 := sq5 _ _ hL16
            have h4' := sq5 _ _ h4
            have A17 := A16.same sq5
            generalize upd H16 q5 (.lst [V.str z]) = H17 at *
            refine ⟨q4, q5, _, _, rfl, rfl, h4', h5, by rw [List.length_take, List.length_singleton, sizeLine_eq]; omega, fun q6 n6 => ?_⟩
            have sq6 := same_new (o := .lst (((linesT told paper).map V.str).take (told.length + bn) ++ [V.str z])) n6
            have h6 : (upd H17 q6 (.lst (((linesT told paper).map V.str).take (told.length + bn) ++ [V.str z]))) q6 = _ := upd_same
            have hL18 := sq6 _ _ hL17
            have A18 := A17.same sq6
            generalize upd H17 q6 (.lst (((linesT told paper).map V.str).take (told.length + bn) ++ [V.str z])) = H18 at *
            refine ⟨_, rfl, _, rfl, _, rfl, L, _, rfl, SqL.of hL18, fun q7 n7 => ?_⟩
            rw [cut_from _ hle]
            have sq7 := same_new (o := .lst (((linesT told paper).map V.str).drop (told.length + bn))) n7
            have h7 : (upd H18 q7 (.lst (((linesT told paper).map V.str).drop (told.length + bn)))) q7 = _ := upd_same
            have h6' := sq7 _ _ h6
            have A19 := A18.same sq7
            generalize upd H18 q7 (.lst (((linesT told paper).map V.str).drop (told.length + bn))) = H19 at *
            refine ⟨q6, q7, _, _, rfl, rfl, h6', h7, by rw [List.length_append, List.length_take, List.length_drop, List.length_singleton, sizeLine_eq]; omega, fun q8 n8 => ?_⟩
            have sq8 := same_new (o := .lst (((linesT told paper).map V.str).take (told.length + bn) ++ [V.str z] ++ ((linesT told paper).map V.str).drop (told.length + bn))) n8
            have h8 : (upd H19 q8 (.lst (((linesT told paper).map V.str).take (told.length + bn) ++ [V.str z] ++ ((linesT told paper).map V.str).drop (told.length + bn)))) q8 = some (.lst ((linesT told p2).map V.str)) := by
              rw [upd_same, ← e2, List.map_append, List.map_append, List.map_take, List.map_drop]
              rfl
            have A20 := A19.same sq8
            generalize upd H19 q8 (.lst (((linesT told paper).map V.str).take (told.length + bn) ++ [V.str z] ++ ((linesT told paper).map V.str).drop (told.length + bn))) = H20 at *
            refine ⟨xr, xc, q8, rs, cs, told, p2, rfl, A20.hr, A20.hc, h8, lk2, fun H21 s21 => ?_⟩
            rw [ho2]
            refine ⟨_, _, rfl, rfl, _, rfl, iteF ?_⟩
            exact ⟨_, _, _, _, _, _, _, _, rfl, (A20.same s21).pot.le (by omega)⟩
    · obtain ⟨v2, v3, v4, v5, v6, v7, v8, v9, rfl, pot2⟩ := hP
      refine ⟨Nat.zero_le _, fun q1 n1 => ⟨Nat.zero_le _, fun q2 n2 => ?_⟩⟩
      have s1 := same_new (o := .tup []) n1
      have s2 := same_new (o := .tup []) n2
      refine ⟨_, _, [], [], rfl, ⟨q1, [], rfl, s2 _ _ upd_same, .nil⟩, ⟨q2, [], rfl, upd_same, .nil⟩, fun v hv => (by rcases hv with hv | hv <;> cases hv), Nat.zero_le _, Nat.zero_le _, fun H5 s5 => ?_⟩
      refine ⟨[], [], 1, rfl, fun v hv => (by rcases hv with hv | hv <;> cases hv), Nat.zero_le _, Nat.zero_le _, fun H6 z s6 hz => ?_⟩
      obtain ⟨t, x, y, rfl, ht, ⟨ta, txs, rfl, hta, htx⟩, ⟨tb, tys, rfl, htb, hty⟩⟩ := hz
      cases htx
      cases hty
      refine ⟨Nat.zero_le _, fun q3 n3 => ⟨Nat.zero_le _, fun q4 n4 => ⟨by show 2 ≤ sizeLine; decide, fun q5 n5 => ?_⟩⟩⟩
      have s3 := same_new (o := .tup []) n3
      have s4 := same_new (o := .tup []) n4
      have s7 := same_new (o := .tup [V.ref q3, .ref q4]) n5
      have s345 := s3.trans (s4.trans s7)
      exact ⟨_, _, .tup (SqT.of (s345 _ _ ht)) (.cons (.tup (SqT.of (s345 _ _ hta)) .nil) (.cons (.tup (SqT.of (s345 _ _ htb)) .nil) .nil)),
        .tup (SqT.of upd_same) (.cons (.tup (SqT.of ((s4.trans s7) _ _ upd_same)) .nil) (.cons (.tup (SqT.of (s7 _ _ upd_same)) .nil) .nil)), rfl, rfl, k _⟩
end
end LL
namespace LL
open PySem PySem.Spec PyProof.Rows L2
/-! ### what the top has written -/
/-- a def under its own name -/
def TopDef (K : PySem.W.Frag) (x : Str) (st : Stmt) : Prop := ∃ (f : Addr) (oc kV dc pm cd ct : Value) (od an : Option Addr) (sl : Array (Option Value)), PySem.W.nsIn K mainGlobals x = some (some (.ref f)) ∧
  K.lookup f = some ⟨oc, od, .func (PySem.W.fnOf x x (defArgs st) (defBody st) (defScope st) .none kV dc pm an cd ct), sl⟩ ∧ PySem.W.codeIn K cd x = true ∧ PySem.W.keepIn K (.ref f) = true
theorem topDef_mk {K : PySem.W.Frag} {x : Str} {st : Stmt} {f : Addr} {oc kV dc pm cd ct : Value} {od an : Option Addr} {sl : Array (Option Value)} (a : PySem.W.nsIn K mainGlobals x = some (some (.ref f)))
    (l : K.lookup f = some ⟨oc, od, .func (PySem.W.fnOf x x (defArgs st) (defBody st) (defScope st) .none kV dc pm an cd ct), sl⟩) (c : PySem.W.codeIn K cd x = true) (k : PySem.W.keepIn K (.ref f) = true) : TopDef K x st :=
  ⟨f, oc, kV, dc, pm, cd, ct, od, an, sl, a, l, c, k⟩
/-- a method of the class at C -/
def MetDef (K : PySem.W.Frag) (C : Addr) (m qual : Str) (st : Stmt) : Prop := ∃ (f : Addr) (oc kV dc pm cd ct : Value) (od an : Option Addr) (sl : Array (Option Value)), PySem.W.findIn K (.ref C) m = some (some (.ref f)) ∧ PySem.W.isFn K (.ref f) = true ∧
  K.lookup f = some ⟨oc, od, .func (PySem.W.fnOf m qual (defArgs st) (defBody st) (defScope st) .none kV dc pm an cd ct), sl⟩ ∧ PySem.W.codeIn K cd qual = true ∧ PySem.W.keepIn K (.ref f) = true
theorem metDef_mk {K : PySem.W.Frag} {C : Addr} {m qual : Str} {st : Stmt} {f : Addr} {oc kV dc pm cd ct : Value} {od an : Option Addr} {sl : Array (Option Value)} (a : PySem.W.findIn K (.ref C) m = some (some (.ref f))) (i : PySem.W.isFn K (.ref f) = true)
    (l : K.lookup f = some ⟨oc, od, .func (PySem.W.fnOf m qual (defArgs st) (defBody st) (defScope st) .none kV dc pm an cd ct), sl⟩) (c : PySem.W.codeIn K cd qual = true) (k : PySem.W.keepIn K (.ref f) = true) : MetDef K C m qual st :=
  ⟨f, oc, kV, dc, pm, cd, ct, od, an, sl, a, i, l, c, k⟩
section
variable {K : PySem.W.Frag} {h : Heap} {mg : Str → Option Value} {x m qual : Str} {st : Stmt} {C : Addr} {ps : List Str}
def BindsAs (x qual : Str) (st : Stmt) (ps : List Str) : Prop := ∀ (kV doc pm : Value) (an : Option Addr) (cdv ct : Value) (us : List Value), us.length = ps.length → bindArgs (PySem.W.fnOf x qual (defArgs st) (defBody st) (defScope st) .none kV doc pm an cdv ct) ⟨us, []⟩ = pure (ps.zip us)
theorem TopDef.fnB (T : TopDef K x st) (X : K.In h) (G : h.Ns mainGlobals mg) (b : BindsAs x x st ps) : ∃ (f : Addr) (fd : FuncData), Fun K x x st f fd ∧ mg x = some (.ref f) ∧ Binds K fd ps [] := by
  obtain ⟨f, oc, kV, dc, pm, cd, ct, od, an, sl, a, l, c, k⟩ := T
  have F := fun_mk (st := st) l c k
  exact ⟨f, _, F, PySem.W.mg_of X G a, F.binds b⟩
theorem TopDef.dn (T : TopDef K x st) (X : K.In h) (G : h.Ns mainGlobals mg) (b : BindsAs x x st ps) : Dn K mg x st ps := ⟨T.fnB X G b⟩
theorem MetDef.mn (T : MetDef K C m qual st) (b : BindsAs m qual st ps) : Mn K C m qual st ps := by
  obtain ⟨f, oc, kV, dc, pm, cd, ct, od, an, sl, a, i, l, c, k⟩ := T
  have F := fun_mk (st := st) l c k
  exact ⟨f, _, F, ⟨a, i, k⟩, F.binds b⟩
theorem MetDef.ini (T : MetDef K C "__init__" qual st) (mk : PySem.W.makesIn K C = true) (kc : PySem.W.keepIn K (.ref C) = true) (b : BindsAs "__init__" qual st ps) : ∃ (f : Addr) (fd : FuncData), Fun K "__init__" qual st f fd ∧ Mk K C f ∧ Binds K fd ps [] := by
  obtain ⟨f, oc, kV, dc, pm, cd, ct, od, an, sl, a, i, l, c, k⟩ := T
  have F := fun_mk (st := st) l c k
  exact ⟨f, _, F, ⟨mk, a, i, kc⟩, F.binds b⟩
end
/-- an error of the class at S is what except S names -/
theorem exm_own {K : PySem.W.Frag} {S : Addr} (h1 : PySem.W.subIn K (.ref S) (.type "BaseException") = some true) (h2 : PySem.W.isClsIn K S = true) (h3 : PySem.W.typeIn K (.ref S) = some (.type "type")) (h4 : PySem.W.subIn K (.ref S) (.ref S) = some true) :
    PySem.W.exmOne K (.ref S) (.ref S) = some true := by
  have e1 : (PySem.W.subIn K (.ref S) (.type "BaseException") == some true) = true := by rw [h1] <;> rfl
  have e2 : ((PySem.W.clsIn K S).isSome && PySem.W.typeIn K (.ref S) == some (.type "type")) = true := by
    have h5 : (PySem.W.clsIn K S).isSome = true := h2
    rw [h5, h3] <;> rfl
  unfold PySem.W.exmOne
  rw [if_pos e1]
  exact (if_pos e2).trans h4
/-- a class of the package -/
structure ClsIn (K : PySem.W.Frag) (C : Addr) : Prop where
  pg : PySem.W.plainGet K C Str.empty = true
  hd : PySem.W.hasDictIn K C = true
  po : PySem.W.plainOver K C = true
  sa : PySem.W.findIn K (.ref C) "__setattr__" = some (some (.builtin "object.__setattr__"))
  mks : PySem.W.makesIn K C = true
  kc : PySem.W.keepIn K (.ref C) = true
theorem all_mk {l : PySem.W.OpenLaw} {w : World} {K : PySem.W.Frag} {h : Heap} {mg : Str → Option Value} {fa CF CL CT : Addr} {t1 t2 t3 : Tok} (X : K.In h) (G : h.Ns mainGlobals mg) (hfa : mg "law" = some (.ref fa))
    (aF : PySem.W.nsIn K mainGlobals "Finder" = some (some (.ref CF))) (aL : PySem.W.nsIn K mainGlobals "Look" = some (some (.ref CL))) (aT : PySem.W.nsIn K mainGlobals "TooMany" = some (some (.ref CT)))
    (q1 : PySem.W.nsIn K mainGlobals "FIGURES" = some (some (.str ("0123456789" : Str) t1))) (q2 : PySem.W.nsIn K mainGlobals "MOST_PAPER_FIGURES" = some (some (.int 60 t2))) (q3 : PySem.W.nsIn K mainGlobals "MOST_WIDTH" = some (some (.int 8 t3)))
    (d_below : TopDef K "below" sBelow)
    (d_plus : TopDef K "plus" sPlus)
    (d_unit : TopDef K "unit" sUnit)
    (d_above_any : TopDef K "above_any" sAboveAny)
    (d_within : TopDef K "within" sWithin)
    (d_sums : TopDef K "sums" sSums)
    (d_is_answer : TopDef K "is_answer" sIsAnswer)
    (d_pull_by : TopDef K "pull_by" sPullBy)
    (d_falls : TopDef K "falls" sFalls)
    (d_least : TopDef K "least" sLeast)
    (d_is_number : TopDef K "is_number" sIsNumber)
    (d_is_let : TopDef K "is_let" sIsLet)
    (d_are_let : TopDef K "are_let" sAreLet)
    (d_stand_apart : TopDef K "stand_apart" sStandApart)
    (d_shows : TopDef K "shows" sShows)
    (d_is_figures : TopDef K "is_figures" sIsFigures)
    (d_vector_of : TopDef K "vector_of" sVectorOf)
    (d_read_paper : TopDef K "read_paper" sReadPaper)
    (d_numbers_text : TopDef K "numbers_text" sNumbersText)
    (d_show_paper : TopDef K "show_paper" sShowPaper)
    (d__law_pot : TopDef K "_law_pot" sLPot)
    (d__law_take : TopDef K "_law_take" sLTake)
    (d__law_same : TopDef K "_law_same" sLSame)
    (d__law_truth : TopDef K "_law_truth" sLTruth)
    (d__law_width : TopDef K "_law_width" sLWidth)
    (d__law_rows : TopDef K "_law_rows" sLRows)
    (d__law_caps : TopDef K "_law_caps" sLCaps)
    (d__law_found : TopDef K "_law_found" sLFound)
    (d__law_system : TopDef K "_law_system" sLSystem)
    (d__law_totals : TopDef K "_law_totals" sLTotals)
    (d__law_answers : TopDef K "_law_answers" sLAnswers)
    (d__law_looked : TopDef K "_law_looked" sLLooked)
    (d_law : TopDef K "law" sLaw)
    (f___init__ : MetDef K CF "__init__" "Finder.__init__" sFInit)
    (f_units : MetDef K CF "units" "Finder.units" sFUnits)
    (f_nexts : MetDef K CF "nexts" "Finder.nexts" sFNexts)
    (f_step : MetDef K CF "step" "Finder.step" sFStep)
    (f_told : MetDef K CF "told" "Finder.told" sFTold)
    (f_paper : MetDef K CF "paper" "Finder.paper" sFPaper)
    (f_ended : MetDef K CF "ended" "Finder.ended" sFEnded)
    (l___init__ : MetDef K CL "__init__" "Look.__init__" sLInit)
    (l_is_met : MetDef K CL "is_met" "Look.is_met" sLIsMet)
    (l_goes_on : MetDef K CL "goes_on" "Look.goes_on" sLGoesOn)
    (l_holds : MetDef K CL "holds" "Look.holds" sLHolds)
    (cF : ClsIn K CF) (cL : ClsIn K CL)
    (nF_rows : PySem.W.findIn K (.ref CF) "rows" = some none)
    (nF_caps : PySem.W.findIn K (.ref CF) "caps" = some none)
    (nF_levels : PySem.W.findIn K (.ref CF) "levels" = some none)
    (nF_met : PySem.W.findIn K (.ref CF) "met" = some none)
    (nF_over : PySem.W.findIn K (.ref CF) "over" = some none)
    (nL_rows : PySem.W.findIn K (.ref CL) "rows" = some none)
    (nL_caps : PySem.W.findIn K (.ref CL) "caps" = some none)
    (nL_some : PySem.W.findIn K (.ref CL) "some" = some none)
    (nL_sheet : PySem.W.findIn K (.ref CL) "sheet" = some none)
    (xx : PySem.W.excIn K CT [.type "ValueError", .type "Exception", .type "BaseException", .type "object"] "ValueError.__new__" = true) (xk : PySem.W.keepIn K (.ref CT) = true) (xb : PySem.W.subIn K (.ref CT) (.type "BaseException") = some true)
    (xt : PySem.W.typeIn K (.ref CT) = some (.type "type")) (xi : PySem.W.isClsIn K CT = true) (xs : PySem.W.subIn K (.ref CT) (.ref CT) = some true)
    (z_all : PySem.W.nsIn K mainGlobals "all" = some none)
    (z_any : PySem.W.nsIn K mainGlobals "any" = some none)
    (z_zip : PySem.W.nsIn K mainGlobals "zip" = some none)
    (z_len : PySem.W.nsIn K mainGlobals "len" = some none)
    (z_tuple : PySem.W.nsIn K mainGlobals "tuple" = some none)
    (z_range : PySem.W.nsIn K mainGlobals "range" = some none)
    (z_sum : PySem.W.nsIn K mainGlobals "sum" = some none)
    (z_list : PySem.W.nsIn K mainGlobals "list" = some none)
    (z_dict : PySem.W.nsIn K mainGlobals "dict" = some none)
    (z_sorted : PySem.W.nsIn K mainGlobals "sorted" = some none)
    (z_isinstance : PySem.W.nsIn K mainGlobals "isinstance" = some none)
    (z_enumerate : PySem.W.nsIn K mainGlobals "enumerate" = some none)
    (z_int : PySem.W.nsIn K mainGlobals "int" = some none)
    (z_str : PySem.W.nsIn K mainGlobals "str" = some none)
    (z_bool : PySem.W.nsIn K mainGlobals "bool" = some none)
    : ∃ fd : FuncData, (∀ (s : Shared) (v : Value), BindsTo s fd ⟨[v], []⟩ [("_law_script", v)]) ∧ ∀ base : Heap, K.In base → base.Ns mainGlobals mg → FnOk l.prog w K mg base CX0 8 fa fd ["_law_script"] (spLaw K) := by
  have B : Blt mg := ⟨PySem.W.mg_none_of X G z_all, PySem.W.mg_none_of X G z_any, PySem.W.mg_none_of X G z_zip, PySem.W.mg_none_of X G z_len, PySem.W.mg_none_of X G z_tuple, PySem.W.mg_none_of X G z_range, PySem.W.mg_none_of X G z_sum, PySem.W.mg_none_of X G z_list, PySem.W.mg_none_of X G z_dict, PySem.W.mg_none_of X G z_sorted, PySem.W.mg_none_of X G z_isinstance, PySem.W.mg_none_of X G z_enumerate, PySem.W.mg_none_of X G z_int, PySem.W.mg_none_of X G z_str, PySem.W.mg_none_of X G z_bool⟩
  have CC : Cns mg := ⟨⟨_, PySem.W.mg_of X G q1, ⟨_, rfl⟩⟩, ⟨_, PySem.W.mg_of X G q2, ⟨_, rfl⟩⟩, ⟨_, PySem.W.mg_of X G q3, ⟨_, rfl⟩⟩⟩
  have TF : FTxt K CF := ⟨⟨cF.pg, cF.hd, cF.po, cF.sa⟩, nF_rows, nF_caps, nF_levels, nF_met, nF_over⟩
  have TL : LTxt K CL := ⟨⟨cL.pg, cL.hd, cL.po, cL.sa⟩, nL_rows, nL_caps, nL_some, nL_sheet⟩
  have ET : ETxt K mg CT := ⟨PySem.W.mg_of X G aT, xx, xk, xb, xt⟩
  have D_below := d_below.dn (ps := ["one", "other"]) X G (fun _ _ _ _ _ _ us hl => match us, hl with | [_, _], _ => rfl)
  have D_plus := d_plus.dn (ps := ["one", "other"]) X G (fun _ _ _ _ _ _ us hl => match us, hl with | [_, _], _ => rfl)
  have D_unit := d_unit.dn (ps := ["width", "j"]) X G (fun _ _ _ _ _ _ us hl => match us, hl with | [_, _], _ => rfl)
  have D_above_any := d_above_any.dn (ps := ["some", "one"]) X G (fun _ _ _ _ _ _ us hl => match us, hl with | [_, _], _ => rfl)
  have D_within := d_within.dn (ps := ["caps", "one"]) X G (fun _ _ _ _ _ _ us hl => match us, hl with | [_, _], _ => rfl)
  have D_sums := d_sums.dn (ps := ["rows", "one"]) X G (fun _ _ _ _ _ _ us hl => match us, hl with | [_, _], _ => rfl)
  have D_is_answer := d_is_answer.dn (ps := ["rows", "one"]) X G (fun _ _ _ _ _ _ us hl => match us, hl with | [_, _], _ => rfl)
  have D_pull_by := d_pull_by.dn (ps := ["rows", "totals", "j"]) X G (fun _ _ _ _ _ _ us hl => match us, hl with | [_, _, _], _ => rfl)
  have D_falls := d_falls.dn (ps := ["rows", "one"]) X G (fun _ _ _ _ _ _ us hl => match us, hl with | [_, _], _ => rfl)
  have D_is_number := d_is_number.dn (ps := ["thing"]) X G (fun _ _ _ _ _ _ us hl => match us, hl with | [_], _ => rfl)
  have D_is_let := d_is_let.dn (ps := ["caps", "thing"]) X G (fun _ _ _ _ _ _ us hl => match us, hl with | [_, _], _ => rfl)
  have D_are_let := d_are_let.dn (ps := ["caps", "thing"]) X G (fun _ _ _ _ _ _ us hl => match us, hl with | [_, _], _ => rfl)
  have D_stand_apart := d_stand_apart.dn (ps := ["told"]) X G (fun _ _ _ _ _ _ us hl => match us, hl with | [_], _ => rfl)
  have D_shows := d_shows.dn (ps := ["rows", "caps", "told", "paper"]) X G (fun _ _ _ _ _ _ us hl => match us, hl with | [_, _, _, _], _ => rfl)
  have D_is_figures := d_is_figures.dn (ps := ["word", "most"]) X G (fun _ _ _ _ _ _ us hl => match us, hl with | [_, _], _ => rfl)
  have D_vector_of := d_vector_of.dn (ps := ["words"]) X G (fun _ _ _ _ _ _ us hl => match us, hl with | [_], _ => rfl)
  have D_read_paper := d_read_paper.dn (ps := ["text"]) X G (fun _ _ _ _ _ _ us hl => match us, hl with | [_], _ => rfl)
  have D_numbers_text := d_numbers_text.dn (ps := ["one"]) X G (fun _ _ _ _ _ _ us hl => match us, hl with | [_], _ => rfl)
  have D_show_paper := d_show_paper.dn (ps := ["told", "paper"]) X G (fun _ _ _ _ _ _ us hl => match us, hl with | [_, _], _ => rfl)
  have D__law_pot := d__law_pot.dn (ps := ["_law_script"]) X G (fun _ _ _ _ _ _ us hl => match us, hl with | [_], _ => rfl)
  have D__law_take := d__law_take.dn (ps := ["_law_pot_here", "_law_many"]) X G (fun _ _ _ _ _ _ us hl => match us, hl with | [_, _], _ => rfl)
  have D__law_same := d__law_same.dn (ps := ["_law_found_here", "_law_due"]) X G (fun _ _ _ _ _ _ us hl => match us, hl with | [_, _], _ => rfl)
  have D__law_truth := d__law_truth.dn (ps := ["_law_found_here", "_law_due"]) X G (fun _ _ _ _ _ _ us hl => match us, hl with | [_, _], _ => rfl)
  have D__law_width := d__law_width.dn (ps := ["_law_pot_here"]) X G (fun _ _ _ _ _ _ us hl => match us, hl with | [_], _ => rfl)
  have D__law_rows := d__law_rows.dn (ps := ["_law_pot_here", "_law_width_here"]) X G (fun _ _ _ _ _ _ us hl => match us, hl with | [_, _], _ => rfl)
  have D__law_caps := d__law_caps.dn (ps := ["_law_pot_here", "_law_width_here"]) X G (fun _ _ _ _ _ _ us hl => match us, hl with | [_, _], _ => rfl)
  have D__law_found := d__law_found.dn (ps := ["_law_rows_here", "_law_caps_here", "_law_most"]) X G (fun _ _ _ _ _ _ us hl => match us, hl with | [_, _, _], _ => rfl)
  have D__law_system := d__law_system.dn (ps := ["_law_pot_here", "_law_most"]) X G (fun _ _ _ _ _ _ us hl => match us, hl with | [_, _], _ => rfl)
  have D__law_totals := d__law_totals.dn (ps := ["_law_rows_here", "_law_one"]) X G (fun _ _ _ _ _ _ us hl => match us, hl with | [_, _], _ => rfl)
  have D__law_answers := d__law_answers.dn (ps := ["_law_rows_here", "_law_one"]) X G (fun _ _ _ _ _ _ us hl => match us, hl with | [_, _], _ => rfl)
  have D__law_looked := d__law_looked.dn (ps := ["_law_rows_here", "_law_caps_here", "_law_lines"]) X G (fun _ _ _ _ _ _ us hl => match us, hl with | [_, _, _], _ => rfl)
  have F_units := f_units.mn (ps := ["self"]) (fun _ _ _ _ _ _ us hl => match us, hl with | [_], _ => rfl)
  have F_nexts := f_nexts.mn (ps := ["self"]) (fun _ _ _ _ _ _ us hl => match us, hl with | [_], _ => rfl)
  have F_step := f_step.mn (ps := ["self"]) (fun _ _ _ _ _ _ us hl => match us, hl with | [_], _ => rfl)
  have F_told := f_told.mn (ps := ["self"]) (fun _ _ _ _ _ _ us hl => match us, hl with | [_], _ => rfl)
  have F_paper := f_paper.mn (ps := ["self"]) (fun _ _ _ _ _ _ us hl => match us, hl with | [_], _ => rfl)
  have F_ended := f_ended.mn (ps := ["self"]) (fun _ _ _ _ _ _ us hl => match us, hl with | [_], _ => rfl)
  have L_is_met := l_is_met.mn (ps := ["self", "one"]) (fun _ _ _ _ _ _ us hl => match us, hl with | [_, _], _ => rfl)
  have L_goes_on := l_goes_on.mn (ps := ["self", "one"]) (fun _ _ _ _ _ _ us hl => match us, hl with | [_, _], _ => rfl)
  have L_holds := l_holds.mn (ps := ["self"]) (fun _ _ _ _ _ _ us hl => match us, hl with | [_], _ => rfl)
  obtain ⟨fI, fdI, FI, MI, bI⟩ := f___init__.ini cF.mks cF.kc (ps := ["self", "rows", "caps"]) (fun _ _ _ _ _ _ us hl => match us, hl with | [_, _, _], _ => rfl)
  obtain ⟨lI, ldI, LI, NI, cI⟩ := l___init__.ini cL.mks cL.kc (ps := ["self", "rows", "caps", "some", "sheet"]) (fun _ _ _ _ _ _ us hl => match us, hl with | [_, _, _, _, _], _ => rfl)
  obtain ⟨gL, gdL, FLe, mgL, bL⟩ := d_least.fnB (ps := ["rows", "caps", "most"]) X G (fun _ _ _ _ _ _ us hl => match us, hl with | [_, _, _], _ => rfl)
  obtain ⟨f0, oc0, kV0, dc0, pm0, cd0, ct0, od0, an0, sl0, a0, l0, c0, k0⟩ := d_law
  have e := hfa.symm.trans (PySem.W.mg_of X G a0)
  cases e
  have FLw := fun_mk (st := sLaw) l0 c0 k0
  refine ⟨PySem.W.fnOf "law" "law" (defArgs sLaw) (defBody sLaw) (defScope sLaw) .none kV0 dc0 pm0 an0 cd0 ct0, fun s v => .of_eq rfl, fun base _ _ => ?_⟩
  have c_below : C8.Cal l.prog w K mg base 1 "below" spBelow [] := ok_below D_below B
  have c_plus : C8.Cal l.prog w K mg base 1 "plus" spPlus [] := ok_plus D_plus B
  have c_unit : C8.Cal l.prog w K mg base 1 "unit" spUnit [] := ok_unit D_unit
  have c_above_any : C8.Cal l.prog w K mg base 2 "above_any" spAboveAny [] := ok_aboveAny D_above_any B c_below
  have c_within : C8.Cal l.prog w K mg base 1 "within" spWithin [] := ok_within D_within B
  have c_sums : C8.Cal l.prog w K mg base 1 "sums" spSums [] := ok_sums D_sums B
  have c_is_answer : C8.Cal l.prog w K mg base 2 "is_answer" spIsAnswer [] := ok_isAnswer D_is_answer B c_sums
  have c_pull_by : C8.Cal l.prog w K mg base 1 "pull_by" spPullBy [] := ok_pullBy D_pull_by B
  have c_falls : C8.Cal l.prog w K mg base 2 "falls" spFalls [] := ok_falls D_falls B c_sums c_pull_by
  have mkF : C8.Mak l.prog w K mg base 1 "Finder" CF (spFInit CF) [] := ⟨fI, fdI, _, [], MI, ok_fInit FI TF, PySem.W.mg_of X G aF, bI, .nil⟩
  have m_ended : C8.Met l.prog w K mg base 1 CF "ended" (spFEnded CF) [] := ok_fEnded F_ended TF
  have m_told : C8.Met l.prog w K mg base 1 CF "told" (spFTold CF) [] := ok_fTold F_told B TF
  have m_paper : C8.Met l.prog w K mg base 1 CF "paper" (spFPaper CF) [] := ok_fPaper F_paper B TF
  have m_units : C8.Met l.prog w K mg base 2 CF "units" (spFUnits CF) [] := ok_fUnits F_units B TF c_unit c_within
  have m_nexts : C8.Met l.prog w K mg base 3 CF "nexts" (spFNexts CF) [] := ok_fNexts F_nexts B TF c_unit c_plus c_within c_above_any c_is_answer c_falls
  have m_step : C8.Met l.prog w K mg base 4 CF "step" (spFStep CF) [] := ok_fStep F_step B TF m_units m_nexts c_is_answer
  have gLe : LeastFn l.prog w K mg base CT := ⟨gL, gdL, ok_least FLe TF ET mkF m_step m_ended m_told m_paper, mgL, FLe.kp, bL⟩
  have c_is_number : C8.Cal l.prog w K mg base 1 "is_number" spIsNumber [] := ok_isNumber D_is_number B
  have c_is_let : C8.Cal l.prog w K mg base 2 "is_let" spIsLet [] := ok_isLet D_is_let B c_is_number c_within
  have c_are_let : C8.Cal l.prog w K mg base 3 "are_let" spAreLet [] := ok_areLet D_are_let B c_is_let
  have c_stand_apart : C8.Cal l.prog w K mg base 2 "stand_apart" spStandApart [] := ok_standApart D_stand_apart B c_below
  have mkL : C8.Mak l.prog w K mg base 1 "Look" CL (spLInit CL) [] := ⟨lI, ldI, _, [], NI, ok_lInit LI B TL, PySem.W.mg_of X G aL, cI, .nil⟩
  have m_is_met : C8.Met l.prog w K mg base 3 CL "is_met" (spLIsMet CL) [] := ok_lIsMet L_is_met TL c_within c_above_any
  have m_goes_on : C8.Met l.prog w K mg base 4 CL "goes_on" (spLGoesOn CL) [] := ok_lGoesOn L_goes_on B TL c_above_any c_is_answer c_falls c_plus c_unit m_is_met
  have m_holds : C8.Met l.prog w K mg base 5 CL "holds" (spLHolds CL) [] := ok_lHolds L_holds B TL c_unit m_is_met m_goes_on
  have c_shows : C8.Cal l.prog w K mg base 6 "shows" spShows [] := ok_shows D_shows B TL c_are_let c_is_answer c_stand_apart mkL m_holds
  have c_is_figures : C8.Cal l.prog w K mg base 1 "is_figures" spIsFigures [] := ok_isFigures D_is_figures B CC
  have c_vector_of : C8.Cal l.prog w K mg base 2 "vector_of" spVectorOf [] := ok_vectorOf D_vector_of B CC c_is_figures
  have c_numbers_text : C8.Cal l.prog w K mg base 1 "numbers_text" spNumbersText [] := ok_numbersText D_numbers_text B
  have c_show_paper : C8.Cal l.prog w K mg base 2 "show_paper" spShowPaper [] := ok_showPaper D_show_paper B c_numbers_text
  have c_read_paper : C8.Cal l.prog w K mg base 3 "read_paper" spReadPaper [] := ok_readPaper D_read_paper B c_vector_of
  have c__law_take : C8.Cal l.prog w K mg base 1 "_law_take" spLTake [] := ok_lTake D__law_take
  have c__law_pot : C8.Cal l.prog w K mg base 1 "_law_pot" (spLPot K) [] := ok_lPot D__law_pot
  have c__law_width : C8.Cal l.prog w K mg base 2 "_law_width" spLWidth [] := ok_lWidth D__law_width B c__law_take
  have c__law_rows : C8.Cal l.prog w K mg base 2 "_law_rows" spLRows [] := ok_lRows D__law_rows B c__law_take
  have c__law_caps : C8.Cal l.prog w K mg base 2 "_law_caps" spLCaps [] := ok_lCaps D__law_caps B c__law_take
  have c__law_found : C8.Cal l.prog w K mg base 6 "_law_found" spLFound [] := ok_lFound D__law_found ET (exm_own xb xi xt xs) gLe
  have c__law_system : C8.Cal l.prog w K mg base 7 "_law_system" spLSystem [] := ok_lSystem D__law_system c__law_width c__law_rows c__law_caps c__law_found
  have c__law_truth : C8.Cal l.prog w K mg base 1 "_law_truth" spLTruth [] := ok_lTruth D__law_truth
  have c__law_totals : C8.Cal l.prog w K mg base 1 "_law_totals" spLTotals [] := ok_lTotals D__law_totals B
  have c__law_answers : C8.Cal l.prog w K mg base 2 "_law_answers" spLAnswers [] := ok_lAnswers D__law_answers c__law_totals
  have c__law_same : C8.Cal l.prog w K mg base 4 "_law_same" (spLSame 3) [] := ok_lSame D__law_same B
  have c__law_looked : C8.Cal l.prog w K mg base 7 "_law_looked" spLLooked [] := ok_lLooked D__law_looked c_read_paper c_shows
  exact ok_law FLw B c__law_pot c__law_take c__law_system c_show_paper c_read_paper c__law_same c__law_looked c__law_answers c__law_truth
/-- the law's walk over the row -/
theorem walk {l : PySem.W.OpenLaw} {q : Program} {loose : List Str} {XP : (Str → Option Value) → Heap → Prop} {YP : World → Heap → Prop} {d : DefRec} {K : Params → PySem.W.Frag} (hn : l.most = some 63) (hdf : d.params.defaults = [])
    (hY : ∀ (w : World) (h : Heap), YP w h → (K w.params).In h)
    (F : ∀ (w : World) (mg : Str → Option Value) (fa : Addr) (h : Heap), (K w.params).In h → h.Ns mainGlobals mg → mg d.name = some (.ref fa) →
      ∃ fd : FuncData, (∀ (s : Shared) (u : Value), BindsTo s fd ⟨[u], []⟩ [("_law_script", u)]) ∧ ∀ base : Heap, (K w.params).In base → base.Ns mainGlobals mg → FnOk l.prog w (K w.params) mg base CX0 8 fa fd ["_law_script"] (spLaw (K w.params))) :
    PySem.W.WalkO q loose XP YP l.row.toRowW d [] (fun f vs => PySem.call f vs) :=
  L2.walk_of (n := 63) (k := 8) (x := "_law_script") (CX := fun _ => CX0) (sp := fun w => spLaw (K w.params)) hn (by decide) hdf ⟨rfl, by decide, by decide⟩ hY F (fun _ _ a ns hl _ hS => ⟨a, ns, rfl, hS, hl, fun _ => rfl⟩) fun _ _ _ _ _ z => z
end LL
set_option maxHeartbeats 0
open PySem PySem.W PyProof.Rows
theorem PySem.Challenge.cw_leastlays_k55_whole_papers_through_texts_holds : PySem.Challenge.rw_leastlays_k55_whole_papers_through_texts.Holds := by
  w_on; o_law; k_head; (case hw => w_witness2)
  k_fill
  refine LL.walk (l := PySem.Challenge.rw_leastlays_k55_whole_papers_through_texts) rfl rfl (fun w h Y => PySem.W.kIn_of Y) ?F
  case F =>
    intro w mg fa h KX G hmg
    refine' LL.all_mk KX G hmg ?aF ?aL ?aT ?q1 ?q2 ?q3 ?d_below ?d_plus ?d_unit ?d_above_any ?d_within ?d_sums ?d_is_answer ?d_pull_by ?d_falls ?d_least ?d_is_number ?d_is_let ?d_are_let ?d_stand_apart ?d_shows ?d_is_figures ?d_vector_of ?d_read_paper ?d_numbers_text ?d_show_paper ?d__law_pot ?d__law_take ?d__law_same ?d__law_truth ?d__law_width ?d__law_rows ?d__law_caps ?d__law_found ?d__law_system ?d__law_totals ?d__law_answers ?d__law_looked ?d_law ?f___init__ ?f_units ?f_nexts ?f_step ?f_told ?f_paper ?f_ended ?l___init__ ?l_is_met ?l_goes_on ?l_holds ?cF ?cL ?nF_rows ?nF_caps ?nF_levels ?nF_met ?nF_over ?nL_rows ?nL_caps ?nL_some ?nL_sheet ?xx ?xk ?xb ?xt ?xi ?xs ?z_all ?z_any ?z_zip ?z_len ?z_tuple ?z_range ?z_sum ?z_list ?z_dict ?z_sorted ?z_isinstance ?z_enumerate ?z_int ?z_str ?z_bool
    (case aF => k_is)
    (case aL => k_is)
    (case aT => k_is)
    (case q1 => k_is)
    (case q2 => k_is)
    (case q3 => k_is)
    (case d_below => (refine' LL.topDef_mk ?a ?l ?c ?k; (case a => k_is); (case l => k_is); (case c => k_is); (case k => k_is)))
    (case d_plus => (refine' LL.topDef_mk ?a ?l ?c ?k; (case a => k_is); (case l => k_is); (case c => k_is); (case k => k_is)))
    (case d_unit => (refine' LL.topDef_mk ?a ?l ?c ?k; (case a => k_is); (case l => k_is); (case c => k_is); (case k => k_is)))
    (case d_above_any => (refine' LL.topDef_mk ?a ?l ?c ?k; (case a => k_is); (case l => k_is); (case c => k_is); (case k => k_is)))
    (case d_within => (refine' LL.topDef_mk ?a ?l ?c ?k; (case a => k_is); (case l => k_is); (case c => k_is); (case k => k_is)))
    (case d_sums => (refine' LL.topDef_mk ?a ?l ?c ?k; (case a => k_is); (case l => k_is); (case c => k_is); (case k => k_is)))
    (case d_is_answer => (refine' LL.topDef_mk ?a ?l ?c ?k; (case a => k_is); (case l => k_is); (case c => k_is); (case k => k_is)))
    (case d_pull_by => (refine' LL.topDef_mk ?a ?l ?c ?k; (case a => k_is); (case l => k_is); (case c => k_is); (case k => k_is)))
    (case d_falls => (refine' LL.topDef_mk ?a ?l ?c ?k; (case a => k_is); (case l => k_is); (case c => k_is); (case k => k_is)))
    (case d_least => (refine' LL.topDef_mk ?a ?l ?c ?k; (case a => k_is); (case l => k_is); (case c => k_is); (case k => k_is)))
    (case d_is_number => (refine' LL.topDef_mk ?a ?l ?c ?k; (case a => k_is); (case l => k_is); (case c => k_is); (case k => k_is)))
    (case d_is_let => (refine' LL.topDef_mk ?a ?l ?c ?k; (case a => k_is); (case l => k_is); (case c => k_is); (case k => k_is)))
    (case d_are_let => (refine' LL.topDef_mk ?a ?l ?c ?k; (case a => k_is); (case l => k_is); (case c => k_is); (case k => k_is)))
    (case d_stand_apart => (refine' LL.topDef_mk ?a ?l ?c ?k; (case a => k_is); (case l => k_is); (case c => k_is); (case k => k_is)))
    (case d_shows => (refine' LL.topDef_mk ?a ?l ?c ?k; (case a => k_is); (case l => k_is); (case c => k_is); (case k => k_is)))
    (case d_is_figures => (refine' LL.topDef_mk ?a ?l ?c ?k; (case a => k_is); (case l => k_is); (case c => k_is); (case k => k_is)))
    (case d_vector_of => (refine' LL.topDef_mk ?a ?l ?c ?k; (case a => k_is); (case l => k_is); (case c => k_is); (case k => k_is)))
    (case d_read_paper => (refine' LL.topDef_mk ?a ?l ?c ?k; (case a => k_is); (case l => k_is); (case c => k_is); (case k => k_is)))
    (case d_numbers_text => (refine' LL.topDef_mk ?a ?l ?c ?k; (case a => k_is); (case l => k_is); (case c => k_is); (case k => k_is)))
    (case d_show_paper => (refine' LL.topDef_mk ?a ?l ?c ?k; (case a => k_is); (case l => k_is); (case c => k_is); (case k => k_is)))
    (case d__law_pot => (refine' LL.topDef_mk ?a ?l ?c ?k; (case a => k_is); (case l => k_is); (case c => k_is); (case k => k_is)))
    (case d__law_take => (refine' LL.topDef_mk ?a ?l ?c ?k; (case a => k_is); (case l => k_is); (case c => k_is); (case k => k_is)))
    (case d__law_same => (refine' LL.topDef_mk ?a ?l ?c ?k; (case a => k_is); (case l => k_is); (case c => k_is); (case k => k_is)))
    (case d__law_truth => (refine' LL.topDef_mk ?a ?l ?c ?k; (case a => k_is); (case l => k_is); (case c => k_is); (case k => k_is)))
    (case d__law_width => (refine' LL.topDef_mk ?a ?l ?c ?k; (case a => k_is); (case l => k_is); (case c => k_is); (case k => k_is)))
    (case d__law_rows => (refine' LL.topDef_mk ?a ?l ?c ?k; (case a => k_is); (case l => k_is); (case c => k_is); (case k => k_is)))
    (case d__law_caps => (refine' LL.topDef_mk ?a ?l ?c ?k; (case a => k_is); (case l => k_is); (case c => k_is); (case k => k_is)))
    (case d__law_found => (refine' LL.topDef_mk ?a ?l ?c ?k; (case a => k_is); (case l => k_is); (case c => k_is); (case k => k_is)))
    (case d__law_system => (refine' LL.topDef_mk ?a ?l ?c ?k; (case a => k_is); (case l => k_is); (case c => k_is); (case k => k_is)))
    (case d__law_totals => (refine' LL.topDef_mk ?a ?l ?c ?k; (case a => k_is); (case l => k_is); (case c => k_is); (case k => k_is)))
    (case d__law_answers => (refine' LL.topDef_mk ?a ?l ?c ?k; (case a => k_is); (case l => k_is); (case c => k_is); (case k => k_is)))
    (case d__law_looked => (refine' LL.topDef_mk ?a ?l ?c ?k; (case a => k_is); (case l => k_is); (case c => k_is); (case k => k_is)))
    (case d_law => (refine' LL.topDef_mk ?a ?l ?c ?k; (case a => k_is); (case l => k_is); (case c => k_is); (case k => k_is)))
    (case f___init__ => (refine' LL.metDef_mk ?a ?i ?l ?c ?k; (case a => k_is); (case i => k_is); (case l => k_is); (case c => k_is); (case k => k_is)))
    (case f_units => (refine' LL.metDef_mk ?a ?i ?l ?c ?k; (case a => k_is); (case i => k_is); (case l => k_is); (case c => k_is); (case k => k_is)))
    (case f_nexts => (refine' LL.metDef_mk ?a ?i ?l ?c ?k; (case a => k_is); (case i => k_is); (case l => k_is); (case c => k_is); (case k => k_is)))
    (case f_step => (refine' LL.metDef_mk ?a ?i ?l ?c ?k; (case a => k_is); (case i => k_is); (case l => k_is); (case c => k_is); (case k => k_is)))
    (case f_told => (refine' LL.metDef_mk ?a ?i ?l ?c ?k; (case a => k_is); (case i => k_is); (case l => k_is); (case c => k_is); (case k => k_is)))
    (case f_paper => (refine' LL.metDef_mk ?a ?i ?l ?c ?k; (case a => k_is); (case i => k_is); (case l => k_is); (case c => k_is); (case k => k_is)))
    (case f_ended => (refine' LL.metDef_mk ?a ?i ?l ?c ?k; (case a => k_is); (case i => k_is); (case l => k_is); (case c => k_is); (case k => k_is)))
    (case l___init__ => (refine' LL.metDef_mk ?a ?i ?l ?c ?k; (case a => k_is); (case i => k_is); (case l => k_is); (case c => k_is); (case k => k_is)))
    (case l_is_met => (refine' LL.metDef_mk ?a ?i ?l ?c ?k; (case a => k_is); (case i => k_is); (case l => k_is); (case c => k_is); (case k => k_is)))
    (case l_goes_on => (refine' LL.metDef_mk ?a ?i ?l ?c ?k; (case a => k_is); (case i => k_is); (case l => k_is); (case c => k_is); (case k => k_is)))
    (case l_holds => (refine' LL.metDef_mk ?a ?i ?l ?c ?k; (case a => k_is); (case i => k_is); (case l => k_is); (case c => k_is); (case k => k_is)))
    (case cF => (refine' ⟨?a, ?b, ?c, ?d, ?e, ?f⟩; (case a => k_is); (case b => k_is); (case c => k_is); (case d => k_is); (case e => k_is); (case f => k_is)))
    (case cL => (refine' ⟨?a, ?b, ?c, ?d, ?e, ?f⟩; (case a => k_is); (case b => k_is); (case c => k_is); (case d => k_is); (case e => k_is); (case f => k_is)))
    (case nF_rows => k_is)
    (case nF_caps => k_is)
    (case nF_levels => k_is)
    (case nF_met => k_is)
    (case nF_over => k_is)
    (case nL_rows => k_is)
    (case nL_caps => k_is)
    (case nL_some => k_is)
    (case nL_sheet => k_is)
    (case xx => k_exc)
    (case xk => k_is)
    (case xb => k_is)
    (case xt => k_is)
    (case xi => k_is)
    (case xs => first | rfl | k_is)
    (case z_all => k_is)
    (case z_any => k_is)
    (case z_zip => k_is)
    (case z_len => k_is)
    (case z_tuple => k_is)
    (case z_range => k_is)
    (case z_sum => k_is)
    (case z_list => k_is)
    (case z_dict => k_is)
    (case z_sorted => k_is)
    (case z_isinstance => k_is)
    (case z_enumerate => k_is)
    (case z_int => k_is)
    (case z_str => k_is)
    (case z_bool => k_is)
