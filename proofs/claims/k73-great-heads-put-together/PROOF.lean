import PyProof.Rows.All
import Wide.All
import OpenK.AllK
import Wide.FinOn
import HandS.ForMost
import KE.KDictKeyed
import KE.KLam
import KE.SortKeyHeap
import KE.KDictSum
import HandS.SortKw
import HandS.More
import HandS.Lambda
import HandS.Nested
import HandS.Star
import HandS.IsInst
import HandS.StrMore
import HandS.Exc
import HandS.WordsExc
import HandS.Defaults
import KE.GoesMore
import KE.GoesZip
import HandS.Iter
import HandS.Walk
import PyProof.ReprRoads
import PyProof.ReprLen
import PyProof.CallFns
import HandS.EndBits
import HandS.EndTab
import HandS.HeadWalk
import HandS.Evl
import HandS.Text
import HandS.TupAny
import HandS.Style
import HandS.DictComp
import HandS.Words
import PyProof.Rows.SortShellAny
import PyProof.StrBlock2
import HandS.ExcInit
import KE.KExcSuper
import KE.KSuper
import HandS.ExcIs
import HandS.ExcField
import KE.KExcIs
import HandS.HeadHook4
import HandS.Replace
import HandS.Conv
import HandS.Wide
import HandS.NoneIn
import HandS.Head0
import HandS.Head1
import HandS.Head2
import HandS.HeadEnd
import HandS.HeadHook1
import HandS.HeadHook2
import HandS.HeadHook3
import KE.KStateDown
import PySem.Challenge.RW_whereversent_k73_great_heads_put_togethe
set_option Elab.async false
set_option linter.all false
set_option maxRecDepth 100000
set_option maxHeartbeats 4000000
namespace Tr
/-- trees of signs: an end, or a level with what is below for 0 and 1 -/
inductive T where
  | no
  | all
  | nd (l : Nat) (a b : T)
  deriving DecidableEq
def ev : T → (Nat → Bool) → Bool
  | .no, _ => false
  | .all, _ => true
  | .nd l a b, x => if x l = true then ev b x else ev a x
def Ok (L : Nat) : Nat → T → Prop
  | _, .no => True
  | _, .all => True
  | k, .nd l a b => k ≤ l ∧ l < L ∧ a ≠ b ∧ Ok L (l + 1) a ∧ Ok L (l + 1) b
def lev (L : Nat) : T → Nat
  | .no => L
  | .all => L
  | .nd l _ _ => l
def lo (k : Nat) : T → T
  | .nd l a b => if l = k then a else .nd l a b
  | t => t
def hi (k : Nat) : T → T
  | .nd l a b => if l = k then b else .nd l a b
  | t => t
theorem lo_same {l : Nat} {a b : T} : lo l (.nd l a b) = a := if_pos rfl
theorem hi_same {l : Nat} {a b : T} : hi l (.nd l a b) = b := if_pos rfl
def mk (l : Nat) (a b : T) : T := if a = b then a else .nd l a b
theorem Ok.mono {L k j : Nat} {t : T} (h : Ok L k t) (hj : j ≤ k) : Ok L j t := by
  cases t with
  | no => trivial
  | all => trivial
  | nd l a b => exact ⟨Nat.le_trans hj h.1, h.2⟩
theorem Ok.lev_ge {L k : Nat} {t : T} (h : Ok L k t) (hk : k ≤ L) : k ≤ lev L t := by
  cases t with
  | no => exact hk
  | all => exact hk
  | nd l a b => exact h.1
theorem Ok.lev_le {L k : Nat} {t : T} (h : Ok L k t) : lev L t ≤ L := by
  cases t with
  | no => exact Nat.le_refl _
  | all => exact Nat.le_refl _
  | nd l a b => exact Nat.le_of_lt h.2.1
theorem Ok.up {L k j : Nat} {t : T} (h : Ok L k t) (hj : j ≤ lev L t) (hL : lev L t < L) : Ok L j t := by
  cases t with
  | no => trivial
  | all => trivial
  | nd l a b => exact ⟨hj, h.2⟩
theorem Ok.own {L k : Nat} {t : T} (h : Ok L k t) : Ok L (lev L t) t := by
  cases t with
  | no => trivial
  | all => trivial
  | nd l a b => exact ⟨Nat.le_refl _, h.2⟩
theorem Ok.lo {L k : Nat} {t : T} (h : Ok L k t) : Ok L (k + 1) (lo k t) := by
  cases t with
  | no => trivial
  | all => trivial
  | nd l a b =>
    show Ok L (k + 1) (if l = k then a else .nd l a b)
    split
    · rename_i e; subst e; exact h.2.2.2.1
    · exact ⟨Nat.lt_of_le_of_ne h.1 (fun e => by omega), h.2⟩
theorem Ok.hi {L k : Nat} {t : T} (h : Ok L k t) : Ok L (k + 1) (hi k t) := by
  cases t with
  | no => trivial
  | all => trivial
  | nd l a b =>
    show Ok L (k + 1) (if l = k then b else .nd l a b)
    split
    · rename_i e; subst e; exact h.2.2.2.2
    · exact ⟨Nat.lt_of_le_of_ne h.1 (fun e => by omega), h.2⟩
theorem Ok.mk {L k l : Nat} {a b : T} (ha : Ok L (l + 1) a) (hb : Ok L (l + 1) b) (hk : k ≤ l) (hl : l < L) : Ok L k (mk l a b) := by
  unfold Tr.mk
  split
  · exact ha.mono (by omega)
  · rename_i h; exact ⟨hk, hl, h, ha, hb⟩
theorem ev_congrL {L : Nat} : ∀ {t : T} {k : Nat} {x y : Nat → Bool}, Ok L k t → (∀ i, k ≤ i → i < L → x i = y i) → ev t x = ev t y
  | .no, _, _, _, _, _ => rfl
  | .all, _, _, _, _, _ => rfl
  | .nd l a b, k, x, y, h, e => by
    obtain ⟨h1, h2, h3, h4, h5⟩ := h
    simp only [ev]
    rw [e l h1 h2, ev_congrL h4 (fun i hi h => e i (by omega) h), ev_congrL h5 (fun i hi h => e i (by omega) h)]
theorem ev_congr {L : Nat} {t : T} {k : Nat} {x y : Nat → Bool} (h : Ok L k t) (e : ∀ i, k ≤ i → x i = y i) : ev t x = ev t y := ev_congrL h fun i hi _ => e i hi
theorem ev_mk {l : Nat} {a b : T} {x : Nat → Bool} : ev (mk l a b) x = if x l = true then ev b x else ev a x := by
  unfold mk
  split
  · rename_i h; subst h; split <;> rfl
  · rfl
theorem ev_halves {L k : Nat} {t : T} (h : Ok L k t) (x : Nat → Bool) : ev t x = if x k = true then ev (hi k t) x else ev (lo k t) x := by
  cases t with
  | no => simp [ev, hi, lo]
  | all => simp [ev, hi, lo]
  | nd l a b =>
    unfold hi lo
    by_cases e : l = k
    · subst e; simp [ev]
    · simp [e]
def put (x : Nat → Bool) (l : Nat) (c : Bool) : Nat → Bool := fun i => if i = l then c else x i
theorem put_same {x : Nat → Bool} {l : Nat} {c : Bool} : put x l c l = c := if_pos rfl
theorem put_ne {x : Nat → Bool} {l i : Nat} {c : Bool} (h : i ≠ l) : put x l c i = x i := if_neg h
def tsz : T → Nat
  | .nd _ a b => tsz a + tsz b + 1
  | _ => 0
/-- one set has one tree alone -/
theorem canon {L : Nat} : ∀ (n : Nat) (t u : T) (k : Nat), tsz t + tsz u < n → Ok L k t → Ok L k u → (∀ x, ev t x = ev u x) → t = u := by
  intro n
  induction n with
  | zero => intro t u k h; omega
  | succ n ih =>
    have two : ∀ (l : Nat) (a b : T), tsz a + tsz b < n → a ≠ b → Ok L (l + 1) a → Ok L (l + 1) b → ∃ x, ev a x ≠ ev b x := by
      intro l a b hs hne ha hb
      by_cases h : ∃ x, ev a x ≠ ev b x
      · exact h
      · exact absurd (ih a b (l + 1) hs ha hb (fun x => Decidable.of_not_not fun q => h ⟨x, q⟩)) hne
    have one : ∀ (l k : Nat) (a b u : T), tsz a + tsz b < n → Ok L k (.nd l a b) → Ok L (l + 1) u → (∀ x, ev (.nd l a b) x = ev u x) → False := by
      intro l k a b u hs ht hu he
      obtain ⟨h1, h2, h3, h4, h5⟩ := ht
      obtain ⟨x, hx⟩ := two l a b hs h3 h4 h5
      have e1 := he (put x l true)
      have e2 := he (put x l false)
      have c1 : ev u (put x l true) = ev u (put x l false) := ev_congr hu (fun i hi => by rw [put_ne (by omega), put_ne (by omega)])
      rw [← e1, ← e2] at c1
      simp only [ev, put_same, if_true] at c1
      rw [ev_congr h5 (y := x) (fun i hi => put_ne (by omega))] at c1
      have c2 : (if (false = true) then ev b (put x l false) else ev a (put x l false)) = ev a (put x l false) := if_neg (by decide)
      rw [c2, ev_congr h4 (y := x) (fun i hi => put_ne (by omega))] at c1
      exact hx c1.symm
    intro t u k hs ht hu he
    cases t with
    | no =>
      cases u with
      | no => rfl
      | all => have := he (fun _ => false); simp [ev] at this
      | nd l a b => exact (one l k a b .no (by simp [tsz] at hs; omega) hu trivial (fun x => (he x).symm)).elim
    | all =>
      cases u with
      | no => have := he (fun _ => false); simp [ev] at this
      | all => rfl
      | nd l a b => exact (one l k a b .all (by simp [tsz] at hs; omega) hu trivial (fun x => (he x).symm)).elim
    | nd l a b =>
      cases u with
      | no => exact (one l k a b .no (by simp [tsz] at hs; omega) ht trivial he).elim
      | all => exact (one l k a b .all (by simp [tsz] at hs; omega) ht trivial he).elim
      | nd m c d =>
        simp only [tsz] at hs
        by_cases e : l = m
        · subst e
          obtain ⟨h1, h2, h3, h4, h5⟩ := ht
          obtain ⟨g1, g2, g3, g4, g5⟩ := hu
          have ea : a = c := ih a c (l + 1) (by omega) h4 g4 (fun x => by
            have e1 := he (put x l false)
            simp only [ev, put_same] at e1
            have c2 : ∀ p q : Bool, (if (false = true) then p else q) = q := fun p q => if_neg (by decide)
            rw [c2, c2, ev_congr h4 (y := x) (fun i hi => put_ne (by omega)), ev_congr g4 (y := x) (fun i hi => put_ne (by omega))] at e1
            exact e1)
          have eb : b = d := ih b d (l + 1) (by omega) h5 g5 (fun x => by
            have e1 := he (put x l true)
            simp only [ev, put_same, if_true] at e1
            rw [ev_congr h5 (y := x) (fun i hi => put_ne (by omega)), ev_congr g5 (y := x) (fun i hi => put_ne (by omega))] at e1
            exact e1)
          rw [ea, eb]
        · rcases Nat.lt_or_gt_of_ne e with e | e
          · exact (one l k a b (.nd m c d) (by omega) ht ⟨e, hu.2⟩ he).elim
          · exact (one m k c d (.nd l a b) (by omega) hu ⟨e, ht.2⟩ (fun x => (he x).symm)).elim
theorem Ok.eq {L k : Nat} {t u : T} (ht : Ok L k t) (hu : Ok L k u) (he : ∀ x, ev t x = ev u x) : t = u :=
  canon _ t u k (Nat.lt_succ_self _) ht hu he

abbrev R := List Bool
abbrev Pa := List (Option Bool)
def fits : Pa → R → Bool
  | [], [] => true
  | none :: p, _ :: x => fits p x
  | some b :: p, c :: x => (b == c) && fits p x
  | _, _ => false
theorem fits_len : ∀ {p : Pa} {x : R}, fits p x = true → p.length = x.length
  | [], [], _ => rfl
  | none :: p, _ :: x, h => by simp only [fits] at h; simp [fits_len h]
  | some b :: p, c :: x, h => by
    simp only [fits, Bool.and_eq_true] at h
    simp [fits_len h.2]
  | [], _ :: _, h => by simp [fits] at h
  | none :: _, [], h => by simp [fits] at h
  | some _ :: _, [], h => by simp [fits] at h
/-- the plain form of a set of rows of d signs -/
def pl : Nat → (R → Bool) → List Pa
  | 0, S => if S [] = true then [[]] else []
  | d + 1, S => if pl d (fun x => S (false :: x)) = pl d (fun x => S (true :: x)) then (pl d (fun x => S (false :: x))).map (none :: ·)
    else (pl d (fun x => S (false :: x))).map (some false :: ·) ++ (pl d (fun x => S (true :: x))).map (some true :: ·)
theorem pl_congr : ∀ {d : Nat} {S S' : R → Bool}, (∀ x, x.length = d → S x = S' x) → pl d S = pl d S'
  | 0, S, S', h => by simp only [pl]; rw [h [] rfl]
  | d + 1, S, S', h => by
    simp only [pl]
    rw [pl_congr (S := fun x => S (false :: x)) (S' := fun x => S' (false :: x)) (fun x hx => h _ (by simp [hx])), pl_congr (S := fun x => S (true :: x)) (S' := fun x => S' (true :: x)) (fun x hx => h _ (by simp [hx]))]
theorem pl_fits : ∀ {d : Nat} {S : R → Bool} {x : R}, x.length = d → (S x = true ↔ ∃ p, p ∈ pl d S ∧ fits p x = true)
  | 0, S, x, hx => by
    have : x = [] := List.length_eq_zero_iff.mp hx
    subst this
    simp only [pl]
    constructor
    · intro h; exact ⟨[], by simp [h], rfl⟩
    · rintro ⟨p, hp, _⟩
      by_cases h : S [] = true
      · exact h
      · simp [h] at hp
  | d + 1, S, c :: x, hx => by
    have hx' : x.length = d := by simpa using hx
    have i0 := pl_fits (S := fun x => S (false :: x)) hx'
    have i1 := pl_fits (S := fun x => S (true :: x)) hx'
    simp only [pl]
    by_cases h : pl d (fun x => S (false :: x)) = pl d (fun x => S (true :: x))
    · rw [if_pos h]
      constructor
      · intro hs
        have : ∃ p, p ∈ pl d (fun x => S (false :: x)) ∧ fits p x = true := by
          cases c with
          | false => exact i0.mp hs
          | true => rw [h]; exact i1.mp hs
        obtain ⟨p, hp, hf⟩ := this
        exact ⟨none :: p, List.mem_map.mpr ⟨p, hp, rfl⟩, hf⟩
      · rintro ⟨q, hq, hf⟩
        obtain ⟨p, hp, rfl⟩ := List.mem_map.mp hq
        have hf' : fits p x = true := hf
        cases c with
        | false => exact i0.mpr ⟨p, hp, hf'⟩
        | true => exact i1.mpr ⟨p, h ▸ hp, hf'⟩
    · rw [if_neg h]
      constructor
      · intro hs
        cases c with
        | false =>
          obtain ⟨p, hp, hf⟩ := i0.mp hs
          exact ⟨some false :: p, List.mem_append_left _ (List.mem_map.mpr ⟨p, hp, rfl⟩), by simp [fits, hf]⟩
        | true =>
          obtain ⟨p, hp, hf⟩ := i1.mp hs
          exact ⟨some true :: p, List.mem_append_right _ (List.mem_map.mpr ⟨p, hp, rfl⟩), by simp [fits, hf]⟩
      · rintro ⟨q, hq, hf⟩
        rcases List.mem_append.mp hq with hq | hq
        · obtain ⟨p, hp, rfl⟩ := List.mem_map.mp hq
          simp only [fits, Bool.and_eq_true, beq_iff_eq] at hf
          rw [← hf.1]
          exact i0.mpr ⟨p, hp, hf.2⟩
        · obtain ⟨p, hp, rfl⟩ := List.mem_map.mp hq
          simp only [fits, Bool.and_eq_true, beq_iff_eq] at hf
          rw [← hf.1]
          exact i1.mpr ⟨p, hp, hf.2⟩
theorem pl_inj {d : Nat} {S S' : R → Bool} (h : pl d S = pl d S') (x : R) (hx : x.length = d) : S x = S' x := by
  have a := pl_fits (S := S) hx
  have b := pl_fits (S := S') hx
  rw [h] at a
  have c : S x = true ↔ S' x = true := a.trans b.symm
  cases h1 : S x <;> cases h2 : S' x <;> simp_all
theorem pl_len : ∀ {d : Nat} {S : R → Bool} {p : Pa}, p ∈ pl d S → p.length = d
  | 0, S, p, h => by
    simp only [pl] at h
    split at h
    · simp at h; simp [h]
    · simp at h
  | d + 1, S, p, h => by
    simp only [pl] at h
    split at h
    · obtain ⟨q, hq, rfl⟩ := List.mem_map.mp h
      simp [pl_len hq]
    · rcases List.mem_append.mp h with h | h <;> obtain ⟨q, hq, rfl⟩ := List.mem_map.mp h <;> simp [pl_len hq]
theorem pl_nil {d : Nat} {S : R → Bool} : pl d S = [] ↔ ∀ x, x.length = d → S x = false := by
  constructor
  · intro h x hx
    have := pl_fits (S := S) hx
    rw [h] at this
    cases q : S x with
    | false => rfl
    | true => obtain ⟨p, hp, _⟩ := this.mp q; cases hp
  · intro h
    have e : pl d S = pl d (fun _ => false) := pl_congr h
    rw [e]
    have : ∀ d, pl d (fun _ => false) = [] := by
      intro d
      induction d with
      | zero => simp [pl]
      | succ d ih => simp [pl, ih]
    exact this d
def at_ (k : Nat) (x : R) : Nat → Bool := fun i => x.getD (i - k) false
def St (t : T) (k : Nat) : R → Bool := fun x => ev t (at_ k x)
theorem at_cons_same {k : Nat} {c : Bool} {x : R} : at_ k (c :: x) k = c := by simp [at_]
theorem at_cons {k i : Nat} {c : Bool} {x : R} (h : k + 1 ≤ i) : at_ k (c :: x) i = at_ (k + 1) x i := by
  unfold at_
  obtain ⟨j, rfl⟩ : ∃ j, i = k + 1 + j := ⟨i - (k + 1), by omega⟩
  have e1 : k + 1 + j - k = j + 1 := by omega
  have e2 : k + 1 + j - (k + 1) = j := by omega
  rw [e1, e2, List.getD_cons_succ]
theorem St_cons {L k : Nat} {t : T} (h : Ok L k t) (c : Bool) (x : R) : St t k (c :: x) = if c = true then St (hi k t) (k + 1) x else St (lo k t) (k + 1) x := by
  unfold St
  rw [ev_halves h, at_cons_same]
  cases c with
  | false =>
    rw [if_neg (by decide), if_neg (by decide)]
    exact ev_congr h.lo fun i hi => at_cons hi
  | true =>
    rw [if_pos rfl, if_pos rfl]
    exact ev_congr h.hi fun i hi => at_cons hi
/-- equal rows from a level on, equal trees -/
theorem St_eq {L k d : Nat} {t u : T} (ht : Ok L k t) (hu : Ok L k u) (hd : k + d = L) (h : ∀ x, x.length = d → St t k x = St u k x) : t = u := by
  refine ht.eq hu fun x => ?_
  have e := h ((List.range d).map fun i => x (k + i)) (by simp)
  have q : ∀ i, k ≤ i → i < L → at_ k ((List.range d).map fun i => x (k + i)) i = x i := by
    intro i h1 h2
    unfold at_
    rw [List.getD_eq_getElem?_getD, List.getElem?_map, List.getElem?_range (by omega)]
    simp
    congr 1
    omega
  unfold St at e
  rw [ev_congrL ht q, ev_congrL hu q] at e
  exact e
def pa : Nat → Nat → T → List Pa
  | 0, _, t => if t = .no then [] else [[]]
  | d + 1, k, t => if t = .no then [] else if lo k t = hi k t then (pa d (k + 1) (lo k t)).map (none :: ·)
    else (pa d (k + 1) (lo k t)).map (some false :: ·) ++ (pa d (k + 1) (hi k t)).map (some true :: ·)
theorem pa_no : ∀ d k, pa d k .no = [] := by
  intro d k
  cases d <;> simp [pa]
theorem Ok.end_ {L k : Nat} {t : T} (h : Ok L k t) (hk : L ≤ k) : t = .no ∨ t = .all := by
  cases t with
  | no => exact .inl rfl
  | all => exact .inr rfl
  | nd l a b => have := h.1; have := h.2.1; omega
theorem pa_pl {L : Nat} : ∀ {d k : Nat} {t : T}, Ok L k t → k + d = L → pa d k t = pl d (St t k)
  | 0, k, t, h, hd => by
    rcases h.end_ (by omega) with rfl | rfl
    · simp [pa, pl, St, ev]
    · simp [pa, pl, St, ev]
  | d + 1, k, t, h, hd => by
    by_cases hn : t = .no
    · subst hn
      rw [pa_no]
      exact (pl_nil.mpr fun x _ => rfl).symm
    · have e0 : (fun x => St t k (false :: x)) = St (lo k t) (k + 1) := by
        funext x; rw [St_cons h, if_neg (by decide)]
      have e1 : (fun x => St t k (true :: x)) = St (hi k t) (k + 1) := by
        funext x; rw [St_cons h, if_pos rfl]
      simp only [pa, pl, e0, e1, if_neg hn]
      rw [pa_pl h.lo (by omega), pa_pl h.hi (by omega)]
      by_cases q : lo k t = hi k t
      · rw [if_pos q, if_pos (by rw [q])]
      · rw [if_neg q, if_neg]
        intro z
        exact q (St_eq h.lo h.hi (by omega) fun x hx => pl_inj z x hx)
/-- how many plain parts -/
def np : T → Nat
  | .no => 0
  | .all => 1
  | .nd _ a b => np a + np b
theorem pa_length {L : Nat} : ∀ {d k : Nat} {t : T}, Ok L k t → k + d = L → (pa d k t).length = np t
  | 0, k, t, h, hd => by
    rcases h.end_ (by omega) with rfl | rfl <;> simp [pa, np]
  | d + 1, k, t, h, hd => by
    by_cases hn : t = .no
    · subst hn; rw [pa_no]; rfl
    · simp only [pa, if_neg hn]
      by_cases q : lo k t = hi k t
      · rw [if_pos q, List.length_map, pa_length h.lo (by omega)]
        cases t with
        | no => rfl
        | all => rfl
        | nd l a b =>
          by_cases e : l = k
          · subst e
            simp only [lo, hi, if_pos rfl] at q
            exact absurd q h.2.2.1
          · simp [lo, e]
      · rw [if_neg q, List.length_append, List.length_map, List.length_map, pa_length h.lo (by omega), pa_length h.hi (by omega)]
        cases t with
        | no => exact absurd rfl q
        | all => exact absurd rfl q
        | nd l a b =>
          by_cases e : l = k
          · subst e; simp [lo, hi, np]
          · simp [lo, hi, e] at q
def allR : Nat → List R
  | 0 => [[]]
  | d + 1 => (allR d).map (false :: ·) ++ (allR d).map (true :: ·)
theorem mem_allR : ∀ {d : Nat} {x : R}, x ∈ allR d ↔ x.length = d
  | 0, x => by simp [allR]
  | d + 1, x => by
    simp only [allR, List.mem_append, List.mem_map]
    constructor
    · rintro (⟨y, hy, rfl⟩ | ⟨y, hy, rfl⟩) <;> simp [mem_allR.mp hy]
    · intro h
      cases x with
      | nil => simp at h
      | cons c y =>
        have hy : y ∈ allR d := mem_allR.mpr (by simpa using h)
        cases c with
        | false => exact .inl ⟨y, hy, rfl⟩
        | true => exact .inr ⟨y, hy, rfl⟩
theorem allR_length : ∀ d : Nat, (allR d).length = 2 ^ d
  | 0 => rfl
  | d + 1 => by simp [allR, allR_length d]; omega
theorem allR_nodup : ∀ d : Nat, (allR d).Nodup
  | 0 => by simp [allR]
  | d + 1 => by
    have ih := allR_nodup d
    simp only [allR]
    rw [List.nodup_append]
    refine ⟨?_, ?_, ?_⟩
    · exact List.Pairwise.map _ (fun a b h e => h (by simpa using e)) ih
    · exact List.Pairwise.map _ (fun a b h e => h (by simpa using e)) ih
    · rintro a ha b hb e
      obtain ⟨x, _, rfl⟩ := List.mem_map.mp ha
      obtain ⟨y, _, rfl⟩ := List.mem_map.mp hb
      simp at e
def cn (L : Nat) : T → Nat
  | .no => 0
  | .all => 1
  | .nd l a b => cn L a * 2 ^ (lev L a - l - 1) + cn L b * 2 ^ (lev L b - l - 1)
theorem cn_eq {L : Nat} : ∀ {d k : Nat} {t : T}, Ok L k t → k + d = L → ((allR d).filter (St t k)).length = cn L t * 2 ^ (lev L t - k)
  | 0, k, t, h, hd => by
    rcases h.end_ (by omega) with rfl | rfl
    · simp [allR, St, ev, cn]
    · have z : L - k = 0 := by omega
      simp [allR, List.filter, St, ev, cn, lev, z]
  | d + 1, k, t, h, hd => by
    have e0 : ∀ x, St t k (false :: x) = St (lo k t) (k + 1) x := fun x => by rw [St_cons h, if_neg (by decide)]
    have e1 : ∀ x, St t k (true :: x) = St (hi k t) (k + 1) x := fun x => by rw [St_cons h, if_pos rfl]
    have f0 : (St t k) ∘ (fun x => false :: x) = St (lo k t) (k + 1) := funext e0
    have f1 : (St t k) ∘ (fun x => true :: x) = St (hi k t) (k + 1) := funext e1
    simp only [allR, List.filter_append, List.length_append, List.filter_map, List.length_map, f0, f1]
    rw [cn_eq h.lo (by omega), cn_eq h.hi (by omega)]
    have skip : ∀ n j : Nat, k < j → n * 2 ^ (j - (k + 1)) + n * 2 ^ (j - (k + 1)) = n * 2 ^ (j - k) := by
      intro n j hj
      have : j - k = (j - (k + 1)) + 1 := by omega
      rw [this, Nat.pow_succ, ← Nat.mul_assoc]; omega
    cases t with
    | no => simp [lo, hi, cn]
    | all =>
      simp only [lo, hi]
      exact skip _ _ (by show k < L; omega)
    | nd l a b =>
      by_cases e : l = k
      · subst e
        rw [lo_same, hi_same]
        show _ = (cn L a * 2 ^ (lev L a - l - 1) + cn L b * 2 ^ (lev L b - l - 1)) * 2 ^ (l - l)
        have s1 : lev L a - l - 1 = lev L a - (l + 1) := by omega
        have s2 : lev L b - l - 1 = lev L b - (l + 1) := by omega
        rw [s1, s2, Nat.sub_self, Nat.pow_zero, Nat.mul_one]
      · simp only [lo, hi, if_neg e]
        exact skip _ _ (by show k < l; have := h.1; omega)
def fi : Nat → Nat → T → R
  | 0, _, _ => []
  | d + 1, k, t => if lo k t = .no then true :: fi d (k + 1) (hi k t) else false :: fi d (k + 1) (lo k t)
theorem fi_length : ∀ d k t, (fi d k t).length = d
  | 0, _, _ => rfl
  | d + 1, k, t => by
    simp only [fi]
    split <;> simp [fi_length d]
theorem fi_in {L : Nat} : ∀ {d k : Nat} {t : T}, Ok L k t → k + d = L → t ≠ .no → St t k (fi d k t) = true
  | 0, k, t, h, hd, hn => by
    rcases h.end_ (by omega) with rfl | rfl
    · exact absurd rfl hn
    · rfl
  | d + 1, k, t, h, hd, hn => by
    simp only [fi]
    by_cases q : lo k t = .no
    · rw [if_pos q, St_cons h, if_pos rfl]
      refine fi_in h.hi (by omega) fun z => hn ?_
      cases t with
      | no => rfl
      | all => simp [lo] at q
      | nd l a b =>
        by_cases e : l = k
        · subst e
          simp only [lo, hi, if_pos rfl] at q z
          exact absurd (q.trans z.symm) h.2.2.1
        · simp [lo, e] at q
    · rw [if_neg q, St_cons h, if_neg (by decide)]
      exact fi_in h.lo (by omega) q
/-- as texts of 0 and 1 compare -/
def lex : R → R → Bool
  | [], _ => true
  | _ :: _, [] => false
  | a :: x, b :: y => if a = b then lex x y else b
theorem St_no {k : Nat} {x : R} : St .no k x = false := rfl
theorem fi_least {L : Nat} : ∀ {d k : Nat} {t : T} {x : R}, Ok L k t → k + d = L → x.length = d → St t k x = true → lex (fi d k t) x = true
  | 0, k, t, x, h, hd, hx, hs => by
    simp [fi, lex]
  | d + 1, k, t, c :: x, h, hd, hx, hs => by
    simp only [fi]
    rw [St_cons h] at hs
    have hx' : x.length = d := by simpa using hx
    by_cases q : lo k t = .no
    · rw [if_pos q]
      cases c with
      | false => rw [if_neg (by decide), q] at hs; cases hs
      | true =>
        rw [if_pos rfl] at hs
        simp only [lex, if_pos rfl]
        exact fi_least h.hi (by omega) hx' hs
    · rw [if_neg q]
      cases c with
      | true => simp [lex]
      | false =>
        rw [if_neg (by decide)] at hs
        simp only [lex, if_pos rfl]
        exact fi_least h.lo (by omega) hx' hs
end Tr
namespace Tr
open PySem
def enc : Option Bool → Nat
  | none => 42
  | some false => 48
  | some true => 49
def txt (p : Pa) : Str := ⟨(p.map enc).toArray⟩
def decC (c : Nat) : Option Bool := if c = 48 then some false else if c = 49 then some true else none
def unt (z : Str) : Pa := z.cps.toList.map decC
theorem decC_enc (o : Option Bool) : decC (enc o) = o := by
  cases o with
  | none => rfl
  | some b => cases b <;> rfl
theorem unt_txt (p : Pa) : unt (txt p) = p := by
  unfold unt txt
  rw [List.map_map]
  exact (List.map_congr_left fun o _ => decC_enc o).trans (List.map_id p)
theorem txt_inj {p q : Pa} (h : txt p = txt q) : p = q := by rw [← unt_txt p, h, unt_txt]
theorem txt_len (p : Pa) : (txt p).length = p.length := by simp [txt, Str.length]
theorem txt_unt {z : Str} (h : ∀ c, c ∈ z.cps.toList → c = 48 ∨ c = 49 ∨ c = 42) : txt (unt z) = z := by
  unfold txt unt
  rw [List.map_map]
  have e : z.cps.toList.map (enc ∘ decC) = z.cps.toList := by
    refine (List.map_congr_left fun c hc => ?_).trans (List.map_id _)
    rcases h c hc with rfl | rfl | rfl <;> rfl
  rw [e]
theorem unt_len (z : Str) : (unt z).length = z.length := by simp [unt, Str.length]
def sgOf : Nat → Pa → List (Nat × Bool)
  | _, [] => []
  | k, none :: p => sgOf (k + 1) p
  | k, some b :: p => (k, b) :: sgOf (k + 1) p
theorem sgOf_bd : ∀ {p : Pa} {k : Nat} {q : Nat × Bool}, q ∈ sgOf k p → k ≤ q.1 ∧ q.1 < k + p.length
  | none :: p, k, q, h => by
    have := sgOf_bd (p := p) (k := k + 1) h
    simp only [List.length_cons]
    omega
  | some b :: p, k, q, h => by
    rcases List.mem_cons.mp h with rfl | h
    · simp
    · have := sgOf_bd (p := p) (k := k + 1) h
      simp only [List.length_cons]
      omega
theorem sgOf_nd : ∀ {p : Pa} {k : Nat}, ((sgOf k p).map (·.1)).Nodup
  | [], _ => List.nodup_nil
  | none :: p, k => sgOf_nd (p := p) (k := k + 1)
  | some b :: p, k => by
    show (k :: (sgOf (k + 1) p).map (·.1)).Nodup
    rw [List.nodup_cons]
    refine ⟨fun h => ?_, sgOf_nd⟩
    obtain ⟨q, hq, e⟩ := List.mem_map.mp h
    have := (sgOf_bd hq).1
    omega
theorem sgOf_len : ∀ {p : Pa} {k : Nat}, (sgOf k p).length ≤ p.length
  | [], _ => Nat.le_refl _
  | none :: p, k => by
    have := sgOf_len (p := p) (k := k + 1)
    simp only [sgOf, List.length_cons]
    omega
  | some b :: p, k => by
    have := sgOf_len (p := p) (k := k + 1)
    simp only [sgOf, List.length_cons]
    omega
theorem sgOf_append : ∀ {p : Pa} {k : Nat} {o : Option Bool}, sgOf k (p ++ [o]) = sgOf k p ++ (match o with | some b => [(k + p.length, b)] | none => [])
  | [], k, o => by cases o <;> simp [sgOf]
  | none :: p, k, o => by
    show sgOf (k + 1) (p ++ [o]) = _
    rw [sgOf_append]
    simp only [sgOf, List.length_cons]
    congr 1
    cases o with
    | none => rfl
    | some b => simp; omega
  | some c :: p, k, o => by
    show (k, c) :: sgOf (k + 1) (p ++ [o]) = _
    rw [sgOf_append]
    simp only [sgOf, List.length_cons, List.cons_append]
    congr 2
    cases o with
    | none => rfl
    | some b => simp; omega
/-- a row fits a pattern: as its signs tell -/
theorem fits_all : ∀ {p : Pa} {x : R} {k : Nat}, p.length = x.length → fits p x = (sgOf k p).all fun q => at_ k x q.1 == q.2
  | [], [], _, _ => rfl
  | none :: p, c :: x, k, h => by
    have h' : p.length = x.length := by simpa using h
    show fits p x = _
    rw [fits_all (k := k + 1) h']
    rw [Bool.eq_iff_iff]
    simp only [List.all_eq_true, sgOf]
    refine forall_congr' fun q => forall_congr' fun hq => ?_
    rw [at_cons (sgOf_bd hq).1]
  | some b :: p, c :: x, k, h => by
    have h' : p.length = x.length := by simpa using h
    show ((b == c) && fits p x) = _
    rw [fits_all (k := k + 1) h']
    simp only [sgOf, List.all_cons, at_cons_same]
    have e1 : (b == c) = (c == b) := by cases b <;> cases c <;> rfl
    rw [e1]
    congr 1
    rw [Bool.eq_iff_iff]
    simp only [List.all_eq_true]
    refine forall_congr' fun q => forall_congr' fun hq => ?_
    rw [at_cons (sgOf_bd hq).1]
/-- a mask put into a row -/
def mput : Pa → R → R
  | none :: m, c :: x => c :: mput m x
  | some b :: m, _ :: x => b :: mput m x
  | _, _ => []
theorem mput_len : ∀ {m : Pa} {x : R}, m.length = x.length → (mput m x).length = x.length
  | [], [], _ => rfl
  | none :: m, c :: x, h => by simp [mput, mput_len (show m.length = x.length by simpa using h)]
  | some b :: m, c :: x, h => by simp [mput, mput_len (show m.length = x.length by simpa using h)]
theorem mput_all : ∀ {m : Pa} {x : R} {k : Nat}, m.length = x.length → ((sgOf k m).all fun q => at_ k (mput m x) q.1 == q.2) = true
  | [], [], _, _ => rfl
  | none :: m, c :: x, k, h => by
    have h' : m.length = x.length := by simpa using h
    have ih := mput_all (k := k + 1) h'
    simp only [List.all_eq_true, sgOf, mput] at ih ⊢
    intro q hq
    rw [at_cons (sgOf_bd hq).1]
    exact ih q hq
  | some b :: m, c :: x, k, h => by
    have h' : m.length = x.length := by simpa using h
    have ih := mput_all (k := k + 1) h'
    simp only [sgOf, mput, List.all_cons, at_cons_same, beq_self_eq_true, Bool.true_and]
    simp only [List.all_eq_true] at ih ⊢
    intro q hq
    rw [at_cons (sgOf_bd hq).1]
    exact ih q hq
/-- where the mask tells nothing the row stays -/
theorem mput_at : ∀ {m : Pa} {x : R} {k i : Nat}, m.length = x.length → k ≤ i → i ∉ (sgOf k m).map (·.1) → at_ k (mput m x) i = at_ k x i
  | [], [], _, _, _, _, _ => rfl
  | none :: m, c :: x, k, i, h, hk, hi => by
    have h' : m.length = x.length := by simpa using h
    by_cases e : k + 1 ≤ i
    · simp only [mput]
      rw [at_cons e, at_cons e]
      exact mput_at h' e hi
    · simp only [mput]
      have : i - k = 0 := by omega
      simp [at_, this]
  | some b :: m, c :: x, k, i, h, hk, hi => by
    have h' : m.length = x.length := by simpa using h
    simp only [sgOf, List.map_cons, List.mem_cons, not_or] at hi
    have e : k + 1 ≤ i := by omega
    simp only [mput]
    rw [at_cons e, at_cons e]
    exact mput_at h' e hi.2
theorem row_ext {x y : R} (hl : x.length = y.length) (h : ∀ i, i < x.length → at_ 0 x i = at_ 0 y i) : x = y := by
  apply List.ext_getElem hl
  intro i h1 h2
  have e := h i h1
  unfold at_ at e
  rw [Nat.sub_zero, List.getD_eq_getElem?_getD, List.getD_eq_getElem?_getD, List.getElem?_eq_getElem h1, List.getElem?_eq_getElem h2] at e
  exact e
theorem all_val {sg : List (Nat × Bool)} {y z : Nat → Bool} (hy : (sg.all fun p => y p.1 == p.2) = true) (hz : (sg.all fun p => z p.1 == p.2) = true) {i : Nat} (hi : i ∈ sg.map (·.1)) : y i = z i := by
  obtain ⟨p, hp, rfl⟩ := List.mem_map.mp hi
  have h1 := List.all_eq_true.mp hy p hp
  have h2 := List.all_eq_true.mp hz p hp
  rw [eq_of_beq h1, eq_of_beq h2]
theorem at_range {L i : Nat} (y : Nat → Bool) (h : i < L) : at_ 0 ((List.range L).map y) i = y i := by
  unfold at_
  rw [List.getD_eq_getElem?_getD, Nat.sub_zero, List.getElem?_map, List.getElem?_range h]
  rfl
/-- a mask put into each row of a set -/
theorem put_rows {L : Nat} {a r : T} {m : Pa} (hm : m.length = L) (oa : Ok L 0 a) (h : ∀ x, ev r x = true ↔ (∃ y : Nat → Bool, (∀ i, i ∉ (sgOf 0 m).map (·.1) → y i = x i) ∧ ev a y = true) ∧ ((sgOf 0 m).all fun p => x p.1 == p.2) = true) {row : R} (hr : row.length = L) :
    St r 0 row = true ↔ ∃ row0 : R, row0.length = L ∧ St a 0 row0 = true ∧ mput m row0 = row := by
  unfold St
  rw [h]
  constructor
  · rintro ⟨⟨y, hy, he⟩, hall⟩
    have hl0 : ((List.range L).map y).length = L := by simp
    refine ⟨(List.range L).map y, hl0, ?_, ?_⟩
    · rw [← he]
      exact ev_congrL oa fun i _ hi => at_range y hi
    · have hml : m.length = ((List.range L).map y).length := by rw [hl0, hm]
      have hlen := mput_len hml
      refine row_ext (by rw [hlen, hl0, hr]) fun i hi => ?_
      rw [hlen, hl0] at hi
      by_cases e : i ∈ (sgOf 0 m).map (·.1)
      · exact all_val (mput_all hml) hall e
      · rw [mput_at hml (Nat.zero_le _) e, at_range y hi]
        exact hy i e
  · rintro ⟨row0, hl0, he, rfl⟩
    have hml : m.length = row0.length := by rw [hl0, hm]
    exact ⟨⟨at_ 0 row0, fun i hi => (mput_at hml (Nat.zero_le _) hi).symm, he⟩, mput_all hml⟩
/-- the rows that come to be of a set by a mask -/
theorem before_rows {L : Nat} {a r : T} {m : Pa} (hm : m.length = L) (oa : Ok L 0 a) (h : ∀ x, ev r x = true ↔ ∃ y : Nat → Bool, (∀ i, i ∉ (sgOf 0 m).map (·.1) → y i = x i) ∧ ev a y = true ∧ ((sgOf 0 m).all fun p => y p.1 == p.2) = true) {row : R} (hr : row.length = L) :
    St r 0 row = St a 0 (mput m row) := by
  have hml : m.length = row.length := by rw [hr, hm]
  rw [Bool.eq_iff_iff]
  unfold St
  rw [h]
  constructor
  · rintro ⟨y, hy, he, hall⟩
    rw [← he]
    refine ev_congrL oa fun i _ hi => ?_
    by_cases e : i ∈ (sgOf 0 m).map (·.1)
    · exact all_val (mput_all hml) hall e
    · rw [mput_at hml (Nat.zero_le _) e]
      exact (hy i e).symm
  · intro he
    exact ⟨at_ 0 (mput m row), fun i hi => mput_at hml (Nat.zero_le _) hi, he, mput_all hml⟩
end Tr
namespace Tr
def tri (a b : T) : Bool := decide (a = .all) || decide (b = .all) || decide (a = .no) || decide (a = b) || decide (b = .no)
def cE (L : Nat) : Nat → T → T → Nat
  | 0, _, _ => 0
  | d + 1, a, b => if tri a b = true then 0 else 1 + cE L d (lo (min (lev L a) (lev L b)) a) (lo (min (lev L a) (lev L b)) b) + cE L d (hi (min (lev L a) (lev L b)) a) (hi (min (lev L a) (lev L b)) b)
theorem cE_le (L : Nat) : ∀ (d : Nat) (a b : T), cE L d a b ≤ 2 ^ d - 1
  | 0, _, _ => Nat.zero_le _
  | d + 1, a, b => by
    simp only [cE]
    split
    · exact Nat.zero_le _
    · have h1 := cE_le L d (lo (min (lev L a) (lev L b)) a) (lo (min (lev L a) (lev L b)) b)
      have h2 := cE_le L d (hi (min (lev L a) (lev L b)) a) (hi (min (lev L a) (lev L b)) b)
      have h3 : 2 ^ (d + 1) = 2 * 2 ^ d := by rw [Nat.pow_succ, Nat.mul_comm]
      have h4 : 0 < 2 ^ d := Nat.pow_pos (by decide)
      omega
theorem tri_false {a b : T} (h : tri a b = false) : a ≠ .all ∧ b ≠ .all ∧ a ≠ .no ∧ a ≠ b ∧ b ≠ .no := by
  unfold tri at h
  simp only [Bool.or_eq_false_iff, decide_eq_false_iff_not] at h
  exact ⟨h.1.1.1.1, h.1.1.1.2, h.1.1.2, h.1.2, h.2⟩
theorem lev_lt {L k : Nat} {t : T} (h : Ok L k t) (h1 : t ≠ .no) (h2 : t ≠ .all) : k ≤ lev L t ∧ lev L t < L := by
  cases t with
  | no => exact absurd rfl h1
  | all => exact absurd rfl h2
  | nd l a b => exact ⟨h.1, h.2.1⟩
theorem cE_fuel {L : Nat} : ∀ (d : Nat) {l : Nat} {a b : T} (e : Nat), Ok L l a → Ok L l b → L ≤ l + d → cE L (d + e) a b = cE L d a b
  | 0, l, a, b, e, ha, hb, h => by
    cases e with
    | zero => rfl
    | succ e =>
      have ta : tri a b = true := by
        rcases ha.end_ h with rfl | rfl
        · simp [tri]
        · simp [tri]
      show cE L (0 + e + 1) a b = 0
      simp only [cE]
      rw [if_pos ta]
  | d + 1, l, a, b, e, ha, hb, h => by
    rw [show d + 1 + e = (d + e) + 1 by omega]
    simp only [cE]
    split
    · rfl
    · rename_i ht
      have ht : tri a b = false := by simpa using ht
      obtain ⟨h1, h2, h3, h4, h5⟩ := tri_false ht
      obtain ⟨a1, a2⟩ := lev_lt ha h3 h1
      obtain ⟨b1, b2⟩ := lev_lt hb h5 h2
      have oa : Ok L (min (lev L a) (lev L b)) a := ha.up (by omega) a2
      have ob : Ok L (min (lev L a) (lev L b)) b := hb.up (by omega) b2
      rw [cE_fuel d e oa.lo ob.lo (by omega), cE_fuel d e oa.hi ob.hi (by omega)]
theorem cE_no {L d : Nat} {a : T} : cE L d a .no = 0 := by
  cases d with
  | zero => rfl
  | succ d =>
    simp only [cE]
    rw [if_pos (by simp [tri])]
theorem indep {L k : Nat} {t : T} (h : Ok L k t) (e : lo k t = hi k t) : Ok L (k + 1) t := by
  cases t with
  | no => trivial
  | all => trivial
  | nd l a b =>
    by_cases q : l = k
    · subst q
      rw [lo_same, hi_same] at e
      exact absurd e h.2.2.1
    · exact ⟨by have := h.1; omega, h.2⟩
theorem lev_of {L k : Nat} {t : T} (h : Ok L k t) (e : lo k t ≠ hi k t) : lev L t = k := by
  cases t with
  | no => exact absurd rfl e
  | all => exact absurd rfl e
  | nd l a b =>
    by_cases q : l = k
    · exact q
    · exact absurd (by simp [lo, hi, q]) e
theorem fits_ex : ∀ p : Pa, ∃ x : R, x.length = p.length ∧ fits p x = true
  | [] => ⟨[], rfl, rfl⟩
  | none :: p => by
    obtain ⟨x, h1, h2⟩ := fits_ex p
    exact ⟨false :: x, by simp [h1], h2⟩
  | some b :: p => by
    obtain ⟨x, h1, h2⟩ := fits_ex p
    exact ⟨b :: x, by simp [h1], by simp [fits, h2]⟩
def tl (c : Bool) (u : Pa) : Option Pa := match u with
  | some b :: t => if b = c then some t else none
  | _ => none
theorem tl_fits {c : Bool} {us : List Pa} (h : ∀ u ∈ us, ∃ b t, u = some b :: t) (x : R) : (us.any fun u => fits u (c :: x)) = (us.filterMap (tl c)).any fun u => fits u x := by
  induction us with
  | nil => rfl
  | cons u us ih =>
    obtain ⟨b, t, rfl⟩ := h u (List.mem_cons_self ..)
    have ih := ih fun v hv => h v (List.mem_cons_of_mem _ hv)
    rw [List.any_cons, ih]
    by_cases e : b = c
    · subst e
      rw [List.filterMap_cons]
      simp [tl, fits]
    · rw [List.filterMap_cons]
      simp [tl, fits, e]
theorem cost_row {L : Nat} : ∀ (d k : Nat) (S : R → Bool) (us : List Pa) (p : Pa) (ρ τ : T), k + d = L → Ok L k ρ → Ok L k τ → (∀ u ∈ us, u ∈ pl d S) → p ∈ pl d S →
    (∀ x : R, x.length = d → St ρ k x = us.any fun u => fits u x) → (∀ x : R, x.length = d → St τ k x = fits p x) → cE L d ρ τ ≤ d
  | 0, _, _, _, _, _, _, _, _, _, _, _, _, _ => Nat.le_refl _
  | d + 1, k, S, us, p, ρ, τ, hk, hr, ht, hu, hp, sr, st => by
    by_cases hc : tri ρ τ = true
    · simp only [cE]
      rw [if_pos hc]
      exact Nat.zero_le _
    have hc : tri ρ τ = false := by simpa using hc
    obtain ⟨n1, n2, n3, n4, n5⟩ := tri_false hc
    by_cases e : pl d (fun x => S (false :: x)) = pl d (fun x => S (true :: x))
    · have epl : pl (d + 1) S = (pl d (fun x => S (false :: x))).map (none :: ·) := by simp only [pl]; rw [if_pos e]
      rw [epl] at hu hp
      obtain ⟨p', hp', rfl⟩ := List.mem_map.mp hp
      obtain ⟨us', rfl, hus'⟩ : ∃ us' : List Pa, us = us'.map (none :: ·) ∧ ∀ u ∈ us', u ∈ pl d (fun x => S (false :: x)) := by
        have : ∀ l : List Pa, (∀ u ∈ l, u ∈ (pl d (fun x => S (false :: x))).map (none :: ·)) → ∃ us' : List Pa, l = us'.map (none :: ·) ∧ ∀ u ∈ us', u ∈ pl d (fun x => S (false :: x)) := by
          intro l
          induction l with
          | nil => exact fun _ => ⟨[], rfl, by simp⟩
          | cons u l ih =>
            intro h
            obtain ⟨l', rfl, hl'⟩ := ih fun v hv => h v (List.mem_cons_of_mem _ hv)
            obtain ⟨v, hv, rfl⟩ := List.mem_map.mp (h u (List.mem_cons_self ..))
            exact ⟨v :: l', rfl, fun w hw => by
              rcases List.mem_cons.mp hw with rfl | hw
              · exact hv
              · exact hl' w hw⟩
        exact this us hu
      have ur : ∀ (c : Bool) (x : R), ((us'.map (none :: ·)).any fun u => fits u (c :: x)) = us'.any fun u => fits u x := fun c x => by
        rw [List.any_map]
        rfl
      have r1 : ∀ (c : Bool) (x : R), x.length = d → (if c = true then St (hi k ρ) (k + 1) x else St (lo k ρ) (k + 1) x) = us'.any fun u => fits u x := fun c x hx => by
        rw [← St_cons hr, sr _ (by simp [hx]), ur]
      have t1 : ∀ (c : Bool) (x : R), x.length = d → (if c = true then St (hi k τ) (k + 1) x else St (lo k τ) (k + 1) x) = fits p' x := fun c x hx => by
        rw [← St_cons ht, st _ (by simp [hx])]
        rfl
      have er : lo k ρ = hi k ρ := St_eq hr.lo hr.hi (by omega) fun x hx => (r1 false x hx).trans (r1 true x hx).symm
      have et : lo k τ = hi k τ := St_eq ht.lo ht.hi (by omega) fun x hx => (t1 false x hx).trans (t1 true x hx).symm
      have o1 := indep hr er
      have o2 := indep ht et
      have lo1 : lo k ρ = ρ := by
        cases ρ with
        | no => rfl
        | all => rfl
        | nd l a b => exact if_neg (by have := o1.1; omega)
      have lo2 : lo k τ = τ := by
        cases τ with
        | no => rfl
        | all => rfl
        | nd l a b => exact if_neg (by have := o2.1; omega)
      have ih := cost_row d (k + 1) (fun x => S (false :: x)) us' p' ρ τ (by omega) o1 o2 hus' hp' (fun x hx => by rw [← r1 false x hx, if_neg (by decide), lo1]) (fun x hx => by rw [← t1 false x hx, if_neg (by decide), lo2])
      rw [cE_fuel d 1 o1 o2 (by omega)]
      omega
    · have epl : pl (d + 1) S = (pl d (fun x => S (false :: x))).map (some false :: ·) ++ (pl d (fun x => S (true :: x))).map (some true :: ·) := by simp only [pl]; rw [if_neg e]
      rw [epl] at hu hp
      have shape : ∀ q : Pa, q ∈ (pl d (fun x => S (false :: x))).map (some false :: ·) ++ (pl d (fun x => S (true :: x))).map (some true :: ·) → ∃ (b : Bool) (t : Pa), q = some b :: t ∧ t ∈ pl d (fun x => S (b :: x)) := fun q hq => by
        rcases List.mem_append.mp hq with hq | hq
        · obtain ⟨t, ht, rfl⟩ := List.mem_map.mp hq
          exact ⟨false, t, rfl, ht⟩
        · obtain ⟨t, ht, rfl⟩ := List.mem_map.mp hq
          exact ⟨true, t, rfl, ht⟩
      obtain ⟨c, p', rfl, hp'⟩ := shape p hp
      have us1 : ∀ u ∈ us, ∃ b t, u = some b :: t := fun u hm => by
        obtain ⟨b, t, h, _⟩ := shape u (hu u hm)
        exact ⟨b, t, h⟩
      have hus' : ∀ u ∈ us.filterMap (tl c), u ∈ pl d (fun x => S (c :: x)) := fun u hm => by
        obtain ⟨v, hv, hvu⟩ := List.mem_filterMap.mp hm
        obtain ⟨b, t, rfl, hbt⟩ := shape v (hu v hv)
        simp only [tl] at hvu
        by_cases e2 : b = c
        · rw [if_pos e2] at hvu
          injection hvu with hvu
          subst hvu
          subst e2
          exact hbt
        · rw [if_neg e2] at hvu
          cases hvu
      have t1 : ∀ (b : Bool) (x : R), x.length = d → (if b = true then St (hi k τ) (k + 1) x else St (lo k τ) (k + 1) x) = ((c == b) && fits p' x) := fun b x hx => by
        rw [← St_cons ht, st _ (by simp [hx])]
        rfl
      have r1 : ∀ (b : Bool) (x : R), x.length = d → (if b = true then St (hi k ρ) (k + 1) x else St (lo k ρ) (k + 1) x) = (us.filterMap (tl b)).any fun u => fits u x := fun b x hx => by
        rw [← St_cons hr, sr _ (by simp [hx]), tl_fits us1]
      obtain ⟨x0, hx0, hf0⟩ := fits_ex p'
      have hx0 : x0.length = d := by rw [hx0]; exact pl_len hp'
      have ne : lo k τ ≠ hi k τ := fun z => by
        have a1 := t1 false x0 hx0
        have a2 := t1 true x0 hx0
        rw [if_neg (by decide)] at a1
        rw [if_pos rfl] at a2
        rw [z, a2, hf0, Bool.and_true, Bool.and_true] at a1
        cases c <;> simp at a1
      have lt := lev_of ht ne
      obtain ⟨g1, g2⟩ := lev_lt hr n3 n1
      have em : min (lev L ρ) (lev L τ) = k := by omega
      simp only [cE]
      rw [if_neg (by rw [hc]; decide), em]
      cases c with
      | false =>
        have hno : hi k τ = .no := St_eq ht.hi (by trivial) (show k + 1 + d = L by omega) fun x hx => by
          have := t1 true x hx
          rw [if_pos rfl] at this
          rw [this, St_no]
          rfl
        have ih := cost_row d (k + 1) (fun x => S (false :: x)) _ p' (lo k ρ) (lo k τ) (by omega) hr.lo ht.lo hus' hp' (fun x hx => by have := r1 false x hx; rw [if_neg (by decide)] at this; exact this) (fun x hx => by have := t1 false x hx; rw [if_neg (by decide)] at this; rw [this]; rfl)
        rw [hno, cE_no]
        omega
      | true =>
        have hno : lo k τ = .no := St_eq ht.lo (by trivial) (show k + 1 + d = L by omega) fun x hx => by
          have := t1 false x hx
          rw [if_neg (by decide)] at this
          rw [this, St_no]
          rfl
        have ih := cost_row d (k + 1) (fun x => S (true :: x)) _ p' (hi k ρ) (hi k τ) (by omega) hr.hi ht.hi hus' hp' (fun x hx => by have := r1 true x hx; rw [if_pos rfl] at this; exact this) (fun x hx => by have := t1 true x hx; rw [if_pos rfl] at this; rw [this]; rfl)
        rw [hno, cE_no]
        omega
end Tr
namespace My
open PySem PySem.Spec PyProof.Rows L2
mutual
/-- the value v is the key k -/
inductive KeyV (H : Hp) : NestedKey → V → Prop
  | none : KeyV H .none .non
  | num (i : Int) : KeyV H (.num i) (.int i)
  | text (x : Str) : KeyV H (.text x) (.str x)
  | tup {a : Addr} {vs : List V} {ks : List NestedKey} : H a = some (.tup vs) → KeyVs H ks vs → KeyV H (.tup ks) (.ref a)
inductive KeyVs (H : Hp) : List NestedKey → List V → Prop
  | nil : KeyVs H [] []
  | cons {k : NestedKey} {v : V} {ks : List NestedKey} {vs : List V} : KeyV H k v → KeyVs H ks vs → KeyVs H (k :: ks) (v :: vs)
end
mutual
theorem KeyV.ext {H H' : Hp} (ht : ∀ b xs, H b = some (.tup xs) → H' b = some (.tup xs)) : ∀ {k : NestedKey} {v : V}, KeyV H k v → KeyV H' k v
  | _, _, .none => .none
  | _, _, .num i => .num i
  | _, _, .text x => .text x
  | _, _, .tup h r => .tup (ht _ _ h) (KeyVs.ext ht r)
theorem KeyVs.ext {H H' : Hp} (ht : ∀ b xs, H b = some (.tup xs) → H' b = some (.tup xs)) : ∀ {ks : List NestedKey} {vs : List V}, KeyVs H ks vs → KeyVs H' ks vs
  | _, _, .nil => .nil
  | _, _, .cons h r => .cons (KeyV.ext ht h) (KeyVs.ext ht r)
end
section
variable {P : Program} {w : World} {H : Hp} {h : Heap}
mutual
theorem KeyV.is (ok : HOk P w H h) : ∀ {k : NestedKey} {v : V} {u : Value}, KeyV H k v → RelV v u → NestedIs h k u
  | _, _, u, .none, r => by
    have e : u = Value.none := r
    rw [e]; exact .none
  | _, _, u, .num i, r => by
    obtain ⟨t, e⟩ := (show ∃ t, u = Value.int i t from r)
    rw [e]; exact .int i t
  | _, _, u, .text x, r => by
    obtain ⟨t, e⟩ := (show ∃ t, u = Value.str x t from r)
    rw [e]; exact .text x t
  | _, _, u, .tup (a := a) (vs := vs) e q, r => by
    have e' : u = Value.ref a := r
    rw [e']
    obtain ⟨_, its, rel, o, h1, h2, n, h3⟩ := (show ObjOk P w H h a (.tup vs) from ok a _ e)
    exact .tup h1 h2 h3 (by simpa using KeyVs.is ok q rel)
theorem KeyVs.is (ok : HOk P w H h) : ∀ {ks : List NestedKey} {vs : List V} {us : List Value}, KeyVs H ks vs → Vals vs us → NestedAll h ks us
  | _, _, _, .nil, .nil => .nil
  | _, _, _, .cons a b, .cons r t => .cons (KeyV.is ok a r) (KeyVs.is ok b t)
end
end
/-- the object of such a dict: its raw entries -/
def NDO (P : Program) (w : World) (d : Addr) (xs : List (NestedKey × Addr × Value)) : HO := .ext fun h => ∃ (o : Obj) (es : Array DictEntry) (ep : Nat), h.get? d = some o ∧ o.ExactDict ∧ o.data = .dict es ep ∧ es.toList = xs.map (entryOfKey (nestedKind P w)) ∧ (xs.map (·.1)).Nodup
abbrev NT (H : Hp) : List (NestedKey × V) → List (NestedKey × Addr × Value) → Prop := Paired fun p q => p.1 = q.1 ∧ (KeyV H p.1 (.ref q.2.1) ∧ p.1.depth ≤ 8) ∧ RelV p.2 q.2.2
/-- at d a dict of kvs -/
def NDict (P : Program) (w : World) (H : Hp) (d : Addr) (kvs : List (NestedKey × V)) : Prop :=
  ∃ xs, H d = some (NDO P w d xs) ∧ (d == sysModules) = false ∧ kvs.length ≤ sizeLine ∧ NT H kvs xs
theorem NT.val {H : Hp} {kvs : List (NestedKey × V)} {xs : List (NestedKey × Addr × Value)} (r : NT H kvs xs) (k : NestedKey) : RelO (valV kvs k) ((atKey xs k).map (·.2)) := by
  induction r with
  | nil => exact True.intro
  | @cons p q ps qs h t ih =>
    obtain ⟨h1, _, h2⟩ := h
    by_cases e : p.1 = k
    · have e' : q.1 = k := h1.symm.trans e
      have b : atKey (q :: qs) k = some q.2 := by simp [atKey, List.find?_cons, e']
      rw [valV_pos e, b]; exact h2
    · have e' : ¬ q.1 = k := fun z => e (h1.trans z)
      have b : atKey (q :: qs) k = atKey qs k := by simp [atKey, List.find?_cons, e']
      rw [valV_neg e, b]; exact ih
theorem NT.repl {H : Hp} {kvs : List (NestedKey × V)} {xs : List (NestedKey × Addr × Value)} (r : NT H kvs xs) (k : NestedKey) {y : V} {u : Value} (ry : RelV y u) :
    NT H (kvs.map fun kv => if kv.1 = k then (kv.1, y) else kv) (xs.map (putAt k u)) := by
  induction r with
  | nil => exact .nil
  | @cons p q ps qs h t ih =>
    rw [List.map_cons, List.map_cons]
    refine .cons ?_ ih
    obtain ⟨h1, h2, h3⟩ := h
    unfold putAt
    by_cases e : p.1 = k
    · rw [if_pos e, if_pos (h1.symm.trans e)]; exact ⟨h1, h2, ry⟩
    · rw [if_neg e, if_neg (fun z => e (h1.trans z))]; exact ⟨h1, h2, h3⟩
theorem NT.put {H : Hp} {kvs : List (NestedKey × V)} {xs : List (NestedKey × Addr × Value)} (r : NT H kvs xs) (k : NestedKey) {b : Addr} {y : V} {u : Value} (hb : KeyV H k (.ref b)) (hd : k.depth ≤ 8) (ry : RelV y u) :
    NT H (putK kvs k y) (storedH xs k b u) := by
  have e : (kvs.any fun kv => decide (kv.1 = k)) = (atKey xs k).isSome := by
    rw [valV_any, (r.val k).isSome_eq, Option.isSome_map]
  unfold putK storedH
  rw [e]
  by_cases q : (atKey xs k).isSome = true
  · rw [if_pos q, if_pos q]; exact r.repl k ry
  · rw [if_neg q, if_neg q]; exact Paired.snoc r ⟨rfl, ⟨hb, hd⟩, ry⟩
theorem NT.ext {H H' : Hp} {kvs : List (NestedKey × V)} {xs : List (NestedKey × Addr × Value)} (r : NT H kvs xs) (ht : ∀ b ys, H b = some (.tup ys) → H' b = some (.tup ys)) : NT H' kvs xs :=
  Paired.mapP r fun _ _ z => ⟨z.1, ⟨z.2.1.1.ext ht, z.2.1.2⟩, z.2.2⟩
theorem NDict.ext {P : Program} {w : World} {H H' : Hp} {d : Addr} {kvs : List (NestedKey × V)} (x : NDict P w H d kvs) (ht : ∀ b ys, H b = some (.tup ys) → H' b = some (.tup ys)) (hd : ∀ o, H d = some o → H' d = some o) : NDict P w H' d kvs := by
  obtain ⟨xs, e, a, b, r⟩ := x
  exact ⟨xs, hd _ e, a, b, r.ext ht⟩
theorem NDict.ne_tup {P : Program} {w : World} {H : Hp} {d b : Addr} {kvs : List (NestedKey × V)} {ys : List V} (x : NDict P w H d kvs) (e : H b = some (.tup ys)) : b ≠ d := by
  obtain ⟨xs, e', _⟩ := x
  exact ne_of e e' (fun z => by cases z)
section
variable {X : Cx} {pins : List (Addr × Obj)} {σ : L2.St} {H : Hp} {s : Shared} {a : Addr} {y v : V} {u r : Value} {A : Around} {E : Value → Shared → Prop} {kvs : List (NestedKey × V)} {k : NestedKey} {b : Addr}
theorem nd_of {P : Program} {w : World} {h : Heap} (ok : HOk P w H h) (x : NDict P w H a kvs) : (a == sysModules) = false ∧ kvs.length ≤ sizeLine ∧ ∃ xs, H a = some (NDO P w a xs) ∧ NT H kvs xs ∧ h.DictOfH (nestedKind P w) a xs := by
  obtain ⟨xs, e, hd, hl, rel⟩ := x
  obtain ⟨⟨o, es, ep, h1, h2, h3, h4, h5⟩, _, _⟩ := (show ObjOk P w H h a (NDO P w a xs) from ok a _ e)
  refine ⟨hd, hl, xs, e, rel, o, es, ep, h1, h2, h3, h4, fun x hx => ?_, h5⟩
  have all : ∀ {l : List (NestedKey × V)} {m : List (NestedKey × Addr × Value)}, NT H l m → ∀ x ∈ m, (nestedKind P w).is h x.1 x.2.1 := by
    intro l m q
    induction q with
    | nil => intro x hx; exact nomatch hx
    | @cons p q ps qs hq t ih =>
      intro x hx
      rcases List.mem_cons.mp hx with e | hx
      · subst e
        obtain ⟨q1, q2, q3⟩ := hq
        rw [q1] at q2
        exact ⟨q2.1.is ok (show RelV (.ref x.2.1) (.ref x.2.1) from rfl), q2.2⟩
      · exact ih x hx
  exact all rel x hx
theorem nd_is {P : Program} {w : World} {h : Heap} (ok : HOk P w H h) (x : KeyV H k (.ref b)) (hd : k.depth ≤ 8) : (nestedKind P w).is h k b := ⟨x.is ok (show RelV (.ref b) (.ref b) from rfl), hd⟩
theorem nd_room {A : Around} (hu : A.units + 16 < cLine) {P : Program} {w : World} : (nestedKind P w).room A.in1 := by
  show A.units + 1 + 8 < cLine
  omega
/-- d[y], there -/
theorem nd_getItem {Q : Value → Shared → Prop} (hu : A.units + 16 < cLine) (I : Inv X pins σ H s) (x : NDict X.prog X.w H a kvs) (hk : KeyV H k (.ref b)) (hdp : k.depth ≤ 8) (l : valV kvs k = some v) (h : ∀ w' s', Inv X pins σ H s' → RelV v w' → Q w' s') :
    wpAny (model X.prog X.w) A (getItem (.ref a) (.ref b)) Q E s := by
  obtain ⟨hd, _, xs, e, rel, dd⟩ := nd_of I.hok x
  obtain ⟨w', hw, rw'⟩ := RelO.some_of (v := v) (o := (atKey xs k).map (·.2)) (by rw [← l]; exact rel.val k)
  obtain ⟨p, hp, hp2⟩ := Option.map_eq_some_iff.mp hw
  refine wpAny_getItem_heap (nd_room hu) (nd_is I.hok hk hdp) dd hp ?_
  rw [hp2]
  exact h w' _ (I.tok _) rw'
theorem nd_in {Q : Value → Shared → Prop} (hu : A.units + 16 < cLine) (I : Inv X pins σ H s) (x : NDict X.prog X.w H a kvs) (hk : KeyV H k (.ref b)) (hdp : k.depth ≤ 8) (h : ∀ s', Inv X pins σ H s' → Q (.bool (valV kvs k).isSome) s') :
    wpAny (model X.prog X.w) A (compareOp .In (.ref b) (.ref a)) Q E s := by
  obtain ⟨hd, _, xs, e, rel, dd⟩ := nd_of I.hok x
  refine wpAny_in_heap (nd_room hu) (nd_is I.hok hk hdp) hd dd ?_
  have q := (rel.val k).isSome_eq
  rw [Option.isSome_map] at q
  rw [← q]
  exact h _ (I.tok _)
theorem nd_notIn {Q : Value → Shared → Prop} (hu : A.units + 16 < cLine) (I : Inv X pins σ H s) (x : NDict X.prog X.w H a kvs) (hk : KeyV H k (.ref b)) (hdp : k.depth ≤ 8) (h : ∀ s', Inv X pins σ H s' → Q (.bool (!(valV kvs k).isSome)) s') :
    wpAny (model X.prog X.w) A (compareOp .NotIn (.ref b) (.ref a)) Q E s := by
  obtain ⟨hd, _, xs, e, rel, dd⟩ := nd_of I.hok x
  refine wpAny_notIn_heap (nd_room hu) (nd_is I.hok hk hdp) hd dd ?_
  have q := (rel.val k).isSome_eq
  rw [Option.isSome_map] at q
  rw [← q]
  exact h _ (I.tok _)
/-- what a[b] = v leaves -/
def NPut (P : Program) (w : World) (H : Hp) (a : Addr) (kvs : List (NestedKey × V)) (H' : Hp) : Prop := NDict P w H' a kvs ∧ ∀ c, c ≠ a → H' c = H c
theorem nd_setItem {Q : Unit → Shared → Prop} (hu : A.units + 16 < cLine) (I : Inv X pins σ H s) (x : NDict X.prog X.w H a kvs) (hk : KeyV H k (.ref b)) (hdp : k.depth ≤ 8) (hl : kvs.length < sizeLine) (rv : RelV v r)
    (h : ∀ H' s', NPut X.prog X.w H a (putK kvs k v) H' → Inv X pins σ H' s' → Q () s') : wpAny (model X.prog X.w) A (setItem (.ref a) (.ref b) r) Q E s := by
  obtain ⟨hd, _, xs, e, rel, dd⟩ := nd_of I.hok x
  have hz : xs.length ≤ sizeLine := by rw [← Paired.length rel]; omega
  have hl2 : (putK kvs k v).length ≤ sizeLine := by have := length_putK kvs k v; omega
  refine wpAny_setItem_heap (hsz := hz) (nd_room hu) (nd_is I.hok hk hdp) dd fun h' dd' hs => ?_
  obtain ⟨q, es, ep, hq, h2, h3, h4, h6, h5⟩ := dd'
  have ht : ∀ c ys, H c = some (.tup ys) → upd H a (NDO X.prog X.w a (storedH xs k b r)) c = some (.tup ys) := fun c ys ec => by
    rw [upd_ne (ne_of ec e (fun z => by cases z))]
    exact ec
  refine h (upd H a (NDO X.prog X.w a (storedH xs k b r))) _ ⟨⟨_, upd_same, hd, hl2, (rel.put k hk hdp rv).ext ht⟩, fun c hc => upd_ne hc⟩ (d_write I (by rw [e]; exact True.intro) hs ⟨q, hq⟩ ?_)
  exact ⟨⟨q, es, ep, hq, h2, h3, h4, h5⟩, ⟨q, hq⟩, fun h1 h2' ⟨o, es, ep, a1, a2⟩ k => ⟨o, es, ep, k o a1, a2⟩⟩
end
def tNGet (P : Program) (w : World) (td ty : TE) : TE := fun σ H Q => td σ H fun x H1 => ty σ H1 fun y H2 => ∃ a b kvs k v, x = .ref a ∧ y = .ref b ∧ NDict P w H2 a kvs ∧ KeyV H2 k (.ref b) ∧ k.depth ≤ 8 ∧ valV kvs k = some v ∧ Q v H2
def tNNotIn (P : Program) (w : World) (ty td : TE) : TE := fun σ H Q => ty σ H fun y H1 => td σ H1 fun x H2 => ∃ a b kvs k, x = .ref a ∧ y = .ref b ∧ NDict P w H2 a kvs ∧ KeyV H2 k (.ref b) ∧ k.depth ≤ 8 ∧ Q (.bl (!(valV kvs k).isSome)) H2
def sNPut (P : Program) (w : World) (td ty tv : TE) : TS := fun D σ H => tv σ H fun v H1 => td σ H1 fun x H2 => ty σ H2 fun y H3 => ∃ a b kvs k, x = .ref a ∧ y = .ref b ∧ NDict P w H3 a kvs ∧ KeyV H3 k (.ref b) ∧ k.depth ≤ 8 ∧ kvs.length < sizeLine ∧ ∀ H4, NPut P w H3 a (putK kvs k v) H4 → D.nx σ H4
def tNNew (P : Program) (w : World) : TE := fun _ H Q => ∀ p, H p = none → ∀ H', NPut P w H p [] H' → Q (.ref p) H'
section
variable {X : Cx} {o i e value : Expr} {pos pos' tpos : Pos} {td ty tv : TE}
theorem nd_typeIs {pins : List (Addr × Obj)} {σ : L2.St} {H : Hp} {s : Shared} {a : Addr} {kvs : List (NestedKey × V)} (I : Inv X pins σ H s) (x : NDict X.prog X.w H a kvs) : s.TypeIs (.ref a) "dict" := by
  obtain ⟨_, _, xs, _, _, dd⟩ := nd_of I.hok x
  exact dd.typeIs
theorem pe_nget (hu : X.A.units + 16 < cLine) (ho : PE X o td) (hi : PE X i ty) (hs : NoSl i) : PE X (.Subscript o i pos) (tNGet X.prog X.w td ty) := by
  refine ⟨fun pins s σ H Q I h => ?_⟩
  refine subD_of PySem.F.slot_dict_getitem.lookup hs (thn (ho.run pins s σ H _ I h) fun u s1 ⟨x, H1, I1, rx, q1⟩ => thn (hi.run pins s1 σ H1 _ I1 q1) fun iv s2 ⟨y, H2, I2, ry, a, b, kvs, k, v, ex, ey, g, hk, hdp, l, q2⟩ => ?_)
  subst ex ey
  obtain rfl : u = Value.ref a := rx
  obtain rfl : iv = Value.ref b := ry
  exact ⟨nd_typeIs I2 g, nd_getItem hu I2 g hk hdp l fun w' s3 I3 rw' => ⟨v, H2, I3, rw', q2⟩⟩
theorem pc_nnotin (hu : X.A.units + 16 < cLine) (hi : PE X i ty) (ho : PE X o td) : PC X .NotIn i o (tNNotIn X.prog X.w ty td) := by
  refine ⟨fun pins s σ H Q I h => ?_⟩
  refine thn (hi.run pins s σ H _ I h) fun iv s1 ⟨y, H1, I1, ry, q1⟩ => thn (ho.run pins s1 σ H1 _ I1 q1) fun u s2 ⟨x, H2, I2, rx, a, b, kvs, k, ex, ey, g, hk, hdp, q2⟩ => ?_
  subst ex ey
  obtain rfl : u = Value.ref a := rx
  obtain rfl : iv = Value.ref b := ry
  exact nd_notIn hu I2 g hk hdp fun s3 I3 => ⟨.bl (!(valV kvs k).isSome), H2, I3, rfl, q2⟩
theorem ps_nput (hu : X.A.units + 16 < cLine) (ho : PE X o td) (hi : PE X i ty) (hv : PE X value tv) (hs : swapsWith value (some (.Subscript o i pos')) pos.line X.env = pure false) :
    PS X (.Assign [.Subscript o i pos'] value pos) (sNPut X.prog X.w td ty tv) := by
  refine ⟨fun pins s σ H D I h => ?_⟩
  refine wpAny_Assign_Subscript (thn (hv.run pins s σ H _ I h) fun r s1 ⟨v, H1, I1, rv, q1⟩ => thn (ho.run pins s1 σ H1 _ I1 q1) fun u s2 ⟨x, H2, I2, rx, q2⟩ => thn (hi.run pins s2 σ H2 _ I2 q2) fun iv s3 ⟨y, H3, I3, ry, a, b, kvs, k, ex, ey, g, hk, hdp, hl, q3⟩ => ?_) hs
  subst ex ey
  obtain rfl : u = Value.ref a := rx
  obtain rfl : iv = Value.ref b := ry
  exact nd_setItem hu I3 g hk hdp hl rv fun H4 s4 np I4 => ⟨σ, H4, I4, q3 H4 np⟩
theorem pe_nnew : PE X (.Dict [] [] pos) (tNNew X.prog X.w) := ⟨fun pins s σ H Q I h => by
  have hn : H s.heap.objs.size = none := I.hok.fresh (Nat.le_refl _)
  refine wpAny_Dict_empty ⟨.ref s.heap.objs.size, upd H s.heap.objs.size (NDO X.prog X.w s.heap.objs.size []), I.laid (a := s.heap.objs.size) (o := NDO X.prog X.w s.heap.objs.size []) (t' := s.toks) (fun _ _ q => Heap.get?_push_of_some _ q) (Nat.le_refl _) ?_, rfl, h _ hn _ ⟨⟨[], upd_same, ?_, Nat.zero_le _, .nil⟩, fun c hc => upd_ne hc⟩⟩
  · exact ⟨⟨_, #[], 0, Heap.get?_push_size _ rfl, ⟨rfl, rfl, rfl⟩, rfl, rfl, List.nodup_nil⟩, ⟨_, Heap.get?_push_size _ rfl⟩, fun h1 h2' ⟨o, es, ep, a1, a2⟩ k => ⟨o, es, ep, k o a1, a2⟩⟩
  · exact beq_eq_false_iff_ne.mpr (Ne.symm (Nat.ne_of_lt I.big))⟩
end
end My
namespace My
open PySem PySem.Spec PyProof.Rows L2 LamX
section
variable {prog : Program} {w : World} {A : Around} {s : Shared} {K : PySem.W.Frag}
/-- the lambda's body -/
abbrev lamBody (j : Nat) (p1 p2 p3 p4 p5 p6 : Pos) : Expr := .BinOp (.Constant (.int 0) j p1) .Sub (.Subscript (.Attribute (.Name "self" p2) "own_level" p3) (.Name "own" p4) p5) p6
abbrev lamScope : Scope := { kind := .function, names := [(PySem.Str.ofString "own", .local), (PySem.Str.ofString "self", .free)], isGenerator := false, isCoroutine := false, more := [] }
/-- what the lambda leans on, in a heap -/
structure LamAt (K : PySem.W.Frag) (h : Heap) (f : Addr) (q : Str) (params : Arguments) (body : Expr) (scope : Scope) (cl : List (Str × Addr)) (pm ctv : Value) (c' c0 p dx C lv : Addr) (mA : Str → Option Value) (its : List Value) : Prop where
  fn : h.get? f = some (PySem.W.kla_obj "<lambda>" q params body scope cl pm c' ctv)
  code : h.CodeRec (.ref c') q
  cl : cl.lookup ("self" : PySem.Str) = some c0
  cell : h.IsCell c0 (some (.ref p))
  obj : ObjM h p dx C mA
  fld : mA "own_level" = some (.ref lv)
  lst : h.IsList lv its.toArray
  kin : K.In h
  lim : h.NoLimit
theorem LamAt.keeps {h h' : Heap} {f : Addr} {q : Str} {params : Arguments} {body : Expr} {scope : Scope} {cl : List (Str × Addr)} {pm ctv : Value} {c' c0 p dx C lv : Addr} {mA : Str → Option Value} {its : List Value} (x : LamAt K h f q params body scope cl pm ctv c' c0 p dx C lv mA its)
    (k : ∀ b o, h.get? b = some o → h'.get? b = some o) : LamAt K h' f q params body scope cl pm ctv c' c0 p dx C lv mA its := by
  obtain ⟨c1, oc, vs, t, e1, e2, e3, e4⟩ := x.code
  obtain ⟨o, ho, hd⟩ := x.cell
  refine ⟨k _ _ x.fn, ⟨c1, oc, vs, t, e1, k _ _ e2, e3, e4⟩, x.cl, ⟨o, k _ _ ho, hd⟩, ⟨k _ _ x.obj.obj, x.obj.ns.at fun o e => k _ o e, x.obj.ne⟩, x.fld, ?_, x.kin.keeps k, x.lim.keeps k⟩
  obtain ⟨o, ho, r⟩ := x.lst
  exact ⟨o, k _ _ ho, r⟩
theorem lam_turn {f : Addr} {q : Str} {params : Arguments} {j : Nat} {p1 p2 p3 p4 p5 p6 : Pos} {cl : List (Str × Addr)} {pm ctv : Value} {c' c0 p dx C lv : Addr} {mA : Str → Option Value} {its : List Value} {i l : Int} {ti tl : Tok}
    (x : LamAt K s.heap f q params (lamBody j p1 p2 p3 p4 p5 p6) lamScope cl pm ctv c' c0 p dx C lv mA its) (c : Cls K C) (n : NoAttr K C "own_level") (hd : A.depth < recursionLimit)
    (hb : ∀ v, bindArgs (PySem.W.kla_fn "<lambda>" q params (lamBody j p1 p2 p3 p4 p5 p6) lamScope cl pm (.ref c') ctv) ⟨[v], []⟩ = pure [(("own" : PySem.Str), v)])
    (h0 : 0 ≤ i) (hi : its[i.toNat]? = some (.int l tl)) (hz : its.length ≤ sizeLine) :
    wpAny (model prog w) A (call (.ref f) [.int i ti]) (PySem.W.KeyPure (.int (0 - l)) s) (fun _ _ => False) s := by
  refine wpAny_call (PySem.W.kla_callFunE hd x.fn rfl rfl rfl rfl x.code ?_)
  rw [hb]
  refine wpAny_pure (wpAny_newFunctionEnv (fun y hy => ?_) (fun y hy => ?_) (fun h₁ hns hsb => ⟨x.lim.fresh _ hsb, ?_⟩) rfl)
  · simp only [lamScope, List.mem_cons, List.not_mem_nil, or_false] at hy
    rcases hy with rfl | rfl <;> simp
  · simp only [List.mem_cons, List.not_mem_nil, or_false] at hy
    rw [hy]
    rfl
  have kp : ∀ b o, s.heap.get? b = some o → h₁.get? b = some o := fun b o e => hsb.extBut b o (Nat.ne_of_lt (Heap.lt_size e)) (Heap.get?_push_of_some _ e)
  have y := x.keeps kp
  refine PySem.W.kla_codeExpr ?_
  refine wpAny_BinOp (wpAny_Constant_int ?_)
  refine Subscript_ ?_
  refine attr_of (by rfl) ?_
  refine wpAny_Name (wpAny_loadName_free rfl (by rfl) y.cl y.cell ?_ (by decide +kernel)) (by decide +kernel)
  refine get_map y.kin y.obj (c.get _) c.hd n y.fld rfl ?_
  refine wpAny_Name (wpAny_loadName_local rfl (by rfl) hns (by rfl) ?_) (by decide +kernel)
  have hlt : i.toNat < its.length := (List.getElem?_eq_some_iff.mp hi).1
  have h63 := line63
  refine tail_any y.lst.typeIs slot_list_getitem.lookup (wpAny_getItem_list y.lst h0 (by omega) (by simpa using hi) ?_) (by rfl)
  refine sub_int ?_
  exact ⟨_, _, rfl, kp, .int _ _⟩
/-- sorted(d, key=f), f a function whose calls keep all that was there -/
theorem sorted_dict_key {d f : Addr} {key : Int → Int} {ks : List Int} {vs : List (Key × Value)} {E : Value → Shared → Prop} {Q : Value → Shared → Prop} (hh : A.in1.handled = none) (dd : s.heap.DictOf (mixKind prog w) d vs) (lo : (d == sysModules) = false) (hkeys : vs.map (·.1) = ks.map Sum.inl)
    (hz : ks.length ≤ sizeLine) (hu : A.units + 2 < cLine)
    (turn : ∀ (k : Int) (t : Tok), k ∈ ks → ∀ (h : Heap) (tk : Nat), (∀ b o, s.heap.get? b = some o → h.get? b = some o) → wpAny (model prog w) A.in1.in1 (call (.ref f) [.int k t]) (PySem.W.KeyPure (.int (key k)) { s with heap := h, toks := tk }) (fun _ _ => False) { s with heap := h, toks := tk })
    (h : ∀ (out : List Value) (c : Nat) (h1 h' : Heap) (tk : Nat) (p : Addr), (∀ b o, s.heap.get? b = some o → h1.get? b = some o) → (∀ b o, h1.get? b = some o → h'.get? b = some o) → h1.objs.size ≤ p → h'.get? p = some { cls := .type "list", data := .seq out.toArray c } → IntsAre out (ks.mergeSort fun a b => decide (key a ≤ key b)) → Q (.ref p) { s with heap := h', toks := tk }) :
    wpAny (model prog w) A (call (.builtin "sorted") [.ref d] [(Str.ofString "key", .ref f)]) Q E s := by
  obtain ⟨ep, hat⟩ := dd.dictAt
  have hl : vs.length = ks.length := by
    have e := congrArg List.length hkeys
    rw [List.length_map, List.length_map] at e
    exact e
  refine PyProof.Rows.call_function_entry_kw PyProof.Rows.kind_sorted PyProof.Rows.plain_sorted PyProof.Rows.entry_sorted (PyProof.Rows.ksk_s1 _ _) ?_
  unfold Builtin.«sorted»
  refine wpAny_bind (m := checkCount "sorted" 1 1 _) (wpAny_pure ?_)
  refine wpAny_bind (PySem.W.kdu_collect (A := A.in1) (PySem.W.kdl_dict (knd := mixKind prog w) (kvs := vs) (ep := ep) lo) hh hat (by rw [hl]; exact hz) fun h' tk acc hk hacc => ?_)
  have hal : acc.toList.length = ks.length := by rw [Array.length_toList, hacc.1, hl]
  have hS : IntsAre acc.toList ks := ints_each hal fun j v e => by
    obtain ⟨k, x, e1, e2⟩ := hacc.2 j v (by rw [← Array.getElem?_toList]; exact e)
    have e3 : (vs.map (·.1))[j]? = some k := by rw [List.getElem?_map, e1]; rfl
    rw [hkeys, List.getElem?_map] at e3
    cases e4 : ks[j]? with
    | none => rw [e4] at e3; cases e3
    | some y =>
      rw [e4] at e3
      have e5 : Sum.inl y = k := Option.some.inj e3
      subst e5
      rcases keyIs_shape (show keyIs (Sum.inl y) v = true from e2) with ⟨i, t, ek, ev⟩ | ⟨z, t, ek, ev⟩
      · cases ek
        exact ⟨y, t, rfl, ev⟩
      · cases ek
  refine wpAny_bind (wpAny_newList ?_ (by rw [hal]; exact hz))
  have hoL : (h'.push (seqObj "list" acc.toList.toArray 0)).get? h'.objs.size = some (seqObj "list" acc.toList.toArray 0) := Heap.get?_push_size _ rfl
  have up : ∀ {g : Heap}, PySem.W.KeepsBut h'.objs.size (h'.push (seqObj "list" acc.toList.toArray 0)) g → ∀ b o, s.heap.get? b = some o → g.get? b = some o := fun {g} kp b o q =>
    kp b o (Nat.ne_of_lt (Heap.lt_size (hk b o q))) (Heap.get?_push_of_some _ (hk b o q))
  show wpAny _ _ _ _ _ { s with heap := h'.push (seqObj "list" acc.toList.toArray 0), toks := tk }
  have each : ∀ {us : List Value} {ks : List Int}, IntsAre us ks → PySem.W.EachIs (fun (v : Value) (k : Int) => ∃ t, v = Value.int k t) us ks := by
    intro us ks r
    induction r with
    | nil => exact .nil
    | cons k t _ ih => exact .cons ⟨t, rfl⟩ ih
  have back : ∀ {us : List Value} {ks : List Int}, PySem.W.EachIs (fun (v : Value) (k : Int) => ∃ t, v = Value.int k t) us ks → IntsAre us ks := by
    intro us ks r
    induction r with
    | nil => exact .nil
    | cons r _ ih =>
      obtain ⟨t, e⟩ := r
      subst e
      exact .cons _ _ ih
  refine wpAny_bind (wpAny_holding (PyProof.Rows.wpAny_call_entry_kw PyProof.Rows.slot_list_sort ⟨_, hoL, rfl⟩ PyProof.Rows.entry_list_sort ?_ (PyProof.Rows.ksk_l1 _ _)))
  rw [PyProof.Rows.ksk_t1]
  refine PySem.W.keyH_tree (s := { s with heap := h'.push (seqObj "list" acc.toList.toArray 0), toks := tk }) (kz := ks.map fun k => .int (key k)) hoL (by rw [List.length_map]; exact hal.symm) (by rw [hal]; exact hz)
    (PySem.W.AllAlike.of fun _ _ => by simp [PySem.W.alike]) (PySem.W.Sortable.others fun _ => ⟨by simp, by simp⟩) (fun d' hd' => ?_)
    (PySem.W.keyH_turns (s := { s with heap := h'.push (seqObj "list" acc.toList.toArray 0), toks := tk }) (k := fun k => PyData.int (key k)) (each hS) fun v x ⟨t, hR⟩ hx h2 tk2 kp => ?_) fun h2 tk2 out c kp hD ko => ⟨.none, rfl, ?_⟩
  · obtain ⟨k, _, rfl⟩ := List.mem_map.mp hd'
    show A.in1.in1.units + 0 < cLine
    exact hu
  · subst hR
    exact turn x t hx h2 tk2 (up kp)
  · have eo := PySem.W.keyedOut_each (fun k => PyData.int (key k)) ko (each hS)
    rw [PySem.W.dataLe_int] at eo
    exact wpAny_pure ⟨_, rfl, h out c h' h2 tk2 h'.objs.size hk (fun b o q => kp b o (Nat.ne_of_lt (Heap.lt_size q)) (Heap.get?_push_of_some _ q)) (Nat.le_refl _) hD (back eo)⟩
end
end My
namespace My
open PySem PySem.Spec PyProof.Rows L2 LamX
/-- sorted(e, key=lambda own: 0 - self.own_level[own]), self in slot is, e a dict with int keys -/
def tSortLam (K : PySem.W.Frag) (T : List (Addr × Str)) (is : Nat) (te : TA) : TE := fun σ H Q => te σ H fun xs H1 => Tabs T H1 ∧ ∃ (d : Addr) (kvs : List (Key × V)) (ks : List Int) (p C dx : Addr) (fs : List (Str × V)) (lv : Addr) (lvs : List Int), xs = [.ref d] ∧ σ[is]? = some (some (.ref p)) ∧ H1 d = some (.dK kvs) ∧ kvs.map (·.1) = ks.map Sum.inl ∧
  H1 p = some (.ins C dx fs) ∧ Cls K C ∧ NoAttr K C "own_level" ∧ fs.lookup ("own_level" : Str) = some (.ref lv) ∧ H1 lv = some (.lst (lvs.map V.int)) ∧ (∀ k ∈ ks, 0 ≤ k ∧ k.toNat < lvs.length) ∧
  ∀ (ys : List Int) (p : Addr) (H2 : Hp), ExtN H1 H2 → Tabs T H2 → ys.Perm ks → ys.Pairwise (fun a b => lvs.getD b.toNat 0 ≤ lvs.getD a.toNat 0) → H2 p = none → Q (.ref p) (upd H2 p (.lst (ys.map V.int)))
section
variable {X : Cx}
theorem pe_sortedLam {T : List (Addr × Str)} {c P : Addr} {is k j : Nat} {e : Expr} {te : TA} {params : Arguments} {p pos lpos kpos p1 p2 p3 p4 p5 p6 : Pos} (hcalm : X.calm = true) (hr : Room k X.A) (TB : TabB X.base X.mg c P) (hcode : X.env.code = .ref c)
    (hm : (P, X.env.qual ++ "<lambda>") ∈ T) (hu : ∀ q ∈ T, q.1 = P → q.2 = X.env.qual ++ "<lambda>") (hN : X.N[is]? = some ("self" : Str)) (hcell : X.env.scope.names.lookup ("self" : Str) = some .cell)
    (ha : PA X [e] te) (hg : Gl X "sorted") (hb0 : X.mg "sorted" = none) (hpar : ∀ (q : Str) (body : Expr) (cl : List (Str × Addr)) (pm cd ctv v : Value), bindArgs (PySem.W.kla_fn "<lambda>" q params body lamScope cl pm cd ctv) ⟨[v], []⟩ = pure [(("own" : Str), v)])
    (hdef : defaultsOf params X.env = ([], []) := by rfl)
    (he : backTo pos (starEach [e] X.env) = (false, eval e X.env) :: backTo pos (starEach [] X.env) := by rfl) (hpl : (backTo pos (starEach [e] X.env)).any (·.1) = false := by rfl) :
    PE X (.Call (.Name "sorted" p) [e] [⟨some "key", .Lambda params (lamBody j p1 p2 p3 p4 p5 p6) lamScope lpos, kpos⟩] pos) (tSortLam X.K T is te) := by
  refine ⟨fun pins s σ H Q I h => ?_⟩
  refine wpAny_Call_Name_kw (ld_blt (u := .builtin "sorted") I hg hb0 (by decide +kernel) ?_ (by decide +kernel) (by decide +kernel))
  refine PyProof.Rows.callWith_kw (thn (ha.run pos pins s σ H _ I h) fun us s1 ⟨vs, H1, I1, r1, q1⟩ => ?_) he hpl (by rfl) (by rfl)
  obtain ⟨hT, d, kvs, ks, pp, C, dx, fs, lv, lvs, ev, hself, hd, hks, hp, hc, hn, hfl, hlv, hin, q⟩ := q1
  subst ev
  obtain ⟨u1, eu, ru⟩ := vals1 r1
  subst eu
  obtain rfl : u1 = Value.ref d := ru
  refine wpAny_evalAll_cons (wpAny_bind ?_)
  refine lam_make2 I1 TB hcode hm hu hT hdef (fun y hy e => ?_) fun f c' pm ctv H2 s2 I2 eN T2 hf hfn hfr hc' => ?_
  · simp only [lamScope, List.mem_cons, List.not_mem_nil, or_false] at hy
    rcases hy with rfl | rfl
    · cases e
    · exact I1.ok.has _ (.inl hcell)
  refine wpAny_bind (wpAny_standAt (wpAny_pure (wpAny_evalAll_nil ?_)))
  show wpAny _ _ (call (.builtin "sorted") [.ref d] [(Str.ofString "key", .ref f)]) _ _ _
  have nt : ∀ {b : Addr} {u : HO}, H1 b = some u → (∀ ps, u ≠ .tbl ps) → H2 b = some u := fun e n => eN _ _ e n
  have hd2 := nt hd (fun ps z => by cases z)
  have hp2 := nt hp (fun ps z => by cases z)
  have hlv2 := nt hlv (fun ps z => by cases z)
  obtain ⟨z, lo, vs, rel, dd⟩ := dk_rd I2.hok (.inl hd2)
  have hkeys : vs.map (·.1) = ks.map Sum.inl := rel.keys.symm.trans hks
  have hz : ks.length ≤ sizeLine := by
    have e1 := congrArg List.length hks
    rw [List.length_map, List.length_map] at e1
    omega
  obtain ⟨mA, O, rA, _, _, _⟩ := ins_get I2.hok hp2
  obtain ⟨ulv, hulv, rulv⟩ := RelO.some_of (v := .ref lv) (o := mA "own_level") (by rw [← hfl]; exact rA _)
  obtain rfl : ulv = Value.ref lv := rulv
  obtain ⟨zl, its, nl, rl, hol⟩ := I2.hok lv _ hlv2
  have hil : IntsAre its lvs := rl.ints
  obtain ⟨m, hns, hl⟩ := I2.loc
  obtain ⟨uself, ruself, lkself⟩ := hl is "self" (.ref pp) hN hself (.inr (.inl hcell))
  obtain rfl : uself = Value.ref pp := ruself
  obtain ⟨c0, hc0, hcell0⟩ : ∃ c0, X.env.cells.lookup ("self" : Str) = some c0 ∧ s2.heap.IsCell c0 (some (.ref pp)) := by
    rcases lkself with ⟨k1, _⟩ | ⟨_, z⟩
    · have k1' : X.env.scope.names.lookup ("self" : Str) = some .local := k1
      rw [hcell] at k1'
      cases k1'
    · exact z
  have hcl : (cloFrom X.env.cells lamScope.names []).lookup ("self" : Str) = some c0 := by
    have e1 : cloFrom X.env.cells lamScope.names [] = [(("self" : Str), (X.env.cells.lookup ("self" : Str)).getD 0)] := rfl
    rw [e1, hc0]
    rfl
  have LA : LamAt X.K s2.heap f (X.env.qual ++ "<lambda>") params (lamBody j p1 p2 p3 p4 p5 p6) lamScope (cloFrom X.env.cells lamScope.names []) pm ctv c' c0 pp dx C lv mA its :=
    ⟨hf, NdefX.codeO_at I2.hok hc', hcl, hcell0, O, hulv, ⟨_, hol, rfl, _, rfl⟩, I2.kIn, I2.nolimit⟩
  refine sorted_dict_key (A := X.A) (key := fun k => 0 - lvs.getD k.toNat 0) (I2.ok.hd hcalm) dd lo hkeys hz (by have := hr.units; omega) (fun k t hk h tk kp => ?_) fun out cc h1 h' tk p' k1 k2 hp' hob hout => ?_
  · obtain ⟨h0, hlt⟩ := hin k hk
    have hlen := hil.length
    obtain ⟨tl, htl⟩ : ∃ tl, its[k.toNat]? = some (.int (lvs.getD k.toNat 0) tl) := by
      have hv : its[k.toNat]? = some its[k.toNat] := List.getElem?_eq_getElem (by omega)
      obtain ⟨n1, t1, e1, e2⟩ := IntsAre.at hil _ _ hv
      rw [List.getD_eq_getElem?_getD, e2]
      exact ⟨t1, by rw [hv, e1]; rfl⟩
    exact lam_turn (s := { s2 with heap := h, toks := tk }) (LA.keeps kp) hc hn (show X.A.depth < recursionLimit from hr.depth) (fun v => hpar _ _ _ _ _ _ v) h0 htl (by rw [List.length_map] at zl; omega)
  · have I3 : Inv X pins σ H2 { s2 with heap := h1, toks := tk } := I2.kept k1
    have hperm : (ks.mergeSort fun a b => decide (0 - lvs.getD a.toNat 0 ≤ 0 - lvs.getD b.toNat 0)).Perm ks := List.mergeSort_perm _ _
    have hpw := List.pairwise_mergeSort (le := fun a b : Int => decide (0 - lvs.getD a.toNat 0 ≤ 0 - lvs.getD b.toNat 0)) (fun a b c h1 h2 => by
      simp only [decide_eq_true_eq] at h1 h2 ⊢
      omega) (fun a b => by
      simp only [Bool.or_eq_true, decide_eq_true_eq]
      omega) ks
    have nP : H2 p' = none := I3.hok.fresh hp'
    have I4 : Inv X pins σ (upd H2 p' (.lst ((ks.mergeSort fun a b => decide (0 - lvs.getD a.toNat 0 ≤ 0 - lvs.getD b.toNat 0)).map V.int))) { s2 with heap := h', toks := tk } :=
      I3.laid (t' := tk) k2 hp' ⟨by rw [List.length_map, hperm.length_eq]; exact hz, out, cc, vals_of_ints hout, hob⟩
    refine ⟨.ref p', _, I4, rfl, q _ p' H2 eN T2 hperm (hpw.imp fun {a b} h => ?_) nP⟩
    simp only [decide_eq_true_eq] at h
    omega
end
end My
namespace My
open PySem PySem.Spec PyProof.Rows L2 LamX
abbrev XC (P : Program) (w : World) : CXT := L2.CX P w
theorem passE0 {P : Program} {w : World} {X : Cx} : Passes (XC P w) X E0 := fun _ _ _ _ _ _ _ ⟨_, _, _, _, _, _, _, _, _, _, _, _, h⟩ => h.elim
section
variable (P : Program) (w : World) (K : PySem.W.Frag) (mg : Str → Option Value) (base : Heap)
/-- a def of the text, by its name -/
structure FnG (k : Nat) (x : Str) (ps : List Str) (sp : Sp) : Prop where
  ex : ∃ (f : Addr) (fd : FuncData), mg x = some (.ref f) ∧ PySem.W.keepIn K (.ref f) = true ∧ FnOk P w K mg base (XC P w) k f fd ps sp ∧ Binds K fd ps []
/-- a method of the class at C -/
structure MtG (C : Addr) (k : Nat) (m : Str) (ps : List Str) (sp : Sp) : Prop where
  cls : Cls K C
  ex : ∃ (f : Addr) (fd : FuncData), Meth K C m f ∧ FnOk P w K mg base (XC P w) k f fd ps sp ∧ Binds K fd ps []
/-- a class's making -/
structure MkG (x : Str) (C : Addr) (k : Nat) (ps : List Str) (sp : Sp) : Prop where
  cls : Cls K C
  ex : ∃ (f : Addr) (fd : FuncData), mg x = some (.ref C) ∧ Mk K C f ∧ FnOk P w K mg base (XC P w) k f fd ps sp ∧ Binds K fd ps []
end
section
variable {P : Program} {w : World} {K : PySem.W.Frag} {mg : Str → Option Value} {base : Heap}
theorem FnG.mono {k j : Nat} {x : Str} {ps : List Str} {sp : Sp} (h : FnG P w K mg base k x ps sp) (hj : k ≤ j) : FnG P w K mg base j x ps sp := by
  obtain ⟨f, fd, a, b, c, d⟩ := h.ex
  exact ⟨f, fd, a, b, c.mono hj, d⟩
theorem FnG.imp {k : Nat} {x : Str} {ps : List Str} {sp sp' : Sp} (h : FnG P w K mg base k x ps sp) (hi : ∀ vs H Q E, sp' vs H Q E → sp vs H Q E) : FnG P w K mg base k x ps sp' := by
  obtain ⟨f, fd, a, b, c, d⟩ := h.ex
  exact ⟨f, fd, a, b, c.imp hi, d⟩
theorem MtG.mono {C : Addr} {k j : Nat} {x : Str} {ps : List Str} {sp : Sp} (h : MtG P w K mg base C k x ps sp) (hj : k ≤ j) : MtG P w K mg base C j x ps sp := by
  obtain ⟨f, fd, a, c, d⟩ := h.ex
  exact ⟨h.cls, f, fd, a, c.mono hj, d⟩
theorem MtG.imp {C : Addr} {k : Nat} {x : Str} {ps : List Str} {sp sp' : Sp} (h : MtG P w K mg base C k x ps sp) (hi : ∀ vs H Q E, sp' vs H Q E → sp vs H Q E) : MtG P w K mg base C k x ps sp' := by
  obtain ⟨f, fd, a, c, d⟩ := h.ex
  exact ⟨h.cls, f, fd, a, c.imp hi, d⟩
end
def tFn (sp : Sp) (E : XK) (t : TA) : TE := fun σ H Q => t σ H fun vs H1 => sp vs H1 Q E
def tMt (C : Addr) (m : Str) (sp : Sp) (E : XK) (ta : TE) (t : TA) : TE := fun σ H Q => ta σ H fun x H1 => ∃ a dx fs, x = .ref a ∧ H1 a = some (.ins C dx fs) ∧ fs.lookup m = none ∧ t σ H1 fun vs H2 => sp (x :: vs) H2 Q E
def tMk (C : Addr) (sp : Sp) (E : XK) (t : TA) : TE := fun σ H Q => t σ H fun vs H1 => ∀ x dx, H1 x = none → H1 dx = none → dx ≠ x →
  sp (.ref x :: vs) (upd (upd H1 dx (.own x)) x (.ins C dx [])) (fun v H2 => v = .non ∧ Q (.ref x) H2) E
section
variable {X : Cx} {k j : Nat} {C : Addr} {ps : List Str} {sp : Sp} {E : XK} {x m : Str} {p pos apos : Pos} {e o : Expr} {es : List Expr} {ta : TE} {t : TA}
theorem pe_fn (F : FnG X.prog X.w X.K X.mg X.base k x ps sp) (hr : Room k X.A) (hx : Passes (XC X.prog X.w) X E) (ha : PA X (e :: es) t) (hg : Gl X x := by rfl)
    (hdb : (x == ("__debug__" : Str)) = false := by decide +kernel) (he : starEach (e :: es) X.env = (false, eval e X.env) :: starEach es X.env := by rfl) (hpl : (backTo pos (starEach es X.env)).any (·.1) = false := by rfl) :
    PE X (.Call (.Name x p) (e :: es) [] pos) (tFn sp E t) := by
  obtain ⟨f, fd, hm, hk, G, hb⟩ := F.ex
  refine ⟨fun pins s σ H Q I h => ?_⟩
  refine (pe_call G hr hg hm hk hb .nil hx ha hdb he hpl).run pins s σ H Q I ?_
  have e1 : (fun (vs : List V) (H1 : Hp) => sp (vs ++ []) H1 Q E) = fun vs H1 => sp vs H1 Q E := by
    funext vs H1
    rw [List.append_nil]
  show t σ H fun vs H1 => sp (vs ++ []) H1 Q E
  rw [e1]
  exact h
theorem pe_fn0 (F : FnG X.prog X.w X.K X.mg X.base k x ps sp) (hr : Room k X.A) (hx : Passes (XC X.prog X.w) X E) (hg : Gl X x := by rfl)
    (hdb : (x == ("__debug__" : Str)) = false := by decide +kernel) : PE X (.Call (.Name x p) [] [] pos) (tFn sp E tNil) := by
  obtain ⟨f, fd, hm, hk, G, hb⟩ := F.ex
  exact ⟨fun pins s σ H Q I h => (pe_call0 G hr hg hm hk hb .nil hx hdb).run pins s σ H Q I h⟩
theorem pe_mt {pl : Sem Bool} (he : PE X o ta) (M : MtG X.prog X.w X.K X.mg X.base C k m ps sp) (hr : Room k X.A) (hx : Passes (XC X.prog X.w) X E) (ha : PA X (e :: es) t)
    (hst : starEach (e :: es) X.env = (false, eval e X.env) :: starEach es X.env := by rfl) (hpl : (backTo pos (starEach es X.env)).any (·.1) = false := by rfl)
    (ht : eval (.Call (.Attribute o m apos) (e :: es) [] pos) X.env = (do
      let ov ← eval o X.env
      standAt apos.atName
      let (f, first) ← holding [ov] (getMethod ov m pl)
      callWith pos f first (backTo pos (starEach (e :: es) X.env)) (backToKw pos (keywordEach [] X.env))) := by rfl) :
    PE X (.Call (.Attribute o m apos) (e :: es) [] pos) (tMt C m sp E ta t) := by
  obtain ⟨f, fd, hm, G, hb⟩ := M.ex
  refine ⟨fun pins s σ H Q I h => ?_⟩
  refine (pe_meth he M.cls hm G hr hb .nil hx ha hst hpl ht).run pins s σ H Q I ?_
  have e1 : ∀ y : V, (fun (vs : List V) (H1 : Hp) => sp (y :: (vs ++ [])) H1 Q E) = fun vs H1 => sp (y :: vs) H1 Q E := by
    intro y
    funext vs H1
    rw [List.append_nil]
  show ta σ H fun x H1 => ∃ a dx fs, x = .ref a ∧ H1 a = some (.ins C dx fs) ∧ fs.lookup m = none ∧ t σ H1 fun vs H2 => sp (x :: (vs ++ [])) H2 Q E
  have e2 : (fun (x : V) (H1 : Hp) => ∃ a dx fs, x = .ref a ∧ H1 a = some (.ins C dx fs) ∧ fs.lookup m = none ∧ t σ H1 fun vs H2 => sp (x :: (vs ++ [])) H2 Q E) =
      fun x H1 => ∃ a dx fs, x = .ref a ∧ H1 a = some (.ins C dx fs) ∧ fs.lookup m = none ∧ t σ H1 fun vs H2 => sp (x :: vs) H2 Q E := by
    funext x H1
    rw [e1]
  rw [e2]
  exact h
theorem pe_mt0 {pl : Sem Bool} (he : PE X o ta) (M : MtG X.prog X.w X.K X.mg X.base C k m ps sp) (hr : Room k X.A) (hx : Passes (XC X.prog X.w) X E)
    (ht : eval (.Call (.Attribute o m apos) [] [] pos) X.env = (do
      let ov ← eval o X.env
      standAt apos.atName
      let (f, first) ← holding [ov] (getMethod ov m pl)
      callWith pos f first (backTo pos (starEach [] X.env)) (backToKw pos (keywordEach [] X.env))) := by rfl) :
    PE X (.Call (.Attribute o m apos) [] [] pos) (tMt C m sp E ta tNil) := by
  obtain ⟨f, fd, hm, G, hb⟩ := M.ex
  exact ⟨fun pins s σ H Q I h => (pe_meth0 he M.cls hm G hr hb .nil hx ht).run pins s σ H Q I h⟩
theorem pe_mk (F : MkG X.prog X.w X.K X.mg X.base x C k ps sp) (hr : Room (k + 1) X.A) (hx : Passes (XC X.prog X.w) X E) (ha : PA X (e :: es) t) (hg : Gl X x := by rfl)
    (hdb : (x == ("__debug__" : Str)) = false := by decide +kernel) (he : starEach (e :: es) X.env = (false, eval e X.env) :: starEach es X.env := by rfl) (hpl : (backTo pos (starEach es X.env)).any (·.1) = false := by rfl) :
    PE X (.Call (.Name x p) (e :: es) [] pos) (tMk C sp E t) := by
  obtain ⟨f, fd, hm, M, G, hb⟩ := F.ex
  refine ⟨fun pins s σ H Q I h => ?_⟩
  refine (pe_make M G hr hg hm hb .nil hx ha hdb he hpl).run pins s σ H Q I ?_
  have e1 : (fun (vs : List V) (H1 : Hp) => ∀ x dx, H1 x = none → H1 dx = none → dx ≠ x → sp (.ref x :: (vs ++ [])) (upd (upd H1 dx (.own x)) x (.ins C dx [])) (fun v H2 => v = .non ∧ Q (.ref x) H2) E) =
      fun vs H1 => ∀ x dx, H1 x = none → H1 dx = none → dx ≠ x → sp (.ref x :: vs) (upd (upd H1 dx (.own x)) x (.ins C dx [])) (fun v H2 => v = .non ∧ Q (.ref x) H2) E := by
    funext vs H1
    rw [List.append_nil]
  show t σ H fun vs H1 => ∀ x dx, H1 x = none → H1 dx = none → dx ≠ x → sp (.ref x :: (vs ++ [])) (upd (upd H1 dx (.own x)) x (.ins C dx [])) (fun v H2 => v = .non ∧ Q (.ref x) H2) E
  rw [e1]
  exact h
theorem pe_gint {i : Int} (h : ∃ t, X.mg x = some (.int i t)) (hg : Gl X x := by rfl) (hd : (x == ("__debug__" : Str)) = false := by decide +kernel) : PE X (.Name x pos) (tC (.int i)) := by
  obtain ⟨t, e⟩ := h
  exact pe_glob hg e ⟨t, rfl⟩ hd
theorem pe_gstr {z : Str} (h : ∃ t, X.mg x = some (.str z t)) (hg : Gl X x := by rfl) (hd : (x == ("__debug__" : Str)) = false := by decide +kernel) : PE X (.Name x pos) (tC (.str z)) := by
  obtain ⟨t, e⟩ := h
  exact pe_glob hg e ⟨t, rfl⟩ hd
end
section
variable {P : Program} {w : World} {K : PySem.W.Frag} {mg : Str → Option Value} {base : Heap}
theorem passE {N : List Str} {qual : Str} {scope : Scope} {f : Addr} {cdv : Value} {A : Around} {outer : List Env} {s : Shared} {H : Hp} {E : XK} : Passes (XC P w) (cxOf (XC P w) P w K mg base N qual scope f cdv A outer s H E) E :=
  passes_call (takes_of rfl rfl rfl rfl) (fun _ _ _ _ h => h)
end
end My
namespace My
open PySem PySem.Spec PyProof.Rows L2
def rSortedDKw (b : Bool) : List V → List V → Hp → VK → Prop := fun vs zs H Q => ∃ (a : Addr) (kvs : List (Key × V)) (ks : List Int), vs = [V.ref a] ∧ zs = [.bl b] ∧ Rd H a (.dK kvs) ∧ kvs.map (·.1) = ks.map Sum.inl ∧ ks.length ≤ sizeLine ∧
  ∀ (ys : List Int) (p : Addr), ys.Perm ks → OrdB b ys → H p = none → Q (.ref p) (upd H p (.lst (ys.map V.int)))
theorem cr_sortedDRev {X : Cx} (hcalm : X.calm = true) {b : Bool} : CallRK X (.builtin "sorted") [Str.ofString "reverse"] (rSortedDKw b) := by
  intro pins s σ H vs0 zs us ws Q I r rz h
  obtain ⟨a, kvs, ks, rfl, rfl, hd, hks, hz, q⟩ := h
  obtain rfl := Vals.ref1 r
  obtain ⟨w1, rfl, e1⟩ := vals1 rz
  obtain rfl : w1 = Value.bool b := e1
  obtain ⟨z, lo, vs, rel, dd⟩ := dk_rd I.hok hd
  obtain ⟨ep, hat⟩ := dd.dictAt
  have hkeys : vs.map (·.1) = ks.map Sum.inl := rel.keys.symm.trans hks
  have hl : vs.length = ks.length := by
    have e := congrArg List.length hkeys
    rw [List.length_map, List.length_map] at e
    exact e
  refine call_function_entry_kw PyProof.Rows.kind_sorted PyProof.Rows.plain_sorted PyProof.Rows.entry_sorted (PyProof.Rows.args_sorted_rev _ _) ?_
  unfold Builtin.«sorted»
  refine wpAny_bind (m := checkCount "sorted" 1 1 _) (wpAny_pure ?_)
  refine wpAny_bind (PySem.W.kdu_collect (A := X.A.in1) (PySem.W.kdl_dict (knd := mixKind X.prog X.w) (kvs := vs) (ep := ep) lo) (I.ok.hd hcalm) hat (by rw [hl]; exact hz) fun h' tk acc hk hacc => ?_)
  have hal : acc.toList.length = ks.length := by rw [Array.length_toList, hacc.1, hl]
  have hS : IntsAre acc.toList ks := ints_each hal fun j v e => by
    obtain ⟨k, x, e1, e2⟩ := hacc.2 j v (by rw [← Array.getElem?_toList]; exact e)
    have e3 : (vs.map (·.1))[j]? = some k := by rw [List.getElem?_map, e1]; rfl
    rw [hkeys, List.getElem?_map] at e3
    cases e4 : ks[j]? with
    | none => rw [e4] at e3; cases e3
    | some y =>
      rw [e4] at e3
      have e5 : Sum.inl y = k := Option.some.inj e3
      subst e5
      rcases keyIs_shape (show keyIs (Sum.inl y) v = true from e2) with ⟨i, t, ek, ev⟩ | ⟨z, t, ek, ev⟩
      · cases ek
        exact ⟨y, t, rfl, ev⟩
      · cases ek
  have I1 : Inv X pins σ H { s with heap := h', toks := tk } := I.kept hk
  refine wpAny_bind (wpAny_newList ?_ (by rw [hal]; exact hz))
  have hoL : (h'.push (seqObj "list" acc.toList.toArray 0)).get? h'.objs.size = some (seqObj "list" acc.toList.toArray 0) := Heap.get?_push_size _ rfl
  show wpAny _ _ _ _ _ { s with heap := h'.push (seqObj "list" acc.toList.toArray 0), toks := tk }
  refine wpAny_bind (wpAny_holding (wpAny_call_entry_kw PyProof.Rows.slot_list_sort ⟨_, hoL, rfl⟩ PyProof.Rows.entry_list_sort ?_ (PyProof.Rows.args_list_sort_rev _ _)))
  refine SrtR.list_sort_ordR (s := { s with heap := h'.push (seqObj "list" acc.toList.toArray 0), toks := tk }) SrtO.swo_int hoL (by rw [hal]; exact hz) (fun h2 => SrtO.ints_sortable hS h2) fun out h1 h2 => ⟨_, rfl, ?_⟩
  obtain ⟨ns', k1, k2, k3⟩ := SrtR.ints_outR hS h1 h2
  obtain ⟨e', he'⟩ := PyProof.Rows.sortedHeap_at (vs := acc.toList) (out := if b = true then out.toArray.reverse else out.toArray) hoL
  have hlen : (ns'.map V.int).length ≤ sizeLine := by
    rw [List.length_map, k2.length_eq]
    exact hz
  refine wpAny_pure ⟨_, rfl, .ref h'.objs.size, upd H h'.objs.size (.lst (ns'.map V.int)), I1.laid (t' := tk) (fun b u e => ?_) (Nat.le_refl _)
    (show ObjOk X.prog X.w _ _ _ (.lst (ns'.map V.int)) from ⟨hlen, _, e', vals_of_ints k1, by rw [Array.toArray_toList]; exact he'⟩), rfl, q ns' _ k2 k3 (I1.hok.fresh (Nat.le_refl _))⟩
  have hb : b < h'.objs.size := Heap.lt_size e
  rw [PyProof.Rows.sortedHeap_old (Nat.ne_of_lt hb) (by rw [size_push']; exact Nat.lt_succ_of_lt hb)]
  exact Heap.get?_push_of_some _ e
def rNeL0 (K : PySem.W.Frag) : R2 := fun x y H Q => ∃ p q xs, x = .ref p ∧ y = .ref q ∧ SqL K H p xs ∧ SqL K H q [] ∧ Q (.bl (!xs.isEmpty)) H
theorem op_neL0 {X : Cx} (hu : X.A.units + 64 < cLine) : OpR X (compareOp .NotEq) (rNeL0 X.K) := by
  intro pins s σ H x y v u Q I rx ry h
  obtain ⟨p, q, xs, rfl, rfl, h1, h2, hQ⟩ := h
  cases rx
  cases ry
  obtain ⟨its, rv, hl, hz⟩ := I.list h1
  obtain ⟨its2, rv2, hl2, hz2⟩ := I.list h2
  have n1 := rv.length
  have n2 := rv2.length
  have e2 : its2 = [] := List.length_eq_zero_iff.mp n2.symm
  subst e2
  have fin : wpAny (model X.prog X.w) X.A (compareOp .NotEq (.ref p) (.ref q)) (EP X pins σ Q) X.xe s := by
    cases xs with
    | nil =>
      have e1 : its = [] := List.length_eq_zero_iff.mp n1.symm
      subst e1
      exact SeqAt.RcNeAt.lists (e := fun _ => true) hl.isList hl2.isList rfl (by omega) (fun j j1 => absurd j1 (by simp)) _ _ _ _ ⟨.bl _, H, I, rfl, hQ⟩
    | cons a as =>
      refine SeqAt.RcNeAt.lists_lengths hl.isList hl2.isList ?_ (by omega) _ _ _ _ ⟨.bl _, H, I, rfl, hQ⟩
      simp at n1
      simp
      intro z
      subst z
      simp at n1
  exact fin
def rEqT0 (K : PySem.W.Frag) : R2 := fun x y H Q => ∃ p q xs, x = .ref p ∧ y = .ref q ∧ SqT K H p xs ∧ SqT K H q [] ∧ Q (.bl xs.isEmpty) H
theorem op_eqT0 {X : Cx} (hu : X.A.units + 64 < cLine) : OpR X (compareOp .Eq) (rEqT0 X.K) := by
  intro pins s σ H x y v u Q I rx ry h
  obtain ⟨p, q, xs, rfl, rfl, h1, h2, hQ⟩ := h
  cases rx
  cases ry
  obtain ⟨its, rv, hl, hz⟩ := I.tuple h1
  obtain ⟨its2, rv2, hl2, hz2⟩ := I.tuple h2
  have n1 := rv.length
  have n2 := rv2.length
  have e2 : its2 = [] := List.length_eq_zero_iff.mp n2.symm
  subst e2
  have e : ((List.range (min its.toArray.size ([] : List Value).toArray.size)).all (fun _ => true) && its.toArray.size == ([] : List Value).toArray.size) = xs.isEmpty := by
    cases xs with
    | nil =>
      have e1 : its = [] := List.length_eq_zero_iff.mp n1.symm
      subst e1
      rfl
    | cons a as =>
      simp at n1
      simp
      intro z
      subst z
      simp at n1
  refine SeqAt.RcAt.tuples (e := fun _ => true) hl hl2 (by omega) (fun j _ j2 => absurd j2 (by simp)) _ _ _ _ ?_
  rw [e]
  exact ⟨.bl _, H, I, rfl, hQ⟩
def rTupL (K : PySem.W.Frag) : List V → Hp → VK → Prop := fun vs H Q => ∃ p ys, vs = [V.ref p] ∧ SqL K H p ys ∧ ∀ l, H l = none → Q (.ref l) (upd H l (.tup ys))
theorem call_tupL {X : Cx} : CallR X (.type "tuple") (rTupL X.K) := by
  intro pins s σ H vs us Q I r h
  obtain ⟨p, ys, rfl, h1, h2⟩ := h
  exact call_tuple_of pins s σ H _ us Q I r ⟨p, ys, rfl, .inl ⟨h1, h2⟩⟩
end My
namespace My
open PySem PySem.Spec PyProof.Rows L2
theorem nat_ne {a b : Nat} (h : a < b ∨ b < a) : a ≠ b := by omega
theorem nat_ne1 {a b : Nat} (h : a < b ∨ b < a) : a ∉ [b] := fun z => nat_ne h (List.mem_singleton.mp z)
theorem nat_ne2 {a b c : Nat} (h : a < b ∨ b < a) (h2 : a < c ∨ c < a) : a ∉ [b, c] := fun z => by
  rcases List.mem_cons.mp z with q | q
  · exact nat_ne h q
  · exact nat_ne1 h2 q
theorem sep2 (N : Nat) : ZipSep2 (N + 4) (N + 2) (N + 3) N (N + 1) [N] [N + 1] :=
  ⟨nat_ne (by omega), nat_ne (by omega), nat_ne (by omega), nat_ne (by omega), List.mem_singleton.mpr rfl, nat_ne1 (by omega), nat_ne1 (by omega), nat_ne (by omega), List.mem_singleton.mpr rfl, nat_ne1 (by omega), nat_ne1 (by omega), nat_ne1 (by omega), nat_ne1 (by omega)⟩
theorem sep3 {N a b c : Nat} (ha : a < N) (hb : b < N) (hc : c < N) : ZipSep3 (N + 5) (N + 3) (N + 4) N (N + 1) (N + 2) [N, a] [N + 1, b] [N + 2, c] := by
  constructor <;> first
    | exact nat_ne (by omega)
    | exact nat_ne2 (by omega) (by omega)
    | exact List.mem_cons_self ..
theorem le_of5 {N b : Nat} (h : b = N + 4 ∨ b = N + 2 ∨ b = N + 3 ∨ b = N ∨ b = N + 1) : N ≤ b := by omega
theorem le_of6 {N b : Nat} (h : b = N + 5 ∨ b = N + 3 ∨ b = N + 4 ∨ b = N ∨ b = N + 1 ∨ b = N + 2) : N ≤ b := by omega
/-- rows that come one by one, each in a new tuple -/
def ItR (go : Nat → Hp → Prop) (R : Nat → List V → Hp → Prop) (stop : Nat → Hp → Prop) : It := ⟨go, fun i H v H' => ∃ T vs, v = .ref T ∧ H T = none ∧ H' = upd H T (.tup vs) ∧ R i vs H, stop⟩
theorem turn_of {P : Program} {w : World} {K : PySem.W.Frag} {elts : List Expr} {kk : Nat} {tpos : Pos} {I : Addr} {fp : List Addr} {St : Nat → Heap → Prop} {go stop : Nat → Hp → Prop} {R : Nat → List V → Hp → Prop} (hmem : I ∈ fp)
    (hobj : ∀ i h, St i h → ∀ b ∈ fp, ∃ o, h.get? b = some o ∧ ∀ v, o.data ≠ .cell v) (hkeep : ∀ i h h', St i h → (∀ b ∈ fp, ∀ o, h.get? b = some o → h'.get? b = some o) → St i h')
    (hself : ∀ (A : Around) (i : Nat) (s : Shared) (Q : Value → Shared → Prop) (E : Value → Shared → Prop), St i s.heap → Q (.ref I) s → wpAny (model P w) A (pyIter (.ref I)) Q E s)
    (step : ∀ (X : Cx), X.prog = P → X.w = w → X.K = K → X.calm = true → ∀ (i : Nat) (pins : List (Addr × Obj)) (s : Shared) (σ : L2.St) (H : Hp), Inv X pins σ H s → (∀ b ∈ fp, FpOk X pins H b) → St i s.heap → go i H ∨ stop i H →
      ∃ (fp' wr : List Addr) (n : Nat) (Pt : Nat → Array Value → Prop) (St' : Nat → Heap → Prop) (Mid : Nat → Addr → Heap → Prop), WalksT P w X.A I fp' wr n Pt St' Mid ∧ St' i s.heap ∧ (∀ b ∈ wr, b ∈ fp) ∧ (∀ h, St' (i + 1) h → St (i + 1) h) ∧ (go i H → i < n ∧ ∀ vals, Pt i vals → ∃ vs, Vals vs vals.toList ∧ vs.length ≤ sizeLine ∧ R i vs H) ∧ (stop i H → i = n)) :
    Turn P w K (.Tuple elts kk tpos) (ItR go R stop) fp I St where
  mem := hmem
  obj := hobj
  keep := hkeep
  item := by
    intro X hP hw hK hc i pins s σ H E I0 hf st hg
    obtain ⟨fp', wr, n, Pt, St', Mid, W, st', hwr, hback, hgo, _⟩ := step X hP hw hK hc i pins s σ H I0 hf st (.inl hg)
    obtain ⟨hi, hval⟩ := hgo hg
    refine W.item i s _ _ hi st' fun T vals h' tk hPt hT hTup mid hk => ?_
    refine ⟨_, rfl, W.go elts kk tpos i T _ _ _ mid fun h'' st'' hk2 => ?_⟩
    obtain ⟨vs, hvs, hlen, hR⟩ := hval vals hPt
    obtain ⟨oT, hoT, c1, nT, c2⟩ := hTup
    have hoT2 := hk2 T oT (W.apart _ _ _ mid) hoT
    have new : ObjOk X.prog X.w (upd H T (.tup vs)) h'' T (.tup vs) := ⟨hlen, vals.toList, hvs, ⟨oT, hoT2, c1, nT, by rw [Array.toArray_toList]; exact c2⟩⟩
    have I1 : Inv X pins σ (upd H T (.tup vs)) { s with heap := h'', toks := tk } := I0.turnedNew (ch := wr) (fun b o hb q => hk2 b o hb (hk b o hb q)) (fun b hb => hf b (hwr b hb)) hT new
    refine ⟨.ref T, _, I1, rfl, ⟨T, vs, rfl, I0.hok.fresh hT, rfl, hR⟩, hback _ st'', fun b hb => ?_⟩
    obtain ⟨o, ho, _⟩ := hobj i s.heap st b hb
    rw [upd_ne (Nat.ne_of_lt (Nat.lt_of_lt_of_le (Heap.lt_size ho) hT))]
    exact (hf b hb).1
  done := by
    intro X hP hw hK hc i pins s σ H E I0 hf st hs
    obtain ⟨fp', wr, n, Pt, St', Mid, W, st', hwr, hback, _, hstop⟩ := step X hP hw hK hc i pins s σ H I0 hf st (.inr hs)
    have e := hstop hs
    subst e
    exact W.done s _ _ st' fun h' tk hk => ⟨rfl, I0.turnedL (t' := tk) (ch := wr) hk (fun b hb => hf b (hwr b hb))⟩
  self := hself
def ItES (x : Str) : It := ItR (fun i _ => i < x.cps.size) (fun i vs _ => ∃ c, x.cps[i]? = some c ∧ vs = [.int (i : Nat), .str ⟨#[c]⟩]) (fun i _ => i = x.cps.size)
theorem strIter_self {P : Program} {w : World} {A : Around} {s : Shared} {it : Addr} {x : Str} {t : Tok} {i : Nat} {Q : Value → Shared → Prop} {E : Value → Shared → Prop} (st : s.heap.IsStrIter it (strIterType x) x t i) (h : Q (.ref it) s) : wpAny (model P w) A (pyIter (.ref it)) Q E s := by
  unfold strIterType at st
  cases ha : x.cps.all (· < 128)
  · simp only [ha, Bool.false_eq_true, if_false] at st
    exact wpAny_pyIter_striter_wide st h
  · simp only [ha, if_true] at st
    exact wpAny_pyIter_striter_ascii st h
theorem turn_enumS {P : Program} {w : World} {K : PySem.W.Frag} {elts : List Expr} {kk : Nat} {tpos : Pos} {e it : Addr} {x : Str} {t : Tok} (hne : e ≠ it) :
    Turn P w K (.Tuple elts kk tpos) (ItES x) [e, it] e (fun i h => (∃ old, IsEnum h e it i old) ∧ h.IsStrIter it (strIterType x) x t i) := by
  refine turn_of (by simp) (fun i h st b hb => ?_) (fun i h h' st k => ?_) (fun A i s Q E st h => ?_) (fun X hP hw hK hc i pins s σ H I hf st hgs => ?_)
  · obtain ⟨⟨old, he⟩, o, ho, hc, hd⟩ := st
    have e' : b = e ∨ b = it := by simpa using hb
    rcases e' with z | z
    · rw [z]; exact ⟨_, he, fun v q => nomatch q⟩
    · rw [z]; exact ⟨o, ho, fun v q => by rw [hd] at q; cases q⟩
  · obtain ⟨⟨old, he⟩, o, ho, r⟩ := st
    exact ⟨⟨old, k e (by simp) _ he⟩, o, k it (by simp) _ ho, r⟩
  · obtain ⟨⟨_, he⟩, _⟩ := st
    exact wpAny_pyIter_enum he h
  · subst hP hw hK
    refine ⟨_, _, _, _, _, _, WalksT.enumerateD (Draws.text (A := X.A.in1) (prog := X.prog) (w := X.w) (I.ok.hd hc) it x t) e hne (by simpa using hne) (by simp), st, fun b hb => by simpa using hb, fun h st' => st', fun hg => ⟨hg, fun vals hv => ?_⟩, fun hs => hs⟩
    obtain ⟨t', v, ⟨c, u, hcx, rfl⟩, rfl⟩ := hv
    exact ⟨[.int (i : Nat), .str ⟨#[c]⟩], .cons ⟨_, rfl⟩ (.cons ⟨_, rfl⟩ .nil), by show 2 ≤ sizeLine; decide, c, hcx, rfl⟩
def iEnumS (ta : TA) : TI := fun σ H R => ta σ H fun vs H1 => ∃ x, vs = [.str x] ∧ R (ItES x) H1
theorem pi_enumS {X : Cx} {e : Expr} {ta : TA} {p pos tpos : Pos} {elts : List Expr} {kk : Nat} (hg : Gl X "enumerate") (hm : X.mg "enumerate" = none) (ha : PA X [e] ta) (hs : starEach [e] X.env = [(false, eval e X.env)] := by rfl) :
    PI X (.Tuple elts kk tpos) (.Call (.Name "enumerate" p) [e] [] pos) (iEnumS ta) := by
  refine ⟨fun pins s σ H R I h => ?_⟩
  refine Call_ (ld_blt I hg hm boot_enumerate (PyProof.Rows.callWith_type1 (thn (ha.run pos pins s σ H _ I h) fun us s1 ⟨vs, H1, I1, r1, q1⟩ => ?_) hs rfl))
  obtain ⟨x, ex, q⟩ := q1
  subst ex
  obtain ⟨u, rfl, ru⟩ := vals1 r1
  obtain ⟨t, rfl⟩ := ru
  refine call_enumerate_str fun h' he hit hsz hk => wpAny_pyIter_enum he ?_
  have I2 : Inv X pins σ H1 { s1 with heap := h' } := I1.kept (t' := s1.toks) hk
  refine ⟨s1.heap.objs.size + 1, [s1.heap.objs.size + 1, s1.heap.objs.size], _, _, H1, rfl, I2, turn_enumS (Nat.succ_ne_self _), ⟨⟨.none, he⟩, hit⟩, fun b hb => ?_, q⟩
  have e' : b = s1.heap.objs.size + 1 ∨ b = s1.heap.objs.size := by simpa using hb
  have hle : s1.heap.objs.size ≤ b := by
    rcases e' with z | z
    · rw [z]; exact Nat.le_add_right _ _
    · rw [z]; exact Nat.le_refl _
  exact I1.fpOk hle (I1.hok.fresh hle)
def ItZS (x y : Str) : It := ItR (fun i _ => i < min x.cps.size y.cps.size) (fun i vs _ => ∃ c d, x.cps[i]? = some c ∧ y.cps[i]? = some d ∧ vs = [.str ⟨#[c]⟩, .str ⟨#[d]⟩]) (fun i _ => i = min x.cps.size y.cps.size)
theorem turn_zipS {P : Program} {w : World} {K : PySem.W.Frag} {elts : List Expr} {kk : Nat} {tpos : Pos} {z TI TO i1 i2 : Addr} {x y : Str} {t t2 : Tok} (S : ZipSep2 z TI TO i1 i2 [i1] [i2]) :
    Turn P w K (.Tuple elts kk tpos) (ItZS x y) [z, TI, TO, i1, i2] z (fun i h => IsZip h z TI TO .none ∧ IsTupOf2 h TI (.ref i1) (.ref i2) ∧ (∃ a1 a2, IsTupOf2 h TO a1 a2) ∧ h.IsStrIter i1 (strIterType x) x t i ∧ h.IsStrIter i2 (strIterType y) y t2 i) := by
  refine turn_of (by simp) (fun i h st b hb => ?_) (fun i h h' st k => ?_) (fun A i s Q E st h => wpAny_pyIter_zip st.1 h) (fun X hP hw hK hc i pins s σ H I hf st hgs => ?_)
  · obtain ⟨hz, hTI, ⟨a1, a2, hTO⟩, ⟨o1, e1, _, d1⟩, ⟨o2, e2, _, d2⟩⟩ := st
    have e' : b = z ∨ b = TI ∨ b = TO ∨ b = i1 ∨ b = i2 := by simpa using hb
    rcases e' with q | q | q | q | q
    · rw [q]; exact ⟨_, hz, fun v q => nomatch q⟩
    · rw [q]; exact ⟨_, hTI, fun v q => nomatch q⟩
    · rw [q]; exact ⟨_, hTO, fun v q => nomatch q⟩
    · rw [q]; exact ⟨o1, e1, fun v q => by rw [d1] at q; cases q⟩
    · rw [q]; exact ⟨o2, e2, fun v q => by rw [d2] at q; cases q⟩
  · obtain ⟨hz, hTI, ⟨a1, a2, hTO⟩, ⟨o1, e1, r1⟩, ⟨o2, e2, r2⟩⟩ := st
    exact ⟨k z (by simp) _ hz, k TI (by simp) _ hTI, ⟨a1, a2, k TO (by simp) _ hTO⟩, ⟨o1, k i1 (by simp) _ e1, r1⟩, ⟨o2, k i2 (by simp) _ e2, r2⟩⟩
  · subst hP hw hK
    refine ⟨_, _, _, _, _, _, WalksT.zipD2 S (Draws.text (A := X.A.in1) (prog := X.prog) (w := X.w) (I.ok.hd hc) i1 x t) (Draws.text (A := X.A.in1) (prog := X.prog) (w := X.w) (I.ok.hd hc) i2 y t2), st, fun b hb => ?_, fun h st' => st', fun hg => ⟨hg, fun vals hv => ?_⟩, fun hs => hs⟩
    · have e' : b = z ∨ b = TO ∨ b = i1 ∨ b = i2 := by simpa using hb
      rcases e' with q | q | q | q <;> simp [q]
    · obtain ⟨v1, v2, ⟨c, u, hcx, rfl⟩, ⟨d, u2, hdx, rfl⟩, rfl⟩ := hv
      exact ⟨[.str ⟨#[c]⟩, .str ⟨#[d]⟩], .cons ⟨_, rfl⟩ (.cons ⟨_, rfl⟩ .nil), by show 2 ≤ sizeLine; decide, c, d, hcx, hdx, rfl⟩
def iZipS (ta : TA) : TI := fun σ H R => ta σ H fun vs H1 => ∃ x y, vs = [.str x, .str y] ∧ R (ItZS x y) H1
theorem pi_zipS {X : Cx} {e e2 : Expr} {ta : TA} {p pos tpos : Pos} {elts : List Expr} {kk : Nat} (hg : Gl X "zip") (hm : X.mg "zip" = none) (ha : PA X [e, e2] ta)
    (hs : starEach [e, e2] X.env = (false, eval e X.env) :: starEach [e2] X.env := by rfl) (hpl : (backTo pos (starEach [e2] X.env)).any (·.1) = false := by rfl) :
    PI X (.Tuple elts kk tpos) (.Call (.Name "zip" p) [e, e2] [] pos) (iZipS ta) := by
  refine ⟨fun pins s σ H R I h => ?_⟩
  refine Call_ (ld_blt I hg hm PyProof.Rows.boot_zip (PyProof.Rows.callWith_type1 (thn (ha.run pos pins s σ H _ I h) fun us s1 ⟨vs, H1, I1, r1, q1⟩ => ?_) hs hpl))
  obtain ⟨x, y, ex, q⟩ := q1
  subst ex
  obtain ⟨u, u2, rfl, ru, ru2⟩ := vals2 r1
  obtain ⟨t, rfl⟩ := ru
  obtain ⟨t2, rfl⟩ := ru2
  refine zip_begins2 (begins_text x t) (begins_text y t2) trivial trivial fun h' hz hTI hTO g1 g2 hsz hk => wpAny_pyIter_zip hz ?_
  have I2 : Inv X pins σ H1 { s1 with heap := h' } := I1.kept (t' := s1.toks) hk
  generalize hN : s1.heap.objs.size = N at hz hTI hTO g1 g2
  refine ⟨N + 4, [N + 4, N + 2, N + 3, N, N + 1], _, _, H1, rfl, I2, turn_zipS (x := x) (y := y) (t := t) (t2 := t2) (sep2 N), ⟨hz, hTI, ⟨_, _, hTO⟩, ⟨_, g1, rfl, rfl⟩, ⟨_, g2, rfl, rfl⟩⟩, fun c hcm => ?_, q⟩
  have e' : c = N + 4 ∨ c = N + 2 ∨ c = N + 3 ∨ c = N ∨ c = N + 1 := by simpa using hcm
  have hle : s1.heap.objs.size ≤ c := by rw [hN]; exact le_of5 e'
  exact I1.fpOk hle (I1.hok.fresh hle)
def ItZ3 (K : PySem.W.Frag) (a b c : Addr) (n : Nat) : It :=
  ItR (fun i H => i < n ∧ ∃ xs ys zs : List V, SqL K H a xs ∧ SqL K H b ys ∧ SqL K H c zs ∧ xs.length = n ∧ ys.length = n ∧ zs.length = n)
    (fun i vs H => ∀ xs ys zs, SqL K H a xs → SqL K H b ys → SqL K H c zs → ∃ x y z, vs = [x, y, z] ∧ xs[i]? = some x ∧ ys[i]? = some y ∧ zs[i]? = some z)
    (fun i H => i = n ∧ ∃ xs ys zs : List V, SqL K H a xs ∧ SqL K H b ys ∧ SqL K H c zs ∧ xs.length = n ∧ ys.length = n ∧ zs.length = n)
theorem turn_zip3 {P : Program} {w : World} {K : PySem.W.Frag} {elts : List Expr} {kk : Nat} {tpos : Pos} {z TI TO i1 i2 i3 a b c : Addr} {n : Nat} (S : ZipSep3 z TI TO i1 i2 i3 [i1, a] [i2, b] [i3, c]) (ha : a ≠ i1) (hb : b ≠ i2) (hc' : c ≠ i3) :
    Turn P w K (.Tuple elts kk tpos) (ItZ3 K a b c n) [z, TI, TO, i1, i2, i3] z (fun i h => IsZip h z TI TO .none ∧ IsTupOf3 h TI (.ref i1) (.ref i2) (.ref i3) ∧ (∃ a1 a2 a3, IsTupOf3 h TO a1 a2 a3) ∧ h.IsListIter i1 a i ∧ h.IsListIter i2 b i ∧ h.IsListIter i3 c i) := by
  refine turn_of (by simp) (fun i h st d hd => ?_) (fun i h h' st k => ?_) (fun A i s Q E st h => wpAny_pyIter_zip st.1 h) (fun X hP hw hK hc i pins s σ H I hf st hgs => ?_)
  · obtain ⟨hz, hTI, ⟨a1, a2, a3, hTO⟩, ⟨o1, e1, _, d1⟩, ⟨o2, e2, _, d2⟩, ⟨o3, e3, _, d3⟩⟩ := st
    have e' : d = z ∨ d = TI ∨ d = TO ∨ d = i1 ∨ d = i2 ∨ d = i3 := by simpa using hd
    rcases e' with q | q | q | q | q | q
    · rw [q]; exact ⟨_, hz, fun v q => nomatch q⟩
    · rw [q]; exact ⟨_, hTI, fun v q => nomatch q⟩
    · rw [q]; exact ⟨_, hTO, fun v q => nomatch q⟩
    · rw [q]; exact ⟨o1, e1, fun v q => by rw [d1] at q; cases q⟩
    · rw [q]; exact ⟨o2, e2, fun v q => by rw [d2] at q; cases q⟩
    · rw [q]; exact ⟨o3, e3, fun v q => by rw [d3] at q; cases q⟩
  · obtain ⟨hz, hTI, ⟨a1, a2, a3, hTO⟩, h1, h2, h3⟩ := st
    exact ⟨k z (by simp) _ hz, k TI (by simp) _ hTI, ⟨a1, a2, a3, k TO (by simp) _ hTO⟩, h1.at fun o q => k i1 (by simp) o q, h2.at fun o q => k i2 (by simp) o q, h3.at fun o q => k i3 (by simp) o q⟩
  · subst hP hw hK
    obtain ⟨hz, hTI, hTO, h1, h2, h3⟩ := st
    have hq : ∃ xs ys zs : List V, SqL X.K H a xs ∧ SqL X.K H b ys ∧ SqL X.K H c zs ∧ xs.length = n ∧ ys.length = n ∧ zs.length = n := by
      rcases hgs with h | h
      · exact h.2
      · exact h.2
    obtain ⟨xs, ys, zs, q1, q2, q3, n1, n2, n3⟩ := hq
    obtain ⟨its1, rv1, p1, _⟩ := I.list q1
    obtain ⟨its2, rv2, p2, _⟩ := I.list q2
    obtain ⟨its3, rv3, p3, _⟩ := I.list q3
    have l1 := rv1.length
    have l2 := rv2.length
    have l3 := rv3.length
    have en : min (min its1.toArray.size its2.toArray.size) its3.toArray.size = n := by simp only [List.size_toArray]; omega
    refine ⟨_, _, _, _, _, _, WalksT.zipD3 S (Draws.list (A := X.A.in1) (prog := X.prog) (w := X.w) (I.ok.hd hc) i1 a ha its1.toArray) (Draws.list (A := X.A.in1) (prog := X.prog) (w := X.w) (I.ok.hd hc) i2 b hb its2.toArray) (Draws.list (A := X.A.in1) (prog := X.prog) (w := X.w) (I.ok.hd hc) i3 c hc' its3.toArray),
      ⟨hz, hTI, hTO, ⟨h1, p1.isList⟩, ⟨h2, p2.isList⟩, ⟨h3, p3.isList⟩⟩, fun d hd => ?_, fun h st' => ⟨st'.1, st'.2.1, st'.2.2.1, st'.2.2.2.1.1, st'.2.2.2.2.1.1, st'.2.2.2.2.2.1⟩, fun hg => ⟨by rw [en]; exact hg.1, fun vals hv => ?_⟩, fun hs => by rw [en]; exact hs.1⟩
    · have e' : d = z ∨ d = TO ∨ d = i1 ∨ d = i2 ∨ d = i3 := by simpa using hd
      rcases e' with q | q | q | q | q <;> simp [q]
    · obtain ⟨v1, v2, v3, g1, g2, g3, rfl⟩ := hv
      have hi := hg.1
      have gx : xs[i]? = some xs[i] := List.getElem?_eq_getElem (by omega)
      have gy : ys[i]? = some ys[i] := List.getElem?_eq_getElem (by omega)
      have gz : zs[i]? = some zs[i] := List.getElem?_eq_getElem (by omega)
      obtain ⟨u1, hu1, ru1⟩ := rv1.get gx
      obtain ⟨u2, hu2, ru2⟩ := rv2.get gy
      obtain ⟨u3, hu3, ru3⟩ := rv3.get gz
      have e1 : u1 = v1 := by rw [List.getElem?_toArray, hu1] at g1; exact Option.some.inj g1
      have e2 : u2 = v2 := by rw [List.getElem?_toArray, hu2] at g2; exact Option.some.inj g2
      have e3 : u3 = v3 := by rw [List.getElem?_toArray, hu3] at g3; exact Option.some.inj g3
      subst e1 e2 e3
      refine ⟨[xs[i], ys[i], zs[i]], .cons ru1 (.cons ru2 (.cons ru3 .nil)), by show 3 ≤ sizeLine; decide, fun xs' ys' zs' k1 k2 k3 => ?_⟩
      have f1 := I.list_inj k1 q1
      have f2 := I.list_inj k2 q2
      have f3 := I.list_inj k3 q3
      subst f1 f2 f3
      exact ⟨_, _, _, rfl, gx, gy, gz⟩
def iZip3 (K : PySem.W.Frag) (ta : TA) : TI := fun σ H R => ta σ H fun vs H1 => ∃ a b c xs ys zs, vs = [.ref a, .ref b, .ref c] ∧ SqL K H1 a xs ∧ SqL K H1 b ys ∧ SqL K H1 c zs ∧ ys.length = xs.length ∧ zs.length = xs.length ∧ R (ItZ3 K a b c xs.length) H1
theorem vals3 {x y z : V} {us : List Value} (r : Vals [x, y, z] us) : ∃ u v w, us = [u, v, w] ∧ RelV x u ∧ RelV y v ∧ RelV z w := by
  cases r with
  | cons r1 rr =>
    cases rr with
    | cons r2 rr =>
      cases rr with
      | cons r3 rr =>
        cases rr
        exact ⟨_, _, _, rfl, r1, r2, r3⟩
theorem pi_zip3 {X : Cx} {e e2 e3 : Expr} {ta : TA} {p pos tpos : Pos} {elts : List Expr} {kk : Nat} (hg : Gl X "zip") (hm : X.mg "zip" = none) (ha : PA X [e, e2, e3] ta)
    (hs : starEach [e, e2, e3] X.env = (false, eval e X.env) :: starEach [e2, e3] X.env := by rfl) (hpl : (backTo pos (starEach [e2, e3] X.env)).any (·.1) = false := by rfl) :
    PI X (.Tuple elts kk tpos) (.Call (.Name "zip" p) [e, e2, e3] [] pos) (iZip3 X.K ta) := by
  refine ⟨fun pins s σ H R I h => ?_⟩
  refine Call_ (ld_blt I hg hm PyProof.Rows.boot_zip (PyProof.Rows.callWith_type1 (thn (ha.run pos pins s σ H _ I h) fun us s1 ⟨vs, H1, I1, r1, q1⟩ => ?_) hs hpl))
  obtain ⟨a, b, c, xs, ys, zs, ex, hx, hy, hz0, n2, n3, q⟩ := q1
  subst ex
  obtain ⟨u, u2, u3, rfl, ru, ru2, ru3⟩ := vals3 r1
  cases ru
  cases ru2
  cases ru3
  obtain ⟨its1, rv1, p1, _⟩ := I1.list hx
  obtain ⟨its2, rv2, p2, _⟩ := I1.list hy
  obtain ⟨its3, rv3, p3, _⟩ := I1.list hz0
  have la := p1.lt
  have lb := p2.lt
  have lc := p3.lt
  refine zip_begins3 (begins_list a its1.toArray) (begins_list b its2.toArray) (begins_list c its3.toArray) p1.isList p2.isList p3.isList fun h' hz hTI hTO g1 g2 g3 hsz hk => wpAny_pyIter_zip hz ?_
  have I2 : Inv X pins σ H1 { s1 with heap := h' } := I1.kept (t' := s1.toks) hk
  generalize hN : s1.heap.objs.size = N at hz hTI hTO g1 g2 g3 la lb lc
  refine ⟨N + 5, [N + 5, N + 3, N + 4, N, N + 1, N + 2], _, _, H1, rfl, I2, turn_zip3 (n := xs.length) (a := a) (b := b) (c := c) (i1 := N) (i2 := N + 1) (i3 := N + 2) (sep3 la lb lc) (nat_ne (.inl la)) (nat_ne (.inl (Nat.lt_succ_of_lt lb))) (nat_ne (.inl (Nat.lt_succ_of_lt (Nat.lt_succ_of_lt lc)))), ⟨hz, hTI, ⟨_, _, _, hTO⟩, ⟨_, g1, rfl, rfl⟩, ⟨_, g2, rfl, rfl⟩, ⟨_, g3, rfl, rfl⟩⟩, fun d hcm => ?_, q⟩
  have e' : d = N + 5 ∨ d = N + 3 ∨ d = N + 4 ∨ d = N ∨ d = N + 1 ∨ d = N + 2 := by simpa using hcm
  have hle : s1.heap.objs.size ≤ d := by rw [hN]; exact le_of6 e'
  exact I1.fpOk hle (I1.hok.fresh hle)
end My
namespace My
open PySem PySem.Spec PyProof.Rows L2 LamX
/-- a def's promise around A -/
def RunAt (P : Program) (w : World) (K : PySem.W.Frag) (mg : Str → Option Value) (base : Heap) (A : Around) (f : Addr) (fd : FuncData) (ps : List Str) (sp : Sp) : Prop :=
  ∀ (out : List Env) (s : Shared) (H : Hp) (xs : Args) (us : List Value) (vs : List V) (Q : VK) (E : XK), Env0 P w K mg base A out s H → BindsTo s fd xs (ps.zip us) → Vals vs us → sp vs H Q E →
    codeAny (model P w) A (.call (.ref f) xs) (CR (XC P w) out P w H s Q E) s
/-- around what has room for k calls, and no guard -/
structure GdOk (P : Program) (w : World) (K : PySem.W.Frag) (mg : Str → Option Value) (base : Heap) (k : Nat) (f : Addr) (fd : FuncData) (ps : List Str) (sp : Sp) : Prop where
  len : ∀ vs H Q E, sp vs H Q E → vs.length = ps.length
  at_ : ∀ A : Around, Room k A → A.guards = some [] → RunAt P w K mg base A f fd ps sp
section
variable {P : Program} {w : World} {K : PySem.W.Frag} {mg : Str → Option Value} {base : Heap} {x qual : Str} {params : Arguments} {body : List Stmt} {scope : Scope} {f c : Addr} {fd : FuncData}
theorem gd_of {N ps : List Str} {k : Nat} {sp : Sp} (F : FunD K x qual params body scope [] [] f fd) (S : FnScope N ps scope) (len : ∀ vs H Q E, sp vs H Q E → vs.length = ps.length)
    (hb : ∀ (cd : Value) (A : Around) (out : List Env) (s : Shared) (H : Hp) (vs : List V) (Q : VK) (E : XK), Room k (A.deeper (envOfC qual scope s.heap.objs.size f cd)) → (A.deeper (envOfC qual scope s.heap.objs.size f cd)).guards = some [] → sp vs H Q E →
      ∃ t, PSs (cxOf (XC P w) P w K mg base N qual scope f cd A out s H E) body t ∧ t { nx := fun _ H' => Q .non H', rt := Q } (L2.start N vs) H) : GdOk P w K mg base (k + 1) f fd ps sp := by
  refine ⟨len, fun A room gs out s H xs us vs Q E env0 bind rel want => ?_⟩
  obtain ⟨oc, od, dV, kV, doc, pm, an, cd, ct, osl, rfl, found, code, -, -⟩ := F.ex
  have inK : K.In s.heap := env0.mod.kin.keeps fun b o e => (env0.bs b o e).1
  have nolim := env0.mod.nolimit.keeps fun b o e => (env0.bs b o e).1
  have vlen := len _ _ _ _ want
  have kinds : ∀ y ∈ ps.zip us, scope.names.lookup y.1 = some .local ∨ (scope.names.lookup y.1 = some .cell ∧ ((cellsFrom (s.heap.objs.size + 1) scope.names []).lookup y.1).isSome = true) := by
    rintro ⟨n, v⟩ hy
    rcases S.par n (List.of_mem_zip hy).1 with q | q
    · exact .inl q
    · exact .inr ⟨q, PySem.W.cellsFrom_some _ _ _ (.inl q)⟩
  apply codeAny_call_function room.depth (inK _ _ found) rfl S.co S.gen rfl (PySem.W.codeRec_of inK code)
  refine bind _ _ _ _ ?_
  apply wpAny_newFunctionEnv_cells S.kind kinds
  rintro env rfl s1 made
  refine ⟨nolim.keeps made.toInCall.keep, codeAny_func ?_⟩
  obtain ⟨t, ht, hq⟩ := hb cd A out s H vs Q E (room.deeper _) gs want
  have start := inv_start (CX := XC P w) (E := E) S room.hd env0 vlen rel made
  refine wpAny_mono (ht.run [] s1 (L2.start N vs) H _ start hq) (fun fl s' hs => ?_) fun _ _ h => h
  cases fl with
  | ret u =>
    obtain ⟨v, σ', H', J, rv, q⟩ := hs
    exact ⟨v, H', J.os, J.bare, J.base, J.hok, rv, q⟩
  | next =>
    obtain ⟨σ', H', J, q⟩ := hs
    exact ⟨.non, H', J.os, J.bare, J.base, J.hok, rfl, q⟩
  | brk => exact hs.elim fun _ h => h.elim fun _ h => h.2.elim
  | cont => exact hs.elim fun _ h => h.elim fun _ h => h.2.elim
end
/-- such a def, by its name -/
structure FnGd (P : Program) (w : World) (K : PySem.W.Frag) (mg : Str → Option Value) (base : Heap) (k : Nat) (x : Str) (ps : List Str) (sp : Sp) : Prop where
  ex : ∃ (f : Addr) (fd : FuncData), mg x = some (.ref f) ∧ PySem.W.keepIn K (.ref f) = true ∧ GdOk P w K mg base k f fd ps sp ∧ Binds K fd ps []
section
variable {X : Cx} {k : Nat} {ps : List Str} {sp : Sp} {E : XK} {x : Str} {p pos : Pos} {e : Expr} {es : List Expr} {t : TA}
theorem run_gd {f : Addr} {fd : FuncData} {pins : List (Addr × Obj)} {σ : L2.St} {H : Hp} {s : Shared} {Q : VK} {us : List Value} {vs : List V} (G : GdOk X.prog X.w X.K X.mg X.base k f fd ps sp) (hr : Room k X.A) (hg : X.A.guards = some []) (hb : Binds X.K fd ps []) (hx : Passes (XC X.prog X.w) X E)
    (I : Inv X pins σ H s) (r : Vals vs us) (h : sp vs H Q E) : wpAny (model X.prog X.w) X.A (call (.ref f) us) (EP X pins σ Q) X.xe s := by
  have hl : us.length = ps.length := by rw [← r.length]; exact G.len _ _ _ _ h
  have hb' := hb s us I.kIn (by simpa using hl)
  rw [List.append_nil] at hb'
  apply wpAny_call
  refine codeAny_mono (G.at_ X.A hr hg X.stack s H ⟨us, []⟩ us vs Q E I.env0 hb' r h) fun out s' q => ?_
  match out, q with
  | .error e, q => exact hx pins σ H s e s' I q
  | .ok (.ret u), q => exact I.after q
  | .ok .next, q => exact q.elim
  | .ok .brk, q => exact q.elim
  | .ok .cont, q => exact q.elim
theorem pe_gd (F : FnGd X.prog X.w X.K X.mg X.base k x ps sp) (hr : Room k X.A) (hgd : X.A.guards = some []) (hx : Passes (XC X.prog X.w) X E) (ha : PA X (e :: es) t) (hg : Gl X x := by rfl)
    (hdb : (x == ("__debug__" : Str)) = false := by decide +kernel) (he : starEach (e :: es) X.env = (false, eval e X.env) :: starEach es X.env := by rfl) (hpl : (backTo pos (starEach es X.env)).any (·.1) = false := by rfl) :
    PE X (.Call (.Name x p) (e :: es) [] pos) (tFn sp E t) := by
  obtain ⟨f, fd, hm, hk, G, hb⟩ := F.ex
  constructor
  intro pins s σ H Q I h
  apply wpAny_Call_Name_kw
  refine ld_glob I hg hm ?_ hdb
  exact PySem.W.callWith_K (h₀ := X.base) I.ok.mod.kin hk (thn (ha.run pos pins s σ H _ I h) fun us s1 ⟨vs, H1, I1, r, q⟩ => ⟨I1.kIn, run_gd G hr hgd hb hx I1 r q⟩) he hpl
end
end My
namespace My
open PySem PySem.Spec PyProof.Rows L2
/-- texts, None, ints, empty dicts -/
inductive Ds (H : Hp) : V → PyData → Prop
  | non : Ds H .non .none
  | int (i : Int) : Ds H (.int i) (.int i)
  | str (x : Str) : Ds H (.str x) (.str x)
  | dict {a : Addr} : H a = some (.dK []) → Ds H (.ref a) (.dict [])
inductive DsAll (H : Hp) : List V → List PyData → Prop
  | nil : DsAll H [] []
  | cons {v : V} {d : PyData} {vs : List V} {ds : List PyData} : Ds H v d → DsAll H vs ds → DsAll H (v :: vs) (d :: ds)
/-- the value v shows as d -/
def Shw (K : PySem.W.Frag) (H : Hp) (v : V) (d : PyData) : Prop := (Dp K H v d ∨ ∃ a ys ds, v = .ref a ∧ SqT K H a ys ∧ DsAll H ys ds ∧ d = .tuple ds) ∧ d.showable = true ∧ d.leavesShort 13 = true ∧ d.weight ≤ 2 ^ 20 ∧ d.depth ≤ 40
mutual
theorem dp_noDict {K : PySem.W.Frag} {H : Hp} : ∀ (d : PyData) (v : V), Dp K H v d → d.hasDict = false
  | .none, _, _ => by unfold PyData.hasDict; rfl
  | .bool _, _, _ => by unfold PyData.hasDict; rfl
  | .int _, _, _ => by unfold PyData.hasDict; rfl
  | .str _, _, _ => by unfold PyData.hasDict; rfl
  | .list ds, _, h => by
    cases h with
    | lst _ ha => unfold PyData.hasDict; exact dps_noDict ds _ ha
  | .tuple ds, _, h => by
    cases h with
    | tup _ ha => unfold PyData.hasDict; exact dps_noDict ds _ ha
  | .dict _, _, h => by cases h
theorem dps_noDict {K : PySem.W.Frag} {H : Hp} : ∀ (ds : List PyData) (vs : List V), DpAll K H vs ds → PyData.hasDictAll ds = false
  | [], _, _ => by unfold PyData.hasDictAll; rfl
  | d :: ds, _, h => by
    cases h with
    | cons h1 h2 => unfold PyData.hasDictAll; rw [dp_noDict d _ h1, dps_noDict ds _ h2]; rfl
end
section
variable {X : Cx} {pins : List (Addr × Obj)} {σ : L2.St} {H : Hp} {s : Shared}
theorem ds_reads (I : Inv X pins σ H s) {v : V} {d : PyData} (h : Ds H v d) {u : Value} (r : RelV v u) : ∃ as, Reads s.heap u d as ∧ sysModules ∉ as := by
  cases h with
  | non => cases r; exact ⟨_, .none, by simp⟩
  | int i => obtain ⟨t, rfl⟩ := r; exact ⟨_, .int i t, by simp⟩
  | str x => obtain ⟨t, rfl⟩ := r; exact ⟨_, .str x t, by simp⟩
  | @dict a ha =>
    cases r
    obtain ⟨-, lo, vs, rel, o, es, ep, e1, e2, e3, -, r1, -⟩ := dk_rd I.hok (.inl ha)
    have hv : vs = [] := by
      cases vs with
      | nil => rfl
      | cons p r => cases rel
    subst hv
    have he : es.toList = [] := by
      cases hes : es.toList with
      | nil => rfl
      | cons p q => rw [hes] at r1; cases r1
    refine ⟨_, .dict e1 e2.1 e3 (as := []) (bs := []) ?_ ?_, ?_⟩
    · rw [he]; exact .nil
    · rw [he]; exact .nil
    · have := ne_of_beq_false lo
      simpa using Ne.symm this
theorem dsAll_reads (I : Inv X pins σ H s) : ∀ {vs : List V} {ds : List PyData} {us : List Value}, DsAll H vs ds → Vals vs us → ∃ as, ReadsAll s.heap us ds as ∧ sysModules ∉ as
  | _, _, _, .nil, .nil => ⟨_, .nil, by simp⟩
  | _, _, _, .cons h t, .cons r rr => by
    obtain ⟨as, k1, k2⟩ := ds_reads I h r
    obtain ⟨bs, k3, k4⟩ := dsAll_reads I t rr
    exact ⟨_, .cons k1 k3, by simp [k2, k4]⟩
/-- repr(x) -/
def rRepr (K : PySem.W.Frag) : List V → Hp → VK → Prop := fun xs H Q => ∃ x d, xs = [x] ∧ Shw K H x d ∧ Q (.str d.shown) H
theorem call_repr (hg : X.A.guards = some []) (hu : X.A.units + 64 < cLine) : CallR X (.builtin "repr") (rRepr X.K) := by
  intro pins s σ H xs us Q I r h
  obtain ⟨x, d, rfl, ⟨hd, h1, h2, h3, h4⟩, q⟩ := h
  obtain ⟨u, rfl, ru⟩ := vals1 r
  have hfit : d.shown.length ≤ sizeLine := PyData.shown_fits (B := 13) (by decide) (by decide) h2 h3
  have reads : ∃ as, Reads s.heap u d as ∧ (d.hasDict = true → sysModules ∉ as) := by
    rcases hd with hd | ⟨a, ys, ds, rfl, hs, hda, rfl⟩
    · obtain ⟨as, k⟩ := Dp.reads I d x u hd ru
      exact ⟨as, k, fun z => by rw [dp_noDict d x hd] at z; cases z⟩
    · cases ru
      obtain ⟨its, rv, ⟨o, ho, hc, n, hdt⟩, _⟩ := I.tuple hs
      obtain ⟨as, k, ks⟩ := dsAll_reads I hda rv
      exact ⟨as, .tuple ho hc hdt k, fun _ => ks⟩
  obtain ⟨as, rd, hsm⟩ := reads
  cases rd with
  | none => exact PySem.P.repr_of_none ⟨.str _, H, I.tok _, ⟨_, rfl⟩, q⟩
  | bool b => exact PySem.P.repr_of_bool ⟨.str _, H, I.tok _, ⟨_, rfl⟩, q⟩
  | int i t => exact PySem.P.repr_of_int (by simpa [PyData.showable] using h1) ⟨.str _, H, I.tok _, ⟨_, rfl⟩, q⟩
  | str y t => exact PySem.P.repr_of_str ⟨.str _, H, I.tok _, ⟨_, rfl⟩, q⟩ (by simpa [PyData.shown] using hfit)
  | list k1 k2 k3 k4 => exact repr_of_reads' (.list k1 k2 k3 k4) h1 hsm hg (by omega) (fun _ _ e => e) (fun h' u tk hk => ⟨.str _, H, I.kept hk, ⟨_, rfl⟩, q⟩) hfit
  | tuple k1 k2 k3 k4 => exact repr_of_reads' (.tuple k1 k2 k3 k4) h1 hsm hg (by omega) (fun _ _ e => e) (fun h' u tk hk => ⟨.str _, H, I.kept hk, ⟨_, rfl⟩, q⟩) hfit
  | dict k1 k2 k3 k4 k5 => exact repr_of_reads' (.dict k1 k2 k3 k4 k5) h1 hsm hg (by omega) (fun _ _ e => e) (fun h' u tk hk => ⟨.str _, H, I.kept hk, ⟨_, rfl⟩, q⟩) hfit
end
end My
namespace My
open PySem PySem.Spec PyProof.Rows L2 LamX
section
variable {P : Program} {w : World} {K : PySem.W.Frag} {mg mb : Str → Option Value} {k : Nat} {fa a : Addr} {tabs : List Addr} {fd : FuncData} {x : Str} {sp : Sp} {st : Shared} {items : List Value} {ns : List Int}
/-- what may be written: the code tables; the script is read -/
def startH (K : PySem.W.Frag) (tabs : List Addr) (a : Addr) (items : List Value) (ns : List Int) : Hp := fun b =>
  if b ∈ tabs then some (.tbl #[]) else if b = a ∧ K.lookup a = none then some (.frz { cls := .type "list", data := .seq items.toArray } (.lst (ns.map V.int))) else none
theorem startH_cases {b : Addr} : (b ∈ tabs ∧ startH K tabs a items ns b = some (.tbl #[])) ∨ (b ∉ tabs ∧ b = a ∧ K.lookup a = none ∧ startH K tabs a items ns b = some (.frz { cls := .type "list", data := .seq items.toArray } (.lst (ns.map V.int)))) ∨ (startH K tabs a items ns b = none ∧ b ∉ tabs ∧ (b = a → K.lookup a ≠ none)) := by
  by_cases h : b ∈ tabs
  · exact .inl ⟨h, if_pos h⟩
  · by_cases h2 : b = a ∧ K.lookup a = none
    · exact .inr (.inl ⟨h, h2.1, h2.2, (if_neg h).trans (if_pos h2)⟩)
    · exact .inr (.inr ⟨(if_neg h).trans (if_neg h2), h, fun e n => h2 ⟨e, n⟩⟩)
theorem law_run (inK : K.In st.heap) (globs : st.heap.Ns mainGlobals mg) (blt : st.heap.Ns builtinsNs mb) (bltOk : ∀ y : Str, y ≠ "__name__" → mb y = bootBuiltins y) (nolim : st.heap.NoLimit) (gens : st.gens = #[])
    (tabIs : ∀ b ∈ tabs, st.heap.get? b = some { cls := .none, data := .fields #[] }) (tabNew : ∀ b ∈ tabs, K.lookup b = none) (hds : ∀ b ∈ tabs, ∃ c, PySem.W.CodeHd st.heap c b)
    (script : st.heap.get? a = some { cls := .type "list", data := .seq items.toArray }) (isInts : IntsAre items ns) (short : ns.length ≤ sizeLine) (room : Room k callerA)
    (body : ∀ base : Heap, K.In base → base.Ns mainGlobals mg → (∀ b o, st.heap.get? b = some o → startH K tabs a items ns b = none → base.get? b = some o) → GdOk P w K mg base k fa fd [x] sp) (bind : ∀ (s : Shared) (u : Value), BindsTo s fd ⟨[u], []⟩ [(x, u)])
    (want : ∀ H : Hp, (∀ b ∈ tabs, H b = some (.tbl #[])) → SqL K H a (ns.map V.int) → sp [.ref a] H (fun v _ => v = .bl true) fun _ _ _ => False) :
    codeAny (model P w) callerA (.call (.ref fa) ⟨[.ref a], []⟩) (fun r s' => r = .ok (.ret (.bool true)) ∧ OldK st.heap s'.heap ∧ s'.os = st.os ∧ AllBare s'.gens) st := by
  have rel := vals_ints isInts
  have same := isInts.length
  have aNot : a ∉ tabs := fun h => by
    have e := tabIs a h
    rw [script] at e
    have e' := congrArg Obj.data (Option.some.inj e)
    cases e'
  have sq : SqL K (startH K tabs a items ns) a (ns.map V.int) := by
    cases hk : K.lookup a with
    | none => exact .inl (.inr ⟨{ cls := .type "list", data := .seq items.toArray }, (if_neg aNot).trans (if_pos ⟨rfl, hk⟩)⟩)
    | some o =>
      have e := inK a o hk
      rw [script] at e
      injection e with e
      subst e
      exact .inr ⟨_, items.toArray, _, hk, rfl, rfl, rfl, by rw [List.size_toArray, same]; exact short, by simpa using rel⟩
  have ok : HOk P w (startH K tabs a items ns) st.heap := fun b u e => by
    rcases startH_cases (K := K) (tabs := tabs) (a := a) (items := items) (ns := ns) (b := b) with ⟨h, q⟩ | ⟨_, rfl, _, q⟩ | ⟨q, _⟩
    · rw [q] at e
      cases e
      exact tabIs b h
    · rw [q] at e
      cases e
      exact ⟨script, by rw [List.length_map]; exact short, items, _, rel, script⟩
    · rw [q] at e
      cases e
  have keepB : ∀ b o, st.heap.get? b = some o → startH K tabs a items ns b = none → (hidT st.heap (startH K tabs a items ns)).get? b = some o := fun b o e n => hidT_get e n
  have free : ∀ b o, st.heap.get? b = some o → (∀ vs n, o.data ≠ .seq vs n) → o.data ≠ .fields #[] → startH K tabs a items ns b = none := fun b o e n1 n2 => by
    rcases startH_cases (K := K) (tabs := tabs) (a := a) (items := items) (ns := ns) (b := b) with ⟨h, _⟩ | ⟨_, rfl, _⟩ | ⟨q, _⟩
    · rw [tabIs b h] at e
      cases e
      exact absurd rfl n2
    · rw [script] at e
      cases e
      exact absurd rfl (n1 _ _)
    · exact q
  have ns_keep : ∀ {b : Addr} {m : Str → Option Value}, st.heap.Ns b m → (hidT st.heap (startH K tabs a items ns)).Ns b m := fun {b m} ⟨o, es, ep, e, d, r⟩ =>
    ⟨o, es, ep, keepB b o e (free b o e (fun vs n z => by rw [d] at z; cases z) (fun z => by rw [d] at z; cases z)), d, r⟩
  have kin : K.In (hidT st.heap (startH K tabs a items ns)) := fun b o e => by
    refine keepB b o (inK b o e) ?_
    rcases startH_cases (K := K) (tabs := tabs) (a := a) (items := items) (ns := ns) (b := b) with ⟨h, _⟩ | ⟨_, rfl, n, _⟩ | ⟨q, _⟩
    · rw [tabNew b h] at e; cases e
    · rw [n] at e; cases e
    · exact q
  have lim : (hidT st.heap (startH K tabs a items ns)).NoLimit := by
    obtain ⟨m, l1, l2⟩ := nolim
    exact ⟨m, ns_keep l1, l2⟩
  have env0 : Env0 P w K mg (hidT st.heap (startH K tabs a items ns)) callerA [] st (startH K tabs a items ns) :=
    ⟨rfl, ⟨kin, ns_keep globs, ⟨mb, ns_keep blt, bltOk⟩, lim⟩, fun b o e => of_hidT e, by rw [hidT_size]; exact Nat.le_refl _, trivial, (fun b h => nomatch h), ok, .of_eq gens⟩
  have G := body _ kin (ns_keep globs) keepB
  have tabH : ∀ b ∈ tabs, startH K tabs a items ns b = some (.tbl #[]) := fun b h => if_pos h
  refine codeAny_mono (G.at_ callerA room rfl [] st _ ⟨[.ref a], []⟩ [.ref a] [.ref a] _ _ env0 (bind st (.ref a)) (.cons rfl .nil) (want _ tabH sq)) fun r s' h => ?_
  match r, h with
  | .error e, h => exact absurd h fun ⟨_, _, _, _, _, _, _, _, _, _, _, _, z⟩ => z
  | .ok .next, h => exact h.elim
  | .ok .brk, h => exact h.elim
  | .ok .cont, h => exact h.elim
  | .ok (.ret u), h =>
    obtain ⟨v, H', os, bare, un, ok', rv, rfl⟩ := h
    have hu : u = Value.bool true := rv
    subst hu
    have stays : ∀ b o, st.heap.get? b = some o → b ∉ tabs → s'.heap.get? b = some o := fun b o e nb => by
      rcases startH_cases (K := K) (tabs := tabs) (a := a) (items := items) (ns := ns) (b := b) with ⟨h, _⟩ | ⟨_, rfl, _, q⟩ | ⟨q, _⟩
      · exact absurd h nb
      · have z := ok' b _ (un.frzs b _ _ q)
        rw [script] at e
        cases e
        exact z.1
      · exact un.keep b o e q (fun z => nomatch z) (fun z => nomatch z)
    have grew : ∀ b ∈ tabs, ∃ more : Array Value, s'.heap.get? b = some { cls := .none, data := .fields more } := fun b h => by
      obtain ⟨more, z⟩ := un.tbls b #[] (tabH b h)
      exact ⟨_, ok' b _ z⟩
    refine ⟨rfl, ⟨fun b o e => ?_, fun b o e => ?_⟩, os, bare⟩
    · by_cases h : b ∈ tabs
      · obtain ⟨more, hm⟩ := grew b h
        obtain ⟨c, hc⟩ := hds b h
        have et := tabIs b h
        rw [et] at e
        cases e
        exact .inr (.inl ⟨(hc.tab et).isCodeTable, rfl, #[], more, rfl, by simpa using hm⟩)
      · exact .inl (stays b o e h)
    · by_cases h : b ∈ tabs
      · obtain ⟨more, hm⟩ := grew b h
        exact ⟨_, hm⟩
      · exact ⟨o, stays b o e h⟩
end
end My
namespace My
open PySem PySem.Spec PyProof.Rows L2 LamX
/-- what is known of the law's promise at the head's heap h -/
def LawGd (l : PySem.W.OpenLaw) (w : World) (k n : Nat) (x : Str) (mg : Str → Option Value) (fa : Addr) (h : Heap) : Prop :=
  ∃ (K : PySem.W.Frag) (fd : FuncData) (cs : List (Addr × Addr)) (sp : Sp), K.In h ∧ (∀ p ∈ cs, h.get? p.2 = some { cls := .none, data := .fields #[] }) ∧ (∀ p ∈ cs, K.lookup p.2 = none) ∧ (∀ p ∈ cs, PySem.W.CodeHd h p.1 p.2) ∧ (∀ (s : Shared) (u : Value), BindsTo s fd ⟨[u], []⟩ [(x, u)]) ∧
    (∀ (H : Hp) (a : Addr) (ns : List Int), ns.length ≤ n → (∀ z ∈ ns, Builtin.Int.intBits z ≤ 1048576) → (∀ p ∈ cs, H p.2 = some (.tbl #[])) → SqL K H a (ns.map V.int) → sp [.ref a] H (fun v _ => v = .bl true) fun _ _ _ => False) ∧
    ∀ base : Heap, K.In base → base.Ns mainGlobals mg → (∀ p ∈ cs, TabB base mg p.1 p.2) → GdOk l.prog w K mg base k fa fd [x] sp
theorem walk_gd {l : PySem.W.OpenLaw} {n k : Nat} {q : Program} {loose : List Str} {XP : (Str → Option Value) → Heap → Prop} {YP : World → Heap → Prop} {d : DefRec} {x : Str} (hn : l.most = some n) (hn2 : n ≤ sizeLine) (hdf : d.params.defaults = []) (hr : Room k callerA)
    (F : ∀ (w : World) (mg : Str → Option Value) (fa : Addr) (h : Heap), YP w h → h.Ns mainGlobals mg → mg d.name = some (.ref fa) → LawGd l w k n x mg fa h) : PySem.W.WalkO q loose XP YP l.row.toRowW d [] (fun f vs => PySem.call f vs) := by
  apply Att.attach_callB hn hdf
  intro w s₀ st mg mb fa o pm cd doc a items ns G Y ho hd hcd hmg script isInts short bits gens
  obtain ⟨K, fd, cs, sp, inK, tabIs, tabNew, hds, bind, want, body⟩ := F w mg fa _ Y G.T.g hmg
  obtain ⟨bm, ob, b1, b2, b3, b4, b5, b6⟩ := G.T.bmain
  refine law_run (tabs := cs.map (·.2)) inK G.T.g G.T.b G.T.builtins G.T.nolimit gens (fun b hb => ?_) (fun b hb => ?_) (fun b hb => ?_) script isInts (Nat.le_trans short hn2) hr (fun base kin gl keepB => body base kin gl fun p hp => ?_) bind fun H tabH sq => want H a ns short bits (fun p hp => tabH _ (List.mem_map.mpr ⟨p, hp, rfl⟩)) sq
  · obtain ⟨p, hp, rfl⟩ := List.mem_map.mp hb
    exact tabIs p hp
  · obtain ⟨p, hp, rfl⟩ := List.mem_map.mp hb
    exact tabNew p hp
  · obtain ⟨p, hp, rfl⟩ := List.mem_map.mp hb
    exact ⟨_, hds p hp⟩
  · have tabOf : ∀ b ∈ cs.map (·.2), st.heap.get? b = some { cls := .none, data := .fields #[] } := fun b hb => by
      obtain ⟨p', hp', rfl⟩ := List.mem_map.mp hb
      exact tabIs p' hp'
    have free : ∀ b o, st.heap.get? b = some o → (∀ vs m, o.data ≠ .seq vs m) → o.data ≠ .fields #[] → startH K (cs.map (·.2)) a items ns b = none := fun b o e n1 n2 => by
      rcases startH_cases (K := K) (tabs := cs.map (·.2)) (a := a) (items := items) (ns := ns) (b := b) with ⟨h, _⟩ | ⟨_, rfl, _⟩ | ⟨q, _⟩
      · rw [tabOf b h] at e
        cases e
        exact absurd rfl n2
      · rw [script] at e
        cases e
        exact absurd rfl (n1 _ _)
      · exact q
    have tp := tabIs p hp
    refine ⟨?_, ⟨bm, ob, b1, b2, fun z => ?_, fun z => ?_, keepB bm ob b3 (free bm ob b3 (fun _ _ z => by rw [b6] at z; cases z) (fun z => by rw [b6] at z; cases z)), b4, b5, b6⟩, fun z => ?_⟩
    · obtain ⟨oc, us, file, tf, flags, tg, inF, text, tt, e1, r1, r2, r3, rest⟩ := hds p hp
      refine ⟨oc, us, file, tf, flags, tg, inF, text, tt, keepB _ oc e1 (free _ oc e1 (fun _ _ z => by rw [r2] at z; cases z) fun z => ?_), r1, r2, r3, rest⟩
      rw [r2] at z
      cases z
      simp at r3
    · obtain ⟨og, es, ep, e, hd', _⟩ := G.T.g
      rw [z, e] at b3
      cases b3
      rw [hd'] at b6
      cases b6
    · rw [z, tp] at b3
      cases b3
      cases b6
    · obtain ⟨og, es, ep, e, hd', _⟩ := G.T.g
      rw [z, tp] at e
      cases e
      cases hd'
end My
namespace My
open PySem PySem.Spec PyProof.Rows L2 LamX Tr
/-- where its parts stand -/
structure TA where
  p : Addr
  dx : Addr
  lv : Addr
  lw : Addr
  hg : Addr
  kn : Addr
  td : Addr
def TA.muts (A : TA) : List Addr := [A.lv, A.lw, A.hg, A.kn, A.td]
def tfs (A : TA) (L : Nat) : List (Str × V) := [("own_levels", .int L), ("own_level", .ref A.lv), ("own_low", .ref A.lw), ("own_high", .ref A.hg), ("own_known", .ref A.kn), ("own_told", .ref A.td)]
def ixN (ts : List Tr.T) (t : Tr.T) : Nat := ts.idxOf t
def ixV (ts : List Tr.T) (t : Tr.T) : V := .int (ixN ts t : Nat)
def loC : Tr.T → Tr.T
  | .nd _ a _ => a
  | _ => .no
def hiC : Tr.T → Tr.T
  | .nd _ _ b => b
  | _ => .no
structure Wf (L : Nat) (ts : List Tr.T) : Prop where
  h0 : ts[0]? = some .no
  h1 : ts[1]? = some .all
  nd : ts.Nodup
  ok : ∀ t, t ∈ ts → Ok L 0 t
  cl : ∀ l a b, Tr.T.nd l a b ∈ ts → a ∈ ts ∧ b ∈ ts
def k3 (l i j : Nat) : List Key := [.inl (l : Int), .inl (i : Int), .inl (j : Int)]
structure KnOk (ts : List Tr.T) (kd : List (List Key × V)) : Prop where
  len : kd.length + 2 = ts.length
  dom : ∀ k v, valV kd k = some v → ∃ l i j : Nat, k = k3 l i j ∧ i < ts.length ∧ j < ts.length
  val : ∀ (l : Nat) (a b : Tr.T), a ∈ ts → b ∈ ts → valV kd (k3 l (ixN ts a) (ixN ts b)) = if Tr.T.nd l a b ∈ ts then some (ixV ts (.nd l a b)) else none
/-- r is any row that some row of t is, but for the signs at ls -/
def IsFreed (ls : List Nat) (t r : Tr.T) : Prop := ∀ x, ev r x = true ↔ ∃ y : Nat → Bool, (∀ i, i ∉ ls → y i = x i) ∧ ev t y = true
inductive TdEnt (ts : List Tr.T) : NestedKey → V → Prop
  | both {a b r : Tr.T} : a ∈ ts → b ∈ ts → r ∈ ts → (∀ x, ev r x = (ev a x && ev b x)) → TdEnt ts (.tup [.text "both", .num (ixN ts a), .num (ixN ts b)]) (ixV ts r)
  | either {a b r : Tr.T} : a ∈ ts → b ∈ ts → r ∈ ts → (∀ x, ev r x = (ev a x || ev b x)) → TdEnt ts (.tup [.text "either", .num (ixN ts a), .num (ixN ts b)]) (ixV ts r)
  | rest {a r : Tr.T} : a ∈ ts → r ∈ ts → (∀ x, ev r x = !ev a x) → TdEnt ts (.tup [.text "rest", .num (ixN ts a)]) (ixV ts r)
  | freed {a r : Tr.T} {ls : List Nat} : a ∈ ts → r ∈ ts → IsFreed ls a r → TdEnt ts (.tup [.text "freed", .num (ixN ts a), .tup (ls.map fun i => .num (i : Nat))]) (ixV ts r)
def TdOk (ts : List Tr.T) (td : List (NestedKey × V)) : Prop := ∀ k v, valV td k = some v → TdEnt ts k v
/-- the store at A has the trees ts; it has told at most n -/
structure TreesAt (P : Program) (w : World) (T : List (Addr × Str)) (C : Addr) (A : TA) (L : Nat) (H : Hp) (ts : List Tr.T) (n : Nat) : Prop where
  ins : H A.p = some (.ins C A.dx (tfs A L))
  lv : H A.lv = some (.lst (ts.map fun t => .int (lev L t : Nat)))
  lw : H A.lw = some (.lst (ts.map fun t => ixV ts (loC t)))
  hg : H A.hg = some (.lst (ts.map fun t => ixV ts (hiC t)))
  kn : ∃ kd, H A.kn = some (.dT kd) ∧ KnOk ts kd
  td : ∃ td, NDict P w H A.td td ∧ TdOk ts td ∧ td.length ≤ n
  wf : Wf L ts
  ne : [A.p, A.dx, A.lv, A.lw, A.hg, A.kn, A.td].Nodup
  tab : Tabs T H
/-- all but the store's own parts and the tables stand -/
def Keep (A : TA) (H H' : Hp) : Prop := ∀ b o, H b = some o → (∀ ps, o ≠ .tbl ps) → b ∉ A.muts → H' b = some o
theorem Keep.refl (A : TA) (H : Hp) : Keep A H H := fun _ _ h _ _ => h
theorem Keep.trans {A : TA} {H H1 H2 : Hp} (a : Keep A H H1) (b : Keep A H1 H2) : Keep A H H2 := fun c o h n m => b c o (a c o h n m) n m
theorem Keep.of {A : TA} {H H' : Hp} (e : ExtN H H') : Keep A H H' := fun b o h n _ => e b o h n
/-- a new object laid -/
theorem ExtN.new {H : Hp} {p : Addr} {o : HO} (h : H p = none) : ExtN H (upd H p o) := fun b u e _ => by
  rw [upd_ne (ne_of_none e h)]
  exact e
theorem Tabs.new {T : List (Addr × Str)} {H : Hp} {p : Addr} {o : HO} (t : Tabs T H) (h : H p = none) : Tabs T (upd H p o) := t.ext fun b u e => by
  rw [upd_ne (ne_of_none e h)]
  exact e
section
variable {ts us : List Tr.T} {t : Tr.T} {L : Nat}
theorem ixN_pre (h : ts <+: us) (ht : t ∈ ts) : ixN us t = ixN ts t := by
  obtain ⟨r, rfl⟩ := h
  unfold ixN
  rw [List.idxOf_append, if_pos ht]
theorem ixV_pre (h : ts <+: us) (ht : t ∈ ts) : ixV us t = ixV ts t := by
  unfold ixV
  rw [ixN_pre h ht]
theorem ixN_get (ht : t ∈ ts) : ts[ixN ts t]? = some t := by
  have h := List.idxOf_lt_length_iff.mpr ht
  unfold ixN
  rw [List.getElem?_eq_getElem h, List.getElem_idxOf h]
theorem ixN_lt (ht : t ∈ ts) : ixN ts t < ts.length := List.idxOf_lt_length_iff.mpr ht
theorem ixN_inj {a b : Tr.T} (ha : a ∈ ts) (hb : b ∈ ts) (e : ixN ts a = ixN ts b) : a = b := by
  have h1 := ixN_get ha
  rw [e, ixN_get hb] at h1
  exact (Option.some.inj h1).symm
theorem ixV_inj {a b : Tr.T} (ha : a ∈ ts) (hb : b ∈ ts) (e : ixV ts a = ixV ts b) : a = b := by
  unfold ixV at e
  injection e with e
  exact ixN_inj ha hb (by omega)
theorem Wf.no (x : Wf L ts) : Tr.T.no ∈ ts := List.mem_of_getElem? x.h0
theorem Wf.all (x : Wf L ts) : Tr.T.all ∈ ts := List.mem_of_getElem? x.h1
theorem ixN_of (nd : ts.Nodup) {i : Nat} (h : ts[i]? = some t) : ixN ts t = i := by
  obtain ⟨hi, e⟩ := List.getElem?_eq_some_iff.mp h
  unfold ixN
  rw [← e]
  exact nd.idxOf_getElem i hi
theorem Wf.ix_no (x : Wf L ts) : ixV ts .no = .int 0 := by unfold ixV; rw [ixN_of x.nd x.h0]; rfl
theorem Wf.ix_all (x : Wf L ts) : ixV ts .all = .int 1 := by unfold ixV; rw [ixN_of x.nd x.h1]; rfl
theorem Wf.loC (x : Wf L ts) (ht : t ∈ ts) : loC t ∈ ts := by
  cases t with
  | no => exact x.no
  | all => exact x.no
  | nd l a b => exact (x.cl l a b ht).1
theorem Wf.hiC (x : Wf L ts) (ht : t ∈ ts) : hiC t ∈ ts := by
  cases t with
  | no => exact x.no
  | all => exact x.no
  | nd l a b => exact (x.cl l a b ht).2
theorem Wf.lo (x : Wf L ts) (ht : t ∈ ts) (k : Nat) : lo k t ∈ ts := by
  cases t with
  | no => exact ht
  | all => exact ht
  | nd l a b =>
    show (if l = k then a else Tr.T.nd l a b) ∈ ts
    split
    · exact (x.cl l a b ht).1
    · exact ht
theorem Wf.hi (x : Wf L ts) (ht : t ∈ ts) (k : Nat) : hi k t ∈ ts := by
  cases t with
  | no => exact ht
  | all => exact ht
  | nd l a b =>
    show (if l = k then b else Tr.T.nd l a b) ∈ ts
    split
    · exact (x.cl l a b ht).2
    · exact ht
theorem Wf.snoc (x : Wf L ts) {l : Nat} {a b : Tr.T} (ha : a ∈ ts) (hb : b ∈ ts) (hn : Tr.T.nd l a b ∉ ts) (hok : Ok L 0 (.nd l a b)) : Wf L (ts ++ [.nd l a b]) where
  h0 := by rw [List.getElem?_append_left (by have := List.getElem?_eq_some_iff.mp x.h0; exact this.1)]; exact x.h0
  h1 := by rw [List.getElem?_append_left (by have := List.getElem?_eq_some_iff.mp x.h1; exact this.1)]; exact x.h1
  nd := by
    rw [List.nodup_append]
    refine ⟨x.nd, by simp, fun u hu v hv e => ?_⟩
    simp at hv
    subst hv
    subst e
    exact hn hu
  ok := fun t ht => by
    rcases List.mem_append.mp ht with h | h
    · exact x.ok t h
    · simp at h
      subst h
      exact hok
  cl := fun l' a' b' h => by
    rcases List.mem_append.mp h with h | h
    · exact ⟨List.mem_append_left _ (x.cl _ _ _ h).1, List.mem_append_left _ (x.cl _ _ _ h).2⟩
    · simp at h
      obtain ⟨rfl, rfl, rfl⟩ := h
      exact ⟨List.mem_append_left _ ha, List.mem_append_left _ hb⟩
end
theorem TdEnt.pre {ts us : List Tr.T} (h : ts <+: us) {k : NestedKey} {v : V} (e : TdEnt ts k v) : TdEnt us k v := by
  have m : ∀ t, t ∈ ts → t ∈ us := fun t ht => h.subset ht
  cases e with
  | both a b r q =>
    have z := TdEnt.both (m _ a) (m _ b) (m _ r) q
    rw [ixN_pre h a, ixN_pre h b, ixV_pre h r] at z
    exact z
  | either a b r q =>
    have z := TdEnt.either (m _ a) (m _ b) (m _ r) q
    rw [ixN_pre h a, ixN_pre h b, ixV_pre h r] at z
    exact z
  | rest a r q =>
    have z := TdEnt.rest (m _ a) (m _ r) q
    rw [ixN_pre h a, ixV_pre h r] at z
    exact z
  | freed a r q =>
    have z := TdEnt.freed (m _ a) (m _ r) q
    rw [ixN_pre h a, ixV_pre h r] at z
    exact z
section
variable {P : Program} {w : World} {T : List (Addr × Str)} {C : Addr} {A : TA} {L : Nat} {H H' : Hp} {ts : List Tr.T} {n m : Nat}
/-- the store stands in a heap that keeps its parts -/
theorem TreesAt.ext (x : TreesAt P w T C A L H ts n) (e : ExtN H H') (t : Tabs T H') : TreesAt P w T C A L H' ts n := by
  obtain ⟨kd, h1, h2⟩ := x.kn
  obtain ⟨td, g1, g2, g3⟩ := x.td
  refine ⟨e _ _ x.ins (fun ps z => by cases z), e _ _ x.lv (fun ps z => by cases z), e _ _ x.lw (fun ps z => by cases z), e _ _ x.hg (fun ps z => by cases z), ⟨kd, e _ _ h1 (fun ps z => by cases z), h2⟩, ⟨td, ?_, g2, g3⟩, x.wf, x.ne, t⟩
  obtain ⟨xs, e1, e2, e3, e4⟩ := g1
  exact ⟨xs, e _ _ e1 (fun ps z => by unfold NDO at z; cases z), e2, e3, e4.ext fun b ys hb => e _ _ hb (fun ps z => by cases z)⟩
theorem TreesAt.new (x : TreesAt P w T C A L H ts n) {p : Addr} {o : HO} (h : H p = none) : TreesAt P w T C A L (upd H p o) ts n := x.ext (ExtN.new h) (Tabs.new x.tab h)
theorem TreesAt.mono (x : TreesAt P w T C A L H ts n) (h : n ≤ m) : TreesAt P w T C A L H ts m := by
  obtain ⟨td, g1, g2, g3⟩ := x.td
  exact ⟨x.ins, x.lv, x.lw, x.hg, x.kn, ⟨td, g1, g2, Nat.le_trans g3 h⟩, x.wf, x.ne, x.tab⟩
end
end My
namespace My
open PySem PySem.Spec PyProof.Rows L2 LamX Tr
/-- what the module has of the trees' names -/
structure TxT (K : PySem.W.Frag) (mg : Str → Option Value) (C : Addr) : Prop where
  cls : Cls K C
  n1 : NoAttr K C "own_levels"
  n2 : NoAttr K C "own_level"
  n3 : NoAttr K C "own_low"
  n4 : NoAttr K C "own_high"
  n5 : NoAttr K C "own_known"
  n6 : NoAttr K C "own_told"
  c_NOTHING : ∃ t, mg "NOTHING" = some (.int 0 t)
  c_ALL : ∃ t, mg "ALL" = some (.int 1 t)
  b_len : mg "len" = none
  b_min : mg "min" = none
  b_max : mg "max" = none
  b_sorted : mg "sorted" = none
  b_tuple : mg "tuple" = none
  b_range : mg "range" = none
theorem hu16 {A : Around} {k : Nat} (hr : Room k A) : A.units + 16 < cLine := by have := hr.units; omega
theorem tfs1 {A : TA} {L : Nat} : (tfs A L).lookup ("own_levels" : Str) = some (.int L) := by simp [tfs, List.lookup]
theorem tfs2 {A : TA} {L : Nat} : (tfs A L).lookup ("own_level" : Str) = some (.ref A.lv) := by rfl
theorem tfs3 {A : TA} {L : Nat} : (tfs A L).lookup ("own_low" : Str) = some (.ref A.lw) := by rfl
theorem tfs4 {A : TA} {L : Nat} : (tfs A L).lookup ("own_high" : Str) = some (.ref A.hg) := by rfl
theorem tfs5 {A : TA} {L : Nat} : (tfs A L).lookup ("own_known" : Str) = some (.ref A.kn) := by rfl
theorem tfs6 {A : TA} {L : Nat} : (tfs A L).lookup ("own_told" : Str) = some (.ref A.td) := by rfl
section
variable {P : Program} {w : World} {K : PySem.W.Frag} {mg : Str → Option Value} {T : List (Addr × Str)} {C : Addr} {A : TA} {L : Nat} {H : Hp} {ts : List Tr.T} {n : Nat} {σ : L2.St} {Q : VK} {te : TE} {i : Nat}
theorem rd_levels (x : H A.p = some (.ins C A.dx (tfs A L))) (X : TxT K mg C) (hs : σ[i]? = some (some (.ref A.p))) (q : Q (.int L) H) : tFld K (tVar i) "own_levels" σ H Q := ⟨_, hs, A.p, C, A.dx, tfs A L, _, rfl, x, X.cls, X.n1, tfs1, q⟩
theorem rd_lv (x : H A.p = some (.ins C A.dx (tfs A L))) (X : TxT K mg C) (hs : σ[i]? = some (some (.ref A.p))) (q : Q (.ref A.lv) H) : tFld K (tVar i) "own_level" σ H Q := ⟨_, hs, A.p, C, A.dx, tfs A L, _, rfl, x, X.cls, X.n2, tfs2, q⟩
theorem rd_lw (x : H A.p = some (.ins C A.dx (tfs A L))) (X : TxT K mg C) (hs : σ[i]? = some (some (.ref A.p))) (q : Q (.ref A.lw) H) : tFld K (tVar i) "own_low" σ H Q := ⟨_, hs, A.p, C, A.dx, tfs A L, _, rfl, x, X.cls, X.n3, tfs3, q⟩
theorem rd_hg (x : H A.p = some (.ins C A.dx (tfs A L))) (X : TxT K mg C) (hs : σ[i]? = some (some (.ref A.p))) (q : Q (.ref A.hg) H) : tFld K (tVar i) "own_high" σ H Q := ⟨_, hs, A.p, C, A.dx, tfs A L, _, rfl, x, X.cls, X.n4, tfs4, q⟩
theorem rd_kn (x : H A.p = some (.ins C A.dx (tfs A L))) (X : TxT K mg C) (hs : σ[i]? = some (some (.ref A.p))) (q : Q (.ref A.kn) H) : tFld K (tVar i) "own_known" σ H Q := ⟨_, hs, A.p, C, A.dx, tfs A L, _, rfl, x, X.cls, X.n5, tfs5, q⟩
theorem rd_td (x : H A.p = some (.ins C A.dx (tfs A L))) (X : TxT K mg C) (hs : σ[i]? = some (some (.ref A.p))) (q : Q (.ref A.td) H) : tFld K (tVar i) "own_told" σ H Q := ⟨_, hs, A.p, C, A.dx, tfs A L, _, rfl, x, X.cls, X.n6, tfs6, q⟩
/-- the level, the halves of a tree, by its number -/
theorem atI_ix {α : Type} {f : Tr.T → α} {t : Tr.T} (ht : t ∈ ts) : atI (ts.map f) ((ixN ts t : Nat) : Int) = some (f t) := atI_nat (by rw [List.getElem?_map, ixN_get ht]; rfl)
end
/-- no two of its parts are one -/
structure TA.Ne (A : TA) : Prop where
  p1 : A.p ≠ A.lv
  p2 : A.p ≠ A.lw
  p3 : A.p ≠ A.hg
  p4 : A.p ≠ A.kn
  p5 : A.p ≠ A.td
  d1 : A.lv ≠ A.lw
  d2 : A.lv ≠ A.hg
  d3 : A.lv ≠ A.kn
  d4 : A.lv ≠ A.td
  d5 : A.lw ≠ A.hg
  d6 : A.lw ≠ A.kn
  d7 : A.lw ≠ A.td
  d8 : A.hg ≠ A.kn
  d9 : A.hg ≠ A.td
  d10 : A.kn ≠ A.td
theorem TA.ne_of {A : TA} (h : [A.p, A.dx, A.lv, A.lw, A.hg, A.kn, A.td].Nodup) : A.Ne := by
  simp only [List.nodup_cons, List.mem_cons, List.not_mem_nil, or_false, not_or] at h
  obtain ⟨⟨_, p1, p2, p3, p4, p5⟩, _, ⟨d1, d2, d3, d4⟩, ⟨d5, d6, d7⟩, ⟨d8, d9⟩, d10, _⟩ := h
  exact ⟨p1, p2, p3, p4, p5, d1, d2, d3, d4, d5, d6, d7, d8, d9, d10⟩
theorem KnOk.put {ts : List Tr.T} {kd : List (List Key × V)} (h : KnOk ts kd) (nd : ts.Nodup) {l : Nat} {a b : Tr.T} (ha : a ∈ ts) (hb : b ∈ ts) (hn : Tr.T.nd l a b ∉ ts) (hcl : ∀ l a b, Tr.T.nd l a b ∈ ts → a ∈ ts ∧ b ∈ ts) :
    KnOk (ts ++ [.nd l a b]) (putK kd (k3 l (ixN ts a) (ixN ts b)) (.int ts.length)) := by
  have hv := h.val l a b ha hb
  rw [if_neg hn] at hv
  have pre : ts <+: ts ++ [Tr.T.nd l a b] := List.prefix_append _ _
  have inew : ixN (ts ++ [Tr.T.nd l a b]) (.nd l a b) = ts.length := by
    unfold ixN
    rw [List.idxOf_append, if_neg hn]
    simp
  have none_of : ∀ (l' i j : Nat), (ts.length ≤ i ∨ ts.length ≤ j) → valV (putK kd (k3 l (ixN ts a) (ixN ts b)) (.int ts.length)) (k3 l' i j) = none := by
    intro l' i j hij
    have h1 := ixN_lt ha
    have h2 := ixN_lt hb
    rw [valV_put, if_neg]
    · cases e : valV kd (k3 l' i j) with
      | none => rfl
      | some v =>
        obtain ⟨l2, i2, j2, e2, e3, e4⟩ := h.dom _ _ e
        unfold k3 at e2
        simp only [List.cons.injEq, Sum.inl.injEq, and_true] at e2
        omega
    · intro e2
      unfold k3 at e2
      simp only [List.cons.injEq, Sum.inl.injEq, and_true] at e2
      omega
  have sub : ∀ l' a' b', Tr.T.nd l' a' b' ∈ ts ++ [Tr.T.nd l a b] → a' ∈ ts ∧ b' ∈ ts := fun l' a' b' z => by
    rcases List.mem_append.mp z with z | z
    · exact hcl _ _ _ z
    · simp at z
      obtain ⟨rfl, rfl, rfl⟩ := z
      exact ⟨ha, hb⟩
  refine ⟨?_, fun k v e => ?_, fun l' a' b' ha' hb' => ?_⟩
  · have := h.len
    rw [putK_new _ hv, List.length_append, List.length_append, List.length_singleton, List.length_singleton]
    omega
  · rw [valV_put] at e
    rw [List.length_append, List.length_singleton]
    by_cases q : k = k3 l (ixN ts a) (ixN ts b)
    · have h1 := ixN_lt ha
      have h2 := ixN_lt hb
      exact ⟨l, ixN ts a, ixN ts b, q, by omega, by omega⟩
    · rw [if_neg q] at e
      obtain ⟨l2, i2, j2, e2, e3, e4⟩ := h.dom _ _ e
      exact ⟨l2, i2, j2, e2, by omega, by omega⟩
  · have newe : ∀ c, c ∈ ts ++ [Tr.T.nd l a b] → c ∉ ts → ts.length ≤ ixN (ts ++ [Tr.T.nd l a b]) c := fun c hc hcn => by
      rcases List.mem_append.mp hc with z | z
      · exact absurd z hcn
      · simp at z
        rw [z, inew]
        exact Nat.le_refl _
    by_cases ma : a' ∈ ts
    · by_cases mb : b' ∈ ts
      · rw [ixN_pre pre ma, ixN_pre pre mb, valV_put]
        by_cases e : k3 l' (ixN ts a') (ixN ts b') = k3 l (ixN ts a) (ixN ts b)
        · rw [if_pos e]
          unfold k3 at e
          simp only [List.cons.injEq, Sum.inl.injEq, and_true] at e
          obtain ⟨e1, e2, e3⟩ := e
          have e1' : l' = l := by omega
          have e2' : a' = a := ixN_inj ma ha (by omega)
          have e3' : b' = b := ixN_inj mb hb (by omega)
          subst e1' e2' e3'
          rw [if_pos (List.mem_append_right _ (List.mem_singleton.mpr rfl))]
          unfold ixV
          rw [inew]
        · rw [if_neg e, h.val l' a' b' ma mb]
          by_cases m : Tr.T.nd l' a' b' ∈ ts
          · rw [if_pos m, if_pos (List.mem_append_left _ m), ixV_pre pre m]
          · rw [if_neg m, if_neg]
            intro z
            rcases List.mem_append.mp z with z | z
            · exact m z
            · simp at z
              obtain ⟨rfl, rfl, rfl⟩ := z
              exact e rfl
      · rw [none_of _ _ _ (.inr (newe b' hb' mb)), if_neg]
        exact fun z => mb (sub _ _ _ z).2
    · rw [none_of _ _ _ (.inl (newe a' ha' ma)), if_neg]
      exact fun z => ma (sub _ _ _ z).1
end My
namespace My
open PySem PySem.Spec PyProof.Rows L2 LamX Tr
section
variable {P : Program} {w : World} {T : List (Addr × Str)} {C : Addr} {A : TA} {L : Nat} {H : Hp} {ts : List Tr.T} {n : Nat}
theorem TreesAt.nes (x : TreesAt P w T C A L H ts n) : A.Ne := TA.ne_of x.ne
theorem tabs_keep {H' : Hp} (t : Tabs T H) (k : ∀ {c : Addr} {u : HO}, H c = some u → (∀ xs, u ≠ .lst xs) → (∀ ks, u ≠ .dT ks) → H' c = some u) : Tabs T H' := fun p hp => by
  obtain ⟨ps, h1, h2, h3⟩ := t p hp
  refine ⟨ps, k h1 (fun _ z => by cases z) (fun _ z => by cases z), h2, fun pos cv hc => ?_⟩
  obtain ⟨c, e1, e2⟩ := h3 pos cv hc
  exact ⟨c, e1, k e2 (fun _ z => by unfold CodeO at z; cases z) (fun _ z => by unfold CodeO at z; cases z)⟩
/-- a new node is laid -/
theorem TreesAt.push (x : TreesAt P w T C A L H ts n) {kd : List (List Key × V)} (hkn : H A.kn = some (.dT kd)) (hko : KnOk ts kd) {l : Nat} {a b : Tr.T} (ha : a ∈ ts) (hb : b ∈ ts) (hn : Tr.T.nd l a b ∉ ts) (oa : Ok L (l + 1) a) (ob : Ok L (l + 1) b) (hl : l < L) (hab : a ≠ b) :
    TreesAt P w T C A L (upd (upd (upd (upd H A.kn (.dT (putK kd (k3 l (ixN ts a) (ixN ts b)) (.int ts.length)))) A.lv (.lst ((ts.map fun t => V.int (lev L t : Nat)) ++ [.int l]))) A.lw (.lst ((ts.map fun t => ixV ts (loC t)) ++ [ixV ts a]))) A.hg (.lst ((ts.map fun t => ixV ts (hiC t)) ++ [ixV ts b]))) (ts ++ [.nd l a b]) n := by
  have N := x.nes
  have pre : ts <+: ts ++ [Tr.T.nd l a b] := List.prefix_append _ _
  have nl : ∀ {c : Addr} {u : HO}, H c = some u → (∀ xs, u ≠ .lst xs) → (∀ ks, u ≠ .dT ks) → c ≠ A.lv ∧ c ≠ A.lw ∧ c ≠ A.hg ∧ c ≠ A.kn := fun {c u} e h1 h2 =>
    ⟨ne_of e x.lv (h1 _), ne_of e x.lw (h1 _), ne_of e x.hg (h1 _), ne_of e hkn (h2 _)⟩
  have keep : ∀ {c : Addr} {u : HO}, H c = some u → (∀ xs, u ≠ .lst xs) → (∀ ks, u ≠ .dT ks) →
      (upd (upd (upd (upd H A.kn (.dT (putK kd (k3 l (ixN ts a) (ixN ts b)) (.int ts.length)))) A.lv (.lst ((ts.map fun t => V.int (lev L t : Nat)) ++ [.int l]))) A.lw (.lst ((ts.map fun t => ixV ts (loC t)) ++ [ixV ts a]))) A.hg (.lst ((ts.map fun t => ixV ts (hiC t)) ++ [ixV ts b]))) c = some u := fun {c u} e h1 h2 => by
    obtain ⟨q1, q2, q3, q4⟩ := nl e h1 h2
    rw [upd_ne q3, upd_ne q2, upd_ne q1, upd_ne q4]
    exact e
  obtain ⟨td, g1, g2, g3⟩ := x.td
  refine ⟨keep x.ins (fun _ z => by cases z) (fun _ z => by cases z), ?_, ?_, ?_, ⟨_, by rw [upd_ne N.d8.symm, upd_ne N.d6.symm, upd_ne N.d3.symm, upd_same], hko.put x.wf.nd ha hb hn x.wf.cl⟩, ⟨td, ?_, fun k v e => (g2 k v e).pre pre, g3⟩, x.wf.snoc ha hb hn ⟨Nat.zero_le _, hl, hab, oa, ob⟩, x.ne, ?_⟩
  · rw [upd_ne N.d2, upd_ne N.d1, upd_same, List.map_append]
    rfl
  · rw [upd_ne N.d5, upd_same, List.map_append]
    have e1 : (ts.map fun t => ixV (ts ++ [Tr.T.nd l a b]) (loC t)) = ts.map fun t => ixV ts (loC t) := List.map_congr_left fun t ht => ixV_pre pre (x.wf.loC ht)
    rw [e1]
    show some (HO.lst _) = some (HO.lst (_ ++ [ixV (ts ++ [Tr.T.nd l a b]) a]))
    rw [ixV_pre pre ha]
  · rw [upd_same, List.map_append]
    have e1 : (ts.map fun t => ixV (ts ++ [Tr.T.nd l a b]) (hiC t)) = ts.map fun t => ixV ts (hiC t) := List.map_congr_left fun t ht => ixV_pre pre (x.wf.hiC ht)
    rw [e1]
    show some (HO.lst _) = some (HO.lst (_ ++ [ixV (ts ++ [Tr.T.nd l a b]) b]))
    rw [ixV_pre pre hb]
  · obtain ⟨xs, e1, e2, e3, e4⟩ := g1
    exact ⟨xs, keep e1 (fun _ z => by unfold NDO at z; cases z) (fun _ z => by unfold NDO at z; cases z), e2, e3, e4.ext fun b ys hb => keep hb (fun _ z => by cases z) (fun _ z => by cases z)⟩
  · exact tabs_keep x.tab fun e h1 h2 => keep e h1 h2
end
end My
namespace My
open PySem PySem.Spec PyProof.Rows L2 LamX Tr
theorem ndo_ne_code {P : Program} {w : World} {d c : Addr} {q : Str} {xs : List (NestedKey × Addr × Value)} : NDO P w d xs ≠ CodeO c q := fun z => by
  unfold NDO CodeO at z
  injection z with z
  have e := congrFun z ({ objs := Array.replicate (c + 1) { cls := .none, data := .fields #[.none, .str q 0] } } : Heap)
  have hg : (({ objs := Array.replicate (c + 1) { cls := .none, data := .fields #[.none, .str q 0] } } : Heap)).get? c = some { cls := .none, data := .fields #[.none, .str q 0] } := by
    unfold Heap.get?
    simp
  have h2 := e.mpr ⟨_, _, 0, hg, rfl, rfl⟩
  obtain ⟨o, es, ep, h3, h4, h5, _⟩ := h2
  unfold Heap.get? at h3
  by_cases hd : d < c + 1
  · simp [hd] at h3
    rw [← h3] at h5
    cases h5
  · simp [hd] at h3
/-- no promise at all -/
abbrev spNone : Sp := fun _ _ _ _ => False
theorem fnok_none {P : Program} {w : World} {K : PySem.W.Frag} {mg : Str → Option Value} {base : Heap} {CX : CXT} {k : Nat} {f : Addr} {fd : FuncData} {ps : List Str} : FnOk P w K mg base CX k f fd ps spNone :=
  ⟨fun _ _ _ _ h => h.elim, fun _ _ _ _ _ _ _ _ _ _ _ _ _ h => h.elim⟩
/-- a tree whose rows don't hang on the signs ahead of a level begins at it, or behind -/
theorem ok_indep {L l : Nat} {r : Tr.T} (h : Ok L 0 r) (hi : ∀ x y : Nat → Bool, (∀ i, l ≤ i → x i = y i) → ev r x = ev r y) : Ok L l r := by
  cases r with
  | no => trivial
  | all => trivial
  | nd m p q =>
    obtain ⟨h1, h2, h3, h4, h5⟩ := h
    refine ⟨Nat.le_of_not_lt fun hlt => h3 (h4.eq h5 fun x => ?_), h2, h3, h4, h5⟩
    have e := hi (put x m false) (put x m true) (fun i hi => by rw [put_ne (by omega), put_ne (by omega)])
    simp only [ev, put_same, if_true] at e
    have c2 : (if (false = true) then ev q (put x m false) else ev p (put x m false)) = ev p (put x m false) := if_neg (by decide)
    rw [c2, ev_congr h4 (y := x) (fun i hi => put_ne (by omega)), ev_congr h5 (y := x) (fun i hi => put_ne (by omega))] at e
    exact e
theorem idx_pair {ts : List Tr.T} {a b : Tr.T} (ha : a ∈ ts) (hb : b ∈ ts) : ∃ c e, c ∈ ts ∧ e ∈ ts ∧ (if ((ixN ts b : Nat) : Int) < ((ixN ts a : Nat) : Int) then ((ixN ts b : Nat) : Int) else ((ixN ts a : Nat) : Int)) = ((ixN ts c : Nat) : Int) ∧
    (if ((ixN ts b : Nat) : Int) > ((ixN ts a : Nat) : Int) then ((ixN ts b : Nat) : Int) else ((ixN ts a : Nat) : Int)) = ((ixN ts e : Nat) : Int) ∧ ((c = a ∧ e = b) ∨ (c = b ∧ e = a)) := by
  by_cases h : ((ixN ts b : Nat) : Int) < ((ixN ts a : Nat) : Int)
  · exact ⟨b, a, hb, ha, if_pos h, if_neg (by omega), .inr ⟨rfl, rfl⟩⟩
  · by_cases h2 : ((ixN ts b : Nat) : Int) > ((ixN ts a : Nat) : Int)
    · exact ⟨a, b, ha, hb, if_neg h, if_pos h2, .inl ⟨rfl, rfl⟩⟩
    · have e : a = b := ixN_inj ha hb (by omega)
      subst e
      exact ⟨a, a, ha, ha, if_neg h, if_neg h2, .inl ⟨rfl, rfl⟩⟩
theorem min_lev {a b : Nat} : (if ((b : Nat) : Int) < ((a : Nat) : Int) then ((b : Nat) : Int) else ((a : Nat) : Int)) = ((min a b : Nat) : Int) := by
  split <;> omega
theorem Wf.mem_ix {L : Nat} {ts : List Tr.T} (x : Wf L ts) {t : Tr.T} (ht : t ∈ ts) {i : Int} (e : ixV ts t = .int i) : (i = 0 → t = .no) ∧ (i = 1 → t = .all) := by
  constructor
  · intro z
    exact ixV_inj ht x.no (by rw [e, z, x.ix_no])
  · intro z
    exact ixV_inj ht x.all (by rw [e, z, x.ix_all])
theorem two_pow_pos (d : Nat) : 0 < 2 ^ d := Nat.two_pow_pos d
section
variable {P : Program} {w : World} {T : List (Addr × Str)} {C : Addr} {A : TA} {L : Nat} {H H' : Hp} {ts : List Tr.T} {n : Nat}
theorem TreesAt.told (x : TreesAt P w T C A L H ts n) {td : List (NestedKey × V)} (hk : TdOk ts td) (hl : td.length ≤ n) {k : NestedKey} {v : V} (hp : NPut P w H A.td (putK td k v) H') (he : TdEnt ts k v) : TreesAt P w T C A L H' ts (n + 1) := by
  obtain ⟨h1, h2⟩ := hp
  have N := x.nes
  obtain ⟨kd, g1, g2⟩ := x.kn
  refine ⟨(h2 _ N.p5).trans x.ins, (h2 _ N.d4).trans x.lv, (h2 _ N.d7).trans x.lw, (h2 _ N.d9).trans x.hg, ⟨kd, (h2 _ N.d10).trans g1, g2⟩, ⟨_, h1, fun j u e => ?_, by have := length_putK td k v; omega⟩, x.wf, x.ne, ?_⟩
  · rw [valV_put] at e
    by_cases q : j = k
    · rw [if_pos q] at e
      cases e
      rw [q]
      exact he
    · rw [if_neg q] at e
      exact hk _ _ e
  · obtain ⟨td0, ⟨xs, e1, _⟩, _⟩ := x.td
    intro p hp
    obtain ⟨ps, q1, q2, q3⟩ := x.tab p hp
    refine ⟨ps, (h2 _ (ne_of q1 e1 (fun z => by unfold NDO at z; cases z))).trans q1, q2, fun pos cv hc => ?_⟩
    obtain ⟨c, e1', e2'⟩ := q3 pos cv hc
    refine ⟨c, e1', (h2 _ (fun z => ?_)).trans e2'⟩
    subst z
    rw [e1] at e2'
    exact ndo_ne_code (Option.some.inj e2')

end
theorem ne_txt {s t : Str} {xs ys : List NestedKey} (h : NestedKey.tup (.text s :: xs) = .tup (.text t :: ys)) : s = t := by
  injection h with h
  injection h with h
  injection h
theorem TdEnt.both_inv {ts : List Tr.T} {c e : Tr.T} {v : V} (hc : c ∈ ts) (he : e ∈ ts) (h : TdEnt ts (.tup [.text "both", .num (ixN ts c), .num (ixN ts e)]) v) : ∃ r, r ∈ ts ∧ v = ixV ts r ∧ ∀ x, ev r x = (ev c x && ev e x) := by
  generalize hk : NestedKey.tup [.text "both", .num (ixN ts c), .num (ixN ts e)] = k at h
  cases h with
  | both h1 h2 h3 h4 =>
    injection hk with hk
    simp only [List.cons.injEq, NestedKey.num.injEq, and_true, true_and] at hk
    rw [ixN_inj hc h1 (by omega), ixN_inj he h2 (by omega)]
    exact ⟨_, h3, rfl, h4⟩
  | either h1 h2 h3 h4 => exact absurd (ne_txt hk) (by decide)
  | rest h1 h2 h3 => exact absurd (ne_txt hk) (by decide)
  | freed h1 h2 h3 => exact absurd (ne_txt hk) (by decide)
theorem TdEnt.either_inv {ts : List Tr.T} {c e : Tr.T} {v : V} (hc : c ∈ ts) (he : e ∈ ts) (h : TdEnt ts (.tup [.text "either", .num (ixN ts c), .num (ixN ts e)]) v) : ∃ r, r ∈ ts ∧ v = ixV ts r ∧ ∀ x, ev r x = (ev c x || ev e x) := by
  generalize hk : NestedKey.tup [.text "either", .num (ixN ts c), .num (ixN ts e)] = k at h
  cases h with
  | either h1 h2 h3 h4 =>
    injection hk with hk
    simp only [List.cons.injEq, NestedKey.num.injEq, and_true, true_and] at hk
    rw [ixN_inj hc h1 (by omega), ixN_inj he h2 (by omega)]
    exact ⟨_, h3, rfl, h4⟩
  | both h1 h2 h3 h4 => exact absurd (ne_txt hk) (by decide)
  | rest h1 h2 h3 => exact absurd (ne_txt hk) (by decide)
  | freed h1 h2 h3 => exact absurd (ne_txt hk) (by decide)
theorem TdEnt.rest_inv {ts : List Tr.T} {c : Tr.T} {v : V} (hc : c ∈ ts) (h : TdEnt ts (.tup [.text "rest", .num (ixN ts c)]) v) : ∃ r, r ∈ ts ∧ v = ixV ts r ∧ ∀ x, ev r x = !ev c x := by
  generalize hk : NestedKey.tup [.text "rest", .num (ixN ts c)] = k at h
  cases h with
  | rest h1 h2 h3 =>
    injection hk with hk
    simp only [List.cons.injEq, NestedKey.num.injEq, and_true, true_and] at hk
    rw [ixN_inj hc h1 (by omega)]
    exact ⟨_, h2, rfl, h3⟩
  | both h1 h2 h3 h4 => exact absurd (ne_txt hk) (by decide)
  | either h1 h2 h3 h4 => exact absurd (ne_txt hk) (by decide)
  | freed h1 h2 h3 => exact absurd (ne_txt hk) (by decide)
theorem node_of {L l : Nat} {a : Tr.T} (o : Ok L l a) (h0 : a ≠ .no) (h1 : a ≠ .all) : l ≤ lev L a ∧ lev L a < L := by
  cases a with
  | no => exact absurd rfl h0
  | all => exact absurd rfl h1
  | nd m p q => exact ⟨o.1, o.2.1⟩
theorem TdEnt.bothAt {ts us : List Tr.T} (pre : ts <+: us) {c e r : Tr.T} (hc : c ∈ ts) (he : e ∈ ts) (hr : r ∈ us) (h : ∀ x, ev r x = (ev c x && ev e x)) : TdEnt us (.tup [.text "both", .num (ixN ts c), .num (ixN ts e)]) (ixV us r) := by
  rw [← ixN_pre pre hc, ← ixN_pre pre he]
  exact .both (pre.subset hc) (pre.subset he) hr h
theorem TdEnt.eitherAt {ts us : List Tr.T} (pre : ts <+: us) {c e r : Tr.T} (hc : c ∈ ts) (he : e ∈ ts) (hr : r ∈ us) (h : ∀ x, ev r x = (ev c x || ev e x)) : TdEnt us (.tup [.text "either", .num (ixN ts c), .num (ixN ts e)]) (ixV us r) := by
  rw [← ixN_pre pre hc, ← ixN_pre pre he]
  exact .either (pre.subset hc) (pre.subset he) hr h
theorem TdEnt.restAt {ts us : List Tr.T} (pre : ts <+: us) {c r : Tr.T} (hc : c ∈ ts) (hr : r ∈ us) (h : ∀ x, ev r x = !ev c x) : TdEnt us (.tup [.text "rest", .num (ixN ts c)]) (ixV us r) := by
  rw [← ixN_pre pre hc]
  exact .rest (pre.subset hc) hr h
theorem TdEnt.freedAt {ts us : List Tr.T} (pre : ts <+: us) {c r : Tr.T} {ls : List Nat} (hc : c ∈ ts) (hr : r ∈ us) (h : IsFreed ls c r) : TdEnt us (.tup [.text "freed", .num (ixN ts c), .tup (ls.map fun i => .num (i : Nat))]) (ixV us r) := by
  rw [← ixN_pre pre hc]
  exact .freed (pre.subset hc) hr h
section
variable {P : Program} {w : World} {T : List (Addr × Str)} {C : Addr} {A : TA} {L : Nat} {H H' : Hp} {ts : List Tr.T} {n : Nat}
theorem TreesAt.some_of (x : TreesAt P w T C A L H ts n) {b : Addr} (hb : b ∈ A.p :: A.muts) : ∃ o, H b = some o := by
  unfold TA.muts at hb
  simp only [List.mem_cons, List.not_mem_nil, or_false] at hb
  obtain ⟨kd, h1, _⟩ := x.kn
  obtain ⟨td, ⟨xs, h2, _⟩, _⟩ := x.td
  rcases hb with rfl | rfl | rfl | rfl | rfl | rfl
  · exact ⟨_, x.ins⟩
  · exact ⟨_, x.lv⟩
  · exact ⟨_, x.lw⟩
  · exact ⟨_, x.hg⟩
  · exact ⟨_, h1⟩
  · exact ⟨_, h2⟩
/-- a new place is none of the store's -/
theorem TreesAt.fresh (x : TreesAt P w T C A L H ts n) {p : Addr} (hp : H p = none) : p ∉ A.muts := fun h => by
  obtain ⟨o, e⟩ := x.some_of (List.mem_cons_of_mem _ h)
  rw [hp] at e
  cases e
theorem Keep.put {td : List (NestedKey × V)} (h : NPut P w H A.td td H') : Keep A H H' := fun b o e _ hb => (h.2 b fun z => hb (by rw [z]; simp [TA.muts])).trans e
theorem not_td {p : Addr} (h : p ∉ A.muts) : p ≠ A.td := fun z => h (by rw [z]; simp [TA.muts])
end
theorem inV01 {L : Nat} {ts : List Tr.T} (x : Wf L ts) {a : Tr.T} (ha : a ∈ ts) : inV (ixV ts a) [V.int 0, V.int 1] = true ↔ a = .no ∨ a = .all := by
  constructor
  · intro h
    unfold inV ixV at h
    simp [eqV] at h
    rcases h with h | h
    · exact .inl ((x.mem_ix ha rfl).1 (by omega))
    · exact .inr ((x.mem_ix ha rfl).2 (by omega))
  · rintro (rfl | rfl)
    · rw [x.ix_no]; rfl
    · rw [x.ix_all]; rfl
def sgD (sg : List (Nat × Bool)) : List (Key × V) := sg.map fun p => (.inl (p.1 : Int), .int (if p.2 = true then 1 else 0))
theorem valV_sgD : ∀ {sg : List (Nat × Bool)} {k : Nat} {b : Bool}, (sg.map (·.1)).Nodup → (k, b) ∈ sg → valV (sgD sg) (.inl (k : Int)) = some (.int (if b = true then 1 else 0))
  | [], _, _, _, h => by cases h
  | (k', b') :: sg, k, b, nd, h => by
    rw [List.map_cons, List.nodup_cons] at nd
    rcases List.mem_cons.mp h with e | h
    · cases e
      exact valV_pos rfl
    · refine (valV_neg (fun e => ?_)).trans (valV_sgD nd.2 h)
      injection e with e
      exact nd.1 (List.mem_map.mpr ⟨_, h, by simp only; omega⟩)
theorem step_all {sg : List (Nat × Bool)} {zs : List Nat} {i k0 : Nat} {b : Bool} (nd : (sg.map (·.1)).Nodup) (hk0 : zs[i]? = some k0) (hb : (k0, b) ∈ sg) (x : Nat → Bool) :
    (sg.all fun p => x p.1 == p.2 || !(zs.take (i + 1)).contains p.1) = ((x k0 == b) && sg.all fun p => x p.1 == p.2 || !(zs.take i).contains p.1) := by
  have e : zs.take (i + 1) = zs.take i ++ [k0] := by rw [List.take_add_one, hk0]; rfl
  rw [e, Bool.eq_iff_iff]
  simp only [List.all_eq_true, Bool.and_eq_true, Bool.or_eq_true, beq_iff_eq, Bool.not_eq_true', List.contains_eq_mem, List.mem_append, List.mem_singleton, decide_eq_false_iff_not, not_or]
  constructor
  · intro h
    refine ⟨?_, fun p hp => ?_⟩
    · rcases h _ hb with h | h
      · exact h
      · exact absurd rfl h.2
    · rcases h p hp with h | h
      · exact .inl h
      · exact .inr h.1
  · rintro ⟨h1, h2⟩ p hp
    by_cases e : p.1 = k0
    · have : p = (k0, b) := by
        have inj : ∀ {sg : List (Nat × Bool)}, (sg.map (·.1)).Nodup → ∀ {p q : Nat × Bool}, p ∈ sg → q ∈ sg → p.1 = q.1 → p = q := fun {sg} nd => by
          induction sg with
          | nil => intro p q hp; cases hp
          | cons a sg ih =>
            rw [List.map_cons, List.nodup_cons] at nd
            intro p q hp hq e
            rcases List.mem_cons.mp hp with hp1 | hp1 <;> rcases List.mem_cons.mp hq with hq1 | hq1
            · rw [hp1, hq1]
            · exact absurd (List.mem_map.mpr ⟨_, hq1, by rw [← e, hp1]⟩) nd.1
            · exact absurd (List.mem_map.mpr ⟨_, hp1, by rw [e, hq1]⟩) nd.1
            · exact ih nd.2 hp1 hq1 e
        exact inj nd hp hb e
      subst this
      exact .inl h1
    · rcases h2 p hp with h | h
      · exact .inl h
      · exact .inr ⟨h, e⟩
theorem TreesAt.not_mut {P : Program} {w : World} {T : List (Addr × Str)} {C : Addr} {A : TA} {L : Nat} {H : Hp} {ts : List Tr.T} {n : Nat} (x : TreesAt P w T C A L H ts n) {q : Addr} {kvs : List (Key × V)} (hq : H q = some (.dK kvs)) : q ∉ A.muts := by
  obtain ⟨kd, h1, _⟩ := x.kn
  obtain ⟨td, ⟨xs, h2, _⟩, _⟩ := x.td
  unfold TA.muts
  simp only [List.mem_cons, List.not_mem_nil, or_false, not_or]
  exact ⟨ne_of hq x.lv (fun z => by cases z), ne_of hq x.lw (fun z => by cases z), ne_of hq x.hg (fun z => by cases z), ne_of hq h1 (fun z => by cases z), ne_of hq h2 (fun z => by unfold NDO at z; cases z)⟩
theorem TreesAt.not_mutT {P : Program} {w : World} {T : List (Addr × Str)} {C : Addr} {A : TA} {L : Nat} {H : Hp} {ts : List Tr.T} {n : Nat} (x : TreesAt P w T C A L H ts n) {q : Addr} {vs : List V} (hq : H q = some (.tup vs)) : q ∉ A.muts := by
  obtain ⟨kd, h1, _⟩ := x.kn
  obtain ⟨td, ⟨xs, h2, _⟩, _⟩ := x.td
  unfold TA.muts
  simp only [List.mem_cons, List.not_mem_nil, or_false, not_or]
  exact ⟨ne_of hq x.lv (fun z => by cases z), ne_of hq x.lw (fun z => by cases z), ne_of hq x.hg (fun z => by cases z), ne_of hq h1 (fun z => by cases z), ne_of hq h2 (fun z => by unfold NDO at z; cases z)⟩
theorem TdEnt.freed_inv {ts : List Tr.T} {c : Tr.T} {ls : List Nat} {v : V} (hc : c ∈ ts) (h : TdEnt ts (.tup [.text "freed", .num (ixN ts c), .tup (ls.map fun (i : Nat) => NestedKey.num i)]) v) : ∃ r, r ∈ ts ∧ v = ixV ts r ∧ IsFreed ls c r := by
  generalize hk : NestedKey.tup [.text "freed", .num (ixN ts c), .tup (ls.map fun (i : Nat) => NestedKey.num i)] = k at h
  cases h with
  | @freed a r ls' h1 h2 h3 =>
    injection hk with hk
    simp only [List.cons.injEq, NestedKey.num.injEq, NestedKey.tup.injEq, and_true, true_and] at hk
    have e : ls = ls' := by
      have e1 := congrArg (List.map fun k => match k with | NestedKey.num i => i.toNat | _ => 0) hk.2
      simpa [List.map_map, Function.comp_def] using e1
    rw [ixN_inj hc h1 (by omega), e]
    exact ⟨_, h2, rfl, h3⟩
  | both h1 h2 h3 h4 => exact absurd (ne_txt hk) (by decide)
  | either h1 h2 h3 h4 => exact absurd (ne_txt hk) (by decide)
  | rest h1 h2 h3 => exact absurd (ne_txt hk) (by decide)
theorem freed_ok {L l : Nat} {ts : List Tr.T} (x : Wf L ts) {a r : Tr.T} {ls : List Nat} (hr : r ∈ ts) (oa : Ok L l a) (h : IsFreed ls a r) : Ok L l r := by
  refine ok_indep (x.ok r hr) fun y z hyz => ?_
  rw [Bool.eq_iff_iff]
  have dir : ∀ {y z : Nat → Bool}, (∀ i, l ≤ i → y i = z i) → ev r y = true → ev r z = true := fun {y z} hyz hy => by
    obtain ⟨w, h1, h2⟩ := (h y).mp hy
    refine (h z).mpr ⟨fun i => if l ≤ i then w i else z i, fun i hi => ?_, ?_⟩
    · show (if l ≤ i then w i else z i) = z i
      by_cases e : l ≤ i
      · rw [if_pos e, h1 i hi, hyz i e]
      · rw [if_neg e]
    · rw [← h2]
      exact ev_congr oa fun i hi => if_pos hi
  exact ⟨dir hyz, dir fun i hi => (hyz i hi).symm⟩
section
variable {L m : Nat} {a0 a1 r0 r1 r : Tr.T} {ls rs : List Nat}
theorem freed_in (o0 : Ok L (m + 1) a0) (o1 : Ok L (m + 1) a1) (hrs : ∀ i, i ∈ rs ↔ i ∈ ls ∧ m ≤ i ∧ i ≠ m) (h0 : IsFreed rs a0 r0) (h1 : IsFreed rs a1 r1) (hm : m ∈ ls) (hr : ∀ x, ev r x = (ev r0 x || ev r1 x)) : IsFreed ls (.nd m a0 a1) r := by
  intro x
  rw [hr, Bool.or_eq_true, h0 x, h1 x]
  constructor
  · rintro (⟨y, hy, he⟩ | ⟨y, hy, he⟩)
    · refine ⟨put y m false, fun i hi => ?_, ?_⟩
      · rw [put_ne (fun z : i = m => hi (by rw [z]; exact hm))]
        exact hy i fun z => hi ((hrs i).mp z).1
      · show (if put y m false m = true then ev a1 _ else ev a0 _) = true
        rw [put_same, if_neg (by decide), ← he]
        exact ev_congr o0 fun i hi => put_ne (by omega)
    · refine ⟨put y m true, fun i hi => ?_, ?_⟩
      · rw [put_ne (fun z : i = m => hi (by rw [z]; exact hm))]
        exact hy i fun z => hi ((hrs i).mp z).1
      · show (if put y m true m = true then ev a1 _ else ev a0 _) = true
        rw [put_same, if_pos rfl, ← he]
        exact ev_congr o1 fun i hi => put_ne (by omega)
  · rintro ⟨y, hy, he⟩
    have hz : ∀ i, i ∉ rs → (if m + 1 ≤ i then y i else x i) = x i := fun i hi => by
      by_cases e : m + 1 ≤ i
      · rw [if_pos e]
        exact hy i fun z => hi ((hrs i).mpr ⟨z, by omega, by omega⟩)
      · rw [if_neg e]
    change (if y m = true then ev a1 y else ev a0 y) = true at he
    by_cases e : y m = true
    · rw [if_pos e] at he
      refine .inr ⟨fun i => if m + 1 ≤ i then y i else x i, hz, ?_⟩
      rw [← he]
      exact ev_congr o1 fun i hi => if_pos hi
    · rw [if_neg e] at he
      refine .inl ⟨fun i => if m + 1 ≤ i then y i else x i, hz, ?_⟩
      rw [← he]
      exact ev_congr o0 fun i hi => if_pos hi
theorem freed_out (o0 : Ok L (m + 1) a0) (o1 : Ok L (m + 1) a1) (hrs : ∀ i, i ∈ rs ↔ i ∈ ls ∧ m ≤ i ∧ i ≠ m) (h0 : IsFreed rs a0 r0) (h1 : IsFreed rs a1 r1) (hm : m ∉ ls) : IsFreed ls (.nd m a0 a1) (mk m r0 r1) := by
  intro x
  rw [ev_mk]
  have to : ∀ {a : Tr.T}, Ok L (m + 1) a → ((∃ y, (∀ i, i ∉ rs → y i = x i) ∧ ev a y = true) ↔ ∃ y, (∀ i, i ∉ ls → y i = x i) ∧ ev a y = true) := fun {a} oa => by
    constructor
    · rintro ⟨y, hy, he⟩
      exact ⟨y, fun i hi => hy i fun z => hi ((hrs i).mp z).1, he⟩
    · rintro ⟨y, hy, he⟩
      refine ⟨fun i => if m + 1 ≤ i then y i else x i, fun i hi => ?_, ?_⟩
      · by_cases e : m + 1 ≤ i
        · show (if m + 1 ≤ i then y i else x i) = x i
          rw [if_pos e]
          exact hy i fun z => hi ((hrs i).mpr ⟨z, by omega, by omega⟩)
        · exact if_neg e
      · rw [← he]
        exact ev_congr oa fun i hi => if_pos hi
  by_cases e : x m = true
  · rw [if_pos e, h1 x, to o1]
    refine exists_congr fun y => and_congr_right fun hy => ?_
    show _ ↔ (if y m = true then ev a1 y else ev a0 y) = true
    rw [hy m hm, if_pos e]
  · rw [if_neg e, h0 x, to o0]
    refine exists_congr fun y => and_congr_right fun hy => ?_
    show _ ↔ (if y m = true then ev a1 y else ev a0 y) = true
    rw [hy m hm, if_neg e]
end
def lsV (ls : List Nat) : List V := ls.map fun (i : Nat) => V.int i
theorem inV_ls {m : Nat} {l : List Nat} : inV (.int m) (lsV l) = true ↔ m ∈ l := by
  unfold inV lsV
  rw [List.any_eq_true]
  constructor
  · rintro ⟨v, hv, e⟩
    obtain ⟨i, hi, rfl⟩ := List.mem_map.mp hv
    have e1 : (i : Int) = m := eq_of_beq e
    have : i = m := by omega
    exact this ▸ hi
  · intro h
    exact ⟨_, List.mem_map.mpr ⟨m, h, rfl⟩, beq_self_eq_true _⟩
theorem flat_ls {l : List Nat} : (lsV l).all flatV = true := by
  unfold lsV
  rw [List.all_eq_true]
  intro v hv
  obtain ⟨i, hi, rfl⟩ := List.mem_map.mp hv
  rfl
theorem keys_sgD {sg : List (Nat × Bool)} : (sgD sg).map (·.1) = (sg.map fun p => (p.1 : Int)).map Sum.inl := by simp [sgD]
theorem ints_perm {sg : List (Nat × Bool)} {ys : List Int} (h : ys.Perm (sg.map fun p => (p.1 : Int))) : ∃ zs : List Nat, ys = zs.map (fun (i : Nat) => (i : Int)) ∧ ys.map V.int = lsV zs ∧ zs.Perm (sg.map (·.1)) := by
  have e : ys = (ys.map Int.toNat).map fun (i : Nat) => (i : Int) := by
    rw [List.map_map]
    refine (List.map_id ys).symm.trans (List.map_congr_left fun i hi => ?_)
    obtain ⟨p, _, rfl⟩ := List.mem_map.mp (h.subset hi)
    simp
  refine ⟨ys.map Int.toNat, e, ?_, ?_⟩
  · unfold lsV
    rw [List.map_map]
    refine List.map_congr_left fun i hi => ?_
    obtain ⟨p, _, rfl⟩ := List.mem_map.mp (h.subset hi)
    simp
  · have e1 := h.map Int.toNat
    rw [List.map_map] at e1
    have e2 : (Int.toNat ∘ fun (p : Nat × Bool) => (p.1 : Int)) = (·.1) := funext fun p => Int.toNat_natCast _
    rw [e2] at e1
    exact e1
end My
namespace My
open PySem PySem.Spec PyProof.Rows L2 LamX Tr
theorem sqT_new {K : PySem.W.Frag} {H : Hp} {a D : Addr} {xs : List V} {o : HO} (hx : SqT K H a xs) (hD : H D = none) : SqT K (upd H D o) a xs := Evl.ex_t (Evl.Ex.new hD) hx
theorem sqL_new {K : PySem.W.Frag} {H : Hp} {a D : Addr} {xs : List V} {o : HO} (hx : SqL K H a xs) (hD : H D = none) : SqL K (upd H D o) a xs := Evl.ex_l (Evl.Ex.new hD) hx
section
variable {K : PySem.W.Frag} {tl : TE} {j : Nat} {a : Addr} {xs : List V} {f : V → Bool} {v : V → V} {tt : TT} {te : TE} {σ : L2.St} {H : Hp} {Q : VK}
theorem lcV_turn {D : Addr} {i : Nat} {x : V} (hD : H D = none) (hz : xs.length ≤ sizeLine) (hw : ∀ x, wipe ((wipe σ [j]).set j (some x)) [j] = wipe σ [j])
    (ht : ∀ x, x ∈ xs → ∀ D acc, H D = none → ∀ R : Bool → Hp → Prop, R (f x) (upd H D (.lst acc)) → tt ((wipe σ [j]).set j (some x)) (upd H D (.lst acc)) R)
    (he : ∀ x, x ∈ xs → f x = true → ∀ D acc, H D = none → ∀ R : VK, R (v x) (upd H D (.lst acc)) → te ((wipe σ [j]).set j (some x)) (upd H D (.lst acc)) R)
    (hi : xs[i]? = some x) : gName j x (wipe σ [j]) (upd H D (.lst (((xs.take i).filter f).map v))) fun σ2 H2 => wipe σ2 [j] = wipe σ [j] ∧ tt σ2 H2 fun b H3 =>
      if b = true then te σ2 H3 fun y H4 => ∃ acc, H4 D = some (.lst acc) ∧ acc.length < sizeLine ∧ upd H4 D (.lst (acc ++ [y])) = upd H D (.lst (((xs.take (i + 1)).filter f).map v)) else H3 = upd H D (.lst (((xs.take (i + 1)).filter f).map v)) := by
  have hm := List.mem_of_getElem? hi
  have hlt := (List.getElem?_eq_some_iff.mp hi).1
  have e : xs.take (i + 1) = xs.take i ++ [x] := by rw [List.take_add_one, hi]; rfl
  refine ⟨hw x, ht x hm D _ hD _ ?_⟩
  cases hf : f x with
  | true =>
    rw [if_pos rfl]
    refine he x hm hf D _ hD _ ⟨_, upd_same, ?_, ?_⟩
    · rw [List.length_map]
      have h1 := List.length_filter_le f (xs.take i)
      have h2 := List.length_take_le i xs
      omega
    · rw [upd_upd, e, List.filter_append, List.map_append]
      simp [hf]
  | false =>
    rw [if_neg (by decide), e, List.filter_append]
    simp [hf]
theorem tLc_tupV (h : ∀ R : VK, R (.ref a) H → tl σ H R) (hx : SqT K H a xs) (hz : xs.length ≤ sizeLine) (hw : ∀ x, wipe ((wipe σ [j]).set j (some x)) [j] = wipe σ [j])
    (ht : ∀ x, x ∈ xs → ∀ D acc, H D = none → ∀ R : Bool → Hp → Prop, R (f x) (upd H D (.lst acc)) → tt ((wipe σ [j]).set j (some x)) (upd H D (.lst acc)) R)
    (he : ∀ x, x ∈ xs → f x = true → ∀ D acc, H D = none → ∀ R : VK, R (v x) (upd H D (.lst acc)) → te ((wipe σ [j]).set j (some x)) (upd H D (.lst acc)) R)
    (hQ : ∀ D, H D = none → Q (.ref D) (upd H D (.lst ((xs.filter f).map v)))) : tLc (iTup K tl) (gName j) tt te [j] σ H Q :=
  h _ ⟨a, rfl, ⟨xs, hx⟩, fun D hD => lc_tup (xs := xs) (fun i H' => H' = upd H D (.lst (((xs.take i).filter f).map v))) rfl (fun i H' _ p => by rw [p]; exact sqT_new hx hD)
    (fun i x H' hi p => by rw [p]; exact lcV_turn hD hz hw ht he hi) (fun H' p => by rw [p, List.take_length]; exact hQ D hD)⟩
theorem tLc_listV (h : ∀ R : VK, R (.ref a) H → tl σ H R) (hx : SqL K H a xs) (hz : xs.length ≤ sizeLine) (hw : ∀ x, wipe ((wipe σ [j]).set j (some x)) [j] = wipe σ [j])
    (ht : ∀ x, x ∈ xs → ∀ D acc, H D = none → ∀ R : Bool → Hp → Prop, R (f x) (upd H D (.lst acc)) → tt ((wipe σ [j]).set j (some x)) (upd H D (.lst acc)) R)
    (he : ∀ x, x ∈ xs → f x = true → ∀ D acc, H D = none → ∀ R : VK, R (v x) (upd H D (.lst acc)) → te ((wipe σ [j]).set j (some x)) (upd H D (.lst acc)) R)
    (hQ : ∀ D, H D = none → Q (.ref D) (upd H D (.lst ((xs.filter f).map v)))) : tLc (iList K tl) (gName j) tt te [j] σ H Q :=
  h _ ⟨a, rfl, ⟨xs, hx⟩, fun D hD => lc_list (xs := xs) (fun i H' => H' = upd H D (.lst (((xs.take i).filter f).map v))) rfl (fun i H' _ p => by rw [p]; exact sqL_new hx hD)
    (fun i x H' hi p => by rw [p]; exact lcV_turn hD hz hw ht he hi) (fun H' p => by rw [p, List.take_length]; exact hQ D hD)⟩
end
end My
namespace My
open PySem PySem.Spec PyProof.Rows L2 LamX Tr
section
variable {P : Program} {w : World} {T : List (Addr × Str)} {C : Addr} {A : TA} {L : Nat} {H H' : Hp} {ts : List Tr.T} {n : Nat}
/-- the store in a heap with more in it -/
theorem TreesAt.ex (x : TreesAt P w T C A L H ts n) (e : Evl.Ex H H') : TreesAt P w T C A L H' ts n := x.ext (fun b o h _ => e b o h) (x.tab.ext e)
end
section
variable {P : Program} {w : World} {K : PySem.W.Frag} {mg : Str → Option Value} {base : Heap} {x qual : Str} {params : Arguments} {body : List Stmt} {scope : Scope} {f c : Addr} {fd : FuncData}
/-- a def's body keeps its promise; its code object is known -/
theorem fun_okC {CX : CXT} {N ps : List Str} {k : Nat} {sp : Sp} (F : FunD K x qual params body scope [] [] f fd) (hc : fd.code = .ref c) (S : FnScope N ps scope) (len : ∀ vs H Q E, sp vs H Q E → vs.length = ps.length)
    (hbody : ∀ (A : Around) (outer : List Env) (s : Shared) (H : Hp) (vs : List V) (Q : VK) (E : XK), Room k (A.deeper (envOfC qual scope s.heap.objs.size f (.ref c))) → sp vs H Q E →
      ∃ t, PSs (cxOf CX P w K mg base N qual scope f (.ref c) A outer s H E) body t ∧ t { nx := fun _ H' => Q .non H', rt := Q } (L2.start N vs) H) : FnOk P w K mg base CX (k + 1) f fd ps sp := by
  obtain ⟨oc, od, dV, kV, doc, pm, an, cdv, ct, osl, rfl, lk, hcd, _, _⟩ := F.ex
  have e : cdv = .ref c := hc
  subst e
  exact fn_of lk hcd S len fun A outer s H vs Q E hr hsp => hbody A outer s H vs Q E hr hsp
end
theorem len_le_of {α : Type} [DecidableEq α] : ∀ {xs ys : List α}, xs.Nodup → (∀ x, x ∈ xs → x ∈ ys) → xs.length ≤ ys.length
  | [], _, _, _ => Nat.zero_le _
  | x :: xs, ys, nd, h => by
    rw [List.nodup_cons] at nd
    have hx := h x (List.mem_cons_self ..)
    have e := List.length_erase_of_mem hx
    have ih := len_le_of (ys := ys.erase x) nd.2 fun y hy => (List.mem_erase_of_ne (fun z : y = x => nd.1 (by rw [← z]; exact hy))).mpr (h y (List.mem_cons_of_mem _ hy))
    have hp := List.length_pos_of_mem hx
    rw [List.length_cons]
    omega
theorem extN_mut {H H' : Hp} {p : Addr} {o : HO} (e : ExtN H H') (h : H p = none) : ExtN H (upd H' p o) := fun b u hb n => by
  rw [upd_ne (ne_of_none hb h)]
  exact e b u hb n
theorem tabs_upd {T : List (Addr × Str)} {H : Hp} {p : Addr} {o o' : HO} (t : Tabs T H) (hp : H p = some o) (h1 : ∀ ps, o ≠ .tbl ps) (h2 : ∀ c q, o ≠ CodeO c q) : Tabs T (upd H p o') := fun q hq => by
  obtain ⟨ps, k1, k2, k3⟩ := t q hq
  refine ⟨ps, by rw [upd_ne (ne_of k1 hp (fun z => h1 _ z.symm))]; exact k1, k2, fun pos cv hc => ?_⟩
  obtain ⟨c, e1, e2⟩ := k3 pos cv hc
  exact ⟨c, e1, by rw [upd_ne (ne_of e2 hp (fun z => h2 _ _ z.symm))]; exact e2⟩
theorem tabs_dK {T : List (Addr × Str)} {H : Hp} {p : Addr} {kvs : List (Key × V)} {o' : HO} (t : Tabs T H) (hp : H p = some (.dK kvs)) : Tabs T (upd H p o') := tabs_upd t hp (fun _ z => by cases z) (fun _ _ z => by unfold CodeO at z; cases z)
theorem tabs_lst {T : List (Addr × Str)} {H : Hp} {p : Addr} {xs : List V} {o' : HO} (t : Tabs T H) (hp : H p = some (.lst xs)) : Tabs T (upd H p o') := tabs_upd t hp (fun _ z => by cases z) (fun _ _ z => by unfold CodeO at z; cases z)
end My
namespace My
open PySem PySem.Spec PyProof.Rows L2 LamX Tr
theorem lc_gen {J : It} {n : Nat} {g : TG} {tt : TT} {te : TE} {vs : List Nat} {σ : L2.St} {H1 : Hp} {D : Addr} {Qd : Hp → Prop} (Pv : Nat → Hp → Prop) (h0 : Pv 0 (upd H1 D (.lst []))) (hgo : ∀ i H, i < n → Pv i H → J.go i H) (hst : ∀ H, Pv n H → J.stop n H)
    (hs : ∀ i x H H2, i < n → Pv i H → J.yld i H x H2 → g x (wipe σ vs) H2 fun σ2 H2 => wipe σ2 vs = wipe σ vs ∧ tt σ2 H2 fun b H3 =>
      if b = true then te σ2 H3 fun y H4 => ∃ acc, H4 D = some (.lst acc) ∧ acc.length < sizeLine ∧ Pv (i + 1) (upd H4 D (.lst (acc ++ [y]))) else Pv (i + 1) H3) (hd : ∀ H, Pv n H → Qd H) :
    ∃ W : Nat → Nat → Hp → Prop, (∃ m, W 0 m (upd H1 D (.lst []))) ∧ ∀ i m H, W i m H →
      (J.stop i H ∧ Qd H) ∨ (J.go i H ∧ ∃ Nx : Hp → Prop, (∀ H', Nx H' → ∃ m', m' < m ∧ W (i + 1) m' H') ∧ ∀ x H', J.yld i H x H' → g x (wipe σ vs) H' fun σ2 H2 => wipe σ2 vs = wipe σ vs ∧ tt σ2 H2 fun b H3 =>
        if b = true then te σ2 H3 fun y H4 => ∃ acc, H4 D = some (.lst acc) ∧ acc.length < sizeLine ∧ Nx (upd H4 D (.lst (acc ++ [y]))) else Nx H3) := by
  refine ⟨fun i m H => m = n - i ∧ i ≤ n ∧ Pv i H, ⟨n, by simp, Nat.zero_le _, h0⟩, ?_⟩
  rintro i m H ⟨rfl, hi, p⟩
  by_cases hlt : i < n
  · exact .inr ⟨hgo i H hlt p, Pv (i + 1), fun H' p' => ⟨n - (i + 1), by omega, rfl, hlt, p'⟩, fun x H' y => hs i x H H' hlt p y⟩
  · have e : i = n := by omega
    subst e
    exact .inl ⟨hst H p, hd H p⟩
theorem for_gen {J : It} {n : Nat} {g : TG} {tb : TS} {D : Ends} {σ : L2.St} {H : Hp} (Pv : Nat → L2.St → Hp → Prop) (h0 : Pv 0 σ H) (hgo : ∀ i σ H, i < n → Pv i σ H → J.go i H) (hst : ∀ σ H, Pv n σ H → J.stop n H)
    (hs : ∀ i x σ H H2, i < n → Pv i σ H → J.yld i H x H2 → g x σ H2 fun σ2 H2 => tb { D with nx := Pv (i + 1), ct := Pv (i + 1), bk := D.nx } σ2 H2) (hd : ∀ σ H, Pv n σ H → D.nx σ H) :
    ∃ W : Nat → Nat → L2.St → Hp → Prop, (∃ m, W 0 m σ H) ∧ ∀ i m σ H, W i m σ H →
      (J.stop i H ∧ D.nx σ H) ∨ (J.go i H ∧ ∃ N : L2.St → Hp → Prop, (∀ σ' H', N σ' H' → ∃ m', m' < m ∧ W (i + 1) m' σ' H') ∧ ∀ x H', J.yld i H x H' → g x σ H' fun σ2 H2 => tb { D with nx := N, ct := N, bk := D.nx } σ2 H2) := by
  refine ⟨fun i m σ H => m = n - i ∧ i ≤ n ∧ Pv i σ H, ⟨n, by simp, Nat.zero_le _, h0⟩, ?_⟩
  rintro i m σ H ⟨rfl, hi, p⟩
  by_cases hlt : i < n
  · exact .inr ⟨hgo i σ H hlt p, Pv (i + 1), fun σ' H' p' => ⟨n - (i + 1), by omega, rfl, hlt, p'⟩, fun x H' y => hs i x σ H H' hlt p y⟩
  · have e : i = n := by omega
    subst e
    exact .inl ⟨hst σ H p, hd σ H p⟩
def chV (z : Str) : List V := z.cps.toList.map fun c => V.str ⟨#[c]⟩
section
variable {K : PySem.W.Frag} {tl : TE} {j : Nat} {z : Str} {f : V → Bool} {v : V → V} {tt : TT} {te : TE} {σ : L2.St} {H : Hp} {Q : VK}
theorem chV_get {i : Nat} {c : Nat} (h : z.cps[i]? = some c) : (chV z)[i]? = some (.str ⟨#[c]⟩) := by
  unfold chV
  rw [List.getElem?_map, Array.getElem?_toList, h]
  rfl
theorem chV_len : (chV z).length = z.length := by simp [chV, Str.length]
theorem tLc_strV (h : ∀ R : VK, R (.str z) H → tl σ H R) (hz : z.length ≤ sizeLine) (hw : ∀ x, wipe ((wipe σ [j]).set j (some x)) [j] = wipe σ [j])
    (ht : ∀ x, x ∈ chV z → ∀ D acc, H D = none → ∀ R : Bool → Hp → Prop, R (f x) (upd H D (.lst acc)) → tt ((wipe σ [j]).set j (some x)) (upd H D (.lst acc)) R)
    (he : ∀ x, x ∈ chV z → f x = true → ∀ D acc, H D = none → ∀ R : VK, R (v x) (upd H D (.lst acc)) → te ((wipe σ [j]).set j (some x)) (upd H D (.lst acc)) R)
    (hQ : ∀ D, H D = none → Q (.ref D) (upd H D (.lst (((chV z).filter f).map v)))) : tLc (iStr tl) (gName j) tt te [j] σ H Q :=
  h _ ⟨z, rfl, fun D hD => lc_gen (n := z.cps.size) (fun i H' => H' = upd H D (.lst ((((chV z).take i).filter f).map v))) rfl (fun i H' hi _ => hi) (fun H' _ => Nat.le_refl _)
    (fun i x H' H2 hi p y => by
      obtain ⟨e, c, hc, rfl⟩ := y
      rw [e, p]
      exact lcV_turn hD (by rw [chV_len]; exact hz) hw ht he (chV_get hc)) (fun H' p => by
      rw [p]
      have e : (chV z).take z.cps.size = chV z := List.take_of_length_le (by rw [chV_len]; exact Nat.le_refl _)
      rw [e]
      exact hQ D hD)⟩
end
/-- no text -/
def NotS (K : PySem.W.Frag) (H : Hp) (v : V) : Prop := ∃ t, TyX K H v (.type t) ∧ kitB t "str" = some false
/-- a text, or no text -/
def Item (K : PySem.W.Frag) (H : Hp) (v : V) : Prop := (∃ z : Str, v = .str z ∧ z.length ≤ 1000) ∨ NotS K H v
/-- no tuple -/
def NotT (K : PySem.W.Frag) (H : Hp) (v : V) : Prop := ∃ t, TyX K H v (.type t) ∧ kitB t "tuple" = some false
def okRow (w : Nat) (sg : Str) : V → Bool
  | .str z => decide (z.length = w) && z.cps.toList.all fun c => decide (c ∈ sg.cps.toList)
  | _ => false
theorem okRow_str {w : Nat} {sg z : Str} : okRow w sg (.str z) = (decide (z.length = w) && z.cps.toList.all fun c => decide (c ∈ sg.cps.toList)) := rfl
theorem filter_tt {α : Type} (l : List α) : l.filter (fun _ => true) = l := List.filter_eq_self.mpr fun _ _ => rfl
theorem ty_str {K : PySem.W.Frag} {H : Hp} {z : Str} {t : String} (h : TyX K H (.str z) (.type t)) : t = "str" := by
  cases h with
  | base b => cases b; rfl
theorem NotS.ok {K : PySem.W.Frag} {H : Hp} {v : V} (h : NotS K H v) {w : Nat} {sg : Str} : okRow w sg v = false := by
  obtain ⟨t, h1, h2⟩ := h
  cases v with
  | str z =>
    rw [ty_str h1] at h2
    exact absurd h2 (by decide +kernel)
  | _ => rfl
theorem tyX_ex {K : PySem.W.Frag} {H H' : Hp} {v : V} {t : Value} (e : Evl.Ex H H') (h : TyX K H v t) : TyX K H' v t := by
  cases h with
  | base b =>
    cases b with
    | non => exact .base .non
    | bl x => exact .base (.bl x)
    | int x => exact .base (.int x)
    | str x => exact .base (.str x)
    | flt x => exact .base (.flt x)
    | lst h => exact .base (.lst (e _ _ h))
    | frz h => exact .base (.frz (e _ _ h))
    | tup h => exact .base (.tup (e _ _ h))
    | dK h => exact .base (.dK (e _ _ h))
    | dT h => exact .base (.dT (e _ _ h))
    | ins h a b c d f => exact .base (.ins (e _ _ h) a b c d f)
  | byt b => exact .byt b
  | set h => exact .set (e _ _ h)
  | kList a b => exact .kList a b
  | kTuple a b => exact .kTuple a b
  | kDict a b => exact .kDict a b
  | fTuple h => exact .fTuple (e _ _ h)
  | fDict h => exact .fDict (e _ _ h)
theorem Item.ex {K : PySem.W.Frag} {H H' : Hp} {v : V} (e : Evl.Ex H H') (h : Item K H v) : Item K H' v := by
  rcases h with h | ⟨t, h1, h2⟩
  · exact .inl h
  · exact .inr ⟨t, tyX_ex e h1, h2⟩
end My
namespace My
open PySem PySem.Spec PyProof.Rows L2
def rIntI : List V → Hp → VK → Prop := fun xs H Q => ∃ i, xs = [.int i] ∧ Q (.int i) H
theorem call_intI {X : Cx} : CallR X (.type "int") rIntI := fun pins s σ H xs us Q I r h => call_int1 pins s σ H xs us Q I r (.inl h)
def rIntB : List V → Hp → VK → Prop := fun xs H Q => ∃ b : Bool, xs = [.bl b] ∧ Q (.int (if b = true then 1 else 0)) H
theorem call_intB {X : Cx} : CallR X (.type "int") rIntB := fun pins s σ H xs us Q I r h => call_int1 pins s σ H xs us Q I r (.inr h)
/-- a list's items, a text's signs -/
def SeqV (K : PySem.W.Frag) (H : Hp) (x : V) (xs : List V) : Prop := (∃ p, x = .ref p ∧ SqL K H p xs) ∨ ∃ z : Str, x = .str z ∧ z.length ≤ sizeLine ∧ xs = chV z
def rIxLS (K : PySem.W.Frag) : R2 := fun x y H Q => ∃ (xs : List V) (i : Nat) (v : V), y = .int i ∧ SeqV K H x xs ∧ xs[i]? = some v ∧ Q v H
theorem ix_ls {X : Cx} : IxR X (rIxLS X.K) := by
  intro value slice pins s σ H x y v u Q I rx ry h hs
  obtain ⟨xs, i, w, rfl, hq, hi, q⟩ := h
  rcases hq with ⟨p, rfl, hq⟩ | ⟨z, rfl, hz, rfl⟩
  · exact ix_list value slice pins s σ H _ _ v u Q I rx ry ⟨p, xs, _, w, rfl, rfl, hq, atI_nat hi, q⟩ hs
  · unfold chV at hi
    rw [List.getElem?_map] at hi
    cases e : z.cps.toList[i]? with
    | none => rw [e] at hi; cases hi
    | some c =>
      rw [e] at hi
      have e2 : V.str ⟨#[c]⟩ = w := Option.some.inj hi
      subst e2
      exact ix_str value slice pins s σ H _ _ v u Q I rx ry ⟨z, _, c, rfl, rfl, hz, atI_nat e, q⟩ hs
theorem SeqV.len {K : PySem.W.Frag} {H : Hp} {x : V} {xs : List V} (h : SeqV K H x xs) : LenV K x H xs.length := by
  rcases h with ⟨p, rfl, hq⟩ | ⟨z, rfl, hz, rfl⟩
  · exact .inl ⟨_, hq, rfl⟩
  · exact ⟨hz, chV_len⟩
end My
namespace My
open PySem PySem.Spec PyProof.Rows L2 LamX Tr
section
variable {K : PySem.W.Frag} {tl : TE} {j : Nat} {a : Addr} {xs : List V} {f : V → Bool} {v : V → V} {tt : TT} {te : TE} {σ : L2.St} {H : Hp} {Q : VK}
/-- the list at D after some turns -/
def LcP (H : Hp) (D : Addr) (f : V → Bool) (v : V → V) (xs : List V) (i : Nat) (H' : Hp) : Prop := Evl.Ex H H' ∧ H' D = some (.lst (((xs.take i).filter f).map v))
theorem lcE_turn {D : Addr} {i : Nat} {x : V} {H' : Hp} (hD : H D = none) (hz : xs.length ≤ sizeLine) (hw : ∀ x, wipe ((wipe σ [j]).set j (some x)) [j] = wipe σ [j])
    (ht : ∀ x, x ∈ xs → ∀ H', Evl.Ex H H' → ∀ R : Bool → Hp → Prop, (∀ H2, Evl.Ex H' H2 → R (f x) H2) → tt ((wipe σ [j]).set j (some x)) H' R)
    (he : ∀ x, x ∈ xs → f x = true → ∀ H', Evl.Ex H H' → ∀ R : VK, (∀ H2, Evl.Ex H' H2 → R (v x) H2) → te ((wipe σ [j]).set j (some x)) H' R)
    (hi : xs[i]? = some x) (p : LcP H D f v xs i H') : gName j x (wipe σ [j]) H' fun σ2 H2 => wipe σ2 [j] = wipe σ [j] ∧ tt σ2 H2 fun b H3 =>
      if b = true then te σ2 H3 fun y H4 => ∃ acc, H4 D = some (.lst acc) ∧ acc.length < sizeLine ∧ LcP H D f v xs (i + 1) (upd H4 D (.lst (acc ++ [y]))) else LcP H D f v xs (i + 1) H3 := by
  have hm := List.mem_of_getElem? hi
  have hlt := (List.getElem?_eq_some_iff.mp hi).1
  have e : xs.take (i + 1) = xs.take i ++ [x] := by rw [List.take_add_one, hi]; rfl
  obtain ⟨p1, p2⟩ := p
  refine ⟨hw x, ht x hm H' p1 _ fun H2 e2 => ?_⟩
  cases hf : f x with
  | true =>
    rw [if_pos rfl]
    refine he x hm hf H2 (p1.trans e2) _ fun H3 e3 => ⟨_, e3 _ _ (e2 _ _ p2), ?_, Evl.Ex.mut ((p1.trans e2).trans e3) hD, ?_⟩
    · rw [List.length_map]
      have h1 := List.length_filter_le f (xs.take i)
      have h2 := List.length_take_le i xs
      omega
    · rw [upd_same, e, List.filter_append, List.map_append]
      simp [hf]
  | false =>
    rw [if_neg (by decide)]
    refine ⟨p1.trans e2, ?_⟩
    rw [e2 _ _ p2, e, List.filter_append]
    simp [hf]
theorem lcE_end {D : Addr} {H' : Hp} (p : LcP H D f v xs xs.length H') : Evl.Ex H H' ∧ H' D = some (.lst ((xs.filter f).map v)) := by
  obtain ⟨p1, p2⟩ := p
  rw [List.take_length] at p2
  exact ⟨p1, p2⟩
theorem tLc_tupE (h : ∀ R : VK, R (.ref a) H → tl σ H R) (hx : SqT K H a xs) (hz : xs.length ≤ sizeLine) (hw : ∀ x, wipe ((wipe σ [j]).set j (some x)) [j] = wipe σ [j])
    (ht : ∀ x, x ∈ xs → ∀ H', Evl.Ex H H' → ∀ R : Bool → Hp → Prop, (∀ H2, Evl.Ex H' H2 → R (f x) H2) → tt ((wipe σ [j]).set j (some x)) H' R)
    (he : ∀ x, x ∈ xs → f x = true → ∀ H', Evl.Ex H H' → ∀ R : VK, (∀ H2, Evl.Ex H' H2 → R (v x) H2) → te ((wipe σ [j]).set j (some x)) H' R)
    (hQ : ∀ D H', H D = none → Evl.Ex H H' → H' D = some (.lst ((xs.filter f).map v)) → Q (.ref D) H') : tLc (iTup K tl) (gName j) tt te [j] σ H Q :=
  h _ ⟨a, rfl, ⟨xs, hx⟩, fun D hD => lc_tup (xs := xs) (LcP H D f v xs) ⟨Evl.Ex.new hD, upd_same⟩ (fun i H' _ p => Evl.ex_t p.1 hx)
    (fun i x H' hi p => lcE_turn hD hz hw ht he hi p) (fun H' p => hQ D H' hD (lcE_end p).1 (lcE_end p).2)⟩
theorem tLc_listE (h : ∀ R : VK, R (.ref a) H → tl σ H R) (hx : SqL K H a xs) (hz : xs.length ≤ sizeLine) (hw : ∀ x, wipe ((wipe σ [j]).set j (some x)) [j] = wipe σ [j])
    (ht : ∀ x, x ∈ xs → ∀ H', Evl.Ex H H' → ∀ R : Bool → Hp → Prop, (∀ H2, Evl.Ex H' H2 → R (f x) H2) → tt ((wipe σ [j]).set j (some x)) H' R)
    (he : ∀ x, x ∈ xs → f x = true → ∀ H', Evl.Ex H H' → ∀ R : VK, (∀ H2, Evl.Ex H' H2 → R (v x) H2) → te ((wipe σ [j]).set j (some x)) H' R)
    (hQ : ∀ D H', H D = none → Evl.Ex H H' → H' D = some (.lst ((xs.filter f).map v)) → Q (.ref D) H') : tLc (iList K tl) (gName j) tt te [j] σ H Q :=
  h _ ⟨a, rfl, ⟨xs, hx⟩, fun D hD => lc_list (xs := xs) (LcP H D f v xs) ⟨Evl.Ex.new hD, upd_same⟩ (fun i H' _ p => Evl.ex_l p.1 hx)
    (fun i x H' hi p => lcE_turn hD hz hw ht he hi p) (fun H' p => hQ D H' hD (lcE_end p).1 (lcE_end p).2)⟩
end
section
variable {P : Program} {w : World} {T : List (Addr × Str)} {C : Addr} {A : TA} {L : Nat} {H H' : Hp} {ts : List Tr.T} {n : Nat}
/-- a list that is none of the store's is written -/
theorem TreesAt.updL (x : TreesAt P w T C A L H ts n) {D : Addr} {xs : List V} {o : HO} (hD : H D = some (.lst xs)) (hm : D ∉ A.muts) : TreesAt P w T C A L (upd H D o) ts n := by
  obtain ⟨kd, h1, h2⟩ := x.kn
  obtain ⟨td, ⟨xs', g1, g2, g3, g4⟩, k2, k3⟩ := x.td
  unfold TA.muts at hm
  simp only [List.mem_cons, List.not_mem_nil, or_false, not_or] at hm
  obtain ⟨m1, m2, m3, m4, m5⟩ := hm
  have keep : ∀ {b : Addr} {u : HO}, H b = some u → b ≠ D → (upd H D o) b = some u := fun e n => by rw [upd_ne n]; exact e
  exact ⟨keep x.ins (ne_of x.ins hD (fun z => by cases z)), keep x.lv (Ne.symm m1), keep x.lw (Ne.symm m2), keep x.hg (Ne.symm m3), ⟨kd, keep h1 (Ne.symm m4), h2⟩,
    ⟨td, ⟨xs', keep g1 (Ne.symm m5), g2, g3, g4.ext fun b ys hb => keep hb (ne_of hb hD (fun z => by cases z))⟩, k2, k3⟩, x.wf, x.ne, tabs_lst x.tab hD⟩
theorem Keep.mut (k : Keep A H H') {D : Addr} {o : HO} (h : H D = none) : Keep A H (upd H' D o) := fun b u hb n m => by
  rw [upd_ne (ne_of_none hb h)]
  exact k b u hb n m
end
end My
namespace My
open PySem PySem.Spec PyProof.Rows L2 LamX Tr
def pV (p : Pa) : V := .str (txt p)
theorem pV_inj {p q : Pa} (h : pV p = pV q) : p = q := by
  unfold pV at h
  injection h with h
  exact txt_inj h
theorem pVs_inj : ∀ {ps qs : List Pa}, ps.map pV = qs.map pV → ps = qs
  | [], [], _ => rfl
  | [], _ :: _, h => by cases h
  | _ :: _, [], h => by cases h
  | p :: ps, q :: qs, h => by
    simp only [List.map_cons, List.cons.injEq] at h
    rw [pV_inj h.1, pVs_inj h.2]
def tdt (ps : List Pa) : List PyData := ps.map fun p => PyData.str (txt p)
theorem dpAll_txt {K : PySem.W.Frag} {H : Hp} : ∀ ps : List Pa, DpAll K H (ps.map pV) (tdt ps)
  | [] => .nil
  | p :: ps => .cons (.str _) (dpAll_txt ps)
theorem strOk_txt (p : Pa) : PyData.strOk (txt p) = true := by
  unfold PyData.strOk txt
  rw [← Array.all_toList]
  simp only [List.all_eq_true, List.mem_map]
  rintro c ⟨o, _, rfl⟩
  cases o with
  | none => decide
  | some b => cases b <;> decide
theorem canLay_txt : ∀ ps : List Pa, PyData.canLayAll0 (tdt ps) = true
  | [] => rfl
  | p :: ps => by
    show (PyData.strOk (txt p) && PyData.canLayAll0 (tdt ps)) = true
    rw [canLay_txt ps, strOk_txt]
    rfl
theorem depth_txt : ∀ ps : List Pa, PyData.depthAll (tdt ps) ≤ 1
  | [] => by show PyData.depthAll [] ≤ 1; decide
  | p :: ps => by
    have := depth_txt ps
    show PyData.depthAll (.str (txt p) :: tdt ps) ≤ 1
    unfold PyData.depthAll
    have : PyData.depth (.str (txt p)) ≤ 1 := by show _ ≤ _; unfold PyData.depth; decide
    omega
theorem eqvAll_txt : ∀ ps qs : List Pa, PyData.eqvAll (tdt ps) (tdt qs) = decide (ps = qs)
  | [], [] => rfl
  | [], _ :: _ => rfl
  | _ :: _, [] => rfl
  | p :: ps, q :: qs => by
    show (PyData.eqv (.str (txt p)) (.str (txt q)) && PyData.eqvAll (tdt ps) (tdt qs)) = _
    rw [eqvAll_txt ps qs]
    show ((txt p == txt q) && decide (ps = qs)) = _
    rw [Bool.eq_iff_iff]
    simp only [Bool.and_eq_true, beq_iff_eq, decide_eq_true_eq, List.cons.injEq]
    exact ⟨fun ⟨a, b⟩ => ⟨txt_inj a, b⟩, fun ⟨a, b⟩ => ⟨by rw [a], b⟩⟩
theorem shaped_txt (ps : List Pa) : SeqAt.shaped (.tuple (tdt ps)) = true := by
  unfold SeqAt.shaped
  rw [Bool.and_eq_true]
  refine ⟨canLay_txt ps, decide_eq_true ?_⟩
  have := depth_txt ps
  show PyData.depth (.tuple (tdt ps)) ≤ 64
  unfold PyData.depth
  omega
theorem eqv_txt (ps qs : List Pa) : PyData.eqv (.tuple (tdt ps)) (.tuple (tdt qs)) = decide (ps = qs) := eqvAll_txt ps qs
end My
namespace My
open PySem PySem.Spec PyProof.Rows L2 LamX Tr
def setOf (ps : List Pa) : R → Bool := fun x => ps.any fun p => fits p x
def decV : V → Pa
  | .str z => unt z
  | _ => []
def isHeads (L : Nat) (xs : List V) : Bool := xs.all (okRow L "01*") && decide ((pl L (setOf (xs.map decV))).map pV = xs)
theorem cps01s : ("01*" : Str).cps.toList = [48, 49, 42] := by decide +kernel
theorem okRow_pa {L : Nat} {v : V} (h : okRow L "01*" v = true) : v = pV (decV v) ∧ (decV v).length = L := by
  cases v with
  | str z =>
    rw [okRow_str, cps01s, Bool.and_eq_true] at h
    obtain ⟨h1, h2⟩ := h
    refine ⟨?_, (unt_len z).trans (of_decide_eq_true h1)⟩
    show V.str z = V.str (txt (unt z))
    rw [txt_unt fun c hc => ?_]
    have := of_decide_eq_true (List.all_eq_true.mp h2 c hc)
    simpa using this
  | _ => cases h
theorem okRow_pV {L : Nat} {p : Pa} (h : p.length = L) : okRow L "01*" (pV p) = true := by
  show okRow L "01*" (.str (txt p)) = true
  rw [okRow_str, cps01s, Bool.and_eq_true]
  refine ⟨decide_eq_true ((txt_len p).trans h), List.all_eq_true.mpr fun c hc => ?_⟩
  unfold txt at hc
  simp only [List.mem_map] at hc
  obtain ⟨o, _, rfl⟩ := hc
  cases o with
  | none => decide
  | some b => cases b <;> decide
theorem decV_pV (p : Pa) : decV (pV p) = p := unt_txt p
theorem items_pa {L : Nat} : ∀ {xs : List V}, xs.all (okRow L "01*") = true → xs = (xs.map decV).map pV ∧ ∀ p, p ∈ xs.map decV → p.length = L
  | [], _ => ⟨rfl, fun p h => by cases h⟩
  | v :: xs, h => by
    rw [List.all_cons, Bool.and_eq_true] at h
    obtain ⟨e1, e2⟩ := okRow_pa h.1
    obtain ⟨i1, i2⟩ := items_pa h.2
    refine ⟨?_, fun p hp => ?_⟩
    · rw [List.map_cons, List.map_cons, ← e1, ← i1]
    · rcases List.mem_cons.mp hp with rfl | hp
      · exact e2
      · exact i2 p hp
theorem dec_map (ps : List Pa) : (ps.map pV).map decV = ps := by
  rw [List.map_map]
  exact (List.map_congr_left fun p _ => decV_pV p).trans (List.map_id ps)
theorem setOf_pl {L : Nat} {S : R → Bool} {x : R} (hx : x.length = L) : setOf (pl L S) x = S x := by
  unfold setOf
  rw [Bool.eq_iff_iff, List.any_eq_true, pl_fits hx]
theorem pl_setOf {L : Nat} {S : R → Bool} : pl L (setOf (pl L S)) = pl L S := pl_congr fun _ hx => setOf_pl hx
theorem isHeads_pl {L : Nat} {S : R → Bool} : isHeads L ((pl L S).map pV) = true := by
  unfold isHeads
  rw [dec_map, pl_setOf, Bool.and_eq_true]
  exact ⟨List.all_eq_true.mpr fun v hv => by
    obtain ⟨p, hp, rfl⟩ := List.mem_map.mp hv
    exact okRow_pV (pl_len hp), decide_eq_true rfl⟩
/-- a tree of patterns has the rows that fit some of them -/
theorem tree_set {L : Nat} {r : Tr.T} {ps : List Pa} (h : ∀ x, ev r x = ps.any fun p => (sgOf 0 p).all fun q => x q.1 == q.2) (hl : ∀ p, p ∈ ps → p.length = L) {x : R} (hx : x.length = L) : Tr.St r 0 x = setOf ps x := by
  unfold Tr.St setOf
  rw [h]
  rw [Bool.eq_iff_iff, List.any_eq_true, List.any_eq_true]
  refine exists_congr fun p => and_congr_right fun hp => ?_
  rw [fits_all (k := 0) ((hl p hp).trans hx.symm)]
theorem pa_set {L : Nat} {r : Tr.T} (ok : Ok L 0 r) {S : R → Bool} (h : ∀ x : R, x.length = L → Tr.St r 0 x = S x) : pa L 0 r = pl L S := (pa_pl ok (Nat.zero_add L)).trans (pl_congr h)
theorem np_set {L : Nat} {r : Tr.T} (ok : Ok L 0 r) {S : R → Bool} (h : ∀ x : R, x.length = L → Tr.St r 0 x = S x) : np r = (pl L S).length := by rw [← pa_set ok h, pa_length ok (Nat.zero_add L)]
/-- how much a store may come to hold -/
def Bud (d : Nat) : Prop := 3 * (4000 * d + 4000 * 2 ^ d) + 4 * (d * 2 ^ d) + 1000 ≤ sizeLine
theorem bud7 : Bud 7 := by unfold Bud; decide
end My
namespace My
open Tr
/-- the parts of few patterns, or of all others -/
def bnd : Nat → Nat → Nat
  | 0, _ => 1
  | _ + 1, 0 => 1
  | k + 1, d + 1 => bnd (k + 1) d + bnd k d
theorem bnd_0 (d : Nat) : bnd 0 d = 1 := by unfold bnd; rfl
theorem bnd_s0 (k : Nat) : bnd (k + 1) 0 = 1 := by unfold bnd; rfl
theorem bnd_ss (k d : Nat) : bnd (k + 1) (d + 1) = bnd (k + 1) d + bnd k d := by conv => lhs; unfold bnd
theorem bnd_pos : ∀ k d : Nat, 1 ≤ bnd k d
  | 0, d => by rw [bnd_0]; exact Nat.le_refl _
  | k + 1, 0 => by rw [bnd_s0]; exact Nat.le_refl _
  | k + 1, d + 1 => by rw [bnd_ss]; exact Nat.le_trans (bnd_pos (k + 1) d) (Nat.le_add_right _ _)
theorem bnd_step : ∀ (k d : Nat), bnd k d ≤ bnd k (d + 1)
  | 0, _ => by rw [bnd_0, bnd_0]; exact Nat.le_refl _
  | k + 1, d => by rw [bnd_ss]; exact Nat.le_add_right _ _
theorem bnd_more : ∀ (k d : Nat), bnd k d ≤ bnd (k + 1) d
  | 0, d => by rw [bnd_0]; exact bnd_pos 1 d
  | k + 1, 0 => by rw [bnd_s0, bnd_s0]; exact Nat.le_refl _
  | k + 1, d + 1 => by
    rw [bnd_ss, bnd_ss]
    have h1 := bnd_more (k + 1) d
    have h2 := bnd_more k d
    omega
theorem bnd_mono {k j : Nat} (h : k ≤ j) (d : Nat) : bnd k d ≤ bnd j d := by
  induction h with
  | refl => exact Nat.le_refl _
  | step _ ih => exact Nat.le_trans ih (bnd_more _ _)
theorem bnd_far {d e : Nat} (h : d ≤ e) (k : Nat) : bnd k d ≤ bnd k e := by
  induction h with
  | refl => exact Nat.le_refl _
  | step _ ih => exact Nat.le_trans ih (bnd_step _ _)
theorem fmap_congr {α β : Type} {f g : α → Option β} : ∀ {l : List α}, (∀ x ∈ l, f x = g x) → l.filterMap f = l.filterMap g
  | [], _ => rfl
  | x :: l, h => by
    rw [List.filterMap_cons, List.filterMap_cons, h x (List.mem_cons_self ..), fmap_congr fun y hy => h y (List.mem_cons_of_mem _ hy)]
/-- what a pattern asks behind the sign c -/
def tlc (c : Bool) (u : Pa) : Option Pa := match u with
  | none :: t => some t
  | some b :: t => if b = c then some t else none
  | [] => none
theorem tlc_set {c : Bool} {us : List Pa} {d : Nat} (h : ∀ u ∈ us, u.length = d + 1) (x : R) : setOf us (c :: x) = setOf (us.filterMap (tlc c)) x := by
  unfold setOf
  induction us with
  | nil => rfl
  | cons u us ih =>
    have ih := ih fun v hv => h v (List.mem_cons_of_mem _ hv)
    rw [List.any_cons, ih]
    match u, h u (List.mem_cons_self ..) with
    | none :: t, _ => rw [List.filterMap_cons]; simp [tlc, fits]
    | some b :: t, _ =>
      by_cases e : b = c
      · rw [List.filterMap_cons]; simp [tlc, fits, e]
      · rw [List.filterMap_cons]; simp [tlc, fits, e]
theorem tlc_len {c : Bool} {us : List Pa} {d : Nat} (h : ∀ u ∈ us, u.length = d + 1) : ∀ u ∈ us.filterMap (tlc c), u.length = d := fun u hu => by
  obtain ⟨v, hv, e⟩ := List.mem_filterMap.mp hu
  have hl := h v hv
  match v, hl, e with
  | none :: t, hl, e =>
    simp only [tlc] at e
    injection e with e
    rw [← e]
    simpa using hl
  | some b :: t, hl, e =>
    simp only [tlc] at e
    split at e
    · injection e with e
      rw [← e]
      simpa using hl
    · cases e
theorem few_bnd (f : Bool → Bool) : ∀ (d k : Nat) (us : List Pa), us.length ≤ k → (∀ u ∈ us, u.length = d) → (pl d fun x => f (setOf us x)).length ≤ bnd k d
  | 0, k, us, hk, hl => by
    refine Nat.le_trans ?_ (bnd_pos k 0)
    unfold pl
    split
    · exact Nat.le_refl _
    · exact Nat.zero_le _
  | d + 1, k, us, hk, hl => by
    have e : ∀ c : Bool, (pl d fun x => f (setOf us (c :: x))) = pl d fun x => f (setOf (us.filterMap (tlc c)) x) := fun c => pl_congr fun x _ => by rw [tlc_set hl]
    have hb : ∀ c : Bool, (us.filterMap (tlc c)).length ≤ k := fun c => Nat.le_trans (List.length_filterMap_le _ _) hk
    have h0 := few_bnd f d k _ (hb false) (tlc_len (c := false) hl)
    have h1 := few_bnd f d k _ (hb true) (tlc_len (c := true) hl)
    unfold pl
    rw [e false, e true]
    split
    · rw [List.length_map]
      exact Nat.le_trans h0 (bnd_step k d)
    · rename_i hne
      rw [List.length_append, List.length_map, List.length_map]
      -- some pattern begins with a sign
      have hs : ∃ (u : Pa) (b : Bool), u ∈ us ∧ tlc (!b) u = none := by
        apply Classical.byContradiction
        intro hno
        apply hne
        have : us.filterMap (tlc false) = us.filterMap (tlc true) := fmap_congr fun u hu => by
          match u, hl u hu with
          | none :: t, _ => rfl
          | some b :: t, _ =>
            refine absurd ⟨_, b, hu, ?_⟩ hno
            cases b <;> rfl
        rw [this]
      obtain ⟨u, b, hu, hn⟩ := hs
      have hlt : (us.filterMap (tlc (!b))).length < us.length := by
        clear e hb h0 h1 hne hk
        induction us with
        | nil => cases hu
        | cons v us ih =>
          rw [List.filterMap_cons]
          rcases List.mem_cons.mp hu with rfl | hu
          · rw [hn]
            exact Nat.lt_succ_of_le (List.length_filterMap_le _ _)
          · have ih := ih (fun w hw => hl w (List.mem_cons_of_mem _ hw)) hu
            split
            · rw [List.length_cons]; omega
            · rw [List.length_cons, List.length_cons]; omega
      cases k with
      | zero => omega
      | succ k =>
        have h2 := few_bnd f d k _ (show (us.filterMap (tlc (!b))).length ≤ k by omega) (tlc_len (c := !b) hl)
        rw [bnd_ss]
        cases b
        · have h2 : (pl d fun x => f (setOf (us.filterMap (tlc true)) x)).length ≤ bnd k d := h2
          omega
        · have h2 : (pl d fun x => f (setOf (us.filterMap (tlc false)) x)).length ≤ bnd k d := h2
          omega
theorem few_16 (f : Bool → Bool) {L : Nat} {us : List Pa} (hL : L ≤ 16) (hk : us.length ≤ 3) (hl : ∀ u ∈ us, u.length = L) : (pl L fun x => f (setOf us x)).length ≤ 4000 :=
  Nat.le_trans (few_bnd f L 3 us hk hl) (Nat.le_trans (bnd_far hL 3) (by decide))
/-- all rows -/
theorem pl_all : ∀ {d : Nat} {S : R → Bool}, (∀ x, x.length = d → S x = true) → pl d S = [List.replicate d none]
  | 0, S, h => by
    unfold pl
    rw [if_pos (h [] rfl)]
    rfl
  | d + 1, S, h => by
    have h0 := pl_all (d := d) (S := fun x => S (false :: x)) fun x hx => h _ (by simp [hx])
    have h1 := pl_all (d := d) (S := fun x => S (true :: x)) fun x hx => h _ (by simp [hx])
    unfold pl
    rw [h0, h1, if_pos rfl]
    rfl
theorem mput_idem : ∀ {m : Pa} {x : R}, m.length = x.length → mput m (mput m x) = mput m x
  | [], [], _ => rfl
  | [], _ :: _, h => by simp at h
  | _ :: _, [], h => by simp at h
  | none :: m, c :: x, h => by
    show c :: mput m (mput m x) = c :: mput m x
    rw [mput_idem (show m.length = x.length by simpa using h)]
  | some b :: m, c :: x, h => by
    show b :: mput m (mput m x) = b :: mput m x
    rw [mput_idem (show m.length = x.length by simpa using h)]
theorem mput_free : ∀ (n : Nat) (x : R), x.length = n → mput (List.replicate n none) x = x
  | 0, [], _ => rfl
  | n + 1, c :: x, h => by
    show c :: mput (List.replicate n none) x = c :: x
    rw [mput_free n x (by simpa using h)]
/-- into, before: by a mask -/
def into (L : Nat) (m : Pa) (S : R → Bool) : R → Bool := fun x => (allR L).any fun y => S y && decide (mput m y = x)
def befo (m : Pa) (S : R → Bool) : R → Bool := fun x => S (mput m x)
theorem into_iff {L : Nat} {m : Pa} {S : R → Bool} {x : R} : into L m S x = true ↔ ∃ y : R, y.length = L ∧ S y = true ∧ mput m y = x := by
  unfold into
  rw [List.any_eq_true]
  constructor
  · rintro ⟨y, hy, h⟩
    rw [Bool.and_eq_true, decide_eq_true_iff] at h
    exact ⟨y, mem_allR.mp hy, h⟩
  · rintro ⟨y, hy, h⟩
    exact ⟨y, mem_allR.mpr hy, by rw [Bool.and_eq_true, decide_eq_true_iff]; exact h⟩
section
variable {L : Nat} {m : Pa} {S S1 S2 : R → Bool} {x : R}
theorem into_of (hx : x.length = L) (h : S x = true) : into L m S (mput m x) = true := into_iff.mpr ⟨x, hx, h, rfl⟩
theorem into_into (hm : m.length = L) : into L m (into L m S) x = into L m S x := by
  rw [Bool.eq_iff_iff, into_iff, into_iff]
  constructor
  · rintro ⟨y, hy, h, rfl⟩
    obtain ⟨z, hz, h2, rfl⟩ := into_iff.mp h
    exact ⟨z, hz, h2, (mput_idem (hm.trans hz.symm)).symm⟩
  · rintro ⟨y, hy, h, rfl⟩
    exact ⟨mput m y, (mput_len (hm.trans hy.symm)).trans hy, into_of hy h, mput_idem (hm.trans hy.symm)⟩
theorem into_befo : (into L m (befo m S) x && S x) = into L m (befo m S) x := by
  cases h : into L m (befo m S) x with
  | false => rfl
  | true =>
    obtain ⟨y, _, h2, rfl⟩ := into_iff.mp h
    exact h2
theorem befo_into (hx : x.length = L) : (befo m (into L m S) x && S x) = S x := by
  cases h : S x with
  | false => exact Bool.and_false _
  | true =>
    rw [Bool.and_true]
    exact into_of hx h
theorem befo_befo (hm : m.length = x.length) : befo m (befo m S) x = befo m S x := by
  unfold befo
  rw [mput_idem hm]
theorem into_or : into L m (fun x => S1 x || S2 x) x = (into L m S1 x || into L m S2 x) := by
  rw [Bool.eq_iff_iff, Bool.or_eq_true, into_iff, into_iff, into_iff]
  constructor
  · rintro ⟨y, hy, h, e⟩
    rcases Bool.or_eq_true_iff.mp h with h | h
    · exact .inl ⟨y, hy, h, e⟩
    · exact .inr ⟨y, hy, h, e⟩
  · rintro (⟨y, hy, h, e⟩ | ⟨y, hy, h, e⟩)
    · exact ⟨y, hy, by rw [h, Bool.true_or], e⟩
    · exact ⟨y, hy, by rw [h, Bool.or_true], e⟩
theorem into_free (hx : x.length = L) : into L (List.replicate L none) S x = S x := by
  rw [Bool.eq_iff_iff, into_iff]
  constructor
  · rintro ⟨y, hy, h, rfl⟩
    rw [mput_free L y hy]
    exact h
  · intro h
    exact ⟨x, hx, h, mput_free L x hx⟩
end
theorem count_two (S1 S2 : R → Bool) : ∀ xs : List R, (xs.filter S1).length + (xs.filter S2).length = (xs.filter fun x => S1 x && S2 x).length + (xs.filter fun x => S1 x || S2 x).length
  | [] => rfl
  | x :: xs => by
    have ih := count_two S1 S2 xs
    simp only [List.filter_cons]
    cases S1 x <;> cases S2 x <;> simp <;> omega
end My
namespace My
open PySem PySem.Spec PyProof.Rows L2
def ForB (J : It) (g : TG) (tb : TS) (D : Ends) (σ : L2.St) (H1 : Hp) : Prop := ∃ W : Nat → Nat → L2.St → Hp → Prop, (∃ m, W 0 m σ H1) ∧ ∀ i m σ H, W i m σ H →
  (J.stop i H ∧ D.nx σ H) ∨ (J.go i H ∧ ∃ N : L2.St → Hp → Prop, (∀ σ' H', N σ' H' → ∃ m', m' < m ∧ W (i + 1) m' σ' H') ∧ ∀ x H', J.yld i H x H' → g x σ H' fun σ2 H2 => tb { D with nx := N, ct := N, bk := D.nx } σ2 H2)
theorem tFor_eq {wi : TI} {g : TG} {tb : TS} {D : Ends} {σ : L2.St} {H : Hp} : L2.tFor wi g tb D σ H = wi σ H fun J H1 => ForB J g tb D σ H1 := rfl
theorem forB_range {lo : Int} {n : Nat} {g : TG} {tb : TS} {D : Ends} {σ : L2.St} {H : Hp} (Pv : Nat → L2.St → Hp → Prop) (h0 : Pv 0 σ H)
    (hs : ∀ i σ H, i < n → Pv i σ H → g (.int (lo + i)) σ H fun σ2 H2 => tb { D with nx := Pv (i + 1), ct := Pv (i + 1), bk := D.nx } σ2 H2) (hd : ∀ σ H, Pv n σ H → D.nx σ H) : ForB (Itr lo n) g tb D σ H := for_range Pv h0 hs hd
theorem forB_list {K : PySem.W.Frag} {a : Addr} {xs : List V} {g : TG} {tb : TS} {D : Ends} {σ : L2.St} {H : Hp} (Pv : Nat → L2.St → Hp → Prop) (h0 : Pv 0 σ H) (hl : ∀ i σ H, i ≤ xs.length → Pv i σ H → SqL K H a xs)
    (hs : ∀ i x σ H, xs[i]? = some x → Pv i σ H → g x σ H fun σ2 H2 => tb { D with nx := Pv (i + 1), ct := Pv (i + 1), bk := D.nx } σ2 H2) (hd : ∀ σ H, Pv xs.length σ H → D.nx σ H) : ForB (Itl K a) g tb D σ H := for_list Pv h0 hl hs hd
theorem forB_gen {J : It} {n : Nat} {g : TG} {tb : TS} {D : Ends} {σ : L2.St} {H : Hp} (Pv : Nat → L2.St → Hp → Prop) (h0 : Pv 0 σ H) (hgo : ∀ i σ H, i < n → Pv i σ H → J.go i H) (hst : ∀ σ H, Pv n σ H → J.stop n H)
    (hs : ∀ i x σ H H2, i < n → Pv i σ H → J.yld i H x H2 → g x σ H2 fun σ2 H2 => tb { D with nx := Pv (i + 1), ct := Pv (i + 1), bk := D.nx } σ2 H2) (hd : ∀ σ H, Pv n σ H → D.nx σ H) : ForB J g tb D σ H := for_gen Pv h0 hgo hst hs hd
end My
namespace My
open PySem PySem.Spec PyProof.Rows L2
/-- y in x says b -/
def HasB (K : PySem.W.Frag) (H : Hp) (x y : V) (b : Bool) : Prop := (∃ a kvs k, x = .ref a ∧ Rd H a (.dK kvs) ∧ y = kV k ∧ b = (valV kvs k).isSome) ∨ ∃ p xs, x = .ref p ∧ SqL K H p xs ∧ flatV y = true ∧ xs.all flatV = true ∧ b = inV y xs
def rInDL (K : PySem.W.Frag) : R2 := fun y x H Q => ∃ b, HasB K H x y b ∧ Q (.bl b) H
theorem op_in_dl {X : Cx} (hu : X.A.units + 1 < cLine) : OpR X (compareOp .In) (rInDL X.K) := by
  intro pins s σ H y x v u Q I ry rx h
  obtain ⟨b, h, q⟩ := h
  rcases h with ⟨a, kvs, k, rfl, hr, rfl, rfl⟩ | ⟨p, xs, rfl, hq, h1, h2, rfl⟩
  · obtain rfl : u = Value.ref a := rx
    exact d_in hu I (.inl ⟨kvs, k, hr, rfl, rfl⟩) ry fun s3 I3 => ⟨.bl _, H, I3, rfl, q⟩
  · exact op_in_seq pins s σ H _ _ v u Q I ry rx ⟨p, xs, rfl, .inl hq, h1, h2, q⟩
end My
namespace My
open PySem PySem.Spec PyProof.Rows L2 LamX Tr
def LcB (J : It) (g : TG) (tt : TT) (te : TE) (vs : List Nat) (σ : L2.St) (H1 : Hp) (Q : VK) : Prop := tLc (fun _ H R => R J H) g tt te vs σ H1 Q
theorem tLc_eq {wi : TI} {g : TG} {tt : TT} {te : TE} {vs : List Nat} {σ : L2.St} {H : Hp} {Q : VK} : tLc wi g tt te vs σ H Q = wi σ H fun J H1 => LcB J g tt te vs σ H1 Q := rfl
theorem paired_snoc {α β : Type} {F : α → β → Prop} : ∀ {xs : List α} {ys : List β} {x : α} {y : β}, Paired F xs ys → F x y → Paired F (xs ++ [x]) (ys ++ [y])
  | _, _, _, _, .nil, h => .cons h .nil
  | _, _, _, _, .cons h t, h2 => .cons h (paired_snoc t h2)
/-- all but the object at D stays -/
def Ex1 (D : Addr) (H H' : Hp) : Prop := ∀ b o, b ≠ D → H b = some o → H' b = some o
theorem lcB_listN {K : PySem.W.Frag} {j : Nat} {a : Addr} {xs : List V} {f : V → Bool} {tt : TT} {te : TE} {σ : L2.St} {H : Hp} {Q : VK} (G : Addr → V → V → Hp → Prop) (hG : ∀ D x y H1 H2, Ex1 D H1 H2 → G D x y H1 → G D x y H2)
    (hx : SqL K H a xs) (hz : xs.length ≤ sizeLine) (hw : ∀ x, wipe ((wipe σ [j]).set j (some x)) [j] = wipe σ [j])
    (ht : ∀ x, x ∈ xs → ∀ H', Evl.Ex H H' → ∀ R : Bool → Hp → Prop, (∀ H2, Evl.Ex H' H2 → R (f x) H2) → tt ((wipe σ [j]).set j (some x)) H' R)
    (he : ∀ x, x ∈ xs → f x = true → ∀ D H', H D = none → (∃ acc, H' D = some (.lst acc)) → Evl.Ex H H' → ∀ R : VK, (∀ y H2, Evl.Ex H' H2 → G D x y H2 → R y H2) → te ((wipe σ [j]).set j (some x)) H' R)
    (hQ : ∀ D H' ys, H D = none → Evl.Ex H H' → H' D = some (.lst ys) → Paired (fun x y => G D x y H') (xs.filter f) ys → Q (.ref D) H') : LcB (Itl K a) (gName j) tt te [j] σ H Q := fun D hD =>
  lc_list (xs := xs) (fun i H' => Evl.Ex H H' ∧ ∃ ys, H' D = some (.lst ys) ∧ ys.length ≤ i ∧ Paired (fun x y => G D x y H') ((xs.take i).filter f) ys) ⟨Evl.Ex.new hD, [], upd_same, Nat.le_refl _, .nil⟩ (fun i H' _ p => Evl.ex_l p.1 hx) (fun i x H' hi p => by
    have hm := List.mem_of_getElem? hi
    have hlt := (List.getElem?_eq_some_iff.mp hi).1
    have e : xs.take (i + 1) = xs.take i ++ [x] := by rw [List.take_add_one, hi]; rfl
    obtain ⟨p1, ys, p2, pl, p3⟩ := p
    refine ⟨hw x, ht x hm H' p1 _ fun H2 e2 => ?_⟩
    cases hf : f x with
    | true =>
      rw [if_pos rfl]
      refine he x hm hf D H2 hD ⟨ys, e2 _ _ p2⟩ (p1.trans e2) _ fun y H3 e3 g3 => ⟨ys, e3 _ _ (e2 _ _ p2), by omega, Evl.Ex.mut ((p1.trans e2).trans e3) hD, ys ++ [y], upd_same, by simp; omega, ?_⟩
      rw [e, List.filter_append, show [x].filter f = [x] by simp [hf]]
      refine paired_snoc (L2.Paired.mapP p3 fun a b g => hG D a b H' _ (fun c o n h => by rw [upd_ne n]; exact e3 _ _ (e2 _ _ h)) g) (hG D x y H3 _ (fun c o n h => by rw [upd_ne n]; exact h) g3)
    | false =>
      rw [if_neg (by decide)]
      refine ⟨p1.trans e2, ys, e2 _ _ p2, by omega, ?_⟩
      rw [e, List.filter_append, show [x].filter f = [] by simp [hf], List.append_nil]
      exact L2.Paired.mapP p3 fun a b g => hG D a b H' _ (fun c o n h => e2 _ _ h) g) (fun H' p => by
    obtain ⟨p1, ys, p2, _, p3⟩ := p
    rw [List.take_length] at p3
    exact hQ D H' ys hD p1 p2 p3)
end My
namespace HT
open PySem PySem.Spec PyProof.Rows
section
variable {prog : Program} {w : World} {A : Around} {E : Value → Shared → Prop} {s : Shared}
theorem sliceApplied_back {sl : Addr} {vl vu vs : Value} {n : Nat} {Q : Int × Int × Nat → Shared → Prop} (hs : s.heap.IsSliceOf sl vl vu vs) (pl : IsPart vl none) (pu : IsPart vu none) (ps : IsPart vs (some (-1)))
    (h : Q ((n : Int) - 1, -1, n) s) : wpAny (model prog w) A (Builtin.Slice.sliceApplied (.ref sl) (pure (n : Int))) Q E s := by
  obtain ⟨os, hos, hcs, hds⟩ := id hs
  unfold Builtin.Slice.sliceApplied Builtin.Slice.sliceFields
  refine wpAny_bind (wpAny_bind (wpAny_field hos hds (x := vl) rfl (wpAny_bind (wpAny_field hos hds (x := vu) rfl (wpAny_bind (wpAny_field hos hds (x := vs) rfl (wpAny_pure ?_)))))))
  refine wpAny_bind (slicePart_ ps ?_)
  show wpAny _ _ (if ((-1 : Int) == 0) = true then _ else _) _ _ s
  rw [if_neg (by decide)]
  refine wpAny_bind (slicePart_ pl (wpAny_bind (slicePart_ pu (wpAny_bind (wpAny_pure ?_)))))
  show wpAny _ _ (match Builtin.Slice.sliceAdjust none none (-1) (n : Int) with | (lo, hi) => pure (lo, (-1 : Int), Builtin.Slice.slicePlaces lo hi (-1))) _ _ s
  have e1 : Builtin.Slice.sliceAdjust none none (-1) (n : Int) = ((n : Int) - 1, -1) := by
    unfold Builtin.Slice.sliceAdjust
    simp
  rw [e1]
  have e2 : Builtin.Slice.slicePlaces ((n : Int) - 1) (-1) (-1) = n := by
    unfold Builtin.Slice.slicePlaces
    simp
    omega
  show wpAny _ _ (pure ((n : Int) - 1, (-1 : Int), Builtin.Slice.slicePlaces ((n : Int) - 1) (-1) (-1))) _ _ s
  rw [e2]
  exact wpAny_pure h
theorem filt_all {α : Type} : ∀ l : List α, (List.range l.length).filterMap (fun m => l[m]?) = l
  | [] => rfl
  | a :: l => by
    rw [List.length_cons, List.range_succ_eq_map, List.filterMap_cons]
    show a :: List.filterMap _ (List.map _ _) = _
    rw [List.filterMap_map]
    exact congrArg (a :: ·) (filt_all l)
theorem fm_congr {α β : Type} {f g : α → Option β} : ∀ {l : List α}, (∀ x ∈ l, f x = g x) → l.filterMap f = l.filterMap g
  | [], _ => rfl
  | a :: l, h => by rw [List.filterMap_cons, List.filterMap_cons, h a (List.mem_cons_self ..), fm_congr fun x hx => h x (List.mem_cons_of_mem _ hx)]
theorem pick_back (xs : Array Value) : ((List.range xs.size).filterMap fun (m : Nat) => xs[((xs.size : Int) - 1 + (m : Int) * -1).toNat]?).toArray = xs.toList.reverse.toArray := by
  congr 1
  have e : (List.range xs.size).filterMap (fun (m : Nat) => xs[((xs.size : Int) - 1 + (m : Int) * -1).toNat]?) = (List.range xs.toList.reverse.length).filterMap (fun m => xs.toList.reverse[m]?) := by
    rw [List.length_reverse, Array.length_toList]
    refine fm_congr fun m hm => ?_
    have hm := List.mem_range.mp hm
    rw [List.getElem?_reverse (by simpa using hm), show ((xs.size : Int) - 1 + (m : Int) * -1).toNat = xs.size - 1 - m by omega, Array.length_toList, Array.getElem?_toList]
  rw [e, filt_all]
theorem getItem_tuple_back {t sl : Addr} {items : Array Value} {vl vu vs : Value} {Q : Value → Shared → Prop} (ht : IsTup s.heap t items) (hs : s.heap.IsSliceOf sl vl vu vs) (pl : IsPart vl none) (pu : IsPart vu none) (ps : IsPart vs (some (-1)))
    (h : Q (.ref s.heap.objs.size) { s with heap := s.heap.push { cls := .type "tuple", data := .seq items.toList.reverse.toArray } })
    (hsz : items.size ≤ sizeLine) : wpAny (model prog w) A (getItem (.ref t) (.ref sl)) Q E s := by
  have htake : sizeOk (.seq items.toList.reverse.toArray) := by
    show items.toList.reverse.toArray.size ≤ sizeLine
    rw [List.size_toArray, List.length_reverse, Array.length_toList]
    exact hsz
  obtain ⟨os, hos, hcs, hds⟩ := id hs
  have hTs : s.TypeIs (.ref sl) "slice" := ⟨os, hos, hcs⟩
  unfold getItem
  try with_reducible refine wpAny_holding ?_
  first | refine wpAny_bind (wpAny_pure ?_) | skip
  refine wpAny_bind (wpAny_sequenceKey ht.typeIs (by decide) ?_)
  refine wpAny_bind (wpAny_callSpecial?_slot (name := Str.ofString "__getitem__") ht.typeIs PyProof.Rows.slot_tuple_getitem
    (wpAny_call_entry PyProof.Rows.slot_tuple_getitem ht.typeIs entry_tuple_getitem ?_ (args_tuple_getitem _ _)))
  show wpAny _ _ (Builtin.Tuple.tupleItemsOf (.ref t) >>= _) _ _ s
  refine wpAny_bind (tupleItemsOf_ ht ?_)
  refine wpAny_bind (wpAny_typeOf hTs ?_)
  rw [if_pos (by decide)]
  refine wpAny_bind (sliceApplied_back hs pl pu ps ?_)
  have hno : ¬ ((((items.size : Int) - 1) == 0 && (-1 : Int) == 1 && items.size == items.size) = true) := by
    intro q
    rw [Bool.and_eq_true, Bool.and_eq_true] at q
    exact absurd q.1.2 (by decide)
  show wpAny _ _ (if (((items.size : Int) - 1) == 0 && (-1 : Int) == 1 && items.size == items.size) = true then _ else _) _ _ s
  rw [if_neg hno, pick_back]
  first
    | exact wpAny_bind (m := Builtin.Tuple.tupleExact _) (wpAny_newObj_type (wpAny_pure ⟨_, rfl, wpAny_pure h⟩) htake)
    | exact wpAny_bind (m := Builtin.Tuple.tupleExact _) (wpAny_newObj_type (wpAny_bind (wpAny_pure (wpAny_pure ⟨_, rfl, wpAny_pure h⟩))) htake)
    | exact wpAny_bind (wpAny_bind (m := Builtin.Tuple.tupleExact _) (wpAny_newObj_type (wpAny_pure (wpAny_pure ⟨_, rfl, wpAny_pure h⟩)) htake))
    | exact wpAny_bind (wpAny_bind (m := Builtin.Tuple.tupleExact _) (wpAny_newObj_type (wpAny_pure ⟨_, rfl, wpAny_pure h⟩) htake))
end
end HT
namespace My
open PySem PySem.Spec PyProof.Rows L2
def tRevT (K : PySem.W.Frag) (te : TE) : TE := fun σ H Q => te σ H fun x H1 => ∃ a xs, x = .ref a ∧ SqT K H1 a xs ∧ ∀ p, H1 p = none → Q (.ref p) (upd H1 p (.tup xs.reverse))
theorem pe_revT {X : Cx} {e : Expr} {te : TE} {k : Nat} {p1 p2 p3 pos : Pos} (he : PE X e te) : PE X (.Subscript e (.Slice none none (some (.UnaryOp .USub (.Constant (.int 1) k p1) p2)) p3) pos) (tRevT X.K te) := by
  refine ⟨fun pins s σ H Q I h => ?_⟩
  refine Subscript_ (thn (he.run pins s σ H _ I h) fun v s1 ⟨x, H1, I1, r1, q1⟩ => ?_)
  obtain ⟨a, xs, ex, hx, q⟩ := q1
  subst ex
  cases r1
  have hst : PO X (some (.UnaryOp .USub (.Constant (.int 1) k p1) p2)) (tPart (tUn (rU fun i => .int (-i)) (tC (.int 1)))) := po_some (pe_un un_neg pe_int)
  refine wpAny_Slice (thn (po_none.run pins s1 σ H1 (fun o H2 => o = none ∧ H2 = H1) I1 ⟨rfl, rfl⟩) fun vl s2 ⟨l, H2, I2, pl, el, e2⟩ => ?_)
  subst el e2
  refine thn (po_none.run pins s2 σ H2 (fun o H3 => o = none ∧ H3 = H2) I2 ⟨rfl, rfl⟩) fun vu s3 ⟨u, H3, I3, pu, eu, e3⟩ => ?_
  subst eu e3
  refine thn (hst.run pins s3 σ H3 (fun o H4 => o = some (-1) ∧ H4 = H3) I3 ⟨1, rfl, -1, rfl, rfl, rfl⟩) fun vs s4 ⟨o, H4, I4, ps, eo, e4⟩ => ?_
  subst eo e4
  have I5 : Inv X pins σ H4 { s4 with heap := s4.heap.push { cls := .type "slice", data := .fields #[vl, vu, vs] } } := I4.kept (t' := s4.toks) fun b ob q => Heap.get?_push_of_some _ q
  obtain ⟨its, r, ht, hz⟩ := I5.tuple hx
  have hlen := r.length
  show wpAny (model X.prog X.w) X.A (subscriptTail e (.Slice none none (some (.UnaryOp .USub (.Constant (.int 1) k p1) p2)) p3) (.ref a) (.ref s4.heap.objs.size)) (EP X pins σ Q) X.xe { s4 with heap := s4.heap.push { cls := .type "slice", data := .fields #[vl, vu, vs] } }
  refine tail_any (ops := [.ref a, .ref s4.heap.objs.size]) ht.typeIs (PyProof.Rows.slot_tuple_getitem.lookup) ?_ (by with_unfolding_all rfl)
  refine HT.getItem_tuple_back ht (Heap.IsSliceOf.new _ vl vu vs) pl pu ps ?_ (by rw [List.size_toArray]; omega)
  refine ⟨.ref _, _, I5.laid (t' := s4.toks) (o := .tup xs.reverse) (fun b ob q => Heap.get?_push_of_some _ q) (Nat.le_refl _) ?_, rfl, q _ (I5.hok.fresh (Nat.le_refl _))⟩
  exact ⟨by rw [List.length_reverse]; omega, _, r.reverse, IsTup.new _ _⟩
end My
namespace My
open PySem PySem.Spec PyProof.Rows L2 LamX Tr
mutual
theorem dp_ex {K : PySem.W.Frag} {H H' : Hp} (e : Evl.Ex H H') : ∀ (d : PyData) (v : V), Dp K H v d → Dp K H' v d
  | .none, _, h => by cases h; exact .non
  | .bool _, _, h => by cases h; exact .bl _
  | .int _, _, h => by cases h; exact .int _
  | .str _, _, h => by cases h; exact .str _
  | .list ds, _, h => by
    cases h with
    | lst h1 h2 => exact .lst (Evl.ex_l e h1) (dps_ex e ds _ h2)
  | .tuple ds, _, h => by
    cases h with
    | tup h1 h2 => exact .tup (Evl.ex_t e h1) (dps_ex e ds _ h2)
  | .dict _, _, h => by cases h
theorem dps_ex {K : PySem.W.Frag} {H H' : Hp} (e : Evl.Ex H H') : ∀ (ds : List PyData) (vs : List V), DpAll K H vs ds → DpAll K H' vs ds
  | [], _, h => by cases h; exact .nil
  | d :: ds, _, h => by
    cases h with
    | cons h1 h2 => exact .cons (dp_ex e d _ h1) (dps_ex e ds _ h2)
end
theorem ds_ex {H H' : Hp} (e : Evl.Ex H H') {v : V} {d : PyData} (h : Ds H v d) : Ds H' v d := by
  cases h with
  | non => exact .non
  | int i => exact .int i
  | str x => exact .str x
  | dict h => exact .dict (e _ _ h)
theorem dsAll_ex {H H' : Hp} (e : Evl.Ex H H') : ∀ {vs : List V} {ds : List PyData}, DsAll H vs ds → DsAll H' vs ds
  | _, _, .nil => .nil
  | _, _, .cons h t => .cons (ds_ex e h) (dsAll_ex e t)
theorem Shw.ex {K : PySem.W.Frag} {H H' : Hp} {v : V} {d : PyData} (e : Evl.Ex H H') (h : Shw K H v d) : Shw K H' v d := by
  obtain ⟨h | ⟨a, ys, ds, rfl, h1, h2, rfl⟩, r⟩ := h
  · exact ⟨.inl (dp_ex e d v h), r⟩
  · exact ⟨.inr ⟨a, ys, ds, rfl, Evl.ex_t e h1, dsAll_ex e h2, rfl⟩, r⟩
def Good (K : PySem.W.Frag) (H : Hp) (v : V) : Prop := (∃ d, Shw K H v d) ∧ (NotT K H v ∨ ∃ q xs, v = .ref q ∧ H q = some (.tup xs) ∧ xs.length ≤ 1000 ∧ ∀ x, x ∈ xs → Item K H x)
theorem Good.ex {K : PySem.W.Frag} {H H' : Hp} {v : V} (e : Evl.Ex H H') (h : Good K H v) : Good K H' v := by
  obtain ⟨⟨d, hd⟩, h | ⟨q, xs, rfl, h1, h2, h3⟩⟩ := h
  · obtain ⟨t, h1, h2⟩ := h
    exact ⟨⟨d, hd.ex e⟩, .inl ⟨t, tyX_ex e h1, h2⟩⟩
  · exact ⟨⟨d, hd.ex e⟩, .inr ⟨q, xs, rfl, e _ _ h1, h2, fun x hx => (h3 x hx).ex e⟩⟩
/-- the heap without p and D, and without tables -/
def cut (p D : Addr) (H : Hp) : Hp := fun b => if b = p ∨ b = D then none else match H b with
  | some (.tbl _) => none
  | o => o
theorem cut_iff {p D b : Addr} {o : HO} {H : Hp} : cut p D H b = some o ↔ H b = some o ∧ b ≠ p ∧ b ≠ D ∧ ∀ ps, o ≠ .tbl ps := by
  unfold cut
  by_cases h : b = p ∨ b = D
  · rw [if_pos h]
    exact ⟨fun z => (by cases z), fun ⟨_, h1, h2, _⟩ => absurd h (by rintro (z | z); exact h1 z; exact h2 z)⟩
  · rw [if_neg h]
    have h1 : b ≠ p := fun z => h (.inl z)
    have h2 : b ≠ D := fun z => h (.inr z)
    cases hb : H b with
    | none => exact ⟨fun z => (by cases z), fun ⟨z, _⟩ => (by cases z)⟩
    | some u =>
      constructor
      · intro z
        cases u with
        | tbl ps => cases z
        | _ => cases z; exact ⟨rfl, h1, h2, fun ps z => (by cases z)⟩
      · rintro ⟨z, _, _, n⟩
        cases z
        cases o with
        | tbl ps => exact absurd rfl (n ps)
        | _ => rfl
theorem cut_ex {p D : Addr} {H : Hp} : Evl.Ex (cut p D H) H := fun b o h => (cut_iff.mp h).1
theorem cut_get {p D b : Addr} {o : HO} {H : Hp} (h : H b = some o) (h1 : b ≠ p) (h2 : b ≠ D) (h3 : ∀ ps, o ≠ .tbl ps) : cut p D H b = some o := cut_iff.mpr ⟨h, h1, h2, h3⟩
end My
namespace My
open PySem PySem.Spec PyProof.Rows L2 LamX Tr
def rNeK0 : R2 := fun x y H Q => ∃ a b ks, x = .ref a ∧ y = .ref b ∧ H a = some (.dK ks) ∧ H b = some (.dK []) ∧ Q (.bl (!ks.isEmpty)) H
theorem op_neK0 {X : Cx} (hu : X.A.units < cLine) : OpR X (compareOp .NotEq) rNeK0 := by
  intro pins s σ H x y v u Q I rx ry h
  obtain ⟨a, b, ks, rfl, rfl, ea, eb, q⟩ := h
  obtain rfl : v = Value.ref a := rx
  obtain rfl : u = Value.ref b := ry
  obtain ⟨_, ya, va, ra, da⟩ := (show ObjOk X.prog X.w H s.heap a (.dK ks) from I.hok a _ ea)
  obtain ⟨_, yb, vb, rb, db⟩ := (show ObjOk X.prog X.w H s.heap b (.dK []) from I.hok b _ eb)
  have hb : vb = [] := by
    cases vb with
    | nil => rfl
    | cons p r => cases rb
  subst hb
  refine PySem.W.keq_ne (knd := mixKind X.prog X.w) (r := true) ya yb da db hu (fun e => ?_) (fin_bl I q ?_)
  · have : va = [] := List.length_eq_zero_iff.mp e
    subst this
    exact .nil
  · cases ra with
    | nil => rfl
    | cons _ _ => rfl
def rSortedDS : List V → Hp → VK → Prop := fun xs H Q => ∃ (a : Addr) (kvs : List (Key × V)) (ks : List Str), xs = [.ref a] ∧ Rd H a (.dK kvs) ∧ kvs.map (·.1) = ks.map Sum.inr ∧ ks.length ≤ sizeLine ∧
    ∀ ys p, ys.Perm ks → sortedS ys = true → H p = none → Q (.ref p) (upd H p (.lst (ys.map V.str)))
theorem call_sortedDS {X : Cx} (hcalm : X.calm = true) : CallR X (.builtin "sorted") rSortedDS := by
  intro pins s σ H xs us Q I r h
  obtain ⟨a, kvs, ks, rfl, hd, hks, hz, q⟩ := h
  obtain rfl := Vals.ref1 r
  obtain ⟨z, lo, vs, rel, dd⟩ := dk_rd I.hok hd
  obtain ⟨ep, hat⟩ := dd.dictAt
  have hkeys : vs.map (·.1) = ks.map Sum.inr := rel.keys.symm.trans hks
  have hl : vs.length = ks.length := by
    have e := congrArg List.length hkeys
    rw [List.length_map, List.length_map] at e
    exact e
  refine Calls.call_function_entry PyProof.Rows.kind_sorted PyProof.Rows.plain_sorted PyProof.Rows.entry_sorted (PyProof.Rows.args_sorted1 _) ?_
  unfold Builtin.«sorted»
  refine wpAny_bind (m := checkCount "sorted" 1 1 _) (wpAny_pure ?_)
  refine wpAny_bind (PySem.W.kdu_collect (A := X.A.in1) (PySem.W.kdl_dict (knd := mixKind X.prog X.w) (kvs := vs) (ep := ep) lo) (I.ok.hd hcalm) hat (by rw [hl]; exact hz) fun h' tk acc hk hacc => ?_)
  have hal : acc.toList.length = ks.length := by rw [Array.length_toList, hacc.1, hl]
  have hS : StrsAre acc.toList ks := strs_at hal fun j v e => by
    obtain ⟨k, x, e1, e2⟩ := hacc.2 j v (by rw [← Array.getElem?_toList]; exact e)
    have e3 : (vs.map (·.1))[j]? = some k := by rw [List.getElem?_map, e1]; rfl
    rw [hkeys, List.getElem?_map] at e3
    cases e4 : ks[j]? with
    | none => rw [e4] at e3; cases e3
    | some y =>
      rw [e4] at e3
      have e5 : Sum.inr y = k := Option.some.inj e3
      subst e5
      obtain ⟨t, ev⟩ := Value.isStrOf_shape (x := y) (v := v) e2
      exact ⟨y, t, rfl, ev⟩
  have I1 : Inv X pins σ H { s with heap := h', toks := tk } := I.kept hk
  refine wpAny_bind (wpAny_newList ?_ (by rw [hal]; exact hz))
  have hoL : (h'.push (seqObj "list" acc.toList.toArray 0)).get? h'.objs.size = some (seqObj "list" acc.toList.toArray 0) := Heap.get?_push_size _ rfl
  show wpAny _ _ _ _ _ { s with heap := h'.push (seqObj "list" acc.toList.toArray 0), toks := tk }
  refine wpAny_bind (wpAny_holding (wpAny_call_entry PyProof.Rows.slot_list_sort ⟨_, hoL, rfl⟩ PyProof.Rows.entry_list_sort
    (list_sort_treeKAny strKind_oneLt (s := { s with heap := h'.push (seqObj "list" acc.toList.toArray 0), toks := tk }) hoL hS.keysOf (fun v₁ v₂ rest e => keyKind_strs (by rw [← e]; exact hS)) (by rw [hal]; exact hz) fun st' hp hs => ⟨_, rfl, ?_⟩)
    (PyProof.Rows.args_list_sort _)))
  obtain ⟨ys, g1, g2, g3⟩ := sorted_out_str hS hp hs
  obtain ⟨e', he'⟩ := PyProof.Rows.sortedHeap_at (vs := acc.toList) (out := (arrOf st').map (·.2)) hoL
  have hlen : (ys.map V.str).length ≤ sizeLine := by
    rw [List.length_map, g2.length_eq]
    exact hz
  refine wpAny_pure ⟨_, rfl, .ref h'.objs.size, upd H h'.objs.size (.lst (ys.map V.str)), I1.laid (t' := tk) (fun b u e => ?_) (Nat.le_refl _)
    (show ObjOk X.prog X.w _ _ _ (.lst (ys.map V.str)) from ⟨hlen, ((arrOf st').map (·.2)).toList, e', vals_of_strs g1, by rw [Array.toArray_toList]; exact he'⟩), rfl, q ys _ g2 g3 (I1.hok.fresh (Nat.le_refl _))⟩
  have hb : b < h'.objs.size := Heap.lt_size e
  rw [PyProof.Rows.sortedHeap_old (Nat.ne_of_lt hb) (by rw [size_push']; exact Nat.lt_succ_of_lt hb)]
  exact Heap.get?_push_of_some _ e
structure FnK (P : Program) (w : World) (K : PySem.W.Frag) (mg : Str → Option Value) (base : Heap) (k : Nat) (x : Str) (ps : List Str) (sp : Sp) : Prop where
  ex : ∃ (f : Addr) (fd : FuncData), mg x = some (.ref f) ∧ PySem.W.keepIn K (.ref f) = true ∧ FnOk P w K mg base (XC P w) k f fd ps sp ∧ ∀ (s : Shared) (ws : List Value), ws.length = ps.length → BindsTo s fd ⟨[], ps.zip ws⟩ (ps.zip ws)
theorem FnK.mono {P : Program} {w : World} {K : PySem.W.Frag} {mg : Str → Option Value} {base : Heap} {k j : Nat} {x : Str} {ps : List Str} {sp : Sp} (h : FnK P w K mg base k x ps sp) (hj : k ≤ j) : FnK P w K mg base j x ps sp := by
  obtain ⟨f, fd, a, b, c, d⟩ := h.ex
  exact ⟨f, fd, a, b, c.mono hj, d⟩
theorem kw_binds {K : PySem.W.Frag} {x qual : Str} {params : Arguments} {body : List Stmt} {scope : Scope} {kws : List (Str × V)} {f : Addr} {fd : FuncData} {ps : List Str} (F : FunD K x qual params body scope [] kws f fd)
    (h : ∀ (kV doc pm : Value) (an : Option Addr) (cdv ct : Value) (ws : List Value), ws.length = ps.length → bindArgs (PySem.W.fnOf x qual params body scope .none kV doc pm an cdv ct) ⟨[], ps.zip ws⟩ = pure (ps.zip ws)) (s : Shared) (ws : List Value) (hl : ws.length = ps.length) : BindsTo s fd ⟨[], ps.zip ws⟩ (ps.zip ws) := by
  obtain ⟨oc, od, dV, kV, doc, pm, an, cdv, ct, osl, rfl, lk, hcd, hD, hK⟩ := F.ex
  rcases hD with ⟨_, rfl⟩ | ⟨e, _⟩
  · exact .of_eq (h kV doc pm an cdv ct ws hl)
  · exact absurd rfl e
theorem pe_fnK {X : Cx} {k : Nat} {ps : List Str} {sp : Sp} {E : XK} {x : Str} {p pos : Pos} {kws : List Keyword} {tk : L2.TA} (F : FnK X.prog X.w X.K X.mg X.base k x ps sp) (hr : Room k X.A) (hx : Passes (XC X.prog X.w) X E) (hkw : PK X kws tk) (hg : Gl X x := by rfl)
    (hall : (backToKw pos (keywordEach kws X.env)).all (·.1.isSome) = true := by rfl) (hks : (backToKw pos (keywordEach kws X.env)).filterMap (·.1) = ps := by rfl)
    (hdb : (x == ("__debug__" : Str)) = false := by decide +kernel) (hpl : ((backTo pos (starEach [] X.env)).any (·.1) || (backToKw pos (keywordEach kws X.env)).any (·.1.isNone)) = false := by rfl) :
    PE X (.Call (.Name x p) [] kws pos) (tFn sp E tk) := by
  obtain ⟨f, fd, hm, hk, G, hb⟩ := F.ex
  refine ⟨fun pins s σ H Q I h => ?_⟩
  refine wpAny_Call_Name_kw (ld_glob I hg hm ?_ hdb)
  refine PySem.W.callWith_KW0 (h₀ := X.base) I.ok.mod.kin hk hall (thn (hkw.run pos pins s σ H _ I h) fun ws s2 ⟨zs, H2, I2, rz, q2⟩ => ⟨I2.kIn, ?_⟩) hpl
  rw [hks]
  have hl : ws.length = ps.length := by rw [← rz.length]; exact G.len _ _ _ _ q2
  refine wpAny_call (codeAny_mono (G.run X.A X.stack s2 H2 ⟨[], ps.zip ws⟩ ws zs Q E hr I2.env0 (hb s2 ws hl) rz q2) fun r s' hq => ?_)
  cases r with
  | error e => exact hx pins σ H2 s2 e s' I2 hq
  | ok fl =>
    cases fl with
    | ret u => exact I2.after hq
    | next => exact False.elim hq
    | brk => exact False.elim hq
    | cont => exact False.elim hq
theorem seq_cut {t1 rest : L2.TS} {D : Ends} {σ : L2.St} {H : Hp} (Mid : L2.St → Hp → Prop) (h2 : ∀ σ H, Mid σ H → rest D σ H) (h1 : ∀ k : L2.St → Hp → Prop, (∀ σ H, Mid σ H → k σ H) → t1 { D with nx := k } σ H) : L2.tSeq t1 rest D σ H := h1 _ h2
section
variable {K : PySem.W.Frag} {p : Addr} {H H' : Hp}
theorem cut_of_ex (e : Evl.Ex H H') : Evl.Ex (cut p p H) (cut p p H') := fun b o h => by
  obtain ⟨h1, h2, h3, h4⟩ := cut_iff.mp h
  exact cut_iff.mpr ⟨e _ _ h1, h2, h3, h4⟩
theorem cut_of_extN (e : ExtN H H') : Evl.Ex (cut p p H) (cut p p H') := fun b o h => by
  obtain ⟨h1, h2, h3, h4⟩ := cut_iff.mp h
  exact cut_iff.mpr ⟨e _ _ h1 h4, h2, h3, h4⟩
theorem cut_of_kp (e : ∀ b o, b ≠ p → H b = some o → H' b = some o) : Evl.Ex (cut p p H) (cut p p H') := fun b o h => by
  obtain ⟨h1, h2, h3, h4⟩ := cut_iff.mp h
  exact cut_iff.mpr ⟨e _ _ h2 h1, h2, h3, h4⟩
theorem cut_D {D : Addr} : Evl.Ex (cut p D H) (cut p p H) := fun b o h => by
  obtain ⟨h1, h2, h3, h4⟩ := cut_iff.mp h
  exact cut_iff.mpr ⟨h1, h2, h2, h4⟩
theorem tabs_kp {T : List (Addr × Str)} {xs : List V} (t : Tabs T H) (hp : H p = some (.lst xs)) (e : ∀ b o, b ≠ p → H b = some o → H' b = some o) : Tabs T H' := tabs_keep t fun {c u} h n1 n2 => e c u (fun z => by
  rw [z, hp] at h
  cases h
  exact n1 _ rfl) h
end
end My
namespace My
open PySem PySem.Spec PyProof.Rows L2
theorem fold_reps (c : Nat) : ∀ (n : Nat) (acc : Array Nat), ((List.replicate n #[c]).foldl (· ++ ·) acc).toList = acc.toList ++ List.replicate n c
  | 0, acc => by simp
  | n + 1, acc => by
    rw [List.replicate_succ, List.foldl_cons, fold_reps c n, Array.toList_append, List.append_assoc]
    rfl
theorem mul_sign {c : Nat} {n : Int} (h : 1 ≤ n) : (Txt.mul ⟨#[c]⟩ n).cps.toList = List.replicate n.toNat c := by
  unfold Txt.mul
  rw [if_neg (by omega)]
  split
  · rename_i hc
    have hn : n = 1 := by
      rw [Bool.or_eq_true] at hc
      rcases hc with hc | hc
      · exact eq_of_beq hc
      · exact absurd (eq_of_beq hc) (by show ¬ 1 = 0; decide)
    rw [hn]
    rfl
  · rw [fold_reps]
    rfl
def rMulS : R2 := fun x y H Q => ∃ (c : Nat) (n : Int), x = .str ⟨#[c]⟩ ∧ y = .int n ∧ 1 ≤ n ∧ n ≤ 1000 ∧ ∀ z : Str, z.cps.toList = List.replicate n.toNat c → Q (.str z) H
theorem op_mulS {X : Cx} : OpR X (binaryOp .Mult) rMulS := by
  intro pins s σ H x y v u Q I rx ry h
  obtain ⟨c, n, rfl, rfl, h1, h2, q⟩ := h
  obtain ⟨t, rfl⟩ := rx
  obtain ⟨t', rfl⟩ := ry
  have hl : (⟨#[c]⟩ : Str).length = 1 := rfl
  refine SB.mul ⟨?_, fun _ _ => ?_, fun _ _ => ?_⟩ fun t'' k => ⟨.str _, H, I.tok _, ⟨_, rfl⟩, q _ (mul_sign h1)⟩
  · rw [decide_eq_false (by omega), decide_eq_false (by omega)]; rfl
  · rw [hl]
    have : (9223372036854775807 : Int) / n ≥ 1 := Int.le_ediv_of_mul_le (by omega) (by omega)
    have e : (2 ^ 63 - 1 : Int) = 9223372036854775807 := by decide
    rw [e]
    omega
  · rw [hl, Nat.one_mul]
    have : n.toNat ≤ 1000 := by omega
    show decide (n.toNat > sizeLine) = false
    rw [decide_eq_false_iff_not, sizeLine_eq]
    omega
end My
local macro_rules | `(tactic| walk_at "sx") => `(tactic| simp only [L2.tVar, L2.tC, L2.tB, L2.tAnd, L2.tOr, L2.tNot, L2.tAndV, L2.tOrV, L2.tNotV, L2.tIf, L2.tNext, L2.tSeq, L2.tDrop, L2.tRet, L2.tRetN, L2.tIfS, L2.gName, L2.gNil, L2.gCons, L2.gTup, L2.gSub, L2.tAsg, L2.tPar, L2.tOp, L2.tUn, L2.rI, L2.rI0, L2.rU, L2.rEq, L2.rNe, L2.tTest, L2.tChain, L2.sFld, L2.tNil, L2.tCons, L2.tTup, L2.tLst, L2.tCB,
  L2.rSetL, L2.tBM0, L2.tBM, L2.rAppend, L2.rExtend, L2.rPop, L2.rPopAt, L2.rCat, L2.rAny, L2.rAll, L2.tDGet, L2.tDIn, L2.tDNotIn, L2.sDPut, L2.tDNewK, L2.tDNewT, L2.iList, L2.iTup, L2.iRng1, L2.iRng2, L2.iStr, StX.tStar, L2.rIxL, L2.rIxT, L2.rIxS, L2.rIn, L2.rEqD, L2.rNeD,
  My.tFn, My.tMt, My.tMk, My.tNGet, My.tNNotIn, My.sNPut, My.tNNew, L2.wipe, L2.tDisp, L2.tPairs, My.tSortLam, My.rIntI, My.rIntB, My.rIxLS, My.rRepr, L2.rIsi, L2.tYes, L2.tM1, L2.tM0, My.rNeL0, My.rTupL, My.rEqT0, My.rSortedDKw, L2.tCKw,
  L2.start, List.map_cons, List.map_nil, List.length_cons, List.length_nil, List.getElem?_cons_succ, List.getElem?_cons_zero, Option.some.injEq, exists_eq_left', exists_eq_left, exists_eq', exists_eq, List.set_cons_succ, List.set_cons_zero, List.replicate_succ, List.replicate_zero, List.cons_append, List.nil_append, List.append_nil, Nat.reduceSub, Nat.reduceAdd,
  L2.V.int.injEq, L2.V.str.injEq, L2.V.bl.injEq, L2.V.ref.injEq, List.cons.injEq, and_true, true_and, exists_and_left, and_assoc, Bool.not_eq_true', Bool.true_eq_false, Bool.false_eq_true, if_true, if_false])
local macro_rules | `(tactic| walk_at "look") => `(tactic| set_option pp.deepTerms false in set_option pp.deepTerms.threshold 50 in trace_state)
local macro_rules | `(tactic| walk_at "mm") => `(tactic| repeat (first | exact List.mem_cons_self .. | assumption | apply List.mem_cons_of_mem))
namespace My
open PySem PySem.Spec PyProof.Rows L2 LamX NdefX
abbrev supBody (p0 p1 p2 p3 p4 p5 p6 p7 p8 p9 : Pos) : List Stmt :=
  [.Expr (.Call (.Attribute (.Call (.Name "super" p0) [] [] p1) "__init__" p2) [.Name "value" p3] [] p4) p5, .Assign [.Attribute (.Name "self" p6) "value" p7] (.Name "value" p8) p9]
/-- what is known of the class C of an exception, D being the class whose __init__ it has -/
structure SupC (K : PySem.W.Frag) (C D : Addr) : Prop where
  oex : OexC K C
  sub : PySem.W.mroIn K C (.ref D) = some true
  ini : PySem.W.ks_superIn K C D "__init__" = some (some (.builtin "ValueError.__init__"))
  ve : PySem.W.subIn K (.ref C) (.type "ValueError") = some true
  noV : PySem.W.findIn K (.ref C) "value" = some none
  opq : PySem.W.nsIn K cStatics "thirdparty.any" = some none
/-- what is known of that __init__ -/
structure SupF (P : Program) (K : PySem.W.Frag) (qual : Str) (params : Arguments) (body : List Stmt) (scope : Scope) (f D : Addr) (fd : FuncData) : Prop where
  ex : ∃ (oc : Value) (od : Option Addr) (dV kV doc pm : Value) (an : Option Addr) (ct : Value) (osl : Array (Option Value)) (cc cda : Addr) (ccl : Value) (cdd : Option Addr) (vs : Array Value) (ccs : Array (Option Value)) (file : Str) (tf : Tok) (cl : Value) (cld : Option Addr) (csl : Array (Option Value)) (cdD : ClassData) (ar : Arg),
    fd = PySem.W.ksFn "__init__" qual params body scope dV kV doc pm an (.ref cda) ct cc ∧ K.lookup f = some ⟨oc, od, .func fd, osl⟩ ∧ PySem.W.codeIn K (.ref cda) qual = true ∧ K.lookup cda = some ⟨ccl, cdd, .fields vs, ccs⟩ ∧ vs[2]? = some (.str file tf) ∧ ((P.main.file : Str) == file) = true ∧
    K.lookup cc = some ⟨cl, cld, .cell (some (.ref D)), csl⟩ ∧ PySem.W.clsIn K D = some cdD ∧ (params.posonlyargs ++ params.args).head? = some ar ∧ ar.arg = "self"
def spNet (K : PySem.W.Frag) (D : Addr) : Sp := fun vs H Q _ => ∃ (a C : Addr) (v : V), vs = [.ref a, v] ∧ H a = some (exo a C none) ∧ SupC K C D ∧ ∀ d, H d = none → d ≠ a → Q .non (upd (upd H d (exd d [("value", v)])) a (exo a C (some d)))
theorem one_cell {cc c : Addr} {y : Str} (h : ([(("__class__" : Str), cc)] : List (Str × Addr)).lookup y = some c) : y = "__class__" ∧ c = cc := by
  rw [List.lookup_cons] at h
  split at h
  · rename_i hy
    injection h with h
    exact ⟨eq_of_beq hy, h.symm⟩
  · cases h
section
variable {P : Program} {w : World} {K : PySem.W.Frag} {mg : Str → Option Value} {base : Heap} {qual : Str} {params : Arguments} {scope : Scope} {f D : Addr} {fd : FuncData} {k : Nat} {p0 p1 p2 p3 p4 p5 p6 p7 p8 p9 : Pos}
theorem fnok_super (S : SupF P K qual params (supBody p0 p1 p2 p3 p4 p5 p6 p7 p8 p9) scope f D fd) (hs : mg "super" = none) (hsc : NScope ["self", "value", "__class__"] ["self", "value"] ["__class__"] scope) (hks : scope.names.lookup ("super" : Str) = some .globalImplicit)
    (htop : (P.main.scope.names.lookup ("super" : Str)).isSome = false) {pl : Addr → Addr → Addr → Sem Bool}
    (hev : ∀ L cda cc : Addr, eval (.Call (.Attribute (.Call (.Name "super" p0) [] [] p1) "__init__" p2) [.Name "value" p3] [] p4) (PySem.W.ksEnv qual scope L f (.ref cda) cc) = (do
      let ov ← attributeBase (.Call (.Name "super" p0) [] [] p1) "__init__" (PySem.W.ksEnv qual scope L f (.ref cda) cc) (eval (.Call (.Name "super" p0) [] [] p1) (PySem.W.ksEnv qual scope L f (.ref cda) cc))
      standAt p2.atName
      let (g, first) ← holding [ov] (getMethod ov "__init__" (pl L cda cc))
      callWith p4 g first (backTo p4 (starEach [.Name "value" p3] (PySem.W.ksEnv qual scope L f (.ref cda) cc))) []))
    (hsw : ∀ L cda cc : Addr, swapsWith (.Call (.Attribute (.Call (.Name "super" p0) [] [] p1) "__init__" p2) [.Name "value" p3] [] p4) none p5.line (PySem.W.ksEnv qual scope L f (.ref cda) cc) = pure false)
    (hsw2 : ∀ L cda cc : Addr, swapsWith (.Name "value" p8) (some (.Attribute (.Name "self" p6) "value" p7)) p9.line (PySem.W.ksEnv qual scope L f (.ref cda) cc) = pure false) : FnOk P w K mg base (XC P w) (k + 1) f fd ["self", "value"] (spNet K D) := by
  refine ⟨fun vs H Q E h => ?_, fun A outer s H args us vs Q E hr e0 hb r hsp => ?_⟩
  · obtain ⟨a, C, v, rfl, _⟩ := h
    rfl
  obtain ⟨a, C, v, rfl, ha, T, q⟩ := hsp
  obtain ⟨oc, od, dV, kV, doc, pm, an, ct, osl, cc, cda, ccl, cdd, vs, ccs, file, tf, cl, cld, csl, cdD, ar, rfl, lk, hcd, lcd, hvs, hfile, lcc, hD, har, har2⟩ := S.ex
  have KX : K.In s.heap := e0.mod.kin.keeps fun b o e => (e0.bs b o e).1
  have lim : s.heap.NoLimit := e0.mod.nolimit.keeps fun b o e => (e0.bs b o e).1
  have hl : us.length = 2 := by rw [← r.length]; rfl
  obtain ⟨u0, u, rfl, r0, ru⟩ := vals2 r
  obtain rfl : u0 = Value.ref a := r0
  have cellAt : s.heap.IsCell cc (some (.ref D)) := ⟨_, KX _ _ lcc, rfl⟩
  refine PySem.ks_codeAny_call_defAt hr.depth (KX _ _ lk) rfl lim (PySem.W.codeRec_of KX hcd) rfl hb hsc.nocell (fun ⟨n, _⟩ hy => hsc.par n (List.of_mem_zip hy).1) (fun h₁ hns kp => ?_) hsc.co hsc.gen hsc.kind
  have hcn : H cc = none := (e0.bs cc _ (e0.mod.kin _ _ lcc)).2
  let Fn : NF := ⟨"__init__", qual, params, supBody p0 p1 p2 p3 p4 p5 p6 p7 p8 p9, scope, [("__class__", cc)], cda⟩
  have CA : CellsAt Fn.cl ["__class__"] [none] s.heap H := by
    refine ⟨rfl, fun y c e => ?_, fun x y c e1 e2 => ?_, fun i y e => ?_⟩
    · obtain ⟨rfl, rfl⟩ := one_cell e
      exact ⟨hcn, _, cellAt⟩
    · rw [(one_cell e1).1, (one_cell e2).1]
    · cases i with
      | zero =>
        cases e
        exact ⟨cc, rfl, fun v z => by cases z⟩
      | succ i => cases e
  have I : Inv (ncx (XC P w) P w K mg base ["self", "value", "__class__"] Fn f A outer s H E) [] (startF ["self", "value", "__class__"] [.ref a, v] [none]) H { s with heap := h₁, toks := s.toks + (["self", "value"].zip [Value.ref a, u]).length } := inv_startN hsc hr.hd e0 rfl r CA hns kp
  obtain ⟨t0, hx⟩ := exo_at I.hok ha
  have KX1 : K.In h₁ := KX.keeps kp
  obtain ⟨oD, hD1, hD2⟩ : ∃ oD, h₁.get? D = some oD ∧ oD.data = .cls cdD := by
    unfold PySem.W.clsIn at hD
    split at hD
    · rename_i c d cd' sl ho
      cases hD
      exact ⟨_, KX1 _ _ ho, rfl⟩
    · cases hD
  refine PySem.ks_wpAt_execs_cons (PySem.ks_wpAt_Expr_any (PySem.ks_wpAt_MethodCall (pl := pl s.heap.objs.size cda cc) (he := hev s.heap.objs.size cda cc) (PySem.ks_wpAt_super_base hks (hsc.frk "__class__" (by simp)) (by decide +kernel) rfl (KX1 _ _ lk) rfl har rfl (KX1 _ _ lcd) rfl hvs hfile htop ?_)) (hi := by unfold interactive; rw [show (callEnv (PySem.W.ksFn "__init__" qual params (supBody p0 p1 p2 p3 p4 p5 p6 p7 p8 p9) scope dV kV doc pm an (.ref cda) ct cc) s.heap.objs.size f).scope.kind = .function from hsc.kind]; rfl) (hs := hsw s.heap.objs.size cda cc))
  obtain ⟨mb, hmb1, hmb2⟩ := I.mod.blt
  refine PySem.W.ks_loadName_global hsc.kind hks (Calls.loadGlobal_builtin (I.mod.glob.keeps I.bk) hs (hmb1.keeps I.bk) ((hmb2 "super" (by decide)).trans (by decide +kernel)) ⟨rfl, ?_⟩)
  refine wpAny_loadName_free hsc.kind (hsc.frk "__class__" (by simp)) rfl ⟨_, KX1 _ _ lcc, rfl⟩ ?_
  rw [har2]
  refine wpAny_loadName_local hsc.kind (hsc.par "self" (by simp)) hns (v := .ref a) (by rfl) ?_
  refine PySem.ks_wpAny_isType_cls hD1 hD2 ⟨rfl, ?_⟩
  refine PySem.ks_wpAny_call_super hD1 hD2 hx rfl (fun c e => by cases e) (PySem.W.looks_mroIn KX1 T.sub) (fun h2 e2 k2 => ?_)
  have KX2 : K.In h2 := KX1.keeps k2
  have hx2 := k2 _ _ hx
  have IA : PySem.W.InstAt h2 a { cls := .ref C, dict := none, data := .fields #[.ref t0, .none, .none, .none, .bool false, .none] } C none := ⟨hx2, rfl, rfl, trivial⟩
  obtain ⟨cd, hcd2, hini⟩ : ∃ cd, PySem.W.clsIn K C = some cd ∧ PySem.W.alongIn K "__init__" ((cd.mro.dropWhile (· != .ref D)).drop 1) = some (some (.builtin "ValueError.__init__")) := by
    have z := T.ini
    unfold PySem.W.ks_superIn at z
    cases hc : PySem.W.clsIn K C with
    | none => rw [hc] at z; cases z
    | some cd => rw [hc] at z; exact ⟨cd, rfl, z⟩
  refine PySem.W.kxs_getMethod PySem.W.kxs_ValueError e2 (PySem.W.looks_opaque KX2 T.opq) (l₀ := cd.mro) (fun A Q E s k q => wpAny_bind ((PySem.W.looks_clsIn KX2 hcd2) A _ E s k (wpAny_pure q))) rfl KX2 hini (IA.type.andThen (PySem.W.looks_subIn KX2 T.ve)) (PySem.W.ks_ne KX2 IA hcd2) rfl ?_
  have kU : ∀ b o, h₁.get? b = some o → (h2.push (PySem.W.kxs_mw "ValueError.__init__" a)).get? b = some o := fun b o e => Heap.get?_push_of_some _ (k2 b o e)
  have hu2 : (h2.push (PySem.W.kxs_mw "ValueError.__init__" a)).get? h2.objs.size = some (PySem.W.kxs_mw "ValueError.__init__" a) := Heap.get?_push_size _ rfl
  have hx3 := kU _ _ hx
  have I3 := I.kept (t' := s.toks + (["self", "value"].zip [Value.ref a, u]).length + 1) (h' := h2.push (PySem.W.kxs_mw "ValueError.__init__" a)) kU
  generalize h2.push (PySem.W.kxs_mw "ValueError.__init__" a) = h3 at kU hu2 hx3 I3 ⊢
  have KX3 : K.In h3 := KX1.keeps kU
  refine PySem.W.kxs_callWith (i := "ValueError.__init__") (x := a) (by rfl) ?_
  refine Calls.evalArgs_plain (rest := []) (Calls.spliced_cons (wpAny_Name (wpAny_loadName_local hsc.kind (hsc.par "value" (by simp)) (hns.keeps kU) (v := u) (by rfl) ?_) (by decide +kernel)))
  refine Calls.spliced_nil ⟨hu2, ?_⟩
  obtain ⟨nm, qn, N, bs, bm, sn, sub, ab, col, dd, c0, c1, c2, c3, c5, hC, hbm⟩ := T.oex.cls
  refine wpAny_call (codeAny_of_tree ?_)
  show wpAny _ _ (callAny (.ref h2.objs.size) ⟨[u], []⟩) _ _ _
  simp only [callAny]
  refine wpAny_bind (wpAny_load hu2 ?_)
  simp only [PySem.W.kxs_mw, show (Value.type "method-wrapper" == Value.type "method" || Value.type "method-wrapper" == Value.type "builtin_function_or_method" || Value.type "method-wrapper" == Value.type "method-wrapper") = true by decide, if_true]
  refine PySem.W.KFB.if_so (by decide) ?_
  refine wpAny_bind (PySem.W.check_bound_init PySem.F.excBase_ValueError.toExcCallFacts (KX3 _ _ hC) hx3 rfl ?_)
  refine wpAny_bind (wpAny_pure (wpAny_pure ?_))
  refine ⟨plainId_quiet PySem.F.excBase_ValueError.init.plain _, codeAny_builtin PySem.F.excBase_ValueError.initEntry ?_⟩
  refine PySem.W.exc_init_tree (cls := .ref C) (t0 := t0) (dv := none) (c2 := .none) (c3 := .none) (b4 := .bool false) hx3 (show 1 ≤ sizeLine by decide) (fun h4 k4 hx4 _ => ?_)
  have J := I3.write (t' := s.toks + (["self", "value"].zip [Value.ref a, u]).length + 1) (x := a) (e := a) (o := exo a C none) (by rw [ha]; exact True.intro) (.inl rfl) k4 ⟨_, hx4⟩ (exo_ok hx4)
  have eu : upd H a (exo a C none) = H := by
    funext b
    by_cases hb : b = a
    · rw [hb, upd_same, ha]
    · rw [upd_ne hb]
  rw [eu] at J
  refine PySem.wpAt_of_wpAny ?_
  have ht : PSs (ncx (XC P w) P w K mg base ["self", "value", "__class__"] Fn f A outer s H E) [.Assign [.Attribute (.Name "self" p6) "value" p7] (.Name "value" p8) p9] _ :=
    pss_one (ps_ost (pv 0 (hv := .inl (hsc.par "self" (by simp)))) (pv 1 (hv := .inl (hsc.par "value" (by simp)))) (hs := hsw2 s.heap.objs.size cda cc))
  refine wpAny_mono (ht.run [] _ (startF ["self", "value", "__class__"] [.ref a, v] [none]) H { nx := fun _ H' => Q .non H', rt := Q } J ⟨_, rfl, _, rfl, a, C, rfl, T.oex, T.noV, .inl ⟨ha, fun dx h1 h2 => q dx h1 h2⟩⟩) (fun fl s' hs => ?_) fun e s' hs => hs
  have fin : ∀ {σ' : L2.St} {H' : Hp} {y : V} {z : Value}, Inv (ncx (XC P w) P w K mg base ["self", "value", "__class__"] Fn f A outer s H E) [] σ' H' s' → L2.RelV y z → Q y H' → CE outer P w H s Q z s' :=
    fun {σ' H' y z} J rv q => ⟨y, H', J.os, J.bare, J.base, J.hok, rv, q⟩
  cases fl with
  | ret z =>
    obtain ⟨y, σ', H', J, rv, q⟩ := hs
    exact fin J rv q
  | next =>
    obtain ⟨σ', H', J, q⟩ := hs
    exact fin (y := V.non) (z := Value.none) J rfl q
  | brk =>
    obtain ⟨_, _, _, q⟩ := hs
    exact False.elim q
  | cont =>
    obtain ⟨_, _, _, q⟩ := hs
    exact False.elim q
end
/-- the class named x, at C, D being the class whose __init__ it has -/
structure NetX (P : Program) (w : World) (K : PySem.W.Frag) (mg : Str → Option Value) (base : Heap) (x : Str) (C D : Addr) : Prop where
  gC : mg x = some (.ref C)
  sup : SupC K C D
  ex : ∃ (fI : Addr) (fd : FuncData), PySem.W.findIn K (.ref C) "__init__" = some (some (.ref fI)) ∧ PySem.W.typeIn K (.ref fI) = some (.type "function") ∧ FnOk P w K mg base (XC P w) 1 fI fd ["self", "value"] (spNet K D) ∧ Binds K fd ["self", "value"] []
theorem pmk_net {X : Cx} {x : Str} {C D : Addr} {p pos : Pos} {e : Expr} {es : List Expr} {ta : L2.TA} (N : NetX X.prog X.w X.K X.mg X.base x C D) (hr : Room 2 X.A) (ha : PA X (e :: es) ta) (hg : Gl X x := by rfl)
    (hdb : (x == ("__debug__" : Str)) = false := by decide) (he : starEach (e :: es) X.env = (false, eval e X.env) :: starEach es X.env := by rfl) (hpl : (backTo pos (starEach es X.env)).any (·.1) = false := by rfl) :
    PMk X (.Call (.Name x p) (e :: es) [] pos) (tMkO C (spNet X.K D) [] ta) := by
  obtain ⟨fI, fd, iC, tI, F, B⟩ := N.ex
  exact pmk_oex N.sup.oex iC tI F hr B .nil passE0 hg N.gC ha hdb he hpl
theorem net_use {K : PySem.W.Frag} {H1 : Hp} {C D a : Addr} {v : V} {Q E : XK} (T : SupC K C D) (hn : H1 a = none) (q : ∀ d H2, (∀ b o, H1 b = some o → H2 b = some o) → H1 d = none → H2 d = some (.xd [("value", v)]) → Q (.ref C) (some d) H2) :
    spNet K D [.ref a, v] (upd H1 a (exo a C none)) (fun u H2 => u = .non ∧ ∃ (d : Addr) (fs : List (Str × V)), H2 a = some (exo a C (some d)) ∧ H2 d = some (exd d fs) ∧ H1 d = none ∧ Q (.ref C) (some d) (upd (del H2 a) d (.xd fs))) E := by
  refine ⟨a, C, v, rfl, upd_same, T, fun d hd hda => ⟨rfl, d, [("value", v)], upd_same, by rw [upd_ne hda, upd_same], ?_, ?_⟩⟩
  · rw [upd_ne hda] at hd
    exact hd
  · rw [upd_ne hda] at hd
    refine q d _ (fun b o h => ?_) hd upd_same
    have hba : b ≠ a := fun z => by rw [z, hn] at h; cases h
    have hbd : b ≠ d := fun z => by rw [z, hd] at h; cases h
    rw [upd_ne hbd, del_ne hba, upd_ne hba, upd_ne hbd, upd_ne hba]
    exact h
end My
namespace My
open PySem PySem.Spec PyProof.Rows L2
/-- a caught exception: its class, its dict -/
def exk (a : Addr) (cls : Value) (d : Option Addr) : HO := .ext fun h => ∃ o, h.get? a = some o ∧ Zc cls d o ∧ ∃ vs, o.data = .fields vs
section
variable {X : Cx} {pins : List (Addr × Obj)} {σ : L2.St} {H : Hp} {s : Shared}
theorem know {a : Addr} {cls : Value} {d : Option Addr} {oe : Obj} {vs : Array Value} (I : Inv X pins σ H s) (ha : s.heap.get? a = some oe) (hz : Zc cls d oe) (hd : oe.data = .fields vs) (na : H a = none) (nL : a ≠ X.env.locals) (n0 : X.s_0.heap.get? a = none) (np : ∀ p ∈ X.pn ++ pins, p.1 ≠ a) : Inv X pins σ (upd H a (exk a cls d)) s := by
  have up : ∀ b o, H b = some o → upd H a (exk a cls d) b = some o := fun b o e => by
    rw [upd_ne (fun z => by rw [z, na] at e; cases e)]
    exact e
  have un : ∀ b, b ≠ a → H b = none → upd H a (exk a cls d) b = none := fun b hb e => by
    rw [upd_ne hb]
    exact e
  refine ⟨I.ok, I.os, I.bare, ⟨I.base.keep, I.base.slot, fun b o e1 e2 e3 => un b (fun z => ?_) (I.base.free b o e1 e2 e3), I.base.there, fun b xs e => up _ _ (I.base.tups b xs e), fun b o u e => up _ _ (I.base.frzs b o u e), fun b ps e => ?_⟩, I.loc, I.cell, un _ (Ne.symm nL) I.free, fun y c e => un _ (fun z => ?_) (I.freeC y c e), fun p hp => ?_, fun b u e => ?_, I.len⟩
  · rw [z, n0] at e1
    cases e1
  · obtain ⟨more, e2⟩ := I.base.tbls b ps e
    exact ⟨more, up _ _ e2⟩
  · obtain ⟨v, o, ho, hv⟩ := I.cell y c e
    rw [z, ha] at ho
    cases ho
    rw [hd] at hv
    cases hv
  · obtain ⟨p1, p2, p3⟩ := I.pin p hp
    exact ⟨p1, un _ (np p hp) p2, p3⟩
  · by_cases hb : b = a
    · rw [hb, upd_same] at e
      cases e
      rw [hb]
      exact ⟨⟨oe, ha, hz, vs, hd⟩, ⟨oe, ha⟩, fun h1 h2 ⟨o, e1, e2⟩ k => ⟨o, k _ e1, e2⟩⟩
    · rw [upd_ne hb] at e
      exact (I.hok b u e).stay (fun c v _ q => q) (fun c q => up _ _ q) fun c xs q => up _ _ q
end
/-- what the clause wishes: the suite first, then the exception is known -/
def wKeep (K : PySem.W.Frag) (c : Value) (i : Nat) (ts : Addr → Value → Option Addr → TS) (D : Ends) : WX := fun cls d σ H =>
  PySem.W.exmOne K cls c = some true ∧ ∀ a, H a = none → ts a cls d { nx := fun σ' H' => H' a = none ∧ D.nx (σ'.set i none) (upd H' a (exk a cls d)), rt := fun _ _ => False, bk := fun _ _ => False, ct := fun _ _ => False } (σ.set i (some (.ref a))) H
section
variable {X : Cx} {x n : Str} {c : Value} {i : Nat} {body suite : List Stmt} {st0 : Stmt} {np q1 q2 : Pos} {tb : WX → TS} {ts : Addr → Value → Option Addr → TS}
theorem ps_try_keep (hs : X.stack = X.env :: X.outer) (hf : X.env.frame = some X.env.locals) (hN : X.N.Nodup) (hi : X.N[i]? = some n) (hln : X.env.kindOf n = some .local) (hc : Names X x c) (hex : X.ex = [])
    (hb : ∀ (W : WX) (pn : List (Addr × Obj)) (xe : Value → Shared → Prop), Takes (X.tr pn xe) W → PassesOwn (model X.prog X.w) X.A X.env xe → PSs (X.tr pn xe) body (tb W))
    (hsu : ∀ (a : Addr) (oe : Obj) (cls : Value) (d : Option Addr) (pn : List (Addr × Obj)), Zc cls d oe → (∃ vs, oe.data = .fields vs) → PSs (X.suite a ((a, oe) :: pn)) (st0 :: suite) (ts a cls d)) :
    PS X (.Try body [.ExceptHandler (some (.Name x np)) (some n) (st0 :: suite) q2] [] [] q1) (fun D σ H => tb (wKeep X.K c i ts D) D σ H) := by
  constructor
  intro pins s σ H D I h
  have okX := I.ok
  have frX : X.A.frames = some (X.env :: X.outer) := by rw [okX.frames, hs]
  refine wpAny_Try_except (wpAny_mono ((hb (wKeep X.K c i ts D) (X.pn ++ pins) (fun e s₁ => wpAny (model X.prog X.w) X.A (noteFrame e X.env)
    (fun _ s₂ => wpAny (model X.prog X.w) X.A (setFlight e none) (fun _ s₃ =>
      wpAny (model X.prog X.w) X.A (handleBy e X.env [.ExceptHandler (some (.Name x np)) (some n) (st0 :: suite) q2]) (SP X pins D) X.xe s₃) X.xe s₂) X.xe s₁)
    (fun u s' xx => ?_) PassesOwn.looking).run [] s σ H D (I.toTry _) h) (fun f s1 hsp => ?_) fun e s1 he => he)
  · obtain ⟨a, B, sI, pins', σ', H', cls, d, rfl, J', nb, up, sky, na, os, ag, hb1, hyes⟩ := xx
    have J : Inv X pins σ' H' sI := J'.ofTry okX
    have sky' : Sky B (X.env :: X.outer) a (Zc cls d) X.env.locals s'.heap := by rw [← hs]; exact sky
    have hB : B.get? a = none := by
      rcases sky with h | h | h
      · exact h.2.1
      · exact h.2.1
      · exact h.2.1
    show wpAny (model X.prog X.w) X.A (noteFrame (.ref a) X.env) _ _ _
    refine Sky.land Zc.steady frX hf sky' fun h3 fl3 up3 => ?_
    have J3 : Inv X pins σ' H' { s' with heap := h3 } := J.landed nb fl3.1 (up.trans up3) os ag
    obtain ⟨o3, vs3, g3, z3, d3⟩ := fl3.there
    have nfr : a ∉ frs (X.env :: X.outer) := fun hm => by
      obtain ⟨_, o', e', hnf⟩ := fl3.2.2.1.mem hm
      rw [g3] at e'
      cases e'
      exact hnf _ d3
    have nL : a ≠ X.env.locals := fun z => nfr (List.mem_filterMap.mpr ⟨X.env, List.mem_cons_self, by rw [hf, z]⟩)
    have nF : a ∉ X.fs := fun hm => by
      obtain ⟨e, he, q⟩ := List.mem_filterMap.mp hm
      exact nfr (List.mem_filterMap.mpr ⟨e, List.mem_cons_of_mem _ he, q⟩)
    have nst : ∀ o, sI.heap.get? a ≠ some o := fun o e => by
      have z := nb a o e (by rw [hs]; exact nfr)
      rw [hB] at z
      cases z
    have n0 : X.s_0.heap.get? a = none := by
      cases e : X.s_0.heap.get? a with
      | none => rfl
      | some o =>
        obtain ⟨o', e'⟩ := J.base.there a o e (by rw [hex]; exact fun z => nomatch z)
        exact absurd e' (nst o')
    have npin : ∀ p ∈ X.pn ++ pins, p.1 ≠ a := fun p hp z => by
      have e := (J.pin p hp).1
      rw [z] at e
      exact nst _ e
    have S3 := J3.suite g3 d3 na nL nF
    refine wpAny_handleBy_cons (codeAny_handlers_test ?_) (by intro q; cases q)
    have LM := PySem.W.exm_one (M := model X.prog X.w) (J3.kIn) (fun A Q E s k q => wpAny_typeOf_ref (k _ _ g3) (by rw [z3.1]; exact q) : PySem.W.Looks (model X.prog X.w) h3 (typeOf (.ref a)) cls) hb1
    have test : ∀ {Q : Value → Shared → Prop} {E : Value → Shared → Prop}, Q c { s' with heap := h3 } → wpAny (model X.prog X.w) (X.A.mark (some (.ref a))) (eval (.Name x np) X.env) Q E { s' with heap := h3 } := fun {Q E} q => by
      obtain ⟨hg, hdbg, hm | ⟨hm, hv, hnn⟩⟩ := hc
      · exact ld_glob (X := X.suite a ((a, o3) :: (X.pn ++ pins))) S3 hg hm q hdbg
      · exact ld_blt (X := X.suite a ((a, o3) :: (X.pn ++ pins))) S3 hg hm hv q hnn hdbg
    refine test (LM.here (codeAny_handlers_suite_as (HandSPX.lands_againZ fl3 fun h4 fl4 up4 => ?_)))
    have J4 : Inv X pins σ' H' { s' with heap := h4 } := J.landed nb fl4.1 ((up.trans up3).trans up4) os ag
    obtain ⟨o4, vs4, g4, z4, d4⟩ := fl4.there
    have S4 := J4.suite g4 d4 na nL nF
    refine store_ok (X := X.suite a ((a, o4) :: (X.pn ++ pins))) (v := .ref a) S4 hN hi (.inl hln) rfl (fun s5 S5 => ?_) (.inr hln)
    refine wpAny_mono ((hsu a o4 cls d (X.pn ++ pins) z4 ⟨_, d4⟩).run [] s5 _ H' _ S5 (hyes a na)) (fun f s6 hsp => ?_) (fun _ _ z => False.elim z)
    cases f with
    | next =>
      obtain ⟨σ6, H6, S6, n6, q6⟩ := hsp
      have g6 := (S6.pin (a, o4) (List.mem_append_left _ List.mem_cons_self)).1
      exact gone_ok (know (S6.unsuite okX) g6 z4 d4 n6 nL n0 npin) hN hi hln fun s7 J7 => ⟨_, _, J7, q6⟩
    | brk =>
      obtain ⟨_, _, _, q6⟩ := hsp
      exact q6.elim
    | cont =>
      obtain ⟨_, _, _, q6⟩ := hsp
      exact q6.elim
    | ret u =>
      obtain ⟨_, _, _, _, _, q6⟩ := hsp
      exact q6.elim
  · cases f with
    | next =>
      obtain ⟨σ1, H1, K1, q⟩ := hsp
      exact wpAny_execs_nil ⟨σ1, H1, K1.ofTry okX, q⟩
    | brk =>
      obtain ⟨σ1, H1, K1, q⟩ := hsp
      exact ⟨σ1, H1, K1.ofTry okX, q⟩
    | cont =>
      obtain ⟨σ1, H1, K1, q⟩ := hsp
      exact ⟨σ1, H1, K1.ofTry okX, q⟩
    | ret u =>
      obtain ⟨v, σ1, H1, K1, r, q⟩ := hsp
      exact ⟨v, σ1, H1, K1.ofTry okX, r, q⟩
end
/-- isinstance(e, C), e an exception that is kept -/
def rIsK (K : PySem.W.Frag) : List V → Hp → VK → Prop := fun xs H Q => ∃ (a C : Addr) (d : Addr) (fs : List (Str × V)) (c : V) (cv : Value) (b : Bool), xs = [.ref a, c] ∧ H a = some (exk a (.ref C) (some d)) ∧ H d = some (.xd fs) ∧ ExcC K C ∧ (∀ u, RelV c u → u = cv) ∧ PySem.W.kitOne K (.ref C) cv = some b ∧ Q (.bl b) H
theorem exk_at {X : Cx} {pins : List (Addr × Obj)} {σ : L2.St} {H : Hp} {s : Shared} {a C d : Addr} {fs : List (Str × V)} (I : Inv X pins σ H s) (ha : H a = some (exk a (.ref C) (some d))) (hd : H d = some (.xd fs)) : ∃ oe od mA, PySem.W.InstAt s.heap a oe C (some od) ∧ s.heap.Ns1 d mA ∧ (∀ f, RelO (fs.lookup f) (mA f)) ∧ ∀ f, PySem.W.lookIn f od = some (mA f) := by
  obtain ⟨⟨o, e1, e2, vs, e3⟩, _⟩ := I.hok a _ ha
  obtain ⟨mA, hns, hr⟩ := (show ObjOk X.prog X.w H s.heap d (.xd fs) from I.hok d _ hd)
  obtain ⟨od, ho, hl⟩ := lookIn_ns hns
  exact ⟨o, od, mA, ⟨e1, e2.1, by unfold PySem.W.notCls; rw [e3] <;> rfl, by rw [e2.2]; exact ho⟩, hns, hr, hl⟩
theorem call_isK {X : Cx} : CallR X (.builtin "isinstance") (rIsK X.K) := by
  intro pins s σ H xs us Q I r h
  obtain ⟨a, C, d, fs, c, cv, b, rfl, ha, hd, T, hcv, e, q⟩ := h
  cases r with
  | cons rx rr =>
    cases rr with
    | cons rt rn =>
      cases rn
      cases rx
      have ec := hcv _ rt
      subst ec
      obtain ⟨oe, od, mA, J, hns, hr, hl⟩ := exk_at I ha hd
      obtain ⟨cd, hcl, _⟩ := PySem.W.any_some T.hd
      exact PySem.W.kia_one (PySem.W.kitx_exc (by rw [hcl]; rfl) T.hg T.hk T.hs T.ha T.hn T.ht T.hm) I.kIn J e (fun z => nomatch z) fun tk => ⟨.bl b, H, I.kept (t' := tk) fun _ _ z => z, rfl, q⟩
/-- e.f, e an exception that is kept -/
def tXk (K : PySem.W.Frag) (f : Str) (te : TE) : TE := fun σ H Q => te σ H fun x H1 => ∃ (a C d : Addr) (fs : List (Str × V)) (v : V), x = .ref a ∧ H1 a = some (exk a (.ref C) (some d)) ∧ H1 d = some (.xd fs) ∧ fs.lookup f = some v ∧ XfC K C ∧ PySem.W.findIn K (.ref C) f = some none ∧ Q v H1
theorem pe_xk {X : Cx} {e : Expr} {te : TE} {pos : Pos} {n : Str} (he : PE X e te) (hb : attributeBase e n X.env (eval e X.env) = eval e X.env := by rfl) : PE X (.Attribute e n pos) (tXk X.K n te) := by
  refine ⟨fun pins s σ H Q I h => attr_of hb (thn (he.run pins s σ H _ I h) fun u s1 hh => ?_)⟩
  obtain ⟨x, H1, I1, rx, a, C, d, fs, v, rfl, ha, hd, l, T, hno, q⟩ := hh
  obtain rfl : u = Value.ref a := rx
  obtain ⟨oe, od, mA, J, hns, hr, hl⟩ := exk_at I1 ha hd
  obtain ⟨u, hu, ru⟩ := RelO.some_of (v := v) (o := mA n) (by rw [← l]; exact hr n)
  exact HandSPX.exc_get I1.kIn J T.ga T.gg T.exC (PySem.W.findObj_own T.hdC hno rfl (by rw [hl, hu])) (handed_of ru) ⟨v, H1, I1.tok _, ru, q⟩
end My
namespace My
open PySem PySem.Spec PyProof.Rows L2 LamX
section
variable {X : Cx} {pins : List (Addr × Obj)} {σ : L2.St} {H : Hp} {s : Shared}
/-- x(), told of the slots at which it is called -/
theorem act_at {CXg : CXT} {Eg : XK} {Ng : List Str} {qg : Str} {sg : Scope} {g f c' : Addr} {cdg pm ctv : Value} {params : Arguments} {body : Expr} {scope : Scope} {k i : Nat} {a : Str} {pn : List (Addr × Obj)} {xe : Value → Shared → Prop} {W : WX} {tb : XK → TE} {p1 p2 : Pos}
    (I : Inv X pins σ H s) (L : LamS X.env.scope scope) (lies : s.heap.get? f = some (PySem.W.kla_obj "<lambda>" (X.env.qual ++ "<lambda>") params body scope (cloFrom X.env.cells scope.names []) pm c' ctv)) (notH : H f = none) (notF : f ∉ frs X.stack)
    (binds : bindArgs (PySem.W.kla_fn "<lambda>" (X.env.qual ++ "<lambda>") params body scope (cloFrom X.env.cells scope.names []) pm (.ref c') ctv) ⟨[], []⟩ = pure [])
    (tk : Takes ((cxOf CXg X.prog X.w X.K X.mg X.base Ng qg sg g cdg X.A X.stack s H Eg).tr pn xe) W) (hr : Room (k + 1) (X.A.deeper (envOfC qg sg s.heap.objs.size g cdg)))
    (hbody : ∀ (A : Around) (outer : List Env) (s : Shared) (H : Hp) (E : XK), Room k (A.deeper (lamEnv X scope s.heap.objs.size f c')) → PE (lamCx X A outer s H E scope f c') body (tb E))
    (hN : Ng[i]? = some a) (hv : Vis sg a) (hd : (a == ("__debug__" : Str)) = false := by decide) (hcd : (a == ("__classdict__" : Str)) = false := by decide) :
    PE ((cxOf CXg X.prog X.w X.K X.mg X.base Ng qg sg g cdg X.A X.stack s H Eg).tr pn xe) (.Call (.Name a p1) [] [] p2)
      (fun σZ HZ Q => σZ[i]? = some (some (.ref f)) ∧ HZ c' = some (CodeO c' (X.env.qual ++ "<lambda>")) ∧ ∃ E : XK, (∀ cls d H', E cls d H' → W cls d σZ H') ∧ tb E σ HZ Q) := by
  constructor
  intro pinsZ sZ σZ HZ Q IZ ⟨at_i, codeAt, E, hW, ht⟩
  refine wpAny_Call_Name_kw (thn ((pe_var (pos := p1) (i := i) hN hv hd hcd).run pinsZ sZ σZ HZ (fun v H1 => v = .ref f ∧ H1 = HZ) IZ ⟨.ref f, at_i, rfl, rfl⟩) ?_)
  rintro u s1 ⟨v, H1, I1, rel, rfl, rfl⟩
  obtain rfl : u = Value.ref f := rel
  have lies1 := I1.base.keep f _ lies notH notF (fun z => nomatch (show f ∈ ([] : List Addr) from z))
  have un : Un (frs X.stack) [] H H1 s.heap s1.heap := I1.base
  obtain ⟨⟨oc, vs, t, o1, o2, o3⟩, _⟩ := I1.hok c' _ codeAt
  refine PySem.W.callWith_F0 ⟨_, _, _, _, lies1⟩ (wpAny_call (codeAny_mono (R := CR (L2.CX X.prog X.w) (envOfC qg sg s.heap.objs.size g cdg :: X.stack) X.prog X.w H1 s1 Q E) ?_ ?_))
  · show codeAny _ _ (.call (.ref f) ⟨[], []⟩) _ s1
    refine PySem.W.kla_callFunE hr.depth lies1 rfl L.co L.gen rfl ⟨c', oc, vs, t, rfl, o1, o2, o3⟩ ?_
    rw [binds]
    refine wpAny_pure (wpAny_newFunctionEnv (fun y hy => (L.own y hy).2) (fun y hy => absurd hy (by simp)) (fun h₁ hns hsb => ⟨I1.nolimit.fresh _ hsb, ?_⟩) L.kind)
    have kept : ∀ b o, s1.heap.get? b = some o → h₁.get? b = some o := fun b o e => hsb.extBut b o (Nat.ne_of_lt (Heap.lt_size e)) (Heap.get?_push_of_some _ e)
    have inside : Inv (lamCx X (X.A.deeper (envOfC qg sg s.heap.objs.size g cdg)) (envOfC qg sg s.heap.objs.size g cdg :: X.stack) s1 H1 E scope f c') [] σ H1 { s1 with heap := h₁, toks := s1.toks + ([] : List (Str × Value)).length } :=
      lam_start2 I L I1.env0 hr.hd un hns kept
    show codeAny _ _ (.expr body (lamEnv X scope s1.heap.objs.size f c')) _ _
    refine PySem.W.kla_codeExpr (wpAny_mono ((hbody _ _ s1 H1 E (hr.deeper _)).run [] _ _ H1 Q inside ht) ?_ fun e s' hq => hq)
    rintro v s' ⟨w', H', J', rv, q⟩
    exact ⟨w', H', J'.os, J'.bare, J'.base, J'.hok, rv, q⟩
  · intro r s' hq
    cases r with
    | error e => exact tk e s' (XE.of_call I1 (fun cls d H' h => hW cls d H' h) hq)
    | ok fl =>
      cases fl with
      | ret u => exact I1.after hq
      | next => exact hq.elim
      | brk => exact hq.elim
      | cont => exact hq.elim
end
/-- the def that calls what it got -/
def GivesAt (X : Cx) (Ng : List Str) (x : Str) (sg : Scope) (g : Addr) (cdg : Value) (bg : List Stmt) (a : Str) (q : Str) (TT : (XK → Hp → VK → Prop) → Hp → VK → Prop) : Prop :=
  ∀ (f c' : Addr) (s : Shared) (H : Hp) (Q : VK) (tl : XK → Hp → VK → Prop),
    (∀ (W : WX) (pn : List (Addr × Obj)) (xe : Value → Shared → Prop) (p1 p2 : Pos), Takes ((cxOf C8.CX0 X.prog X.w X.K X.mg X.base Ng x sg g cdg X.A X.stack s H C8.E0).tr pn xe) W →
      PE ((cxOf C8.CX0 X.prog X.w X.K X.mg X.base Ng x sg g cdg X.A X.stack s H C8.E0).tr pn xe) (.Call (.Name a p1) [] [] p2) (fun σZ HZ Q => σZ[0]? = some (some (.ref f)) ∧ HZ c' = some (CodeO c' q) ∧ ∃ E : XK, (∀ cls d H', E cls d H' → W cls d σZ H') ∧ tl E HZ Q)) →
    H c' = some (CodeO c' q) → TT tl H Q →
    ∃ t, PSs (cxOf C8.CX0 X.prog X.w X.K X.mg X.base Ng x sg g cdg X.A X.stack s H C8.E0).nox bg t ∧ t { nx := fun _ H' => Q .non H', rt := Q } (L2.start Ng [.ref f]) H
section
variable {X : Cx}
theorem pe_lamAt {T : List (Addr × Str)} {TT : (XK → Hp → VK → Prop) → Hp → VK → Prop} {x a : Str} {g c P : Addr} {k : Nat} {pg : Arguments} {bg : List Stmt} {sg : Scope} {dV kV doc pm cdv ct oc : Value} {an od : Option Addr} {osl : Array (Option Value)} {Ng : List Str}
    {params : Arguments} {body : Expr} {scope : Scope} {t : XK → TE} {p lpos pos : Pos} (hg : Gl X x) (hm : X.mg x = some (.ref g)) (hk : PySem.W.keepIn X.K (.ref g) = true)
    (lk : X.K.lookup g = some ⟨oc, od, .func (PySem.W.fnOf x x pg bg sg dV kV doc pm an cdv ct), osl⟩) (hcg : PySem.W.codeIn X.K cdv x = true) (hb : L2.Binds X.K (PySem.W.fnOf x x pg bg sg dV kV doc pm an cdv ct) [a] []) (Sg : FnScope Ng [a] sg) (hNg : Ng[0]? = some a) (hva : Vis sg a)
    (hG : GivesAt X Ng x sg g cdv bg a (X.env.qual ++ "<lambda>") TT)
    (TB : TabB X.base X.mg c P) (hcode : X.env.code = .ref c) (hmT : (P, X.env.qual ++ "<lambda>") ∈ T) (hu : ∀ p ∈ T, p.1 = P → p.2 = X.env.qual ++ "<lambda>") (hr : Room (k + 2) X.A) (L : LamS X.env.scope scope) (hdef : defaultsOf params X.env = ([], []))
    (binds : ∀ (q : Str) (cl : List (Str × Addr)) (pm cv ctv : Value), bindArgs (PySem.W.kla_fn "<lambda>" q params body scope cl pm cv ctv) ⟨[], []⟩ = pure [])
    (hbody : ∀ (A : Around) (outer : List Env) (s : Shared) (H : Hp) (E : XK) (f c' : Addr), Room k (A.deeper (lamEnv X scope s.heap.objs.size f c')) → PE (lamCx X A outer s H E scope f c') body (t E))
    (hdb : (x == ("__debug__" : Str)) = false := by decide) (hd : (a == ("__debug__" : Str)) = false := by decide) (hcd : (a == ("__classdict__" : Str)) = false := by decide) :
    PE X (.Call (.Name x p) [.Lambda params body scope lpos] [] pos) (tLam T TT t) := by
  constructor
  intro pins s σ H Q I ⟨hT, want⟩
  refine wpAny_Call_Name_kw (ld_glob I hg hm (PySem.W.callWith_K (h₀ := X.base) I.ok.mod.kin hk ?_ (by rfl) (by rfl)) hdb)
  show wpAny _ _ (spliced ((false, eval (.Lambda params body scope lpos) X.env) :: backTo pos (starEach [] X.env))) _ _ s
  refine Calls.spliced_cons (lam_make2 I TB hcode hmT hu hT hdef (L.has I.ok) ?_)
  intro f c' pm' ctv H1 s' I1 eN T1 lies notH notF codeAt
  refine Calls.spliced_nil ⟨I1.kIn, wpAny_call (codeAny_mono (R := CR C8.CX0 X.stack X.prog X.w H1 s' Q C8.E0) ?_ ?_)⟩
  · refine run_ofS (N := Ng) (ps := [a]) (us := [.ref f]) (vs := [.ref f]) lk hcg Sg hr I1.env0 (hb s' [.ref f] I1.kIn rfl) (.cons rfl .nil) rfl fun hr' => ?_
    obtain ⟨t', ht', hq'⟩ := hG f c' s' H1 Q (fun E H' Q' => t E σ H' Q') (fun W pn xe p1 p2 tk => act_at (i := 0) I1 L lies notH notF (binds _ _ _ _ _) tk hr' (fun A outer s H E hr2 => hbody A outer s H E f c' hr2) hNg hva hd hcd) codeAt (want H1 eN T1)
    exact ⟨t', ht'.nox, hq'⟩
  · intro r s2 hq
    cases r with
    | error e => exact (show False from hq).elim
    | ok fl =>
      cases fl with
      | ret u => exact I1.after hq
      | next => exact hq.elim
      | brk => exact hq.elim
      | cont => exact hq.elim
/-- caught, told = None, None / try: told = a() / except x as error: caught = error / return (caught, told) -/
def TTheard (K : PySem.W.Frag) (CS : Addr) : (XK → Hp → VK → Prop) → Hp → VK → Prop := fun tl H Q => ∀ p, H p = none →
  tl (fun cls d H' => PySem.W.exmOne K cls (.ref CS) = some true ∧ ∀ a q, H' a = none → q ≠ a → H' q = none → Q (.ref q) (upd (upd H' a (exk a cls d)) q (.tup [.ref a, .non]))) (upd H p (.tup [.non, .non]))
    (fun v H' => 2 ≤ sizeLine ∧ ∀ q, H' q = none → Q (.ref q) (upd H' q (.tup [.non, v])))
end
end My
namespace My
open PySem PySem.Spec PyProof.Rows L2 He
abbrev NmS : Type := Option (Str × Str × Arguments × FuncBody × Scope × Addr × List Str × Addr)
/-- the __init__ that the class x has: all but its cells -/
def supW (K : PySem.W.Frag) (x : Str) : NmS := match K.lookup (ma K (ga K x) "__init__") with
  | some ⟨_, _, .func fd, _⟩ => some (fd.name, fd.qualname, fd.params, fd.body, fd.scope, fd.globals, fd.closure.map (·.1), fd.builtins)
  | _ => none
def supV (st : Stmt) (qual : Str) : NmS := some ("__init__", qual, defArgs st, .stmts (defBody st), defScope st, mainGlobals, ["__class__"], builtinsNs)
def clsO (K : PySem.W.Frag) (C : Addr) : Bool := match K.lookup C with
  | some ⟨.type t, _, .cls cd, sl⟩ => decide (t = "type") && (!cd.hasDel && (cd.hasDict && (match cd.mro, sl.toList with
    | .ref C' :: bm, [_, _, _, _, some (.builtin n), _] => decide (C' = C) && (decide (n = "ValueError.__new__") && PySem.HandSPX.refsVE bm)
    | _, _ => false)))
  | _ => false
theorem clsO_ok {K : PySem.W.Frag} {C : Addr} (h : clsO K C = true) : ∃ nm q N bs bm sn sub ab col dd k0 k1 k2 k3 k5, K.lookup C = some (excClassObj nm q C N bs bm true sn sub ab col dd k0 k1 k2 k3 k5 "ValueError.__new__") ∧ PySem.HandSPX.refsVE bm = true := by
  unfold clsO at h
  split at h
  · rename_i t dd cd sl ho
    obtain ⟨h1, h⟩ := ba h
    obtain ⟨h2, h⟩ := ba h
    obtain ⟨h3, h⟩ := ba h
    split at h
    · rename_i C' bm k0 k1 k2 k3 n k5 hm hs
      obtain ⟨h4, h⟩ := ba h
      obtain ⟨h5, h6⟩ := ba h
      obtain rfl := of_decide_eq_true h1
      obtain rfl := of_decide_eq_true h4
      obtain rfl := of_decide_eq_true h5
      obtain ⟨nm, bs, mro, ns, qn, hd, sn, sub, ab, col, del⟩ := cd
      have h2' : del = false := by simpa using h2
      have h3' : hd = true := h3
      dsimp only at hm
      subst hm h2' h3'
      have hsl : sl = #[k0, k1, k2, k3, some (.builtin "ValueError.__new__"), k5] := by
        obtain ⟨l⟩ := sl
        simp only at hs
        rw [hs]
      subst hsl
      exact ⟨nm, qn, ns, bs, bm, sn, sub, ab, col, dd, k0, k1, k2, k3, k5, ho, h6⟩
    · cases h
  · cases h
/-- the class x of an exception, y the class whose __init__ it has -/
def supB (K : PySem.W.Frag) (x y file : Str) : Bool :=
  clsO K (ga K x) && (decide (PySem.W.findIn K (.ref (ga K x)) "__setattr__" = some (some (.builtin "object.__setattr__"))) && (decide (PySem.W.subIn K (.ref (ga K x)) (.type "BaseException") = some true) && (decide (PySem.W.typeIn K (.ref (ga K x)) = some (.type "type")) && (PySem.W.keepIn K (.ref (ga K x)) &&
  (decide (PySem.W.mroIn K (ga K x) (.ref (ga K y)) = some true) && (decide (PySem.W.ks_superIn K (ga K x) (ga K y) "__init__" = some (some (.builtin "ValueError.__init__"))) && (decide (PySem.W.subIn K (.ref (ga K x)) (.type "ValueError") = some true) && (decide (PySem.W.findIn K (.ref (ga K x)) "value" = some none) &&
  (decide (PySem.W.nsIn K cStatics "thirdparty.any" = some none) && (decide (PySem.W.findIn K (.ref (ga K x)) "__init__" = some (some (.ref (ma K (ga K x) "__init__")))) && (decide (PySem.W.typeIn K (.ref (ma K (ga K x) "__init__")) = some (.type "function")) && ((PySem.W.clsIn K (ga K y)).isSome &&
  (match K.lookup (ma K (ga K x) "__init__") with
  | some ⟨_, _, .func fd, _⟩ => (match fd.closure, fd.code with
    | [(_, cc)], .ref cda => decide (fd.defaults = .none) && (PySem.W.codeIn K (.ref cda) fd.qualname && ((match K.lookup cda with
      | some ⟨_, _, .fields vs, _⟩ => (match vs.toList with
        | _ :: _ :: .str fl _ :: _ => file == fl
        | _ => false)
      | _ => false) && (match K.lookup cc with
      | some ⟨_, _, .cell (some (.ref d)), _⟩ => decide (d = ga K y)
      | _ => false)))
    | _, _ => false)
  | _ => false)))))))))))))
theorem supB_c {K : PySem.W.Frag} {x y file : Str} (h : supB K x y file = true) : SupC K (ga K x) (ga K y) ∧ PySem.W.findIn K (.ref (ga K x)) "__init__" = some (some (.ref (ma K (ga K x) "__init__"))) ∧ PySem.W.typeIn K (.ref (ma K (ga K x) "__init__")) = some (.type "function") := by
  unfold supB at h
  obtain ⟨h1, h⟩ := ba h
  obtain ⟨h2, h⟩ := ba h
  obtain ⟨h3, h⟩ := ba h
  obtain ⟨h4, h⟩ := ba h
  obtain ⟨h5, h⟩ := ba h
  obtain ⟨h6, h⟩ := ba h
  obtain ⟨h7, h⟩ := ba h
  obtain ⟨h8, h⟩ := ba h
  obtain ⟨h9, h⟩ := ba h
  obtain ⟨h10, h⟩ := ba h
  obtain ⟨h11, h⟩ := ba h
  obtain ⟨h12, h⟩ := ba h
  exact ⟨⟨⟨clsO_ok h1, of_decide_eq_true h2, of_decide_eq_true h3, of_decide_eq_true h4, h5⟩, of_decide_eq_true h6, of_decide_eq_true h7, of_decide_eq_true h8, of_decide_eq_true h9, of_decide_eq_true h10⟩, of_decide_eq_true h11, of_decide_eq_true h12⟩
theorem supB_f {P : Program} {K : PySem.W.Frag} {x y file qual : Str} {st : Stmt} {ar : Arg} (h : supB K x y file = true) (e : supW K x = supV st qual) (hP : P.main.file = file) (h1 : ((defArgs st).posonlyargs ++ (defArgs st).args).head? = some ar) (h2 : ar.arg = "self") :
    ∃ fd, SupF P K qual (defArgs st) (defBody st) (defScope st) (ma K (ga K x) "__init__") (ga K y) fd ∧ fd.defaults = .none := by
  unfold supB at h
  obtain ⟨_, h⟩ := ba h
  obtain ⟨_, h⟩ := ba h
  obtain ⟨_, h⟩ := ba h
  obtain ⟨_, h⟩ := ba h
  obtain ⟨_, h⟩ := ba h
  obtain ⟨_, h⟩ := ba h
  obtain ⟨_, h⟩ := ba h
  obtain ⟨_, h⟩ := ba h
  obtain ⟨_, h⟩ := ba h
  obtain ⟨_, h⟩ := ba h
  obtain ⟨_, h⟩ := ba h
  obtain ⟨_, h⟩ := ba h
  obtain ⟨hD, h⟩ := ba h
  obtain ⟨cdD, hD⟩ := Option.isSome_iff_exists.mp hD
  unfold supW at e
  split at h
  · rename_i oc od fd osl ho
    rw [ho] at e
    obtain ⟨n1, n2, n3, n4, n5, n6, n7, n8, n9, n10, n11, n12, n13, n14, n15⟩ := fd
    have e2 : (some (n1, n2, n3, n4, n5, n6, n7.map (·.1), n15) : NmS) = supV st qual := e
    unfold supV at e2
    simp only [Option.some.injEq, Prod.mk.injEq] at e2
    obtain ⟨e1, e2, e3, e4, e5, e6, e7, e8⟩ := e2
    subst e1 e2 e3 e4 e5 e6 e8
    dsimp only at h
    split at h
    · rename_i nm cc cda
      obtain ⟨k1, h⟩ := ba h
      obtain ⟨k2, h⟩ := ba h
      obtain ⟨k3, k4⟩ := ba h
      obtain rfl : nm = "__class__" := by simpa using e7
      split at k3
      · rename_i ccl cdd vs ccs hc
        split at k3
        · rename_i v0 v1 fl tf vr hv0
          have hv : vs[2]? = some (.str fl tf) := by rw [← Array.getElem?_toList, hv0]; rfl
          split at k4
          · rename_i cl cld d csl hcc
            obtain rfl := of_decide_eq_true k4
            exact ⟨_, ⟨oc, od, n8, n9, n10, n11, n12, n14, osl, cc, cda, ccl, cdd, vs, ccs, fl, tf, cl, cld, csl, cdD, ar, rfl, ho, k2, hc, hv, by rw [hP]; exact k3, hcc, hD, h1, h2⟩, of_decide_eq_true k1⟩
          · cases k4
        · cases k3
      · cases k3
    · cases h
  · cases h
/-- what isinstance and a field of a caught exception of the class x ask -/
def excB (K : PySem.W.Frag) (C : Addr) : Bool :=
  decide (PySem.W.findIn K (.ref C) "__getattribute__" = some (some (.builtin "BaseException.__getattribute__"))) && (decide (PySem.W.findIn K (.ref C) "__getattr__" = some none) && (decide (PySem.W.subIn K (.ref C) (.type "BaseException") = some true) && (PySem.W.hasDictIn K C && (decide (PySem.W.findIn K (.ref C) "__class__" = some (some (.builtin "object.__class__"))) &&
  (decide (PySem.W.specialIn K (.builtin "object.__class__") "__get__" = some (some (.builtin "getset_descriptor.__get__"))) && (decide (PySem.W.takesIn K (.builtin "object.__class__") = some true) && decide (PySem.W.mroIn K C (.type "object") = some true)))))))
theorem excB_ok {K : PySem.W.Frag} {C : Addr} (h : excB K C = true) : ExcC K C ∧ XfC K C := by
  unfold excB at h
  obtain ⟨h1, h⟩ := ba h
  obtain ⟨h2, h⟩ := ba h
  obtain ⟨h3, h⟩ := ba h
  obtain ⟨h4, h⟩ := ba h
  obtain ⟨h5, h⟩ := ba h
  obtain ⟨h6, h⟩ := ba h
  obtain ⟨h7, h8⟩ := ba h
  exact ⟨⟨of_decide_eq_true h1, of_decide_eq_true h2, of_decide_eq_true h3, h4, of_decide_eq_true h5, of_decide_eq_true h6, of_decide_eq_true h7, of_decide_eq_true h8⟩, ⟨of_decide_eq_true h1, of_decide_eq_true h2, of_decide_eq_true h3, h4⟩⟩
def asY (g : Addr → Option Obj) (n : Nat) : List Addr := asD g n ++ [cStatics]
abbrev AlY : Type := AlX × NmS
def obsY (n : Nat) (fa : List Fa) (fn : List DefD) (tf : List Defn) (x : Str) (ex : PySem.W.Frag → Bool) (g : Addr → Option Obj) : AlY := ((obsT fa fn [] (frT g (asY g n)), ex (frT g (asY g n)) && tabsB g tf (frT g (asY g n))), supW (frT g (asY g n)) x)
def valY (fn : List DefD) (st : Stmt) (qual : Str) (w : World) : AlY := (valX fn [] w, supV st qual)
/-- what is told -/
structure SaysY (fa : List Fa) (fn : List DefD) (tf : List Defn) (x : Str) (st : Stmt) (qual : Str) (ex : PySem.W.Frag → Bool) (w : World) (h : Heap) (K : PySem.W.Frag) : Prop where
  told : SaysX fa fn [] tf ex w h K
  ini : supW K x = supV st qual
theorem saysY_of {n : Nat} {fa : List Fa} {fn : List DefD} {tf : List Defn} {x : Str} {st : Stmt} {qual : Str} {ex : PySem.W.Frag → Bool} {w : World} {h : Heap} (e : obsY n fa fn tf x ex h.get? = valY fn st qual w) : SaysY fa fn tf x st qual ex w h (frT h.get? (asY h.get? n)) := by
  generalize hK : frT h.get? (asY h.get? n) = K
  have e0 : ((obsT fa fn [] K, ex K && tabsB h.get? tf K), supW K x) = valY fn st qual w := by rw [← hK]; exact e
  have e1 : obsT fa fn [] K = valT fn [] w := congrArg (fun z : AlY => z.1.1) e0
  have e2 : (ex K && tabsB h.get? tf K) = true := congrArg (fun z : AlY => z.1.2) e0
  obtain ⟨h1, h2⟩ := ba e2
  have key : ∀ p ∈ tf, PySem.W.codeHdIn K (cT K p).1 (cT K p).2 = true ∧ ∃ o, h.get? (cT K p).2 = some o ∧ emptyTab o = true := by
    intro p hp
    obtain ⟨h3, h4⟩ := ba (List.all_eq_true.mp h2 p hp)
    refine ⟨h3, ?_⟩
    cases q : h.get? (cT K p).2 with
    | some o => exact ⟨o, rfl, by rw [q] at h4; exact h4⟩
    | none => rw [q] at h4; cases h4
  refine ⟨⟨e1, h1, fun p hp => (key p hp).1, fun p hp => ?_, fun p hp => ?_⟩, congrArg (fun z : AlY => z.2) e0⟩
  · obtain ⟨_, o, q, z⟩ := key p hp
    rw [← hK] at q ⊢
    exact frT_none q z
  · obtain ⟨_, o, q, z⟩ := key p hp
    rw [q, emptyTab_eq z]
def hookY (n : Nat) (fa : List Fa) (fn : List DefD) (tf : List Defn) (x : Str) (st : Stmt) (qual : Str) (ex : PySem.W.Frag → Bool) : PySem.W.Hook where
  α := AlY
  obs := fun s => obsY n fa fn tf x ex s.heap.get?
  val := fun w => valY fn st qual w
  says := fun w h => ∃ K : PySem.W.Frag, K.In h ∧ SaysY fa fn tf x st qual ex w h K
  of := fun _ _ e => ⟨_, frT_in, saysY_of e⟩
  keeps := fun _ _ _ ⟨K, hK, c⟩ k => ⟨K, PySem.W.Frag.In.keeps hK k, ⟨⟨c.told.t, c.told.more, c.told.hd, c.told.out, fun p hp => k _ _ (c.told.empty p hp)⟩, c.ini⟩⟩
theorem obsY_eq {n : Nat} {fa : List Fa} {fn : List DefD} {tf : List Defn} {x : Str} {st : Stmt} {qual : Str} {ex : PySem.W.Frag → Bool} {g : Addr → Option Obj} {s : Shared} (h : ∀ a, g a = s.heap.get? a) : obsY n fa fn tf x ex g = (hookY n fa fn tf x st qual ex).obs s := by
  rw [show g = s.heap.get? from funext h] <;> rfl
end My
namespace My
open PySem PySem.Spec PyProof.Rows L2
abbrev FD (K : PySem.W.Frag) (st : Stmt) (x q : Str) (f : Addr) (fd : FuncData) : Prop := FunD K x q (defArgs st) (defBody st) (defScope st) [] [] f fd
def top (i : Nat) : Stmt := PySem.Challenge.pw_whereversent_k73_great_heads_put_togethe.main.body.getD i (.Pass ⟨0, 0, 0, 0⟩)
abbrev s__wall : Stmt := top 0
abbrev s_NetError___init__ : Stmt := inClass (top 2) 0
abbrev s_Trees___init__ : Stmt := inClass (top 12) 0
abbrev s_Trees_levels : Stmt := inClass (top 12) 1
abbrev s_Trees_node : Stmt := inClass (top 12) 2
abbrev s_Trees_level_of : Stmt := inClass (top 12) 3
abbrev s_Trees_halves : Stmt := inClass (top 12) 4
abbrev s_Trees_both : Stmt := inClass (top 12) 5
abbrev s_Trees_rest : Stmt := inClass (top 12) 6
abbrev s_Trees_either : Stmt := inClass (top 12) 7
abbrev s_Trees_without : Stmt := inClass (top 12) 8
abbrev s_Trees_together : Stmt := inClass (top 12) 9
abbrev s_Trees_row : Stmt := inClass (top 12) 10
abbrev s_Trees_freed : Stmt := inClass (top 12) 11
abbrev s_Trees_put : Stmt := inClass (top 12) 12
abbrev s_Trees_put_back : Stmt := inClass (top 12) 13
abbrev s_Trees_many : Stmt := inClass (top 12) 14
abbrev s_Trees_below : Stmt := inClass (top 12) 15
abbrev s_Trees_many_parts : Stmt := inClass (top 12) 16
abbrev s_Trees_first : Stmt := inClass (top 12) 17
abbrev s_Trees_has : Stmt := inClass (top 12) 18
abbrev s_Trees_parts : Stmt := inClass (top 12) 19
abbrev s_doubled : Stmt := top 13
abbrev s_is_integer : Stmt := top 15
abbrev s_is_between : Stmt := top 16
abbrev s_check_width : Stmt := top 23
abbrev s_is_row : Stmt := top 24
abbrev s_is_head_of : Stmt := top 25
abbrev s_is_pattern_of : Stmt := top 26
abbrev s_is_mask_of : Stmt := top 27
abbrev s_are_patterns : Stmt := top 28
abbrev s_signs_of : Stmt := top 29
abbrev s_tree_of : Stmt := top 30
abbrev s_told_heads : Stmt := top 31
abbrev s_is_heads_of : Stmt := top 32
abbrev s_check_heads : Stmt := top 33
abbrev s_check_head : Stmt := top 34
abbrev s_is_heads : Stmt := top 35
abbrev s_plain : Stmt := top 36
abbrev s_fits : Stmt := top 37
abbrev s_has_head : Stmt := top 38
abbrev s_both : Stmt := top 39
abbrev s_either : Stmt := top 40
abbrev s_others : Stmt := top 41
abbrev s_how_many : Stmt := top 42
abbrev s_head_of : Stmt := top 43
abbrev s_least_head : Stmt := top 44
abbrev s_check_mask : Stmt := top 45
abbrev s_put_into : Stmt := top 46
abbrev s_put_before : Stmt := top 47
abbrev s__law_take : Stmt := top 49
abbrev s__law_of : Stmt := top 50
abbrev s__law_row : Stmt := top 51
abbrev s__law_patterns : Stmt := top 52
abbrev s__law_put : Stmt := top 53
abbrev s__law_pot : Stmt := top 54
abbrev s__law_heard : Stmt := top 55
abbrev s__law_right : Stmt := top 56
abbrev s_law : Stmt := top 57
end My
namespace My
open PySem PySem.Spec PyProof.Rows L2 LamX Tr
section
variable {P : Program} {w : World} {K : PySem.W.Frag} {mg : Str → Option Value} {base : Heap} {C : Addr} {T : List (Addr × Str)}
def spNode (P : Program) (w : World) (T : List (Addr × Str)) (C : Addr) : Sp := fun vs H Q _ => ∃ (A : TA) (L l : Nat) (ts : List Tr.T) (n : Nat) (a b : Tr.T), vs = [.ref A.p, .int l, ixV ts a, ixV ts b] ∧ TreesAt P w T C A L H ts n ∧ a ∈ ts ∧ b ∈ ts ∧ Ok L (l + 1) a ∧ Ok L (l + 1) b ∧ l < L ∧ ts.length + 1 ≤ sizeLine ∧
  ∀ H' ts', Keep A H H' → TreesAt P w T C A L H' ts' n → ts <+: ts' → ts'.length ≤ ts.length + 1 → mk l a b ∈ ts' → Q (ixV ts' (mk l a b)) H'
theorem scNode : FnScope ["self", "level", "low", "high", "key"] ["self", "level", "low", "high"] (defScope s_Trees_node) := ⟨rfl, rfl, rfl, by decide +kernel, rfl, by decide +kernel, by decide +kernel⟩
theorem ok_node {f : Addr} {fd : FuncData} (F : FD K s_Trees_node "node" "Trees.node" f fd) (X : TxT K mg C) : FnOk P w K mg base (XC P w) 1 f fd ["self", "level", "low", "high"] (spNode P w T C) := by
  refine F.ok scNode (fun vs H Q E h => ?_) (fun cdv A outer s H vs Q E hr h => ?_)
  · obtain ⟨A, L, l, ts, n, a, b, rfl, _⟩ := h
    rfl
  · refine ⟨_, pss_cons (ps_if (pt_cmpR op_eq (pv 2) (pv 3) (nomark _)) (pss_one (ps_ret (pv 2))) pss_nil)
      (pss_cons (ps_set (i := 4) scNode.nd rfl (.inl rfl) (pe_tup (pa_cons (pv 1) (pa_cons (pv 2) (pa_cons (pv 3) pa_nil)))))
      (pss_cons (ps_if (pt_cmp (pc_dnotin (hu_of hr) (pv 4) (pe_fld (pv 0) rfl)))
        (pss_cons (ps_dput (hu_of hr) (pe_fld (pv 0) rfl) (pv 4) (pe_callB call_len (by rfl) X.b_len PySem.boot_len (pa_cons (pe_fld (pv 0) rfl) pa_nil)) rfl)
        (pss_cons (ps_expr (pe_bm PySem.F.plainAttrs_list PySem.F.slot_list_append PySem.F.type_list_append mt_append (pe_fld (pv 0) rfl) (pa_cons (pv 1) pa_nil)))
        (pss_cons (ps_expr (pe_bm PySem.F.plainAttrs_list PySem.F.slot_list_append PySem.F.type_list_append mt_append (pe_fld (pv 0) rfl) (pa_cons (pv 2) pa_nil)))
        (pss_one (ps_expr (pe_bm PySem.F.plainAttrs_list PySem.F.slot_list_append PySem.F.type_list_append mt_append (pe_fld (pv 0) rfl) (pa_cons (pv 3) pa_nil))))))) pss_nil)
      (pss_one (ps_ret (pe_dget (hu_of hr) (pe_fld (pv 0) rfl) (pv 4) (fun _ _ => rfl)))))), ?_⟩
    dsimp only [cxOf]
    obtain ⟨A, L, l, ts, n, a, b, rfl, x, ha, hb, oa, ob, hl, hz, k⟩ := h
    walk_at "sx"
    refine ⟨rfl, ?_⟩
    by_cases e1 : a = b
    · rw [if_pos (decide_eq_true (by rw [e1]))]
      have q := k H ts (Keep.refl _ _) x (List.prefix_refl _) (Nat.le_succ _)
      subst e1
      simp only [mk, if_true] at q
      exact q ha
    · rw [if_neg (fun z => e1 (ixV_inj ha hb (of_decide_eq_true z)))]
      have emk : mk l a b = .nd l a b := if_neg e1
      rw [emk] at k
      refine ⟨(by show 3 ≤ sizeLine; decide), fun q hq => ?_⟩
      have x1 := x.new (o := .tup [V.int l, ixV ts a, ixV ts b]) hq
      have hq1 : (upd H q (.tup [V.int l, ixV ts a, ixV ts b])) q = some (.tup ((k3 l (ixN ts a) (ixN ts b)).map kV)) := upd_same
      obtain ⟨kd, hkn, hko⟩ := x1.kn
      have N := x1.nes
      have hv := hko.val l a b ha hb
      refine rd_kn x1.ins X rfl ⟨_, rfl, _, DGet.t hkn hq1, ?_⟩
      rw [hv]
      by_cases hm : Tr.T.nd l a b ∈ ts
      · rw [if_pos hm] at hv ⊢
        refine rd_kn x1.ins X rfl ⟨_, rfl, _, hv ▸ DGet.t hkn hq1, ?_⟩
        exact k _ ts (Keep.of (ExtN.new hq)) x1 (List.prefix_refl _) (Nat.le_succ _) hm
      · rw [if_neg hm] at hv ⊢
        have hlen := hko.len
        refine rd_lv x1.ins X rfl ⟨ts.length, .inl ⟨_, SqL.of x1.lv, by rw [List.length_map]⟩, ?_⟩
        refine rd_kn x1.ins X rfl ⟨_, rfl, _, DPut.t hkn hq1 (by omega), ?_⟩
        refine rd_lv (by rw [upd_ne N.p4]; exact x1.ins) X rfl ⟨.inl ⟨rfl, _, SqL.of (by rw [upd_ne N.d3]; exact x1.lv)⟩, _, rfl, _, (by rw [upd_ne N.d3]; exact x1.lv), by rw [List.length_map]; omega, ?_⟩
        refine rd_lw (by rw [upd_ne N.p1, upd_ne N.p4]; exact x1.ins) X rfl ⟨.inl ⟨rfl, _, SqL.of (by rw [upd_ne N.d1.symm, upd_ne N.d6]; exact x1.lw)⟩, _, rfl, _, (by rw [upd_ne N.d1.symm, upd_ne N.d6]; exact x1.lw), by rw [List.length_map]; omega, ?_⟩
        refine rd_hg (by rw [upd_ne N.p2, upd_ne N.p1, upd_ne N.p4]; exact x1.ins) X rfl ⟨.inl ⟨rfl, _, SqL.of (by rw [upd_ne N.d5.symm, upd_ne N.d2.symm, upd_ne N.d8]; exact x1.hg)⟩, _, rfl, _, (by rw [upd_ne N.d5.symm, upd_ne N.d2.symm, upd_ne N.d8]; exact x1.hg), by rw [List.length_map]; omega, ?_⟩
        have x2 := x1.push hkn hko ha hb hm oa ob hl e1
        obtain ⟨kd2, hkn2, hko2⟩ := x2.kn
        have pre : ts <+: ts ++ [Tr.T.nd l a b] := List.prefix_append _ _
        have hm2 : Tr.T.nd l a b ∈ ts ++ [Tr.T.nd l a b] := List.mem_append_right _ (List.mem_singleton.mpr rfl)
        have hv2 := hko2.val l a b (pre.subset ha) (pre.subset hb)
        rw [if_pos hm2, ixN_pre pre ha, ixN_pre pre hb] at hv2
        have z1 : q ≠ A.hg := ne_of hq1 x1.hg (fun z => by cases z)
        have z2 : q ≠ A.lw := ne_of hq1 x1.lw (fun z => by cases z)
        have z3 : q ≠ A.lv := ne_of hq1 x1.lv (fun z => by cases z)
        have z4 : q ≠ A.kn := ne_of hq1 hkn (fun z => by cases z)
        refine rd_kn x2.ins X rfl ⟨_, rfl, _, hv2 ▸ DGet.t hkn2 (by rw [upd_ne z1, upd_ne z2, upd_ne z3, upd_ne z4]; exact hq1), ?_⟩
        refine k _ _ (fun c u e nt nm => ?_) x2 pre (by rw [List.length_append]; exact Nat.le_refl _) hm2
        simp only [TA.muts, List.mem_cons, List.not_mem_nil, or_false, not_or] at nm
        rw [upd_ne nm.2.2.1, upd_ne nm.2.1, upd_ne nm.1, upd_ne nm.2.2.2.1, upd_ne (ne_of_none e hq)]
        exact e
end
end My
namespace My
open PySem PySem.Spec PyProof.Rows L2 LamX Tr
section
variable {P : Program} {w : World} {K : PySem.W.Frag} {mg : Str → Option Value} {base : Heap} {C : Addr} {T : List (Addr × Str)}
theorem sz_small {n : Nat} (h : n ≤ 1000) : n ≤ sizeLine := Nat.le_trans h (by decide)
theorem lo_ne {L l : Nat} {t : Tr.T} (h : lev L t ≠ l) : lo l t = t ∧ hi l t = t := by
  cases t with
  | no => exact ⟨rfl, rfl⟩
  | all => exact ⟨rfl, rfl⟩
  | nd m a b => exact ⟨if_neg h, if_neg h⟩
theorem lo_eq {L l : Nat} {t : Tr.T} (h : lev L t = l) (hl : l < L) : loC t = lo l t ∧ hiC t = hi l t := by
  cases t with
  | no => exact absurd h (fun z => by have : L = l := z; omega)
  | all => exact absurd h (fun z => by have : L = l := z; omega)
  | nd m a b => exact ⟨(if_pos h).symm, (if_pos h).symm⟩
/-- the halves of a tree below a level -/
def spHalves (P : Program) (w : World) (T : List (Addr × Str)) (C : Addr) : Sp := fun vs H Q _ => ∃ (A : TA) (L l : Nat) (ts : List Tr.T) (n : Nat) (a : Tr.T), vs = [.ref A.p, ixV ts a, .int l] ∧ TreesAt P w T C A L H ts n ∧ a ∈ ts ∧ l < L ∧
  ∀ q, H q = none → Q (.ref q) (upd H q (.tup [ixV ts (lo l a), ixV ts (hi l a)]))
theorem sc_Trees_halves : FnScope ["self", "tree", "level"] ["self", "tree", "level"] (defScope s_Trees_halves) := ⟨rfl, rfl, rfl, by decide +kernel, rfl, by decide +kernel, by decide +kernel⟩
theorem ok_halves {f : Addr} {fd : FuncData} (F : FD K s_Trees_halves "halves" "Trees.halves" f fd) (X : TxT K mg C) : FnOk P w K mg base (XC P w) 1 f fd ["self", "tree", "level"] (spHalves P w T C) := by
  refine F.ok sc_Trees_halves (fun vs H Q E h => ?_) (fun cdv A outer s H vs Q E hr h => ?_)
  · obtain ⟨A, L, l, ts, n, a, rfl, _⟩ := h
    rfl
  · refine ⟨_, (pss_cons (ps_if (pt_cmpR op_ne (pe_ix ix_list (pe_fld (pv 0) rfl) (pv 1) (fun _ _ => rfl)) (pv 2) (nomark _)) (pss_one (ps_ret (pe_tup (pa_cons (pv 1) (pa_cons (pv 1) pa_nil))))) pss_nil)
      (pss_one (ps_ret (pe_tup (pa_cons (pe_ix ix_list (pe_fld (pv 0) rfl) (pv 1) (fun _ _ => rfl)) (pa_cons (pe_ix ix_list (pe_fld (pv 0) rfl) (pv 1) (fun _ _ => rfl)) pa_nil)))))), ?_⟩
    dsimp only [cxOf]
    obtain ⟨A, L, l, ts, n, a, rfl, x, ha, hl, k⟩ := h
    walk_at "sx"
    refine rd_lv x.ins X rfl ⟨_, rfl, _, _, rfl, SqL.of x.lv, _, atI_ix ha, rfl, ?_⟩
    by_cases e : lev L a = l
    · rw [if_neg (by rw [e]; simp)]
      obtain ⟨e1, e2⟩ := lo_eq e hl
      refine rd_lw x.ins X rfl ⟨_, rfl, _, _, rfl, SqL.of x.lw, _, atI_ix ha, ?_⟩
      refine rd_hg x.ins X rfl ⟨_, rfl, _, _, rfl, SqL.of x.hg, _, atI_ix ha, sz_small (by decide), fun q hq => ?_⟩
      rw [e1, e2]
      exact k q hq
    · rw [if_pos (decide_eq_false (fun z => e (by injection z with z; omega)))]
      obtain ⟨e1, e2⟩ := lo_ne e
      rw [e1, e2] at k
      exact ⟨sz_small (by decide), k⟩
end
end My
namespace My
open PySem PySem.Spec PyProof.Rows L2 LamX Tr
section
variable {P : Program} {w : World} {K : PySem.W.Frag} {mg : Str → Option Value} {base : Heap} {C : Addr} {T : List (Addr × Str)}
def spBoth (P : Program) (w : World) (T : List (Addr × Str)) (C : Addr) (d : Nat) : Sp := fun vs H Q _ => ∃ (A : TA) (L l : Nat) (ts : List Tr.T) (n : Nat) (a b : Tr.T), vs = [.ref A.p, ixV ts a, ixV ts b] ∧ TreesAt P w T C A L H ts n ∧ a ∈ ts ∧ b ∈ ts ∧ Ok L l a ∧ Ok L l b ∧ L ≤ l + d ∧ ts.length + (2 ^ d - 1) ≤ sizeLine ∧ n + (2 ^ d - 1) ≤ sizeLine ∧
  ∀ H' ts' r, Keep A H H' → TreesAt P w T C A L H' ts' (n + (2 ^ d - 1)) → ts <+: ts' → ts'.length ≤ ts.length + (2 ^ d - 1) → r ∈ ts' → Ok L l r → (∀ x, ev r x = (ev a x && ev b x)) → Q (ixV ts' r) H'
theorem sc_Trees_both : FnScope ["self", "one", "other", "key", "level", "low", "high", "less", "more"] ["self", "one", "other"] (defScope s_Trees_both) := ⟨rfl, rfl, rfl, by decide +kernel, rfl, by decide +kernel, by decide +kernel⟩
theorem ok_both_step {f : Addr} {fd : FuncData} (F : FD K s_Trees_both "both" "Trees.both" f fd) (X : TxT K mg C) (M_node : MtG P w K mg base C 1 "node" ["self", "level", "low", "high"] (spNode P w T C)) (M_halves : MtG P w K mg base C 1 "halves" ["self", "tree", "level"] (spHalves P w T C))
    {d : Nat} {spR : Sp} (M_both : MtG P w K mg base C (d + 1) "both" ["self", "one", "other"] spR) (hd : ∀ e, d = e + 1 → spR = spBoth P w T C e) : FnOk P w K mg base (XC P w) (d + 2) f fd ["self", "one", "other"] (spBoth P w T C d) := by
  refine F.ok sc_Trees_both (fun vs H Q E h => ?_) (fun cdv A outer s H vs Q E hr h => ?_)
  · obtain ⟨A, L, l, ts, n, a, b, rfl, _⟩ := h
    rfl
  · refine ⟨_, (pss_cons (ps_if (PW.pt (pw_or (pt_cmpR op_eq (pv 1) (pe_gint X.c_NOTHING) (nomark _)) (pw_or1 (pt_cmpR op_eq (pv 2) (pe_gint X.c_NOTHING) (nomark _))))) (pss_one (ps_ret (pe_gint X.c_NOTHING))) pss_nil)
      (pss_cons (ps_if (PW.pt (pw_or (pt_cmpR op_eq (pv 1) (pe_gint X.c_ALL) (nomark _)) (pw_or1 (pt_cmpR op_eq (pv 1) (pv 2) (nomark _))))) (pss_one (ps_ret (pv 2))) pss_nil)
      (pss_cons (ps_if (pt_cmpR op_eq (pv 2) (pe_gint X.c_ALL) (nomark _)) (pss_one (ps_ret (pv 1))) pss_nil)
      (pss_cons (ps_set (i := 3) sc_Trees_both.nd rfl (Or.inl rfl) (pe_tup (pa_cons pe_str (pa_cons (pe_callB (call_min2 rfl) (by rfl) X.b_min (by decide +kernel) (pa_cons (pv 1) (pa_cons (pv 2) pa_nil))) (pa_cons (pe_callB (call_max2 rfl) (by rfl) X.b_max (by decide +kernel) (pa_cons (pv 1) (pa_cons (pv 2) pa_nil))) pa_nil)))))
      (pss_cons (ps_if (pt_cmp (pc_nnotin (hu16 hr) (pv 3) (pe_fld (pv 0) rfl))) (pss_cons (ps_set (i := 4) sc_Trees_both.nd rfl (Or.inl rfl) (pe_callB (call_min2 rfl) (by rfl) X.b_min (by decide +kernel) (pa_cons (pe_ix ix_list (pe_fld (pv 0) rfl) (pv 1) (fun _ _ => rfl)) (pa_cons (pe_ix ix_list (pe_fld (pv 0) rfl) (pv 2) (fun _ _ => rfl)) pa_nil))))
      (pss_cons (ps_asg (pe_mt (pv 0) M_halves (hr.mono (by first | omega | decide)) passE0 (pa_cons (pv 1) (pa_cons (pv 4) pa_nil))) (pg_tup (by rfl) (pgs_cons (pg_name (i := 5) sc_Trees_both.nd rfl (Or.inl rfl)) (pgs_cons (pg_name (i := 6) sc_Trees_both.nd rfl (Or.inl rfl)) pgs_nil))))
      (pss_cons (ps_asg (pe_mt (pv 0) M_halves (hr.mono (by first | omega | decide)) passE0 (pa_cons (pv 2) (pa_cons (pv 4) pa_nil))) (pg_tup (by rfl) (pgs_cons (pg_name (i := 7) sc_Trees_both.nd rfl (Or.inl rfl)) (pgs_cons (pg_name (i := 8) sc_Trees_both.nd rfl (Or.inl rfl)) pgs_nil))))
      (pss_one (ps_nput (hu16 hr) (pe_fld (pv 0) rfl) (pv 3) (pe_mt (pv 0) M_node (hr.mono (by first | omega | decide)) passE0 (pa_cons (pv 4) (pa_cons (pe_mt (pv 0) M_both (hr.mono (by first | omega | decide)) passE0 (pa_cons (pv 5) (pa_cons (pv 7) pa_nil))) (pa_cons (pe_mt (pv 0) M_both (hr.mono (by first | omega | decide)) passE0 (pa_cons (pv 6) (pa_cons (pv 8) pa_nil))) pa_nil)))) rfl))))) pss_nil)
      (pss_one (ps_ret (pe_nget (hu16 hr) (pe_fld (pv 0) rfl) (pv 3) (fun _ _ => rfl))))))))), ?_⟩
    dsimp only [cxOf]
    obtain ⟨A, L, l, ts, n, a, b, rfl, x, ha, hb, oa, ob, hl, hz, hn, k⟩ := h
    walk_at "sx"
    have bot : ∀ r : Tr.T, r ∈ ts → Ok L l r → (∀ x, ev r x = (ev a x && ev b x)) → Q (ixV ts r) H := fun r hr hok hev => k H ts r (Keep.refl A H) (x.mono (Nat.le_add_right _ _)) (List.prefix_refl _) (Nat.le_add_right _ _) hr hok hev
    refine ⟨rfl, ?_⟩
    split
    next q =>
      have z := (x.wf.mem_ix ha (of_decide_eq_true q)).1 rfl
      subst z
      rw [← x.wf.ix_no]
      exact bot _ ha trivial (fun _ => rfl)
    next a0 =>
    refine ⟨rfl, ?_⟩
    split
    next q =>
      have z := (x.wf.mem_ix hb (of_decide_eq_true q)).1 rfl
      subst z
      rw [← x.wf.ix_no]
      exact bot _ hb trivial (fun _ => (Bool.and_false _).symm)
    next b0 =>
    refine ⟨rfl, ?_⟩
    split
    next q =>
      have z := (x.wf.mem_ix ha (of_decide_eq_true q)).2 rfl
      subst z
      exact bot _ hb ob (fun _ => rfl)
    next a1 =>
    refine ⟨rfl, ?_⟩
    split
    next q =>
      have z := ixV_inj ha hb (of_decide_eq_true q)
      subst z
      exact bot _ hb ob (fun _ => (Bool.and_self _).symm)
    next ab =>
    refine ⟨rfl, ?_⟩
    split
    next q =>
      have z := (x.wf.mem_ix hb (of_decide_eq_true q)).2 rfl
      subst z
      exact bot _ ha oa (fun _ => (Bool.and_true _).symm)
    next b1 =>
    have na := node_of oa (fun z => a0 (decide_eq_true (by rw [z, x.wf.ix_no]))) (fun z => a1 (decide_eq_true (by rw [z, x.wf.ix_all])))
    have nb := node_of ob (fun z => b0 (decide_eq_true (by rw [z, x.wf.ix_no]))) (fun z => b1 (decide_eq_true (by rw [z, x.wf.ix_all])))
    obtain ⟨e, rfl⟩ : ∃ e, d = e + 1 := ⟨d - 1, by omega⟩
    have hs := hd e rfl
    subst hs
    refine ⟨_, rfl, _, rfl, _, rfl, _, rfl, sz_small (by decide), fun p hp => ?_⟩
    obtain ⟨c, g, hc, hg, q1, q2, q3⟩ := idx_pair ha hb
    rw [q1, q2]
    have x1 := x.new (o := HO.tup [V.str (Str.ofString "both"), V.int (ixN ts c : Nat), V.int (ixN ts g : Nat)]) hp
    obtain ⟨td, g1, g2, g3⟩ := x1.td
    have hev : ∀ y, (ev c y && ev g y) = (ev a y && ev b y) := fun y => by
      rcases q3 with ⟨rfl, rfl⟩ | ⟨rfl, rfl⟩
      · rfl
      · exact Bool.and_comm _ _
    have hkv : ∀ {H' : Hp}, H' p = some (HO.tup [V.str (Str.ofString "both"), V.int (ixN ts c : Nat), V.int (ixN ts g : Nat)]) → KeyV H' (.tup [.text "both", .num (ixN ts c), .num (ixN ts g)]) (.ref p) := fun h => .tup h (.cons (.text _) (.cons (.num _) (.cons (.num _) .nil)))
    have hdp : (NestedKey.tup [.text "both", .num (ixN ts c), .num (ixN ts g)]).depth ≤ 8 := by simp [NestedKey.depth, NestedKey.depthAll]
    refine rd_td x1.ins X rfl ⟨_, rfl, td, g1, _, hkv upd_same, hdp, ?_⟩
    cases hv : valV td (.tup [.text "both", .num (ixN ts c), .num (ixN ts g)]) with
    | some v =>
      rw [if_neg (by simp)]
      obtain ⟨r, r1, rfl, r2⟩ := TdEnt.both_inv hc hg (g2 _ _ hv)
      refine rd_td x1.ins X rfl ⟨_, rfl, td, g1, _, hkv upd_same, hdp, _, hv, ?_⟩
      refine k _ ts r (Keep.of (ExtN.new hp)) (x1.mono (Nat.le_add_right _ _)) (List.prefix_refl _) (Nat.le_add_right _ _) r1 (ok_indep (x.wf.ok r r1) fun y z hyz => ?_) (fun y => (r2 y).trans (hev y))
      rw [r2, r2, hev, hev, ev_congr oa hyz, ev_congr ob hyz]
    | none =>
      rw [if_pos (show (none : Option V).isSome = false from rfl)]
      refine rd_lv x1.ins X rfl ⟨_, rfl, _, _, rfl, SqL.of x1.lv, _, atI_ix ha, rd_lv x1.ins X rfl ⟨_, rfl, _, _, rfl, SqL.of x1.lv, _, atI_ix hb, _, rfl, _, rfl, _, _, x1.ins, by rfl, ?_⟩⟩
      rw [min_lev]
      refine ⟨A, L, _, ts, n, a, rfl, x1, ha, by omega, fun p2 hp2 => ⟨p2, rfl, _, .of upd_same, rfl, ?_⟩⟩
      have hm : min (lev L a) (lev L b) < L := by omega
      have oa2 : Ok L (min (lev L a) (lev L b)) a := oa.up (by omega) na.2
      have ob2 : Ok L (min (lev L a) (lev L b)) b := ob.up (by omega) nb.2
      have hlm : l ≤ min (lev L a) (lev L b) := by omega
      generalize min (lev L a) (lev L b) = m at hm oa2 ob2 hlm hp2 ⊢
      have ep : 2 ^ (e + 1) = 2 * 2 ^ e := by rw [Nat.pow_succ, Nat.mul_comm]
      have e0 := two_pow_pos e
      have x2 := x1.new (o := HO.tup [ixV ts (Tr.lo m a), ixV ts (hi m a)]) hp2
      refine ⟨_, _, rfl, _, _, rfl, rfl, _, _, x2.ins, by rfl, A, L, m, ts, n, b, rfl, x2, hb, hm, fun p3 hp3 => ?_⟩
      have x3 := x2.new (o := HO.tup [ixV ts (Tr.lo m b), ixV ts (hi m b)]) hp3
      have K0 : Keep A H _ := ((Keep.of (A := A) (ExtN.new hp)).trans (Keep.of (ExtN.new hp2))).trans (Keep.of (ExtN.new (o := HO.tup [ixV ts (Tr.lo m b), ixV ts (hi m b)]) hp3))
      refine ⟨p3, rfl, _, .of upd_same, rfl, _, _, rfl, _, _, rfl, rfl, _, _, x3.ins, by rfl, _, _, x3.ins, by rfl, ?_⟩
      refine ⟨A, L, m + 1, ts, n, Tr.lo m a, Tr.lo m b, rfl, x3, x.wf.lo ha m, x.wf.lo hb m, oa2.lo, ob2.lo, by omega, by omega, by omega, fun H1 ts1 r1 K1 y1 pre1 len1 m1 o1 ev1 => ?_⟩
      refine ⟨_, _, y1.ins, by rfl, A, L, m + 1, ts1, n + (2 ^ e - 1), hi m a, hi m b, by rw [ixV_pre pre1 (x.wf.hi ha m), ixV_pre pre1 (x.wf.hi hb m)], y1, pre1.subset (x.wf.hi ha m), pre1.subset (x.wf.hi hb m), oa2.hi, ob2.hi, by omega, by omega, by omega, fun H2 ts2 r2 K2 y2 pre2 len2 m2 o2 ev2 => ?_⟩
      refine ⟨A, L, m, ts2, n + (2 ^ e - 1) + (2 ^ e - 1), r1, r2, by rw [ixV_pre pre2 m1], y2, pre2.subset m1, m2, o1, o2, hm, by omega, fun H3 ts3 K3 y3 pre3 len3 m3 => ?_⟩
      have hpH : H3 p = some (HO.tup [V.str (Str.ofString "both"), V.int (ixN ts c : Nat), V.int (ixN ts g : Nat)]) := by
        have nt : ∀ ps, HO.tup [V.str (Str.ofString "both"), V.int (ixN ts c : Nat), V.int (ixN ts g : Nat)] ≠ HO.tbl ps := fun _ z => by cases z
        have nm := x.fresh hp
        exact K3 _ _ (K2 _ _ (K1 _ _ (ExtN.new hp3 _ _ (ExtN.new hp2 _ _ upd_same nt) nt) nt nm) nt nm) nt nm
      obtain ⟨td3, g31, g32, g33⟩ := y3.td
      have pre := (pre1.trans pre2).trans pre3
      have evr : ∀ y, ev (mk m r1 r2) y = (ev c y && ev g y) := fun y => by
        rw [hev, ev_mk, ev1, ev2, ev_halves oa2 y, ev_halves ob2 y]
        split <;> rfl
      refine rd_td y3.ins X rfl ⟨_, rfl, td3, g31, _, hkv hpH, hdp, by omega, fun H4 hput => ?_⟩
      have y4 := y3.told g32 g33 hput (.bothAt pre hc hg m3 evr)
      refine rd_td y4.ins X rfl ⟨_, rfl, _, hput.1, _, hkv ((hput.2 _ (not_td (x.fresh hp))).trans hpH), hdp, _, by rw [valV_put, if_pos rfl], ?_⟩
      exact k H4 ts3 _ (K0.trans ((K1.trans K2).trans (K3.trans (Keep.put hput)))) (y4.mono (by omega)) pre (by omega) m3 (Ok.mk o1 o2 hlm hm) (fun y => (evr y).trans (hev y))
end
end My
namespace My
open PySem PySem.Spec PyProof.Rows L2 LamX Tr
section
variable {P : Program} {w : World} {K : PySem.W.Frag} {mg : Str → Option Value} {base : Heap} {C : Addr} {T : List (Addr × Str)}
def spEither (P : Program) (w : World) (T : List (Addr × Str)) (C : Addr) (d : Nat) : Sp := fun vs H Q _ => ∃ (A : TA) (L l : Nat) (ts : List Tr.T) (n : Nat) (a b : Tr.T), vs = [.ref A.p, ixV ts a, ixV ts b] ∧ TreesAt P w T C A L H ts n ∧ a ∈ ts ∧ b ∈ ts ∧ Ok L l a ∧ Ok L l b ∧ L ≤ l + d ∧ ts.length + (2 ^ d - 1) ≤ sizeLine ∧ n + (2 ^ d - 1) ≤ sizeLine ∧
  ∀ H' ts' r, Keep A H H' → TreesAt P w T C A L H' ts' (n + (2 ^ d - 1)) → ts <+: ts' → ts'.length ≤ ts.length + (2 ^ d - 1) → r ∈ ts' → Ok L l r → (∀ x, ev r x = (ev a x || ev b x)) → Q (ixV ts' r) H'
theorem sc_Trees_either : FnScope ["self", "one", "other", "key", "level", "low", "high", "less", "more"] ["self", "one", "other"] (defScope s_Trees_either) := ⟨rfl, rfl, rfl, by decide +kernel, rfl, by decide +kernel, by decide +kernel⟩
theorem ok_either_step {f : Addr} {fd : FuncData} (F : FD K s_Trees_either "either" "Trees.either" f fd) (X : TxT K mg C) (M_node : MtG P w K mg base C 1 "node" ["self", "level", "low", "high"] (spNode P w T C)) (M_halves : MtG P w K mg base C 1 "halves" ["self", "tree", "level"] (spHalves P w T C))
    {d : Nat} {spR : Sp} (M_either : MtG P w K mg base C (d + 1) "either" ["self", "one", "other"] spR) (hd : ∀ e, d = e + 1 → spR = spEither P w T C e) : FnOk P w K mg base (XC P w) (d + 2) f fd ["self", "one", "other"] (spEither P w T C d) := by
  refine F.ok sc_Trees_either (fun vs H Q E h => ?_) (fun cdv A outer s H vs Q E hr h => ?_)
  · obtain ⟨A, L, l, ts, n, a, b, rfl, _⟩ := h
    rfl
  · refine ⟨_, (pss_cons (ps_if (PW.pt (pw_or (pt_cmpR op_eq (pv 1) (pe_gint X.c_ALL) (nomark _)) (pw_or1 (pt_cmpR op_eq (pv 2) (pe_gint X.c_ALL) (nomark _))))) (pss_one (ps_ret (pe_gint X.c_ALL))) pss_nil)
      (pss_cons (ps_if (PW.pt (pw_or (pt_cmpR op_eq (pv 1) (pe_gint X.c_NOTHING) (nomark _)) (pw_or1 (pt_cmpR op_eq (pv 1) (pv 2) (nomark _))))) (pss_one (ps_ret (pv 2))) pss_nil)
      (pss_cons (ps_if (pt_cmpR op_eq (pv 2) (pe_gint X.c_NOTHING) (nomark _)) (pss_one (ps_ret (pv 1))) pss_nil)
      (pss_cons (ps_set (i := 3) sc_Trees_either.nd rfl (Or.inl rfl) (pe_tup (pa_cons pe_str (pa_cons (pe_callB (call_min2 rfl) (by rfl) X.b_min (by decide +kernel) (pa_cons (pv 1) (pa_cons (pv 2) pa_nil))) (pa_cons (pe_callB (call_max2 rfl) (by rfl) X.b_max (by decide +kernel) (pa_cons (pv 1) (pa_cons (pv 2) pa_nil))) pa_nil)))))
      (pss_cons (ps_if (pt_cmp (pc_nnotin (hu16 hr) (pv 3) (pe_fld (pv 0) rfl))) (pss_cons (ps_set (i := 4) sc_Trees_either.nd rfl (Or.inl rfl) (pe_callB (call_min2 rfl) (by rfl) X.b_min (by decide +kernel) (pa_cons (pe_ix ix_list (pe_fld (pv 0) rfl) (pv 1) (fun _ _ => rfl)) (pa_cons (pe_ix ix_list (pe_fld (pv 0) rfl) (pv 2) (fun _ _ => rfl)) pa_nil))))
      (pss_cons (ps_asg (pe_mt (pv 0) M_halves (hr.mono (by first | omega | decide)) passE0 (pa_cons (pv 1) (pa_cons (pv 4) pa_nil))) (pg_tup (by rfl) (pgs_cons (pg_name (i := 5) sc_Trees_either.nd rfl (Or.inl rfl)) (pgs_cons (pg_name (i := 6) sc_Trees_either.nd rfl (Or.inl rfl)) pgs_nil))))
      (pss_cons (ps_asg (pe_mt (pv 0) M_halves (hr.mono (by first | omega | decide)) passE0 (pa_cons (pv 2) (pa_cons (pv 4) pa_nil))) (pg_tup (by rfl) (pgs_cons (pg_name (i := 7) sc_Trees_either.nd rfl (Or.inl rfl)) (pgs_cons (pg_name (i := 8) sc_Trees_either.nd rfl (Or.inl rfl)) pgs_nil))))
      (pss_one (ps_nput (hu16 hr) (pe_fld (pv 0) rfl) (pv 3) (pe_mt (pv 0) M_node (hr.mono (by first | omega | decide)) passE0 (pa_cons (pv 4) (pa_cons (pe_mt (pv 0) M_either (hr.mono (by first | omega | decide)) passE0 (pa_cons (pv 5) (pa_cons (pv 7) pa_nil))) (pa_cons (pe_mt (pv 0) M_either (hr.mono (by first | omega | decide)) passE0 (pa_cons (pv 6) (pa_cons (pv 8) pa_nil))) pa_nil)))) rfl))))) pss_nil)
      (pss_one (ps_ret (pe_nget (hu16 hr) (pe_fld (pv 0) rfl) (pv 3) (fun _ _ => rfl))))))))), ?_⟩
    dsimp only [cxOf]
    obtain ⟨A, L, l, ts, n, a, b, rfl, x, ha, hb, oa, ob, hl, hz, hn, k⟩ := h
    walk_at "sx"
    have bot : ∀ r : Tr.T, r ∈ ts → Ok L l r → (∀ x, ev r x = (ev a x || ev b x)) → Q (ixV ts r) H := fun r hr hok hev => k H ts r (Keep.refl A H) (x.mono (Nat.le_add_right _ _)) (List.prefix_refl _) (Nat.le_add_right _ _) hr hok hev
    refine ⟨rfl, ?_⟩
    split
    next q =>
      have z := (x.wf.mem_ix ha (of_decide_eq_true q)).2 rfl
      subst z
      rw [← x.wf.ix_all]
      exact bot _ ha trivial (fun _ => rfl)
    next a0 =>
    refine ⟨rfl, ?_⟩
    split
    next q =>
      have z := (x.wf.mem_ix hb (of_decide_eq_true q)).2 rfl
      subst z
      rw [← x.wf.ix_all]
      exact bot _ hb trivial (fun _ => (Bool.or_true _).symm)
    next b0 =>
    refine ⟨rfl, ?_⟩
    split
    next q =>
      have z := (x.wf.mem_ix ha (of_decide_eq_true q)).1 rfl
      subst z
      exact bot _ hb ob (fun _ => rfl)
    next a1 =>
    refine ⟨rfl, ?_⟩
    split
    next q =>
      have z := ixV_inj ha hb (of_decide_eq_true q)
      subst z
      exact bot _ hb ob (fun _ => (Bool.or_self _).symm)
    next ab =>
    refine ⟨rfl, ?_⟩
    split
    next q =>
      have z := (x.wf.mem_ix hb (of_decide_eq_true q)).1 rfl
      subst z
      exact bot _ ha oa (fun _ => (Bool.or_false _).symm)
    next b1 =>
    have na := node_of oa (fun z => a1 (decide_eq_true (by rw [z, x.wf.ix_no]))) (fun z => a0 (decide_eq_true (by rw [z, x.wf.ix_all])))
    have nb := node_of ob (fun z => b1 (decide_eq_true (by rw [z, x.wf.ix_no]))) (fun z => b0 (decide_eq_true (by rw [z, x.wf.ix_all])))
    obtain ⟨e, rfl⟩ : ∃ e, d = e + 1 := ⟨d - 1, by omega⟩
    have hs := hd e rfl
    subst hs
    refine ⟨_, rfl, _, rfl, _, rfl, _, rfl, sz_small (by decide), fun p hp => ?_⟩
    obtain ⟨c, g, hc, hg, q1, q2, q3⟩ := idx_pair ha hb
    rw [q1, q2]
    have x1 := x.new (o := HO.tup [V.str (Str.ofString "either"), V.int (ixN ts c : Nat), V.int (ixN ts g : Nat)]) hp
    obtain ⟨td, g1, g2, g3⟩ := x1.td
    have hev : ∀ y, (ev c y || ev g y) = (ev a y || ev b y) := fun y => by
      rcases q3 with ⟨rfl, rfl⟩ | ⟨rfl, rfl⟩
      · rfl
      · exact Bool.or_comm _ _
    have hkv : ∀ {H' : Hp}, H' p = some (HO.tup [V.str (Str.ofString "either"), V.int (ixN ts c : Nat), V.int (ixN ts g : Nat)]) → KeyV H' (.tup [.text "either", .num (ixN ts c), .num (ixN ts g)]) (.ref p) := fun h => .tup h (.cons (.text _) (.cons (.num _) (.cons (.num _) .nil)))
    have hdp : (NestedKey.tup [.text "either", .num (ixN ts c), .num (ixN ts g)]).depth ≤ 8 := by simp [NestedKey.depth, NestedKey.depthAll]
    refine rd_td x1.ins X rfl ⟨_, rfl, td, g1, _, hkv upd_same, hdp, ?_⟩
    cases hv : valV td (.tup [.text "either", .num (ixN ts c), .num (ixN ts g)]) with
    | some v =>
      rw [if_neg (by simp)]
      obtain ⟨r, r1, rfl, r2⟩ := TdEnt.either_inv hc hg (g2 _ _ hv)
      refine rd_td x1.ins X rfl ⟨_, rfl, td, g1, _, hkv upd_same, hdp, _, hv, ?_⟩
      refine k _ ts r (Keep.of (ExtN.new hp)) (x1.mono (Nat.le_add_right _ _)) (List.prefix_refl _) (Nat.le_add_right _ _) r1 (ok_indep (x.wf.ok r r1) fun y z hyz => ?_) (fun y => (r2 y).trans (hev y))
      rw [r2, r2, hev, hev, ev_congr oa hyz, ev_congr ob hyz]
    | none =>
      rw [if_pos (show (none : Option V).isSome = false from rfl)]
      refine rd_lv x1.ins X rfl ⟨_, rfl, _, _, rfl, SqL.of x1.lv, _, atI_ix ha, rd_lv x1.ins X rfl ⟨_, rfl, _, _, rfl, SqL.of x1.lv, _, atI_ix hb, _, rfl, _, rfl, _, _, x1.ins, by rfl, ?_⟩⟩
      rw [min_lev]
      refine ⟨A, L, _, ts, n, a, rfl, x1, ha, by omega, fun p2 hp2 => ⟨p2, rfl, _, .of upd_same, rfl, ?_⟩⟩
      have hm : min (lev L a) (lev L b) < L := by omega
      have oa2 : Ok L (min (lev L a) (lev L b)) a := oa.up (by omega) na.2
      have ob2 : Ok L (min (lev L a) (lev L b)) b := ob.up (by omega) nb.2
      have hlm : l ≤ min (lev L a) (lev L b) := by omega
      generalize min (lev L a) (lev L b) = m at hm oa2 ob2 hlm hp2 ⊢
      have ep : 2 ^ (e + 1) = 2 * 2 ^ e := by rw [Nat.pow_succ, Nat.mul_comm]
      have e0 := two_pow_pos e
      have x2 := x1.new (o := HO.tup [ixV ts (Tr.lo m a), ixV ts (hi m a)]) hp2
      refine ⟨_, _, rfl, _, _, rfl, rfl, _, _, x2.ins, by rfl, A, L, m, ts, n, b, rfl, x2, hb, hm, fun p3 hp3 => ?_⟩
      have x3 := x2.new (o := HO.tup [ixV ts (Tr.lo m b), ixV ts (hi m b)]) hp3
      have K0 : Keep A H _ := ((Keep.of (A := A) (ExtN.new hp)).trans (Keep.of (ExtN.new hp2))).trans (Keep.of (ExtN.new (o := HO.tup [ixV ts (Tr.lo m b), ixV ts (hi m b)]) hp3))
      refine ⟨p3, rfl, _, .of upd_same, rfl, _, _, rfl, _, _, rfl, rfl, _, _, x3.ins, by rfl, _, _, x3.ins, by rfl, ?_⟩
      refine ⟨A, L, m + 1, ts, n, Tr.lo m a, Tr.lo m b, rfl, x3, x.wf.lo ha m, x.wf.lo hb m, oa2.lo, ob2.lo, by omega, by omega, by omega, fun H1 ts1 r1 K1 y1 pre1 len1 m1 o1 ev1 => ?_⟩
      refine ⟨_, _, y1.ins, by rfl, A, L, m + 1, ts1, n + (2 ^ e - 1), hi m a, hi m b, by rw [ixV_pre pre1 (x.wf.hi ha m), ixV_pre pre1 (x.wf.hi hb m)], y1, pre1.subset (x.wf.hi ha m), pre1.subset (x.wf.hi hb m), oa2.hi, ob2.hi, by omega, by omega, by omega, fun H2 ts2 r2 K2 y2 pre2 len2 m2 o2 ev2 => ?_⟩
      refine ⟨A, L, m, ts2, n + (2 ^ e - 1) + (2 ^ e - 1), r1, r2, by rw [ixV_pre pre2 m1], y2, pre2.subset m1, m2, o1, o2, hm, by omega, fun H3 ts3 K3 y3 pre3 len3 m3 => ?_⟩
      have hpH : H3 p = some (HO.tup [V.str (Str.ofString "either"), V.int (ixN ts c : Nat), V.int (ixN ts g : Nat)]) := by
        have nt : ∀ ps, HO.tup [V.str (Str.ofString "either"), V.int (ixN ts c : Nat), V.int (ixN ts g : Nat)] ≠ HO.tbl ps := fun _ z => by cases z
        have nm := x.fresh hp
        exact K3 _ _ (K2 _ _ (K1 _ _ (ExtN.new hp3 _ _ (ExtN.new hp2 _ _ upd_same nt) nt) nt nm) nt nm) nt nm
      obtain ⟨td3, g31, g32, g33⟩ := y3.td
      have pre := (pre1.trans pre2).trans pre3
      have evr : ∀ y, ev (mk m r1 r2) y = (ev c y || ev g y) := fun y => by
        rw [hev, ev_mk, ev1, ev2, ev_halves oa2 y, ev_halves ob2 y]
        split <;> rfl
      refine rd_td y3.ins X rfl ⟨_, rfl, td3, g31, _, hkv hpH, hdp, by omega, fun H4 hput => ?_⟩
      have y4 := y3.told g32 g33 hput (.eitherAt pre hc hg m3 evr)
      refine rd_td y4.ins X rfl ⟨_, rfl, _, hput.1, _, hkv ((hput.2 _ (not_td (x.fresh hp))).trans hpH), hdp, _, by rw [valV_put, if_pos rfl], ?_⟩
      exact k H4 ts3 _ (K0.trans ((K1.trans K2).trans (K3.trans (Keep.put hput)))) (y4.mono (by omega)) pre (by omega) m3 (Ok.mk o1 o2 hlm hm) (fun y => (evr y).trans (hev y))
end
end My
namespace My
open PySem PySem.Spec PyProof.Rows L2 LamX Tr
section
variable {P : Program} {w : World} {K : PySem.W.Frag} {mg : Str → Option Value} {base : Heap} {C : Addr} {T : List (Addr × Str)}
def spRest (P : Program) (w : World) (T : List (Addr × Str)) (C : Addr) (d : Nat) : Sp := fun vs H Q _ => ∃ (A : TA) (L l : Nat) (ts : List Tr.T) (n : Nat) (a : Tr.T), vs = [.ref A.p, ixV ts a] ∧ TreesAt P w T C A L H ts n ∧ a ∈ ts ∧ Ok L l a ∧ L ≤ l + d ∧ ts.length + (2 ^ d - 1) ≤ sizeLine ∧ n + (2 ^ d - 1) ≤ sizeLine ∧
  ∀ H' ts' r, Keep A H H' → TreesAt P w T C A L H' ts' (n + (2 ^ d - 1)) → ts <+: ts' → ts'.length ≤ ts.length + (2 ^ d - 1) → r ∈ ts' → Ok L l r → (∀ x, ev r x = !ev a x) → Q (ixV ts' r) H'
theorem sc_Trees_rest : FnScope ["self", "tree", "key", "low", "high"] ["self", "tree"] (defScope s_Trees_rest) := ⟨rfl, rfl, rfl, by decide +kernel, rfl, by decide +kernel, by decide +kernel⟩
theorem ok_rest_step {f : Addr} {fd : FuncData} (F : FD K s_Trees_rest "rest" "Trees.rest" f fd) (X : TxT K mg C) (M_node : MtG P w K mg base C 1 "node" ["self", "level", "low", "high"] (spNode P w T C))
    {d : Nat} {spR : Sp} (M_rest : MtG P w K mg base C (d + 1) "rest" ["self", "tree"] spR) (hd : ∀ e, d = e + 1 → spR = spRest P w T C e) : FnOk P w K mg base (XC P w) (d + 2) f fd ["self", "tree"] (spRest P w T C d) := by
  refine F.ok sc_Trees_rest (fun vs H Q E h => ?_) (fun cdv A outer s H vs Q E hr h => ?_)
  · obtain ⟨A, L, l, ts, n, a, rfl, _⟩ := h
    rfl
  · refine ⟨_, (pss_cons (ps_if (pt_cmpR op_in_seq (pv 1) (pe_tup (pa_cons (pe_gint X.c_NOTHING) (pa_cons (pe_gint X.c_ALL) pa_nil))) (by rfl)) (pss_one (ps_ret (pe_op op_sub (pe_gint X.c_ALL) (pv 1)))) pss_nil)
      (pss_cons (ps_set (i := 2) sc_Trees_rest.nd rfl (Or.inl rfl) (pe_tup (pa_cons pe_str (pa_cons (pv 1) pa_nil))))
      (pss_cons (ps_if (pt_cmp (pc_nnotin (hu16 hr) (pv 2) (pe_fld (pv 0) rfl))) (pss_cons (ps_par (i := 3) (j := 4) (by rfl) sc_Trees_rest.nd rfl rfl (by decide) rfl rfl (pa_cons (pe_mt (pv 0) M_rest (hr.mono (by first | omega | decide)) passE0 (pa_cons (pe_ix ix_list (pe_fld (pv 0) rfl) (pv 1) (fun _ _ => rfl)) pa_nil)) (pa_cons (pe_mt (pv 0) M_rest (hr.mono (by first | omega | decide)) passE0 (pa_cons (pe_ix ix_list (pe_fld (pv 0) rfl) (pv 1) (fun _ _ => rfl)) pa_nil)) pa_nil)) (by rfl))
      (pss_one (ps_nput (hu16 hr) (pe_fld (pv 0) rfl) (pv 2) (pe_mt (pv 0) M_node (hr.mono (by first | omega | decide)) passE0 (pa_cons (pe_ix ix_list (pe_fld (pv 0) rfl) (pv 1) (fun _ _ => rfl)) (pa_cons (pv 3) (pa_cons (pv 4) pa_nil)))) rfl))) pss_nil)
      (pss_one (ps_ret (pe_nget (hu16 hr) (pe_fld (pv 0) rfl) (pv 2) (fun _ _ => rfl))))))), ?_⟩
    dsimp only [cxOf]
    obtain ⟨A, L, l, ts, n, a, rfl, x, ha, oa, hl, hz, hn, k⟩ := h
    walk_at "sx"
    refine ⟨sz_small (by decide), fun p hp => ?_⟩
    have x0 := x.new (o := HO.tup [V.int 0, V.int 1]) hp
    refine ⟨_, .inr (.of upd_same), rfl, rfl, ?_⟩
    have bot : ∀ r : Tr.T, r ∈ ts → Ok L l r → (∀ x, ev r x = !ev a x) → Q (ixV ts r) (upd H p (HO.tup [V.int 0, V.int 1])) := fun r hr hok hev => k _ ts r (Keep.of (ExtN.new hp)) (x0.mono (Nat.le_add_right _ _)) (List.prefix_refl _) (Nat.le_add_right _ _) hr hok hev
    split
    next q =>
      rcases (inV01 x.wf ha).mp q with rfl | rfl
      · refine ⟨_, rfl, ?_⟩
        have z := bot .all x.wf.all trivial (fun _ => rfl)
        rw [x.wf.ix_all] at z
        have e : ((ixN ts Tr.T.no : Nat) : Int) = 0 := by have := x.wf.ix_no; unfold ixV at this; injection this
        rw [e]
        exact z
      · refine ⟨_, rfl, ?_⟩
        have z := bot .no x.wf.no trivial (fun _ => rfl)
        rw [x.wf.ix_no] at z
        have e : ((ixN ts Tr.T.all : Nat) : Int) = 1 := by have := x.wf.ix_all; unfold ixV at this; injection this
        rw [e]
        exact z
    next q =>
    have na := node_of oa (fun z => q ((inV01 x.wf ha).mpr (.inl z))) (fun z => q ((inV01 x.wf ha).mpr (.inr z)))
    obtain ⟨m, a0, a1, rfl⟩ : ∃ m a0 a1, a = .nd m a0 a1 := by
      cases a with
      | no => exact absurd ((inV01 x.wf ha).mpr (.inl rfl)) q
      | all => exact absurd ((inV01 x.wf ha).mpr (.inr rfl)) q
      | nd m a0 a1 => exact ⟨m, a0, a1, rfl⟩
    obtain ⟨hlm, hm, hne, o0, o1⟩ := oa
    have h01 := x.wf.cl _ _ _ ha
    obtain ⟨e, rfl⟩ : ∃ e, d = e + 1 := ⟨d - 1, by omega⟩
    have hs := hd e rfl
    subst hs
    have ep : 2 ^ (e + 1) = 2 * 2 ^ e := by rw [Nat.pow_succ, Nat.mul_comm]
    have e0 := two_pow_pos e
    refine ⟨sz_small (by decide), fun p1 hp1 => ?_⟩
    have x1 := x0.new (o := HO.tup [V.str (Str.ofString "rest"), ixV ts (.nd m a0 a1)]) hp1
    obtain ⟨td, g1, g2, g3⟩ := x1.td
    have hkv : ∀ {H' : Hp}, H' p1 = some (HO.tup [V.str (Str.ofString "rest"), ixV ts (.nd m a0 a1)]) → KeyV H' (.tup [.text "rest", .num (ixN ts (.nd m a0 a1))]) (.ref p1) := fun h => .tup h (.cons (.text _) (.cons (.num _) .nil))
    have hdp : (NestedKey.tup [.text "rest", .num (ixN ts (.nd m a0 a1))]).depth ≤ 8 := by simp [NestedKey.depth, NestedKey.depthAll]
    have K0 : Keep A H _ := (Keep.of (A := A) (ExtN.new hp)).trans (Keep.of (ExtN.new (o := HO.tup [V.str (Str.ofString "rest"), ixV ts (.nd m a0 a1)]) hp1))
    refine rd_td x1.ins X rfl ⟨_, rfl, td, g1, _, hkv upd_same, hdp, ?_⟩
    cases hv : valV td (.tup [.text "rest", .num (ixN ts (.nd m a0 a1))]) with
    | some v =>
      rw [if_neg (by simp)]
      obtain ⟨r, r1, rfl, r2⟩ := TdEnt.rest_inv ha (g2 _ _ hv)
      refine rd_td x1.ins X rfl ⟨_, rfl, td, g1, _, hkv upd_same, hdp, _, hv, ?_⟩
      refine k _ ts r K0 (x1.mono (Nat.le_add_right _ _)) (List.prefix_refl _) (Nat.le_add_right _ _) r1 (ok_indep (x.wf.ok r r1) fun y z hyz => ?_) r2
      rw [r2, r2, ev_congr (t := .nd m a0 a1) ⟨hlm, hm, hne, o0, o1⟩ hyz]
    | none =>
      rw [if_pos (show (none : Option V).isSome = false from rfl)]
      refine ⟨_, _, x1.ins, by rfl, rd_lw x1.ins X rfl ⟨_, rfl, _, _, rfl, SqL.of x1.lw, _, atI_ix ha, ?_⟩⟩
      refine ⟨A, L, m + 1, ts, n, a0, rfl, x1, h01.1, o0, by omega, by omega, by omega, fun H1 ts1 r1 K1 y1 pre1 len1 m1 k1 ev1 => ?_⟩
      have ia : ixV ts1 (.nd m a0 a1) = ixV ts (.nd m a0 a1) := ixV_pre pre1 ha
      have ha1 := pre1.subset ha
      refine ⟨_, _, y1.ins, by rfl, rd_hg y1.ins X rfl ⟨_, rfl, _, _, ia.symm, SqL.of y1.hg, _, atI_ix ha1, ?_⟩⟩
      refine ⟨A, L, m + 1, ts1, n + (2 ^ e - 1), a1, rfl, y1, pre1.subset h01.2, o1, by omega, by omega, by omega, fun H2 ts2 r2 K2 y2 pre2 len2 m2 k2 ev2 => ?_⟩
      have ia2 : ixV ts2 (.nd m a0 a1) = ixV ts (.nd m a0 a1) := ixV_pre (pre1.trans pre2) ha
      refine ⟨_, _, y2.ins, by rfl, rd_lv y2.ins X rfl ⟨_, rfl, _, _, ia2.symm, SqL.of y2.lv, _, atI_ix (pre2.subset ha1), ?_⟩⟩
      refine ⟨A, L, m, ts2, n + (2 ^ e - 1) + (2 ^ e - 1), r1, r2, by rw [ixV_pre pre2 m1]; rfl, y2, pre2.subset m1, m2, k1, k2, hm, by omega, fun H3 ts3 K3 y3 pre3 len3 m3 => ?_⟩
      have nm := x0.fresh hp1
      have hpH : H3 p1 = some (HO.tup [V.str (Str.ofString "rest"), ixV ts (.nd m a0 a1)]) := by
        have nt : ∀ ps, HO.tup [V.str (Str.ofString "rest"), ixV ts (.nd m a0 a1)] ≠ HO.tbl ps := fun _ z => by cases z
        exact K3 _ _ (K2 _ _ (K1 _ _ upd_same nt nm) nt nm) nt nm
      obtain ⟨td3, g31, g32, g33⟩ := y3.td
      have pre := (pre1.trans pre2).trans pre3
      have evr : ∀ y, ev (mk m r1 r2) y = !ev (.nd m a0 a1) y := fun y => by
        rw [ev_mk, ev1, ev2]
        show _ = !(if y m = true then ev a1 y else ev a0 y)
        split <;> rfl
      refine rd_td y3.ins X rfl ⟨_, rfl, td3, g31, _, hkv hpH, hdp, by omega, fun H4 hput => ?_⟩
      have y4 := y3.told g32 g33 hput (.restAt pre ha m3 evr)
      refine rd_td y4.ins X rfl ⟨_, rfl, _, hput.1, _, hkv ((hput.2 _ (not_td nm)).trans hpH), hdp, _, by rw [valV_put, if_pos rfl], ?_⟩
      exact k H4 ts3 _ (K0.trans ((K1.trans K2).trans (K3.trans (Keep.put hput)))) (y4.mono (by omega)) pre (by omega) m3 (Ok.mk k1 k2 hlm hm) evr
end
end My
namespace My
open PySem PySem.Spec PyProof.Rows L2 LamX Tr
section
variable {P : Program} {w : World} {K : PySem.W.Frag} {mg : Str → Option Value} {base : Heap} {C : Addr} {T : List (Addr × Str)}
def spTogether (P : Program) (w : World) (T : List (Addr × Str)) (C : Addr) (d : Nat) : Sp := fun vs H Q _ => ∃ (A : TA) (L : Nat) (ts : List Tr.T) (n : Nat) (q : Addr) (fs : List Tr.T), vs = [.ref A.p, .ref q] ∧ TreesAt P w T C A L H ts n ∧ H q = some (.lst (fs.map (ixV ts))) ∧ q ∉ A.muts ∧ (∀ t, t ∈ fs → t ∈ ts) ∧ L ≤ d ∧ ts.length + fs.length * (2 ^ d - 1) ≤ sizeLine ∧ n + fs.length * (2 ^ d - 1) ≤ sizeLine ∧
  ∀ H' ts' r, Keep A H H' → TreesAt P w T C A L H' ts' (n + fs.length * (2 ^ d - 1)) → ts <+: ts' → ts'.length ≤ ts.length + fs.length * (2 ^ d - 1) → r ∈ ts' → (∀ x, ev r x = fs.any fun t => ev t x) → Q (ixV ts' r) H'
theorem sc_Trees_together : FnScope ["self", "some", "found", "tree"] ["self", "some"] (defScope s_Trees_together) := ⟨rfl, rfl, rfl, by decide +kernel, rfl, by decide +kernel, by decide +kernel⟩
theorem ok_together {f : Addr} {fd : FuncData} (F : FD K s_Trees_together "together" "Trees.together" f fd) (X : TxT K mg C)
    {d : Nat} (M_either : MtG P w K mg base C (d + 2) "either" ["self", "one", "other"] (spEither P w T C d)) : FnOk P w K mg base (XC P w) (d + 3) f fd ["self", "some"] (spTogether P w T C d) := by
  refine F.ok sc_Trees_together (fun vs H Q E h => ?_) (fun cdv A outer s H vs Q E hr h => ?_)
  · obtain ⟨A, L, ts, n, q, fs, rfl, _⟩ := h
    rfl
  · refine ⟨_, (pss_cons (ps_set (i := 2) sc_Trees_together.nd rfl (Or.inl rfl) (pe_gint X.c_NOTHING))
      (pss_cons (ps_for (passes_of rfl) rfl (pi_list (pv 1)) (pg_name (i := 3) sc_Trees_together.nd rfl (Or.inl rfl))
      (pss_one (ps_set (i := 2) sc_Trees_together.nd rfl (Or.inl rfl) (pe_mt (pv 0) M_either (hr.mono (by first | omega | decide)) passE0 (pa_cons (pv 2) (pa_cons (pv 3) pa_nil))))))
      (pss_one (ps_ret (pv 2))))), ?_⟩
    dsimp only [cxOf]
    obtain ⟨A, L, ts, n, q, fs, rfl, x, hq, hqm, hfs, hl, hz, hn, k⟩ := h
    walk_at "sx"
    refine ⟨_, rfl, q, rfl, ⟨_, SqL.of hq⟩, for_list (K := K) (a := q) (xs := fs.map (ixV ts)) (fun i σ H' => ∃ ts' r o, σ = [some (.ref A.p), some (.ref q), some (ixV ts' r), o] ∧ Keep A H H' ∧ TreesAt P w T C A L H' ts' (n + i * (2 ^ d - 1)) ∧ ts <+: ts' ∧ ts'.length ≤ ts.length + i * (2 ^ d - 1) ∧ r ∈ ts' ∧ ∀ x, ev r x = (fs.take i).any fun t => ev t x) ?_ ?_ ?_ ?_⟩
    · exact ⟨ts, .no, none, by rw [x.wf.ix_no], Keep.refl A H, by rw [Nat.zero_mul]; exact x, List.prefix_refl _, by omega, x.wf.no, fun _ => rfl⟩
    · rintro i σ H' _ ⟨ts', r, o, _, K1, _⟩
      exact SqL.of (K1 _ _ hq (fun _ z => by cases z) hqm)
    · rintro i v σ H' hi ⟨ts', r, o, rfl, K1, y, pre, len, hr', hev⟩
      obtain ⟨t, ht, rfl⟩ : ∃ t, fs[i]? = some t ∧ ixV ts t = v := by
        rw [List.getElem?_map] at hi
        cases e : fs[i]? with
        | none => rw [e] at hi; cases hi
        | some t => rw [e] at hi; exact ⟨t, rfl, Option.some.inj hi⟩
      have hts : t ∈ ts := hfs t (List.mem_of_getElem? ht)
      have hi2 := (List.getElem?_eq_some_iff.mp ht).1
      have e1 : (i + 1) * (2 ^ d - 1) = i * (2 ^ d - 1) + (2 ^ d - 1) := Nat.succ_mul _ _
      have e2 : (i + 1) * (2 ^ d - 1) ≤ fs.length * (2 ^ d - 1) := Nat.mul_le_mul_right _ hi2
      walk_at "sx"
      refine ⟨_, _, y.ins, by rfl, A, L, 0, ts', n + i * (2 ^ d - 1), r, t, by rw [ixV_pre pre hts], y, hr', pre.subset hts, y.wf.ok _ hr', x.wf.ok _ hts, by omega, by omega, by omega, fun H2 ts2 r2 K2 y2 pre2 len2 m2 o2 ev2 => ?_⟩
      refine ⟨ts2, r2, rfl, K1.trans K2, y2.mono (by omega), pre.trans pre2, by omega, m2, fun x => ?_⟩
      rw [ev2, hev, List.take_add_one, ht, List.any_append]
      simp
    · rintro σ H' ⟨ts', r, o, rfl, K1, y, pre, len, hr', hev⟩
      rw [List.length_map] at y len hev
      rw [List.take_length] at hev
      exact ⟨_, rfl, k H' ts' r K1 y pre len hr' hev⟩
def spDoubled : Sp := fun vs H Q _ => ∃ n : Nat, vs = [.int n] ∧ n ≤ 1000 ∧ Q (.int (2 ^ n : Nat)) H
theorem sc_doubled : FnScope ["times", "found", "lap"] ["times"] (defScope s_doubled) := ⟨rfl, rfl, rfl, by decide +kernel, rfl, by decide +kernel, by decide +kernel⟩
theorem ok_doubled {f : Addr} {fd : FuncData} (F : FD K s_doubled "doubled" "doubled" f fd) (X : TxT K mg C) : FnOk P w K mg base (XC P w) 1 f fd ["times"] spDoubled := by
  refine F.ok sc_doubled (fun vs H Q E h => ?_) (fun cdv A outer s H vs Q E hr h => ?_)
  · obtain ⟨n, rfl, _⟩ := h
    rfl
  · refine ⟨_, (pss_cons (ps_set (i := 1) sc_doubled.nd rfl (Or.inl rfl) pe_int)
      (pss_cons (ps_for (passes_of rfl) rfl (pi_range1 (by rfl) X.b_range (pa_cons (pv 0) pa_nil)) (pg_name (i := 2) sc_doubled.nd rfl (Or.inl rfl))
      (pss_one (ps_set (i := 1) sc_doubled.nd rfl (Or.inl rfl) (pe_op op_mul (pv 1) pe_int))))
      (pss_one (ps_ret (pv 1))))), ?_⟩
    obtain ⟨n, rfl, hn, k⟩ := h
    walk_at "sx"
    have hb : (n : Int) < 2 ^ 62 := by omega
    refine ⟨_, rfl, n, rfl, by omega, hb, ?_⟩
    refine for_range (fun i σ H' => ∃ o, σ = [some (.int n), some (.int (2 ^ i : Nat)), o] ∧ H' = H) ⟨none, rfl, rfl⟩ ?_ ?_
    · rintro i σ H' hi ⟨o, rfl, rfl⟩
      walk_at "sx"
      exact ⟨.inr (by omega), by rw [Nat.pow_succ]; push_cast; rfl⟩
    · rintro σ H' ⟨o, rfl, rfl⟩
      refine ⟨_, rfl, ?_⟩
      rw [Int.toNat_natCast]
      exact k
end
end My
namespace My
open PySem PySem.Spec PyProof.Rows L2 LamX Tr
section
variable {P : Program} {w : World} {K : PySem.W.Frag} {mg : Str → Option Value} {base : Heap} {C : Addr} {T : List (Addr × Str)}
def spRow (P : Program) (w : World) (T : List (Addr × Str)) (C : Addr) : Sp := fun vs H Q _ => ∃ (A : TA) (L : Nat) (ts : List Tr.T) (n : Nat) (q : Addr) (sg : List (Nat × Bool)), vs = [.ref A.p, .ref q] ∧ TreesAt P w T C A L H ts n ∧ H q = some (.dK (sgD sg)) ∧ (sg.map (·.1)).Nodup ∧ (∀ p, p ∈ sg → p.1 < L) ∧ ts.length + sg.length ≤ sizeLine ∧
  ∀ H' ts' r, Keep A H H' → TreesAt P w T C A L H' ts' n → ts <+: ts' → ts'.length ≤ ts.length + sg.length → r ∈ ts' → (∀ x, ev r x = sg.all fun p => x p.1 == p.2) → Q (ixV ts' r) H'
theorem sc_Trees_row : FnScope ["self", "signs", "found", "level"] ["self", "signs"] (defScope s_Trees_row) := ⟨rfl, rfl, rfl, by decide +kernel, rfl, by decide +kernel, by decide +kernel⟩
theorem ok_row {f : Addr} {fd : FuncData} (F : FD K s_Trees_row "row" "Trees.row" f fd) (X : TxT K mg C) (M_node : MtG P w K mg base C 1 "node" ["self", "level", "low", "high"] (spNode P w T C)) : FnOk P w K mg base (XC P w) 2 f fd ["self", "signs"] (spRow P w T C) := by
  refine F.ok sc_Trees_row (fun vs H Q E h => ?_) (fun cdv A outer s H vs Q E hr h => ?_)
  · obtain ⟨A, L, ts, n, q, sg, rfl, _⟩ := h
    rfl
  · refine ⟨_, (pss_cons (ps_set (i := 2) sc_Trees_row.nd rfl (Or.inl rfl) (pe_gint X.c_ALL))
      (pss_cons (ps_for (passes_of rfl) rfl (pi_list (pe_callBK (cr_sortedDRev (b := true) rfl) (by rfl) X.b_sorted (by decide +kernel) (pa_cons (pv 1) pa_nil) (pk_cons pe_bl pk_nil))) (pg_name (i := 3) sc_Trees_row.nd rfl (Or.inl rfl))
      (pss_one (ps_set (i := 2) sc_Trees_row.nd rfl (Or.inl rfl) (pe_ifExp (pt_cmpR op_eq (pe_dget (hu_of hr) (pv 1) (pv 3) (fun _ _ => rfl)) pe_int (nomark _)) (pe_mt (pv 0) M_node (hr.mono (by first | omega | decide)) passE0 (pa_cons (pv 3) (pa_cons (pe_gint X.c_NOTHING) (pa_cons (pv 2) pa_nil)))) (pe_mt (pv 0) M_node (hr.mono (by first | omega | decide)) passE0 (pa_cons (pv 3) (pa_cons (pv 2) (pa_cons (pe_gint X.c_NOTHING) pa_nil))))))))
      (pss_one (ps_ret (pv 2))))), ?_⟩
    dsimp only [cxOf]
    obtain ⟨A, L, ts, n, q, sg, rfl, x, hq, hnd, hlv, hz, k⟩ := h
    walk_at "sx"
    refine ⟨_, rfl, ?_⟩
    have hks : (sgD sg).map (·.1) = (sg.map fun p => (p.1 : Int)).map Sum.inl := by simp [sgD]
    refine ⟨q, _, _, rfl, rfl, .inl hq, hks, by rw [List.length_map]; omega, fun ys p hperm hord hp => ?_⟩
    obtain ⟨zs, rfl⟩ : ∃ zs : List Nat, ys = zs.map fun (i : Nat) => (i : Int) := by
      refine ⟨ys.map Int.toNat, ?_⟩
      rw [List.map_map]
      refine (List.map_id ys).symm.trans (List.map_congr_left fun i hi => ?_)
      obtain ⟨p, _, rfl⟩ := List.mem_map.mp (hperm.subset hi)
      simp
    have hzp : zs.Perm (sg.map (·.1)) := by
      have e : (sg.map fun p => (p.1 : Int)) = (sg.map (·.1)).map fun (i : Nat) => (i : Int) := by simp
      rw [e] at hperm
      have := hperm.map Int.toNat
      rw [List.map_map, List.map_map] at this
      have e2 : (Int.toNat ∘ fun (i : Nat) => (i : Int)) = id := funext fun i => Int.toNat_natCast i
      rw [e2, List.map_id, List.map_id] at this
      exact this
    have hzl : zs.length = sg.length := by rw [hzp.length_eq, List.length_map]
    have hdesc : zs.Pairwise (fun a b => b < a) := by
      have h1 : zs.Nodup := hzp.nodup_iff.mpr hnd
      have h2 : (zs.map fun (i : Nat) => (i : Int)).Pairwise (· ≥ ·) := hord
      rw [List.pairwise_map] at h2
      exact (h1.and h2).imp fun ⟨a, b⟩ => by omega
    have x1 := x.new (o := .lst ((zs.map fun (i : Nat) => (i : Int)).map V.int)) hp
    have hval : ∀ k, k ∈ zs → ∃ b : Bool, (k, b) ∈ sg ∧ valV (sgD sg) (.inl (k : Int)) = some (.int (if b = true then 1 else 0)) := fun k hk => by
      obtain ⟨⟨k', b⟩, hb, rfl⟩ := List.mem_map.mp (hzp.subset hk)
      exact ⟨b, hb, valV_sgD hnd hb⟩
    refine ⟨p, rfl, ⟨_, SqL.of upd_same⟩, for_list (K := K) (a := p) (xs := (zs.map fun (i : Nat) => (i : Int)).map V.int) (fun i σ H' => ∃ ts' r o, σ = [some (.ref A.p), some (.ref q), some (ixV ts' r), o] ∧ Keep A (upd H p (.lst ((zs.map fun (i : Nat) => (i : Int)).map V.int))) H' ∧ TreesAt P w T C A L H' ts' n ∧ ts <+: ts' ∧ ts'.length ≤ ts.length + i ∧ r ∈ ts' ∧ (∀ j k, i ≤ j → zs[j]? = some k → Ok L (k + 1) r) ∧ ∀ x, ev r x = sg.all fun p => x p.1 == p.2 || !(zs.take i).contains p.1) ?_ ?_ ?_ ?_⟩
    · exact ⟨ts, .all, none, by rw [x.wf.ix_all], Keep.refl A _, x1, List.prefix_refl _, by omega, x.wf.all, fun _ _ _ _ => trivial, fun _ => by simp [ev]⟩
    · rintro i σ H' _ ⟨ts', r, o, _, K1, _⟩
      exact SqL.of (K1 _ _ upd_same (fun _ z => by cases z) (x.fresh hp))
    · rintro i v σ H' hi ⟨ts', r, o, rfl, K1, y, pre, len, hr', hok, hev⟩
      obtain ⟨k0, hk0, rfl⟩ : ∃ k0 : Nat, zs[i]? = some k0 ∧ V.int k0 = v := by
        rw [List.map_map, List.getElem?_map] at hi
        cases e : zs[i]? with
        | none => rw [e] at hi; cases hi
        | some t => rw [e] at hi; exact ⟨t, rfl, Option.some.inj hi⟩
      have hi2 := (List.getElem?_eq_some_iff.mp hk0).1
      obtain ⟨b, hb, hv⟩ := hval k0 (List.mem_of_getElem? hk0)
      have hkL := hlv _ hb
      have hqH : H' q = some (.dK (sgD sg)) := K1 _ _ (by rw [upd_ne (ne_of_none hq hp)]; exact hq) (fun _ z => by cases z) (x.not_mut hq)
      walk_at "sx"
      refine ⟨_, hv ▸ DGet.k (k := .inl (k0 : Int)) hqH, rfl, ?_⟩
      have hnext : ∀ j k, i + 1 ≤ j → zs[j]? = some k → k < k0 := fun j k hj hk => List.pairwise_iff_getElem.mp hdesc i j hi2 (List.getElem?_eq_some_iff.mp hk).1 (by omega) |> fun h => by
        rw [(List.getElem?_eq_some_iff.mp hk0).2, (List.getElem?_eq_some_iff.mp hk).2] at h
        exact h
      have hok0 := hok i k0 (Nat.le_refl _) hk0
      cases b with
      | true =>
        rw [if_pos (by rfl)]
        refine ⟨_, _, y.ins, by rfl, A, L, k0, ts', n, .no, r, by rw [y.wf.ix_no], y, y.wf.no, hr', trivial, hok0, hkL, by omega, fun H2 ts2 K2 y2 pre2 len2 m2 => ?_⟩
        refine ⟨ts2, _, rfl, K1.trans K2, y2, pre.trans pre2, by omega, m2, fun j k hj hk => (Ok.mk (k := k0) (show Ok L (k0 + 1) .no from trivial) hok0 (Nat.le_refl _) hkL).mono (hnext j k hj hk), fun x => ?_⟩
        rw [step_all hnd hk0 hb, ev_mk, hev]
        cases x k0 <;> rfl
      | false =>
        rw [if_neg (by decide)]
        refine ⟨_, _, y.ins, by rfl, A, L, k0, ts', n, r, .no, by rw [y.wf.ix_no], y, hr', y.wf.no, hok0, trivial, hkL, by omega, fun H2 ts2 K2 y2 pre2 len2 m2 => ?_⟩
        refine ⟨ts2, _, rfl, K1.trans K2, y2, pre.trans pre2, by omega, m2, fun j k hj hk => (Ok.mk (k := k0) hok0 (show Ok L (k0 + 1) .no from trivial) (Nat.le_refl _) hkL).mono (hnext j k hj hk), fun x => ?_⟩
        rw [step_all hnd hk0 hb, ev_mk, hev]
        cases x k0 <;> rfl
    · rintro σ H' ⟨ts', r, o, rfl, K1, y, pre, len, hr', hok, hev⟩
      refine ⟨_, rfl, k H' ts' r ((Keep.of (ExtN.new hp)).trans K1) y pre (by rw [List.length_map, List.length_map] at len; omega) hr' fun x => ?_⟩
      rw [hev, List.length_map, List.length_map, List.take_length, Bool.eq_iff_iff]
      simp only [List.all_eq_true]
      refine forall_congr' fun p => forall_congr' fun hp => ?_
      have hm : p.1 ∈ zs := hzp.symm.subset (List.mem_map.mpr ⟨p, hp, rfl⟩)
      simp [hm]
end
end My
namespace My
open PySem PySem.Spec PyProof.Rows L2 LamX Tr
section
variable {P : Program} {w : World} {K : PySem.W.Frag} {mg : Str → Option Value} {base : Heap} {C : Addr} {T : List (Addr × Str)}
def spFreed (P : Program) (w : World) (T : List (Addr × Str)) (C : Addr) (d : Nat) : Sp := fun vs H Q _ => ∃ (A : TA) (L l : Nat) (ts : List Tr.T) (n : Nat) (a : Tr.T) (q : Addr) (ls : List Nat), vs = [.ref A.p, ixV ts a, .ref q] ∧ TreesAt P w T C A L H ts n ∧ a ∈ ts ∧ Ok L l a ∧ H q = some (.tup (lsV ls)) ∧ L ≤ l + d ∧ ls.length ≤ 1000 ∧ ts.length + d * 2 ^ d ≤ sizeLine ∧ n + d * 2 ^ d ≤ sizeLine ∧
  ∀ H' ts' r, Keep A H H' → TreesAt P w T C A L H' ts' (n + d * 2 ^ d) → ts <+: ts' → ts'.length ≤ ts.length + d * 2 ^ d → r ∈ ts' → Ok L l r → IsFreed ls a r → Q (ixV ts' r) H'
theorem sc_Trees_freed : FnScope ["self", "tree", "levels", "key", "level", "its", "below", "rest", "low", "high"] ["self", "tree", "levels"] (defScope s_Trees_freed) := ⟨rfl, rfl, rfl, by decide +kernel, rfl, by decide +kernel, by decide +kernel⟩
theorem ok_freed_step {f : Addr} {fd : FuncData} (F : FD K s_Trees_freed "freed" "Trees.freed" f fd) (X : TxT K mg C) (M_node : MtG P w K mg base C 1 "node" ["self", "level", "low", "high"] (spNode P w T C))
    {d : Nat} {spR spE : Sp} (M_either : MtG P w K mg base C (d + 1) "either" ["self", "one", "other"] spE) (M_freed : MtG P w K mg base C (d + 2) "freed" ["self", "tree", "levels"] spR) (hd : ∀ e, d = e + 1 → spR = spFreed P w T C e ∧ spE = spEither P w T C e) : FnOk P w K mg base (XC P w) (d + 3) f fd ["self", "tree", "levels"] (spFreed P w T C d) := by
  refine F.ok sc_Trees_freed (fun vs H Q E h => ?_) (fun cdv A outer s H vs Q E hr h => ?_)
  · obtain ⟨A, L, l, ts, n, a, q, ls, rfl, _⟩ := h
    rfl
  · refine ⟨_, (pss_cons (ps_if (PW.pt (pw_or (pt_cmpR op_in_seq (pv 1) (pe_tup (pa_cons (pe_gint X.c_NOTHING) (pa_cons (pe_gint X.c_ALL) pa_nil))) (by rfl)) (pw_or1 (pt_cmpR (op_eqT0 hr.units) (pv 2) (pe_tup pa_nil) (nomark _))))) (pss_one (ps_ret (pv 1))) pss_nil)
      (pss_cons (ps_set (i := 3) sc_Trees_freed.nd rfl (Or.inl rfl) (pe_tup (pa_cons pe_str (pa_cons (pv 1) (pa_cons (pv 2) pa_nil)))))
      (pss_cons (ps_if (pt_cmp (pc_nnotin (hu16 hr) (pv 3) (pe_fld (pv 0) rfl))) (pss_cons (ps_set (i := 4) sc_Trees_freed.nd rfl (Or.inr rfl) (pe_ix ix_list (pe_fld (pv 0) rfl) (pv 1) (fun _ _ => rfl)))
      (pss_cons (ps_set (i := 6) sc_Trees_freed.nd rfl (Or.inl rfl) (pe_callTy call_tupL (by rfl) X.b_tuple (by decide +kernel) (pa_cons (pe_lc (own := [("its", 5)]) (g := (gName 5)) rfl sc_Trees_freed.nd (pi_tup (pv 2)) (blkOk_by (own := [("its", 5)]) (N := ["self", "tree", "levels", "key", "level", "its", "below", "rest", "low", "high"]) (sc := defScope s_Trees_freed) (by decide +kernel)) (fun _ _ _ _ _ => pg_name (i := 5) sc_Trees_freed.nd rfl (Or.inl rfl)) (fun _ _ _ _ _ => (pts_one (pt_cmpR op_ge (pv 5) (pv 4) (nomark _)))) (fun _ _ _ _ _ => (pv 5))) pa_nil)))
      (pss_cons (ps_set (i := 7) sc_Trees_freed.nd rfl (Or.inl rfl) (pe_callTy call_tupL (by rfl) X.b_tuple (by decide +kernel) (pa_cons (pe_lc (own := [("its", 5)]) (g := (gName 5)) rfl sc_Trees_freed.nd (pi_tup (pv 6)) (blkOk_by (own := [("its", 5)]) (N := ["self", "tree", "levels", "key", "level", "its", "below", "rest", "low", "high"]) (sc := defScope s_Trees_freed) (by decide +kernel)) (fun _ _ _ _ _ => pg_name (i := 5) sc_Trees_freed.nd rfl (Or.inl rfl)) (fun _ _ _ _ _ => (pts_one (pt_cmpR op_ne (pv 5) (pv 4) (nomark _)))) (fun _ _ _ _ _ => (pv 5))) pa_nil)))
      (pss_cons (ps_par (i := 8) (j := 9) (by rfl) sc_Trees_freed.nd rfl rfl (by decide) rfl rfl (pa_cons (pe_mt (pv 0) M_freed (hr.mono (by first | omega | decide)) passE0 (pa_cons (pe_ix ix_list (pe_fld (pv 0) rfl) (pv 1) (fun _ _ => rfl)) (pa_cons (pv 7) pa_nil))) (pa_cons (pe_mt (pv 0) M_freed (hr.mono (by first | omega | decide)) passE0 (pa_cons (pe_ix ix_list (pe_fld (pv 0) rfl) (pv 1) (fun _ _ => rfl)) (pa_cons (pv 7) pa_nil))) pa_nil)) (by rfl))
      (pss_one (ps_nput (hu16 hr) (pe_fld (pv 0) rfl) (pv 3) (pe_ifExp (pt_cmpR op_in_seq (pv 4) (pv 6) (by rfl)) (pe_mt (pv 0) M_either (hr.mono (by first | omega | decide)) passE0 (pa_cons (pv 8) (pa_cons (pv 9) pa_nil))) (pe_mt (pv 0) M_node (hr.mono (by first | omega | decide)) passE0 (pa_cons (pv 4) (pa_cons (pv 8) (pa_cons (pv 9) pa_nil))))) rfl)))))) pss_nil)
      (pss_one (ps_ret (pe_nget (hu16 hr) (pe_fld (pv 0) rfl) (pv 3) (fun _ _ => rfl))))))), ?_⟩
    dsimp only [cxOf]
    obtain ⟨A, L, l, ts, n, a, q, ls, rfl, x, ha, oa, hq, hl, hls, hz, hn, k⟩ := h
    walk_at "sx"
    have hz0 : (lsV ls).length ≤ sizeLine := by unfold lsV; rw [List.length_map]; exact sz_small hls
    refine ⟨sz_small (by decide), fun p hp => ?_⟩
    have x0 := x.new (o := HO.tup [V.int 0, V.int 1]) hp
    refine ⟨_, .inr (.of upd_same), rfl, rfl, ?_⟩
    split
    next q1 =>
      refine k _ ts a (Keep.of (ExtN.new hp)) (x0.mono (Nat.le_add_right _ _)) (List.prefix_refl _) (Nat.le_add_right _ _) ha oa (fun y => ?_)
      have ec : ∀ z : Nat → Bool, ev a z = ev a y := fun z => by rcases (inV01 x.wf ha).mp q1 with rfl | rfl <;> rfl
      exact ⟨fun h => ⟨y, fun _ _ => rfl, h⟩, fun ⟨z, _, h⟩ => (ec z).symm.trans h⟩
    next q1 =>
    refine ⟨Nat.zero_le _, fun p1 hp1 => ?_⟩
    have x1 := x0.new (o := HO.tup []) hp1
    have hq1 : (upd (upd H p (HO.tup [V.int 0, V.int 1])) p1 (HO.tup [])) q = some (.tup (lsV ls)) := Evl.Ex.new hp1 _ _ (Evl.Ex.new hp _ _ hq)
    refine ⟨_, .of hq1, .of upd_same, ?_⟩
    split
    next q2 =>
      have hls0 : ls = [] := by
        unfold lsV at q2
        cases ls with
        | nil => rfl
        | cons _ _ => cases q2
      subst hls0
      refine k _ ts a ((Keep.of (ExtN.new hp)).trans (Keep.of (ExtN.new hp1))) (x1.mono (Nat.le_add_right _ _)) (List.prefix_refl _) (Nat.le_add_right _ _) ha oa (fun y => ?_)
      exact ⟨fun h => ⟨y, fun _ _ => rfl, h⟩, fun ⟨z, hz, h⟩ => (show z = y from funext fun i => hz i (by simp)) ▸ h⟩
    next q2 =>
    obtain ⟨m, a0, a1, rfl⟩ : ∃ m a0 a1, a = .nd m a0 a1 := by
      cases a with
      | no => exact absurd ((inV01 x.wf ha).mpr (.inl rfl)) q1
      | all => exact absurd ((inV01 x.wf ha).mpr (.inr rfl)) q1
      | nd m a0 a1 => exact ⟨m, a0, a1, rfl⟩
    have oa' := oa
    obtain ⟨hlm, hm, hne, o0, o1⟩ := oa
    have h01 := x.wf.cl _ _ _ ha
    obtain ⟨e, rfl⟩ : ∃ e, d = e + 1 := ⟨d - 1, by omega⟩
    obtain ⟨hs, hs2⟩ := hd e rfl
    subst hs hs2
    have ep : (e + 1) * 2 ^ (e + 1) = 2 * (e * 2 ^ e) + 2 * 2 ^ e := by rw [Nat.pow_succ]; grind
    have e0 := two_pow_pos e
    refine ⟨sz_small (by decide), fun p2 hp2 => ?_⟩
    have x2 := x1.new (o := HO.tup [V.str (Str.ofString "freed"), ixV ts (.nd m a0 a1), V.ref q]) hp2
    have hq2 := Evl.Ex.new (o := HO.tup [V.str (Str.ofString "freed"), ixV ts (.nd m a0 a1), V.ref q]) hp2 _ _ hq1
    obtain ⟨td, g1, g2, g3⟩ := x2.td
    have hkl : ∀ {H' : Hp} (l : List Nat), KeyVs H' (l.map fun (i : Nat) => NestedKey.num i) (lsV l) := fun {H'} l => by
      unfold lsV
      induction l with
      | nil => exact .nil
      | cons b l ih => exact .cons (.num _) ih
    have hkv : ∀ {H' : Hp}, H' q = some (.tup (lsV ls)) → H' p2 = some (HO.tup [V.str (Str.ofString "freed"), ixV ts (.nd m a0 a1), V.ref q]) → KeyV H' (.tup [.text "freed", .num (ixN ts (.nd m a0 a1)), .tup (ls.map fun (i : Nat) => NestedKey.num i)]) (.ref p2) := fun h1 h => .tup h (.cons (.text _) (.cons (.num _) (.cons (.tup h1 (hkl ls)) .nil)))
    have hdp : (NestedKey.tup [.text "freed", .num (ixN ts (.nd m a0 a1)), .tup (ls.map fun (i : Nat) => NestedKey.num i)]).depth ≤ 8 := by
      have e : ∀ l : List Nat, NestedKey.depthAll (l.map fun (i : Nat) => NestedKey.num i) ≤ 1 := fun l => by
        induction l with
        | nil => exact Nat.zero_le _
        | cons b l ih => simp only [List.map_cons, NestedKey.depthAll, NestedKey.depth]; omega
      have e1 := e ls
      simp only [NestedKey.depth, NestedKey.depthAll]
      omega
    have K0 : Keep A H _ := ((Keep.of (A := A) (ExtN.new hp)).trans (Keep.of (ExtN.new hp1))).trans (Keep.of (ExtN.new (o := HO.tup [V.str (Str.ofString "freed"), ixV ts (.nd m a0 a1), V.ref q]) hp2))
    refine rd_td x2.ins X rfl ⟨_, rfl, td, g1, _, hkv hq2 upd_same, hdp, ?_⟩
    cases hv : valV td (.tup [.text "freed", .num (ixN ts (.nd m a0 a1)), .tup (ls.map fun (i : Nat) => NestedKey.num i)]) with
    | some v =>
      rw [if_neg (by simp)]
      obtain ⟨r, r1, rfl, r2⟩ := TdEnt.freed_inv ha (g2 _ _ hv)
      refine rd_td x2.ins X rfl ⟨_, rfl, td, g1, _, hkv hq2 upd_same, hdp, _, hv, ?_⟩
      exact k _ ts r K0 (x2.mono (Nat.le_add_right _ _)) (List.prefix_refl _) (Nat.le_add_right _ _) r1 (freed_ok x.wf r1 oa' r2) r2
    | none =>
      rw [if_pos (show (none : Option V).isSome = false from rfl)]
      refine rd_lv x2.ins X rfl ⟨_, rfl, _, _, rfl, SqL.of x2.lv, _, atI_ix ha, ?_⟩
      refine tLc_tupV (f := fun v => decide ((m : Int) ≤ match v with | .int i => i | _ => 0)) (v := id) (fun R r => ⟨_, rfl, r⟩) (.of hq2) hz0 (fun _ => rfl) (fun y hy D acc hD R r => ?_) (fun y hy _ D acc hD R r => ⟨_, rfl, r⟩) (fun p3 hp3 => ?_)
      · obtain ⟨i, _, rfl⟩ := List.mem_map.mp hy
        walk_at "sx"
        exact r
      · rw [List.map_id]
        have eM : (lsV ls).filter (fun v => decide ((m : Int) ≤ match v with | .int i => i | _ => 0)) = lsV (ls.filter fun i => decide (m ≤ i)) := by
          unfold lsV
          rw [List.filter_map]
          refine congrArg _ (List.filter_congr fun i _ => ?_)
          simp
        rw [eM]
        refine ⟨p3, rfl, _, .of upd_same, fun p4 hp4 => ?_⟩
        refine tLc_tupV (f := fun v => !decide (v = V.int m)) (v := id) (fun R r => ⟨_, rfl, r⟩) (.of upd_same) ?_ (fun _ => rfl) (fun y hy D acc hD R r => ?_) (fun y hy _ D acc hD R r => ⟨_, rfl, r⟩) (fun p5 hp5 => ?_)
        · unfold lsV
          rw [List.length_map]
          exact sz_small (Nat.le_trans (List.length_filter_le _ _) hls)
        · obtain ⟨i, _, rfl⟩ := List.mem_map.mp hy
          walk_at "sx"
          simp only [L2.V.int.injEq] at r
          exact ⟨rfl, r⟩
        · rw [List.map_id]
          have eR : (lsV (ls.filter fun i => decide (m ≤ i))).filter (fun v => !decide (v = V.int m)) = lsV ((ls.filter fun i => decide (m ≤ i)).filter fun i => !decide (i = m)) := by
            unfold lsV
            rw [List.filter_map]
            refine congrArg _ (List.filter_congr fun i _ => ?_)
            simp
            omega
          rw [eR]
          refine ⟨p5, rfl, _, .of upd_same, fun p6 hp6 => ?_⟩
          generalize hrs' : (ls.filter fun i => decide (m ≤ i)).filter (fun i => !decide (i = m)) = rs at hp6 ⊢
          have hrs : ∀ i, i ∈ rs ↔ i ∈ ls ∧ m ≤ i ∧ i ≠ m := fun i => by
            rw [← hrs', List.mem_filter, List.mem_filter]
            simp [and_assoc]
          have hrl : rs.length ≤ 1000 := by
            rw [← hrs']
            exact Nat.le_trans (List.length_filter_le _ _) (Nat.le_trans (List.length_filter_le _ _) hls)
          have x3 := x2.new (o := HO.lst (lsV (ls.filter fun i => decide (m ≤ i)))) hp3
          have x4 := x3.new (o := HO.tup (lsV (ls.filter fun i => decide (m ≤ i)))) hp4
          have x5 := x4.new (o := HO.lst (lsV rs)) hp5
          have x6 := x5.new (o := HO.tup (lsV rs)) hp6
          have nm2 := x1.fresh hp2
          have nmq := x.not_mutT hq
          have nm4 := x3.fresh hp4
          have nm6 := x5.fresh hp6
          have KN : Keep A _ _ := (((Keep.of (A := A) (ExtN.new (o := HO.lst (lsV (ls.filter fun i => decide (m ≤ i)))) hp3)).trans (Keep.of (ExtN.new (o := HO.tup (lsV (ls.filter fun i => decide (m ≤ i)))) hp4))).trans (Keep.of (ExtN.new (o := HO.lst (lsV rs)) hp5))).trans (Keep.of (ExtN.new (o := HO.tup (lsV rs)) hp6))
          refine ⟨_, _, x6.ins, by rfl, rd_lw x6.ins X rfl ⟨_, rfl, _, _, rfl, SqL.of x6.lw, _, atI_ix ha, ?_⟩⟩
          refine ⟨A, L, m + 1, ts, n, a0, p6, rs, rfl, x6, h01.1, o0, upd_same, by omega, hrl, by omega, by omega, fun H1 ts1 r1 K1 y1 pre1 len1 m1 k1 ev1 => ?_⟩
          have ia : ixV ts1 (.nd m a0 a1) = ixV ts (.nd m a0 a1) := ixV_pre pre1 ha
          have ha1 := pre1.subset ha
          refine ⟨_, _, y1.ins, by rfl, rd_hg y1.ins X rfl ⟨_, rfl, _, _, ia.symm, SqL.of y1.hg, _, atI_ix ha1, ?_⟩⟩
          refine ⟨A, L, m + 1, ts1, n + e * 2 ^ e, a1, p6, rs, rfl, y1, pre1.subset h01.2, o1, K1 _ _ upd_same (fun _ z => by cases z) nm6, by omega, hrl, by omega, by omega, fun H2 ts2 r2 K2 y2 pre2 len2 m2 k2 ev2 => ?_⟩
          have h4 : H2 p4 = some (HO.tup (lsV (ls.filter fun i => decide (m ≤ i)))) := K2 _ _ (K1 _ _ (Evl.Ex.new hp6 _ _ (Evl.Ex.new hp5 _ _ upd_same)) (fun _ z => by cases z) nm4) (fun _ z => by cases z) nm4
          refine ⟨_, .inr (.of h4), rfl, flat_ls, ?_⟩
          split
          next q4 =>
            have hml : m ∈ ls := (List.mem_filter.mp (inV_ls.mp q4)).1
            refine ⟨_, _, y2.ins, by rfl, A, L, m + 1, ts2, n + e * 2 ^ e + e * 2 ^ e, r1, r2, by rw [ixV_pre pre2 m1], y2, pre2.subset m1, m2, k1, k2, by omega, by omega, by omega, fun H4 ts4 r K4 y4 pre4' len4 m4 k4 ev4 => ?_⟩
            have pre4 := (pre1.trans pre2).trans pre4'
            have hfr : IsFreed ls (.nd m a0 a1) r := freed_in o0 o1 hrs ev1 ev2 hml ev4
            have KK := KN.trans ((K1.trans K2).trans K4)
            have hpH : H4 p2 = some (HO.tup [V.str (Str.ofString "freed"), ixV ts (.nd m a0 a1), V.ref q]) := KK _ _ upd_same (fun _ z => by cases z) nm2
            have hqH : H4 q = some (.tup (lsV ls)) := KK _ _ hq2 (fun _ z => by cases z) nmq
            obtain ⟨td3, g31, g32, g33⟩ := y4.td
            refine rd_td y4.ins X rfl ⟨_, rfl, td3, g31, _, hkv hqH hpH, hdp, by omega, fun H5 hput => ?_⟩
            have y5 := y4.told g32 g33 hput (.freedAt pre4 ha m4 hfr)
            refine rd_td y5.ins X rfl ⟨_, rfl, _, hput.1, _, hkv ((hput.2 _ (not_td nmq)).trans hqH) ((hput.2 _ (not_td nm2)).trans hpH), hdp, _, by rw [valV_put, if_pos rfl], ?_⟩
            exact k H5 ts4 _ (K0.trans (KK.trans (Keep.put hput))) (y5.mono (by omega)) pre4 (by omega) m4 (freed_ok y4.wf m4 oa' hfr) hfr

          next q4 =>
            have hml : m ∉ ls := fun z => q4 (inV_ls.mpr (List.mem_filter.mpr ⟨z, decide_eq_true (Nat.le_refl _)⟩))
            refine ⟨_, _, y2.ins, by rfl, A, L, m, ts2, n + e * 2 ^ e + e * 2 ^ e, r1, r2, by rw [ixV_pre pre2 m1]; rfl, y2, pre2.subset m1, m2, k1, k2, hm, by omega, fun H4 ts4 K4 y4 pre4' len4 m4 => ?_⟩
            have pre4 := (pre1.trans pre2).trans pre4'
            have hfr : IsFreed ls (.nd m a0 a1) (mk m r1 r2) := freed_out o0 o1 hrs ev1 ev2 hml
            have KK := KN.trans ((K1.trans K2).trans K4)
            have hpH : H4 p2 = some (HO.tup [V.str (Str.ofString "freed"), ixV ts (.nd m a0 a1), V.ref q]) := KK _ _ upd_same (fun _ z => by cases z) nm2
            have hqH : H4 q = some (.tup (lsV ls)) := KK _ _ hq2 (fun _ z => by cases z) nmq
            obtain ⟨td3, g31, g32, g33⟩ := y4.td
            refine rd_td y4.ins X rfl ⟨_, rfl, td3, g31, _, hkv hqH hpH, hdp, by omega, fun H5 hput => ?_⟩
            have y5 := y4.told g32 g33 hput (.freedAt pre4 ha m4 hfr)
            refine rd_td y5.ins X rfl ⟨_, rfl, _, hput.1, _, hkv ((hput.2 _ (not_td nmq)).trans hqH) ((hput.2 _ (not_td nm2)).trans hpH), hdp, _, by rw [valV_put, if_pos rfl], ?_⟩
            exact k H5 ts4 _ (K0.trans (KK.trans (Keep.put hput))) (y5.mono (by omega)) pre4 (by omega) m4 (freed_ok y4.wf m4 oa' hfr) hfr

end
end My
namespace My
open PySem PySem.Spec PyProof.Rows L2 LamX Tr
section
variable {P : Program} {w : World} {K : PySem.W.Frag} {mg : Str → Option Value} {base : Heap} {C : Addr} {T : List (Addr × Str)}
def cPut (d k : Nat) : Nat := d * 2 ^ d + k + 2 ^ d
def spPut (P : Program) (w : World) (T : List (Addr × Str)) (C : Addr) (d : Nat) : Sp := fun vs H Q _ => ∃ (A : TA) (L : Nat) (ts : List Tr.T) (n : Nat) (a : Tr.T) (q : Addr) (sg : List (Nat × Bool)), vs = [.ref A.p, ixV ts a, .ref q] ∧ TreesAt P w T C A L H ts n ∧ a ∈ ts ∧ H q = some (.dK (sgD sg)) ∧ (sg.map (·.1)).Nodup ∧ (∀ p, p ∈ sg → p.1 < L) ∧ sg.length < 64 ∧ L ≤ d ∧ ts.length + cPut d sg.length ≤ sizeLine ∧ n + cPut d sg.length ≤ sizeLine ∧
  ∀ H' ts' r, Keep A H H' → TreesAt P w T C A L H' ts' (n + cPut d sg.length) → ts <+: ts' → ts'.length ≤ ts.length + cPut d sg.length → r ∈ ts' → (∀ x, ev r x = true ↔ (∃ y : Nat → Bool, (∀ i, i ∉ sg.map (·.1) → y i = x i) ∧ ev a y = true) ∧ (sg.all fun p => x p.1 == p.2) = true) → Q (ixV ts' r) H'
def spPutBack (P : Program) (w : World) (T : List (Addr × Str)) (C : Addr) (d : Nat) : Sp := fun vs H Q _ => ∃ (A : TA) (L : Nat) (ts : List Tr.T) (n : Nat) (a : Tr.T) (q : Addr) (sg : List (Nat × Bool)), vs = [.ref A.p, ixV ts a, .ref q] ∧ TreesAt P w T C A L H ts n ∧ a ∈ ts ∧ H q = some (.dK (sgD sg)) ∧ (sg.map (·.1)).Nodup ∧ (∀ p, p ∈ sg → p.1 < L) ∧ sg.length < 64 ∧ L ≤ d ∧ ts.length + cPut d sg.length ≤ sizeLine ∧ n + cPut d sg.length ≤ sizeLine ∧
  ∀ H' ts' r, Keep A H H' → TreesAt P w T C A L H' ts' (n + cPut d sg.length) → ts <+: ts' → ts'.length ≤ ts.length + cPut d sg.length → r ∈ ts' → (∀ x, ev r x = true ↔ ∃ y : Nat → Bool, (∀ i, i ∉ sg.map (·.1) → y i = x i) ∧ ev a y = true ∧ (sg.all fun p => y p.1 == p.2) = true) → Q (ixV ts' r) H'
theorem sc_Trees_put : FnScope ["self", "tree", "signs"] ["self", "tree", "signs"] (defScope s_Trees_put) := ⟨rfl, rfl, rfl, by decide +kernel, rfl, by decide +kernel, by decide +kernel⟩
theorem sc_Trees_put_back : FnScope ["self", "tree", "signs"] ["self", "tree", "signs"] (defScope s_Trees_put_back) := ⟨rfl, rfl, rfl, by decide +kernel, rfl, by decide +kernel, by decide +kernel⟩
theorem ok_put {f : Addr} {fd : FuncData} (F : FD K s_Trees_put "put" "Trees.put" f fd) (X : TxT K mg C) (M_row : MtG P w K mg base C 2 "row" ["self", "signs"] (spRow P w T C))
    {d : Nat} (M_both : MtG P w K mg base C (d + 2) "both" ["self", "one", "other"] (spBoth P w T C d)) (M_freed : MtG P w K mg base C (d + 3) "freed" ["self", "tree", "levels"] (spFreed P w T C d)) : FnOk P w K mg base (XC P w) (d + 4) f fd ["self", "tree", "signs"] (spPut P w T C d) := by
  refine F.ok sc_Trees_put (fun vs H Q E h => ?_) (fun cdv A outer s H vs Q E hr h => ?_)
  · obtain ⟨A, L, ts, n, a, q, sg, rfl, _⟩ := h
    rfl
  · refine ⟨_, (pss_one (ps_ret (pe_mt (pv 0) M_both (hr.mono (by first | omega | decide)) passE0 (pa_cons (pe_mt (pv 0) M_freed (hr.mono (by first | omega | decide)) passE0 (pa_cons (pv 1) (pa_cons (pe_callTy call_tupL (by rfl) X.b_tuple (by decide +kernel) (pa_cons (pe_callB (call_sortedDI rfl) (by rfl) X.b_sorted (by decide +kernel) (pa_cons (pv 2) pa_nil)) pa_nil)) pa_nil))) (pa_cons (pe_mt (pv 0) M_row (hr.mono (by first | omega | decide)) passE0 (pa_cons (pv 2) pa_nil)) pa_nil))))), ?_⟩
    dsimp only [cxOf]
    obtain ⟨A, L, ts, n, a, q, sg, rfl, x, ha, hq, hnd, hlv, h64, hl, hz, hn, k⟩ := h
    walk_at "sx"
    have hpl := Nat.two_pow_pos d
    unfold cPut at hz hn k
    refine ⟨_, _, x.ins, by rfl, _, _, x.ins, by rfl, _, .inl hq, _, keys_sgD, by rw [List.length_map]; exact h64, fun ys p hperm _ hp => ?_⟩
    obtain ⟨zs, _, ez, hzp⟩ := ints_perm hperm
    have hzl : zs.length = sg.length := by rw [hzp.length_eq, List.length_map]
    rw [ez]
    have x1 := x.new (o := .lst (lsV zs)) hp
    refine ⟨_, .of upd_same, fun l hl2 => ?_⟩
    have x2 := x1.new (o := .tup (lsV zs)) hl2
    have KN : Keep A H _ := (Keep.of (A := A) (ExtN.new (o := .lst (lsV zs)) hp)).trans (Keep.of (ExtN.new (o := .tup (lsV zs)) hl2))
    refine ⟨A, L, 0, ts, n, a, l, zs, rfl, x2, ha, x.wf.ok _ ha, upd_same, by omega, by omega, by omega, by omega, fun H1 ts1 r1 K1 y1 pre1 len1 m1 k1 ev1 => ?_⟩
    refine ⟨_, _, y1.ins, by rfl, A, L, ts1, n + d * 2 ^ d, q, sg, rfl, y1, (KN.trans K1) _ _ hq (fun _ z => by cases z) (x.not_mut hq), hnd, hlv, by omega, fun H2 ts2 r2 K2 y2 pre2 len2 m2 ev2 => ?_⟩
    refine ⟨A, L, 0, ts2, n + d * 2 ^ d, r1, r2, by rw [ixV_pre pre2 m1], y2, pre2.subset m1, m2, k1, y2.wf.ok _ m2, by omega, by omega, by omega, fun H3 ts3 r3 K3 y3 pre3 len3 m3 k3 ev3 => ?_⟩
    refine k H3 ts3 r3 (KN.trans (K1.trans (K2.trans K3))) (y3.mono (by omega)) (pre1.trans (pre2.trans pre3)) (by omega) m3 fun y => ?_
    rw [ev3, Bool.and_eq_true, ev1 y, ev2 y]
    refine and_congr_left fun _ => exists_congr fun z => and_congr_left fun _ => forall_congr' fun i => ?_
    rw [hzp.mem_iff]
theorem ok_put_back {f : Addr} {fd : FuncData} (F : FD K s_Trees_put_back "put_back" "Trees.put_back" f fd) (X : TxT K mg C) (M_row : MtG P w K mg base C 2 "row" ["self", "signs"] (spRow P w T C))
    {d : Nat} (M_both : MtG P w K mg base C (d + 2) "both" ["self", "one", "other"] (spBoth P w T C d)) (M_freed : MtG P w K mg base C (d + 3) "freed" ["self", "tree", "levels"] (spFreed P w T C d)) : FnOk P w K mg base (XC P w) (d + 4) f fd ["self", "tree", "signs"] (spPutBack P w T C d) := by
  refine F.ok sc_Trees_put_back (fun vs H Q E h => ?_) (fun cdv A outer s H vs Q E hr h => ?_)
  · obtain ⟨A, L, ts, n, a, q, sg, rfl, _⟩ := h
    rfl
  · refine ⟨_, (pss_one (ps_ret (pe_mt (pv 0) M_freed (hr.mono (by first | omega | decide)) passE0 (pa_cons (pe_mt (pv 0) M_both (hr.mono (by first | omega | decide)) passE0 (pa_cons (pv 1) (pa_cons (pe_mt (pv 0) M_row (hr.mono (by first | omega | decide)) passE0 (pa_cons (pv 2) pa_nil)) pa_nil))) (pa_cons (pe_callTy call_tupL (by rfl) X.b_tuple (by decide +kernel) (pa_cons (pe_callB (call_sortedDI rfl) (by rfl) X.b_sorted (by decide +kernel) (pa_cons (pv 2) pa_nil)) pa_nil)) pa_nil))))), ?_⟩
    dsimp only [cxOf]
    obtain ⟨A, L, ts, n, a, q, sg, rfl, x, ha, hq, hnd, hlv, h64, hl, hz, hn, k⟩ := h
    walk_at "sx"
    have hpl := Nat.two_pow_pos d
    unfold cPut at hz hn k
    refine ⟨_, _, x.ins, by rfl, _, _, x.ins, by rfl, _, _, x.ins, by rfl, A, L, ts, n, q, sg, rfl, x, hq, hnd, hlv, by omega, fun H2 ts2 r2 K2 y2 pre2 len2 m2 ev2 => ?_⟩
    refine ⟨A, L, 0, ts2, n, a, r2, by rw [ixV_pre pre2 ha], y2, pre2.subset ha, m2, x.wf.ok _ ha, y2.wf.ok _ m2, by omega, by omega, by omega, fun H3 ts3 r3 K3 y3 pre3 len3 m3 k3 ev3 => ?_⟩
    have hq3 := (K2.trans K3) _ _ hq (fun _ z => by cases z) (x.not_mut hq)
    refine ⟨_, .inl hq3, _, keys_sgD, by rw [List.length_map]; exact h64, fun ys p hperm _ hp => ?_⟩
    obtain ⟨zs, _, ez, hzp⟩ := ints_perm hperm
    have hzl : zs.length = sg.length := by rw [hzp.length_eq, List.length_map]
    rw [ez]
    have x1 := y3.new (o := .lst (lsV zs)) hp
    refine ⟨_, .of upd_same, fun l hl2 => ?_⟩
    have x2 := x1.new (o := .tup (lsV zs)) hl2
    have KN : Keep A H3 _ := (Keep.of (A := A) (ExtN.new (o := .lst (lsV zs)) hp)).trans (Keep.of (ExtN.new (o := .tup (lsV zs)) hl2))
    refine ⟨A, L, 0, ts3, n + (2 ^ d - 1), r3, l, zs, rfl, x2, m3, k3, upd_same, by omega, by omega, by omega, by omega, fun H1 ts1 r1 K1 y1 pre1 len1 m1 k1 ev1 => ?_⟩
    refine k H1 ts1 r1 (K2.trans (K3.trans (KN.trans K1))) (y1.mono (by omega)) (pre2.trans (pre3.trans pre1)) (by omega) m1 fun y => ?_
    rw [ev1 y]
    refine exists_congr fun z => ?_
    rw [ev3, Bool.and_eq_true, ev2 z]
    refine and_congr_left fun _ => forall_congr' fun i => ?_
    rw [hzp.mem_iff]
end
end My
namespace My
open PySem PySem.Spec PyProof.Rows L2 LamX Tr
section
variable {P : Program} {w : World} {K : PySem.W.Frag} {mg : Str → Option Value} {base : Heap} {C : Addr} {T : List (Addr × Str)}
theorem sz_two : 2 ≤ sizeLine := by decide
theorem len_putF (f : Str) (v : V) : ∀ fs : List (Str × V), (putF f v fs).length ≤ fs.length + 1
  | [] => Nat.le_refl _
  | (g, x) :: r => by
    show (if g = f then (g, v) :: r else (g, x) :: putF f v r).length ≤ _
    split
    · exact Nat.le_succ _
    · exact Nat.succ_le_succ (len_putF f v r)
theorem len_ok1 {f0 : Str} {v0 : V} : (putF f0 v0 []).length < 1000 := by
  have h0 := len_putF f0 v0 []
  rw [List.length_nil] at h0
  omega
theorem len_ok2 {f0 : Str} {v0 : V} {f1 : Str} {v1 : V} : (putF f1 v1 (putF f0 v0 [])).length < 1000 := by
  have h0 := len_putF f0 v0 []
  have h1 := len_putF f1 v1 (putF f0 v0 [])
  rw [List.length_nil] at h0
  omega
theorem len_ok3 {f0 : Str} {v0 : V} {f1 : Str} {v1 : V} {f2 : Str} {v2 : V} : (putF f2 v2 (putF f1 v1 (putF f0 v0 []))).length < 1000 := by
  have h0 := len_putF f0 v0 []
  have h1 := len_putF f1 v1 (putF f0 v0 [])
  have h2 := len_putF f2 v2 (putF f1 v1 (putF f0 v0 []))
  rw [List.length_nil] at h0
  omega
theorem len_ok4 {f0 : Str} {v0 : V} {f1 : Str} {v1 : V} {f2 : Str} {v2 : V} {f3 : Str} {v3 : V} : (putF f3 v3 (putF f2 v2 (putF f1 v1 (putF f0 v0 [])))).length < 1000 := by
  have h0 := len_putF f0 v0 []
  have h1 := len_putF f1 v1 (putF f0 v0 [])
  have h2 := len_putF f2 v2 (putF f1 v1 (putF f0 v0 []))
  have h3 := len_putF f3 v3 (putF f2 v2 (putF f1 v1 (putF f0 v0 [])))
  rw [List.length_nil] at h0
  omega
theorem len_ok5 {f0 : Str} {v0 : V} {f1 : Str} {v1 : V} {f2 : Str} {v2 : V} {f3 : Str} {v3 : V} {f4 : Str} {v4 : V} : (putF f4 v4 (putF f3 v3 (putF f2 v2 (putF f1 v1 (putF f0 v0 []))))).length < 1000 := by
  have h0 := len_putF f0 v0 []
  have h1 := len_putF f1 v1 (putF f0 v0 [])
  have h2 := len_putF f2 v2 (putF f1 v1 (putF f0 v0 []))
  have h3 := len_putF f3 v3 (putF f2 v2 (putF f1 v1 (putF f0 v0 [])))
  have h4 := len_putF f4 v4 (putF f3 v3 (putF f2 v2 (putF f1 v1 (putF f0 v0 []))))
  rw [List.length_nil] at h0
  omega
theorem upd_none {H : Hp} {a b : Addr} {o : HO} (e : upd H a o b = Option.none) : H b = Option.none := by
  by_cases h : b = a
  · rw [h, upd_same] at e
    cases e
  · rw [upd_ne h] at e
    exact e
theorem upd_noneNe {H : Hp} {a b : Addr} {o : HO} (e : upd H a o b = Option.none) : b ≠ a := fun z => by
  rw [z, upd_same] at e
  cases e
/-- all but p stands -/
def Exb (p : Addr) (H H' : Hp) : Prop := ∀ b o, H b = some o → b ≠ p → H' b = some o
theorem Exb.trans {p : Addr} {H H1 H2 : Hp} (a : Exb p H H1) (b : Exb p H1 H2) : Exb p H H2 := fun c o h n => b c o (a c o h n) n
theorem Exb.new {p q : Addr} {H : Hp} {o : HO} (h : H q = none) : Exb p H (upd H q o) := fun b u e _ => by
  rw [upd_ne (ne_of_none e h)]
  exact e
theorem Exb.at {p : Addr} {H : Hp} {o : HO} : Exb p H (upd H p o) := fun b u e n => by
  rw [upd_ne n]
  exact e
theorem Exb.put {P : Program} {w : World} {p q : Addr} {H H' : Hp} {td : List (NestedKey × V)} (h : H q = none) (k : ∀ b, b ≠ q → H' b = H b) : Exb p H H' := fun b u e _ => (k b (ne_of_none e h)).trans e
theorem tabs_exb {p : Addr} {T : List (Addr × Str)} {H H' : Hp} {C dx : Addr} {fs : List (Str × V)} (t : Tabs T H) (e : Exb p H H') (hp : H p = some (.ins C dx fs)) : Tabs T H' := fun q hq => by
  obtain ⟨ps, h1, h2, h3⟩ := t q hq
  refine ⟨ps, e _ _ h1 (ne_of h1 hp (fun z => by cases z)), h2, fun pos cv hc => ?_⟩
  obtain ⟨c, e1, e2⟩ := h3 pos cv hc
  exact ⟨c, e1, e _ _ e2 (ne_of e2 hp (fun z => by unfold CodeO at z; cases z))⟩
def spInit (P : Program) (w : World) (T : List (Addr × Str)) (C : Addr) : Sp := fun vs H Q _ => ∃ (p dx : Addr) (L : Nat), vs = [.ref p, .int L] ∧ H p = some (.ins C dx []) ∧ H dx = some (.own p) ∧ Tabs T H ∧
  ∀ A H', A.p = p → (∀ b o, H b = some o → b ≠ p → H' b = some o) → (∀ b, b ∈ A.muts → H b = none) → TreesAt P w T C A L H' [.no, .all] 0 → Q .non H'
theorem sc_Trees___init__ : FnScope ["self", "levels"] ["self", "levels"] (defScope s_Trees___init__) := ⟨rfl, rfl, rfl, by decide +kernel, rfl, by decide +kernel, by decide +kernel⟩
theorem ok_init {f : Addr} {fd : FuncData} (F : FD K s_Trees___init__ "__init__" "Trees.__init__" f fd) (X : TxT K mg C) : FnOk P w K mg base (XC P w) 1 f fd ["self", "levels"] (spInit P w T C) := by
  refine F.ok sc_Trees___init__ (fun vs H Q E h => ?_) (fun cdv A outer s H vs Q E hr h => ?_)
  · obtain ⟨p, dx, L, rfl, _⟩ := h
    rfl
  · refine ⟨_, (pss_cons (ps_fld (pv 0) (pv 1) rfl)
      (pss_cons (ps_fld (pv 0) (pe_lst (pa_cons (pv 1) (pa_cons (pv 1) pa_nil))) rfl)
      (pss_cons (ps_fld (pv 0) (pe_lst (pa_cons pe_int (pa_cons pe_int pa_nil))) rfl)
      (pss_cons (ps_fld (pv 0) (pe_lst (pa_cons pe_int (pa_cons pe_int pa_nil))) rfl)
      (pss_cons (ps_fld (pv 0) pe_dnewT rfl)
      (pss_one (ps_fld (pv 0) pe_nnew rfl))))))), ?_⟩
    dsimp only [cxOf]
    obtain ⟨p, dx, L, rfl, hp, hdx, ht, k⟩ := h
    walk_at "sx"
    refine ⟨C, dx, [], hp, X.cls, X.n1, by decide, sz_two, fun q1 h1 => ?_⟩
    have e1 : p ≠ q1 := ne_of_none upd_same h1
    refine ⟨C, dx, _, by rw [upd_ne e1]; exact upd_same, X.cls, X.n2, by exact len_ok1, sz_two, fun q2 h2 => ?_⟩
    have e2 : p ≠ q2 := ne_of_none upd_same h2
    refine ⟨C, dx, _, by rw [upd_ne e2]; exact upd_same, X.cls, X.n3, by exact len_ok2, sz_two, fun q3 h3 => ?_⟩
    have e3 : p ≠ q3 := ne_of_none upd_same h3
    refine ⟨C, dx, _, by rw [upd_ne e3]; exact upd_same, X.cls, X.n4, by exact len_ok3, fun q4 h4 => ?_⟩
    have e4 : p ≠ q4 := ne_of_none upd_same h4
    refine ⟨C, dx, _, by rw [upd_ne e4]; exact upd_same, X.cls, X.n5, by exact len_ok4, fun q5 h5 H5 hput => ?_⟩
    have e5 : p ≠ q5 := ne_of_none upd_same h5
    obtain ⟨k1, k2⟩ := hput
    refine ⟨C, dx, _, (k2 _ e5).trans upd_same, X.cls, X.n6, by exact len_ok5, ?_⟩
    have z1 := upd_none h1
    have z2 := upd_none (upd_none (upd_none h2))
    have z3 := upd_none (upd_none (upd_none (upd_none (upd_none h3))))
    have z4 := upd_none (upd_none (upd_none (upd_none (upd_none (upd_none (upd_none h4))))))
    have z5 := upd_none (upd_none (upd_none (upd_none (upd_none (upd_none (upd_none (upd_none (upd_none h5))))))))
    have b5 : Exb p H5 (upd H5 p (HO.ins C dx (putF (Str.ofString "own_told") (V.ref q5) (putF (Str.ofString "own_known") (V.ref q4) (putF (Str.ofString "own_high") (V.ref q3) (putF (Str.ofString "own_low") (V.ref q2) (putF (Str.ofString "own_level") (V.ref q1) (putF (Str.ofString "own_levels") (V.int ↑L) [])))))))) := Exb.at
    have b4 := ((Exb.at (p := p)).trans (Exb.put (P := P) (w := w) (p := p) (td := []) h5 k2)).trans b5
    have b3 := ((Exb.at (p := p)).trans (Exb.new (p := p) (o := .dT []) h4)).trans b4
    have b2 := ((Exb.at (p := p)).trans (Exb.new (p := p) (o := .lst [V.int 0, V.int 0]) h3)).trans b3
    have b1 := ((Exb.at (p := p)).trans (Exb.new (p := p) (o := .lst [V.int 0, V.int 0]) h2)).trans b2
    have b0 := ((Exb.at (p := p)).trans (Exb.new (p := p) (o := .lst [V.int L, V.int L]) h1)).trans b1
    have c1 := b1 q1 _ upd_same e1.symm
    have c2 := b2 q2 _ upd_same e2.symm
    have c3 := b3 q3 _ upd_same e3.symm
    have c4 := b4 q4 _ upd_same e4.symm
    have c6 := b0 dx _ hdx (fun z => by rw [z, hp] at hdx; cases hdx)
    have d1 : ∀ {b : Addr}, H b = none → b ≠ dx := fun h z => by rw [z, hdx] at h; cases h
    refine k ⟨p, dx, q1, q2, q3, q4, q5⟩ _ rfl b0 (fun b hb => ?_) ?_
    · unfold TA.muts at hb
      simp only [List.mem_cons, List.not_mem_nil, or_false] at hb
      rcases hb with rfl | rfl | rfl | rfl | rfl <;> assumption
    · have n21 := upd_noneNe (upd_none h2)
      have n32 := upd_noneNe (upd_none h3)
      have n31 := upd_noneNe (upd_none (upd_none (upd_none h3)))
      have n43 := upd_noneNe (upd_none h4)
      have n42 := upd_noneNe (upd_none (upd_none (upd_none h4)))
      have n41 := upd_noneNe (upd_none (upd_none (upd_none (upd_none (upd_none h4)))))
      have n54 := upd_noneNe (upd_none h5)
      have n53 := upd_noneNe (upd_none (upd_none (upd_none h5)))
      have n52 := upd_noneNe (upd_none (upd_none (upd_none (upd_none (upd_none h5)))))
      have n51 := upd_noneNe (upd_none (upd_none (upd_none (upd_none (upd_none (upd_none (upd_none h5)))))))
      have npd : p ≠ dx := fun z => by rw [← z, hp] at hdx; cases hdx
      obtain ⟨xs, k3, k4, k5, k6⟩ := k1
      refine ⟨by rw [upd_same]; rfl, c1, c2, c3, ⟨[], c4, ⟨rfl, fun k v e => (by cases e), fun l a b ha hb => ?_⟩⟩, ⟨[], ⟨xs, b5 _ _ k3 e5.symm, k4, k5, k6.ext fun b ys hb => b5 _ _ hb (fun z => ?_)⟩, fun k v e => (by cases e), Nat.le_refl _⟩, ⟨rfl, rfl, by decide, fun t ht => ?_, fun l a b h => ?_⟩, ?_, tabs_exb ht b0 hp⟩
      · rw [if_neg (by simp)]
        rfl
      · subst z
        rw [k2 _ e5, upd_same] at hb
        cases hb
      · simp only [List.mem_cons, List.not_mem_nil, or_false] at ht
        rcases ht with rfl | rfl <;> trivial
      · simp at h
      · simp only [List.nodup_cons, List.mem_cons, List.not_mem_nil, or_false, not_or, List.nodup_nil, and_true, not_false_eq_true]
        exact ⟨⟨npd, e1, e2, e3, e4, e5⟩, ⟨(d1 z1).symm, (d1 z2).symm, (d1 z3).symm, (d1 z4).symm, (d1 z5).symm⟩, ⟨n21.symm, n31.symm, n41.symm, n51.symm⟩, ⟨n32.symm, n42.symm, n52.symm⟩, ⟨n43.symm, n53.symm⟩, n54.symm⟩
end
end My
namespace My
open PySem PySem.Spec PyProof.Rows L2 LamX Tr
section
variable {P : Program} {w : World} {K : PySem.W.Frag} {mg : Str → Option Value} {base : Heap} {C : Addr} {T : List (Addr × Str)}
def bitV (b : Bool) : V := .int (if b = true then 1 else 0)
def spFirst (P : Program) (w : World) (T : List (Addr × Str)) (C : Addr) : Sp := fun vs H Q _ => ∃ (A : TA) (L : Nat) (ts : List Tr.T) (n : Nat) (a : Tr.T), vs = [.ref A.p, ixV ts a] ∧ TreesAt P w T C A L H ts n ∧ a ∈ ts ∧ L ≤ 1000 ∧
  (a = .no → Q .non H) ∧ (a ≠ .no → ∀ p H', H p = none → Evl.Ex H H' → H' p = some (.lst ((fi L 0 a).map bitV)) → Q (.ref p) H')
theorem sc_Trees_first : FnScope ["self", "tree", "found", "level", "low", "high"] ["self", "tree"] (defScope s_Trees_first) := ⟨rfl, rfl, rfl, by decide +kernel, rfl, by decide +kernel, by decide +kernel⟩
theorem ok_first {f : Addr} {fd : FuncData} (F : FD K s_Trees_first "first" "Trees.first" f fd) (X : TxT K mg C) (M_halves : MtG P w K mg base C 1 "halves" ["self", "tree", "level"] (spHalves P w T C)) : FnOk P w K mg base (XC P w) 2 f fd ["self", "tree"] (spFirst P w T C) := by
  refine F.ok sc_Trees_first (fun vs H Q E h => ?_) (fun cdv A outer s H vs Q E hr h => ?_)
  · obtain ⟨A, L, ts, n, a, rfl, _⟩ := h
    rfl
  · refine ⟨_, (pss_cons (ps_if (pt_cmpR op_eq (pv 1) (pe_gint X.c_NOTHING) (nomark _)) (pss_one (ps_ret pe_non)) pss_nil)
      (pss_cons (ps_set (i := 2) sc_Trees_first.nd rfl (Or.inl rfl) (pe_lst pa_nil))
      (pss_cons (ps_for (passes_of rfl) rfl (pi_range1 (by rfl) X.b_range (pa_cons (pe_fld (pv 0) rfl) pa_nil)) (pg_name (i := 3) sc_Trees_first.nd rfl (Or.inl rfl))
      (pss_cons (ps_asg (pe_mt (pv 0) M_halves (hr.mono (by first | omega | decide)) passE0 (pa_cons (pv 1) (pa_cons (pv 3) pa_nil))) (pg_tup (by rfl) (pgs_cons (pg_name (i := 4) sc_Trees_first.nd rfl (Or.inl rfl)) (pgs_cons (pg_name (i := 5) sc_Trees_first.nd rfl (Or.inl rfl)) pgs_nil))))
      (pss_cons (ps_expr (pe_bm PySem.F.plainAttrs_list PySem.F.slot_list_append PySem.F.type_list_append mt_append (pv 2) (pa_cons (pe_ifExp (pt_cmpR op_ne (pv 4) (pe_gint X.c_NOTHING) (nomark _)) pe_int pe_int) pa_nil)))
      (pss_one (ps_set (i := 1) sc_Trees_first.nd rfl (Or.inl rfl) (pe_ifExp (pt_cmpR op_ne (pv 4) (pe_gint X.c_NOTHING) (nomark _)) (pv 4) (pv 5)))))))
      (pss_one (ps_ret (pv 2)))))), ?_⟩
    dsimp only [cxOf]
    obtain ⟨A, L, ts, n, a, rfl, x, ha, hl, k0, k⟩ := h
    walk_at "sx"
    refine ⟨rfl, ?_⟩
    split
    next q =>
      exact k0 ((x.wf.mem_ix ha (of_decide_eq_true q)).1 rfl)
    next q =>
    have hn : a ≠ .no := fun z => q (decide_eq_true (by rw [z, x.wf.ix_no]))
    refine ⟨Nat.zero_le _, fun p hp => ?_⟩
    refine rd_levels (Evl.Ex.new hp _ _ x.ins) X rfl ⟨L, rfl, by omega, by omega, ?_⟩
    have hL : ((L : Nat) : Int).toNat = L := Int.toNat_natCast L
    refine for_range (fun i σ H' => ∃ (t : Tr.T) (acc : List Bool) (o3 o4 o5 : Option V), σ = [some (.ref A.p), some (ixV ts t), some (.ref p), o3, o4, o5] ∧ Evl.Ex H H' ∧ H' p = some (.lst (acc.map bitV)) ∧ acc.length = i ∧ t ∈ ts ∧ t ≠ .no ∧ Ok L i t ∧ acc ++ fi (L - i) i t = fi L 0 a) ?_ ?_ ?_
    · exact ⟨a, [], none, none, none, rfl, Evl.Ex.new hp, upd_same, rfl, ha, hn, x.wf.ok _ ha, rfl⟩
    · rintro i σ H' hi' ⟨t, acc, o3, o4, o5, rfl, e, hacc, hlen, ht, htn, hok, hfi⟩
      have hiL : i < L := by omega
      have y := x.ex e
      walk_at "sx"
      refine ⟨_, _, y.ins, by rfl, A, L, i, ts, n, t, by rw [Int.zero_add], y, ht, hiL, fun p2 hp2 => ⟨p2, rfl, _, .of upd_same, rfl, _, _, rfl, _, _, rfl, rfl, ?_⟩⟩
      have hpn : p ≠ p2 := ne_of_none hacc hp2
      have hacc2 : (upd H' p2 (.tup [ixV ts (lo i t), ixV ts (hi i t)])) p = some (.lst (acc.map bitV)) := by rw [upd_ne hpn]; exact hacc
      have hfe : fi (L - i) i t = if lo i t = .no then true :: fi (L - (i + 1)) (i + 1) (hi i t) else false :: fi (L - (i + 1)) (i + 1) (lo i t) := by
        have : L - i = (L - (i + 1)) + 1 := by omega
        rw [this]
        rfl
      rw [hfe] at hfi
      have hlt : (acc.map bitV).length < sizeLine := by rw [List.length_map, hlen]; exact Nat.lt_of_lt_of_le (show i < 1000 by omega) (by decide)
      have e2 : ∀ o, Evl.Ex H (upd (upd H' p2 (.tup [ixV ts (lo i t), ixV ts (hi i t)])) p o) := fun o => Evl.Ex.mut (e.trans (Evl.Ex.new hp2)) hp
      refine ⟨.inl ⟨rfl, _, .of hacc2⟩, rfl, ?_⟩
      by_cases hlo : lo i t = .no
      · rw [if_pos hlo] at hfi
        have hd : decide (ixV ts (lo i t) = V.int 0) = true := decide_eq_true (by rw [hlo, x.wf.ix_no])
        rw [if_neg (by rw [hd]; decide)]
        refine ⟨_, hacc2, hlt, rfl, ?_⟩
        rw [if_neg (by rw [hd]; decide)]
        refine ⟨hi i t, rfl, e2 _, acc ++ [true], by rw [upd_same, List.map_append]; rfl, by simp [hlen], x.wf.hi ht i, fun z => ?_, hok.hi, by rw [List.append_assoc]; exact hfi⟩
        cases t with
        | no => exact htn rfl
        | all => cases z
        | nd l b c =>
          by_cases el : l = i
          · subst el
            rw [lo_same] at hlo
            rw [hi_same] at z
            exact hok.2.2.1 (hlo.trans z.symm)
          · simp [hi, el] at z
      · rw [if_neg hlo] at hfi
        have hd : decide (ixV ts (lo i t) = V.int 0) = false := decide_eq_false (fun z => hlo ((x.wf.mem_ix (x.wf.lo ht i) z).1 rfl))
        rw [if_pos hd]
        refine ⟨_, hacc2, hlt, rfl, ?_⟩
        rw [if_pos hd]
        exact ⟨lo i t, rfl, e2 _, acc ++ [false], by rw [upd_same, List.map_append]; rfl, by simp [hlen], x.wf.lo ht i, hlo, hok.lo, by rw [List.append_assoc]; exact hfi⟩
    · rintro σ H' ⟨t, acc, o3, o4, o5, rfl, e, hacc, hlen, ht, htn, hok, hfi⟩
      rw [hL, Nat.sub_self] at hfi
      refine ⟨_, rfl, k hn p H' hp e ?_⟩
      rw [hacc, ← hfi]
      show _ = some (HO.lst ((acc ++ []).map bitV))
      rw [List.append_nil]
end
end My
namespace My
open PySem PySem.Spec PyProof.Rows L2 LamX Tr
section
variable {P : Program} {w : World} {K : PySem.W.Frag} {mg : Str → Option Value} {base : Heap} {C : Addr} {T : List (Addr × Str)}
def isNd : Tr.T → Bool
  | .nd _ _ _ => true
  | _ => false
/-- the inner trees of a, those below others first -/
structure Below (L : Nat) (ts : List Tr.T) (a : Tr.T) (xs : List Tr.T) : Prop where
  sub : ∀ t, t ∈ xs → t ∈ ts ∧ isNd t = true
  top : isNd a = true → a ∈ xs
  cl : ∀ l b c, Tr.T.nd l b c ∈ xs → (isNd b = true → b ∈ xs) ∧ (isNd c = true → c ∈ xs)
  nd : xs.Nodup
  ord : xs.Pairwise fun s t => lev L t ≤ lev L s
def spBelow (P : Program) (w : World) (T : List (Addr × Str)) (C : Addr) : Sp := fun vs H Q _ => ∃ (A : TA) (L : Nat) (ts : List Tr.T) (n : Nat) (a : Tr.T), vs = [.ref A.p, ixV ts a] ∧ TreesAt P w T C A L H ts n ∧ a ∈ ts ∧ ts.length + 2 ≤ sizeLine ∧
  ∀ p H' xs, ExtN H H' → Tabs T H' → H' p = none → Below L ts a xs → Q (.ref p) (upd H' p (.lst (xs.map (ixV ts))))
theorem sc_Trees_below : FnScope ["self", "tree", "found", "left", "own"] ["self", "tree"] (defScope s_Trees_below) := ⟨rfl, rfl, rfl, by decide +kernel, rfl, by decide +kernel, by decide +kernel⟩
theorem ok_below {f c Pt : Addr} {fd : FuncData} (F : FD K s_Trees_below "below" "Trees.below" f fd) (X : TxT K mg C) (hc : fd.code = .ref c) (TB : TabB base mg c Pt) (hm : (Pt, ("Trees.below.<locals>.<lambda>" : Str)) ∈ T) (hu : ∀ q ∈ T, q.1 = Pt → q.2 = ("Trees.below.<locals>.<lambda>" : Str)) : FnOk P w K mg base (XC P w) 2 f fd ["self", "tree"] (spBelow P w T C) := by
  refine fun_okC F hc sc_Trees_below (fun vs H Q E h => ?_) (fun A outer s H vs Q E hr h => ?_)
  · obtain ⟨A, L, ts, n, a, rfl, _⟩ := h
    rfl
  · refine ⟨_, (pss_cons (ps_par (i := 2) (j := 3) (by rfl) sc_Trees_below.nd rfl rfl (by decide) rfl rfl (pa_cons pe_dnewK (pa_cons (pe_lst (pa_cons (pv 1) pa_nil)) pa_nil)) (by rfl))
      (pss_cons (ps_while (passes_of rfl) (pt_cmpR (op_neL0 hr.units) (pv 3) (pe_lst pa_nil) (nomark _))
      (pss_cons (ps_set (i := 4) sc_Trees_below.nd rfl (Or.inl rfl) (pe_bm0 PySem.F.plainAttrs_list PySem.F.slot_list_pop PySem.F.type_list_pop mt_pop (pv 3)))
      (pss_one (ps_if (PW.pt (pw_and (pt_cmpR op_gt (pv 4) (pe_gint X.c_ALL) (nomark _)) (pw_and1 (pt_cmp (pc_dnotin (hu_of hr) (pv 4) (pv 2)))))) (pss_cons (ps_dput (hu_of hr) (pv 2) (pv 4) pe_bl rfl)
      (pss_one (ps_expr (pe_bm PySem.F.plainAttrs_list PySem.F.slot_list_extend PySem.F.type_list_extend mt_extend (pv 3) (pa_cons (pe_lst (pa_cons (pe_ix ix_list (pe_fld (pv 0) rfl) (pv 4) (fun _ _ => rfl)) (pa_cons (pe_ix ix_list (pe_fld (pv 0) rfl) (pv 4) (fun _ _ => rfl)) pa_nil))) pa_nil))))) pss_nil))))
      (pss_one (ps_ret (pe_sortedLam (is := 0) rfl hr TB rfl hm hu rfl rfl (pa_cons (pv 2) pa_nil) (by rfl) X.b_sorted (fun _ _ _ _ _ _ _ => rfl)))))), ?_⟩
    dsimp only [cxOf]
    obtain ⟨A, L, ts, n, a, rfl, x, ha, hz, k⟩ := h
    walk_at "sx"
    intro p hp
    refine ⟨sz_small (by decide), fun p1 hp1 => ?_⟩
    have hpp : p ≠ p1 := ne_of_none upd_same hp1
    have hp1H : H p1 = none := by rw [upd_ne hpp.symm] at hp1; exact hp1
    refine ⟨fun m σ H' => ∃ (ks ws : List Tr.T) (o : Option V), σ = [some (.ref A.p), some (ixV ts a), some (.ref p), some (.ref p1), o] ∧ Evl.Ex H H' ∧ H' p = some (.dK (ks.map fun t => (Sum.inl ((ixN ts t : Nat) : Int), V.bl true))) ∧ H' p1 = some (.lst (ws.map (ixV ts))) ∧ (∀ t, t ∈ ks → t ∈ ts ∧ isNd t = true) ∧ ks.Nodup ∧ (∀ t, t ∈ ws → t ∈ ts) ∧ ws.length ≤ ks.length + 1 ∧ (isNd a = true → a ∈ ks ∨ a ∈ ws) ∧ (∀ l b c, Tr.T.nd l b c ∈ ks → (isNd b = true → b ∈ ks ∨ b ∈ ws) ∧ (isNd c = true → c ∈ ks ∨ c ∈ ws)) ∧ m = 2 * (ts.length - ks.length) + ws.length, ⟨_, [], [a], none, rfl, Evl.Ex.mut (Evl.Ex.new hp) hp1H, by rw [upd_ne hpp]; exact upd_same, upd_same, by simp, List.nodup_nil, by simpa using ha, Nat.le_refl _, fun _ => .inr (by simp), by simp, rfl⟩, ?_⟩
    rintro m σ H' ⟨ks, ws, o, rfl, e, hk, hw, hks, hnd, hws, hwl, hta, hcl, rfl⟩
    have hkl : ks.length ≤ ts.length := len_le_of hnd fun t ht => (hks t ht).1
    have y := x.ex e
    walk_at "sx"
    refine ⟨Nat.zero_le _, fun q hq => ?_⟩
    have hp1q : p1 ≠ q := ne_of_none hw hq
    have hpq : p ≠ q := ne_of_none hk hq
    have hk2 : (upd H' q (.lst [])) p = some (.dK (ks.map fun t => (Sum.inl ((ixN ts t : Nat) : Int), V.bl true))) := by rw [upd_ne hpq]; exact hk
    have hw2 : (upd H' q (.lst [])) p1 = some (.lst (ws.map (ixV ts))) := by rw [upd_ne hp1q]; exact hw
    have e2 : Evl.Ex H (upd H' q (.lst [])) := e.trans (Evl.Ex.new hq)
    refine ⟨_, .of hw2, .of upd_same, ?_⟩
    rcases List.eq_nil_or_concat ws with rfl | ⟨ws, t, rfl⟩
    · rw [if_neg (by simp)]
      have y2 := y.new (o := .lst []) hq
      have hlv2 : (upd H' q (.lst [])) A.lv = some (.lst ((ts.map fun t => (lev L t : Int)).map V.int)) := by rw [List.map_map]; exact y2.lv
      refine ⟨y2.tab, _, hk2, ks.map fun t => ((ixN ts t : Nat) : Int), by rw [List.map_map, List.map_map]; rfl, _, _, _, y2.ins, X.cls, X.n2, _, tfs2, _, hlv2, fun i hi => ?_, fun ys p' H2 hE hT hperm hord hp' => ?_⟩
      · obtain ⟨t, ht, rfl⟩ := List.mem_map.mp hi
        have := ixN_lt (hks t ht).1
        exact ⟨by omega, by rw [List.length_map, Int.toNat_natCast]; exact this⟩
      · have hg : ∀ t, t ∈ ks → ts.getD (((ixN ts t : Nat) : Int).toNat) .no = t := fun t ht => by
          rw [Int.toNat_natCast, List.getD_eq_getElem?_getD, ixN_get (hks t ht).1]
          rfl
        have hy : ∀ i, i ∈ ys → ∃ t, t ∈ ks ∧ i = ((ixN ts t : Nat) : Int) := fun i hi => by
          obtain ⟨t, ht, e⟩ := List.mem_map.mp (hperm.subset hi)
          exact ⟨t, ht, e.symm⟩
        have hxs : (ys.map fun i => ts.getD i.toNat .no).Perm ks := by
          have h1 := hperm.map fun i => ts.getD i.toNat .no
          rw [List.map_map] at h1
          have h2 : (ks.map ((fun i : Int => ts.getD i.toNat .no) ∘ fun t => ((ixN ts t : Nat) : Int))) = ks := by
            refine (List.map_congr_left fun t ht => ?_).trans (List.map_id ks)
            exact hg t ht
          rw [h2] at h1
          exact h1
        have hval : ys.map V.int = (ys.map fun i => ts.getD i.toNat .no).map (ixV ts) := by
          rw [List.map_map]
          refine List.map_congr_left fun i hi => ?_
          obtain ⟨t, ht, rfl⟩ := hy i hi
          show _ = ixV ts (ts.getD _ _)
          rw [hg t ht]
          rfl
        rw [hval]
        refine k p' H2 _ ((ExtN.of e2).trans hE) hT hp' ⟨fun t ht => hks t (hxs.subset ht), fun h => ?_, fun l b c h => ?_, hxs.nodup_iff.mpr hnd, ?_⟩
        · rcases hta h with h | h
          · exact hxs.symm.subset h
          · cases h
        · have h3 := hcl l b c (hxs.subset h)
          refine ⟨fun h => ?_, fun h => ?_⟩
          · rcases h3.1 h with h | h
            · exact hxs.symm.subset h
            · cases h
          · rcases h3.2 h with h | h
            · exact hxs.symm.subset h
            · cases h
        · rw [List.pairwise_map]
          refine List.Pairwise.imp_of_mem (fun {i j} hi hj h => ?_) hord
          obtain ⟨t, ht, rfl⟩ := hy i hi
          obtain ⟨u, hu, rfl⟩ := hy j hj
          rw [hg t ht, hg u hu]
          rw [Int.toNat_natCast, Int.toNat_natCast, List.getD_eq_getElem?_getD, List.getD_eq_getElem?_getD, List.getElem?_map, List.getElem?_map, ixN_get (hks t ht).1, ixN_get (hks u hu).1] at h
          have h' : (lev L u : Int) ≤ (lev L t : Int) := h
          omega
    · rw [if_pos (by simp)]
      rw [List.concat_eq_append] at hw hws hwl hta hcl hw2 ⊢
      rw [List.length_append, List.length_singleton] at hwl ⊢
      have ht : t ∈ ts := hws t (by simp)
      have hlast : (List.map (ixV ts) (ws ++ [t]))[(List.map (ixV ts) (ws ++ [t])).length - 1]? = some (ixV ts t) := by simp
      have hdrop : (List.map (ixV ts) (ws ++ [t])).dropLast = ws.map (ixV ts) := by rw [List.map_append, List.map_cons, List.map_nil, List.dropLast_concat]
      refine ⟨fun σ' H'' => ∃ m', m' < 2 * (ts.length - ks.length) + (ws.length + 1) ∧ _, fun σ' H'' h => h, .inl ⟨rfl, _, .of hw2⟩, _, hw2, _, hlast, _, rfl, ?_⟩
      rw [hdrop]
      have e3 : Evl.Ex H (upd (upd H' q (.lst [])) p1 (.lst (ws.map (ixV ts)))) := Evl.Ex.mut e2 hp1H
      have hk3 : (upd (upd H' q (.lst [])) p1 (.lst (ws.map (ixV ts)))) p = some (.dK (ks.map fun t => (Sum.inl ((ixN ts t : Nat) : Int), V.bl true))) := by rw [upd_ne hpp]; exact hk2
      have hgt : (1 : Int) < ((ixN ts t : Nat) : Int) ↔ isNd t = true := by
        constructor
        · intro h
          cases t with
          | no => have e := x.wf.ix_no; unfold ixV at e; injection e with e; omega
          | all => have e := x.wf.ix_all; unfold ixV at e; injection e with e; omega
          | nd l b c => rfl
        · intro h
          have n0 : t ≠ .no := fun z => by rw [z] at h; cases h
          have n1 : t ≠ .all := fun z => by rw [z] at h; cases h
          have m := x.wf.mem_ix ht rfl
          have a0 : ((ixN ts t : Nat) : Int) ≠ 0 := fun z => n0 (m.1 z)
          have a1 : ((ixN ts t : Nat) : Int) ≠ 1 := fun z => n1 (m.2 z)
          omega
      have hin : (valV (ks.map fun t => ((Sum.inl ((ixN ts t : Nat) : Int) : Key), V.bl true)) (Sum.inl ((ixN ts t : Nat) : Int))).isSome = true ↔ t ∈ ks := by
        rw [← valV_any, List.any_map, List.any_eq_true]
        constructor
        · rintro ⟨u, hu, h⟩
          have h1 := of_decide_eq_true h
          injection h1 with h1
          rw [← ixN_inj (hks u hu).1 ht (by omega)]
          exact hu
        · intro h
          exact ⟨t, h, decide_eq_true rfl⟩
      by_cases hnd' : isNd t = true
      · rw [if_pos (decide_eq_true (hgt.mpr hnd'))]
        refine ⟨_, DGet.k (k := .inl ((ixN ts t : Nat) : Int)) hk3, ?_⟩
        by_cases htk : t ∈ ks
        · rw [if_neg (by rw [hin.mpr htk]; decide)]
          refine ⟨_, ?_, ks, ws, _, rfl, e3, hk3, upd_same, hks, hnd, fun u hu => hws u (by simp [hu]), by omega, fun h => ?_, fun l b c h => ?_, rfl⟩
          · omega
          · rcases hta h with h | h
            · exact .inl h
            · rcases List.mem_append.mp h with h | h
              · exact .inr h
              · rw [List.mem_singleton] at h
                rw [h]
                exact .inl htk
          · have h3 := hcl l b c h
            have mv : ∀ {u : Tr.T}, (u ∈ ks ∨ u ∈ ws ++ [t]) → (u ∈ ks ∨ u ∈ ws) := fun {u} h => by
              rcases h with h | h
              · exact .inl h
              · rcases List.mem_append.mp h with h | h
                · exact .inr h
                · rw [List.mem_singleton] at h
                  rw [h]
                  exact .inl htk
            exact ⟨fun h => mv (h3.1 h), fun h => mv (h3.2 h)⟩
        · have hnone : valV (ks.map fun t => ((Sum.inl ((ixN ts t : Nat) : Int) : Key), V.bl true)) (Sum.inl ((ixN ts t : Nat) : Int)) = none := by
            cases e : valV (ks.map fun t => ((Sum.inl ((ixN ts t : Nat) : Int) : Key), V.bl true)) (Sum.inl ((ixN ts t : Nat) : Int)) with
            | none => rfl
            | some v => exact absurd (hin.mp (by rw [e]; rfl)) htk
          rw [if_pos (by rw [hnone]; rfl)]
          have hkt : (ks ++ [t]).length ≤ ts.length := len_le_of (by rw [List.nodup_append]; exact ⟨hnd, by simp, fun u hu v hv z => by rw [List.mem_singleton] at hv; exact htk (by rw [← hv, ← z]; exact hu)⟩) fun u hu => by
            rcases List.mem_append.mp hu with h | h
            · exact (hks u h).1
            · rw [List.mem_singleton] at h; rw [h]; exact ht
          rw [List.length_append, List.length_singleton] at hkt
          refine ⟨_, DPut.k (k := .inl ((ixN ts t : Nat) : Int)) hk3 (by rw [List.length_map]; omega), ?_⟩
          rw [putK_new _ hnone]
          generalize hH4 : upd (upd (upd H' q (.lst [])) p1 (.lst (ws.map (ixV ts)))) p (.dK ((ks.map fun t => ((Sum.inl ((ixN ts t : Nat) : Int) : Key), V.bl true)) ++ [(Sum.inl ((ixN ts t : Nat) : Int), V.bl true)])) = H4
          have e4 : Evl.Ex H H4 := by rw [← hH4]; exact Evl.Ex.mut e3 hp
          have hw4 : H4 p1 = some (.lst (ws.map (ixV ts))) := by rw [← hH4, upd_ne hpp.symm]; exact upd_same
          have hk4 : H4 p = some (.dK ((ks ++ [t]).map fun t => ((Sum.inl ((ixN ts t : Nat) : Int) : Key), V.bl true))) := by rw [← hH4, upd_same, List.map_append]; rfl
          have y4 := x.ex e4
          refine ⟨.inl ⟨rfl, _, .of hw4⟩, rd_lw y4.ins X rfl ⟨_, rfl, _, _, rfl, .of y4.lw, _, atI_ix ht, rd_hg y4.ins X rfl ⟨_, rfl, _, _, rfl, .of y4.hg, _, atI_ix ht, sz_small (by decide), fun p3 hp3 => ?_⟩⟩⟩
          have hp13 : p1 ≠ p3 := ne_of_none hw4 hp3
          have hp03 : p ≠ p3 := ne_of_none hk4 hp3
          refine ⟨_, by rw [upd_ne hp13]; exact hw4, _, upd_same, by rw [List.length_map]; simp; omega, _, ?_, ks ++ [t], ws ++ [loC t, hiC t], _, rfl, Evl.Ex.mut (e4.trans (Evl.Ex.new hp3)) hp1H, by rw [upd_ne hpp, upd_ne hp03]; exact hk4, by rw [upd_same, List.map_append]; rfl, fun u hu => ?_, ?_, fun u hu => ?_, by simp; omega, fun h => ?_, fun l b c h => ?_, rfl⟩
          · simp
            omega
          · rcases List.mem_append.mp hu with h | h
            · exact hks u h
            · rw [List.mem_singleton] at h; rw [h]; exact ⟨ht, hnd'⟩
          · rw [List.nodup_append]
            exact ⟨hnd, by simp, fun u hu v hv z => by rw [List.mem_singleton] at hv; exact htk (by rw [← hv, ← z]; exact hu)⟩
          · rcases List.mem_append.mp hu with h | h
            · exact hws u (by simp [h])
            · simp at h
              rcases h with rfl | rfl
              · exact x.wf.loC ht
              · exact x.wf.hiC ht
          · have mv : ∀ {u : Tr.T}, (u ∈ ks ∨ u ∈ ws ++ [t]) → (u ∈ ks ++ [t] ∨ u ∈ ws ++ [loC t, hiC t]) := fun {u} h => by
              rcases h with h | h
              · exact .inl (by simp [h])
              · rcases List.mem_append.mp h with h | h
                · exact .inr (by simp [h])
                · exact .inl (by simp [List.mem_singleton.mp h])
            exact mv (hta h)
          · have mv : ∀ {u : Tr.T}, (u ∈ ks ∨ u ∈ ws ++ [t]) → (u ∈ ks ++ [t] ∨ u ∈ ws ++ [loC t, hiC t]) := fun {u} h => by
              rcases h with h | h
              · exact .inl (by simp [h])
              · rcases List.mem_append.mp h with h | h
                · exact .inr (by simp [h])
                · exact .inl (by simp [List.mem_singleton.mp h])
            rcases List.mem_append.mp h with h | h
            · have h3 := hcl l b c h
              exact ⟨fun h => mv (h3.1 h), fun h => mv (h3.2 h)⟩
            · rw [List.mem_singleton] at h
              rw [← h]
              exact ⟨fun _ => .inr (by simp [loC]), fun _ => .inr (by simp [hiC])⟩
      · rw [if_neg (by rw [decide_eq_true_iff]; exact fun z => hnd' (hgt.mp z))]
        have mv : ∀ {u : Tr.T}, isNd u = true → (u ∈ ks ∨ u ∈ ws ++ [t]) → (u ∈ ks ∨ u ∈ ws) := fun {u} hu h => by
          rcases h with h | h
          · exact .inl h
          · rcases List.mem_append.mp h with h | h
            · exact .inr h
            · rw [List.mem_singleton] at h
              rw [h] at hu
              exact absurd hu hnd'
        refine ⟨_, ?_, ks, ws, _, rfl, e3, hk3, upd_same, hks, hnd, fun u hu => hws u (by simp [hu]), by omega, fun h => mv h (hta h), fun l b c h => ⟨fun h2 => mv h2 ((hcl l b c h).1 h2), fun h2 => mv h2 ((hcl l b c h).2 h2)⟩, rfl⟩
        omega
end
end My
namespace My
open PySem PySem.Spec PyProof.Rows L2 LamX Tr
section
variable {P : Program} {w : World} {K : PySem.W.Frag} {mg : Str → Option Value} {base : Heap} {C : Addr} {T : List (Addr × Str)}
theorem Below.before {L : Nat} {ts xs : List Tr.T} {a : Tr.T} (B : Below L ts a xs) (x : Wf L ts) {i l : Nat} {b c : Tr.T} (h : xs[i]? = some (.nd l b c)) : (isNd b = true → ∃ j, j < i ∧ xs[j]? = some b) ∧ (isNd c = true → ∃ j, j < i ∧ xs[j]? = some c) := by
  have hm := List.mem_of_getElem? h
  obtain ⟨hi, he⟩ := List.getElem?_eq_some_iff.mp h
  have ok := x.ok _ (B.sub _ hm).1
  have key : ∀ u : Tr.T, isNd u = true → u ∈ xs → Ok L (l + 1) u → ∃ j, j < i ∧ xs[j]? = some u := fun u hu hx ou => by
    obtain ⟨j, hj, e⟩ := List.getElem_of_mem hx
    have hlev : l < lev L u := by
      cases u with
      | no => cases hu
      | all => cases hu
      | nd m p q => exact ou.1
    refine ⟨j, Nat.lt_of_not_le fun hle => ?_, by rw [List.getElem?_eq_getElem hj, e]⟩
    rcases Nat.lt_or_eq_of_le hle with h1 | h1
    · have h2 := List.pairwise_iff_getElem.mp B.ord i j hi hj h1
      rw [he, e] at h2
      have h3 : lev L u ≤ l := h2
      omega
    · subst h1
      rw [he] at e
      subst e
      exact Nat.lt_irrefl _ hlev
  exact ⟨fun hb => key b hb ((B.cl l b c hm).1 hb) ok.2.2.2.1, fun hc => key c hc ((B.cl l b c hm).2 hc) ok.2.2.2.2⟩
theorem tTup_two {ta tb : TE} {σ : L2.St} {H : Hp} {Q : VK} (h : ta σ H fun x H1 => tb σ H1 fun y H2 => 2 ≤ sizeLine ∧ ∀ p, H2 p = none → Q (.ref p) (upd H2 p (.tup [x, y]))) : tTup (tCons ta (tCons tb tNil)) σ H Q := h
theorem pow64 {k : Nat} (h : k ≤ 60) : -(2 ^ 64) < ((2 ^ k : Nat) : Int) ∧ ((2 ^ k : Nat) : Int) < 2 ^ 64 := by
  have h1 : 2 ^ k < 2 ^ 64 := Nat.pow_lt_pow_right (by decide) (by omega)
  generalize 2 ^ k = z at h1
  omega
def spManyParts (P : Program) (w : World) (T : List (Addr × Str)) (C : Addr) : Sp := fun vs H Q _ => ∃ (A : TA) (L : Nat) (ts : List Tr.T) (n : Nat) (a : Tr.T), vs = [.ref A.p, ixV ts a] ∧ TreesAt P w T C A L H ts n ∧ a ∈ ts ∧ ts.length + 4 ≤ sizeLine ∧
  ∀ H', ExtN H H' → Tabs T H' → Q (.int (np a : Nat)) H'
def spMany (P : Program) (w : World) (T : List (Addr × Str)) (C : Addr) : Sp := fun vs H Q _ => ∃ (A : TA) (L : Nat) (ts : List Tr.T) (n : Nat) (a : Tr.T), vs = [.ref A.p, ixV ts a] ∧ TreesAt P w T C A L H ts n ∧ a ∈ ts ∧ ts.length + 4 ≤ sizeLine ∧ L ≤ 60 ∧
  ∀ H', ExtN H H' → Tabs T H' → Q (.int (cn L a * 2 ^ lev L a : Nat)) H'
theorem sc_Trees_many_parts : FnScope ["self", "tree", "counts", "own"] ["self", "tree"] (defScope s_Trees_many_parts) := ⟨rfl, rfl, rfl, by decide +kernel, rfl, by decide +kernel, by decide +kernel⟩
theorem sc_Trees_many : FnScope ["self", "tree", "counts", "own", "level", "total", "half", "many", "far"] ["self", "tree"] (defScope s_Trees_many) := ⟨rfl, rfl, rfl, by decide +kernel, rfl, by decide +kernel, by decide +kernel⟩
theorem ok_many_parts {f : Addr} {fd : FuncData} (F : FD K s_Trees_many_parts "many_parts" "Trees.many_parts" f fd) (X : TxT K mg C) (M_below : MtG P w K mg base C 2 "below" ["self", "tree"] (spBelow P w T C)) : FnOk P w K mg base (XC P w) 3 f fd ["self", "tree"] (spManyParts P w T C) := by
  refine F.ok sc_Trees_many_parts (fun vs H Q E h => ?_) (fun cdv A outer s H vs Q E hr h => ?_)
  · obtain ⟨A, L, ts, n, a, rfl, _⟩ := h
    rfl
  · refine ⟨_, (pss_cons (ps_set (i := 2) sc_Trees_many_parts.nd rfl (Or.inl rfl) (pe_disp (pps_cons (pe_gint X.c_NOTHING) pe_int (pps_cons (pe_gint X.c_ALL) pe_int pps_nil)) (by rfl) (by rfl) (fun z => by cases z) (by decide)))
      (pss_cons (ps_for (passes_of rfl) rfl (pi_list (pe_mt (pv 0) M_below (hr.mono (by first | omega | decide)) passE0 (pa_cons (pv 1) pa_nil))) (pg_name (i := 3) sc_Trees_many_parts.nd rfl (Or.inl rfl))
      (pss_one (ps_dput (hu_of hr) (pv 2) (pv 3) (pe_op op_add (pe_dget (hu_of hr) (pv 2) (pe_ix ix_list (pe_fld (pv 0) rfl) (pv 3) (fun _ _ => rfl)) (fun _ _ => rfl)) (pe_dget (hu_of hr) (pv 2) (pe_ix ix_list (pe_fld (pv 0) rfl) (pv 3) (fun _ _ => rfl)) (fun _ _ => rfl))) rfl)))
      (pss_one (ps_ret (pe_dget (hu_of hr) (pv 2) (pv 1) (fun _ _ => rfl)))))), ?_⟩
    dsimp only [cxOf]
    obtain ⟨A, L, ts, n, a, rfl, x, ha, hz, k⟩ := h
    walk_at "sx"
    intro p hp
    refine ⟨upd_same, [(Sum.inl 0, .int 0), (Sum.inl 1, .int 1)], rfl, by decide, ?_⟩
    rw [upd_upd]
    have x1 := x.new (o := .dK (mergeK [] [(Sum.inl 0, .int 0), (Sum.inl 1, .int 1)])) hp
    refine ⟨_, rfl, _, _, _, rfl, x1.ins, by rfl, _, rfl, A, L, ts, n, a, rfl, x1, ha, by omega, fun q H1 xs e1 t1 hq B => ?_⟩
    have hpq : p ≠ q := ne_of_none (e1 _ _ upd_same (fun _ z => by cases z)) hq
    refine ⟨q, rfl, ⟨_, .of upd_same⟩, for_list (K := K) (a := q) (xs := xs.map (ixV ts)) (fun i σ H' => ∃ (kvs : List (Key × V)) (o : Option V), σ = [some (.ref A.p), some (ixV ts a), some (.ref p), o] ∧ ExtN H H' ∧ Tabs T H' ∧ H' q = some (.lst (xs.map (ixV ts))) ∧ H' p = some (.dK kvs) ∧ kvs.length ≤ 2 + i ∧ ∀ t, t ∈ ts → (isNd t = false ∨ ∃ j, j < i ∧ xs[j]? = some t) → valV kvs (Sum.inl ((ixN ts t : Nat) : Int)) = some (.int (np t : Nat))) ?_ ?_ ?_ ?_⟩
    · refine ⟨_, none, rfl, ((ExtN.new hp).trans e1).trans (ExtN.new hq), Tabs.new t1 hq, upd_same, by rw [upd_ne hpq]; exact e1 _ _ upd_same (fun _ z => by cases z), by show 2 ≤ 2 + 0; omega, fun t ht h => ?_⟩
      rcases h with h | ⟨j, hj, _⟩
      · cases t with
        | no =>
          have e := x.wf.ix_no
          unfold ixV at e
          injection e with e
          rw [e]
          rfl
        | all =>
          have e := x.wf.ix_all
          unfold ixV at e
          injection e with e
          rw [e]
          rfl
        | nd l b c => cases h
      · omega
    · rintro i σ H' _ ⟨kvs, o, _, _, _, h, _⟩
      exact .of h
    · rintro i v σ H' hi' ⟨kvs, o, rfl, e, ht', hq', hk, hlen, hval⟩
      obtain ⟨t, hti, rfl⟩ : ∃ t, xs[i]? = some t ∧ ixV ts t = v := by
        rw [List.getElem?_map] at hi'
        cases e : xs[i]? with
        | none => rw [e] at hi'; cases hi'
        | some t => rw [e] at hi'; exact ⟨t, rfl, Option.some.inj hi'⟩
      have htm := List.mem_of_getElem? hti
      have hil := (List.getElem?_eq_some_iff.mp hti).1
      have hts := (B.sub t htm).1
      have hxl : xs.length ≤ ts.length := len_le_of B.nd fun u hu => (B.sub u hu).1
      obtain ⟨l, b, c, rfl⟩ : ∃ l b c, t = .nd l b c := by
        have h := (B.sub t htm).2
        cases t with
        | no => cases h
        | all => cases h
        | nd l b c => exact ⟨l, b, c, rfl⟩
      have hbc := x.wf.cl l b c hts
      have hbf := B.before x.wf hti
      have gb := hval b hbc.1 (by cases h : isNd b with | false => exact .inl rfl | true => exact .inr (hbf.1 h))
      have gc := hval c hbc.2 (by cases h : isNd c with | false => exact .inl rfl | true => exact .inr (hbf.2 h))
      have y := x.ext e ht'
      walk_at "sx"
      refine rd_lw y.ins X rfl ⟨_, rfl, _, _, rfl, .of y.lw, _, atI_ix hts, _, gb ▸ DGet.k (k := .inl ((ixN ts b : Nat) : Int)) hk, rd_hg y.ins X rfl ⟨_, rfl, _, _, rfl, .of y.hg, _, atI_ix hts, _, gc ▸ DGet.k (k := .inl ((ixN ts c : Nat) : Int)) hk, _, rfl, _, rfl, _, DPut.k (k := .inl ((ixN ts (.nd l b c) : Nat) : Int)) hk (by omega), ?_⟩⟩
      refine ⟨extN_mut e hp, tabs_dK ht' hk, ?_, _, upd_same, ?_, fun u hu h => ?_⟩
      · rw [upd_ne hpq.symm]; exact hq'
      · have := length_putK kvs (Sum.inl ((ixN ts (.nd l b c) : Nat) : Int)) (V.int ((np b : Nat) + (np c : Nat) : Int)); omega
      · rw [valV_put]
        by_cases e : u = .nd l b c
        · rw [e, if_pos rfl]
          rfl
        · rw [if_neg (fun z => e (ixN_inj hu hts (by injection z with z; omega)))]
          refine hval u hu ?_
          rcases h with h | ⟨j, hj, h⟩
          · exact .inl h
          · refine .inr ⟨j, Nat.lt_of_le_of_ne (Nat.le_of_lt_succ hj) (fun z => e ?_), h⟩
            rw [z, hti] at h
            exact (Option.some.inj h).symm
    · rintro σ H' ⟨kvs, o, rfl, e, ht', hq', hk, hlen, hval⟩
      have hxl : (xs.map (ixV ts)).length = xs.length := List.length_map ..
      rw [hxl] at hval
      have ga := hval a ha (by
        cases h : isNd a with
        | false => exact .inl rfl
        | true =>
          obtain ⟨j, hj, e⟩ := List.getElem_of_mem (B.top h)
          exact .inr ⟨j, hj, by rw [List.getElem?_eq_getElem hj, e]⟩)
      walk_at "sx"
      exact ⟨_, ga ▸ DGet.k (k := .inl ((ixN ts a : Nat) : Int)) hk, k H' e ht'⟩
theorem ok_many {f : Addr} {fd : FuncData} (F : FD K s_Trees_many "many" "Trees.many" f fd) (X : TxT K mg C) (M_below : MtG P w K mg base C 2 "below" ["self", "tree"] (spBelow P w T C)) (F_doubled : FnG P w K mg base 1 "doubled" ["times"] spDoubled) : FnOk P w K mg base (XC P w) 3 f fd ["self", "tree"] (spMany P w T C) := by
  refine F.ok sc_Trees_many (fun vs H Q E h => ?_) (fun cdv A outer s H vs Q E hr h => ?_)
  · obtain ⟨A, L, ts, n, a, rfl, _⟩ := h
    rfl
  · refine ⟨_, (pss_cons (ps_set (i := 2) sc_Trees_many.nd rfl (Or.inl rfl) (pe_disp (pps_cons (pe_gint X.c_NOTHING) (pe_tup (pa_cons pe_int (pa_cons (pe_fld (pv 0) rfl) pa_nil))) (pps_cons (pe_gint X.c_ALL) (pe_tup (pa_cons pe_int (pa_cons (pe_fld (pv 0) rfl) pa_nil))) pps_nil)) (by rfl) (by rfl) (fun z => by cases z) (by decide)))
      (pss_cons (ps_for (passes_of rfl) rfl (pi_list (pe_mt (pv 0) M_below (hr.mono (by first | omega | decide)) passE0 (pa_cons (pv 1) pa_nil))) (pg_name (i := 3) sc_Trees_many.nd rfl (Or.inl rfl))
      (pss_cons (ps_set (i := 4) sc_Trees_many.nd rfl (Or.inl rfl) (pe_ix ix_list (pe_fld (pv 0) rfl) (pv 3) (fun _ _ => rfl)))
      (pss_cons (ps_set (i := 5) sc_Trees_many.nd rfl (Or.inl rfl) pe_int)
      (pss_cons (ps_for (passes_of rfl) rfl (pi_tup (pe_tup (pa_cons (pe_ix ix_list (pe_fld (pv 0) rfl) (pv 3) (fun _ _ => rfl)) (pa_cons (pe_ix ix_list (pe_fld (pv 0) rfl) (pv 3) (fun _ _ => rfl)) pa_nil)))) (pg_name (i := 6) sc_Trees_many.nd rfl (Or.inl rfl))
      (pss_cons (ps_asg (pe_dget (hu_of hr) (pv 2) (pv 6) (fun _ _ => rfl)) (pg_tup (by rfl) (pgs_cons (pg_name (i := 7) sc_Trees_many.nd rfl (Or.inl rfl)) (pgs_cons (pg_name (i := 8) sc_Trees_many.nd rfl (Or.inl rfl)) pgs_nil))))
      (pss_one (ps_set (i := 5) sc_Trees_many.nd rfl (Or.inl rfl) (pe_op op_add (pv 5) (pe_op op_mul (pv 7) (pe_fn F_doubled (hr.mono (by first | omega | decide)) passE0 (pa_cons (pe_op op_sub (pe_op op_sub (pv 8) (pv 4)) pe_int) pa_nil))))))))
      (pss_one (ps_dput (hu_of hr) (pv 2) (pv 3) (pe_tup (pa_cons (pv 5) (pa_cons (pv 4) pa_nil))) rfl))))))
      (pss_cons (ps_asg (pe_dget (hu_of hr) (pv 2) (pv 1) (fun _ _ => rfl)) (pg_tup (by rfl) (pgs_cons (pg_name (i := 7) sc_Trees_many.nd rfl (Or.inl rfl)) (pgs_cons (pg_name (i := 8) sc_Trees_many.nd rfl (Or.inl rfl)) pgs_nil))))
      (pss_one (ps_ret (pe_op op_mul (pv 7) (pe_fn F_doubled (hr.mono (by first | omega | decide)) passE0 (pa_cons (pv 8) pa_nil)))))))), ?_⟩
    dsimp only [cxOf]
    obtain ⟨A, L, ts, n, a, rfl, x, ha, hz, hl, k⟩ := h
    walk_at "sx"
    intro p hp
    have x1 := x.new (o := .dK []) hp
    refine rd_levels x1.ins X rfl ⟨sz_small (by decide), fun r1 hr1 => ?_⟩
    have x2 := x1.new (o := .tup [V.int 0, V.int L]) hr1
    refine rd_levels x2.ins X rfl ⟨sz_small (by decide), fun r2 hr2 => ?_⟩
    have x3 := x2.new (o := .tup [V.int 1, V.int L]) hr2
    have hpr1 : p ≠ r1 := ne_of_none upd_same hr1
    have hr12 : r1 ≠ r2 := ne_of_none upd_same hr2
    have hpr2 : p ≠ r2 := ne_of_none (by rw [upd_ne hpr1]; exact upd_same) hr2
    have hp3 : (upd (upd (upd H p (.dK [])) r1 (.tup [V.int 0, V.int L])) r2 (.tup [V.int 1, V.int L])) p = some (.dK []) := by rw [upd_ne hpr2, upd_ne hpr1]; exact upd_same
    refine ⟨hp3, [(Sum.inl 0, .ref r1), (Sum.inl 1, .ref r2)], rfl, by simp, ?_⟩
    have E3 : Evl.Ex H (upd (upd (upd (upd H p (.dK [])) r1 (.tup [V.int 0, V.int L])) r2 (.tup [V.int 1, V.int L])) p (.dK (mergeK [] [(Sum.inl 0, .ref r1), (Sum.inl 1, .ref r2)]))) := Evl.Ex.mut (((Evl.Ex.new hp).trans (Evl.Ex.new hr1)).trans (Evl.Ex.new hr2)) hp
    have hc1 : (upd (upd (upd (upd H p (.dK [])) r1 (.tup [V.int 0, V.int L])) r2 (.tup [V.int 1, V.int L])) p (.dK (mergeK [] [(Sum.inl 0, .ref r1), (Sum.inl 1, .ref r2)]))) r1 = some (.tup [V.int 0, V.int L]) := by rw [upd_ne hpr1.symm, upd_ne hr12]; exact upd_same
    have hc2 : (upd (upd (upd (upd H p (.dK [])) r1 (.tup [V.int 0, V.int L])) r2 (.tup [V.int 1, V.int L])) p (.dK (mergeK [] [(Sum.inl 0, .ref r1), (Sum.inl 1, .ref r2)]))) r2 = some (.tup [V.int 1, V.int L]) := by rw [upd_ne hpr2.symm]; exact upd_same
    have hc0 : (upd (upd (upd (upd H p (.dK [])) r1 (.tup [V.int 0, V.int L])) r2 (.tup [V.int 1, V.int L])) p (.dK (mergeK [] [(Sum.inl 0, .ref r1), (Sum.inl 1, .ref r2)]))) p = some (.dK (mergeK [] [(Sum.inl 0, .ref r1), (Sum.inl 1, .ref r2)])) := upd_same
    generalize upd (upd (upd (upd H p (.dK [])) r1 (.tup [V.int 0, V.int L])) r2 (.tup [V.int 1, V.int L])) p (.dK (mergeK [] [(Sum.inl 0, .ref r1), (Sum.inl 1, .ref r2)])) = H3 at E3 hc1 hc2 hc0 ⊢
    have x4 := x.ex E3
    refine ⟨_, rfl, _, _, _, rfl, x4.ins, by rfl, _, rfl, A, L, ts, n, a, rfl, x4, ha, by omega, fun q H1 xs e1 t1 hq B => ?_⟩
    have hpq : p ≠ q := ne_of_none (e1 _ _ hc0 (fun _ z => by cases z)) hq
    refine ⟨q, rfl, ⟨_, .of upd_same⟩, for_list (K := K) (a := q) (xs := xs.map (ixV ts)) (fun i σ H' => ∃ (kvs : List (Key × V)) (o3 o4 o5 o6 o7 o8 : Option V), σ = [some (.ref A.p), some (ixV ts a), some (.ref p), o3, o4, o5, o6, o7, o8] ∧ ExtN H H' ∧ Tabs T H' ∧ H' q = some (.lst (xs.map (ixV ts))) ∧ H' p = some (.dK kvs) ∧ kvs.length ≤ 2 + i ∧ ∀ t, t ∈ ts → (isNd t = false ∨ ∃ j, j < i ∧ xs[j]? = some t) → ∃ r, valV kvs (Sum.inl ((ixN ts t : Nat) : Int)) = some (.ref r) ∧ H' r = some (.tup [.int (cn L t : Nat), .int (lev L t : Nat)])) ?_ ?_ ?_ ?_⟩
    · refine ⟨_, none, none, none, none, none, none, rfl, ((ExtN.of E3).trans e1).trans (ExtN.new hq), Tabs.new t1 hq, upd_same, by rw [upd_ne hpq]; exact e1 _ _ hc0 (fun _ z => by cases z), by show 2 ≤ 2 + 0; omega, fun t ht h => ?_⟩
      have hq1 : r1 ≠ q := ne_of_none (e1 _ _ hc1 (fun _ z => by cases z)) hq
      have hq2 : r2 ≠ q := ne_of_none (e1 _ _ hc2 (fun _ z => by cases z)) hq
      rcases h with h | ⟨j, hj, _⟩
      · cases t with
        | no =>
          have e := x.wf.ix_no
          unfold ixV at e
          injection e with e
          rw [e]
          exact ⟨r1, rfl, by rw [upd_ne hq1]; exact e1 _ _ hc1 (fun _ z => by cases z)⟩
        | all =>
          have e := x.wf.ix_all
          unfold ixV at e
          injection e with e
          rw [e]
          exact ⟨r2, rfl, by rw [upd_ne hq2]; exact e1 _ _ hc2 (fun _ z => by cases z)⟩
        | nd l b c => cases h
      · omega
    · rintro i σ H' _ ⟨kvs, o3, o4, o5, o6, o7, o8, _, _, _, h, _⟩
      exact .of h
    · rintro i v σ H' hi' ⟨kvs, o3, o4, o5, o6, o7, o8, rfl, e, ht', hq', hk, hlen, hval⟩
      obtain ⟨t, hti, rfl⟩ : ∃ t, xs[i]? = some t ∧ ixV ts t = v := by
        rw [List.getElem?_map] at hi'
        cases e : xs[i]? with
        | none => rw [e] at hi'; cases hi'
        | some t => rw [e] at hi'; exact ⟨t, rfl, Option.some.inj hi'⟩
      have htm := List.mem_of_getElem? hti
      have hil := (List.getElem?_eq_some_iff.mp hti).1
      have hts := (B.sub t htm).1
      have hxl : xs.length ≤ ts.length := len_le_of B.nd fun u hu => (B.sub u hu).1
      obtain ⟨l, b, c, rfl⟩ : ∃ l b c, t = .nd l b c := by
        have h := (B.sub t htm).2
        cases t with
        | no => cases h
        | all => cases h
        | nd l b c => exact ⟨l, b, c, rfl⟩
      have hbc := x.wf.cl l b c hts
      have hbf := B.before x.wf hti
      have hok := x.wf.ok _ hts
      have gb := hval b hbc.1 (by cases h : isNd b with | false => exact .inl rfl | true => exact .inr (hbf.1 h))
      have gc := hval c hbc.2 (by cases h : isNd c with | false => exact .inl rfl | true => exact .inr (hbf.2 h))
      have y := x.ext e ht'
      walk_at "sx"
      refine rd_lv y.ins X rfl ⟨_, rfl, _, _, rfl, .of y.lv, _, atI_ix hts, ?_⟩
      unfold L2.tFor L2.iTup
      refine tTup_two ?_
      show tFld K (tVar 0) ("own_low" : Str) _ _ _
      refine rd_lw y.ins X rfl ⟨_, rfl, _, _, _, _, rfl, rfl, .of y.lw, atI_ix hts, ?_⟩
      show tFld K (tVar 0) ("own_high" : Str) _ _ _
      refine rd_hg y.ins X rfl ⟨_, rfl, _, _, _, _, rfl, rfl, .of y.hg, atI_ix hts, ?_⟩
      refine ⟨sz_small (by decide), fun r0 hr0 => ?_⟩
      have hlev : ∀ u : Tr.T, Ok L (l + 1) u → l + 1 ≤ lev L u ∧ lev L u ≤ L := fun u ou => ⟨ou.lev_ge (by have := hok.2.1; omega), ou.lev_le⟩
      have lb := hlev b hok.2.2.2.1
      have lc := hlev c hok.2.2.2.2
      have hH5 : (upd H' r0 (.tup [ixV ts b, ixV ts c])) r0 = some (.tup [ixV ts b, ixV ts c]) := upd_same
      have hk5 : (upd H' r0 (.tup [ixV ts b, ixV ts c])) p = some (.dK kvs) := by rw [upd_ne (ne_of_none hk hr0)]; exact hk
      have hq5 : (upd H' r0 (.tup [ixV ts b, ixV ts c])) q = some (.lst (xs.map (ixV ts))) := by rw [upd_ne (ne_of_none hq' hr0)]; exact hq'
      have e5 : ExtN H (upd H' r0 (.tup [ixV ts b, ixV ts c])) := e.trans (ExtN.new hr0)
      have t5 : Tabs T (upd H' r0 (.tup [ixV ts b, ixV ts c])) := Tabs.new ht' hr0
      have hval5 : ∀ t, t ∈ ts → (isNd t = false ∨ ∃ j, j < i ∧ xs[j]? = some t) → ∃ r, valV kvs (Sum.inl ((ixN ts t : Nat) : Int)) = some (.ref r) ∧ (upd H' r0 (.tup [ixV ts b, ixV ts c])) r = some (.tup [.int (cn L t : Nat), .int (lev L t : Nat)]) := fun t ht h => by
        obtain ⟨r, h1, h2⟩ := hval t ht h
        exact ⟨r, h1, by rw [upd_ne (ne_of_none h2 hr0)]; exact h2⟩
      have hbk : isNd b = false ∨ ∃ j, j < i ∧ xs[j]? = some b := by cases h : isNd b with | false => exact .inl rfl | true => exact .inr (hbf.1 h)
      have hck : isNd c = false ∨ ∃ j, j < i ∧ xs[j]? = some c := by cases h : isNd c with | false => exact .inl rfl | true => exact .inr (hbf.2 h)
      generalize hG : upd H' r0 (.tup [ixV ts b, ixV ts c]) = H5 at hH5 hk5 hq5 e5 t5 hval5
      let tot : Nat → Nat := fun i => if i = 0 then 0 else if i = 1 then cn L b * 2 ^ (lev L b - l - 1) else cn L b * 2 ^ (lev L b - l - 1) + cn L c * 2 ^ (lev L c - l - 1)
      refine ⟨r0, rfl, ⟨_, .of upd_same⟩, for_tup (K := K) (a := r0) (xs := [ixV ts b, ixV ts c]) (fun m σ H'' => H'' = H5 ∧ ∃ (o6 o7 o8 : Option V), σ = [some (.ref A.p), some (ixV ts a), some (.ref p), some (ixV ts (.nd l b c)), some (.int l), some (.int (tot m : Nat)), o6, o7, o8]) ⟨hG, o6, o7, o8, rfl⟩ (fun m σ H'' _ h => by rw [h.1]; exact .of hH5) ?_ ?_⟩
      · rintro m v σ H'' hm ⟨rfl, o6', o7', o8', rfl⟩
        obtain ⟨u, rfl, hu, huk, hul, htot⟩ : ∃ u, v = ixV ts u ∧ u ∈ ts ∧ (isNd u = false ∨ ∃ j, j < i ∧ xs[j]? = some u) ∧ (l + 1 ≤ lev L u ∧ lev L u ≤ L) ∧ tot (m + 1) = tot m + cn L u * 2 ^ (lev L u - l - 1) := by
          match m, hm with
          | 0, hm => exact ⟨b, (Option.some.inj hm).symm, hbc.1, hbk, lb, by simp [tot]⟩
          | 1, hm => exact ⟨c, (Option.some.inj hm).symm, hbc.2, hck, lc, by simp [tot]⟩
          | m + 2, hm => simp at hm
        obtain ⟨r, g1, g2⟩ := hval5 u hu huk
        walk_at "sx"
        refine ⟨_, g1 ▸ DGet.k (k := .inl ((ixN ts u : Nat) : Int)) hk5, r, rfl, _, .of g2, rfl, _, _, rfl, _, _, rfl, rfl, ?_⟩
        refine ⟨_, rfl, lev L u - l - 1, by rw [show ((lev L u : Nat) : Int) - (l : Int) - 1 = ((lev L u - l - 1 : Nat) : Int) by omega], by omega, _, rfl, _, rfl, .inr (pow64 (by omega)), rfl, ?_⟩
        rw [htot]
        push_cast
        rfl
      · rintro σ H'' ⟨rfl, o6', o7', o8', rfl⟩
        walk_at "sx"
        refine ⟨sz_small (by decide), fun p4 hp4 => ?_⟩
        have hk6 : (upd H'' p4 (.tup [V.int (tot 2 : Nat), V.int l])) p = some (.dK kvs) := by rw [upd_ne (ne_of_none hk5 hp4)]; exact hk5
        have hp4p : p4 ≠ p := (ne_of_none hk5 hp4).symm
        refine ⟨_, DPut.k (k := .inl ((ixN ts (.nd l b c) : Nat) : Int)) hk6 (by omega), extN_mut (e5.trans (ExtN.new hp4)) hp, tabs_dK (Tabs.new t5 hp4) hk6, by rw [upd_ne hpq.symm, upd_ne (ne_of_none hq5 hp4)]; exact hq5, _, upd_same, ?_, fun u hu h => ?_⟩
        · have := length_putK kvs (Sum.inl ((ixN ts (.nd l b c) : Nat) : Int)) (V.ref p4)
          omega
        · rw [valV_put]
          by_cases e : u = .nd l b c
          · rw [e, if_pos rfl]
            exact ⟨p4, rfl, by rw [upd_ne hp4p]; exact upd_same⟩
          · rw [if_neg (fun z => e (ixN_inj hu hts (by injection z with z; omega)))]
            obtain ⟨r, g1, g2⟩ := hval5 u hu (by
              rcases h with h | ⟨j, hj, h⟩
              · exact .inl h
              · refine .inr ⟨j, Nat.lt_of_le_of_ne (Nat.le_of_lt_succ hj) (fun z => e ?_), h⟩
                rw [z, hti] at h
                exact (Option.some.inj h).symm)
            exact ⟨r, g1, by rw [upd_ne (ne_of g2 hk5 (fun z => by cases z)), upd_ne (ne_of_none g2 hp4)]; exact g2⟩
    · rintro σ H' ⟨kvs, o3, o4, o5, o6, o7, o8, rfl, e, ht', hq', hk, hlen, hval⟩
      have hxl : (xs.map (ixV ts)).length = xs.length := List.length_map ..
      rw [hxl] at hval
      obtain ⟨r, gr, hr'⟩ := hval a ha (by
        cases h : isNd a with
        | false => exact .inl rfl
        | true =>
          obtain ⟨j, hj, e⟩ := List.getElem_of_mem (B.top h)
          exact .inr ⟨j, hj, by rw [List.getElem?_eq_getElem hj, e]⟩)
      walk_at "sx"
      refine ⟨_, gr ▸ DGet.k (k := .inl ((ixN ts a : Nat) : Int)) hk, r, rfl, _, .of hr', rfl, _, _, rfl, _, _, rfl, rfl, ?_⟩
      have hla := (x.wf.ok a ha).lev_le
      refine ⟨lev L a, rfl, by omega, _, rfl, _, rfl, .inr (pow64 (by omega)), ?_⟩
      have := k H' e ht'
      push_cast at this ⊢
      exact this
end
end My
namespace My
open PySem PySem.Spec PyProof.Rows L2 LamX Tr
section
variable {P : Program} {w : World} {K : PySem.W.Frag} {mg : Str → Option Value} {base : Heap} {C : Addr} {T : List (Addr × Str)}
def signV : Option Bool → V
  | none => .non
  | some b => .int (if b = true then 1 else 0)
/-- the lists at rs hold the signs ps -/
inductive Rep (H : Hp) : List Addr → List Pa → Prop
  | nil : Rep H [] []
  | cons {r : Addr} {p : Pa} {rs : List Addr} {ps : List Pa} : H r = some (.lst (p.map signV)) → Rep H rs ps → Rep H (r :: rs) (p :: ps)
theorem Rep.imp {H H' : Hp} : ∀ {rs : List Addr} {ps : List Pa}, Rep H rs ps → (∀ (r : Addr) (p : Pa), r ∈ rs → H r = some (.lst (p.map signV)) → H' r = some (.lst (p.map signV))) → Rep H' rs ps
  | _, _, .nil, _ => .nil
  | _, _, .cons h t, k => .cons (k _ _ (List.mem_cons_self ..) h) (t.imp fun r p hr e => k r p (List.mem_cons_of_mem _ hr) e)
theorem Rep.snoc {H : Hp} {r : Addr} {p : Pa} (h : H r = some (.lst (p.map signV))) : ∀ {rs : List Addr} {ps : List Pa}, Rep H rs ps → Rep H (rs ++ [r]) (ps ++ [p])
  | _, _, .nil => .cons h .nil
  | _, _, .cons g t => .cons g (t.snoc h)
theorem Rep.length {H : Hp} : ∀ {rs : List Addr} {ps : List Pa}, Rep H rs ps → rs.length = ps.length
  | _, _, .nil => rfl
  | _, _, .cons _ t => by rw [List.length_cons, List.length_cons, t.length]
theorem Rep.get {H : Hp} : ∀ {rs : List Addr} {ps : List Pa}, Rep H rs ps → ∀ {i : Nat} {r : Addr}, rs[i]? = some r → ∃ p, ps[i]? = some p ∧ H r = some (.lst (p.map signV))
  | _, _, .cons h t, 0, r, e => ⟨_, rfl, (Option.some.inj e) ▸ h⟩
  | _, _, .cons h t, i + 1, r, e => t.get (i := i) e
theorem Rep.mem {H : Hp} {rs : List Addr} {ps : List Pa} (R : Rep H rs ps) {r : Addr} (h : r ∈ rs) : ∃ p, H r = some (.lst (p.map signV)) ∧ p ∈ ps := by
  obtain ⟨i, hi, e⟩ := List.getElem_of_mem h
  obtain ⟨p, h1, h2⟩ := R.get (i := i) (r := r) (by rw [List.getElem?_eq_getElem hi, e])
  exact ⟨p, h2, List.mem_of_getElem? h1⟩
/-- what is left to do, the top first: a tree, its signs -/
def Stk (L : Nat) (ts : List Tr.T) (fd lf : Addr) (H : Hp) : List (Addr × Tr.T × Pa) → Prop
  | [] => True
  | (u, t, s) :: r => r.length ≤ s.length ∧ s.length ≤ L ∧ t ∈ ts ∧ Ok L s.length t ∧ (∃ q, H u = some (.tup [ixV ts t, .ref q]) ∧ H q = some (.lst (s.map signV)) ∧ q ≠ fd ∧ q ≠ lf) ∧ Stk L ts fd lf H r
theorem Stk.imp {L : Nat} {ts : List Tr.T} {fd lf : Addr} {H H' : Hp} (e : ∀ b o, H b = some o → b ≠ fd → b ≠ lf → H' b = some o) (hf : ∃ xs, H fd = some (.lst xs)) (hl : ∃ xs, H lf = some (.lst xs)) : ∀ {st : List (Addr × Tr.T × Pa)}, Stk L ts fd lf H st → Stk L ts fd lf H' st
  | [], _ => True.intro
  | (u, t, s) :: r, ⟨h1, h2, h3, h4, ⟨q, k1, k2, k3, k4⟩, h5⟩ => by
    obtain ⟨xs, hf'⟩ := hf
    obtain ⟨ys, hl'⟩ := hl
    exact ⟨h1, h2, h3, h4, ⟨q, e _ _ k1 (ne_of k1 hf' (fun z => by cases z)) (ne_of k1 hl' (fun z => by cases z)), e _ _ k2 k3 k4, k3, k4⟩, Stk.imp e ⟨xs, hf'⟩ ⟨ys, hl'⟩ h5⟩
def toDo (L : Nat) (st : List (Addr × Tr.T × Pa)) : List Pa := st.flatMap fun e => (pa (L - e.2.2.length) e.2.2.length e.2.1).map (e.2.2 ++ ·)
def mu (L : Nat) : List (Addr × Tr.T × Pa) → Nat
  | [] => 0
  | e :: r => 2 ^ (L - e.2.2.length + 1) - 1 + mu L r
theorem toDo_cons {L : Nat} {u : Addr} {t : Tr.T} {s : Pa} {st : List (Addr × Tr.T × Pa)} : toDo L ((u, t, s) :: st) = (pa (L - s.length) s.length t).map (s ++ ·) ++ toDo L st := by simp [toDo]
theorem toDo_one {L d : Nat} {u u' : Addr} {t : Tr.T} {s : Pa} {st : List (Addr × Tr.T × Pa)} (hd : L - s.length = d + 1) (hn : t ≠ .no) (h : lo s.length t = hi s.length t) : toDo L ((u', lo s.length t, s ++ [none]) :: st) = toDo L ((u, t, s) :: st) := by
  have e : L - (s ++ [none]).length = d := by rw [List.length_append, List.length_singleton]; omega
  rw [toDo_cons, toDo_cons, e, hd, List.length_append, List.length_singleton]
  conv => rhs; unfold pa
  rw [if_neg hn, if_pos h, List.map_map]
  congr 1
  refine List.map_congr_left fun p _ => ?_
  simp
theorem toDo_two {L d : Nat} {u u' u2 : Addr} {t : Tr.T} {s : Pa} {st : List (Addr × Tr.T × Pa)} (hd : L - s.length = d + 1) (hn : t ≠ .no) (h : lo s.length t ≠ hi s.length t) : toDo L ((u', lo s.length t, s ++ [some false]) :: (u2, hi s.length t, s ++ [some true]) :: st) = toDo L ((u, t, s) :: st) := by
  have e : L - (s ++ [some false]).length = d := by rw [List.length_append, List.length_singleton]; omega
  have e2 : L - (s ++ [some true]).length = d := by rw [List.length_append, List.length_singleton]; omega
  rw [toDo_cons, toDo_cons, toDo_cons, e, e2, hd, List.length_append, List.length_singleton, List.length_append, List.length_singleton]
  conv => rhs; unfold pa
  rw [if_neg hn, if_neg h, List.map_append, List.map_map, List.map_map, List.append_assoc]
  congr 1
  · refine List.map_congr_left fun p _ => ?_
    simp
  · congr 1
    refine List.map_congr_left fun p _ => ?_
    simp
def spParts (P : Program) (w : World) (T : List (Addr × Str)) (C : Addr) : Sp := fun vs H Q _ => ∃ (A : TA) (L : Nat) (ts : List Tr.T) (n : Nat) (a : Tr.T), vs = [.ref A.p, ixV ts a] ∧ TreesAt P w T C A L H ts n ∧ a ∈ ts ∧ L ≤ 60 ∧ np a < sizeLine ∧
  ∀ p H' rs, Evl.Ex H H' → H' p = some (.lst (rs.map V.ref)) → Rep H' rs (pa L 0 a) → Q (.ref p) H'
theorem sc_Trees_parts : FnScope ["self", "tree", "found", "left", "own", "signs", "low", "high"] ["self", "tree"] (defScope s_Trees_parts) := ⟨rfl, rfl, rfl, by decide +kernel, rfl, by decide +kernel, by decide +kernel⟩
theorem ok_parts {f : Addr} {fd : FuncData} (F : FD K s_Trees_parts "parts" "Trees.parts" f fd) (X : TxT K mg C) (M_halves : MtG P w K mg base C 1 "halves" ["self", "tree", "level"] (spHalves P w T C)) : FnOk P w K mg base (XC P w) 2 f fd ["self", "tree"] (spParts P w T C) := by
  refine F.ok sc_Trees_parts (fun vs H Q E h => ?_) (fun cdv A outer s H vs Q E hr h => ?_)
  · obtain ⟨A, L, ts, n, a, rfl, _⟩ := h
    rfl
  · refine ⟨_, (pss_cons (ps_par (i := 2) (j := 3) (by rfl) sc_Trees_parts.nd rfl rfl (by decide) rfl rfl (pa_cons (pe_lst pa_nil) (pa_cons (pe_lst (pa_cons (pe_tup (pa_cons (pv 1) (pa_cons (pe_lst pa_nil) pa_nil))) pa_nil)) pa_nil)) (by rfl))
      (pss_cons (ps_while (passes_of rfl) (pt_cmpR (op_neL0 hr.units) (pv 3) (pe_lst pa_nil) (nomark _))
      (pss_cons (ps_asg (pe_bm0 PySem.F.plainAttrs_list PySem.F.slot_list_pop PySem.F.type_list_pop mt_pop (pv 3)) (pg_tup (by rfl) (pgs_cons (pg_name (i := 4) sc_Trees_parts.nd rfl (Or.inl rfl)) (pgs_cons (pg_name (i := 5) sc_Trees_parts.nd rfl (Or.inl rfl)) pgs_nil))))
      (pss_one (ps_if (PW.pt (pw_and (pt_cmpR op_ne (pv 4) (pe_gint X.c_NOTHING) (nomark _)) (pw_and1 (pt_cmpR op_eq (pe_callB call_len (by rfl) X.b_len PySem.boot_len (pa_cons (pv 5) pa_nil)) (pe_fld (pv 0) rfl) (nomark _))))) (pss_one (ps_expr (pe_bm PySem.F.plainAttrs_list PySem.F.slot_list_append PySem.F.type_list_append mt_append (pv 2) (pa_cons (pv 5) pa_nil)))) (pss_one (ps_if (pt_cmpR op_ne (pv 4) (pe_gint X.c_NOTHING) (nomark _)) (pss_cons (ps_asg (pe_mt (pv 0) M_halves (hr.mono (by first | omega | decide)) passE0 (pa_cons (pv 4) (pa_cons (pe_callB call_len (by rfl) X.b_len PySem.boot_len (pa_cons (pv 5) pa_nil)) pa_nil))) (pg_tup (by rfl) (pgs_cons (pg_name (i := 6) sc_Trees_parts.nd rfl (Or.inl rfl)) (pgs_cons (pg_name (i := 7) sc_Trees_parts.nd rfl (Or.inl rfl)) pgs_nil))))
      (pss_one (ps_if (pt_cmpR op_eq (pv 6) (pv 7) (nomark _)) (pss_one (ps_expr (pe_bm PySem.F.plainAttrs_list PySem.F.slot_list_append PySem.F.type_list_append mt_append (pv 3) (pa_cons (pe_tup (pa_cons (pv 6) (pa_cons (pe_lst (StX.pa_star (pv 5) (pa_cons pe_non pa_nil))) pa_nil))) pa_nil)))) (pss_one (ps_expr (pe_bm PySem.F.plainAttrs_list PySem.F.slot_list_extend PySem.F.type_list_extend mt_extend (pv 3) (pa_cons (pe_lst (pa_cons (pe_tup (pa_cons (pv 7) (pa_cons (pe_lst (StX.pa_star (pv 5) (pa_cons pe_int pa_nil))) pa_nil))) (pa_cons (pe_tup (pa_cons (pv 6) (pa_cons (pe_lst (StX.pa_star (pv 5) (pa_cons pe_int pa_nil))) pa_nil))) pa_nil))) pa_nil))))))) pss_nil))))))
      (pss_one (ps_ret (pv 2))))), ?_⟩
    dsimp only [cxOf]
    obtain ⟨A, L, ts, n, a, rfl, x, ha, hl, hz, k⟩ := h
    walk_at "sx"
    refine ⟨Nat.zero_le _, fun fd' hfd => ⟨Nat.zero_le _, fun q0 hq0 => ⟨sz_small (by decide), fun u0 hu0 => ⟨sz_small (by decide), fun lf hlf => ?_⟩⟩⟩⟩
    have nfq : fd' ≠ q0 := ne_of_none upd_same hq0
    have hfd1 : (upd (upd H fd' (.lst [])) q0 (.lst [])) fd' = some (.lst []) := by rw [upd_ne nfq]; exact upd_same
    have hfd2 : (upd (upd (upd H fd' (.lst [])) q0 (.lst [])) u0 (.tup [ixV ts a, V.ref q0])) fd' = some (.lst []) := Evl.Ex.new hu0 _ _ hfd1
    have hq2 : (upd (upd (upd H fd' (.lst [])) q0 (.lst [])) u0 (.tup [ixV ts a, V.ref q0])) q0 = some (.lst []) := Evl.Ex.new hu0 _ _ upd_same
    have nfl : fd' ≠ lf := ne_of_none hfd2 hlf
    have nql : q0 ≠ lf := ne_of_none hq2 hlf
    have hlfH : H lf = none := by
      cases e : H lf with
      | none => rfl
      | some o =>
        have := Evl.Ex.new (o := .tup [ixV ts a, V.ref q0]) hu0 _ _ (Evl.Ex.new (o := .lst []) hq0 _ _ (Evl.Ex.new (o := .lst []) hfd _ _ e))
        rw [hlf] at this
        cases this
    refine ⟨fun m σ H' => ∃ (st : List (Addr × Tr.T × Pa)) (fs : List Addr) (fps : List Pa) (o4 o5 o6 o7 : Option V), σ = [some (.ref A.p), some (ixV ts a), some (.ref fd'), some (.ref lf), o4, o5, o6, o7] ∧ Evl.Ex H H' ∧ H' fd' = some (.lst (fs.map V.ref)) ∧ H' lf = some (.lst ((st.map (·.1)).reverse.map V.ref)) ∧ Rep H' fs fps ∧ (∀ r, r ∈ fs → r ≠ fd' ∧ r ≠ lf) ∧ Stk L ts fd' lf H' st ∧ fps ++ toDo L st = pa L 0 a ∧ m = mu L st,
      ⟨_, [(u0, a, [])], [], [], none, none, none, none, rfl, ((Evl.Ex.new hfd).trans (Evl.Ex.new hq0)).trans ((Evl.Ex.new hu0).trans (Evl.Ex.new hlf)), by rw [upd_ne nfl]; exact hfd2, upd_same, .nil, by simp, ⟨Nat.le_refl _, Nat.zero_le _, ha, x.wf.ok a ha, ⟨q0, by rw [upd_ne (ne_of_none upd_same hlf)]; exact upd_same, by rw [upd_ne nql]; exact hq2, nfq.symm, nql⟩, True.intro⟩, by simp [toDo], rfl⟩, ?_⟩
    rintro m σ H' ⟨st, fs, fps, o4, o5, o6, o7, rfl, e, hf, hlst, hrep, hfs, hst, hto, rfl⟩
    have y := x.ex e
    walk_at "sx"
    refine ⟨Nat.zero_le _, fun q hq => ?_⟩
    have nlq : lf ≠ q := ne_of_none hlst hq
    have nfq' : fd' ≠ q := ne_of_none hf hq
    refine ⟨_, .of (by rw [upd_ne nlq]; exact hlst), .of upd_same, ?_⟩
    have e2 : Evl.Ex H (upd H' q (.lst [])) := e.trans (Evl.Ex.new hq)
    have hf2 : (upd H' q (.lst [])) fd' = some (.lst (fs.map V.ref)) := by rw [upd_ne nfq']; exact hf
    have hl2 : (upd H' q (.lst [])) lf = some (.lst ((st.map (·.1)).reverse.map V.ref)) := by rw [upd_ne nlq]; exact hlst
    have hrep2 : Rep (upd H' q (.lst [])) fs fps := hrep.imp fun r p _ h => Evl.Ex.new hq _ _ h
    have hst2 : Stk L ts fd' lf (upd H' q (.lst [])) st := Stk.imp (fd := fd') (lf := lf) (H := H') (fun b o h _ _ => Evl.Ex.new hq _ _ h) ⟨_, hf⟩ ⟨_, hlst⟩ hst
    generalize upd H' q (.lst []) = H2 at e2 hf2 hl2 hrep2 hst2 ⊢
    cases st with
    | nil =>
      rw [if_neg (by simp)]
      refine k fd' H2 fs e2 hf2 ?_
      have h : fps = pa L 0 a := by rw [← hto]; simp [toDo]
      rw [← h]
      exact hrep2
    | cons s0 st =>
      obtain ⟨u, t, s⟩ := s0
      rw [if_pos (by simp)]
      obtain ⟨d1, d2, ht, hok, ⟨q1, k1, k2, k3, k4⟩, hst3⟩ := hst2
      have hlast : (((((u, t, s) :: st).map (·.1)).reverse.map V.ref))[(((((u, t, s) :: st).map (·.1)).reverse.map V.ref)).length - 1]? = some (.ref u) := by simp
      have hdrop : (((((u, t, s) :: st).map (·.1)).reverse.map V.ref)).dropLast = (st.map (·.1)).reverse.map V.ref := by
        rw [List.map_cons, List.reverse_cons, List.map_append, List.map_cons, List.map_nil, List.dropLast_concat]
      have e3 : Evl.Ex H (upd H2 lf (.lst ((st.map (·.1)).reverse.map V.ref))) := Evl.Ex.mut e2 hlfH
      have hf3 : (upd H2 lf (.lst ((st.map (·.1)).reverse.map V.ref))) fd' = some (.lst (fs.map V.ref)) := by rw [upd_ne nfl]; exact hf2
      have hrep3 : Rep (upd H2 lf (.lst ((st.map (·.1)).reverse.map V.ref))) fs fps := hrep2.imp fun r p hr h => by rw [upd_ne (hfs r hr).2]; exact h
      have hst4 : Stk L ts fd' lf (upd H2 lf (.lst ((st.map (·.1)).reverse.map V.ref))) st := Stk.imp (fd := fd') (lf := lf) (H := H2) (fun b o h _ n2 => by rw [upd_ne n2]; exact h) ⟨_, hf2⟩ ⟨_, hl2⟩ hst3
      have k1' : (upd H2 lf (.lst ((st.map (·.1)).reverse.map V.ref))) u = some (.tup [ixV ts t, .ref q1]) := by rw [upd_ne (ne_of k1 hl2 (fun z => by cases z))]; exact k1
      have k2' : (upd H2 lf (.lst ((st.map (·.1)).reverse.map V.ref))) q1 = some (.lst (s.map signV)) := by rw [upd_ne k4]; exact k2
      have hl3 : (upd H2 lf (.lst ((st.map (·.1)).reverse.map V.ref))) lf = some (.lst ((st.map (·.1)).reverse.map V.ref)) := upd_same
      refine ⟨fun σ' H'' => ∃ m', m' < mu L ((u, t, s) :: st) ∧ _, fun σ' H'' h => h, .inl ⟨rfl, _, .of hl2⟩, _, hl2, _, hlast, u, rfl, ?_⟩
      rw [hdrop]
      generalize upd H2 lf (.lst ((st.map (·.1)).reverse.map V.ref)) = H3 at e3 hf3 hrep3 hst4 k1' k2' hl3 ⊢
      have y3 := x.ex e3
      refine ⟨_, .of k1', rfl, _, _, rfl, _, _, rfl, rfl, rfl, ?_⟩
      have hmu : 2 ≤ 2 ^ (L - s.length + 1) := by
        have := Nat.one_le_two_pow (n := L - s.length)
        rw [Nat.pow_succ]
        omega
      by_cases htn : t = .no
      · have hd : decide (ixV ts t = V.int 0) = true := decide_eq_true (by rw [htn, x.wf.ix_no])
        rw [if_neg (by rw [hd]; decide)]
        refine ⟨rfl, ?_⟩
        rw [if_neg (by rw [hd]; decide)]
        refine ⟨_, ?_, st, fs, fps, _, _, _, _, rfl, e3, hf3, hl3, hrep3, hfs, hst4, ?_, rfl⟩
        · show mu L st < 2 ^ (L - s.length + 1) - 1 + mu L st
          omega
        · rw [← hto]
          simp [toDo, htn, pa_no]
      · have hd : decide (ixV ts t = V.int 0) = false := decide_eq_false (fun z => htn ((x.wf.mem_ix ht z).1 rfl))
        rw [if_pos hd]
        refine ⟨s.length, .inl ⟨_, .of k2', by rw [List.length_map]⟩, rd_levels y3.ins X rfl ⟨rfl, ?_⟩⟩
        by_cases hsl : s.length = L
        · rw [if_pos (decide_eq_true (by rw [hsl]))]
          have hpa : pa (L - s.length) s.length t = [[]] := by rw [hsl, Nat.sub_self]; simp [pa, htn]
          have hto' : fps ++ s :: toDo L st = pa L 0 a := by
            rw [← hto]
            simp [toDo, hpa]
          have hlen := congrArg List.length hto'
          rw [pa_length (x.wf.ok a ha) (by omega), List.length_append, List.length_cons] at hlen
          have hfl : fs.length = fps.length := hrep3.length
          refine ⟨.inl ⟨rfl, _, .of hf3⟩, _, hf3, by rw [List.length_map]; omega, ?_⟩
          have nq1 : ∀ b o, H3 b = some o → b ≠ fd' → b ≠ lf → (upd H3 fd' (.lst (fs.map V.ref ++ [V.ref q1]))) b = some o := fun b o h n _ => by rw [upd_ne n]; exact h
          refine ⟨_, ?_, st, fs ++ [q1], fps ++ [s], _, _, _, _, rfl, Evl.Ex.mut e3 hfd, by rw [upd_same, List.map_append]; rfl, by rw [upd_ne nfl.symm]; exact hl3, ?_, fun r hr => ?_, Stk.imp (fd := fd') (lf := lf) (H := H3) nq1 ⟨_, hf3⟩ ⟨_, hl3⟩ hst4, by rw [List.append_assoc]; exact hto', rfl⟩
          · show mu L st < 2 ^ (L - s.length + 1) - 1 + mu L st
            omega
          · refine Rep.snoc (by rw [upd_ne k3]; exact k2') (hrep3.imp fun r p hr h => by rw [upd_ne (hfs r hr).1]; exact h)
          · rcases List.mem_append.mp hr with h | h
            · exact hfs r h
            · rw [List.mem_singleton] at h
              rw [h]
              exact ⟨k3, k4⟩
        · rw [if_neg (fun z => hsl (by have := of_decide_eq_true z; injection this with this; omega))]
          refine ⟨rfl, ?_⟩
          rw [if_pos hd]
          refine ⟨_, _, y3.ins, by rfl, s.length, .inl ⟨_, .of k2', by rw [List.length_map]⟩, A, L, s.length, ts, n, t, rfl, y3, ht, by omega, fun r0 hr0 => ⟨r0, rfl, _, .of upd_same, rfl, _, _, rfl, _, _, rfl, rfl, rfl, ?_⟩⟩
          obtain ⟨d, hd1⟩ : ∃ d, L - s.length = d + 1 := ⟨L - s.length - 1, by omega⟩
          have hd2 : L - (s.length + 1) = d := by omega
          have e4 : Evl.Ex H3 (upd H3 r0 (.tup [ixV ts (lo s.length t), ixV ts (hi s.length t)])) := Evl.Ex.new hr0
          have hk4 := e4 _ _ k2'
          have hl4 := e4 _ _ hl3
          have hf4 := e4 _ _ hf3
          have hEx := e3.trans e4
          have nall : ∀ b o, H3 b = some o → b ≠ fd' → b ≠ lf → (upd H3 r0 (.tup [ixV ts (lo s.length t), ixV ts (hi s.length t)])) b = some o := fun b o h _ _ => e4 _ _ h
          have hst5 := Stk.imp (fd := fd') (lf := lf) (H := H3) nall ⟨_, hf3⟩ ⟨_, hl3⟩ hst4
          have hrep5 : Rep (upd H3 r0 (.tup [ixV ts (lo s.length t), ixV ts (hi s.length t)])) fs fps := hrep3.imp fun r p _ h => e4 _ _ h
          generalize upd H3 r0 (.tup [ixV ts (lo s.length t), ixV ts (hi s.length t)]) = H4 at hk4 hl4 hf4 hEx hst5 hrep5 ⊢
          have hz1 : ∀ v : V, (s.map signV ++ [v]).length ≤ sizeLine := fun v => by rw [List.length_append, List.length_map, List.length_singleton]; exact sz_small (by omega)
          have hstl : ((st.map (·.1)).reverse.map V.ref).length = st.length := by simp
          have hpow : 2 ^ (L - s.length + 1) = 2 * 2 ^ (d + 1) := by rw [hd1, Nat.pow_succ, Nat.mul_comm]
          have hpos := Nat.two_pow_pos (d + 1)
          by_cases heq : lo s.length t = hi s.length t
          · rw [if_pos (decide_eq_true (by rw [heq]))]
            refine ⟨.inl ⟨rfl, _, .of hl4⟩, q1, rfl, _, .inr (.of hk4), hz1 _, fun q5 hq5 => ⟨sz_small (by decide), fun u5 hu5 => ?_⟩⟩
            have E6 : Evl.Ex H4 (upd (upd H4 q5 (.lst (s.map signV ++ [V.non]))) u5 (.tup [ixV ts (lo s.length t), V.ref q5])) := (Evl.Ex.new hq5).trans (Evl.Ex.new hu5)
            have n5f : q5 ≠ fd' := (ne_of_none hf4 hq5).symm
            have n5l : q5 ≠ lf := (ne_of_none hl4 hq5).symm
            have g5 : (upd (upd H4 q5 (.lst (s.map signV ++ [V.non]))) u5 (.tup [ixV ts (lo s.length t), V.ref q5])) q5 = some (.lst (s.map signV ++ [V.non])) := Evl.Ex.new hu5 _ _ upd_same
            have g6 : (upd (upd H4 q5 (.lst (s.map signV ++ [V.non]))) u5 (.tup [ixV ts (lo s.length t), V.ref q5])) u5 = some (.tup [ixV ts (lo s.length t), V.ref q5]) := upd_same
            generalize upd (upd H4 q5 (.lst (s.map signV ++ [V.non]))) u5 (.tup [ixV ts (lo s.length t), V.ref q5]) = H6 at E6 g5 g6 ⊢
            have hl6 := E6 _ _ hl4
            have hf6 := E6 _ _ hf4
            have nall6 : ∀ (o' : HO) b o, H4 b = some o → b ≠ fd' → b ≠ lf → (upd H6 lf o') b = some o := fun o' b o h _ n => by rw [upd_ne n]; exact E6 _ _ h
            refine ⟨_, hl6, by rw [hstl]; exact Nat.lt_of_le_of_lt (show st.length ≤ 60 by omega) (by decide), _, ?_, (u5, lo s.length t, s ++ [none]) :: st, fs, fps, _, _, _, _, rfl, Evl.Ex.mut (hEx.trans E6) hlfH, by rw [upd_ne nfl]; exact hf6, by rw [upd_same]; simp, hrep5.imp fun r p hr h => by rw [upd_ne (hfs r hr).2]; exact E6 _ _ h, hfs, ?_, by rw [toDo_one (u := u) hd1 htn heq]; exact hto, rfl⟩
            · show 2 ^ (L - (s ++ [none]).length + 1) - 1 + mu L st < 2 ^ (L - s.length + 1) - 1 + mu L st
              rw [List.length_append, List.length_singleton, hd2, hpow]
              omega
            · refine ⟨by simp; omega, by simp; omega, x.wf.lo ht _, by rw [List.length_append, List.length_singleton]; exact hok.lo, ⟨q5, by rw [upd_ne (ne_of g6 hl6 (fun z => by cases z))]; exact g6, by rw [upd_ne n5l, g5, List.map_append]; rfl, n5f, n5l⟩, Stk.imp (fd := fd') (lf := lf) (H := H4) (nall6 _) ⟨_, hf4⟩ ⟨_, hl4⟩ hst5⟩
          · rw [if_neg (fun z => heq (ixV_inj (x.wf.lo ht _) (x.wf.hi ht _) (of_decide_eq_true z)))]
            refine ⟨.inl ⟨rfl, _, .of hl4⟩, q1, rfl, _, .inr (.of hk4), hz1 _, fun q5 hq5 => ⟨sz_small (by decide), fun u5 hu5 => ?_⟩⟩
            have E6 : Evl.Ex H4 (upd (upd H4 q5 (.lst (s.map signV ++ [V.int 1]))) u5 (.tup [ixV ts (hi s.length t), V.ref q5])) := (Evl.Ex.new hq5).trans (Evl.Ex.new hu5)
            have n5f : q5 ≠ fd' := (ne_of_none hf4 hq5).symm
            have n5l : q5 ≠ lf := (ne_of_none hl4 hq5).symm
            have g5 : (upd (upd H4 q5 (.lst (s.map signV ++ [V.int 1]))) u5 (.tup [ixV ts (hi s.length t), V.ref q5])) q5 = some (.lst (s.map signV ++ [V.int 1])) := Evl.Ex.new hu5 _ _ upd_same
            have g6 : (upd (upd H4 q5 (.lst (s.map signV ++ [V.int 1]))) u5 (.tup [ixV ts (hi s.length t), V.ref q5])) u5 = some (.tup [ixV ts (hi s.length t), V.ref q5]) := upd_same
            generalize upd (upd H4 q5 (.lst (s.map signV ++ [V.int 1]))) u5 (.tup [ixV ts (hi s.length t), V.ref q5]) = H6 at E6 g5 g6 ⊢
            refine ⟨q1, rfl, _, .inr (.of (E6 _ _ hk4)), hz1 _, fun q7 hq7 => ⟨sz_small (by decide), fun u7 hu7 => ⟨sz_small (by decide), fun r7 hr7 => ?_⟩⟩⟩
            have n7f : q7 ≠ fd' := (ne_of_none (E6 _ _ hf4) hq7).symm
            have n7l : q7 ≠ lf := (ne_of_none (E6 _ _ hl4) hq7).symm
            have E8 : Evl.Ex H6 (upd (upd (upd H6 q7 (.lst (s.map signV ++ [V.int 0]))) u7 (.tup [ixV ts (lo s.length t), V.ref q7])) r7 (.lst [V.ref u5, V.ref u7])) := ((Evl.Ex.new hq7).trans (Evl.Ex.new hu7)).trans (Evl.Ex.new hr7)
            have g7 : (upd (upd (upd H6 q7 (.lst (s.map signV ++ [V.int 0]))) u7 (.tup [ixV ts (lo s.length t), V.ref q7])) r7 (.lst [V.ref u5, V.ref u7])) q7 = some (.lst (s.map signV ++ [V.int 0])) := Evl.Ex.new hr7 _ _ (Evl.Ex.new hu7 _ _ upd_same)
            have g8 : (upd (upd (upd H6 q7 (.lst (s.map signV ++ [V.int 0]))) u7 (.tup [ixV ts (lo s.length t), V.ref q7])) r7 (.lst [V.ref u5, V.ref u7])) u7 = some (.tup [ixV ts (lo s.length t), V.ref q7]) := Evl.Ex.new hr7 _ _ upd_same
            have g9 : (upd (upd (upd H6 q7 (.lst (s.map signV ++ [V.int 0]))) u7 (.tup [ixV ts (lo s.length t), V.ref q7])) r7 (.lst [V.ref u5, V.ref u7])) r7 = some (.lst [V.ref u5, V.ref u7]) := upd_same
            generalize upd (upd (upd H6 q7 (.lst (s.map signV ++ [V.int 0]))) u7 (.tup [ixV ts (lo s.length t), V.ref q7])) r7 (.lst [V.ref u5, V.ref u7]) = H8 at E8 g7 g8 g9 ⊢
            have E48 := E6.trans E8
            have hl8 := E48 _ _ hl4
            have hf8 := E48 _ _ hf4
            have g5' := E8 _ _ g5
            have g6' := E8 _ _ g6
            have nall6 : ∀ (o' : HO) b o, H4 b = some o → b ≠ fd' → b ≠ lf → (upd H8 lf o') b = some o := fun o' b o h _ n => by rw [upd_ne n]; exact E48 _ _ h
            refine ⟨_, hl8, _, g9, by rw [hstl]; exact sz_small (show st.length + 2 ≤ 1000 by omega), _, ?_, (u7, lo s.length t, s ++ [some false]) :: (u5, hi s.length t, s ++ [some true]) :: st, fs, fps, _, _, _, _, rfl, Evl.Ex.mut (hEx.trans E48) hlfH, by rw [upd_ne nfl]; exact hf8, by rw [upd_same]; simp, hrep5.imp fun r p hr h => by rw [upd_ne (hfs r hr).2]; exact E48 _ _ h, hfs, ?_, by rw [toDo_two (u := u) hd1 htn heq]; exact hto, rfl⟩
            · show 2 ^ (L - (s ++ [some false]).length + 1) - 1 + (2 ^ (L - (s ++ [some true]).length + 1) - 1 + mu L st) < 2 ^ (L - s.length + 1) - 1 + mu L st
              rw [List.length_append, List.length_singleton, List.length_append, List.length_singleton, hd2, hpow]
              omega
            · refine ⟨by simp; omega, by simp; omega, x.wf.lo ht _, by rw [List.length_append, List.length_singleton]; exact hok.lo, ⟨q7, by rw [upd_ne (ne_of g8 hl8 (fun z => by cases z))]; exact g8, by rw [upd_ne n7l, g7, List.map_append]; rfl, n7f, n7l⟩, ?_⟩
              refine ⟨by simp; omega, by simp; omega, x.wf.hi ht _, by rw [List.length_append, List.length_singleton]; exact hok.hi, ⟨q5, by rw [upd_ne (ne_of g6' hl8 (fun z => by cases z))]; exact g6', by rw [upd_ne n5l, g5', List.map_append]; rfl, n5f, n5l⟩, Stk.imp (fd := fd') (lf := lf) (H := H4) (nall6 _) ⟨_, hf4⟩ ⟨_, hl4⟩ hst5⟩
end
end My
namespace My
open PySem PySem.Spec PyProof.Rows L2 LamX Tr
/-- what the module has of the heads' names -/
structure HxT (mg : Str → Option Value) : Prop where
  c_MOST_WIDTH : ∃ t, mg "MOST_WIDTH" = some (.int 16 t)
  c_MOST_PATTERNS : ∃ t, mg "MOST_PATTERNS" = some (.int 4000 t)
  c_SIGNS : ∃ t, mg "SIGNS" = some (.str ("01" : Str) t)
  c_ANY : ∃ t, mg "ANY" = some (.str ("*" : Str) t)
  c_STAY : ∃ t, mg "STAY" = some (.str ("=" : Str) t)
  b_isinstance : mg "isinstance" = none
  b_int : mg "int" = none
  b_bool : mg "bool" = none
  b_str : mg "str" = none
  b_tuple : mg "tuple" = none
  b_len : mg "len" = none
  b_all : mg "all" = none
  b_any : mg "any" = none
  b_enumerate : mg "enumerate" = none
  b_zip : mg "zip" = none
section
variable {P : Program} {w : World} {K : PySem.W.Frag} {mg : Str → Option Value} {base : Heap} {C : Addr} {T : List (Addr × Str)}
def spIsInteger : Sp := fun vs H Q _ => ∃ i : Int, vs = [.int i] ∧ Q (.bl true) H
theorem sc_is_integer : FnScope ["value"] ["value"] (defScope s_is_integer) := ⟨rfl, rfl, rfl, by decide +kernel, rfl, by decide +kernel, by decide +kernel⟩
theorem ok_is_integer {f : Addr} {fd : FuncData} (F : FD K s_is_integer "is_integer" "is_integer" f fd) (X : HxT mg) : FnOk P w K mg base (XC P w) 1 f fd ["value"] spIsInteger := by
  refine F.ok sc_is_integer (fun vs H Q E h => ?_) (fun cdv A outer s H vs Q E hr h => ?_)
  · obtain ⟨i, rfl, _⟩ := h
    rfl
  · refine ⟨_, (pss_one (ps_ret (pe_and (pe_callB call_isi (by rfl) X.b_isinstance (by decide +kernel) (pa_cons (pv 0) (pa_cons (pe_bltn (v := .ty "int") (u := .type "int") (by rfl) X.b_int (by decide +kernel) rfl) pa_nil))) (pe_one (pe_not (pe_callB call_isi (by rfl) X.b_isinstance (by decide +kernel) (pa_cons (pv 0) (pa_cons (pe_bltn (v := .ty "bool") (u := .type "bool") (by rfl) X.b_bool (by decide +kernel) rfl) pa_nil)))))))), ?_⟩
    obtain ⟨i, rfl, k⟩ := h
    try dsimp only [cxOf]
    walk_at "sx"
    refine ⟨_, _, .ty _, .base (.int i), true, kit_ty (by decide +kernel), ?_⟩
    rw [if_pos rfl]
    exact ⟨_, _, .ty _, .base (.int i), false, kit_ty (by decide +kernel), k⟩
def spIsBetween : Sp := fun vs H Q _ => ∃ i a b : Int, vs = [.int i, .int a, .int b] ∧ Q (.bl (decide (a ≤ i) && decide (i ≤ b))) H
theorem sc_is_between : FnScope ["value", "least", "most"] ["value", "least", "most"] (defScope s_is_between) := ⟨rfl, rfl, rfl, by decide +kernel, rfl, by decide +kernel, by decide +kernel⟩
theorem ok_is_between {f : Addr} {fd : FuncData} (F : FD K s_is_between "is_between" "is_between" f fd) (F_is_integer : FnG P w K mg base 1 "is_integer" ["value"] spIsInteger) : FnOk P w K mg base (XC P w) 2 f fd ["value", "least", "most"] spIsBetween := by
  refine F.ok sc_is_between (fun vs H Q E h => ?_) (fun cdv A outer s H vs Q E hr h => ?_)
  · obtain ⟨i, a, b, rfl, _⟩ := h
    rfl
  · refine ⟨_, (pss_one (ps_ret (pe_and (pe_fn F_is_integer (hr.mono (by first | omega | decide)) passE0 (pa_cons (pv 0) pa_nil)) (pe_one (pe_chain op_le op_le (pv 1) (pv 0) (pv 2)))))), ?_⟩
    obtain ⟨i, a, b, rfl, k⟩ := h
    try dsimp only [cxOf]
    walk_at "sx"
    refine ⟨i, rfl, true, rfl, ?_⟩
    rw [if_pos rfl]
    by_cases ha : a ≤ i
    · rw [if_pos (decide_eq_true ha)]
      simpa [ha] using k
    · rw [if_neg (by simpa using ha)]
      simpa [ha] using k
def spCheckWidth : Sp := fun vs H Q _ => ∃ n : Nat, vs = [.int n] ∧ 1 ≤ n ∧ n ≤ 16 ∧ Q .non H
theorem sc_check_width : FnScope ["width"] ["width"] (defScope s_check_width) := ⟨rfl, rfl, rfl, by decide +kernel, rfl, by decide +kernel, by decide +kernel⟩
theorem ok_check_width {f : Addr} {fd : FuncData} (F : FD K s_check_width "check_width" "check_width" f fd) (X : HxT mg) (F_is_between : FnG P w K mg base 2 "is_between" ["value", "least", "most"] spIsBetween) : FnOk P w K mg base (XC P w) 3 f fd ["width"] spCheckWidth := by
  refine F.ok sc_check_width (fun vs H Q E h => ?_) (fun cdv A outer s H vs Q E hr h => ?_)
  · obtain ⟨n, rfl, _⟩ := h
    rfl
  · refine ⟨_, (pss_one (ps_if (pt_not (pt_val (pe_fn F_is_between (hr.mono (by first | omega | decide)) passE0 (pa_cons (pv 0) (pa_cons pe_int (pa_cons (pe_gint X.c_MOST_WIDTH) pa_nil)))))) (pss_one ps_never) pss_nil)), ?_⟩
    obtain ⟨n, rfl, h1, h2, k⟩ := h
    try dsimp only [cxOf]
    walk_at "sx"
    refine ⟨n, 1, 16, rfl, _, rfl, ?_⟩
    rw [if_neg (by simp; omega)]
    exact k
def spIsRow (K : PySem.W.Frag) : Sp := fun vs H Q _ => ∃ (n : Nat) (v : V) (sg : Str), vs = [.int n, v, .str sg] ∧ Item K H v ∧ ∀ H', Evl.Ex H H' → Q (.bl (okRow n sg v)) H'
theorem sc_is_row : FnScope ["width", "value", "signs", "sign"] ["width", "value", "signs"] (defScope s_is_row) := ⟨rfl, rfl, rfl, by decide +kernel, rfl, by decide +kernel, by decide +kernel⟩
theorem ok_is_row {f : Addr} {fd : FuncData} (F : FD K s_is_row "is_row" "is_row" f fd) (X : HxT mg) : FnOk P w K mg base (XC P w) 1 f fd ["width", "value", "signs"] (spIsRow K) := by
  refine F.ok sc_is_row (fun vs H Q E h => ?_) (fun cdv A outer s H vs Q E hr h => ?_)
  · obtain ⟨n, v, sg, rfl, _⟩ := h
    rfl
  · refine ⟨_, (pss_one (ps_ret (pe_and (pe_callB call_isi (by rfl) X.b_isinstance (by decide +kernel) (pa_cons (pv 1) (pa_cons (pe_bltn (v := .ty "str") (u := .type "str") (by rfl) X.b_str (by decide +kernel) rfl) pa_nil))) (pe_and (pe_cmpR op_eq (pe_callB call_len (by rfl) X.b_len PySem.boot_len (pa_cons (pv 1) pa_nil)) (pv 0) (nomark _)) (pe_one (pe_callB (cr_all rfl) (by rfl) X.b_all (by decide +kernel) (pa_cons (pe_lc (own := [("sign", 3)]) (g := (gName 3)) rfl sc_is_row.nd (pi_str (pv 1)) (blkOk_by (own := [("sign", 3)]) (N := ["width", "value", "signs", "sign"]) (sc := defScope s_is_row) (by decide +kernel)) (fun _ _ _ _ _ => pg_name (i := 3) sc_is_row.nd rfl (Or.inl rfl)) (fun _ _ _ _ _ => pts_nil) (fun _ _ _ _ _ => (pe_cmpR op_in_sign (pv 3) (pv 2) rfl))) pa_nil))))))), ?_⟩
    obtain ⟨n, v, sg, rfl, hv, k⟩ := h
    try dsimp only [cxOf]
    walk_at "sx"
    rcases hv with ⟨z, rfl, hz⟩ | hn
    · refine ⟨_, _, .ty _, .base (.str z), true, kit_ty (by decide +kernel), ?_⟩
      rw [if_pos rfl]
      have hz' : z.length ≤ sizeLine := Nat.le_trans hz (by decide)
      refine ⟨z.length, ⟨hz', rfl⟩, rfl, ?_⟩
      by_cases hn : z.length = n
      · rw [if_pos (decide_eq_true (by rw [hn]))]
        refine tLc_strV (z := z) (f := fun _ => true) (v := fun x => .bl (match x with | .str y => decide ((y.cps.getD 0 0) ∈ sg.cps.toList) | _ => false)) (fun R r => ⟨_, rfl, r⟩) hz' (fun _ => rfl) (fun x hx D acc hD R r => r) (fun x hx _ D acc hD R r => ?_) (fun D hD => ?_)
        · obtain ⟨c, hc, rfl⟩ := List.mem_map.mp hx
          walk_at "sx"
          exact ⟨c, rfl, r⟩
        · refine ⟨D, rfl, z.cps.toList.map (fun c => decide (c ∈ sg.cps.toList)), ?_, ?_⟩
          · refine .of ?_
            rw [upd_same]
            unfold chV
            rw [filter_tt, List.map_map, List.map_map]
            rfl
          · have h := k _ (Evl.Ex.new (o := .lst (((chV z).filter fun _ => true).map fun x => .bl (match x with | .str y => decide ((y.cps.getD 0 0) ∈ sg.cps.toList) | _ => false))) hD)
            rw [okRow_str, decide_eq_true hn, Bool.true_and] at h
            rw [List.all_map]
            exact h
      · rw [if_neg (fun q => hn (by have := of_decide_eq_true q; omega))]
        have h := k H (Evl.Ex.refl H)
        rw [okRow_str, decide_eq_false hn, Bool.false_and] at h
        exact h
    · have h := k H (Evl.Ex.refl H)
      rw [hn.ok] at h
      obtain ⟨t, h1, h2⟩ := hn
      refine ⟨_, _, .ty _, h1, false, kit_ty h2, ?_⟩
      rw [if_neg (by decide)]
      exact h
def spRowOf (K : PySem.W.Frag) (sg : Str) : Sp := fun vs H Q _ => ∃ (n : Nat) (v : V), vs = [.int n, v] ∧ Item K H v ∧ ∀ H', Evl.Ex H H' → Q (.bl (okRow n sg v)) H'
theorem sc_is_head_of : FnScope ["width", "value"] ["width", "value"] (defScope s_is_head_of) := ⟨rfl, rfl, rfl, by decide +kernel, rfl, by decide +kernel, by decide +kernel⟩
theorem sc_is_pattern_of : FnScope ["width", "value"] ["width", "value"] (defScope s_is_pattern_of) := ⟨rfl, rfl, rfl, by decide +kernel, rfl, by decide +kernel, by decide +kernel⟩
theorem sc_is_mask_of : FnScope ["width", "value"] ["width", "value"] (defScope s_is_mask_of) := ⟨rfl, rfl, rfl, by decide +kernel, rfl, by decide +kernel, by decide +kernel⟩
theorem ok_is_head_of {f : Addr} {fd : FuncData} (F : FD K s_is_head_of "is_head_of" "is_head_of" f fd) (X : HxT mg) (F_is_row : FnG P w K mg base 1 "is_row" ["width", "value", "signs"] (spIsRow K)) : FnOk P w K mg base (XC P w) 2 f fd ["width", "value"] (spRowOf K "01") := by
  refine F.ok sc_is_head_of (fun vs H Q E h => ?_) (fun cdv A outer s H vs Q E hr h => ?_)
  · obtain ⟨n, v, rfl, _⟩ := h
    rfl
  · refine ⟨_, (pss_one (ps_ret (pe_fn F_is_row (hr.mono (by first | omega | decide)) passE0 (pa_cons (pv 0) (pa_cons (pv 1) (pa_cons (pe_gstr X.c_SIGNS) pa_nil)))))), ?_⟩
    obtain ⟨n, v, rfl, hv, k⟩ := h
    try dsimp only [cxOf]
    walk_at "sx"
    exact ⟨n, v, _, rfl, hv, k⟩
theorem ok_is_pattern_of {f : Addr} {fd : FuncData} (F : FD K s_is_pattern_of "is_pattern_of" "is_pattern_of" f fd) (X : HxT mg) (F_is_row : FnG P w K mg base 1 "is_row" ["width", "value", "signs"] (spIsRow K)) : FnOk P w K mg base (XC P w) 2 f fd ["width", "value"] (spRowOf K "01*") := by
  refine F.ok sc_is_pattern_of (fun vs H Q E h => ?_) (fun cdv A outer s H vs Q E hr h => ?_)
  · obtain ⟨n, v, rfl, _⟩ := h
    rfl
  · refine ⟨_, (pss_one (ps_ret (pe_fn F_is_row (hr.mono (by first | omega | decide)) passE0 (pa_cons (pv 0) (pa_cons (pv 1) (pa_cons (pe_op op_add_str (pe_gstr X.c_SIGNS) (pe_gstr X.c_ANY)) pa_nil)))))), ?_⟩
    obtain ⟨n, v, rfl, hv, k⟩ := h
    try dsimp only [cxOf]
    walk_at "sx"
    exact ⟨by decide, n, v, _, rfl, hv, k⟩
end
end My
namespace My
open PySem PySem.Spec PyProof.Rows L2 LamX Tr
section
variable {P : Program} {w : World} {K : PySem.W.Frag} {mg : Str → Option Value} {base : Heap} {C : Addr} {T : List (Addr × Str)}
theorem ok_is_mask_of {f : Addr} {fd : FuncData} (F : FD K s_is_mask_of "is_mask_of" "is_mask_of" f fd) (X : HxT mg) (F_is_row : FnG P w K mg base 1 "is_row" ["width", "value", "signs"] (spIsRow K)) : FnOk P w K mg base (XC P w) 2 f fd ["width", "value"] (spRowOf K "01=") := by
  refine F.ok sc_is_mask_of (fun vs H Q E h => ?_) (fun cdv A outer s H vs Q E hr h => ?_)
  · obtain ⟨n, v, rfl, _⟩ := h
    rfl
  · refine ⟨_, (pss_one (ps_ret (pe_fn F_is_row (hr.mono (by first | omega | decide)) passE0 (pa_cons (pv 0) (pa_cons (pv 1) (pa_cons (pe_op op_add_str (pe_gstr X.c_SIGNS) (pe_gstr X.c_STAY)) pa_nil)))))), ?_⟩
    obtain ⟨n, v, rfl, hv, k⟩ := h
    walk_at "sx"
    exact ⟨by decide, n, v, _, rfl, hv, k⟩
def spCheckRow (sg : Str) : Sp := fun vs H Q _ => ∃ (n : Nat) (z : Str), vs = [.int n, .str z] ∧ z.length ≤ 1000 ∧ okRow n sg (.str z) = true ∧ ∀ H', Evl.Ex H H' → Q .non H'
theorem sc_check_head : FnScope ["width", "head"] ["width", "head"] (defScope s_check_head) := ⟨rfl, rfl, rfl, by decide +kernel, rfl, by decide +kernel, by decide +kernel⟩
theorem ok_check_head {f : Addr} {fd : FuncData} (F : FD K s_check_head "check_head" "check_head" f fd) (F_is_head_of : FnG P w K mg base 2 "is_head_of" ["width", "value"] (spRowOf K "01")) : FnOk P w K mg base (XC P w) 3 f fd ["width", "head"] (spCheckRow "01") := by
  refine F.ok sc_check_head (fun vs H Q E h => ?_) (fun cdv A outer s H vs Q E hr h => ?_)
  · obtain ⟨n, z, rfl, _⟩ := h
    rfl
  · refine ⟨_, (pss_one (ps_if (pt_not (pt_val (pe_fn F_is_head_of (hr.mono (by first | omega | decide)) passE0 (pa_cons (pv 0) (pa_cons (pv 1) pa_nil))))) (pss_one ps_never) pss_nil)), ?_⟩
    obtain ⟨n, z, rfl, hz, ho, k⟩ := h
    walk_at "sx"
    refine ⟨n, _, rfl, .inl ⟨z, rfl, hz⟩, fun H' e => ⟨_, rfl, ?_⟩⟩
    rw [if_neg (by rw [ho]; decide)]
    exact k H' e
theorem sc_check_mask : FnScope ["width", "mask"] ["width", "mask"] (defScope s_check_mask) := ⟨rfl, rfl, rfl, by decide +kernel, rfl, by decide +kernel, by decide +kernel⟩
theorem ok_check_mask {f : Addr} {fd : FuncData} (F : FD K s_check_mask "check_mask" "check_mask" f fd) (F_is_mask_of : FnG P w K mg base 2 "is_mask_of" ["width", "value"] (spRowOf K "01=")) : FnOk P w K mg base (XC P w) 3 f fd ["width", "mask"] (spCheckRow "01=") := by
  refine F.ok sc_check_mask (fun vs H Q E h => ?_) (fun cdv A outer s H vs Q E hr h => ?_)
  · obtain ⟨n, z, rfl, _⟩ := h
    rfl
  · refine ⟨_, (pss_one (ps_if (pt_not (pt_val (pe_fn F_is_mask_of (hr.mono (by first | omega | decide)) passE0 (pa_cons (pv 0) (pa_cons (pv 1) pa_nil))))) (pss_one ps_never) pss_nil)), ?_⟩
    obtain ⟨n, z, rfl, hz, ho, k⟩ := h
    walk_at "sx"
    refine ⟨n, _, rfl, .inl ⟨z, rfl, hz⟩, fun H' e => ⟨_, rfl, ?_⟩⟩
    rw [if_neg (by rw [ho]; decide)]
    exact k H' e
def spArePatterns (K : PySem.W.Frag) : Sp := fun vs H Q _ => ∃ (n : Nat) (v : V), vs = [.int n, v] ∧ ((NotT K H v ∧ Q (.bl false) H) ∨ ∃ q xs, v = .ref q ∧ H q = some (.tup xs) ∧ xs.length ≤ 4000 ∧ (∀ x, x ∈ xs → Item K H x) ∧ ∀ H', Evl.Ex H H' → Q (.bl (xs.all (okRow n "01*"))) H')
theorem sc_are_patterns : FnScope ["width", "value", "pattern"] ["width", "value"] (defScope s_are_patterns) := ⟨rfl, rfl, rfl, by decide +kernel, rfl, by decide +kernel, by decide +kernel⟩
theorem ok_are_patterns {f : Addr} {fd : FuncData} (F : FD K s_are_patterns "are_patterns" "are_patterns" f fd) (X : HxT mg) (F_is_pattern_of : FnG P w K mg base 2 "is_pattern_of" ["width", "value"] (spRowOf K "01*")) : FnOk P w K mg base (XC P w) 3 f fd ["width", "value"] (spArePatterns K) := by
  refine F.ok sc_are_patterns (fun vs H Q E h => ?_) (fun cdv A outer s H vs Q E hr h => ?_)
  · obtain ⟨n, v, rfl, _⟩ := h
    rfl
  · refine ⟨_, (pss_cons (ps_if (PW.pt (pw_or (pt_not (pt_val (pe_callB call_isi (by rfl) X.b_isinstance (by decide +kernel) (pa_cons (pv 1) (pa_cons (pe_bltn (v := .ty "tuple") (u := .type "tuple") (by rfl) X.b_tuple (by decide +kernel) rfl) pa_nil))))) (pw_or1 (pt_cmpR op_gt (pe_callB call_len (by rfl) X.b_len PySem.boot_len (pa_cons (pv 1) pa_nil)) (pe_gint X.c_MOST_PATTERNS) (nomark _))))) (pss_one (ps_ret pe_bl)) pss_nil)
      (pss_one (ps_ret (pe_callB (cr_all rfl) (by rfl) X.b_all (by decide +kernel) (pa_cons (pe_lc (own := [("pattern", 2)]) (g := (gName 2)) rfl sc_are_patterns.nd (pi_tup (pv 1)) (blkOk_by (own := [("pattern", 2)]) (N := ["width", "value", "pattern"]) (sc := defScope s_are_patterns) (by decide +kernel)) (fun _ _ _ _ _ => pg_name (i := 2) sc_are_patterns.nd rfl (Or.inl rfl)) (fun _ _ _ _ _ => pts_nil) (fun _ _ _ _ _ => (pe_fn F_is_pattern_of (hr.mono (by first | omega | decide)) passE0 (pa_cons (pv 0) (pa_cons (pv 2) pa_nil))))) pa_nil))))), ?_⟩
    dsimp only [cxOf]
    obtain ⟨n, v, rfl, h⟩ := h
    walk_at "sx"
    rcases h with ⟨⟨t, h1, h2⟩, k⟩ | ⟨q, xs, rfl, hq, hl, hit, k⟩
    · refine ⟨_, _, .ty _, h1, false, kit_ty h2, ?_⟩
      rw [if_pos rfl]
      exact k
    · refine ⟨_, _, .ty _, .base (.tup hq), true, kit_ty (by decide +kernel), ?_⟩
      rw [if_neg (by decide)]
      refine ⟨xs.length, .inr ⟨xs, .of hq, rfl⟩, ?_⟩
      rw [if_neg (by simp; omega)]
      refine tLc_tupE (f := fun _ => true) (v := fun x => .bl (okRow n "01*" x)) (fun R r => ⟨_, rfl, r⟩) (.of hq) (Nat.le_trans hl (by decide)) (fun _ => rfl) (fun x hx H' e R r => r H' (Evl.Ex.refl _)) (fun x hx _ H' e R r => ?_) (fun D H' hD e hd => ?_)
      · walk_at "sx"
        exact ⟨n, x, rfl, (hit x hx).ex e, r⟩
      · refine ⟨D, rfl, xs.map (okRow n "01*"), .of ?_, ?_⟩
        · rw [hd, filter_tt, List.map_map]
          rfl
        · rw [List.all_map]
          exact k H' e
theorem cps01 : ("01" : Str).cps.toList = [48, 49] := by decide +kernel
theorem valV_sgD_none : ∀ {sg : List (Nat × Bool)} {k : Nat}, (∀ q, q ∈ sg → q.1 ≠ k) → valV (sgD sg) (.inl (k : Int)) = none
  | [], _, _ => rfl
  | q :: sg, k, h => (valV_neg (fun e => h q (List.mem_cons_self ..) (by injection e with e; omega))).trans (valV_sgD_none fun q hq => h q (List.mem_cons_of_mem _ hq))
def spSignsOf : Sp := fun vs H Q _ => ∃ z : Str, vs = [.str z] ∧ z.length ≤ 1000 ∧ ∀ q H', H q = none → Evl.Ex H H' → H' q = some (.dK (sgD (sgOf 0 (unt z)))) → Q (.ref q) H'
theorem sc_signs_of : FnScope ["pattern", "found", "place", "sign"] ["pattern"] (defScope s_signs_of) := ⟨rfl, rfl, rfl, by decide +kernel, rfl, by decide +kernel, by decide +kernel⟩
theorem ok_signs_of {f : Addr} {fd : FuncData} (F : FD K s_signs_of "signs_of" "signs_of" f fd) (X : HxT mg) : FnOk P w K mg base (XC P w) 1 f fd ["pattern"] spSignsOf := by
  refine F.ok sc_signs_of (fun vs H Q E h => ?_) (fun cdv A outer s H vs Q E hr h => ?_)
  · obtain ⟨z, rfl, _⟩ := h
    rfl
  · refine ⟨_, (pss_cons (ps_set (i := 1) sc_signs_of.nd rfl (Or.inl rfl) pe_dnewK)
      (pss_cons (ps_for (passes_of rfl) rfl (pi_enumS (by rfl) X.b_enumerate (pa_cons (pv 0) pa_nil)) (pg_tup (by rfl) (pgs_cons (pg_name (i := 2) sc_signs_of.nd rfl (Or.inl rfl)) (pgs_cons (pg_name (i := 3) sc_signs_of.nd rfl (Or.inl rfl)) pgs_nil)))
      (pss_one (ps_if (pt_cmpR op_in_sign (pv 3) (pe_gstr X.c_SIGNS) rfl) (pss_one (ps_dput (hu_of hr) (pv 1) (pv 2) (pe_m1 PySem.F.slot_str_index PySem.F.type_str_index L2.mt_sindex (pe_gstr X.c_SIGNS) (pv 3)) rfl)) pss_nil)))
      (pss_one (ps_ret (pv 1))))), ?_⟩
    try dsimp only [cxOf]
    obtain ⟨z, rfl, hz, k⟩ := h
    walk_at "sx"
    intro p hp
    refine ⟨_, rfl, z, rfl, for_gen (n := z.cps.size) (fun i σ H' => ∃ o2 o3, σ = [some (.str z), some (.ref p), o2, o3] ∧ Evl.Ex H H' ∧ H' p = some (.dK (sgD (sgOf 0 ((unt z).take i))))) ⟨none, none, rfl, Evl.Ex.new hp, upd_same⟩ (fun i σ H' hi _ => hi) (fun σ H' _ => rfl) ?_ ?_⟩
    · rintro i v σ H' H2 hi ⟨o2, o3, rfl, e, hk⟩ hy
      obtain ⟨T', vs, rfl, hT, rfl, c, hc, rfl⟩ := hy
      have hpT : p ≠ T' := ne_of_none hk hT
      have hk2 : (upd H' T' (.tup [.int (i : Nat), .str ⟨#[c]⟩])) p = some (.dK (sgD (sgOf 0 ((unt z).take i)))) := by rw [upd_ne hpT]; exact hk
      have e2 : Evl.Ex H (upd H' T' (.tup [.int (i : Nat), .str ⟨#[c]⟩])) := e.trans (Evl.Ex.new hT)
      have hlen : (unt z).length = z.length := unt_len z
      have hzs : z.cps.size = z.length := rfl
      have hcd : (unt z).take (i + 1) = (unt z).take i ++ [decC c] := by
        rw [List.take_add_one]
        congr 1
        unfold unt
        rw [List.getElem?_map, Array.getElem?_toList, hc]
        rfl
      have hl : ((unt z).take i).length = i := by rw [List.length_take]; omega
      walk_at "sx"
      refine ⟨_, .of upd_same, rfl, _, _, rfl, _, _, rfl, rfl, ?_⟩
      have hnone : valV (sgD (sgOf 0 ((unt z).take i))) (.inl (i : Int)) = none := valV_sgD_none fun q hq => by
        have := (sgOf_bd hq).2
        omega
      have hsl : (sgD (sgOf 0 ((unt z).take i))).length < sizeLine := by
        unfold sgD
        rw [List.length_map]
        have h1 := sgOf_len (p := (unt z).take i) (k := 0)
        exact Nat.lt_of_le_of_lt (Nat.le_trans h1 (show _ ≤ 1000 by omega)) (by decide)
      have put : ∀ b : Bool, decC c = some b → ∃ x, DPut (upd H' T' (.tup [.int (i : Nat), .str ⟨#[c]⟩])) p (.int (i : Nat)) (.int (if b = true then 1 else 0)) x ∧ Evl.Ex H x ∧ x p = some (.dK (sgD (sgOf 0 ((unt z).take (i + 1))))) := fun b hb => by
        refine ⟨_, DPut.k (k := .inl (i : Int)) hk2 hsl, Evl.Ex.mut e2 hp, ?_⟩
        rw [upd_same, putK_new _ hnone, hcd, sgOf_append, hb, hl, Nat.zero_add]
        unfold sgD
        rw [List.map_append]
        rfl
      refine ⟨c, rfl, ?_⟩
      rw [cps01]
      by_cases c0 : c = 48
      · subst c0
        rw [if_pos (by decide)]
        exact ⟨_, rfl, 0, [], by decide +kernel, put false (by decide)⟩
      · by_cases c1 : c = 49
        · subst c1
          rw [if_pos (by decide)]
          exact ⟨_, rfl, 1, [], by decide +kernel, put true (by decide)⟩
        · rw [if_neg (by simp [c0, c1])]
          refine ⟨e2, ?_⟩
          rw [hk2, hcd, sgOf_append]
          have hd : decC c = none := by unfold decC; rw [if_neg c0, if_neg c1]
          rw [hd, List.append_nil]
    · rintro σ H' ⟨o2, o3, rfl, e, hk⟩
      refine ⟨_, rfl, k p H' hp e ?_⟩
      rw [hk, List.take_of_length_le (by rw [unt_len]; exact Nat.le_refl _)]
end
end My
namespace My
open PySem PySem.Spec PyProof.Rows L2 LamX Tr
section
variable {P : Program} {w : World} {K : PySem.W.Frag} {mg : Str → Option Value} {base : Heap} {C : Addr} {T : List (Addr × Str)}
def spEithC (P : Program) (w : World) (T : List (Addr × Str)) (C : Addr) (d : Nat) : Sp := fun vs H Q _ => ∃ (A : TA) (L l : Nat) (ts : List Tr.T) (n : Nat) (a b : Tr.T), vs = [.ref A.p, ixV ts a, ixV ts b] ∧ TreesAt P w T C A L H ts n ∧ a ∈ ts ∧ b ∈ ts ∧ Ok L l a ∧ Ok L l b ∧ L ≤ l + d ∧ ts.length + cE L d a b ≤ sizeLine ∧ n + cE L d a b ≤ sizeLine ∧
  ∀ H' ts' r, Keep A H H' → TreesAt P w T C A L H' ts' (n + cE L d a b) → ts <+: ts' → ts'.length ≤ ts.length + cE L d a b → r ∈ ts' → Ok L l r → (∀ x, ev r x = (ev a x || ev b x)) → Q (ixV ts' r) H'
theorem ok_eith_step {f : Addr} {fd : FuncData} (F : FD K s_Trees_either "either" "Trees.either" f fd) (X : TxT K mg C) (M_node : MtG P w K mg base C 1 "node" ["self", "level", "low", "high"] (spNode P w T C)) (M_halves : MtG P w K mg base C 1 "halves" ["self", "tree", "level"] (spHalves P w T C))
    {d : Nat} {spR : Sp} (M_either : MtG P w K mg base C (d + 1) "either" ["self", "one", "other"] spR) (hd : ∀ e, d = e + 1 → spR = spEithC P w T C e) : FnOk P w K mg base (XC P w) (d + 2) f fd ["self", "one", "other"] (spEithC P w T C d) := by
  refine F.ok sc_Trees_either (fun vs H Q E h => ?_) (fun cdv A outer s H vs Q E hr h => ?_)
  · obtain ⟨A, L, l, ts, n, a, b, rfl, _⟩ := h
    rfl
  · refine ⟨_, (pss_cons (ps_if (PW.pt (pw_or (pt_cmpR op_eq (pv 1) (pe_gint X.c_ALL) (nomark _)) (pw_or1 (pt_cmpR op_eq (pv 2) (pe_gint X.c_ALL) (nomark _))))) (pss_one (ps_ret (pe_gint X.c_ALL))) pss_nil)
      (pss_cons (ps_if (PW.pt (pw_or (pt_cmpR op_eq (pv 1) (pe_gint X.c_NOTHING) (nomark _)) (pw_or1 (pt_cmpR op_eq (pv 1) (pv 2) (nomark _))))) (pss_one (ps_ret (pv 2))) pss_nil)
      (pss_cons (ps_if (pt_cmpR op_eq (pv 2) (pe_gint X.c_NOTHING) (nomark _)) (pss_one (ps_ret (pv 1))) pss_nil)
      (pss_cons (ps_set (i := 3) sc_Trees_either.nd rfl (Or.inl rfl) (pe_tup (pa_cons pe_str (pa_cons (pe_callB (call_min2 rfl) (by rfl) X.b_min (by decide +kernel) (pa_cons (pv 1) (pa_cons (pv 2) pa_nil))) (pa_cons (pe_callB (call_max2 rfl) (by rfl) X.b_max (by decide +kernel) (pa_cons (pv 1) (pa_cons (pv 2) pa_nil))) pa_nil)))))
      (pss_cons (ps_if (pt_cmp (pc_nnotin (hu16 hr) (pv 3) (pe_fld (pv 0) rfl))) (pss_cons (ps_set (i := 4) sc_Trees_either.nd rfl (Or.inl rfl) (pe_callB (call_min2 rfl) (by rfl) X.b_min (by decide +kernel) (pa_cons (pe_ix ix_list (pe_fld (pv 0) rfl) (pv 1) (fun _ _ => rfl)) (pa_cons (pe_ix ix_list (pe_fld (pv 0) rfl) (pv 2) (fun _ _ => rfl)) pa_nil))))
      (pss_cons (ps_asg (pe_mt (pv 0) M_halves (hr.mono (by first | omega | decide)) passE0 (pa_cons (pv 1) (pa_cons (pv 4) pa_nil))) (pg_tup (by rfl) (pgs_cons (pg_name (i := 5) sc_Trees_either.nd rfl (Or.inl rfl)) (pgs_cons (pg_name (i := 6) sc_Trees_either.nd rfl (Or.inl rfl)) pgs_nil))))
      (pss_cons (ps_asg (pe_mt (pv 0) M_halves (hr.mono (by first | omega | decide)) passE0 (pa_cons (pv 2) (pa_cons (pv 4) pa_nil))) (pg_tup (by rfl) (pgs_cons (pg_name (i := 7) sc_Trees_either.nd rfl (Or.inl rfl)) (pgs_cons (pg_name (i := 8) sc_Trees_either.nd rfl (Or.inl rfl)) pgs_nil))))
      (pss_one (ps_nput (hu16 hr) (pe_fld (pv 0) rfl) (pv 3) (pe_mt (pv 0) M_node (hr.mono (by first | omega | decide)) passE0 (pa_cons (pv 4) (pa_cons (pe_mt (pv 0) M_either (hr.mono (by first | omega | decide)) passE0 (pa_cons (pv 5) (pa_cons (pv 7) pa_nil))) (pa_cons (pe_mt (pv 0) M_either (hr.mono (by first | omega | decide)) passE0 (pa_cons (pv 6) (pa_cons (pv 8) pa_nil))) pa_nil)))) rfl))))) pss_nil)
      (pss_one (ps_ret (pe_nget (hu16 hr) (pe_fld (pv 0) rfl) (pv 3) (fun _ _ => rfl))))))))), ?_⟩
    dsimp only [cxOf]
    obtain ⟨A, L, l, ts, n, a, b, rfl, x, ha, hb, oa, ob, hl, hz, hn, k⟩ := h
    walk_at "sx"
    have bot : ∀ r : Tr.T, r ∈ ts → Ok L l r → (∀ x, ev r x = (ev a x || ev b x)) → Q (ixV ts r) H := fun r hr hok hev => k H ts r (Keep.refl A H) (x.mono (Nat.le_add_right _ _)) (List.prefix_refl _) (Nat.le_add_right _ _) hr hok hev
    refine ⟨rfl, ?_⟩
    split
    next q =>
      have z := (x.wf.mem_ix ha (of_decide_eq_true q)).2 rfl
      subst z
      rw [← x.wf.ix_all]
      exact bot _ ha trivial (fun _ => rfl)
    next a0 =>
    refine ⟨rfl, ?_⟩
    split
    next q =>
      have z := (x.wf.mem_ix hb (of_decide_eq_true q)).2 rfl
      subst z
      rw [← x.wf.ix_all]
      exact bot _ hb trivial (fun _ => (Bool.or_true _).symm)
    next b0 =>
    refine ⟨rfl, ?_⟩
    split
    next q =>
      have z := (x.wf.mem_ix ha (of_decide_eq_true q)).1 rfl
      subst z
      exact bot _ hb ob (fun _ => rfl)
    next a1 =>
    refine ⟨rfl, ?_⟩
    split
    next q =>
      have z := ixV_inj ha hb (of_decide_eq_true q)
      subst z
      exact bot _ hb ob (fun _ => (Bool.or_self _).symm)
    next ab =>
    refine ⟨rfl, ?_⟩
    split
    next q =>
      have z := (x.wf.mem_ix hb (of_decide_eq_true q)).1 rfl
      subst z
      exact bot _ ha oa (fun _ => (Bool.or_false _).symm)
    next b1 =>
    have na := node_of oa (fun z => a1 (decide_eq_true (by rw [z, x.wf.ix_no]))) (fun z => a0 (decide_eq_true (by rw [z, x.wf.ix_all])))
    have nb := node_of ob (fun z => b1 (decide_eq_true (by rw [z, x.wf.ix_no]))) (fun z => b0 (decide_eq_true (by rw [z, x.wf.ix_all])))
    obtain ⟨e, rfl⟩ : ∃ e, d = e + 1 := ⟨d - 1, by omega⟩
    have hs := hd e rfl
    subst hs
    refine ⟨_, rfl, _, rfl, _, rfl, _, rfl, sz_small (by decide), fun p hp => ?_⟩
    obtain ⟨c, g, hc, hg, q1, q2, q3⟩ := idx_pair ha hb
    rw [q1, q2]
    have x1 := x.new (o := HO.tup [V.str (Str.ofString "either"), V.int (ixN ts c : Nat), V.int (ixN ts g : Nat)]) hp
    obtain ⟨td, g1, g2, g3⟩ := x1.td
    have hev : ∀ y, (ev c y || ev g y) = (ev a y || ev b y) := fun y => by
      rcases q3 with ⟨rfl, rfl⟩ | ⟨rfl, rfl⟩
      · rfl
      · exact Bool.or_comm _ _
    have hkv : ∀ {H' : Hp}, H' p = some (HO.tup [V.str (Str.ofString "either"), V.int (ixN ts c : Nat), V.int (ixN ts g : Nat)]) → KeyV H' (.tup [.text "either", .num (ixN ts c), .num (ixN ts g)]) (.ref p) := fun h => .tup h (.cons (.text _) (.cons (.num _) (.cons (.num _) .nil)))
    have hdp : (NestedKey.tup [.text "either", .num (ixN ts c), .num (ixN ts g)]).depth ≤ 8 := by simp [NestedKey.depth, NestedKey.depthAll]
    refine rd_td x1.ins X rfl ⟨_, rfl, td, g1, _, hkv upd_same, hdp, ?_⟩
    cases hv : valV td (.tup [.text "either", .num (ixN ts c), .num (ixN ts g)]) with
    | some v =>
      rw [if_neg (by simp)]
      obtain ⟨r, r1, rfl, r2⟩ := TdEnt.either_inv hc hg (g2 _ _ hv)
      refine rd_td x1.ins X rfl ⟨_, rfl, td, g1, _, hkv upd_same, hdp, _, hv, ?_⟩
      refine k _ ts r (Keep.of (ExtN.new hp)) (x1.mono (Nat.le_add_right _ _)) (List.prefix_refl _) (Nat.le_add_right _ _) r1 (ok_indep (x.wf.ok r r1) fun y z hyz => ?_) (fun y => (r2 y).trans (hev y))
      rw [r2, r2, hev, hev, ev_congr oa hyz, ev_congr ob hyz]
    | none =>
      rw [if_pos (show (none : Option V).isSome = false from rfl)]
      refine rd_lv x1.ins X rfl ⟨_, rfl, _, _, rfl, SqL.of x1.lv, _, atI_ix ha, rd_lv x1.ins X rfl ⟨_, rfl, _, _, rfl, SqL.of x1.lv, _, atI_ix hb, _, rfl, _, rfl, _, _, x1.ins, by rfl, ?_⟩⟩
      rw [min_lev]
      refine ⟨A, L, _, ts, n, a, rfl, x1, ha, by omega, fun p2 hp2 => ⟨p2, rfl, _, .of upd_same, rfl, ?_⟩⟩
      have hm : min (lev L a) (lev L b) < L := by omega
      have oa2 : Ok L (min (lev L a) (lev L b)) a := oa.up (by omega) na.2
      have ob2 : Ok L (min (lev L a) (lev L b)) b := ob.up (by omega) nb.2
      have hlm : l ≤ min (lev L a) (lev L b) := by omega
      have htri : tri a b = false := by
        unfold tri
        rw [decide_eq_false (fun z => a0 (decide_eq_true (by rw [z, x.wf.ix_all]))), decide_eq_false (fun z => b0 (decide_eq_true (by rw [z, x.wf.ix_all]))), decide_eq_false (fun z => a1 (decide_eq_true (by rw [z, x.wf.ix_no]))), decide_eq_false (fun z => ab (decide_eq_true (by rw [z]))), decide_eq_false (fun z => b1 (decide_eq_true (by rw [z, x.wf.ix_no])))]
        rfl
      have ep : cE L (e + 1) a b = 1 + cE L e (Tr.lo (min (lev L a) (lev L b)) a) (Tr.lo (min (lev L a) (lev L b)) b) + cE L e (hi (min (lev L a) (lev L b)) a) (hi (min (lev L a) (lev L b)) b) := by
        simp only [cE]
        rw [if_neg (by rw [htri]; decide)]
      generalize min (lev L a) (lev L b) = m at hm oa2 ob2 hlm hp2 ep ⊢
      have x2 := x1.new (o := HO.tup [ixV ts (Tr.lo m a), ixV ts (hi m a)]) hp2
      refine ⟨_, _, rfl, _, _, rfl, rfl, _, _, x2.ins, by rfl, A, L, m, ts, n, b, rfl, x2, hb, hm, fun p3 hp3 => ?_⟩
      have x3 := x2.new (o := HO.tup [ixV ts (Tr.lo m b), ixV ts (hi m b)]) hp3
      have K0 : Keep A H _ := ((Keep.of (A := A) (ExtN.new hp)).trans (Keep.of (ExtN.new hp2))).trans (Keep.of (ExtN.new (o := HO.tup [ixV ts (Tr.lo m b), ixV ts (hi m b)]) hp3))
      refine ⟨p3, rfl, _, .of upd_same, rfl, _, _, rfl, _, _, rfl, rfl, _, _, x3.ins, by rfl, _, _, x3.ins, by rfl, ?_⟩
      refine ⟨A, L, m + 1, ts, n, Tr.lo m a, Tr.lo m b, rfl, x3, x.wf.lo ha m, x.wf.lo hb m, oa2.lo, ob2.lo, by omega, by omega, by omega, fun H1 ts1 r1 K1 y1 pre1 len1 m1 o1 ev1 => ?_⟩
      refine ⟨_, _, y1.ins, by rfl, A, L, m + 1, ts1, n + cE L e (Tr.lo m a) (Tr.lo m b), hi m a, hi m b, by rw [ixV_pre pre1 (x.wf.hi ha m), ixV_pre pre1 (x.wf.hi hb m)], y1, pre1.subset (x.wf.hi ha m), pre1.subset (x.wf.hi hb m), oa2.hi, ob2.hi, by omega, by omega, by omega, fun H2 ts2 r2 K2 y2 pre2 len2 m2 o2 ev2 => ?_⟩
      refine ⟨A, L, m, ts2, n + cE L e (Tr.lo m a) (Tr.lo m b) + cE L e (hi m a) (hi m b), r1, r2, by rw [ixV_pre pre2 m1], y2, pre2.subset m1, m2, o1, o2, hm, by omega, fun H3 ts3 K3 y3 pre3 len3 m3 => ?_⟩
      have hpH : H3 p = some (HO.tup [V.str (Str.ofString "either"), V.int (ixN ts c : Nat), V.int (ixN ts g : Nat)]) := by
        have nt : ∀ ps, HO.tup [V.str (Str.ofString "either"), V.int (ixN ts c : Nat), V.int (ixN ts g : Nat)] ≠ HO.tbl ps := fun _ z => by cases z
        have nm := x.fresh hp
        exact K3 _ _ (K2 _ _ (K1 _ _ (ExtN.new hp3 _ _ (ExtN.new hp2 _ _ upd_same nt) nt) nt nm) nt nm) nt nm
      obtain ⟨td3, g31, g32, g33⟩ := y3.td
      have pre := (pre1.trans pre2).trans pre3
      have evr : ∀ y, ev (mk m r1 r2) y = (ev c y || ev g y) := fun y => by
        rw [hev, ev_mk, ev1, ev2, ev_halves oa2 y, ev_halves ob2 y]
        split <;> rfl
      refine rd_td y3.ins X rfl ⟨_, rfl, td3, g31, _, hkv hpH, hdp, by omega, fun H4 hput => ?_⟩
      have y4 := y3.told g32 g33 hput (.eitherAt pre hc hg m3 evr)
      refine rd_td y4.ins X rfl ⟨_, rfl, _, hput.1, _, hkv ((hput.2 _ (not_td (x.fresh hp))).trans hpH), hdp, _, by rw [valV_put, if_pos rfl], ?_⟩
      exact k H4 ts3 _ (K0.trans ((K1.trans K2).trans (K3.trans (Keep.put hput)))) (y4.mono (by omega)) pre (by omega) m3 (Ok.mk o1 o2 hlm hm) (fun y => (evr y).trans (hev y))
theorem eithC_of {d : Nat} {vs : List V} {H : Hp} {Q : VK} {E : XK} (h : spEither P w T C d vs H Q E) : spEithC P w T C d vs H Q E := by
  obtain ⟨A, L, l, ts, n, a, b, rfl, x, ha, hb, oa, ob, hl, hz, hn, k⟩ := h
  have hc := cE_le L d a b
  exact ⟨A, L, l, ts, n, a, b, rfl, x, ha, hb, oa, ob, hl, by omega, by omega, fun H' ts' r K1 y pre len => k H' ts' r K1 (y.mono (by omega)) pre (by omega)⟩
end
end My
namespace My
open PySem PySem.Spec PyProof.Rows L2 LamX Tr
section
variable {P : Program} {w : World} {K : PySem.W.Frag} {mg : Str → Option Value} {base : Heap} {C : Addr} {T : List (Addr × Str)}
/-- each step of the union costs c at most -/
def CostC (L d : Nat) (fs : List Tr.T) (c : Nat) : Prop := ∀ (i : Nat) (t r : Tr.T), fs[i]? = some t → Ok L 0 r → (∀ x, ev r x = (fs.take i).any fun t => ev t x) → cE L d r t ≤ c
def spTogC (P : Program) (w : World) (T : List (Addr × Str)) (C : Addr) (d : Nat) : Sp := fun vs H Q _ => ∃ (A : TA) (L : Nat) (ts : List Tr.T) (n : Nat) (q : Addr) (fs : List Tr.T) (c : Nat), vs = [.ref A.p, .ref q] ∧ TreesAt P w T C A L H ts n ∧ H q = some (.lst (fs.map (ixV ts))) ∧ q ∉ A.muts ∧ (∀ t, t ∈ fs → t ∈ ts) ∧ L ≤ d ∧ CostC L d fs c ∧ ts.length + fs.length * c ≤ sizeLine ∧ n + fs.length * c ≤ sizeLine ∧
  ∀ H' ts' r, Keep A H H' → TreesAt P w T C A L H' ts' (n + fs.length * c) → ts <+: ts' → ts'.length ≤ ts.length + fs.length * c → r ∈ ts' → (∀ x, ev r x = fs.any fun t => ev t x) → Q (ixV ts' r) H'
theorem ok_togC {f : Addr} {fd : FuncData} (F : FD K s_Trees_together "together" "Trees.together" f fd) (X : TxT K mg C)
    {d : Nat} (M_either : MtG P w K mg base C (d + 2) "either" ["self", "one", "other"] (spEithC P w T C d)) : FnOk P w K mg base (XC P w) (d + 3) f fd ["self", "some"] (spTogC P w T C d) := by
  refine F.ok sc_Trees_together (fun vs H Q E h => ?_) (fun cdv A outer s H vs Q E hr h => ?_)
  · obtain ⟨A, L, ts, n, q, fs, c, rfl, _⟩ := h
    rfl
  · refine ⟨_, (pss_cons (ps_set (i := 2) sc_Trees_together.nd rfl (Or.inl rfl) (pe_gint X.c_NOTHING))
      (pss_cons (ps_for (passes_of rfl) rfl (pi_list (pv 1)) (pg_name (i := 3) sc_Trees_together.nd rfl (Or.inl rfl))
      (pss_one (ps_set (i := 2) sc_Trees_together.nd rfl (Or.inl rfl) (pe_mt (pv 0) M_either (hr.mono (by first | omega | decide)) passE0 (pa_cons (pv 2) (pa_cons (pv 3) pa_nil))))))
      (pss_one (ps_ret (pv 2))))), ?_⟩
    dsimp only [cxOf]
    obtain ⟨A, L, ts, n, q, fs, c, rfl, x, hq, hqm, hfs, hl, hc, hz, hn, k⟩ := h
    walk_at "sx"
    refine ⟨_, rfl, q, rfl, ⟨_, SqL.of hq⟩, for_list (K := K) (a := q) (xs := fs.map (ixV ts)) (fun i σ H' => ∃ ts' r o, σ = [some (.ref A.p), some (.ref q), some (ixV ts' r), o] ∧ Keep A H H' ∧ TreesAt P w T C A L H' ts' (n + i * c) ∧ ts <+: ts' ∧ ts'.length ≤ ts.length + i * c ∧ r ∈ ts' ∧ ∀ x, ev r x = (fs.take i).any fun t => ev t x) ?_ ?_ ?_ ?_⟩
    · exact ⟨ts, .no, none, by rw [x.wf.ix_no], Keep.refl A H, by rw [Nat.zero_mul]; exact x, List.prefix_refl _, by omega, x.wf.no, fun _ => rfl⟩
    · rintro i σ H' _ ⟨ts', r, o, _, K1, _⟩
      exact SqL.of (K1 _ _ hq (fun _ z => by cases z) hqm)
    · rintro i v σ H' hi ⟨ts', r, o, rfl, K1, y, pre, len, hr', hev⟩
      obtain ⟨t, ht, rfl⟩ : ∃ t, fs[i]? = some t ∧ ixV ts t = v := by
        rw [List.getElem?_map] at hi
        cases e : fs[i]? with
        | none => rw [e] at hi; cases hi
        | some t => rw [e] at hi; exact ⟨t, rfl, Option.some.inj hi⟩
      have hts : t ∈ ts := hfs t (List.mem_of_getElem? ht)
      have hi2 := (List.getElem?_eq_some_iff.mp ht).1
      have e1 : (i + 1) * c = i * c + c := Nat.succ_mul _ _
      have e2 : (i + 1) * c ≤ fs.length * c := Nat.mul_le_mul_right _ hi2
      have hci := hc i t r ht (y.wf.ok _ hr') hev
      walk_at "sx"
      refine ⟨_, _, y.ins, by rfl, A, L, 0, ts', n + i * c, r, t, by rw [ixV_pre pre hts], y, hr', pre.subset hts, y.wf.ok _ hr', x.wf.ok _ hts, by omega, by omega, by omega, fun H2 ts2 r2 K2 y2 pre2 len2 m2 o2 ev2 => ?_⟩
      refine ⟨ts2, r2, rfl, K1.trans K2, y2.mono (by omega), pre.trans pre2, by omega, m2, fun x => ?_⟩
      rw [ev2, hev, List.take_add_one, ht, List.any_append]
      simp
    · rintro σ H' ⟨ts', r, o, rfl, K1, y, pre, len, hr', hev⟩
      rw [List.length_map] at y len hev
      rw [List.take_length] at hev
      exact ⟨_, rfl, k H' ts' r K1 y pre len hr' hev⟩
end
end My
namespace My
open PySem PySem.Spec PyProof.Rows L2 LamX Tr
section
variable {P : Program} {w : World} {K : PySem.W.Frag} {mg : Str → Option Value} {base : Heap} {C : Addr} {T : List (Addr × Str)}
/-- each step of the union costs c at most -/
def CostP (L d : Nat) (ps : List Pa) (c : Nat) : Prop := ∀ (i : Nat) (p : Pa) (ρ τ : Tr.T), ps[i]? = some p → Ok L 0 ρ → Ok L 0 τ → (∀ x : R, x.length = L → St ρ 0 x = (ps.take i).any fun p => fits p x) → (∀ x : R, x.length = L → St τ 0 x = fits p x) → cE L d ρ τ ≤ c
def rowF (ts : List Tr.T) (t : Tr.T) (p : Pa) : Prop := t ∈ ts ∧ ∀ x, ev t x = (sgOf 0 p).all fun q => x q.1 == q.2
theorem psnoc {α β : Type} {F : α → β → Prop} : ∀ {xs : List α} {ys : List β} {x : α} {y : β}, Paired F xs ys → F x y → Paired F (xs ++ [x]) (ys ++ [y])
  | _, _, _, _, .nil, h => .cons h .nil
  | _, _, _, _, .cons h t, h2 => .cons h (psnoc t h2)
theorem prd_len {α β : Type} {F : α → β → Prop} : ∀ {xs : List α} {ys : List β}, Paired F xs ys → xs.length = ys.length
  | _, _, .nil => rfl
  | _, _, .cons _ t => congrArg (· + 1) (prd_len t)
theorem rf_any {ts : List Tr.T} : ∀ {fs : List Tr.T} {ps : List Pa}, Paired (rowF ts) fs ps → ∀ (i : Nat) (x : Nat → Bool), ((fs.take i).any fun t => ev t x) = (ps.take i).any fun p => (sgOf 0 p).all fun q => x q.1 == q.2
  | _, _, .nil, i, x => by simp
  | _, _, .cons h t, 0, x => by simp
  | _, _, .cons h t, i + 1, x => by
    rw [List.take_succ_cons, List.take_succ_cons, List.any_cons, List.any_cons, rf_any t i x, h.2]
theorem rf_get {ts : List Tr.T} : ∀ {fs : List Tr.T} {ps : List Pa}, Paired (rowF ts) fs ps → ∀ {i : Nat} {t : Tr.T}, fs[i]? = some t → ∃ p, ps[i]? = some p ∧ rowF ts t p
  | _, _, .nil, i, t, e => by simp at e
  | _, _, .cons h _, 0, t, e => by
    cases e
    exact ⟨_, rfl, h⟩
  | _, _, .cons _ r, i + 1, t, e => by
    rw [List.getElem?_cons_succ] at e ⊢
    exact rf_get r e
theorem rf_mem {ts : List Tr.T} {fs : List Tr.T} {ps : List Pa} (h : Paired (rowF ts) fs ps) {t : Tr.T} (ht : t ∈ fs) : t ∈ ts := by
  obtain ⟨i, e⟩ := List.mem_iff_getElem?.mp ht
  obtain ⟨p, _, h, _⟩ := rf_get h e
  exact h
def spTreeC (P : Program) (w : World) (T : List (Addr × Str)) (C : Addr) (d : Nat) : Sp := fun vs H Q _ => ∃ (A : TA) (L : Nat) (ts : List Tr.T) (n : Nat) (q : Addr) (ps : List Pa) (c : Nat), vs = [.ref A.p, .ref q] ∧ TreesAt P w T C A L H ts n ∧ H q = some (.tup (ps.map pV)) ∧ (∀ p, p ∈ ps → p.length = L) ∧ L ≤ d ∧ L ≤ 60 ∧ ps.length ≤ 4000 ∧ CostP L d ps c ∧ ts.length + (ps.length * L + ps.length * c) ≤ sizeLine ∧ n + (ps.length * L + ps.length * c) ≤ sizeLine ∧
  ∀ H' ts' r, Keep A H H' → TreesAt P w T C A L H' ts' (n + (ps.length * L + ps.length * c)) → ts <+: ts' → ts'.length ≤ ts.length + (ps.length * L + ps.length * c) → r ∈ ts' → (∀ x, ev r x = ps.any fun p => (sgOf 0 p).all fun q => x q.1 == q.2) → Q (ixV ts' r) H'
theorem sc_tree_of : FnScope ["trees", "patterns", "pattern"] ["trees", "patterns"] (defScope s_tree_of) := ⟨rfl, rfl, rfl, by decide +kernel, rfl, by decide +kernel, by decide +kernel⟩
theorem ok_treeC {f : Addr} {fd : FuncData} (F : FD K s_tree_of "tree_of" "tree_of" f fd) (X : HxT mg) (F_signs_of : FnG P w K mg base 1 "signs_of" ["pattern"] spSignsOf) (M_row : MtG P w K mg base C 2 "row" ["self", "signs"] (spRow P w T C))
    {d : Nat} (M_together : MtG P w K mg base C (d + 3) "together" ["self", "some"] (spTogC P w T C d)) : FnOk P w K mg base (XC P w) (d + 4) f fd ["trees", "patterns"] (spTreeC P w T C d) := by
  refine F.ok sc_tree_of (fun vs H Q E h => ?_) (fun cdv A outer s H vs Q E hr h => ?_)
  · obtain ⟨A, L, ts, n, q, ps, c, rfl, _⟩ := h
    rfl
  · refine ⟨_, (pss_one (ps_ret (pe_mt (pv 0) M_together (hr.mono (by first | omega | decide)) passE0 (pa_cons (pe_lc (own := [("pattern", 2)]) (g := (gName 2)) rfl sc_tree_of.nd (pi_tup (pv 1)) (blkOk_by (own := [("pattern", 2)]) (N := ["trees", "patterns", "pattern"]) (sc := defScope s_tree_of) (by decide +kernel)) (fun _ _ _ _ _ => pg_name (i := 2) sc_tree_of.nd rfl (Or.inl rfl)) (fun _ _ _ _ _ => pts_nil) (fun _ _ _ _ _ => (pe_mt (pv 0) M_row (hr.mono (by first | omega | decide)) passE0 (pa_cons (pe_fn F_signs_of (hr.mono (by first | omega | decide)) passE0 (pa_cons (pv 2) pa_nil)) pa_nil)))) pa_nil)))), ?_⟩
    dsimp only [cxOf]
    obtain ⟨A, L, ts, n, q, ps, c, rfl, x, hq, hps, hl, hl6, hlen, hc, hz, hn, k⟩ := h
    walk_at "sx"
    refine ⟨_, _, x.ins, by rfl, _, rfl, q, rfl, ⟨_, .of hq⟩, fun D hD => ?_⟩
    have hDm := x.fresh hD
    refine lc_tup (xs := ps.map pV) (fun i H' => ∃ (ts' fs : List Tr.T), Keep A H H' ∧ TreesAt P w T C A L H' ts' n ∧ ts <+: ts' ∧ ts'.length ≤ ts.length + i * L ∧ H' D = some (.lst (fs.map (ixV ts'))) ∧ Paired (rowF ts') fs (ps.take i)) ?_ ?_ ?_ ?_
    · exact ⟨ts, [], Keep.of (ExtN.new hD), x.new hD, List.prefix_refl _, by omega, upd_same, .nil⟩
    · rintro i H' _ ⟨ts', fs, K1, _⟩
      exact .of (K1 _ _ hq (fun _ z => by cases z) (x.not_mutT hq))
    · rintro i v H' hi ⟨ts', fs, K1, y, pre, len, hd, hpr⟩
      obtain ⟨p, hp, rfl⟩ : ∃ p, ps[i]? = some p ∧ pV p = v := by
        rw [List.getElem?_map] at hi
        cases e : ps[i]? with
        | none => rw [e] at hi; cases hi
        | some t => rw [e] at hi; exact ⟨t, rfl, Option.some.inj hi⟩
      have hi2 := (List.getElem?_eq_some_iff.mp hp).1
      have hpL := hps p (List.mem_of_getElem? hp)
      have hil : (i + 1) * L ≤ ps.length * L := Nat.mul_le_mul_right _ hi2
      have hil2 : (i + 1) * L = i * L + L := Nat.succ_mul _ _
      have hfl : fs.length = i := by rw [prd_len hpr, List.length_take]; omega
      have hfs : ∀ t, t ∈ fs → t ∈ ts' := fun t ht => rf_mem hpr ht
      walk_at "sx"
      refine ⟨_, _, y.ins, by rfl, txt p, rfl, by rw [txt_len]; omega, fun q1 H1 hq1 e1 hk1 => ?_⟩
      rw [unt_txt] at hk1
      have y1 := y.ex e1
      have hsl := sgOf_len (p := p) (k := 0)
      refine ⟨A, L, ts', n, q1, sgOf 0 p, rfl, y1, hk1, sgOf_nd, fun r hr => by have := (sgOf_bd hr).2; omega, by omega, fun H2 ts2 r K2 y2 pre2 len2 m2 ev2 => ?_⟩
      have hd2 := K2 _ _ (e1 _ _ hd) (fun _ z => by cases z) hDm
      have hpre : fs.map (ixV ts') = fs.map (ixV ts2) := List.map_congr_left fun t ht => (ixV_pre pre2 (hfs t ht)).symm
      refine ⟨_, hd2, by rw [List.length_map, hfl]; exact Nat.lt_of_lt_of_le (show i < 4000 by omega) (by decide), (K1.trans ((Keep.of (ExtN.of e1)).trans K2)).mut hD, ts2, y2.updL hd2 hDm, pre.trans pre2, by omega, fs ++ [r], by rw [upd_same, hpre, List.map_append]; rfl, ?_⟩
      rw [List.take_add_one, hp]
      exact psnoc (L2.Paired.mapP hpr fun t p h => ⟨pre2.subset h.1, h.2⟩) ⟨m2, ev2⟩
    · rintro H' ⟨ts', fs, K1, y, pre, len, hd, hpr⟩
      rw [List.length_map] at len hpr
      rw [List.take_length] at hpr
      have hfl : fs.length = ps.length := prd_len hpr
      have hfs : ∀ t, t ∈ fs → t ∈ ts' := fun t ht => rf_mem hpr ht
      have hcc : CostC L d fs c := fun i t r ht okr hev => by
        obtain ⟨p, hp, htm, hte⟩ := rf_get hpr ht
        have hlt : ∀ u, u ∈ ps.take i → u.length = L := fun u hu => hps u (List.mem_of_mem_take hu)
        refine hc i p r t hp okr (y.wf.ok t htm) (fun x hx => tree_set (ps := ps.take i) (fun x => (hev x).trans (rf_any hpr i x)) hlt hx) (fun x hx => ?_)
        have h1 := tree_set (r := t) (ps := [p]) (fun x => by rw [hte, List.any_cons, List.any_nil, Bool.or_false]) (fun u hu => by rw [List.mem_singleton.mp hu]; exact hps p (List.mem_of_getElem? hp)) hx
        rw [h1]
        unfold setOf
        rw [List.any_cons, List.any_nil, Bool.or_false]
      have hf2 : fs.length * c = ps.length * c := by rw [hfl]
      refine ⟨A, L, ts', n, D, fs, c, rfl, y, hd, hDm, hfs, hl, hcc, by omega, by omega, fun H2 ts2 r K2 y2 pre2 len2 m2 ev2 => ?_⟩
      refine k H2 ts2 r (K1.trans K2) (y2.mono (by omega)) (pre.trans pre2) (by omega) m2 fun x => (ev2 x).trans ?_
      have := rf_any hpr fs.length x
      rw [List.take_length, hfl, List.take_length] at this
      exact this
theorem join_txt (p : Pa) : Txt.join ("" : Str) (p.map fun o => (⟨#[enc o]⟩ : Str)) = txt p := by
  have e : (p.map fun o => (⟨#[enc o]⟩ : Str)) = PyProof.Rows.signs (txt p) := by
    unfold PyProof.Rows.signs txt
    rw [List.map_map]
    rfl
  have e2 : ("" : Str) = ⟨#[]⟩ := by decide +kernel
  rw [TL.join_eq, e, e2]
  exact PyProof.Rows.join_nil_signs _
/-- too many: the exception of the class at CT -/
def TooE (T : List (Addr × Str)) (CT : Addr) (H : Hp) (E : XK) : Prop := ∀ d H2, ExtN H H2 → Tabs T H2 → H2 d = some (.xd [("value", .int 4000)]) → E (.ref CT) (some d) H2
def spTold (P : Program) (w : World) (T : List (Addr × Str)) (C CT : Addr) : Sp := fun vs H Q E => ∃ (A : TA) (L : Nat) (ts : List Tr.T) (n : Nat) (a : Tr.T), vs = [.ref A.p, ixV ts a] ∧ TreesAt P w T C A L H ts n ∧ a ∈ ts ∧ ts.length + 4 ≤ sizeLine ∧ 1 ≤ L ∧ L ≤ 60 ∧
  (np a ≤ 4000 → ∀ H2 q, ExtN H H2 → Tabs T H2 → H2 q = none → Q (.ref q) (upd H2 q (.tup ((pa L 0 a).map pV)))) ∧ (4000 < np a → TooE T CT H E)
theorem sc_told_heads : FnScope ["trees", "tree", "found", "signs", "sign"] ["trees", "tree"] (defScope s_told_heads) := ⟨rfl, rfl, rfl, by decide +kernel, rfl, by decide +kernel, by decide +kernel⟩
theorem ok_told_heads {f CT DN : Addr} {fd : FuncData} (N : NetX P w K mg base "TooMany" CT DN) (F : FD K s_told_heads "told_heads" "told_heads" f fd) (X : HxT mg) (M_many_parts : MtG P w K mg base C 3 "many_parts" ["self", "tree"] (spManyParts P w T C)) (M_parts : MtG P w K mg base C 2 "parts" ["self", "tree"] (spParts P w T C)) : FnOk P w K mg base (XC P w) 4 f fd ["trees", "tree"] (spTold P w T C CT) := by
  refine F.ok sc_told_heads (fun vs H Q E h => ?_) (fun cdv A outer s H vs Q E hr h => ?_)
  · obtain ⟨A, L, ts, n, a, rfl, _⟩ := h
    rfl
  · refine ⟨_, (pss_cons (ps_if (pt_cmpR op_gt (pe_mt (pv 0) M_many_parts (hr.mono (by first | omega | decide)) passE0 (pa_cons (pv 1) pa_nil)) (pe_gint X.c_MOST_PATTERNS) (nomark _)) (pss_one (ps_raise rfl (takes_of rfl rfl rfl rfl) (pmk_net N (hr.mono (by first | omega | decide)) (pa_cons (pe_gint X.c_MOST_PATTERNS) pa_nil)))) pss_nil)
      (pss_cons (ps_set (i := 2) sc_told_heads.nd rfl (Or.inl rfl) (pe_lst pa_nil))
      (pss_cons (ps_for (passes_of rfl) rfl (pi_list (pe_mt (pv 0) M_parts (hr.mono (by first | omega | decide)) passE0 (pa_cons (pv 1) pa_nil))) (pg_name (i := 3) sc_told_heads.nd rfl (Or.inl rfl))
      (pss_one (ps_expr (pe_bm PySem.F.plainAttrs_list PySem.F.slot_list_append PySem.F.type_list_append mt_append (pv 2) (pa_cons (pe_join pe_str (pe_lc (own := [("sign", 4)]) (g := (gName 4)) rfl sc_told_heads.nd (pi_list (pv 3)) (blkOk_by (own := [("sign", 4)]) (N := ["trees", "tree", "found", "signs", "sign"]) (sc := defScope s_told_heads) (by decide +kernel)) (fun _ _ _ _ _ => pg_name (i := 4) sc_told_heads.nd rfl (Or.inl rfl)) (fun _ _ _ _ _ => pts_nil) (fun _ _ _ _ _ => (pe_ifExp (pt_cmpR op_isN (pv 4) pe_non (nomark _)) (pe_gstr X.c_ANY) (pe_ix ix_str (pe_gstr X.c_SIGNS) (pv 4) (fun _ _ => rfl)))))) pa_nil)))))
      (pss_one (ps_ret (pe_callTy call_tupL (by rfl) X.b_tuple (by decide +kernel) (pa_cons (pv 2) pa_nil))))))), ?_⟩
    dsimp only [cxOf]
    obtain ⟨A, L, ts, n, a, rfl, x, ha, hz, hL1, hl, k, ke⟩ := h
    walk_at "sx"
    have hpl : ∀ p, p ∈ pa L 0 a → p.length = L := fun p hp => by
      rw [pa_pl (x.wf.ok a ha) (Nat.zero_add L)] at hp
      exact pl_len hp
    have hpal : (pa L 0 a).length = np a := pa_length (x.wf.ok a ha) (Nat.zero_add L)
    refine ⟨_, _, x.ins, by rfl, A, L, ts, n, a, rfl, x, ha, hz, fun H1 e1 t1 => ⟨_, rfl, ?_⟩⟩
    by_cases hnp : np a ≤ 4000
    rotate_left
    · rw [if_pos (by simp; omega)]
      exact ⟨by decide, fun a ha => net_use N.sup ha fun d H2 ex hd h2 => ke (by omega) d H2 (e1.trans (ExtN.of ex)) (t1.ext ex) h2⟩
    have k := k hnp
    rw [if_neg (by simp; omega)]
    have y1 := x.ext e1 t1
    refine ⟨Nat.zero_le _, fun fd' hfd => ?_⟩
    have y2 := y1.new (o := .lst []) hfd
    refine ⟨_, rfl, _, _, _, rfl, y2.ins, by rfl, _, rfl, A, L, ts, n, a, rfl, y2, ha, hl, Nat.lt_of_le_of_lt hnp (by decide), fun p H2 rs e2 hp hrep => ?_⟩
    have hfd2 : H2 fd' = some (.lst []) := e2 _ _ upd_same
    have e12 : Evl.Ex H1 H2 := (Evl.Ex.new hfd).trans e2
    have hrl := hrep.length
    have hrn : ∀ r, r ∈ rs → r ≠ fd' := fun r hr z => by
      obtain ⟨q, hq, hl'⟩ := hrep.mem hr
      rw [z, hfd2] at hq
      have h1 := Option.some.inj hq
      injection h1 with h1
      have h2 := hpl q hl'
      have h3 := congrArg List.length h1
      rw [List.length_map, List.length_nil] at h3
      omega
    have hpn : rs ≠ [] → p ≠ fd' := fun hne z => by
      rw [z, hfd2] at hp
      have h1 := Option.some.inj hp
      injection h1 with h1
      exact hne (List.map_eq_nil_iff.mp h1.symm)
    refine ⟨p, rfl, ⟨_, .of hp⟩, for_list (K := K) (a := p) (xs := rs.map V.ref) (fun i σ H' => ∃ o3 o4, σ = [some (.ref A.p), some (ixV ts a), some (.ref fd'), o3, o4] ∧ Evl.Ex H1 H' ∧ H' p = some (.lst (rs.map V.ref)) ∧ Rep H' rs (pa L 0 a) ∧ H' fd' = some (.lst (((pa L 0 a).take i).map pV))) ?_ ?_ ?_ ?_⟩
    · exact ⟨none, none, rfl, e12, hp, hrep, hfd2⟩
    · rintro i σ H' _ ⟨o3, o4, _, _, h, _⟩
      exact .of h
    · rintro i v σ H' hi ⟨o3, o4, rfl, e, hp', hrep', hfd'⟩
      obtain ⟨r, hr, rfl⟩ : ∃ r, rs[i]? = some r ∧ V.ref r = v := by
        rw [List.getElem?_map] at hi
        cases e : rs[i]? with
        | none => rw [e] at hi; cases hi
        | some t => rw [e] at hi; exact ⟨t, rfl, Option.some.inj hi⟩
      have hm := List.mem_of_getElem? hr
      have hi2 := (List.getElem?_eq_some_iff.mp hr).1
      obtain ⟨pp, hpp, hrow⟩ := hrep'.get hr
      have hpplen := hpl pp (List.mem_of_getElem? hpp)
      walk_at "sx"
      refine ⟨.inl ⟨rfl, _, .of hfd'⟩, ?_⟩
      refine tLc_listV (f := fun _ => true) (v := fun x => .str ⟨#[match x with | .int i => if i = 1 then 49 else 48 | _ => 42]⟩) (fun R r => ⟨_, rfl, r⟩) (.of hrow) (by rw [List.length_map]; exact Nat.le_trans (show _ ≤ 60 by omega) (by decide)) (fun _ => rfl) (fun x hx D acc hD R r => r) (fun x hx _ D acc hD R r => ?_) (fun D hD => ?_)
      · obtain ⟨o, ho, rfl⟩ := List.mem_map.mp hx
        walk_at "sx"
        cases o with
        | none => 
          rw [if_pos (by decide)]
          exact r
        | some b =>
          rw [if_neg (by simp [signV])]
          cases b with
          | false => exact ⟨_, by rfl, by decide, 48, by decide +kernel, r⟩
          | true => exact ⟨_, by rfl, by decide, 49, by decide +kernel, r⟩
      · refine ⟨D, rfl, pp.map (fun o => ⟨#[enc o]⟩), .inl (.of ?_), ?_, ?_⟩
        · rw [upd_same, filter_tt, List.map_map, List.map_map]
          refine congrArg some (congrArg HO.lst (List.map_congr_left fun o _ => ?_))
          cases o with
          | none => rfl
          | some b => cases b <;> rfl
        · rw [List.map_map]
          have h1 : (pp.map ((fun x => x.length) ∘ fun o => (⟨#[enc o]⟩ : Str))).sum = pp.length := by
            clear hpp hrow hpplen
            induction pp with
            | nil => rfl
            | cons o p ih => simp only [List.map_cons, List.sum_cons, List.length_cons, ih]; show 1 + p.length = p.length + 1; omega
          rw [h1, List.length_map, hpplen, show ("" : Str).length = 0 by decide +kernel]
          omega
        · rw [join_txt]
          have nfD : fd' ≠ D := ne_of_none hfd' hD
          have nrD : r ≠ D := ne_of_none hrow hD
          have npD : p ≠ D := ne_of_none hp' hD
          have hpf := hpn (fun z => by rw [z] at hm; cases hm)
          refine ⟨_, by rw [upd_ne nfD]; exact hfd', by rw [List.length_map, List.length_take]; exact Nat.lt_of_le_of_lt (show _ ≤ 4000 by omega) (by decide), ?_⟩
          refine ⟨Evl.Ex.mut (e.trans (Evl.Ex.new hD)) hfd, by rw [upd_ne hpf, upd_ne npD]; exact hp', hrep'.imp fun r' p' hr' h => by rw [upd_ne (hrn r' hr'), upd_ne (ne_of_none h hD)]; exact h, ?_⟩
          rw [upd_same, List.take_add_one, hpp, List.map_append]
          rfl
    · rintro σ H' ⟨o3, o4, rfl, e, hp', hrep', hfd'⟩
      rw [List.length_map, hrl, List.take_length] at hfd'
      refine ⟨_, rfl, fd', _, rfl, .of hfd', fun q hq => ?_⟩
      exact k H' q (e1.trans (ExtN.of e)) (t1.ext e) hq
end
end My
namespace My
open PySem PySem.Spec PyProof.Rows L2 LamX Tr
section
variable {P : Program} {w : World} {K : PySem.W.Frag} {mg : Str → Option Value} {base : Heap} {C : Addr} {T : List (Addr × Str)}
/-- a store is made -/
theorem mk_trees {H1 : Hp} {x dx : Addr} {L : Nat} {Q0 : VK} {E : XK} (ht : Tabs T H1) (hx : H1 x = none) (hdx : H1 dx = none) (hne : dx ≠ x)
    (k : ∀ A H', A.p = x → Evl.Ex H1 H' → (∀ b, b ∈ A.muts → H1 b = none) → TreesAt P w T C A L H' [.no, .all] 0 → Q0 .non H') : spInit P w T C [V.ref x, V.int L] (upd (upd H1 dx (.own x)) x (.ins C dx [])) Q0 E := by
  have hx2 : (upd H1 dx (.own x)) x = none := by rw [upd_ne hne.symm]; exact hx
  refine ⟨x, dx, L, rfl, upd_same, by rw [upd_ne hne]; exact upd_same, Tabs.new (Tabs.new ht hdx) hx2, fun A H' e1 e2 e3 y => k A H' e1 (fun b o h => ?_) (fun b hb => upd_none (upd_none (e3 b hb))) y⟩
  exact e2 b o (Evl.Ex.new hx2 _ _ (Evl.Ex.new hdx _ _ h)) (ne_of_none h hx)
theorem keep_ext {A : My.TA} {H1 H' H2 : Hp} (e : Evl.Ex H1 H') (hf : ∀ b, b ∈ A.muts → H1 b = none) (k : Keep A H' H2) : ExtN H1 H2 := fun b o h n => k b o (e b o h) n fun hb => by
  rw [hf b hb] at h
  cases h
def B1 (d : Nat) : Nat := 200000 + 2 ^ d
/-- the tree of these patterns is put together cheaply -/
def CostT (d L : Nat) (ps : List Pa) : Prop := ∃ c, CostP L d ps c ∧ ps.length * L + ps.length * c ≤ 200000
theorem costT_sub {d L : Nat} {ps : List Pa} {S : R → Bool} (h : ∀ p, p ∈ ps → p ∈ pl L S) (hk : ps.length ≤ 4000) (hL : L ≤ 16) (hd : L ≤ d) : CostT d L ps := by
  refine ⟨L, fun i p ρ τ hi hr ht sr st => ?_, ?_⟩
  · have h1 := cost_row L 0 S (ps.take i) p ρ τ (Nat.zero_add L) hr ht (fun u hu => h u (List.mem_of_mem_take hu)) (h p (List.mem_of_getElem? hi)) sr st
    rw [show d = L + (d - L) by omega, cE_fuel L (d - L) hr ht (by omega)]
    exact h1
  · have h1 : ps.length * L ≤ 4000 * 16 := Nat.mul_le_mul hk hL
    omega
theorem costT_few {d L : Nat} {ps : List Pa} (hk : ps.length ≤ 3) (hd : d ≤ 16) (hL : L ≤ d) : CostT d L ps := by
  refine ⟨2 ^ d - 1, fun i p ρ τ _ _ _ _ _ => cE_le L d ρ τ, ?_⟩
  have h0 : 2 ^ d ≤ 2 ^ 16 := Nat.pow_le_pow_right (by decide) hd
  have h1 : ps.length * L ≤ 3 * 16 := Nat.mul_le_mul hk (by omega)
  have h2 : ps.length * (2 ^ d - 1) ≤ 3 * (2 ^ 16 - 1) := Nat.mul_le_mul hk (by omega)
  omega
theorem use_tree_of {d : Nat} {A : My.TA} {L : Nat} {H : Hp} {ts : List Tr.T} {n : Nat} {q : Addr} {ps : List Pa} {Q : VK} {E : XK} (x : TreesAt P w T C A L H ts n) (hq : H q = some (.tup (ps.map pV))) (hps : ∀ p, p ∈ ps → p.length = L) (hl : L ≤ d) (h60 : L ≤ 60) (hk : ps.length ≤ 4000) (hct : CostT d L ps)
    (hz : ts.length + B1 d ≤ sizeLine) (hn : n + B1 d ≤ sizeLine) (k : ∀ H' ts' r, Keep A H H' → TreesAt P w T C A L H' ts' (n + B1 d) → ts <+: ts' → ts'.length ≤ ts.length + B1 d → r ∈ ts' → (∀ y : R, y.length = L → Tr.St r 0 y = setOf ps y) → Q (ixV ts' r) H') : spTreeC P w T C d [.ref A.p, .ref q] H Q E := by
  obtain ⟨c, hc, hb⟩ := hct
  have hB : 200000 ≤ B1 d := Nat.le_add_right _ _
  exact ⟨A, L, ts, n, q, ps, c, rfl, x, hq, hps, hl, h60, hk, hc, by omega, by omega, fun H' ts' r K1 y pre len m ev => k H' ts' r K1 (y.mono (by omega)) pre (by omega) m fun z hz => tree_set ev hps hz⟩
def BudC (d : Nat) : Prop := 3 * B1 d + 4 * (d * 2 ^ d) + 1000 ≤ sizeLine
theorem bud16 : BudC 16 := by unfold BudC B1; decide
theorem BudC.le {d : Nat} (h : BudC d) : 3 * B1 d + 4 * (d * 2 ^ d) + 1000 ≤ sizeLine := h
def spIsHeads (K : PySem.W.Frag) (T : List (Addr × Str)) (d : Nat) : Sp := fun vs H Q _ => ∃ (L : Nat) (v : V), vs = [.int L, v] ∧ 1 ≤ L ∧ L ≤ d ∧ L ≤ 16 ∧ Tabs T H ∧ ((NotT K H v ∧ ∀ H', ExtN H H' → Tabs T H' → Q (.bl false) H') ∨ ∃ q xs, v = .ref q ∧ H q = some (.tup xs) ∧ xs.length ≤ 4000 ∧ (∀ x, x ∈ xs → Item K H x) ∧ (xs.all (okRow L "01*") = true → CostT d L (xs.map decV)) ∧ ∀ H', ExtN H H' → Tabs T H' → Q (.bl (isHeads L xs)) H')
theorem sc_is_heads_of : FnScope ["width", "value", "trees", "tree"] ["width", "value"] (defScope s_is_heads_of) := ⟨rfl, rfl, rfl, by decide +kernel, rfl, by decide +kernel, by decide +kernel⟩
theorem ok_is_heads_of {f : Addr} {fd : FuncData} (F : FD K s_is_heads_of "is_heads_of" "is_heads_of" f fd) (X : HxT mg) (F_are_patterns : FnG P w K mg base 3 "are_patterns" ["width", "value"] (spArePatterns K)) (F_Trees : MkG P w K mg base "Trees" C 1 ["self", "levels"] (spInit P w T C))
    {d : Nat} (hbud : BudC d) (F_tree_of : FnG P w K mg base (d + 4) "tree_of" ["trees", "patterns"] (spTreeC P w T C d)) (M_many_parts : MtG P w K mg base C 3 "many_parts" ["self", "tree"] (spManyParts P w T C)) {CT : Addr} (F_told_heads : FnG P w K mg base 4 "told_heads" ["trees", "tree"] (spTold P w T C CT)) : FnOk P w K mg base (XC P w) (d + 5) f fd ["width", "value"] (spIsHeads K T d) := by
  refine F.ok sc_is_heads_of (fun vs H Q E h => ?_) (fun cdv A outer s H vs Q E hr h => ?_)
  · obtain ⟨L, v, rfl, _⟩ := h
    rfl
  · refine ⟨_, (pss_cons (ps_if (pt_not (pt_val (pe_fn F_are_patterns (hr.mono (by first | omega | decide)) passE0 (pa_cons (pv 0) (pa_cons (pv 1) pa_nil))))) (pss_one (ps_ret pe_bl)) pss_nil)
      (pss_cons (ps_set (i := 2) sc_is_heads_of.nd rfl (Or.inl rfl) (pe_mk F_Trees (hr.mono (by first | omega | decide)) passE0 (pa_cons (pv 0) pa_nil)))
      (pss_cons (ps_set (i := 3) sc_is_heads_of.nd rfl (Or.inl rfl) (pe_fn F_tree_of (hr.mono (by first | omega | decide)) passE0 (pa_cons (pv 2) (pa_cons (pv 1) pa_nil))))
      (pss_one (ps_ret (pe_and (pe_cmpR op_eq (pe_mt (pv 2) M_many_parts (hr.mono (by first | omega | decide)) passE0 (pa_cons (pv 3) pa_nil)) (pe_callB call_len (by rfl) X.b_len PySem.boot_len (pa_cons (pv 1) pa_nil)) (nomark _)) (pe_one (pe_cmpR (op_eqD hr.units) (pe_fn F_told_heads (hr.mono (by first | omega | decide)) passE0 (pa_cons (pv 2) (pa_cons (pv 3) pa_nil))) (pv 1) (nomark _))))))))), ?_⟩
    dsimp only [cxOf]
    obtain ⟨L, v, rfl, hL, hd, h16, ht, h⟩ := h
    walk_at "sx"
    have hb := hbud.le
    refine ⟨L, v, rfl, ?_⟩
    rcases h with ⟨hn, k⟩ | ⟨q, xs, rfl, hq, hlen, hit, hct, k⟩
    · refine .inl ⟨hn, _, rfl, ?_⟩
      rw [if_pos rfl]
      exact k H (ExtN.refl H) ht
    · refine .inr ⟨q, xs, rfl, hq, hlen, hit, fun H1 e1 => ⟨_, rfl, ?_⟩⟩
      cases hok : xs.all (okRow L "01*") with
      | false =>
        rw [if_pos rfl]
        have h := k H1 (ExtN.of e1) (ht.ext e1)
        unfold isHeads at h
        rw [hok, Bool.false_and] at h
        exact h
      | true =>
        rw [if_neg (by decide)]
        obtain ⟨hx, hps⟩ := items_pa hok
        have hct := hct hok
        generalize hP : xs.map decV = ps at hx hps hct
        have hpl : ps.length = xs.length := by rw [← hP, List.length_map]
        have hiH : isHeads L xs = decide (pl L (setOf ps) = ps) := by
          unfold isHeads
          rw [hok, Bool.true_and, hP]
          rw [Bool.eq_iff_iff, decide_eq_true_iff, decide_eq_true_iff]
          constructor
          · intro h; rw [hx] at h; exact pVs_inj h
          · intro h; rw [hx, h]
        intro p dx hp hdx hne
        refine mk_trees (ht.ext e1) hp hdx hne fun A H2 hA e2 hf y => ⟨rfl, ?_⟩
        subst hA
        have hq2 : H2 q = some (.tup (ps.map pV)) := by rw [← hx]; exact e2 _ _ (e1 _ _ hq)
        refine use_tree_of y hq2 hps hd (by omega) (by omega) hct (by simp; omega) (by omega) fun H3 ts3 r K3 y3 pre3 len3 m3 hset => ?_
        have len3' : ts3.length ≤ 2 + B1 d := len3
        have okr := y3.wf.ok r m3
        have hnp := np_set okr hset
        refine ⟨_, _, y3.ins, by rfl, A, L, ts3, _, r, rfl, y3, m3, by omega, fun H4 e4 t4 => ?_⟩
        have hq3 := K3 _ _ hq2 (fun _ z => by cases z) (y.not_mutT hq2)
        have hq4 := e4 _ _ hq3 (fun _ z => by cases z)
        have hE : ExtN H H4 := (ExtN.of e1).trans ((keep_ext e2 hf K3).trans e4)
        refine ⟨ps.length, .inr ⟨_, .of hq4, by rw [List.length_map]⟩, rfl, ?_⟩
        by_cases hcnt : np r = ps.length
        · rw [if_pos (decide_eq_true (by rw [hcnt]))]
          refine ⟨A, L, ts3, _, r, rfl, y3.ext e4 t4, m3, by omega, hL, by omega, fun _ H5 q5 e5 t5 hq5 => ?_, fun z => by omega⟩
          have hq6 : (upd H5 q5 (.tup ((pa L 0 r).map pV))) q = some (.tup (ps.map pV)) := by
            have h := e5 _ _ hq4 (fun _ z => by cases z)
            rw [upd_ne (ne_of_none h hq5)]
            exact h
          refine ⟨.tuple (tdt (pa L 0 r)), .tup (.of upd_same) (dpAll_txt _), .tuple (tdt ps), .tup (.of hq6) (dpAll_txt _), shaped_txt _, shaped_txt _, ?_⟩
          rw [eqv_txt]
          have h := k (upd H5 q5 (.tup ((pa L 0 r).map pV))) (hE.trans (e5.trans (ExtN.new hq5))) (Tabs.new t5 hq5)
          rw [hiH] at h
          rw [pa_set okr hset] at h ⊢
          exact h
        · rw [if_neg (fun z => hcnt (by have := of_decide_eq_true z; injection this with this; omega))]
          have h := k H4 hE t4
          rw [hiH, decide_eq_false (fun z => hcnt (by rw [hnp, z]))] at h
          exact h
end
end My
namespace My
open PySem PySem.Spec PyProof.Rows L2 LamX Tr
section
variable {P : Program} {w : World} {K : PySem.W.Frag} {mg : Str → Option Value} {base : Heap} {C : Addr} {T : List (Addr × Str)}
/-- the heads of S, as a tuple at q -/
def HeadsAt (H : Hp) (L d : Nat) (q : Addr) (S : R → Bool) : Prop := H q = some (.tup ((pl L S).map pV)) ∧ (pl L S).length ≤ 4000
theorem item_pV {H : Hp} {L : Nat} {ps : List Pa} (h : ∀ p, p ∈ ps → p.length = L) (hL : L ≤ 16) : ∀ x, x ∈ ps.map pV → Item K H x := fun x hx => by
  obtain ⟨p, hp, rfl⟩ := List.mem_map.mp hx
  exact .inl ⟨_, rfl, by rw [txt_len, h p hp]; omega⟩
def spCheckHeads (T : List (Addr × Str)) (d : Nat) : Sp := fun vs H Q _ => ∃ (L : Nat) (q : Addr) (S : R → Bool), vs = [.int L, .ref q] ∧ 1 ≤ L ∧ L ≤ d ∧ L ≤ 16 ∧ Tabs T H ∧ HeadsAt H L d q S ∧ ∀ H', ExtN H H' → Tabs T H' → Q .non H'
theorem sc_check_heads : FnScope ["width", "heads"] ["width", "heads"] (defScope s_check_heads) := ⟨rfl, rfl, rfl, by decide +kernel, rfl, by decide +kernel, by decide +kernel⟩
theorem ok_check_heads {f : Addr} {fd : FuncData} (F : FD K s_check_heads "check_heads" "check_heads" f fd) (F_check_width : FnG P w K mg base 3 "check_width" ["width"] spCheckWidth) {d : Nat} (F_is_heads_of : FnG P w K mg base (d + 5) "is_heads_of" ["width", "value"] (spIsHeads K T d)) : FnOk P w K mg base (XC P w) (d + 6) f fd ["width", "heads"] (spCheckHeads T d) := by
  refine F.ok sc_check_heads (fun vs H Q E h => ?_) (fun cdv A outer s H vs Q E hr h => ?_)
  · obtain ⟨L, q, S, rfl, _⟩ := h
    rfl
  · refine ⟨_, (pss_cons (ps_expr (pe_fn F_check_width (hr.mono (by first | omega | decide)) passE0 (pa_cons (pv 0) pa_nil)))
      (pss_one (ps_if (pt_not (pt_val (pe_fn F_is_heads_of (hr.mono (by first | omega | decide)) passE0 (pa_cons (pv 0) (pa_cons (pv 1) pa_nil))))) (pss_one ps_never) pss_nil))), ?_⟩
    try dsimp only [cxOf]
    obtain ⟨L, q, S, rfl, hL, hd, h16, ht, ⟨hq, hlen⟩, k⟩ := h
    walk_at "sx"
    refine ⟨L, rfl, hL, h16, ?_⟩
    refine ⟨L, _, rfl, hL, hd, h16, ht, .inr ⟨q, _, rfl, hq, by rw [List.length_map]; exact hlen, item_pV (fun p hp => pl_len hp) h16, fun _ => by rw [dec_map]; exact costT_sub (fun p hp => hp) hlen h16 hd, fun H' e t => ⟨_, rfl, ?_⟩⟩⟩
    rw [if_neg (by rw [isHeads_pl]; decide)]
    exact k H' e t
theorem sc_is_heads : FnScope ["width", "value"] ["width", "value"] (defScope s_is_heads) := ⟨rfl, rfl, rfl, by decide +kernel, rfl, by decide +kernel, by decide +kernel⟩
theorem ok_is_heads {f : Addr} {fd : FuncData} (F : FD K s_is_heads "is_heads" "is_heads" f fd) (F_check_width : FnG P w K mg base 3 "check_width" ["width"] spCheckWidth) {d : Nat} (F_is_heads_of : FnG P w K mg base (d + 5) "is_heads_of" ["width", "value"] (spIsHeads K T d)) : FnOk P w K mg base (XC P w) (d + 6) f fd ["width", "value"] (spIsHeads K T d) := by
  refine F.ok sc_is_heads (fun vs H Q E h => ?_) (fun cdv A outer s H vs Q E hr h => ?_)
  · obtain ⟨L, v, rfl, _⟩ := h
    rfl
  · refine ⟨_, (pss_cons (ps_expr (pe_fn F_check_width (hr.mono (by first | omega | decide)) passE0 (pa_cons (pv 0) pa_nil)))
      (pss_one (ps_ret (pe_fn F_is_heads_of (hr.mono (by first | omega | decide)) passE0 (pa_cons (pv 0) (pa_cons (pv 1) pa_nil)))))), ?_⟩
    try dsimp only [cxOf]
    obtain ⟨L, v, rfl, hL, hd, h16, h⟩ := h
    walk_at "sx"
    exact ⟨L, rfl, hL, h16, L, v, rfl, hL, hd, h16, h⟩
/-- the answer is the heads of S' -/
def Ans1 (T : List (Addr × Str)) (H : Hp) (L : Nat) (S : R → Bool) (Q : VK) : Prop := ∀ H2 r, ExtN H H2 → Tabs T H2 → H2 r = none → Q (.ref r) (upd H2 r (.tup ((pl L S).map pV)))
def AnsE (T : List (Addr × Str)) (CT : Addr) (H : Hp) (L : Nat) (S : R → Bool) (Q : VK) (E : XK) : Prop := ((pl L S).length ≤ 4000 → Ans1 T H L S Q) ∧ (4000 < (pl L S).length → TooE T CT H E)
theorem TooE.mono {T : List (Addr × Str)} {CT : Addr} {H H1 : Hp} {E : XK} (h : TooE T CT H E) (e : ExtN H H1) : TooE T CT H1 E := fun d H2 e2 t hd => h d H2 (e.trans e2) t hd
theorem use_told {A : My.TA} {L : Nat} {H H1 : Hp} {ts : List Tr.T} {n : Nat} {r : Tr.T} {S : R → Bool} {CT : Addr} {Q : VK} {E : XK} (y : TreesAt P w T C A L H1 ts n) (m : r ∈ ts) (hset : ∀ x : R, x.length = L → Tr.St r 0 x = S x) (hz : ts.length + 4 ≤ sizeLine) (hL : 1 ≤ L) (h60 : L ≤ 60) (hE : ExtN H H1) (k : AnsE T CT H L S Q E) : spTold P w T C CT [.ref A.p, ixV ts r] H1 Q E := by
  have okr := y.wf.ok r m
  refine ⟨A, L, ts, _, r, rfl, y, m, hz, hL, h60, fun hn H2 q e2 t2 h2 => ?_, fun hn => ?_⟩
  · rw [np_set okr hset] at hn
    rw [pa_set okr hset]
    exact k.1 hn H2 q (hE.trans e2) t2 h2
  · rw [np_set okr hset] at hn
    exact (k.2 hn).mono hE
def spPlain (T : List (Addr × Str)) (CT : Addr) (d : Nat) : Sp := fun vs H Q E => ∃ (L : Nat) (q : Addr) (ps : List Pa), vs = [.int L, .ref q] ∧ 1 ≤ L ∧ L ≤ d ∧ L ≤ 16 ∧ Tabs T H ∧ H q = some (.tup (ps.map pV)) ∧ (∀ p, p ∈ ps → p.length = L) ∧ ps.length ≤ 4000 ∧ CostT d L ps ∧ AnsE T CT H L (setOf ps) Q E
theorem sc_plain : FnScope ["width", "patterns", "trees"] ["width", "patterns"] (defScope s_plain) := ⟨rfl, rfl, rfl, by decide +kernel, rfl, by decide +kernel, by decide +kernel⟩
theorem ok_plain {f : Addr} {fd : FuncData} (F : FD K s_plain "plain" "plain" f fd) (F_check_width : FnG P w K mg base 3 "check_width" ["width"] spCheckWidth) (F_are_patterns : FnG P w K mg base 3 "are_patterns" ["width", "value"] (spArePatterns K)) {d : Nat} (hbud : BudC d) (F_Trees : MkG P w K mg base "Trees" C 1 ["self", "levels"] (spInit P w T C)) (F_tree_of : FnG P w K mg base (d + 4) "tree_of" ["trees", "patterns"] (spTreeC P w T C d)) {CT : Addr} (F_told_heads : FnG P w K mg base 4 "told_heads" ["trees", "tree"] (spTold P w T C CT)) : FnOk P w K mg base (XC P w) (d + 5) f fd ["width", "patterns"] (spPlain T CT d) := by
  refine F.ok sc_plain (fun vs H Q E h => ?_) (fun cdv A outer s H vs Q E hr h => ?_)
  · obtain ⟨L, q, ps, rfl, _⟩ := h
    rfl
  · refine ⟨_, (pss_cons (ps_expr (pe_fn F_check_width (hr.mono (by first | omega | decide)) passE0 (pa_cons (pv 0) pa_nil)))
      (pss_cons (ps_if (pt_not (pt_val (pe_fn F_are_patterns (hr.mono (by first | omega | decide)) passE0 (pa_cons (pv 0) (pa_cons (pv 1) pa_nil))))) (pss_one ps_never) pss_nil)
      (pss_cons (ps_set (i := 2) sc_plain.nd rfl (Or.inl rfl) (pe_mk F_Trees (hr.mono (by first | omega | decide)) passE0 (pa_cons (pv 0) pa_nil)))
      (pss_one (ps_ret (pe_fn F_told_heads (hr.mono (by first | omega | decide)) passE (pa_cons (pv 2) (pa_cons (pe_fn F_tree_of (hr.mono (by first | omega | decide)) passE0 (pa_cons (pv 2) (pa_cons (pv 1) pa_nil))) pa_nil)))))))), ?_⟩
    try dsimp only [cxOf]
    obtain ⟨L, q, ps, rfl, hL, hd, h16, ht, hq, hps, hlen, hct, k⟩ := h
    have hb := hbud.le
    walk_at "sx"
    refine ⟨L, rfl, hL, h16, ?_⟩
    refine ⟨L, _, rfl, .inr ⟨q, _, rfl, hq, by rw [List.length_map]; exact hlen, item_pV hps h16, fun H1 e1 => ⟨_, rfl, ?_⟩⟩⟩
    rw [if_neg (by rw [List.all_eq_true.mpr (fun v hv => by obtain ⟨p, hp, rfl⟩ := List.mem_map.mp hv; exact okRow_pV (hps p hp))]; decide)]
    intro p dx hp hdx hne
    refine mk_trees (ht.ext e1) hp hdx hne fun A H2 hA e2 hf y => ⟨rfl, ?_⟩
    subst hA
    have hq2 := e2 _ _ (e1 _ _ hq)
    refine use_tree_of y hq2 hps hd (by omega) hlen hct (by simp; omega) (by omega) fun H3 ts3 r K3 y3 pre3 len3 m3 hset => ?_
    have len3' : ts3.length ≤ 2 + B1 d := len3
    have okr := y3.wf.ok r m3
    have hE := (ExtN.of e1).trans (keep_ext e2 hf K3)
    exact use_told y3 m3 hset (by omega) hL (by omega) hE k
def spBothH (T : List (Addr × Str)) (CT : Addr) (d : Nat) : Sp := fun vs H Q E => ∃ (L : Nat) (q1 q2 : Addr) (S1 S2 : R → Bool), vs = [.int L, .ref q1, .ref q2] ∧ 1 ≤ L ∧ L ≤ d ∧ L ≤ 16 ∧ Tabs T H ∧ HeadsAt H L d q1 S1 ∧ HeadsAt H L d q2 S2 ∧ AnsE T CT H L (fun x => S1 x && S2 x) Q E
theorem sc_both : FnScope ["width", "one", "other", "trees"] ["width", "one", "other"] (defScope s_both) := ⟨rfl, rfl, rfl, by decide +kernel, rfl, by decide +kernel, by decide +kernel⟩
theorem ok_bothH {f : Addr} {fd : FuncData} (F : FD K s_both "both" "both" f fd) {d : Nat} (hbud : BudC d) (F_check_heads : FnG P w K mg base (d + 6) "check_heads" ["width", "heads"] (spCheckHeads T d)) (F_Trees : MkG P w K mg base "Trees" C 1 ["self", "levels"] (spInit P w T C)) (F_tree_of : FnG P w K mg base (d + 4) "tree_of" ["trees", "patterns"] (spTreeC P w T C d)) {CT : Addr} (F_told_heads : FnG P w K mg base 4 "told_heads" ["trees", "tree"] (spTold P w T C CT)) (M_both : MtG P w K mg base C (d + 2) "both" ["self", "one", "other"] (spBoth P w T C d)) : FnOk P w K mg base (XC P w) (d + 7) f fd ["width", "one", "other"] (spBothH T CT d) := by
  refine F.ok sc_both (fun vs H Q E h => ?_) (fun cdv A outer s H vs Q E hr h => ?_)
  · obtain ⟨L, q1, q2, S1, S2, rfl, _⟩ := h
    rfl
  · refine ⟨_, (pss_cons (ps_expr (pe_fn F_check_heads (hr.mono (by first | omega | decide)) passE0 (pa_cons (pv 0) (pa_cons (pv 1) pa_nil))))
      (pss_cons (ps_expr (pe_fn F_check_heads (hr.mono (by first | omega | decide)) passE0 (pa_cons (pv 0) (pa_cons (pv 2) pa_nil))))
      (pss_cons (ps_set (i := 3) sc_both.nd rfl (Or.inl rfl) (pe_mk F_Trees (hr.mono (by first | omega | decide)) passE0 (pa_cons (pv 0) pa_nil)))
      (pss_one (ps_ret (pe_fn F_told_heads (hr.mono (by first | omega | decide)) passE (pa_cons (pv 3) (pa_cons (pe_mt (pv 3) M_both (hr.mono (by first | omega | decide)) passE0 (pa_cons (pe_fn F_tree_of (hr.mono (by first | omega | decide)) passE0 (pa_cons (pv 3) (pa_cons (pv 1) pa_nil))) (pa_cons (pe_fn F_tree_of (hr.mono (by first | omega | decide)) passE0 (pa_cons (pv 3) (pa_cons (pv 2) pa_nil))) pa_nil))) pa_nil)))))))), ?_⟩
    try dsimp only [cxOf]
    obtain ⟨L, q1, q2, S1, S2, rfl, hL, hd, h16, ht, hq1, hq2, k⟩ := h
    have hb := hbud.le
    have hpos := Nat.two_pow_pos d
    have hB : 2 ^ d ≤ B1 d := by unfold B1; omega
    walk_at "sx"
    refine ⟨L, q1, S1, rfl, hL, hd, h16, ht, hq1, fun Ha ea ta => ?_⟩
    have h2a := ea _ _ hq2.1 (fun _ z => by cases z)
    refine ⟨L, q2, S2, rfl, hL, hd, h16, ta, ⟨h2a, hq2.2⟩, fun H1 e1 t1 => ?_⟩
    have g1 := e1 _ _ (ea _ _ hq1.1 (fun _ z => by cases z)) (fun _ z => by cases z)
    have g2 := e1 _ _ h2a (fun _ z => by cases z)
    intro p dx hp hdx hne
    refine mk_trees t1 hp hdx hne fun A H2 hA e2 hf y => ⟨rfl, ?_⟩
    subst hA
    refine ⟨_, _, y.ins, by rfl, ?_⟩
    refine use_tree_of y (e2 _ _ g1) (fun p hp => pl_len hp) hd (by omega) hq1.2 (costT_sub (fun p hp => hp) hq1.2 h16 hd) (by simp; omega) (by omega) fun H3 ts3 r K3 y3 pre3 len3 m3 hset3 => ?_
    have len3' : ts3.length ≤ 2 + B1 d := len3
    have g2' := K3 _ _ (e2 _ _ g2) (fun _ z => by cases z) (y.not_mutT (e2 _ _ g2))
    refine use_tree_of y3 g2' (fun p hp => pl_len hp) hd (by omega) hq2.2 (costT_sub (fun p hp => hp) hq2.2 h16 hd) (by omega) (by omega) fun H4 ts4 r4 K4 y4 pre4 len4 m4 hset4 => ?_
    refine ⟨A, L, 0, ts4, _, r, r4, by rw [ixV_pre pre4 m3], y4, pre4.subset m3, m4, y3.wf.ok _ m3, y4.wf.ok _ m4, by omega, by omega, by omega, fun H5 ts5 r5 K5 y5 pre5 len5 m5 o5 ev5 => ?_⟩
    have hset : ∀ x : R, x.length = L → Tr.St r5 0 x = (S1 x && S2 x) := fun x hx => by
      have a1 := hset3 x hx
      have a2 := hset4 x hx
      rw [setOf_pl hx] at a1 a2
      unfold Tr.St at a1 a2 ⊢
      rw [ev5, a1, a2]
    have hE := (ea.trans e1).trans (keep_ext e2 hf ((K3.trans K4).trans K5))
    exact use_told y5 m5 hset (by omega) hL (by omega) hE k
def spEitherH (T : List (Addr × Str)) (CT : Addr) (d : Nat) : Sp := fun vs H Q E => ∃ (L : Nat) (q1 q2 : Addr) (S1 S2 : R → Bool), vs = [.int L, .ref q1, .ref q2] ∧ 1 ≤ L ∧ L ≤ d ∧ L ≤ 16 ∧ Tabs T H ∧ HeadsAt H L d q1 S1 ∧ HeadsAt H L d q2 S2 ∧ AnsE T CT H L (fun x => S1 x || S2 x) Q E
theorem sc_either : FnScope ["width", "one", "other", "trees"] ["width", "one", "other"] (defScope s_either) := ⟨rfl, rfl, rfl, by decide +kernel, rfl, by decide +kernel, by decide +kernel⟩
theorem ok_eitherH {f : Addr} {fd : FuncData} (F : FD K s_either "either" "either" f fd) {d : Nat} (hbud : BudC d) (F_check_heads : FnG P w K mg base (d + 6) "check_heads" ["width", "heads"] (spCheckHeads T d)) (F_Trees : MkG P w K mg base "Trees" C 1 ["self", "levels"] (spInit P w T C)) (F_tree_of : FnG P w K mg base (d + 4) "tree_of" ["trees", "patterns"] (spTreeC P w T C d)) {CT : Addr} (F_told_heads : FnG P w K mg base 4 "told_heads" ["trees", "tree"] (spTold P w T C CT)) (M_either : MtG P w K mg base C (d + 2) "either" ["self", "one", "other"] (spEither P w T C d)) : FnOk P w K mg base (XC P w) (d + 7) f fd ["width", "one", "other"] (spEitherH T CT d) := by
  refine F.ok sc_either (fun vs H Q E h => ?_) (fun cdv A outer s H vs Q E hr h => ?_)
  · obtain ⟨L, q1, q2, S1, S2, rfl, _⟩ := h
    rfl
  · refine ⟨_, (pss_cons (ps_expr (pe_fn F_check_heads (hr.mono (by first | omega | decide)) passE0 (pa_cons (pv 0) (pa_cons (pv 1) pa_nil))))
      (pss_cons (ps_expr (pe_fn F_check_heads (hr.mono (by first | omega | decide)) passE0 (pa_cons (pv 0) (pa_cons (pv 2) pa_nil))))
      (pss_cons (ps_set (i := 3) sc_either.nd rfl (Or.inl rfl) (pe_mk F_Trees (hr.mono (by first | omega | decide)) passE0 (pa_cons (pv 0) pa_nil)))
      (pss_one (ps_ret (pe_fn F_told_heads (hr.mono (by first | omega | decide)) passE (pa_cons (pv 3) (pa_cons (pe_mt (pv 3) M_either (hr.mono (by first | omega | decide)) passE0 (pa_cons (pe_fn F_tree_of (hr.mono (by first | omega | decide)) passE0 (pa_cons (pv 3) (pa_cons (pv 1) pa_nil))) (pa_cons (pe_fn F_tree_of (hr.mono (by first | omega | decide)) passE0 (pa_cons (pv 3) (pa_cons (pv 2) pa_nil))) pa_nil))) pa_nil)))))))), ?_⟩
    try dsimp only [cxOf]
    obtain ⟨L, q1, q2, S1, S2, rfl, hL, hd, h16, ht, hq1, hq2, k⟩ := h
    have hb := hbud.le
    have hpos := Nat.two_pow_pos d
    have hB : 2 ^ d ≤ B1 d := by unfold B1; omega
    walk_at "sx"
    refine ⟨L, q1, S1, rfl, hL, hd, h16, ht, hq1, fun Ha ea ta => ?_⟩
    have h2a := ea _ _ hq2.1 (fun _ z => by cases z)
    refine ⟨L, q2, S2, rfl, hL, hd, h16, ta, ⟨h2a, hq2.2⟩, fun H1 e1 t1 => ?_⟩
    have g1 := e1 _ _ (ea _ _ hq1.1 (fun _ z => by cases z)) (fun _ z => by cases z)
    have g2 := e1 _ _ h2a (fun _ z => by cases z)
    intro p dx hp hdx hne
    refine mk_trees t1 hp hdx hne fun A H2 hA e2 hf y => ⟨rfl, ?_⟩
    subst hA
    refine ⟨_, _, y.ins, by rfl, ?_⟩
    refine use_tree_of y (e2 _ _ g1) (fun p hp => pl_len hp) hd (by omega) hq1.2 (costT_sub (fun p hp => hp) hq1.2 h16 hd) (by simp; omega) (by omega) fun H3 ts3 r K3 y3 pre3 len3 m3 hset3 => ?_
    have len3' : ts3.length ≤ 2 + B1 d := len3
    have g2' := K3 _ _ (e2 _ _ g2) (fun _ z => by cases z) (y.not_mutT (e2 _ _ g2))
    refine use_tree_of y3 g2' (fun p hp => pl_len hp) hd (by omega) hq2.2 (costT_sub (fun p hp => hp) hq2.2 h16 hd) (by omega) (by omega) fun H4 ts4 r4 K4 y4 pre4 len4 m4 hset4 => ?_
    refine ⟨A, L, 0, ts4, _, r, r4, by rw [ixV_pre pre4 m3], y4, pre4.subset m3, m4, y3.wf.ok _ m3, y4.wf.ok _ m4, by omega, by omega, by omega, fun H5 ts5 r5 K5 y5 pre5 len5 m5 o5 ev5 => ?_⟩
    have hset : ∀ x : R, x.length = L → Tr.St r5 0 x = (S1 x || S2 x) := fun x hx => by
      have a1 := hset3 x hx
      have a2 := hset4 x hx
      rw [setOf_pl hx] at a1 a2
      unfold Tr.St at a1 a2 ⊢
      rw [ev5, a1, a2]
    have hE := (ea.trans e1).trans (keep_ext e2 hf ((K3.trans K4).trans K5))
    exact use_told y5 m5 hset (by omega) hL (by omega) hE k
def spOthers (T : List (Addr × Str)) (CT : Addr) (d : Nat) : Sp := fun vs H Q E => ∃ (L : Nat) (q1 : Addr) (S1 : R → Bool), vs = [.int L, .ref q1] ∧ 1 ≤ L ∧ L ≤ d ∧ L ≤ 16 ∧ Tabs T H ∧ HeadsAt H L d q1 S1 ∧ AnsE T CT H L (fun x => !S1 x) Q E
theorem sc_others : FnScope ["width", "heads", "trees"] ["width", "heads"] (defScope s_others) := ⟨rfl, rfl, rfl, by decide +kernel, rfl, by decide +kernel, by decide +kernel⟩
theorem ok_othersH {f : Addr} {fd : FuncData} (F : FD K s_others "others" "others" f fd) {d : Nat} (hbud : BudC d) (F_check_heads : FnG P w K mg base (d + 6) "check_heads" ["width", "heads"] (spCheckHeads T d)) (F_Trees : MkG P w K mg base "Trees" C 1 ["self", "levels"] (spInit P w T C)) (F_tree_of : FnG P w K mg base (d + 4) "tree_of" ["trees", "patterns"] (spTreeC P w T C d)) {CT : Addr} (F_told_heads : FnG P w K mg base 4 "told_heads" ["trees", "tree"] (spTold P w T C CT)) (M_rest : MtG P w K mg base C (d + 2) "rest" ["self", "tree"] (spRest P w T C d)) : FnOk P w K mg base (XC P w) (d + 7) f fd ["width", "heads"] (spOthers T CT d) := by
  refine F.ok sc_others (fun vs H Q E h => ?_) (fun cdv A outer s H vs Q E hr h => ?_)
  · obtain ⟨L, q1, S1, rfl, _⟩ := h
    rfl
  · refine ⟨_, (pss_cons (ps_expr (pe_fn F_check_heads (hr.mono (by first | omega | decide)) passE0 (pa_cons (pv 0) (pa_cons (pv 1) pa_nil))))
      (pss_cons (ps_set (i := 2) sc_others.nd rfl (Or.inl rfl) (pe_mk F_Trees (hr.mono (by first | omega | decide)) passE0 (pa_cons (pv 0) pa_nil)))
      (pss_one (ps_ret (pe_fn F_told_heads (hr.mono (by first | omega | decide)) passE (pa_cons (pv 2) (pa_cons (pe_mt (pv 2) M_rest (hr.mono (by first | omega | decide)) passE0 (pa_cons (pe_fn F_tree_of (hr.mono (by first | omega | decide)) passE0 (pa_cons (pv 2) (pa_cons (pv 1) pa_nil))) pa_nil)) pa_nil))))))), ?_⟩
    try dsimp only [cxOf]
    obtain ⟨L, q1, S1, rfl, hL, hd, h16, ht, hq1, k⟩ := h
    have hb := hbud.le
    have hpos := Nat.two_pow_pos d
    have hB : 2 ^ d ≤ B1 d := by unfold B1; omega
    walk_at "sx"
    refine ⟨L, q1, S1, rfl, hL, hd, h16, ht, hq1, fun H1 e1 t1 => ?_⟩
    have g1 := e1 _ _ hq1.1 (fun _ z => by cases z)
    intro p dx hp hdx hne
    refine mk_trees t1 hp hdx hne fun A H2 hA e2 hf y => ⟨rfl, ?_⟩
    subst hA
    refine ⟨_, _, y.ins, by rfl, ?_⟩
    refine use_tree_of y (e2 _ _ g1) (fun p hp => pl_len hp) hd (by omega) hq1.2 (costT_sub (fun p hp => hp) hq1.2 h16 hd) (by simp; omega) (by omega) fun H3 ts3 r K3 y3 pre3 len3 m3 hset3 => ?_
    have len3' : ts3.length ≤ 2 + B1 d := len3
    have hset3' : ∀ x : R, x.length = L → Tr.St r 0 x = S1 x := fun x hx => (hset3 x hx).trans (setOf_pl hx)
    refine ⟨A, L, 0, ts3, _, r, rfl, y3, m3, y3.wf.ok _ m3, by omega, by omega, by omega, fun H5 ts5 r5 K5 y5 pre5 len5 m5 o5 ev5 => ?_⟩
    have hset : ∀ x : R, x.length = L → Tr.St r5 0 x = (!S1 x) := fun x hx => by
      have a1 := hset3' x hx
      unfold Tr.St at a1 ⊢
      rw [ev5, a1]
    have hE := e1.trans (keep_ext e2 hf (K3.trans K5))
    exact use_told y5 m5 hset (by omega) hL (by omega) hE k
def spHowMany (T : List (Addr × Str)) (d : Nat) : Sp := fun vs H Q _ => ∃ (L : Nat) (q1 : Addr) (S1 : R → Bool), vs = [.int L, .ref q1] ∧ 1 ≤ L ∧ L ≤ d ∧ L ≤ 16 ∧ Tabs T H ∧ HeadsAt H L d q1 S1 ∧ ∀ H2, ExtN H H2 → Tabs T H2 → Q (.int (((allR L).filter S1).length : Nat)) H2
theorem sc_how_many : FnScope ["width", "heads", "trees"] ["width", "heads"] (defScope s_how_many) := ⟨rfl, rfl, rfl, by decide +kernel, rfl, by decide +kernel, by decide +kernel⟩
theorem ok_how_manyH {f : Addr} {fd : FuncData} (F : FD K s_how_many "how_many" "how_many" f fd) {d : Nat} (hbud : BudC d) (F_check_heads : FnG P w K mg base (d + 6) "check_heads" ["width", "heads"] (spCheckHeads T d)) (F_Trees : MkG P w K mg base "Trees" C 1 ["self", "levels"] (spInit P w T C)) (F_tree_of : FnG P w K mg base (d + 4) "tree_of" ["trees", "patterns"] (spTreeC P w T C d)) {CT : Addr} (F_told_heads : FnG P w K mg base 4 "told_heads" ["trees", "tree"] (spTold P w T C CT)) (M_many : MtG P w K mg base C 3 "many" ["self", "tree"] (spMany P w T C)) : FnOk P w K mg base (XC P w) (d + 7) f fd ["width", "heads"] (spHowMany T d) := by
  refine F.ok sc_how_many (fun vs H Q E h => ?_) (fun cdv A outer s H vs Q E hr h => ?_)
  · obtain ⟨L, q1, S1, rfl, _⟩ := h
    rfl
  · refine ⟨_, (pss_cons (ps_expr (pe_fn F_check_heads (hr.mono (by first | omega | decide)) passE0 (pa_cons (pv 0) (pa_cons (pv 1) pa_nil))))
      (pss_cons (ps_set (i := 2) sc_how_many.nd rfl (Or.inl rfl) (pe_mk F_Trees (hr.mono (by first | omega | decide)) passE0 (pa_cons (pv 0) pa_nil)))
      (pss_one (ps_ret (pe_mt (pv 2) M_many (hr.mono (by first | omega | decide)) passE0 (pa_cons (pe_fn F_tree_of (hr.mono (by first | omega | decide)) passE0 (pa_cons (pv 2) (pa_cons (pv 1) pa_nil))) pa_nil)))))), ?_⟩
    try dsimp only [cxOf]
    obtain ⟨L, q1, S1, rfl, hL, hd, h16, ht, hq1, k⟩ := h
    have hb := hbud.le
    have hpos := Nat.two_pow_pos d
    have hB : 2 ^ d ≤ B1 d := by unfold B1; omega
    walk_at "sx"
    refine ⟨L, q1, S1, rfl, hL, hd, h16, ht, hq1, fun H1 e1 t1 => ?_⟩
    have g1 := e1 _ _ hq1.1 (fun _ z => by cases z)
    intro p dx hp hdx hne
    refine mk_trees t1 hp hdx hne fun A H2 hA e2 hf y => ⟨rfl, ?_⟩
    subst hA
    refine ⟨_, _, y.ins, by rfl, ?_⟩
    refine use_tree_of y (e2 _ _ g1) (fun p hp => pl_len hp) hd (by omega) hq1.2 (costT_sub (fun p hp => hp) hq1.2 h16 hd) (by simp; omega) (by omega) fun H3 ts3 r K3 y3 pre3 len3 m3 hset3 => ?_
    have len3' : ts3.length ≤ 2 + B1 d := len3
    have hset3' : ∀ x : R, x.length = L → Tr.St r 0 x = S1 x := fun x hx => (hset3 x hx).trans (setOf_pl hx)
    refine ⟨A, L, ts3, _, r, rfl, y3, m3, by omega, by omega, fun H6 e6 t6 => ?_⟩
    have hc : cn L r * 2 ^ lev L r = ((allR L).filter S1).length := by
      have h1 := cn_eq (y3.wf.ok r m3) (Nat.zero_add L)
      rw [Nat.sub_zero] at h1
      rw [← h1]
      congr 1
      exact List.filter_congr fun x hx => hset3' x (mem_allR.mp hx)
    rw [hc]
    exact k H6 ((e1.trans (keep_ext e2 hf K3)).trans e6) t6
def spPutInto (T : List (Addr × Str)) (CT : Addr) (d : Nat) : Sp := fun vs H Q E => ∃ (L : Nat) (q1 : Addr) (S1 : R → Bool) (z : Str), vs = [.int L, .ref q1, .str z] ∧ 1 ≤ L ∧ L ≤ d ∧ L ≤ 16 ∧ Tabs T H ∧ HeadsAt H L d q1 S1 ∧ okRow L "01=" (.str z) = true ∧ AnsE T CT H L (fun x => (allR L).any fun y => S1 y && decide (mput (unt z) y = x)) Q E
theorem sc_put_into : FnScope ["width", "heads", "mask", "trees"] ["width", "heads", "mask"] (defScope s_put_into) := ⟨rfl, rfl, rfl, by decide +kernel, rfl, by decide +kernel, by decide +kernel⟩
theorem ok_put_intoH {f : Addr} {fd : FuncData} (F : FD K s_put_into "put_into" "put_into" f fd) {d : Nat} (hbud : BudC d) (F_check_heads : FnG P w K mg base (d + 6) "check_heads" ["width", "heads"] (spCheckHeads T d)) (F_Trees : MkG P w K mg base "Trees" C 1 ["self", "levels"] (spInit P w T C)) (F_tree_of : FnG P w K mg base (d + 4) "tree_of" ["trees", "patterns"] (spTreeC P w T C d)) {CT : Addr} (F_told_heads : FnG P w K mg base 4 "told_heads" ["trees", "tree"] (spTold P w T C CT)) (F_check_mask : FnG P w K mg base 3 "check_mask" ["width", "mask"] (spCheckRow "01=")) (F_signs_of : FnG P w K mg base 1 "signs_of" ["pattern"] spSignsOf) (M_put : MtG P w K mg base C (d + 4) "put" ["self", "tree", "signs"] (spPut P w T C d)) : FnOk P w K mg base (XC P w) (d + 7) f fd ["width", "heads", "mask"] (spPutInto T CT d) := by
  refine F.ok sc_put_into (fun vs H Q E h => ?_) (fun cdv A outer s H vs Q E hr h => ?_)
  · obtain ⟨L, q1, S1, z, rfl, _⟩ := h
    rfl
  · refine ⟨_, (pss_cons (ps_expr (pe_fn F_check_heads (hr.mono (by first | omega | decide)) passE0 (pa_cons (pv 0) (pa_cons (pv 1) pa_nil))))
      (pss_cons (ps_expr (pe_fn F_check_mask (hr.mono (by first | omega | decide)) passE0 (pa_cons (pv 0) (pa_cons (pv 2) pa_nil))))
      (pss_cons (ps_set (i := 3) sc_put_into.nd rfl (Or.inl rfl) (pe_mk F_Trees (hr.mono (by first | omega | decide)) passE0 (pa_cons (pv 0) pa_nil)))
      (pss_one (ps_ret (pe_fn F_told_heads (hr.mono (by first | omega | decide)) passE (pa_cons (pv 3) (pa_cons (pe_mt (pv 3) M_put (hr.mono (by first | omega | decide)) passE0 (pa_cons (pe_fn F_tree_of (hr.mono (by first | omega | decide)) passE0 (pa_cons (pv 3) (pa_cons (pv 1) pa_nil))) (pa_cons (pe_fn F_signs_of (hr.mono (by first | omega | decide)) passE0 (pa_cons (pv 2) pa_nil)) pa_nil))) pa_nil)))))))), ?_⟩
    try dsimp only [cxOf]
    obtain ⟨L, q1, S1, z, rfl, hL, hd, h16, ht, hq1, hz, k⟩ := h
    have hb := hbud.le
    have hpos := Nat.two_pow_pos d
    have hB : 2 ^ d ≤ B1 d := by unfold B1; omega
    walk_at "sx"
    refine ⟨L, q1, S1, rfl, hL, hd, h16, ht, hq1, fun H1 e1 t1 => ?_⟩
    have g1 := e1 _ _ hq1.1 (fun _ z => by cases z)
    have hzl : z.length = L := by
      rw [okRow_str, Bool.and_eq_true] at hz
      exact of_decide_eq_true hz.1
    have hml : (unt z).length = L := (unt_len z).trans hzl
    refine ⟨L, z, rfl, by omega, hz, fun Hb eb => ?_⟩
    have tb := t1.ext eb
    have gb := eb _ _ g1
    intro p dx hp hdx hne
    refine mk_trees tb hp hdx hne fun A H2 hA e2 hf y => ⟨rfl, ?_⟩
    subst hA
    refine ⟨_, _, y.ins, by rfl, ?_⟩
    refine use_tree_of y (e2 _ _ gb) (fun p hp => pl_len hp) hd (by omega) hq1.2 (costT_sub (fun p hp => hp) hq1.2 h16 hd) (by simp; omega) (by omega) fun H3 ts3 r K3 y3 pre3 len3 m3 hset3 => ?_
    have len3' : ts3.length ≤ 2 + B1 d := len3
    have hset3' : ∀ x : R, x.length = L → Tr.St r 0 x = S1 x := fun x hx => (hset3 x hx).trans (setOf_pl hx)
    have hcp : cPut d (sgOf 0 (unt z)).length ≤ 4 * (d * 2 ^ d) + 16 + 2 ^ d := by
      have h1 := sgOf_len (p := unt z) (k := 0)
      unfold cPut
      omega
    have hsgl : (sgOf 0 (unt z)).length < 64 := by
      have h1 := sgOf_len (p := unt z) (k := 0)
      omega
    refine ⟨z, rfl, by omega, fun q5 H4 hq5 e5 hk5 => ?_⟩
    have y4 := y3.ex e5
    refine ⟨A, L, ts3, _, r, q5, sgOf 0 (unt z), rfl, y4, m3, hk5, sgOf_nd, fun p hp => by have := (sgOf_bd hp).2; omega, hsgl, hd, by omega, by omega, fun H5 ts5 r5 K5' y5 pre5 len5 m5 ev5 => ?_⟩
    have o5 := y5.wf.ok _ m5
    have K5 := (Keep.of (ExtN.of e5)).trans K5'
    have hset : ∀ x : R, x.length = L → Tr.St r5 0 x = (fun x => (allR L).any fun y => S1 y && decide (mput (unt z) y = x)) x := fun x hx => by
      rw [Bool.eq_iff_iff, put_rows hml (y3.wf.ok _ m3) ev5 hx, List.any_eq_true]
      refine exists_congr fun y => ?_
      rw [mem_allR, Bool.and_eq_true, decide_eq_true_iff]
      refine and_congr_right fun hy => ?_
      rw [hset3' y hy]
    have hE := (e1.trans (ExtN.of eb)).trans (keep_ext e2 hf (K3.trans K5))
    exact use_told y5 m5 hset (by omega) hL (by omega) hE k
def spPutBefore (T : List (Addr × Str)) (CT : Addr) (d : Nat) : Sp := fun vs H Q E => ∃ (L : Nat) (q1 : Addr) (S1 : R → Bool) (z : Str), vs = [.int L, .ref q1, .str z] ∧ 1 ≤ L ∧ L ≤ d ∧ L ≤ 16 ∧ Tabs T H ∧ HeadsAt H L d q1 S1 ∧ okRow L "01=" (.str z) = true ∧ AnsE T CT H L (fun x => S1 (mput (unt z) x)) Q E
theorem sc_put_before : FnScope ["width", "heads", "mask", "trees"] ["width", "heads", "mask"] (defScope s_put_before) := ⟨rfl, rfl, rfl, by decide +kernel, rfl, by decide +kernel, by decide +kernel⟩
theorem ok_put_beforeH {f : Addr} {fd : FuncData} (F : FD K s_put_before "put_before" "put_before" f fd) {d : Nat} (hbud : BudC d) (F_check_heads : FnG P w K mg base (d + 6) "check_heads" ["width", "heads"] (spCheckHeads T d)) (F_Trees : MkG P w K mg base "Trees" C 1 ["self", "levels"] (spInit P w T C)) (F_tree_of : FnG P w K mg base (d + 4) "tree_of" ["trees", "patterns"] (spTreeC P w T C d)) {CT : Addr} (F_told_heads : FnG P w K mg base 4 "told_heads" ["trees", "tree"] (spTold P w T C CT)) (F_check_mask : FnG P w K mg base 3 "check_mask" ["width", "mask"] (spCheckRow "01=")) (F_signs_of : FnG P w K mg base 1 "signs_of" ["pattern"] spSignsOf) (M_put_back : MtG P w K mg base C (d + 4) "put_back" ["self", "tree", "signs"] (spPutBack P w T C d)) : FnOk P w K mg base (XC P w) (d + 7) f fd ["width", "heads", "mask"] (spPutBefore T CT d) := by
  refine F.ok sc_put_before (fun vs H Q E h => ?_) (fun cdv A outer s H vs Q E hr h => ?_)
  · obtain ⟨L, q1, S1, z, rfl, _⟩ := h
    rfl
  · refine ⟨_, (pss_cons (ps_expr (pe_fn F_check_heads (hr.mono (by first | omega | decide)) passE0 (pa_cons (pv 0) (pa_cons (pv 1) pa_nil))))
      (pss_cons (ps_expr (pe_fn F_check_mask (hr.mono (by first | omega | decide)) passE0 (pa_cons (pv 0) (pa_cons (pv 2) pa_nil))))
      (pss_cons (ps_set (i := 3) sc_put_before.nd rfl (Or.inl rfl) (pe_mk F_Trees (hr.mono (by first | omega | decide)) passE0 (pa_cons (pv 0) pa_nil)))
      (pss_one (ps_ret (pe_fn F_told_heads (hr.mono (by first | omega | decide)) passE (pa_cons (pv 3) (pa_cons (pe_mt (pv 3) M_put_back (hr.mono (by first | omega | decide)) passE0 (pa_cons (pe_fn F_tree_of (hr.mono (by first | omega | decide)) passE0 (pa_cons (pv 3) (pa_cons (pv 1) pa_nil))) (pa_cons (pe_fn F_signs_of (hr.mono (by first | omega | decide)) passE0 (pa_cons (pv 2) pa_nil)) pa_nil))) pa_nil)))))))), ?_⟩
    try dsimp only [cxOf]
    obtain ⟨L, q1, S1, z, rfl, hL, hd, h16, ht, hq1, hz, k⟩ := h
    have hb := hbud.le
    have hpos := Nat.two_pow_pos d
    have hB : 2 ^ d ≤ B1 d := by unfold B1; omega
    walk_at "sx"
    refine ⟨L, q1, S1, rfl, hL, hd, h16, ht, hq1, fun H1 e1 t1 => ?_⟩
    have g1 := e1 _ _ hq1.1 (fun _ z => by cases z)
    have hzl : z.length = L := by
      rw [okRow_str, Bool.and_eq_true] at hz
      exact of_decide_eq_true hz.1
    have hml : (unt z).length = L := (unt_len z).trans hzl
    refine ⟨L, z, rfl, by omega, hz, fun Hb eb => ?_⟩
    have tb := t1.ext eb
    have gb := eb _ _ g1
    intro p dx hp hdx hne
    refine mk_trees tb hp hdx hne fun A H2 hA e2 hf y => ⟨rfl, ?_⟩
    subst hA
    refine ⟨_, _, y.ins, by rfl, ?_⟩
    refine use_tree_of y (e2 _ _ gb) (fun p hp => pl_len hp) hd (by omega) hq1.2 (costT_sub (fun p hp => hp) hq1.2 h16 hd) (by simp; omega) (by omega) fun H3 ts3 r K3 y3 pre3 len3 m3 hset3 => ?_
    have len3' : ts3.length ≤ 2 + B1 d := len3
    have hset3' : ∀ x : R, x.length = L → Tr.St r 0 x = S1 x := fun x hx => (hset3 x hx).trans (setOf_pl hx)
    have hcp : cPut d (sgOf 0 (unt z)).length ≤ 4 * (d * 2 ^ d) + 16 + 2 ^ d := by
      have h1 := sgOf_len (p := unt z) (k := 0)
      unfold cPut
      omega
    have hsgl : (sgOf 0 (unt z)).length < 64 := by
      have h1 := sgOf_len (p := unt z) (k := 0)
      omega
    refine ⟨z, rfl, by omega, fun q5 H4 hq5 e5 hk5 => ?_⟩
    have y4 := y3.ex e5
    refine ⟨A, L, ts3, _, r, q5, sgOf 0 (unt z), rfl, y4, m3, hk5, sgOf_nd, fun p hp => by have := (sgOf_bd hp).2; omega, hsgl, hd, by omega, by omega, fun H5 ts5 r5 K5' y5 pre5 len5 m5 ev5 => ?_⟩
    have o5 := y5.wf.ok _ m5
    have K5 := (Keep.of (ExtN.of e5)).trans K5'
    have hset : ∀ x : R, x.length = L → Tr.St r5 0 x = (fun x => S1 (mput (unt z) x)) x := fun x hx => by
      rw [before_rows hml (y3.wf.ok _ m3) ev5 hx]
      exact hset3' _ ((mput_len (hml.trans hx.symm)).trans hx)
    have hE := (e1.trans (ExtN.of eb)).trans (keep_ext e2 hf (K3.trans K5))
    exact use_told y5 m5 hset (by omega) hL (by omega) hE k
end
end My
namespace My
open PySem PySem.Spec PyProof.Rows L2 LamX Tr
section
variable {P : Program} {w : World} {K : PySem.W.Frag} {mg : Str → Option Value} {base : Heap} {C : Addr} {T : List (Addr × Str)}
/-- a row as a text -/
def rowS (x : R) : Str := txt (x.map some)
theorem rowS_len (x : R) : (rowS x).length = x.length := by unfold rowS; rw [txt_len, List.length_map]
theorem txt_get {p : Pa} {i : Nat} : (txt p).cps[i]? = p[i]?.map enc := by
  unfold txt
  rw [List.getElem?_toArray, List.getElem?_map]
theorem txt_size (p : Pa) : (txt p).cps.size = p.length := by simp [txt]
def fitB (q : Bool × Option Bool) : Bool := match q.2 with
  | none => true
  | some b => b == q.1
theorem fits_zip : ∀ {p : Pa} {x : R}, p.length = x.length → fits p x = (x.zip p).all fitB
  | [], [], _ => rfl
  | none :: p, c :: x, h => by
    show fits p x = (true && (x.zip p).all fitB)
    rw [fits_zip (show p.length = x.length by simpa using h), Bool.true_and]
  | some b :: p, c :: x, h => by
    show ((b == c) && fits p x) = ((b == c) && (x.zip p).all fitB)
    rw [fits_zip (show p.length = x.length by simpa using h)]
def spFits : Sp := fun vs H Q _ => ∃ (x : R) (p : Pa), vs = [.str (rowS x), .str (txt p)] ∧ p.length = x.length ∧ x.length ≤ 60 ∧ ∀ H', Evl.Ex H H' → Q (.bl (fits p x)) H'
theorem sc_fits : FnScope ["head", "pattern", "sign", "its"] ["head", "pattern"] (defScope s_fits) := ⟨rfl, rfl, rfl, by decide +kernel, rfl, by decide +kernel, by decide +kernel⟩
theorem ok_fits {f : Addr} {fd : FuncData} (F : FD K s_fits "fits" "fits" f fd) (X : HxT mg) : FnOk P w K mg base (XC P w) 1 f fd ["head", "pattern"] spFits := by
  refine F.ok sc_fits (fun vs H Q E h => ?_) (fun cdv A outer s H vs Q E hr h => ?_)
  · obtain ⟨x, p, rfl, _⟩ := h
    rfl
  · refine ⟨_, (pss_one (ps_ret (pe_callB (cr_all rfl) (by rfl) X.b_all (by decide +kernel) (pa_cons (pe_lc (own := [("sign", 2), ("its", 3)]) (g := (gTup K 2 (gCons (gName 2) (gCons (gName 3) gNil)))) rfl sc_fits.nd (pi_zipS (by rfl) X.b_zip (pa_cons (pv 0) (pa_cons (pv 1) pa_nil))) (blkOk_by (own := [("sign", 2), ("its", 3)]) (N := ["head", "pattern", "sign", "its"]) (sc := defScope s_fits) (by decide +kernel)) (fun _ _ _ _ _ => pg_tup (by rfl) (pgs_cons (pg_name (i := 2) sc_fits.nd rfl (Or.inl rfl)) (pgs_cons (pg_name (i := 3) sc_fits.nd rfl (Or.inl rfl)) pgs_nil))) (fun _ _ _ _ _ => pts_nil) (fun _ _ _ _ _ => (pe_or (pe_cmpR op_eq (pv 2) (pv 3) (nomark _)) (pe_one (pe_cmpR op_eq (pv 3) (pe_gstr X.c_ANY) (nomark _)))))) pa_nil)))), ?_⟩
    try dsimp only [cxOf]
    obtain ⟨x, p, rfl, hl, h60, k⟩ := h
    walk_at "sx"
    have hmin : min (rowS x).cps.size (txt p).cps.size = x.length := by
      unfold rowS
      rw [txt_size, txt_size, List.length_map, hl, Nat.min_self]
    refine ⟨_, rfl, _, rfl, rowS x, txt p, rfl, fun D hD => lc_gen (n := x.length) (fun i H' => Evl.Ex H H' ∧ H' D = some (.lst (((x.zip p).take i).map fun q => V.bl (fitB q)))) ⟨Evl.Ex.new hD, upd_same⟩ (fun i H' hi _ => by show i < min _ _; rw [hmin]; exact hi) (fun H' _ => hmin.symm) ?_ ?_⟩
    · rintro i v H' H2 hi ⟨e, hd'⟩ ⟨T', vs, rfl, hT, rfl, c, d, hc, hd, rfl⟩
      unfold rowS at hc
      rw [txt_get, List.getElem?_map] at hc
      rw [txt_get] at hd
      have hx1 : x[i]? = some x[i] := List.getElem?_eq_getElem hi
      have hp1 : p[i]? = some p[i] := List.getElem?_eq_getElem (by omega)
      rw [hx1] at hc
      rw [hp1] at hd
      have hc' := Option.some.inj hc
      have hd2 := Option.some.inj hd
      generalize x[i] = xb at hx1 hc'
      generalize p[i] = pb at hp1 hd2
      subst hc' hd2
      have hnD : D ≠ T' := ne_of_none hd' hT
      have hz : (x.zip p)[i]? = some (xb, pb) := List.getElem?_zip_eq_some.mpr ⟨hx1, hp1⟩
      walk_at "sx"
      refine ⟨_, .of upd_same, rfl, _, _, rfl, _, _, rfl, rfl, rfl, ?_⟩
      have fin : ∀ b : Bool, b = fitB (xb, pb) → ∃ acc, (upd H' T' (.tup [.str ⟨#[enc (some xb)]⟩, .str ⟨#[enc pb]⟩])) D = some (.lst acc) ∧ acc.length < sizeLine ∧ Evl.Ex H (upd (upd H' T' (.tup [.str ⟨#[enc (some xb)]⟩, .str ⟨#[enc pb]⟩])) D (.lst (acc ++ [V.bl b]))) ∧ (upd (upd H' T' (.tup [.str ⟨#[enc (some xb)]⟩, .str ⟨#[enc pb]⟩])) D (.lst (acc ++ [V.bl b]))) D = some (.lst (((x.zip p).take (i + 1)).map fun q => V.bl (fitB q))) := fun b hb => by
        refine ⟨_, by rw [upd_ne hnD]; exact hd', ?_, Evl.Ex.mut (e.trans (Evl.Ex.new hT)) hD, ?_⟩
        · rw [List.length_map, List.length_take]
          exact Nat.lt_of_le_of_lt (show _ ≤ 60 by omega) (by decide)
        · rw [upd_same, List.take_add_one, hz, List.map_append, hb]
          rfl
      have estar : ("*" : Str) = ⟨#[42]⟩ := by decide +kernel
      cases pb with
      | none =>
        rw [if_neg (by cases xb <;> simp [enc])]
        refine ⟨rfl, fin _ ?_⟩
        rw [estar]
        rfl
      | some b =>
        by_cases hb : b = xb
        · rw [if_pos (decide_eq_true (by rw [hb]))]
          exact fin true (by simp [fitB, hb])
        · rw [if_neg (by cases b <;> cases xb <;> simp_all [enc])]
          refine ⟨rfl, fin _ ?_⟩
          rw [estar]
          cases b <;> cases xb <;> simp_all [fitB, enc]
    · rintro H' ⟨e, hd'⟩
      refine ⟨D, rfl, (x.zip p).map fitB, .of ?_, ?_⟩
      · rw [hd', List.take_of_length_le (by simp; omega), List.map_map]
        rfl
      · rw [List.all_map, Function.id_comp, ← fits_zip hl]
        exact k H' e
def spHasHead (T : List (Addr × Str)) (d : Nat) : Sp := fun vs H Q _ => ∃ (L : Nat) (q1 : Addr) (S1 : R → Bool) (x : R), vs = [.int L, .ref q1, .str (rowS x)] ∧ 1 ≤ L ∧ L ≤ d ∧ L ≤ 16 ∧ Tabs T H ∧ HeadsAt H L d q1 S1 ∧ x.length = L ∧ ∀ H', ExtN H H' → Tabs T H' → Q (.bl (S1 x)) H'
theorem sc_has_head : FnScope ["width", "heads", "head", "pattern"] ["width", "heads", "head"] (defScope s_has_head) := ⟨rfl, rfl, rfl, by decide +kernel, rfl, by decide +kernel, by decide +kernel⟩
theorem ok_has_head {f : Addr} {fd : FuncData} (F : FD K s_has_head "has_head" "has_head" f fd) (X : HxT mg) {d : Nat} (F_check_heads : FnG P w K mg base (d + 6) "check_heads" ["width", "heads"] (spCheckHeads T d)) (F_check_head : FnG P w K mg base 3 "check_head" ["width", "head"] (spCheckRow "01")) (F_fits : FnG P w K mg base 1 "fits" ["head", "pattern"] spFits) : FnOk P w K mg base (XC P w) (d + 7) f fd ["width", "heads", "head"] (spHasHead T d) := by
  refine F.ok sc_has_head (fun vs H Q E h => ?_) (fun cdv A outer s H vs Q E hr h => ?_)
  · obtain ⟨L, q1, S1, x, rfl, _⟩ := h
    rfl
  · refine ⟨_, (pss_cons (ps_expr (pe_fn F_check_heads (hr.mono (by first | omega | decide)) passE0 (pa_cons (pv 0) (pa_cons (pv 1) pa_nil))))
      (pss_cons (ps_expr (pe_fn F_check_head (hr.mono (by first | omega | decide)) passE0 (pa_cons (pv 0) (pa_cons (pv 2) pa_nil))))
      (pss_one (ps_ret (pe_callB (cr_any rfl) (by rfl) X.b_any (by decide +kernel) (pa_cons (pe_lc (own := [("pattern", 3)]) (g := (gName 3)) rfl sc_has_head.nd (pi_tup (pv 1)) (blkOk_by (own := [("pattern", 3)]) (N := ["width", "heads", "head", "pattern"]) (sc := defScope s_has_head) (by decide +kernel)) (fun _ _ _ _ _ => pg_name (i := 3) sc_has_head.nd rfl (Or.inl rfl)) (fun _ _ _ _ _ => pts_nil) (fun _ _ _ _ _ => (pe_fn F_fits (hr.mono (by first | omega | decide)) passE0 (pa_cons (pv 2) (pa_cons (pv 3) pa_nil))))) pa_nil)))))), ?_⟩
    try dsimp only [cxOf]
    obtain ⟨L, q1, S1, x, rfl, hL, hd, h16, ht, hq1, hx, k⟩ := h
    walk_at "sx"
    refine ⟨L, q1, S1, rfl, hL, hd, h16, ht, hq1, fun H1 e1 t1 => ?_⟩
    have hxl := rowS_len x
    have g1 := e1 _ _ hq1.1 (fun _ z => by cases z)
    refine ⟨L, _, rfl, by omega, ?_, fun H2 e2 => ?_⟩
    · rw [okRow_str, Bool.and_eq_true]
      refine ⟨decide_eq_true (by omega), List.all_eq_true.mpr fun c hc => ?_⟩
      rw [cps01]
      unfold rowS txt at hc
      simp only [List.map_map, List.mem_map] at hc
      obtain ⟨b, _, rfl⟩ := hc
      cases b <;> decide
    · have g2 := e2 _ _ g1
      refine tLc_tupE (f := fun _ => true) (v := fun y => .bl (fits (decV y) x)) (fun R r => ⟨_, rfl, r⟩) (.of g2) (by rw [List.length_map]; exact Nat.le_trans hq1.2 (by decide)) (fun _ => rfl) (fun y hy H' e R r => r H' (Evl.Ex.refl _)) (fun y hy _ H' e R r => ?_) (fun D H' hD e hd' => ?_)
      · obtain ⟨p, hp, rfl⟩ := List.mem_map.mp hy
        walk_at "sx"
        refine ⟨x, p, rfl, (pl_len hp).trans hx.symm, by omega, fun H3 e3 => ?_⟩
        have h := r H3 e3
        rw [decV_pV] at h
        exact h
      · refine ⟨D, rfl, (pl L S1).map (fun p => fits p x), .of ?_, ?_⟩
        · rw [hd', filter_tt, List.map_map, List.map_map]
          refine congrArg some (congrArg HO.lst (List.map_congr_left fun p _ => ?_))
          show V.bl (fits (decV (pV p)) x) = V.bl (fits p x)
          rw [decV_pV]
        · rw [List.any_map]
          have h := k H' ((e1.trans (ExtN.of e2)).trans (ExtN.of e)) ((t1.ext e2).ext e)
          rw [← setOf_pl (S := S1) hx] at h
          exact h
/-- the least row of a set, or None -/
def LeastV (L : Nat) (S : R → Bool) (v : V) : Prop := (v = .non ∧ ∀ x : R, x.length = L → S x = false) ∨ ∃ x : R, v = .str (rowS x) ∧ x.length = L ∧ S x = true ∧ ∀ y : R, y.length = L → S y = true → lex x y = true
def spHeadOf (P : Program) (w : World) (T : List (Addr × Str)) (C : Addr) : Sp := fun vs H Q _ => ∃ (A : My.TA) (L : Nat) (ts : List Tr.T) (n : Nat) (a : Tr.T), vs = [.ref A.p, ixV ts a] ∧ TreesAt P w T C A L H ts n ∧ a ∈ ts ∧ L ≤ 60 ∧ ∀ v H', Evl.Ex H H' → LeastV L (Tr.St a 0) v → Q v H'
theorem sc_head_of : FnScope ["trees", "tree", "signs", "sign"] ["trees", "tree"] (defScope s_head_of) := ⟨rfl, rfl, rfl, by decide +kernel, rfl, by decide +kernel, by decide +kernel⟩
theorem ok_head_of {f : Addr} {fd : FuncData} (F : FD K s_head_of "head_of" "head_of" f fd) (X : HxT mg) (M_first : MtG P w K mg base C 2 "first" ["self", "tree"] (spFirst P w T C)) : FnOk P w K mg base (XC P w) 3 f fd ["trees", "tree"] (spHeadOf P w T C) := by
  refine F.ok sc_head_of (fun vs H Q E h => ?_) (fun cdv A outer s H vs Q E hr h => ?_)
  · obtain ⟨A, L, ts, n, a, rfl, _⟩ := h
    rfl
  · refine ⟨_, (pss_cons (ps_set (i := 2) sc_head_of.nd rfl (Or.inl rfl) (pe_mt (pv 0) M_first (hr.mono (by first | omega | decide)) passE0 (pa_cons (pv 1) pa_nil)))
      (pss_one (ps_ret (pe_ifExp (pt_cmpR op_isN (pv 2) pe_non (nomark _)) pe_non (pe_join pe_str (pe_lc (own := [("sign", 3)]) (g := (gName 3)) rfl sc_head_of.nd (pi_list (pv 2)) (blkOk_by (own := [("sign", 3)]) (N := ["trees", "tree", "signs", "sign"]) (sc := defScope s_head_of) (by decide +kernel)) (fun _ _ _ _ _ => pg_name (i := 3) sc_head_of.nd rfl (Or.inl rfl)) (fun _ _ _ _ _ => pts_nil) (fun _ _ _ _ _ => (pe_ix ix_str (pe_gstr X.c_SIGNS) (pv 3) (fun _ _ => rfl))))))))), ?_⟩
    try dsimp only [cxOf]
    obtain ⟨A, L, ts, n, a, rfl, x, ha, hl, k⟩ := h
    walk_at "sx"
    refine ⟨_, _, x.ins, by rfl, A, L, ts, n, a, rfl, x, ha, by omega, fun h0 => ?_, fun hn p H1 hp e1 hl1 => ?_⟩
    · show (if decide (V.non = V.non) = true then _ else _)
      rw [if_pos (by simp)]
      exact k _ H (Evl.Ex.refl H) (.inl ⟨rfl, fun y _ => by rw [h0]; rfl⟩)
    · show (if decide (V.ref p = V.non) = true then _ else _)
      rw [if_neg (by simp)]
      have ok := x.wf.ok a ha
      have hfl := fi_length L 0 a
      refine tLc_listV (f := fun _ => true) (v := fun y => .str ⟨#[match y with | .int i => if i = 1 then 49 else 48 | _ => 42]⟩) (fun R r => ⟨_, rfl, r⟩) (.of hl1) (by rw [List.length_map]; exact Nat.le_trans (show _ ≤ 60 by omega) (by decide)) (fun _ => rfl) (fun y hy D acc hD R r => r) (fun y hy _ D acc hD R r => ?_) (fun D hD => ?_)
      · obtain ⟨b, hb, rfl⟩ := List.mem_map.mp hy
        walk_at "sx"
        cases b with
        | false => exact ⟨_, by rfl, by decide, 48, by decide +kernel, r⟩
        | true => exact ⟨_, by rfl, by decide, 49, by decide +kernel, r⟩
      · refine ⟨D, rfl, (fi L 0 a).map (fun b => ⟨#[enc (some b)]⟩), .inl (.of ?_), ?_, ?_⟩
        · rw [upd_same, filter_tt, List.map_map, List.map_map]
          refine congrArg some (congrArg HO.lst (List.map_congr_left fun b _ => ?_))
          cases b <;> rfl
        · rw [List.map_map]
          have h1 : ∀ l : List Bool, (l.map ((fun x => x.length) ∘ fun b => (⟨#[enc (some b)]⟩ : Str))).sum = l.length := fun l => by
            induction l with
            | nil => rfl
            | cons o p ih => simp only [List.map_cons, List.sum_cons, List.length_cons, ih]; show 1 + p.length = p.length + 1; omega
          rw [h1, List.length_map, hfl, show ("" : Str).length = 0 by decide +kernel]
          omega
        · have e : (fi L 0 a).map (fun b => (⟨#[enc (some b)]⟩ : Str)) = ((fi L 0 a).map some).map fun o => (⟨#[enc o]⟩ : Str) := by rw [List.map_map]; rfl
          rw [e, join_txt]
          refine k _ _ (e1.trans (Evl.Ex.new hD)) (.inr ⟨fi L 0 a, rfl, hfl, fi_in ok (Nat.zero_add L) hn, fun y hy hs => fi_least ok (Nat.zero_add L) hy hs⟩)
def spLeast (T : List (Addr × Str)) (d : Nat) : Sp := fun vs H Q _ => ∃ (L : Nat) (q1 : Addr) (S1 : R → Bool), vs = [.int L, .ref q1] ∧ 1 ≤ L ∧ L ≤ d ∧ L ≤ 16 ∧ Tabs T H ∧ HeadsAt H L d q1 S1 ∧ ∀ v H', ExtN H H' → Tabs T H' → LeastV L S1 v → Q v H'
theorem sc_least_head : FnScope ["width", "heads", "trees"] ["width", "heads"] (defScope s_least_head) := ⟨rfl, rfl, rfl, by decide +kernel, rfl, by decide +kernel, by decide +kernel⟩
theorem ok_least_head {f : Addr} {fd : FuncData} (F : FD K s_least_head "least_head" "least_head" f fd) {d : Nat} (hbud : BudC d) (F_check_heads : FnG P w K mg base (d + 6) "check_heads" ["width", "heads"] (spCheckHeads T d)) (F_Trees : MkG P w K mg base "Trees" C 1 ["self", "levels"] (spInit P w T C)) (F_tree_of : FnG P w K mg base (d + 4) "tree_of" ["trees", "patterns"] (spTreeC P w T C d)) (F_head_of : FnG P w K mg base 3 "head_of" ["trees", "tree"] (spHeadOf P w T C)) : FnOk P w K mg base (XC P w) (d + 7) f fd ["width", "heads"] (spLeast T d) := by
  refine F.ok sc_least_head (fun vs H Q E h => ?_) (fun cdv A outer s H vs Q E hr h => ?_)
  · obtain ⟨L, q1, S1, rfl, _⟩ := h
    rfl
  · refine ⟨_, (pss_cons (ps_expr (pe_fn F_check_heads (hr.mono (by first | omega | decide)) passE0 (pa_cons (pv 0) (pa_cons (pv 1) pa_nil))))
      (pss_cons (ps_set (i := 2) sc_least_head.nd rfl (Or.inl rfl) (pe_mk F_Trees (hr.mono (by first | omega | decide)) passE0 (pa_cons (pv 0) pa_nil)))
      (pss_one (ps_ret (pe_fn F_head_of (hr.mono (by first | omega | decide)) passE0 (pa_cons (pv 2) (pa_cons (pe_fn F_tree_of (hr.mono (by first | omega | decide)) passE0 (pa_cons (pv 2) (pa_cons (pv 1) pa_nil))) pa_nil))))))), ?_⟩
    try dsimp only [cxOf]
    obtain ⟨L, q1, S1, rfl, hL, hd, h16, ht, hq1, k⟩ := h
    have hb := hbud.le
    walk_at "sx"
    refine ⟨L, q1, S1, rfl, hL, hd, h16, ht, hq1, fun H1 e1 t1 => ?_⟩
    have g1 := e1 _ _ hq1.1 (fun _ z => by cases z)
    intro p dx hp hdx hne
    refine mk_trees t1 hp hdx hne fun A H2 hA e2 hf y => ⟨rfl, ?_⟩
    subst hA
    refine use_tree_of y (e2 _ _ g1) (fun p hp => pl_len hp) hd (by omega) hq1.2 (costT_sub (fun p hp => hp) hq1.2 h16 hd) (by simp; omega) (by omega) fun H3 ts3 r K3 y3 pre3 len3 m3 hset3 => ?_
    have hset3' : ∀ x : R, x.length = L → Tr.St r 0 x = S1 x := fun x hx => (hset3 x hx).trans (setOf_pl hx)
    refine ⟨A, L, ts3, _, r, rfl, y3, m3, by omega, fun v H4 e4 hv => ?_⟩
    refine k v H4 ((e1.trans (keep_ext e2 hf K3)).trans (ExtN.of e4)) (y3.ex e4).tab ?_
    rcases hv with ⟨rfl, h⟩ | ⟨x, rfl, hx, h1, h2⟩
    · exact .inl ⟨rfl, fun x hx => (hset3' x hx).symm.trans (h x hx)⟩
    · exact .inr ⟨x, rfl, hx, (hset3' x hx).symm.trans h1, fun y hy hs => h2 y hy ((hset3' y hy).trans hs)⟩
end
end My
namespace My
open PySem PySem.Spec PyProof.Rows L2 LamX Tr
/-- what the module has of the names that the law's own defs use -/
structure LxT (mg : Str → Option Value) : Prop where
  b_int : mg "int" = none
  b_len : mg "len" = none
  b_range : mg "range" = none
  b_tuple : mg "tuple" = none
  b_all : mg "all" = none
  b_any : mg "any" = none
  b_zip : mg "zip" = none
  b_dict : mg "dict" = none
  b_list : mg "list" = none
  b_isinstance : mg "isinstance" = none
  b_str : mg "str" = none
  b_abs : mg "abs" = none
  b_max : mg "max" = none
  b_min : mg "min" = none
  b_repr : mg "repr" = none
  b_sorted : mg "sorted" = none
/-- the three numbers of a pot; it can be drawn from n times -/
def PotOk (a b c : Int) (n : Nat) : Prop := 0 ≤ a ∧ a < 10 ^ 300 ∧ 0 ≤ b ∧ b < 2305843009213693952 ∧ 0 ≤ c ∧ c + n ≤ 1000000
def potL (a b c : Int) : HO := .lst [.int a, .int b, .int c]
section
variable {P : Program} {w : World} {K : PySem.W.Frag} {mg : Str → Option Value} {base : Heap} {C : Addr} {T : List (Addr × Str)}
/-- all but the object at p stays -/
def Kp (p : Addr) (H H' : Hp) : Prop := ∀ b o, b ≠ p → H b = some o → H' b = some o
def PotIn (p : Addr) (n : Nat) (H : Hp) : Prop := ∃ a b c, H p = some (potL a b c) ∧ PotOk a b c n
theorem Kp.refl (p : Addr) (H : Hp) : Kp p H H := fun _ _ _ h => h
theorem Kp.trans {p : Addr} {H H1 H2 : Hp} (a : Kp p H H1) (b : Kp p H1 H2) : Kp p H H2 := fun c o n h => b c o n (a c o n h)
theorem Kp.sub {p : Addr} {H H' : Hp} (h : ∀ b o, H b = some o → H' b = some o) : Kp p H H' := fun b o _ e => h b o e
theorem Kp.mut {p q : Addr} {o : HO} {H H' : Hp} (a : Kp p H H') (h : q = p ∨ H q = none) : Kp p H (upd H' q o) := fun b u n e => by
  have hb : b ≠ q := by
    rcases h with h | h
    · rw [h]; exact n
    · intro z; rw [z, h] at e; cases e
  rw [upd_ne hb]
  exact a b u n e
theorem Kp.new {p q : Addr} {o : HO} {H H' : Hp} (a : Kp p H H') (h : H' q = none) (hp : H' p ≠ none) : Kp p H (upd H' q o) := fun b u n e => by
  have hb : b ≠ q := by
    intro z
    have := a b u n e
    rw [z, h] at this
    cases this
  rw [upd_ne hb]
  exact a b u n e
theorem PotIn.ne {p : Addr} {n : Nat} {H : Hp} (h : PotIn p n H) : H p ≠ none := by
  obtain ⟨a, b, c, e, _⟩ := h
  rw [e]
  intro z
  cases z
def spTake : Sp := fun vs H Q _ => ∃ (p : Addr) (u n : Nat), vs = [.ref p, .int u] ∧ 1 ≤ u ∧ u ≤ 1000000 ∧ PotIn p (n + 1) H ∧
  ∀ (i : Nat) (H' : Hp), i < u → PotIn p n H' → Kp p H H' → Q (.int i) H'
theorem prime_ex (j : Int) : ∃ q : Int, atI [V.int 2147483647, V.int 2147483629, V.int 2147483587, V.int 2147483579, V.int 2147483563] (j % 5) = some (.int q) ∧ 0 < q := by
  have h1 := Int.emod_nonneg j (show (5 : Int) ≠ 0 by decide)
  have h2 := Int.emod_lt_of_pos j (show (0 : Int) < 5 by decide)
  generalize j % 5 = k at h1 h2
  have : k = 0 ∨ k = 1 ∨ k = 2 ∨ k = 3 ∨ k = 4 := by omega
  rcases this with rfl | rfl | rfl | rfl | rfl
  · exact ⟨_, rfl, by decide⟩
  · exact ⟨_, rfl, by decide⟩
  · exact ⟨_, rfl, by decide⟩
  · exact ⟨_, rfl, by decide⟩
  · exact ⟨_, rfl, by decide⟩
theorem sc__law_take : FnScope ["pot", "upto", "digit", "prime", "made"] ["pot", "upto"] (defScope s__law_take) := ⟨rfl, rfl, rfl, by decide +kernel, rfl, by decide +kernel, by decide +kernel⟩
theorem ok_take {f : Addr} {fd : FuncData} (F : FD K s__law_take "_law_take" "_law_take" f fd) (X : LxT mg) : FnOk P w K mg base (XC P w) 1 f fd ["pot", "upto"] spTake := by
  refine F.ok sc__law_take (fun vs H Q E h => ?_) (fun cdv A outer s H vs Q E hr h => ?_)
  · obtain ⟨p, u, n, rfl, _⟩ := h
    rfl
  · refine ⟨_, (pss_cons (ps_if (pt_cmpR op_gt (pe_ix ix_list (pv 0) pe_int (fun _ _ => rfl)) pe_int (nomark _)) (pss_cons (ps_set (i := 2) sc__law_take.nd rfl (Or.inl rfl) (pe_op op_mod (pe_callTy call_intI (by rfl) X.b_int (by decide +kernel) (pa_cons (pe_ix ix_list (pv 0) pe_int (fun _ _ => rfl)) pa_nil)) (pv 1)))
      (pss_cons (ps_asg (pe_op op_fdiv (pe_ix ix_list (pv 0) pe_int (fun _ _ => rfl)) (pv 1)) (pg_sub (pv 0) pe_int set_list))
      (pss_one (ps_ret (pv 2))))) pss_nil)
      (pss_cons (ps_asg (pe_op op_add (pe_ix ix_list (pv 0) pe_int (fun _ _ => rfl)) pe_int) (pg_sub (pv 0) pe_int set_list))
      (pss_cons (ps_set (i := 3) sc__law_take.nd rfl (Or.inl rfl) (pe_ix ix_list (pe_lst (pa_cons pe_int (pa_cons pe_int (pa_cons pe_int (pa_cons pe_int (pa_cons pe_int pa_nil)))))) (pe_op op_mod (pe_callTy call_intI (by rfl) X.b_int (by decide +kernel) (pa_cons (pe_ix ix_list (pv 0) pe_int (fun _ _ => rfl)) pa_nil)) pe_int) (fun _ _ => rfl)))
      (pss_cons (ps_set (i := 4) sc__law_take.nd rfl (Or.inl rfl) (pe_op op_mod (pe_callTy call_intI (by rfl) X.b_int (by decide +kernel) (pa_cons (pe_op op_pow (pe_op op_add (pe_op op_add (pe_ix ix_list (pv 0) pe_int (fun _ _ => rfl)) (pe_op op_mul (pe_op op_mul pe_int (pe_ix ix_list (pv 0) pe_int (fun _ _ => rfl))) (pe_ix ix_list (pv 0) pe_int (fun _ _ => rfl)))) pe_int) pe_int) pa_nil)) (pv 3)))
      (pss_cons (ps_set (i := 4) sc__law_take.nd rfl (Or.inl rfl) (pe_op op_mod (pe_callTy call_intI (by rfl) X.b_int (by decide +kernel) (pa_cons (pe_op op_mul (pv 4) (pe_op op_add (pe_op op_mod (pe_callTy call_intI (by rfl) X.b_int (by decide +kernel) (pa_cons (pv 4) pa_nil)) pe_int) (pe_op op_mul pe_int (pe_ix ix_list (pv 0) pe_int (fun _ _ => rfl))))) pa_nil)) pe_int))
      (pss_one (ps_ret (pe_op op_mod (pe_callTy call_intI (by rfl) X.b_int (by decide +kernel) (pa_cons (pe_op op_fdiv (pv 4) pe_int) pa_nil)) (pv 1))))))))), ?_⟩
    try dsimp only [cxOf]
    obtain ⟨p, u, n, rfl, hu1, hu2, ⟨a, b, c, hp, ha0, ha1, hb0, hb1, hc0, hc1⟩, k⟩ := h
    unfold potL at hp
    walk_at "sx"
    refine ⟨_, .of hp, _, rfl, _, rfl, ?_⟩
    have hP : ∀ (a b c : Int), 0 ≤ a → a < 10 ^ 300 → 0 ≤ c → c + n ≤ 1000000 → 0 ≤ b → b < 2305843009213693952 → PotIn p n (upd H p (.lst [.int a, .int b, .int c])) := fun a b c h1 h2 h3 h4 h5 h6 => ⟨a, b, c, upd_same, h1, h2, h5, h6, h3, h4⟩
    split
    · rename_i hpos
      have hpos := of_decide_eq_true hpos
      refine ⟨_, .of hp, _, rfl, _, rfl, by omega, _, .of hp, _, rfl, _, rfl, ?_, _, hp, _, rfl, ?_⟩
      · exact ⟨by omega, by omega⟩
      · have e : a % (u : Int) = ((a % (u : Int)).toNat : Int) := (Int.toNat_of_nonneg (Int.emod_nonneg _ (by omega))).symm
        rw [e]
        refine k _ _ ?_ (hP _ _ _ ?_ ?_ hc0 (by push_cast at hc1; omega) hb0 hb1) ((Kp.refl p H).mut (.inl rfl))
        · have := Int.emod_lt_of_pos a (show (0 : Int) < u by omega)
          omega
        · exact Int.ediv_nonneg ha0 (by omega)
        · exact Int.lt_of_le_of_lt (Int.ediv_le_self _ ha0) ha1
    · refine ⟨_, .of hp, _, rfl, _, rfl, _, hp, _, rfl, by decide, fun p1 hp1 => ?_⟩
      have hne : p ≠ p1 := by
        intro z
        rw [← z, upd_same] at hp1
        cases hp1
      have g : upd (upd H p (HO.lst (List.set [V.int a, V.int b, V.int c] 2 (V.int (c + 1))))) p1 (HO.lst [V.int 2147483647, V.int 2147483629, V.int 2147483587, V.int 2147483579, V.int 2147483563]) p = some (.lst [.int a, .int b, .int (c + 1)]) := by
        rw [upd_ne hne]
        exact upd_same
      obtain ⟨pr, hpr, hp0⟩ := prime_ex (c + 1)
      have hcc : (c + 1) * (c + 1) ≤ 1000000 * 1000000 := Int.mul_le_mul (by push_cast at hc1; omega) (by push_cast at hc1; omega) (by omega) (by omega)
      have hcc0 : 0 ≤ (c + 1) * (c + 1) := Int.mul_nonneg (by omega) (by omega)
      have hca : 97187 * (c + 1) * (c + 1) = 97187 * ((c + 1) * (c + 1)) := Int.mul_assoc _ _ _
      have hc2 : c + 1 ≤ 1000000 := by push_cast at hc1; omega
      refine ⟨_, .of g, _, rfl, _, rfl, by decide, _, .of upd_same, _, hpr, _, .of g, _, rfl, _, .of g, _, rfl, _, rfl, .inl ⟨by decide, by decide⟩, _, .of g, _, rfl, _, rfl, .inr ⟨by omega, by omega⟩, _, rfl, ⟨by decide, by decide, ?_⟩, _, rfl, hp0, by decide, _, .of g, _, rfl, _, rfl, .inl ⟨by decide, by decide⟩, ?_⟩
      · rw [hca]
        omega
      generalize (b + 97187 * (c + 1) * (c + 1) + 47) ^ Int.toNat 3 % pr = m1
      have hm1 := Int.emod_nonneg m1 (show (10159 : Int) ≠ 0 by decide)
      have hm2 := Int.emod_lt_of_pos m1 (show (0 : Int) < 10159 by decide)
      generalize m1 * (m1 % 10159 + 101 * (c + 1)) % 2305843009213693907 / 107 = m2
      refine ⟨.inr ⟨by omega, by omega⟩, by decide, ⟨by decide, by decide⟩, by omega, ?_⟩
      have e : m2 % (u : Int) = ((m2 % (u : Int)).toNat : Int) := (Int.toNat_of_nonneg (Int.emod_nonneg _ (by omega))).symm
      rw [e]
      refine k _ _ ?_ ⟨a, b, c + 1, g, ha0, ha1, hb0, hb1, by omega, by push_cast at hc1; omega⟩ (((Kp.refl p H).mut (.inl rfl)).new hp1 ?_)
      · have := Int.emod_lt_of_pos m2 (show (0 : Int) < u by omega)
        omega
      · rw [upd_same]
        intro z
        cases z
end
end My
namespace My
open PySem PySem.Spec PyProof.Rows L2 LamX Tr
section
variable {P : Program} {w : World} {K : PySem.W.Frag} {mg : Str → Option Value} {base : Heap} {C : Addr} {T : List (Addr × Str)}
/-- a sequence that writing the pot at p leaves alone -/
def SeqK (K : PySem.W.Frag) (p : Addr) (H : Hp) (x : V) (xs : List V) : Prop := SeqV K H x xs ∧ x ≠ .ref p
theorem Kp.sq {p q : Addr} {H H' : Hp} {xs : List V} (k : Kp p H H') (h : SqL K H q xs) (n : q ≠ p) : SqL K H' q xs := by
  rcases h with h | h
  · rcases h with h | ⟨o, h⟩
    · exact .inl (.inl (k _ _ n h))
    · exact .inl (.inr ⟨o, k _ _ n h⟩)
  · exact .inr h
theorem SeqK.kp {p : Addr} {H H' : Hp} {x : V} {xs : List V} (h : SeqK K p H x xs) (k : Kp p H H') : SeqK K p H' x xs := by
  obtain ⟨h, n⟩ := h
  refine ⟨?_, n⟩
  rcases h with ⟨q, rfl, h⟩ | h
  · exact .inl ⟨q, rfl, k.sq h (fun z => n (by rw [z]))⟩
  · exact .inr h
def spOf (K : PySem.W.Frag) : Sp := fun vs H Q _ => ∃ (p : Addr) (x : V) (xs : List V) (n : Nat), vs = [.ref p, x] ∧ SeqK K p H x xs ∧ 1 ≤ xs.length ∧ xs.length ≤ 1000000 ∧ PotIn p (n + 1) H ∧
  ∀ (v : V) (H' : Hp), v ∈ xs → PotIn p n H' → Kp p H H' → Q v H'
theorem sc__law_of : FnScope ["pot", "some"] ["pot", "some"] (defScope s__law_of) := ⟨rfl, rfl, rfl, by decide +kernel, rfl, by decide +kernel, by decide +kernel⟩
theorem ok_of {f : Addr} {fd : FuncData} (F : FD K s__law_of "_law_of" "_law_of" f fd) (X : LxT mg) (F__law_take : FnG P w K mg base 1 "_law_take" ["pot", "upto"] spTake) : FnOk P w K mg base (XC P w) 2 f fd ["pot", "some"] (spOf K) := by
  refine F.ok sc__law_of (fun vs H Q E h => ?_) (fun cdv A outer s H vs Q E hr h => ?_)
  · obtain ⟨p, x, xs, n, rfl, _⟩ := h
    rfl
  · refine ⟨_, (pss_one (ps_ret (pe_ix ix_ls (pv 1) (pe_fn F__law_take (hr.mono (by first | omega | decide)) passE0 (pa_cons (pv 0) (pa_cons (pe_callB call_len (by rfl) X.b_len PySem.boot_len (pa_cons (pv 1) pa_nil)) pa_nil))) (fun _ _ => rfl)))), ?_⟩
    try dsimp only [cxOf]
    obtain ⟨p, x, xs, n, rfl, hx, h1, h2, hp, k⟩ := h
    walk_at "sx"
    refine ⟨xs.length, hx.1.len, p, xs.length, n, rfl, h1, h2, hp, fun i H' hi hp' kp => ?_⟩
    obtain ⟨v, hv⟩ : ∃ v, xs[i]? = some v := ⟨_, List.getElem?_eq_getElem hi⟩
    exact ⟨xs, i, rfl, (hx.kp kp).1, v, hv, k v H' (List.mem_of_getElem? hv) hp' kp⟩
theorem PotIn.mut {p D : Addr} {o : HO} {n : Nat} {H : Hp} (h : PotIn p n H) (e : D ≠ p) : PotIn p n (upd H D o) := by
  obtain ⟨a, b, c, h, r⟩ := h
  exact ⟨a, b, c, by rw [upd_ne (Ne.symm e)]; exact h, r⟩
theorem PotIn.new {p D : Addr} {o : HO} {n : Nat} {H : Hp} (h : PotIn p n H) (e : H D = none) : PotIn p n (upd H D o) := h.mut fun z => h.ne (by rw [← z]; exact e)
theorem PotIn.le {p : Addr} {m n : Nat} {H : Hp} (h : PotIn p n H) (e : m ≤ n) : PotIn p m H := by
  obtain ⟨a, b, c, h, h1, h2, h3, h4, h5, h6⟩ := h
  exact ⟨a, b, c, h, h1, h2, h3, h4, h5, by omega⟩
/-- all but the objects at p and D stays -/
def Kp2 (p D : Addr) (H H' : Hp) : Prop := ∀ b o, b ≠ p → b ≠ D → H b = some o → H' b = some o
/-- what follows when the range's bound is known -/
def RngK (g : TG) (tt : TT) (te : TE) (vs : List Nat) (σ : L2.St) (Q : VK) : List V → Hp → Prop := fun xs H1 => ∃ j : Int, xs = [.int j] ∧ -(2 ^ 62) ≤ j ∧ j < 2 ^ 62 ∧ tLc (fun _ H R => R (Itr 0 j.toNat) H) g tt te vs σ H1 Q
theorem tLc_rngK {tl : L2.TA} {g : TG} {tt : TT} {te : TE} {vs : List Nat} {σ : L2.St} {H : Hp} {Q : VK} (h : tl σ H (RngK g tt te vs σ Q)) : tLc (iRng1 tl) g tt te vs σ H Q := h
/-- a list of things made by draws -/
theorem rngP {p : Addr} {m n k : Nat} {j : Nat} {te : TE} {σ : L2.St} {H : Hp} {Q : VK} (G : Addr → V → Hp → Prop) (hG : ∀ D y H1 H2, Kp2 p D H1 H2 → G D y H1 → G D y H2)
    (hn : n ≤ 1000000) (hp : PotIn p (m + n * k) H) (hw : ∀ x, wipe ((wipe σ [j]).set j (some x)) [j] = wipe σ [j])
    (he : ∀ (i : Nat) (m' : Nat) (H' : Hp) (D : Addr), i < n → H D = none → D ≠ p → (∃ acc, H' D = some (.lst acc)) → Kp p H H' → PotIn p (m' + k) H' → ∀ R : VK, (∀ y H2, PotIn p m' H2 → Kp p H' H2 → G D y H2 → R y H2) → te ((wipe σ [j]).set j (some (.int i))) H' R)
    (hQ : ∀ D H' ys, H D = none → D ≠ p → Kp p H H' → PotIn p m H' → ys.length = n → (∀ y ∈ ys, G D y H') → H' D = some (.lst ys) → Q (.ref D) H') : RngK (gName j) tYes te [j] σ Q [.int (n : Int)] H := by
  refine ⟨n, rfl, by omega, by omega, fun D hD => ?_⟩
  have hDp : D ≠ p := fun z => hp.ne (by rw [← z]; exact hD)
  refine lc_range (n := n) (lo := 0) (fun i H' => i ≤ n ∧ Kp p H H' ∧ PotIn p (m + (n - i) * k) H' ∧ ∃ ys, ys.length = i ∧ (∀ y ∈ ys, G D y H') ∧ H' D = some (.lst ys)) ⟨Nat.zero_le _, (Kp.refl p H).new hD hp.ne, hp.new hD, [], rfl, by simp, upd_same⟩ ?_ ?_
  · rintro i H' hi ⟨_, kp, pi, ys, hl, hg, hd⟩
    refine ⟨hw _, ?_⟩
    unfold L2.tYes
    dsimp only
    rw [if_pos rfl, Int.zero_add]
    have e : m + (n - i) * k = (m + (n - (i + 1)) * k) + k := by
      have : n - i = (n - (i + 1)) + 1 := by omega
      rw [this, Nat.add_mul, Nat.one_mul, Nat.add_assoc]
    rw [e] at pi
    refine he i _ H' D hi hD hDp ⟨ys, hd⟩ kp pi _ fun y H2 p2 k2 g2 => ⟨ys, k2 _ _ hDp hd, ?_, hi, ?_, ?_, ys ++ [y], by simp [hl], ?_, upd_same⟩
    · exact Nat.lt_of_lt_of_le (show _ < 1000000 by omega) (by decide)
    · exact (kp.trans k2).mut (.inr hD)
    · exact p2.mut hDp
    · intro z hz
      rcases List.mem_append.mp hz with hz | hz
      · exact hG D z H' _ (fun b o n1 n2 e => by rw [upd_ne n2]; exact k2 b o n1 e) (hg z hz)
      · rw [List.mem_singleton.mp hz]
        exact hG D y H2 _ (fun b o n1 n2 e => by rw [upd_ne n2]; exact e) g2
  · rintro H' ⟨_, kp, pi, ys, hl, hg, hd⟩
    refine hQ D H' ys hD hDp kp (by simpa using pi) hl hg hd
/-- a text of signs of sg -/
theorem chars_of {sg : Str} : ∀ (ys : List V), (∀ y ∈ ys, ∃ c, y = .str ⟨#[c]⟩ ∧ c ∈ sg.cps.toList) → ∃ cs : List Nat, ys = cs.map (fun c => V.str ⟨#[c]⟩) ∧ ∀ c ∈ cs, c ∈ sg.cps.toList
  | [], _ => ⟨[], rfl, by simp⟩
  | y :: ys, h => by
    obtain ⟨cs, rfl, hcs⟩ := chars_of ys fun z hz => h z (List.mem_cons_of_mem _ hz)
    obtain ⟨c, rfl, hc⟩ := h y (List.mem_cons_self ..)
    refine ⟨c :: cs, rfl, fun d hd => ?_⟩
    rcases List.mem_cons.mp hd with rfl | hd
    · exact hc
    · exact hcs d hd
theorem join_chars (cs : List Nat) : Txt.join ("" : Str) (cs.map fun c => (⟨#[c]⟩ : Str)) = ⟨cs.toArray⟩ := by
  have e : (cs.map fun c => (⟨#[c]⟩ : Str)) = PyProof.Rows.signs ⟨cs.toArray⟩ := by
    unfold PyProof.Rows.signs
    rfl
  have e2 : ("" : Str) = ⟨#[]⟩ := by decide +kernel
  rw [TL.join_eq, e, e2]
  exact PyProof.Rows.join_nil_signs _
theorem sum_ones : ∀ (cs : List Nat), (cs.map fun c => (⟨#[c]⟩ : Str).length).sum = cs.length
  | [] => rfl
  | c :: cs => by rw [List.map_cons, List.sum_cons, sum_ones cs, List.length_cons]; show 1 + cs.length = _; omega
def spRowL : Sp := fun vs H Q _ => ∃ (p : Addr) (L : Nat) (sg : Str) (n : Nat), vs = [.ref p, .int L, .str sg] ∧ L ≤ 60 ∧ 1 ≤ sg.length ∧ sg.length ≤ 1000 ∧ PotIn p (n + L) H ∧
  ∀ (cs : List Nat) (H' : Hp), cs.length = L → (∀ c ∈ cs, c ∈ sg.cps.toList) → PotIn p n H' → Kp p H H' → Q (.str ⟨cs.toArray⟩) H'
theorem sc__law_row : FnScope ["pot", "width", "signs", "place"] ["pot", "width", "signs"] (defScope s__law_row) := ⟨rfl, rfl, rfl, by decide +kernel, rfl, by decide +kernel, by decide +kernel⟩
theorem ok_rowL {f : Addr} {fd : FuncData} (F : FD K s__law_row "_law_row" "_law_row" f fd) (X : LxT mg) (F__law_of : FnG P w K mg base 2 "_law_of" ["pot", "some"] (spOf K)) : FnOk P w K mg base (XC P w) 3 f fd ["pot", "width", "signs"] spRowL := by
  refine F.ok sc__law_row (fun vs H Q E h => ?_) (fun cdv A outer s H vs Q E hr h => ?_)
  · obtain ⟨p, L, sg, n, rfl, _⟩ := h
    rfl
  · refine ⟨_, (pss_one (ps_ret (pe_join pe_str (pe_lc (own := [("place", 3)]) (g := (gName 3)) rfl sc__law_row.nd (pi_range1 (by rfl) X.b_range (pa_cons (pv 1) pa_nil)) (blkOk_by (own := [("place", 3)]) (N := ["pot", "width", "signs", "place"]) (sc := defScope s__law_row) (by decide +kernel)) (fun _ _ _ _ _ => pg_name (i := 3) sc__law_row.nd rfl (Or.inl rfl)) (fun _ _ _ _ _ => pts_nil) (fun _ _ _ _ _ => (pe_fn F__law_of (hr.mono (by first | omega | decide)) passE0 (pa_cons (pv 0) (pa_cons (pv 2) pa_nil)))))))), ?_⟩
    try dsimp only [cxOf]
    obtain ⟨p, L, sg, n, rfl, hL, h1, h2, hp, k⟩ := h
    walk_at "sx"
    refine tLc_rngK ?_
    walk_at "sx"
    refine rngP (p := p) (m := n) (n := L) (k := 1) (fun _ y _ => ∃ c, y = .str ⟨#[c]⟩ ∧ c ∈ sg.cps.toList) (fun _ _ _ _ _ h => h) (by omega) (by rw [Nat.mul_one]; exact hp) (fun _ => rfl) ?_ ?_
    · intro i m' H' D hi hD hDp hac kp pi R r
      walk_at "sx"
      refine ⟨p, _, _, m', rfl, ⟨.inr ⟨sg, rfl, Nat.le_trans h2 (by decide), rfl⟩, fun z => by cases z⟩, ?_, ?_, pi, ?_⟩
      · rw [chV_len]; exact h1
      · rw [chV_len]; omega
      · intro v H2 hv p2 k2
        refine r v H2 p2 k2 ?_
        obtain ⟨c, hc, rfl⟩ := List.mem_map.mp hv
        exact ⟨c, rfl, hc⟩
    · intro D H' ys hD hDp kp pi hl hg hd
      obtain ⟨cs, rfl, hcs⟩ := chars_of ys hg
      refine ⟨D, rfl, cs.map fun c => ⟨#[c]⟩, .inl (.of (by rw [hd, List.map_map]; rfl)), ?_, ?_⟩
      · rw [List.map_map]
        have h1 := sum_ones cs
        rw [List.length_map] at hl
        have h2 : ((cs.map ((fun x => x.length) ∘ fun c => (⟨#[c]⟩ : Str))).sum) = cs.length := h1
        rw [h2, List.length_map, show ("" : Str).length = 0 by decide +kernel]
        omega
      · rw [join_chars]
        exact k cs H' (by simpa using hl) hcs pi kp
end
end My
namespace My
open PySem PySem.Spec PyProof.Rows L2 LamX Tr
section
variable {P : Program} {w : World} {K : PySem.W.Frag} {mg : Str → Option Value} {base : Heap} {C : Addr} {T : List (Addr × Str)}
def signs3 : List V := [.str "01*", .str "01**", .str "0011*"]
theorem signs3_str {v : V} (h : v ∈ signs3) : ∃ sg : Str, v = .str sg ∧ 1 ≤ sg.length ∧ sg.length ≤ 1000 ∧ ∀ c ∈ sg.cps.toList, c = 48 ∨ c = 49 ∨ c = 42 := by
  unfold signs3 at h
  simp only [List.mem_cons, List.not_mem_nil, or_false] at h
  have e1 : ("01*" : Str).cps.toList = [48, 49, 42] := by decide +kernel
  have e2 : ("01**" : Str).cps.toList = [48, 49, 42, 42] := by decide +kernel
  have e3 : ("0011*" : Str).cps.toList = [48, 48, 49, 49, 42] := by decide +kernel
  rcases h with rfl | rfl | rfl
  · exact ⟨_, rfl, by decide +kernel, by decide +kernel, fun c hc => by rw [e1] at hc; simp at hc; omega⟩
  · exact ⟨_, rfl, by decide +kernel, by decide +kernel, fun c hc => by rw [e2] at hc; simp at hc; omega⟩
  · exact ⟨_, rfl, by decide +kernel, by decide +kernel, fun c hc => by rw [e3] at hc; simp at hc; omega⟩
theorem pa_of : ∀ (cs : List Nat), (∀ c ∈ cs, c = 48 ∨ c = 49 ∨ c = 42) → ∃ pa : Pa, V.str ⟨cs.toArray⟩ = pV pa ∧ pa.length = cs.length := by
  intro cs h
  have : ∃ pa : Pa, pa.map enc = cs := by
    induction cs with
    | nil => exact ⟨[], rfl⟩
    | cons c cs ih =>
      obtain ⟨pa, e⟩ := ih fun d hd => h d (List.mem_cons_of_mem _ hd)
      rcases h c (List.mem_cons_self ..) with rfl | rfl | rfl
      · exact ⟨some false :: pa, by rw [List.map_cons, e]; rfl⟩
      · exact ⟨some true :: pa, by rw [List.map_cons, e]; rfl⟩
      · exact ⟨none :: pa, by rw [List.map_cons, e]; rfl⟩
  obtain ⟨pa, rfl⟩ := this
  exact ⟨pa, rfl, by rw [List.length_map]⟩
theorem pas_of {L : Nat} : ∀ (ys : List V), (∀ y ∈ ys, ∃ pa : Pa, y = pV pa ∧ pa.length = L) → ∃ ps : List Pa, ys = ps.map pV ∧ ∀ x ∈ ps, x.length = L
  | [], _ => ⟨[], rfl, by simp⟩
  | y :: ys, h => by
    obtain ⟨ps, rfl, hps⟩ := pas_of ys fun z hz => h z (List.mem_cons_of_mem _ hz)
    obtain ⟨c, rfl, hc⟩ := h y (List.mem_cons_self ..)
    refine ⟨c :: ps, rfl, fun d hd => ?_⟩
    rcases List.mem_cons.mp hd with rfl | hd
    · exact hc
    · exact hps d hd
def spPats : Sp := fun vs H Q _ => ∃ (p : Addr) (L n : Nat), vs = [.ref p, .int L, .int 3] ∧ L ≤ 60 ∧ PotIn p (n + 2 + 3 * L) H ∧
  ∀ (ps : List Pa) (q : Addr) (H' : Hp), ps.length ≤ 3 → (∀ x ∈ ps, x.length = L) → PotIn p n H' → Kp p H H' → H q = none → H' q = some (.tup (ps.map pV)) → Q (.ref q) H'
theorem sc__law_patterns : FnScope ["pot", "width", "most", "signs", "lap"] ["pot", "width", "most"] (defScope s__law_patterns) := ⟨rfl, rfl, rfl, by decide +kernel, rfl, by decide +kernel, by decide +kernel⟩
theorem ok_pats {f : Addr} {fd : FuncData} (F : FD K s__law_patterns "_law_patterns" "_law_patterns" f fd) (X : LxT mg) (F__law_take : FnG P w K mg base 1 "_law_take" ["pot", "upto"] spTake) (F__law_of : FnG P w K mg base 2 "_law_of" ["pot", "some"] (spOf K)) (F__law_row : FnG P w K mg base 3 "_law_row" ["pot", "width", "signs"] spRowL) :
    FnOk P w K mg base (XC P w) 4 f fd ["pot", "width", "most"] spPats := by
  refine F.ok sc__law_patterns (fun vs H Q E h => ?_) (fun cdv A outer s H vs Q E hr h => ?_)
  · obtain ⟨p, L, n, rfl, _⟩ := h
    rfl
  · refine ⟨_, (pss_cons (ps_set (i := 3) sc__law_patterns.nd rfl (Or.inr rfl) (pe_fn F__law_of (hr.mono (by first | omega | decide)) passE0 (pa_cons (pv 0) (pa_cons (pe_lst (pa_cons pe_str (pa_cons pe_str (pa_cons pe_str pa_nil)))) pa_nil))))
      (pss_one (ps_ret (pe_callTy call_tupL (by rfl) X.b_tuple (by decide +kernel) (pa_cons (pe_lc (own := [("lap", 4)]) (g := (gName 4)) rfl sc__law_patterns.nd (pi_range1 (by rfl) X.b_range (pa_cons (pe_fn F__law_take (hr.mono (by first | omega | decide)) passE0 (pa_cons (pv 0) (pa_cons (pe_op op_add (pv 2) pe_int) pa_nil))) pa_nil)) (blkOk_by (own := [("lap", 4)]) (N := ["pot", "width", "most", "signs", "lap"]) (sc := defScope s__law_patterns) (by decide +kernel)) (fun _ _ _ _ _ => pg_name (i := 4) sc__law_patterns.nd rfl (Or.inl rfl)) (fun _ _ _ _ _ => pts_nil) (fun _ _ _ _ _ => (pe_fn F__law_row (hr.mono (by first | omega | decide)) passE0 (pa_cons (pv 0) (pa_cons (pv 1) (pa_cons (pv 3) pa_nil)))))) pa_nil))))), ?_⟩
    try dsimp only [cxOf]
    obtain ⟨p, L, n, rfl, hL, hp, k⟩ := h
    walk_at "sx"
    have hpn := hp.ne
    refine ⟨by decide, fun p1 hp1 => ⟨p, .ref p1, signs3, n + 1 + 3 * L, rfl, ⟨.inl ⟨p1, rfl, .of upd_same⟩, fun z => ?_⟩, by decide, by decide, (hp.new hp1).le (by omega), fun v H1 hv pi1 k1 => ?_⟩⟩
    · cases z
      exact hpn hp1
    obtain ⟨sg, rfl, hs1, hs2, hs3⟩ := signs3_str hv
    refine tLc_rngK ?_
    walk_at "sx"
    have kk1 : Kp p H H1 := ((Kp.refl p H).mut (.inr hp1)).trans k1
    refine ⟨p, 4, n + 3 * L, rfl, by decide, by decide, by rw [show n + 3 * L + 1 = n + 1 + 3 * L by omega]; exact pi1, fun i H2 hi pi2 k2 => ?_⟩
    have hiL : i * L ≤ 3 * L := Nat.mul_le_mul_right _ (by omega)
    refine rngP (p := p) (m := n) (n := i) (k := L) (fun _ y _ => ∃ pa : Pa, y = pV pa ∧ pa.length = L) (fun _ _ _ _ _ h => h) (by omega) (pi2.le (by omega)) (fun _ => rfl) ?_ ?_
    · intro j m' H' D hj hD hDp hac kp pi R r
      walk_at "sx"
      refine ⟨p, L, sg, m', rfl, hL, hs1, hs2, pi, fun cs H3 hcl hcs pi3 k3 => r _ H3 pi3 k3 ?_⟩
      obtain ⟨pa, e1, e2⟩ := pa_of cs fun c hc => hs3 c (hcs c hc)
      exact ⟨pa, by rw [e1], by omega⟩
    · intro D H' ys hD hDp kp pi hl hg hd
      obtain ⟨ps, rfl, hps⟩ := pas_of ys hg
      refine ⟨D, rfl, _, .of hd, fun l hl2 => ?_⟩
      have hH : H l = none := by
        cases e : H l with
        | none => rfl
        | some o =>
          have hlp : l ≠ p := fun z => pi.ne (by rw [← z]; exact hl2)
          have := (kk1.trans k2).trans kp l o hlp e
          rw [hl2] at this
          cases this
      exact k ps l _ (by simp at hl; omega) hps (pi.new hl2) (((kk1.trans k2).trans kp).mut (.inr hH)) hH upd_same
end
end My
namespace My
open PySem PySem.Spec PyProof.Rows L2 LamX Tr
section
variable {P : Program} {w : World} {K : PySem.W.Frag} {mg : Str → Option Value} {base : Heap} {C : Addr} {T : List (Addr × Str)}
def rowV (x : R) : V := .str (rowS x)
theorem allR_snoc : ∀ n : Nat, allR (n + 1) = (allR n).flatMap fun x => [x ++ [false], x ++ [true]]
  | 0 => rfl
  | n + 1 => by
    have ih := allR_snoc n
    conv => lhs; unfold allR
    conv => rhs; unfold allR
    rw [List.flatMap_append, List.flatMap_map, List.flatMap_map, ih, List.map_flatMap, List.map_flatMap]
    rfl
theorem str_app (a b : Str) : a ++ b = (⟨a.cps ++ b.cps⟩ : Str) := rfl
theorem rowS_snoc0 (x : R) : rowS x ++ ("0" : Str) = rowS (x ++ [false]) := by
  have e : ("0" : Str) = ⟨#[48]⟩ := by decide +kernel
  rw [e]
  unfold rowS txt
  rw [str_app, List.map_append, List.map_append]
  simp [enc]
theorem rowS_snoc1 (x : R) : rowS x ++ ("1" : Str) = rowS (x ++ [true]) := by
  have e : ("1" : Str) = ⟨#[49]⟩ := by decide +kernel
  rw [e]
  unfold rowS txt
  rw [str_app, List.map_append, List.map_append]
  simp [enc]
def two (x : R) : List V := [rowV (x ++ [false]), rowV (x ++ [true])]
theorem two_all (n : Nat) : (allR n).flatMap two = (allR (n + 1)).map rowV := by
  rw [allR_snoc, List.map_flatMap]
  rfl
theorem allR_le {n : Nat} (h : n ≤ 7) : (allR n).length ≤ 128 := by
  rw [allR_length]
  exact Nat.pow_le_pow_right (by omega) h
theorem two_len (xs : List R) : (xs.flatMap two).length = 2 * xs.length := by
  induction xs with
  | nil => rfl
  | cons x xs ih => rw [List.flatMap_cons, List.length_append, ih, List.length_cons]; show 2 + _ = _; omega
end
end My
namespace My
open PySem PySem.Spec PyProof.Rows L2 LamX Tr
section
variable {P : Program} {w : World} {K : PySem.W.Frag} {mg : Str → Option Value} {base : Heap} {C : Addr} {T : List (Addr × Str)}
theorem mput_get0 : ∀ {m : Pa} {x : R} {i : Nat}, m.length = x.length → m[i]? = some none → (mput m x)[i]? = x[i]?
  | [], _, _, _, h => by simp at h
  | _ :: _, [], _, h, _ => by simp at h
  | none :: m, c :: x, 0, _, _ => rfl
  | some b :: m, c :: x, 0, _, h => by simp at h
  | none :: m, c :: x, i + 1, hl, h => mput_get0 (m := m) (x := x) (i := i) (by simpa using hl) (by simpa using h)
  | some b :: m, c :: x, i + 1, hl, h => mput_get0 (m := m) (x := x) (i := i) (by simpa using hl) (by simpa using h)
theorem mput_get1 : ∀ {m : Pa} {x : R} {i : Nat} {b : Bool}, m.length = x.length → m[i]? = some (some b) → (mput m x)[i]? = some b
  | [], _, _, _, _, h => by simp at h
  | _ :: _, [], _, _, h, _ => by simp at h
  | none :: m, c :: x, 0, _, _, h => by simp at h
  | some b :: m, c :: x, 0, _, _, h => by simp at h; rw [← h]; rfl
  | none :: m, c :: x, i + 1, _, hl, h => mput_get1 (m := m) (x := x) (i := i) (by simpa using hl) (by simpa using h)
  | some b :: m, c :: x, i + 1, _, hl, h => mput_get1 (m := m) (x := x) (i := i) (by simpa using hl) (by simpa using h)
theorem rowS_get {x : R} {i : Nat} : (rowS x).cps[i]? = x[i]?.map fun b => enc (some b) := by
  unfold rowS
  rw [txt_get, List.getElem?_map, Option.map_map]
  rfl
theorem rowS_size (x : R) : (rowS x).cps.size = x.length := by
  unfold rowS
  rw [txt_size, List.length_map]
def spPutL : Sp := fun vs H Q _ => ∃ (x : R) (m : Str), vs = [.str (rowS x), .str m] ∧ m.length = x.length ∧ x.length ≤ 60 ∧ (∀ c ∈ m.cps.toList, c = 48 ∨ c = 49 ∨ c = 61) ∧ ∀ H', Evl.Ex H H' → Q (rowV (mput (unt m) x)) H'
theorem sc__law_put : FnScope ["head", "mask", "sign", "its"] ["head", "mask"] (defScope s__law_put) := ⟨rfl, rfl, rfl, by decide +kernel, rfl, by decide +kernel, by decide +kernel⟩
theorem ok_putL {f : Addr} {fd : FuncData} (F : FD K s__law_put "_law_put" "_law_put" f fd) (X : LxT mg) : FnOk P w K mg base (XC P w) 1 f fd ["head", "mask"] spPutL := by
  refine F.ok sc__law_put (fun vs H Q E h => ?_) (fun cdv A outer s H vs Q E hr h => ?_)
  · obtain ⟨x, p, rfl, _⟩ := h
    rfl
  · refine ⟨_, (pss_one (ps_ret (pe_join pe_str (pe_lc (own := [("sign", 2), ("its", 3)]) (g := (gTup K 2 (gCons (gName 2) (gCons (gName 3) gNil)))) rfl sc__law_put.nd (pi_zipS (by rfl) X.b_zip (pa_cons (pv 0) (pa_cons (pv 1) pa_nil))) (blkOk_by (own := [("sign", 2), ("its", 3)]) (N := ["head", "mask", "sign", "its"]) (sc := defScope s__law_put) (by decide +kernel)) (fun _ _ _ _ _ => pg_tup (by rfl) (pgs_cons (pg_name (i := 2) sc__law_put.nd rfl (Or.inl rfl)) (pgs_cons (pg_name (i := 3) sc__law_put.nd rfl (Or.inl rfl)) pgs_nil))) (fun _ _ _ _ _ => pts_nil) (fun _ _ _ _ _ => (pe_ifExp (pt_cmpR op_eq (pv 3) pe_str (nomark _)) (pv 2) (pv 3))))))), ?_⟩
    try dsimp only [cxOf]
    obtain ⟨x, m, rfl, hl, h60, hm, k⟩ := h
    walk_at "sx"
    have hul : (unt m).length = x.length := by unfold unt; rw [List.length_map, Array.length_toList]; exact hl
    have hyl := mput_len hul
    generalize hy : mput (unt m) x = y at hyl k
    have hmin : min (rowS x).cps.size m.cps.size = x.length := by
      rw [rowS_size, show m.cps.size = x.length from hl, Nat.min_self]
    refine ⟨_, rfl, _, rfl, rowS x, m, rfl, fun D hD => lc_gen (n := x.length) (fun i H' => Evl.Ex H H' ∧ H' D = some (.lst ((y.take i).map fun b => V.str ⟨#[enc (some b)]⟩))) ⟨Evl.Ex.new hD, upd_same⟩ (fun i H' hi _ => by show i < min _ _; rw [hmin]; exact hi) (fun H' _ => hmin.symm) ?_ ?_⟩
    · rintro i v H' H2 hi ⟨e, hd'⟩ ⟨T', vs, rfl, hT, rfl, c, d, hc, hd, rfl⟩
      rw [rowS_get] at hc
      have hx1 : x[i]? = some x[i] := List.getElem?_eq_getElem hi
      rw [hx1] at hc
      have hc' := Option.some.inj hc
      generalize x[i] = xb at hx1 hc'
      subst hc'
      have hmi : (unt m)[i]? = some (decC d) := by
        unfold unt
        rw [List.getElem?_map, Array.getElem?_toList, hd]
        rfl
      have hmem : d ∈ m.cps.toList := List.mem_of_getElem? (by rw [Array.getElem?_toList]; exact hd)
      have hdd := hm d hmem
      have hnD : D ≠ T' := ne_of_none hd' hT
      walk_at "sx"
      refine ⟨_, .of upd_same, rfl, _, _, rfl, _, _, rfl, rfl, rfl, ?_⟩
      have fin : ∀ b : Bool, y[i]? = some b → ∀ v : V, v = .str ⟨#[enc (some b)]⟩ → ∃ acc, (upd H' T' (.tup [.str ⟨#[enc (some xb)]⟩, .str ⟨#[d]⟩])) D = some (.lst acc) ∧ acc.length < sizeLine ∧ Evl.Ex H (upd (upd H' T' (.tup [.str ⟨#[enc (some xb)]⟩, .str ⟨#[d]⟩])) D (.lst (acc ++ [v]))) ∧ (upd (upd H' T' (.tup [.str ⟨#[enc (some xb)]⟩, .str ⟨#[d]⟩])) D (.lst (acc ++ [v]))) D = some (.lst ((y.take (i + 1)).map fun b => V.str ⟨#[enc (some b)]⟩)) := fun b hb v hv => by
        refine ⟨_, by rw [upd_ne hnD]; exact hd', ?_, Evl.Ex.mut (e.trans (Evl.Ex.new hT)) hD, ?_⟩
        · rw [List.length_map, List.length_take]
          exact Nat.lt_of_le_of_lt (show _ ≤ 60 by omega) (by decide)
        · rw [upd_same, List.take_add_one, hb, List.map_append, hv]
          rfl
      have eeq : ("=" : Str) = ⟨#[61]⟩ := by decide +kernel
      rw [← hy] at fin
      rcases hdd with rfl | rfl | rfl
      · rw [if_neg (by rw [eeq]; simp)]
        have := fin false (mput_get1 hul hmi) _ rfl
        rw [hy] at this
        exact this
      · rw [if_neg (by rw [eeq]; simp)]
        have := fin true (mput_get1 hul hmi) _ rfl
        rw [hy] at this
        exact this
      · rw [if_pos (by rw [eeq]; simp)]
        have := fin xb (by rw [mput_get0 hul hmi]; exact hx1) _ rfl
        rw [hy] at this
        exact this
    · rintro H' ⟨e, hd'⟩
      rw [List.take_of_length_le (by omega)] at hd'
      refine ⟨D, rfl, (y.map some).map fun o => ⟨#[enc o]⟩, .inl (.of (by rw [hd', List.map_map, List.map_map]; rfl)), ?_, ?_⟩
      · have h1 : ∀ p : Pa, ((p.map fun o => (⟨#[enc o]⟩ : Str)).map (fun x => x.length)).sum = p.length := by
          intro p
          induction p with
          | nil => rfl
          | cons o p ih => simp only [List.map_cons, List.sum_cons, List.length_cons, ih]; show 1 + p.length = p.length + 1; omega
        rw [h1, List.length_map, List.length_map, show ("" : Str).length = 0 by decide +kernel]
        omega
      · rw [join_txt]
        exact k H' e
end
end My
namespace My
open PySem PySem.Spec PyProof.Rows L2 LamX Tr
section
variable {P : Program} {w : World} {K : PySem.W.Frag} {mg : Str → Option Value} {base : Heap} {C : Addr} {T : List (Addr × Str)}
/-- ** of any two whose power is short -/
def CPowB (i j : Int) : Prop := 0 ≤ j ∧ (Builtin.Int.intBits i : Int) * j ≤ 2 ^ 27
theorem op_powB {X : Cx} : OpR X (binaryOp .Pow) (rI CPowB fun i j => .int (i ^ j.toNat)) := opI fun _ _ _ _ _ _ _ hc q => pow_int hc.1 hc.2 q
def spPot (K : PySem.W.Frag) : Sp := fun vs H Q _ => ∃ (a : Addr) (ns : List Int) (j : Nat), vs = [.ref a, .int j] ∧ SqL K H a (ns.map V.int) ∧ ns.length ≤ sizeLine ∧ (∀ z ∈ ns, Builtin.Int.intBits z ≤ 1048576) ∧ j < 2 ∧
  ∀ (q : Addr) (H' : Hp), Evl.Ex H H' → H q = none → PotIn q 900000 H' → Q (.ref q) H'
theorem sc__law_pot : FnScope ["script", "place", "cell", "own", "small"] ["script", "place"] (defScope s__law_pot) := ⟨rfl, rfl, rfl, by decide +kernel, rfl, by decide +kernel, by decide +kernel⟩
theorem ok_pot {f : Addr} {fd : FuncData} (F : FD K s__law_pot "_law_pot" "_law_pot" f fd) (X : LxT mg) : FnOk P w K mg base (XC P w) 1 f fd ["script", "place"] (spPot K) := by
  refine F.ok sc__law_pot (fun vs H Q E h => ?_) (fun cdv A outer s H vs Q E hr h => ?_)
  · obtain ⟨a, ns, j, rfl, _⟩ := h
    rfl
  · refine ⟨_, (pss_cons (ps_set (i := 2) sc__law_pot.nd rfl (Or.inl rfl) (pe_ifExp (pt_cmpR op_lt (pv 1) (pe_callB call_len (by rfl) X.b_len PySem.boot_len (pa_cons (pv 0) pa_nil)) (nomark _)) (pe_ix ix_list (pv 0) (pv 1) (fun _ _ => rfl)) (pe_op op_add (pe_op op_mul pe_int (pv 1)) pe_int)))
      (pss_cons (ps_set (i := 3) sc__law_pot.nd rfl (Or.inl rfl) (pe_op op_mul (pe_op op_mod (pe_callTy call_intI (by rfl) X.b_int (by decide +kernel) (pa_cons (pe_callB call_abs (by rfl) X.b_abs (by decide +kernel) (pa_cons (pv 2) pa_nil)) pa_nil)) (pe_op op_powB (pe_op op_pow pe_int pe_int) pe_int)) (pe_callTy call_intB (by rfl) X.b_int (by decide +kernel) (pa_cons (pe_cmpR op_ge (pe_callB call_abs (by rfl) X.b_abs (by decide +kernel) (pa_cons (pv 2) pa_nil)) (pe_op op_pow pe_int pe_int) (nomark _)) pa_nil))))
      (pss_cons (ps_set (i := 4) sc__law_pot.nd rfl (Or.inl rfl) (pe_op op_mod (pe_callTy call_intI (by rfl) X.b_int (by decide +kernel) (pa_cons (pv 2) pa_nil)) pe_int))
      (pss_one (ps_ret (pe_lst (pa_cons (pv 3) (pa_cons (pe_op op_mod (pe_callTy call_intI (by rfl) X.b_int (by decide +kernel) (pa_cons (pe_op op_add (pe_op op_add (pe_op op_mul (pv 4) pe_int) (pe_op op_mul (pe_op op_mul pe_int (pv 1)) (pv 1))) pe_int) pa_nil)) pe_int) (pa_cons pe_int pa_nil))))))))), ?_⟩
    try dsimp only [cxOf]
    obtain ⟨a, ns, j, rfl, hs, hl, hb, hj, k⟩ := h
    walk_at "sx"
    have c10 : CPow 10 60 := ⟨by decide, by decide, by decide⟩
    have c18 : CPow 10 18 := ⟨by decide, by decide, by decide⟩
    have c5 : CPowB (10 ^ Int.toNat 60) 5 := ⟨by decide, by decide +kernel⟩
    have h300 : ((10 : Int) ^ Int.toNat 60) ^ Int.toNat 5 = 10 ^ 300 := by decide +kernel
    have hpos : (0 : Int) < 10 ^ 300 := by decide +kernel
    have h01 : ∀ b : Bool, CMul 0 (if b = true then 1 else 0) ∧ (0 : Int) ≤ (if b = true then 1 else 0) ∧ (if b = true then (1 : Int) else 0) ≤ 1 := fun b => by
      cases b
      · exact ⟨.inr ⟨by decide, by decide⟩, by decide, by decide⟩
      · exact ⟨.inr ⟨by decide, by decide⟩, by decide, by decide⟩
    have fin : ∀ (u c : Int) (b : Bool) (q : Addr), H q = none → Q (.ref q) (upd H q (.lst [.int (u % 10 ^ 300 * (if b = true then 1 else 0)), .int (c % 2305843009213693921), .int 0])) := fun u c b q hq => by
      have h1 := Int.emod_nonneg u (show ((10 : Int) ^ 300) ≠ 0 by omega)
      have h2 := Int.emod_lt_of_pos u hpos
      have h3 := Int.emod_nonneg c (show (2305843009213693921 : Int) ≠ 0 by decide)
      have h4 := Int.emod_lt_of_pos c (show (0 : Int) < 2305843009213693921 by decide)
      refine k q _ (Evl.Ex.new hq) hq ⟨_, _, _, upd_same, ?_, ?_, h3, by omega, by omega, by omega⟩
      · cases b
        · rw [if_neg (by decide), Int.mul_zero]; exact Int.le_refl _
        · rw [if_pos rfl, Int.mul_one]; exact h1
      · cases b
        · rw [if_neg (by decide), Int.mul_zero]; exact hpos
        · rw [if_pos rfl, Int.mul_one]; exact h2
    have cmb : ∀ (u : Int) (b : Bool), CMul u (if b = true then 1 else 0) := fun u b => by
      cases b
      · exact .inr ⟨by decide, by decide⟩
      · exact .inr ⟨by decide, by decide⟩
    rw [h300]
    refine ⟨ns.length, .inl ⟨_, hs, by rw [List.length_map]⟩, ?_⟩
    split
    · rename_i hlt
      have hlt := of_decide_eq_true hlt
      have hjl : j < ns.length := by omega
      have hgj : (ns.map V.int)[j]? = some (.int ns[j]) := by rw [List.getElem?_map, List.getElem?_eq_getElem hjl]; rfl
      exact ⟨_, hs, _, atI_nat hgj, _, rfl, c10, c5, hpos, _, rfl, c18, cmb _ _, _, rfl, by decide, .inr ⟨by decide, by decide⟩, .inl ⟨by decide, by decide⟩, .inr ⟨by omega, by omega⟩, by decide, by decide, fun q hq => fin _ _ _ q hq⟩
    · exact ⟨.inl ⟨by decide, by decide⟩, c10, c5, hpos, c18, cmb _ _, by decide, .inr ⟨by decide, by decide⟩, .inl ⟨by decide, by decide⟩, .inr ⟨by omega, by omega⟩, by decide, by decide, fun q hq => fin _ _ _ q hq⟩
end
end My
namespace My
open PySem PySem.Spec PyProof.Rows L2 LamX Tr
abbrev nHeard : List Str := ["look", "caught", "told", "error"]
theorem sc__law_heard : FnScope nHeard ["look"] (defScope s__law_heard) := ⟨rfl, rfl, rfl, by decide +kernel, rfl, by decide +kernel, by decide +kernel⟩
theorem heard_gives {X : Cx} {g CS : Addr} {cdg : Value} {q : Str} (hme : X.mg "NetError" = some (.ref CS)) : GivesAt X nHeard "_law_heard" (defScope s__law_heard) g cdg (defBody s__law_heard) "look" q (TTheard X.K CS) := by
  intro f c' s H Q tl act hc h
  refine ⟨_, pss_cons (ps_asg (pe_tup (pa_cons pe_non (pa_cons pe_non pa_nil))) (pg_tup (by rfl) (pgs_cons (pg_name (i := 1) sc__law_heard.nd rfl (Or.inl rfl)) (pgs_cons (pg_name (i := 2) sc__law_heard.nd rfl (Or.inl rfl)) pgs_nil))))
    (pss_cons (ps_try_keep (i := 3) (c := .ref CS) rfl rfl sc__law_heard.nd rfl rfl ⟨rfl, by decide, .inl hme⟩ rfl
      (fun W pn xe tk _ => pss_one (ps_set (i := 2) sc__law_heard.nd rfl (Or.inl rfl) (act W pn xe _ _ tk)))
      (fun a oe cls d pn _ _ => pss_one (ps_set (i := 1) sc__law_heard.nd rfl (Or.inl rfl) (pv 3))))
    (pss_one (ps_ret (pe_tup (pa_cons (pv 1) (pa_cons (pv 2) pa_nil)))))), ?_⟩
  try dsimp only [cxOf]
  walk_at "sx"
  refine ⟨show 2 ≤ sizeLine by decide, fun p hp => ⟨_, .of upd_same, rfl, _, _, rfl, _, _, rfl, rfl, by rw [upd_ne (ne_of_none hc hp)]; exact hc, fun cls d H' => PySem.W.exmOne X.K cls (.ref CS) = some true ∧ ∀ a q, H' a = none → q ≠ a → H' q = none → Q (.ref q) (upd (upd H' a (exk a cls d)) q (.tup [.ref a, .non])), fun cls d H' hE => ⟨hE.1, fun a ha => ?_⟩, h p hp⟩⟩
  walk_at "sx"
  refine ⟨ha, show 2 ≤ sizeLine by decide, fun r hr => ?_⟩
  have hra : r ≠ a := fun z => by rw [z, upd_same] at hr; cases hr
  rw [upd_ne hra] at hr
  exact hE.2 a r ha hra hr
end My
namespace My
open PySem PySem.Spec PyProof.Rows L2 LamX Tr
section
variable {P : Program} {w : World} {K : PySem.W.Frag} {mg : Str → Option Value} {base : Heap} {T : List (Addr × Str)} {CT : Addr}
/-- the defs that _law_right calls -/
structure RtG (P : Program) (w : World) (K : PySem.W.Frag) (mg : Str → Option Value) (base : Heap) (T : List (Addr × Str)) (CT : Addr) : Prop where
  F__law_take : FnG P w K mg base 1 "_law_take" ["pot", "upto"] spTake
  F__law_of : FnG P w K mg base 2 "_law_of" ["pot", "some"] (spOf K)
  F__law_patterns : FnG P w K mg base 4 "_law_patterns" ["pot", "width", "most"] spPats
  F__law_row : FnG P w K mg base 3 "_law_row" ["pot", "width", "signs"] spRowL
  F__law_put : FnG P w K mg base 1 "_law_put" ["head", "mask"] spPutL
  F_plain : FnG P w K mg base 21 "plain" ["width", "patterns"] (spPlain T CT 16)
  F_both : FnG P w K mg base 23 "both" ["width", "one", "other"] (spBothH T CT 16)
  F_either : FnG P w K mg base 23 "either" ["width", "one", "other"] (spEitherH T CT 16)
  F_others : FnG P w K mg base 23 "others" ["width", "heads"] (spOthers T CT 16)
  F_how_many : FnG P w K mg base 23 "how_many" ["width", "heads"] (spHowMany T 16)
  F_put_into : FnG P w K mg base 23 "put_into" ["width", "heads", "mask"] (spPutInto T CT 16)
  F_put_before : FnG P w K mg base 23 "put_before" ["width", "heads", "mask"] (spPutBefore T CT 16)
  F_is_heads : FnG P w K mg base 22 "is_heads" ["width", "value"] (spIsHeads K T 16)
  F_least_head : FnG P w K mg base 23 "least_head" ["width", "heads"] (spLeast T 16)
  F_has_head : FnG P w K mg base 23 "has_head" ["width", "heads", "head"] (spHasHead T 16)
theorem sc__law_right : FnScope ["pot", "width", "lap", "one", "two", "three", "heads", "rest", "sizes", "place", "mask", "there", "back", "again", "head"] ["pot"] (defScope s__law_right) := ⟨rfl, rfl, rfl, by decide +kernel, rfl, by decide +kernel, by decide +kernel⟩
theorem rightT (X : LxT mg) (R : RtG P w K mg base T CT) {fa : Addr} {cd : Value} {A : Around} {out : List Env} {s : Shared} {Hx : Hp} {E : XK} (hr : Room 24 (A.deeper (envOfC "_law_right" (defScope s__law_right) s.heap.objs.size fa cd))) : ∃ t, PSs (cxOf (XC P w) P w K mg base ["pot", "width", "lap", "one", "two", "three", "heads", "rest", "sizes", "place", "mask", "there", "back", "again", "head"] "_law_right" (defScope s__law_right) fa cd A out s Hx E) (defBody s__law_right) t :=
  ⟨_, (pss_cons (ps_set (i := 1) sc__law_right.nd rfl (Or.inr rfl) (pe_callTy call_intI (by rfl) X.b_int (by decide +kernel) (pa_cons (pe_op op_add pe_int (pe_fn R.F__law_take (hr.mono (by first | omega | decide)) passE0 (pa_cons (pv 0) (pa_cons pe_int pa_nil)))) pa_nil)))
      (pss_cons (ps_asg (pe_lc (own := [("lap", 2)]) (g := (gName 2)) rfl sc__law_right.nd (pi_range1 (by rfl) X.b_range (pa_cons pe_int pa_nil)) (blkOk_by (own := [("lap", 2)]) (N := ["pot", "width", "lap", "one", "two", "three", "heads", "rest", "sizes", "place", "mask", "there", "back", "again", "head"]) (sc := defScope s__law_right) (by decide +kernel)) (fun _ _ _ _ _ => pg_name (i := 2) sc__law_right.nd rfl (Or.inl rfl)) (fun _ _ _ _ _ => pts_nil) (fun _ _ _ _ _ => (pe_fn R.F_plain (hr.mono (by first | omega | decide)) passE0 (pa_cons (pv 1) (pa_cons (pe_fn R.F__law_patterns (hr.mono (by first | omega | decide)) passE0 (pa_cons (pv 0) (pa_cons (pv 1) (pa_cons pe_int pa_nil)))) pa_nil))))) (pg_unl (by rfl) (pgs_cons (pg_name (i := 3) sc__law_right.nd rfl (Or.inl rfl)) (pgs_cons (pg_name (i := 4) sc__law_right.nd rfl (Or.inl rfl)) (pgs_cons (pg_name (i := 5) sc__law_right.nd rfl (Or.inl rfl)) pgs_nil)))))
      (pss_cons (ps_setLc (i := 7) (own := [("heads", 6)]) (g := (gName 6)) rfl sc__law_right.nd rfl rfl (sw_true rfl rfl rfl (by decide +kernel)) (pi_tup (pe_tup (pa_cons (pv 3) (pa_cons (pv 4) (pa_cons (pv 5) pa_nil))))) (blkOk_by (own := [("heads", 6)]) (N := ["pot", "width", "lap", "one", "two", "three", "heads", "rest", "sizes", "place", "mask", "there", "back", "again", "head"]) (sc := defScope s__law_right) (by decide +kernel)) (fun _ _ _ _ _ => pg_name (i := 6) sc__law_right.nd rfl (Or.inl rfl)) (fun _ _ _ _ _ => pts_nil) (fun _ _ _ _ _ => (pe_fn R.F_others (hr.mono (by first | omega | decide)) passE0 (pa_cons (pv 1) (pa_cons (pv 6) pa_nil)))))
      (pss_cons (ps_if (pt_cmpR (op_neD hr.units) (pe_fn R.F_others (hr.mono (by first | omega | decide)) passE (pa_cons (pv 1) (pa_cons (pe_fn R.F_both (hr.mono (by first | omega | decide)) passE (pa_cons (pv 1) (pa_cons (pv 3) (pa_cons (pv 4) pa_nil)))) pa_nil))) (pe_fn R.F_either (hr.mono (by first | omega | decide)) passE (pa_cons (pv 1) (pa_cons (pe_ix ix_list (pv 7) pe_int (fun _ _ => rfl)) (pa_cons (pe_ix ix_list (pv 7) pe_int (fun _ _ => rfl)) pa_nil)))) (nomark _)) (pss_one (ps_ret pe_bl)) pss_nil)
      (pss_cons (ps_if (pt_cmpR (op_neD hr.units) (pe_fn R.F_both (hr.mono (by first | omega | decide)) passE (pa_cons (pv 1) (pa_cons (pv 3) (pa_cons (pe_fn R.F_either (hr.mono (by first | omega | decide)) passE (pa_cons (pv 1) (pa_cons (pv 4) (pa_cons (pv 5) pa_nil)))) pa_nil)))) (pe_fn R.F_either (hr.mono (by first | omega | decide)) passE (pa_cons (pv 1) (pa_cons (pe_fn R.F_both (hr.mono (by first | omega | decide)) passE (pa_cons (pv 1) (pa_cons (pv 3) (pa_cons (pv 4) pa_nil)))) (pa_cons (pe_fn R.F_both (hr.mono (by first | omega | decide)) passE (pa_cons (pv 1) (pa_cons (pv 3) (pa_cons (pv 5) pa_nil)))) pa_nil)))) (nomark _)) (pss_one (ps_ret pe_bl)) pss_nil)
      (pss_cons (ps_if (pt_cmpR (op_neD hr.units) (pe_fn R.F_either (hr.mono (by first | omega | decide)) passE (pa_cons (pv 1) (pa_cons (pv 3) (pa_cons (pe_fn R.F_both (hr.mono (by first | omega | decide)) passE (pa_cons (pv 1) (pa_cons (pv 4) (pa_cons (pv 5) pa_nil)))) pa_nil)))) (pe_fn R.F_both (hr.mono (by first | omega | decide)) passE (pa_cons (pv 1) (pa_cons (pe_fn R.F_either (hr.mono (by first | omega | decide)) passE (pa_cons (pv 1) (pa_cons (pv 3) (pa_cons (pv 4) pa_nil)))) (pa_cons (pe_fn R.F_either (hr.mono (by first | omega | decide)) passE (pa_cons (pv 1) (pa_cons (pv 3) (pa_cons (pv 5) pa_nil)))) pa_nil)))) (nomark _)) (pss_one (ps_ret pe_bl)) pss_nil)
      (pss_cons (ps_if (PW.pt (pw_or (pt_cmpR (op_neD hr.units) (pe_fn R.F_both (hr.mono (by first | omega | decide)) passE (pa_cons (pv 1) (pa_cons (pv 3) (pa_cons (pe_fn R.F_either (hr.mono (by first | omega | decide)) passE (pa_cons (pv 1) (pa_cons (pv 3) (pa_cons (pv 4) pa_nil)))) pa_nil)))) (pv 3) (nomark _)) (pw_or1 (pt_cmpR (op_neD hr.units) (pe_fn R.F_either (hr.mono (by first | omega | decide)) passE (pa_cons (pv 1) (pa_cons (pv 3) (pa_cons (pe_ix ix_list (pv 7) pe_int (fun _ _ => rfl)) pa_nil)))) (pe_tup (pa_cons (pe_op op_mulS pe_str (pv 1)) pa_nil)) (nomark _))))) (pss_one (ps_ret pe_bl)) pss_nil)
      (pss_cons (ps_setLc (i := 8) (own := [("heads", 6)]) (g := (gName 6)) rfl sc__law_right.nd rfl rfl (sw_true rfl rfl rfl (by decide +kernel)) (pi_tup (pe_tup (pa_cons (pv 3) (pa_cons (pv 4) (pa_cons (pe_fn R.F_both (hr.mono (by first | omega | decide)) passE (pa_cons (pv 1) (pa_cons (pv 3) (pa_cons (pv 4) pa_nil)))) (pa_cons (pe_fn R.F_either (hr.mono (by first | omega | decide)) passE (pa_cons (pv 1) (pa_cons (pv 3) (pa_cons (pv 4) pa_nil)))) pa_nil)))))) (blkOk_by (own := [("heads", 6)]) (N := ["pot", "width", "lap", "one", "two", "three", "heads", "rest", "sizes", "place", "mask", "there", "back", "again", "head"]) (sc := defScope s__law_right) (by decide +kernel)) (fun _ _ _ _ _ => pg_name (i := 6) sc__law_right.nd rfl (Or.inl rfl)) (fun _ _ _ _ _ => pts_nil) (fun _ _ _ _ _ => (pe_fn R.F_how_many (hr.mono (by first | omega | decide)) passE0 (pa_cons (pv 1) (pa_cons (pv 6) pa_nil)))))
      (pss_cons (ps_if (pt_cmpR op_ne (pe_op op_add (pe_ix ix_list (pv 8) pe_int (fun _ _ => rfl)) (pe_ix ix_list (pv 8) pe_int (fun _ _ => rfl))) (pe_op op_add (pe_ix ix_list (pv 8) pe_int (fun _ _ => rfl)) (pe_ix ix_list (pv 8) pe_int (fun _ _ => rfl))) (nomark _)) (pss_one (ps_ret pe_bl)) pss_nil)
      (pss_cons (ps_set (i := 10) sc__law_right.nd rfl (Or.inl rfl) (pe_join pe_str (pe_lc (own := [("place", 9)]) (g := (gName 9)) rfl sc__law_right.nd (pi_range1 (by rfl) X.b_range (pa_cons (pv 1) pa_nil)) (blkOk_by (own := [("place", 9)]) (N := ["pot", "width", "lap", "one", "two", "three", "heads", "rest", "sizes", "place", "mask", "there", "back", "again", "head"]) (sc := defScope s__law_right) (by decide +kernel)) (fun _ _ _ _ _ => pg_name (i := 9) sc__law_right.nd rfl (Or.inl rfl)) (fun _ _ _ _ _ => pts_nil) (fun _ _ _ _ _ => (pe_fn R.F__law_of (hr.mono (by first | omega | decide)) passE0 (pa_cons (pv 0) (pa_cons pe_str pa_nil)))))))
      (pss_cons (ps_par (i := 11) (j := 12) (by rfl) sc__law_right.nd rfl rfl (by decide) rfl rfl (pa_cons (pe_fn R.F_put_into (hr.mono (by first | omega | decide)) passE (pa_cons (pv 1) (pa_cons (pv 3) (pa_cons (pv 10) pa_nil)))) (pa_cons (pe_fn R.F_put_before (hr.mono (by first | omega | decide)) passE (pa_cons (pv 1) (pa_cons (pv 3) (pa_cons (pv 10) pa_nil)))) pa_nil)) (by rfl))
      (pss_cons (ps_set (i := 13) sc__law_right.nd rfl (Or.inl rfl) (pe_fn R.F_put_into (hr.mono (by first | omega | decide)) passE (pa_cons (pv 1) (pa_cons (pv 12) (pa_cons (pv 10) pa_nil)))))
      (pss_cons (ps_if (PW.pt (pw_or (pt_cmpR (op_neD hr.units) (pe_fn R.F_put_into (hr.mono (by first | omega | decide)) passE (pa_cons (pv 1) (pa_cons (pv 11) (pa_cons (pv 10) pa_nil)))) (pv 11) (nomark _)) (pw_or1 (pt_cmpR (op_neD hr.units) (pe_fn R.F_both (hr.mono (by first | omega | decide)) passE (pa_cons (pv 1) (pa_cons (pv 13) (pa_cons (pv 3) pa_nil)))) (pv 13) (nomark _))))) (pss_one (ps_ret pe_bl)) pss_nil)
      (pss_cons (ps_if (PW.pt (pw_or (pt_cmpR (op_neD hr.units) (pe_fn R.F_both (hr.mono (by first | omega | decide)) passE (pa_cons (pv 1) (pa_cons (pe_fn R.F_put_before (hr.mono (by first | omega | decide)) passE (pa_cons (pv 1) (pa_cons (pv 11) (pa_cons (pv 10) pa_nil)))) (pa_cons (pv 3) pa_nil)))) (pv 3) (nomark _)) (pw_or1 (pt_cmpR (op_neD hr.units) (pe_fn R.F_put_before (hr.mono (by first | omega | decide)) passE (pa_cons (pv 1) (pa_cons (pv 12) (pa_cons (pv 10) pa_nil)))) (pv 12) (nomark _))))) (pss_one (ps_ret pe_bl)) pss_nil)
      (pss_cons (ps_if (pt_cmpR (op_neD hr.units) (pe_fn R.F_put_into (hr.mono (by first | omega | decide)) passE (pa_cons (pv 1) (pa_cons (pe_fn R.F_either (hr.mono (by first | omega | decide)) passE (pa_cons (pv 1) (pa_cons (pv 3) (pa_cons (pv 4) pa_nil)))) (pa_cons (pv 10) pa_nil)))) (pe_fn R.F_either (hr.mono (by first | omega | decide)) passE (pa_cons (pv 1) (pa_cons (pv 11) (pa_cons (pe_fn R.F_put_into (hr.mono (by first | omega | decide)) passE (pa_cons (pv 1) (pa_cons (pv 4) (pa_cons (pv 10) pa_nil)))) pa_nil)))) (nomark _)) (pss_one (ps_ret pe_bl)) pss_nil)
      (pss_cons (ps_if (pt_cmpR (op_neD hr.units) (pe_fn R.F_put_before (hr.mono (by first | omega | decide)) passE (pa_cons (pv 1) (pa_cons (pe_ix ix_list (pv 7) pe_int (fun _ _ => rfl)) (pa_cons (pv 10) pa_nil)))) (pe_fn R.F_others (hr.mono (by first | omega | decide)) passE (pa_cons (pv 1) (pa_cons (pv 12) pa_nil))) (nomark _)) (pss_one (ps_ret pe_bl)) pss_nil)
      (pss_cons (ps_for (passes_of rfl) rfl (pi_tup (pe_tup (pa_cons (pv 3) (pa_cons (pv 11) (pa_cons (pv 12) (pa_cons (pe_ix ix_list (pv 7) pe_int (fun _ _ => rfl)) pa_nil)))))) (pg_name (i := 6) sc__law_right.nd rfl (Or.inl rfl))
      (pss_cons (ps_if (PW.pt (pw_or (pt_cmpR op_notBl (pe_fn R.F_is_heads (hr.mono (by first | omega | decide)) passE0 (pa_cons (pv 1) (pa_cons (pv 6) pa_nil))) pe_bl (nomark _)) (pw_or1 (pt_cmpR (op_neD hr.units) (pe_fn R.F_plain (hr.mono (by first | omega | decide)) passE (pa_cons (pv 1) (pa_cons (pe_revT (pv 6)) pa_nil))) (pv 6) (nomark _))))) (pss_one (ps_ret pe_bl)) pss_nil)
      (pss_cons (ps_set (i := 14) sc__law_right.nd rfl (Or.inl rfl) (pe_fn R.F_least_head (hr.mono (by first | omega | decide)) passE0 (pa_cons (pv 1) (pa_cons (pv 6) pa_nil))))
      (pss_cons (ps_if (PW.pt (pw_or (pt_cmpR op_ne (pe_cmpR op_isN (pv 14) pe_non (nomark _)) (pe_cmpR (op_eqD hr.units) (pv 6) (pe_tup pa_nil) (nomark _)) (nomark _)) (pw_or1 (PW.pt (pw_and (pt_cmpR op_notN (pv 14) pe_non (nomark _)) (pw_and1 (pt_not (pt_val (pe_fn R.F_has_head (hr.mono (by first | omega | decide)) passE0 (pa_cons (pv 1) (pa_cons (pv 6) (pa_cons (pv 14) pa_nil)))))))))))) (pss_one (ps_ret pe_bl)) pss_nil)
      (pss_one (ps_if (PW.pt (pw_and (pt_cmpR (op_neD hr.units) (pv 6) (pe_tup pa_nil) (nomark _)) (pw_and1 (pt_cmpR op_gt (pe_fn R.F_how_many (hr.mono (by first | omega | decide)) passE0 (pa_cons (pv 1) (pa_cons (pv 6) pa_nil))) (pe_fn R.F_how_many (hr.mono (by first | omega | decide)) passE0 (pa_cons (pv 1) (pa_cons (pe_fn R.F_put_into (hr.mono (by first | omega | decide)) passE (pa_cons (pv 1) (pa_cons (pv 6) (pa_cons (pe_op op_mulS pe_str (pv 1)) pa_nil)))) pa_nil))) (nomark _))))) (pss_one (ps_ret pe_bl)) pss_nil))))))
      (pss_cons (ps_for (passes_of rfl) rfl (pi_range1 (by rfl) X.b_range (pa_cons pe_int pa_nil)) (pg_name (i := 2) sc__law_right.nd rfl (Or.inl rfl))
      (pss_cons (ps_set (i := 14) sc__law_right.nd rfl (Or.inl rfl) (pe_fn R.F__law_row (hr.mono (by first | omega | decide)) passE0 (pa_cons (pv 0) (pa_cons (pv 1) (pa_cons pe_str pa_nil)))))
      (pss_cons (ps_if (pt_cmpR op_ne (pe_fn R.F_has_head (hr.mono (by first | omega | decide)) passE0 (pa_cons (pv 1) (pa_cons (pv 12) (pa_cons (pv 14) pa_nil)))) (pe_fn R.F_has_head (hr.mono (by first | omega | decide)) passE0 (pa_cons (pv 1) (pa_cons (pv 3) (pa_cons (pe_fn R.F__law_put (hr.mono (by first | omega | decide)) passE0 (pa_cons (pv 14) (pa_cons (pv 10) pa_nil))) pa_nil)))) (nomark _)) (pss_one (ps_ret pe_bl)) pss_nil)
      (pss_cons (ps_if (PW.pt (pw_and (pt_val (pe_fn R.F_has_head (hr.mono (by first | omega | decide)) passE0 (pa_cons (pv 1) (pa_cons (pv 3) (pa_cons (pv 14) pa_nil))))) (pw_and1 (pt_not (pt_val (pe_fn R.F_has_head (hr.mono (by first | omega | decide)) passE0 (pa_cons (pv 1) (pa_cons (pv 11) (pa_cons (pe_fn R.F__law_put (hr.mono (by first | omega | decide)) passE0 (pa_cons (pv 14) (pa_cons (pv 10) pa_nil))) pa_nil))))))))) (pss_one (ps_ret pe_bl)) pss_nil)
      (pss_one (ps_if (pt_cmpR op_eq (pe_fn R.F_has_head (hr.mono (by first | omega | decide)) passE0 (pa_cons (pv 1) (pa_cons (pe_ix ix_list (pv 7) pe_int (fun _ _ => rfl)) (pa_cons (pv 14) pa_nil)))) (pe_fn R.F_has_head (hr.mono (by first | omega | decide)) passE0 (pa_cons (pv 1) (pa_cons (pv 5) (pa_cons (pv 14) pa_nil)))) (nomark _)) (pss_one (ps_ret pe_bl)) pss_nil))))))
      (pss_one (ps_ret pe_bl))))))))))))))))))))⟩
end
end My
namespace My
open PySem PySem.Spec PyProof.Rows L2 LamX Tr
abbrev Fs := List (Addr × (R → Bool))
abbrev Ms := List (Addr × HO)
/-- what is known: the pot at p, heads, lists -/
structure Fc (T : List (Addr × Str)) (p : Addr) (L n : Nat) (l : Fs) (m : Ms) (H : Hp) : Prop where
  pot : PotIn p n H
  tab : Tabs T H
  all : ∀ u ∈ l, cut p p H u.1 = some (.tup ((pl L u.2).map pV)) ∧ (pl L u.2).length ≤ 4000
  lst : ∀ u ∈ m, cut p p H u.1 = some u.2
section
variable {P : Program} {w : World} {K : PySem.W.Frag} {mg : Str → Option Value} {base : Heap} {T : List (Addr × Str)} {CT : Addr}
section
variable {p : Addr} {L n n' : Nat} {l l' : Fs} {m m' : Ms} {H H' : Hp}
theorem potIn_extN (b : PotIn p n H) (x : ExtN H H') : PotIn p n H' := by
  obtain ⟨a, b, c, h, r⟩ := b
  exact ⟨a, b, c, x _ _ h (fun _ z => by cases z), r⟩
theorem tabs_pot (t : Tabs T H) (b : PotIn p n H) (x : Kp p H H') : Tabs T H' := by
  obtain ⟨a, b, c, h, r⟩ := b
  exact tabs_kp t h x
theorem Fc.step (f : Fc T p L n l m H) (x : Evl.Ex (cut p p H) (cut p p H')) (h1 : PotIn p n' H') (h2 : Tabs T H') : Fc T p L n' l m H' := ⟨h1, h2, fun u hu => ⟨x _ _ (f.all u hu).1, (f.all u hu).2⟩, fun u hu => x _ _ (f.lst u hu)⟩
theorem Fc.extN (f : Fc T p L n l m H) (x : ExtN H H') (t : Tabs T H') : Fc T p L n l m H' := f.step (cut_of_extN x) (potIn_extN f.pot x) t
theorem Fc.ex (f : Fc T p L n l m H) (x : Evl.Ex H H') : Fc T p L n l m H' := f.extN (ExtN.of x) (f.tab.ext x)
theorem Fc.kp (f : Fc T p L n l m H) (x : Kp p H H') (h1 : PotIn p n' H') : Fc T p L n' l m H' := f.step (cut_of_kp x) h1 (tabs_pot f.tab f.pot x)
theorem Fc.le (f : Fc T p L n l m H) (h : n' ≤ n) : Fc T p L n' l m H := ⟨f.pot.le h, f.tab, f.all, f.lst⟩
theorem Fc.sub (f : Fc T p L n l m H) (h1 : ∀ u ∈ l', u ∈ l) (h2 : ∀ u ∈ m', u ∈ m) : Fc T p L n l' m' H := ⟨f.pot, f.tab, fun u hu => f.all u (h1 u hu), fun u hu => f.lst u (h2 u hu)⟩
theorem Fc.new (f : Fc T p L n l m H) {r : Addr} {o : HO} (hr : H r = none) : Fc T p L n l m (upd H r o) := f.ex (Evl.Ex.new hr)
theorem Fc.heads (f : Fc T p L n l m H) {q : Addr} {S : R → Bool} (h : (q, S) ∈ l) : HeadsAt H L 16 q S := ⟨cut_ex _ _ (f.all _ h).1, (f.all _ h).2⟩
theorem Fc.obj (f : Fc T p L n l m H) {q : Addr} {o : HO} (h : (q, o) ∈ m) : H q = some o := cut_ex _ _ (f.lst _ h)
theorem Fc.add (f : Fc T p L n l m H) {r : Addr} {S : R → Bool} (hr : H r = none) (h : (pl L S).length ≤ 4000) : Fc T p L n ((r, S) :: l) m (upd H r (.tup ((pl L S).map pV))) := by
  have g := f.new (o := .tup ((pl L S).map pV)) hr
  refine ⟨g.pot, g.tab, fun u hu => ?_, g.lst⟩
  rcases List.mem_cons.mp hu with rfl | hu
  · have hrp : r ≠ p := fun z => f.pot.ne (by rw [← z]; exact hr)
    exact ⟨cut_get upd_same hrp hrp (fun _ z => by cases z), h⟩
  · exact g.all u hu
/-- the list at D is written -/
theorem Fc.put (f : Fc T p L n l m H) {D : Addr} {acc : List V} {o : HO} (hd : H D = some (.lst acc)) (hDp : D ≠ p) (hm : ∀ u ∈ m, u.1 ≠ D) : Fc T p L n l m (upd H D o) := by
  refine ⟨f.pot.mut hDp, tabs_upd f.tab hd (fun _ z => by cases z) (fun _ _ z => by unfold CodeO at z; cases z), fun u hu => ⟨?_, (f.all u hu).2⟩, fun u hu => ?_⟩
  · obtain ⟨h1, h2, h3, h4⟩ := cut_iff.mp (f.all u hu).1
    exact cut_get (by rw [upd_ne (fun z => by rw [z, hd] at h1; cases h1)]; exact h1) h2 h3 h4
  · obtain ⟨h1, h2, h3, h4⟩ := cut_iff.mp (f.lst u hu)
    exact cut_get (by rw [upd_ne (hm u hu)]; exact h1) h2 h3 h4
theorem Fc.know (f : Fc T p L n l m H) {D : Addr} {o : HO} (hd : H D = some o) (hDp : D ≠ p) (ho : ∀ ps, o ≠ .tbl ps := by intro _ z; cases z) : Fc T p L n l ((D, o) :: m) H := ⟨f.pot, f.tab, f.all, fun u hu => by
  rcases List.mem_cons.mp hu with rfl | hu
  · exact cut_get hd hDp hDp ho
  · exact f.lst u hu⟩
end
section
variable {p : Addr} {L n : Nat} {l : Fs} {m : Ms} {H : Hp} {Q : VK} {E : XK} {q1 q2 : Addr} {S1 S2 : R → Bool} {z : Str}
theorem ans_of {S : R → Bool} (f : Fc T p L n l m H) (too : ∀ H, TooE T CT H E) (k : ∀ r H', Fc T p L n ((r, S) :: l) m H' → Q (.ref r) H') : AnsE T CT H L S Q E :=
  ⟨fun hn H2 r e t hr => k r _ ((f.extN e t).add hr hn), fun _ => too H⟩
theorem c_both (f : Fc T p L n l m H) (h1 : (q1, S1) ∈ l) (h2 : (q2, S2) ∈ l) (l1 : 1 ≤ L) (l2 : L ≤ 16) (too : ∀ H, TooE T CT H E) (k : ∀ r H', Fc T p L n ((r, fun x => S1 x && S2 x) :: l) m H' → Q (.ref r) H') : spBothH T CT 16 [.int (L : Nat), .ref q1, .ref q2] H Q E :=
  ⟨L, q1, q2, S1, S2, rfl, l1, l2, l2, f.tab, f.heads h1, f.heads h2, ans_of f too k⟩
theorem c_either (f : Fc T p L n l m H) (h1 : (q1, S1) ∈ l) (h2 : (q2, S2) ∈ l) (l1 : 1 ≤ L) (l2 : L ≤ 16) (too : ∀ H, TooE T CT H E) (k : ∀ r H', Fc T p L n ((r, fun x => S1 x || S2 x) :: l) m H' → Q (.ref r) H') : spEitherH T CT 16 [.int (L : Nat), .ref q1, .ref q2] H Q E :=
  ⟨L, q1, q2, S1, S2, rfl, l1, l2, l2, f.tab, f.heads h1, f.heads h2, ans_of f too k⟩
theorem c_others (f : Fc T p L n l m H) (h1 : (q1, S1) ∈ l) (l1 : 1 ≤ L) (l2 : L ≤ 16) (too : ∀ H, TooE T CT H E) (k : ∀ r H', Fc T p L n ((r, fun x => !S1 x) :: l) m H' → Q (.ref r) H') : spOthers T CT 16 [.int (L : Nat), .ref q1] H Q E :=
  ⟨L, q1, S1, rfl, l1, l2, l2, f.tab, f.heads h1, ans_of f too k⟩
theorem c_into (f : Fc T p L n l m H) (h1 : (q1, S1) ∈ l) (hz : okRow L "01=" (.str z) = true) (l1 : 1 ≤ L) (l2 : L ≤ 16) (too : ∀ H, TooE T CT H E) (k : ∀ r H', Fc T p L n ((r, into L (unt z) S1) :: l) m H' → Q (.ref r) H') : spPutInto T CT 16 [.int (L : Nat), .ref q1, .str z] H Q E :=
  ⟨L, q1, S1, z, rfl, l1, l2, l2, f.tab, f.heads h1, hz, ans_of (S := into L (unt z) S1) f too k⟩
theorem c_befo (f : Fc T p L n l m H) (h1 : (q1, S1) ∈ l) (hz : okRow L "01=" (.str z) = true) (l1 : 1 ≤ L) (l2 : L ≤ 16) (too : ∀ H, TooE T CT H E) (k : ∀ r H', Fc T p L n ((r, befo (unt z) S1) :: l) m H' → Q (.ref r) H') : spPutBefore T CT 16 [.int (L : Nat), .ref q1, .str z] H Q E :=
  ⟨L, q1, S1, z, rfl, l1, l2, l2, f.tab, f.heads h1, hz, ans_of (S := befo (unt z) S1) f too k⟩
theorem c_many (f : Fc T p L n l m H) (h1 : (q1, S1) ∈ l) (l1 : 1 ≤ L) (l2 : L ≤ 16) (k : ∀ H', Fc T p L n l m H' → ExtN H H' → Q (.int (((allR L).filter S1).length : Nat)) H') : spHowMany T 16 [.int (L : Nat), .ref q1] H Q E :=
  ⟨L, q1, S1, rfl, l1, l2, l2, f.tab, f.heads h1, fun H2 e t => k H2 (f.extN e t) e⟩
theorem c_least (f : Fc T p L n l m H) (h1 : (q1, S1) ∈ l) (l1 : 1 ≤ L) (l2 : L ≤ 16) (k : ∀ v H', Fc T p L n l m H' → LeastV L S1 v → Q v H') : spLeast T 16 [.int (L : Nat), .ref q1] H Q E :=
  ⟨L, q1, S1, rfl, l1, l2, l2, f.tab, f.heads h1, fun v H2 e t hv => k v H2 (f.extN e t) hv⟩
theorem c_has {x : R} (f : Fc T p L n l m H) (h1 : (q1, S1) ∈ l) (hx : x.length = L) (l1 : 1 ≤ L) (l2 : L ≤ 16) (k : ∀ H', Fc T p L n l m H' → Q (.bl (S1 x)) H') : spHasHead T 16 [.int (L : Nat), .ref q1, .str (rowS x)] H Q E :=
  ⟨L, q1, S1, x, rfl, l1, l2, l2, f.tab, f.heads h1, hx, fun H2 e t => k H2 (f.extN e t)⟩
theorem c_is (f : Fc T p L n l m H) (h1 : (q1, S1) ∈ l) (l1 : 1 ≤ L) (l2 : L ≤ 16) (k : ∀ H', Fc T p L n l m H' → Q (.bl true) H') : spIsHeads K T 16 [.int (L : Nat), .ref q1] H Q E := by
  have hh := f.heads h1
  refine ⟨L, _, rfl, l1, l2, l2, f.tab, .inr ⟨q1, _, rfl, hh.1, by rw [List.length_map]; exact hh.2, item_pV (fun p hp => pl_len hp) l2, fun _ => by rw [dec_map]; exact costT_sub (fun p hp => hp) hh.2 l2 l2, fun H' e t => ?_⟩⟩
  rw [isHeads_pl]
  exact k H' (f.extN e t)
/-- plain of the heads turned about -/
theorem c_plain {t : Addr} (f : Fc T p L n l m H) (ht : H t = some (.tup ((pl L S1).map pV).reverse)) (hn : (pl L S1).length ≤ 4000) (l1 : 1 ≤ L) (l2 : L ≤ 16) (k : ∀ r H', Fc T p L n ((r, S1) :: l) m H' → Q (.ref r) H') : spPlain T CT 16 [.int (L : Nat), .ref t] H Q E := by
  have hs : pl L (setOf (pl L S1).reverse) = pl L S1 := pl_congr fun x hx => by
    rw [← setOf_pl (S := S1) hx]
    unfold setOf
    rw [Bool.eq_iff_iff, List.any_eq_true, List.any_eq_true]
    refine exists_congr fun q => ?_
    rw [List.mem_reverse]
  refine ⟨L, t, (pl L S1).reverse, rfl, l1, l2, l2, f.tab, by rw [List.map_reverse]; exact ht, fun q hq => pl_len (List.mem_reverse.mp hq), by rw [List.length_reverse]; exact hn, costT_sub (S := S1) (fun q hq => List.mem_reverse.mp hq) (by rw [List.length_reverse]; exact hn) l2 l2, fun _ H2 r e t hr => ?_, fun z => ?_⟩
  · rw [hs]
    exact k r _ ((f.extN e t).add hr hn)
  · rw [hs] at z
    omega
/-- plain of few patterns -/
theorem c_few {t : Addr} {ps : List Pa} (f : Fc T p L n l m H) (ht : H t = some (.tup (ps.map pV))) (h3 : ps.length ≤ 3) (hl : ∀ x ∈ ps, x.length = L) (l1 : 1 ≤ L) (l2 : L ≤ 16) (k : ∀ r H', Fc T p L n ((r, setOf ps) :: l) m H' → ExtN H H' → Q (.ref r) H') : spPlain T CT 16 [.int (L : Nat), .ref t] H Q E := by
  have hn : (pl L (setOf ps)).length ≤ 4000 := few_16 (fun b => b) l2 h3 hl
  exact ⟨L, t, ps, rfl, l1, l2, l2, f.tab, ht, hl, by omega, costT_few h3 (Nat.le_refl _) l2, fun _ H2 r e t hr => k r _ ((f.extN e t).add hr hn) (e.trans (ExtN.new hr)), fun z => by omega⟩
theorem c_othersN (f : Fc T p L n l m H) (h1 : (q1, S1) ∈ l) (hn : (pl L fun x => !S1 x).length ≤ 4000) (l1 : 1 ≤ L) (l2 : L ≤ 16) (k : ∀ r H', Fc T p L n ((r, fun x => !S1 x) :: l) m H' → Q (.ref r) H') : spOthers T CT 16 [.int (L : Nat), .ref q1] H Q E :=
  ⟨L, q1, S1, rfl, l1, l2, l2, f.tab, f.heads h1, fun hn H2 r e t hr => k r _ ((f.extN e t).add hr hn), fun z => by omega⟩
/-- two of heads compared -/
theorem dp_at (f : Fc T p L n l m H) (h1 : (q1, S1) ∈ l) : Dp K H (.ref q1) (.tuple (tdt (pl L S1))) := .tup (.of (f.heads h1).1) (dpAll_txt _)
theorem eq_go (f : Fc T p L n l m H) (h1 : (q1, S1) ∈ l) (h2 : (q2, S2) ∈ l) (he : ∀ x : R, x.length = L → S1 x = S2 x) {A B : Prop} (b : B) : ∃ d, Dp K H (.ref q1) d ∧ ∃ x, Dp K H (.ref q2) x ∧ SeqAt.shaped d = true ∧ SeqAt.shaped x = true ∧ if d.eqv x = false then A else B := by
  refine ⟨_, dp_at f h1, _, dp_at f h2, shaped_txt _, shaped_txt _, ?_⟩
  rw [eqv_txt, pl_congr he, decide_eq_true rfl, if_neg (by decide)]
  exact b
end
end
end My
namespace My
open PySem PySem.Spec PyProof.Rows L2 LamX Tr
section
variable {P : Program} {w : World} {K : PySem.W.Frag} {mg : Str → Option Value} {base : Heap} {T : List (Addr × Str)} {CT : Addr}
/-- n times heads are made, with some draws each -/
theorem rngF {p : Addr} {L m n j c : Nat} {l : Fs} {ms : Ms} {te : TE} {σ : L2.St} {H : Hp} {Q : VK} (Gd : (R → Bool) → Prop) (f : Fc T p L (m + c * n) l ms H) (hn : n ≤ 1000) (hw : ∀ x, wipe ((wipe σ [j]).set j (some x)) [j] = wipe σ [j])
    (he : ∀ (i m' : Nat) (H' : Hp) (l' : Fs), i < n → Fc T p L (m' + c) l' ms H' → ∀ R : VK, (∀ r S H2, Fc T p L m' ((r, S) :: l') ms H2 → Evl.Ex (cut p p H') (cut p p H2) → Gd S → R (.ref r) H2) → te ((wipe σ [j]).set j (some (.int i))) H' R)
    (hQ : ∀ D H' (qs : Fs), qs.length = n → Fc T p L m (qs ++ l) ms H' → H' D = some (.lst (qs.map fun q => .ref q.1)) → (∀ q ∈ qs, Gd q.2) → D ≠ p → H D = none → Q (.ref D) H') : RngK (gName j) tYes te [j] σ Q [.int ((n : Nat) : Int)] H := by
  refine ⟨n, rfl, by omega, by omega, fun D hD => ?_⟩
  have hDp : D ≠ p := fun z => f.pot.ne (by rw [← z]; exact hD)
  have hms : ∀ u ∈ ms, u.1 ≠ D := fun u hu z => by
    have := cut_ex _ _ (f.lst u hu)
    rw [z, hD] at this
    cases this
  refine lc_range (n := n) (lo := 0) (fun i H' => i ≤ n ∧ ∃ qs : Fs, qs.length = i ∧ Fc T p L (m + c * (n - i)) (qs ++ l) ms H' ∧ H' D = some (.lst (qs.map fun q => .ref q.1)) ∧ ∀ q ∈ qs, Gd q.2) ⟨Nat.zero_le _, [], rfl, f.new hD, upd_same, by simp⟩ ?_ ?_
  · rintro i H' hi ⟨_, qs, hq, g, hd, hg⟩
    refine ⟨hw _, ?_⟩
    unfold L2.tYes
    dsimp only
    rw [if_pos rfl, Int.zero_add]
    have e : m + c * (n - i) = (m + c * (n - (i + 1))) + c := by
      rw [show n - i = (n - (i + 1)) + 1 by omega, Nat.mul_succ]
      omega
    rw [e] at g
    refine he i _ H' _ hi g _ fun r S H2 g2 e2 gS => ?_
    have hd2 := cut_ex _ _ (e2 _ _ (cut_get hd hDp hDp (fun _ z => by cases z)))
    refine ⟨_, hd2, ?_, hi, qs ++ [(r, S)], ?_, ?_, ?_, ?_⟩
    · rw [List.length_map, hq]
      exact Nat.lt_of_lt_of_le (show i < 1000 by omega) (by decide)
    · rw [List.length_append, hq]; rfl
    · refine (g2.put hd2 hDp hms).sub (fun u hu => ?_) fun u hu => hu
      rw [List.append_assoc, List.mem_append] at hu
      rcases hu with hu | hu
      · exact List.mem_cons_of_mem _ (List.mem_append_left _ hu)
      · rcases List.mem_cons.mp hu with rfl | hu
        · exact List.mem_cons_self ..
        · exact List.mem_cons_of_mem _ (List.mem_append_right _ hu)
    · rw [upd_same, List.map_append]; rfl
    · intro q hq
      rcases List.mem_append.mp hq with hq | hq
      · exact hg q hq
      · rw [List.mem_singleton.mp hq]; exact gS
  · rintro H' ⟨_, qs, hq, g, hd, hg⟩
    rw [Nat.sub_self, Nat.mul_zero, Nat.add_zero] at g
    exact hQ D H' qs hq g hd hg hDp hD
/-- over a tuple: heads or numbers are made of each -/
theorem lcB_tF {p : Addr} {L n j : Nat} {a : Addr} {l : Fs} {ms : Ms} {xs : List V} {te : TE} {σ : L2.St} {H : Hp} {Q : VK} (Iv : Nat → List V → Fs → Prop) (f : Fc T p L n l ms H) (ha : H a = some (.tup xs)) (h0 : Iv 0 [] l) (hn : xs.length ≤ 1000) (hw : ∀ x, wipe ((wipe σ [j]).set j (some x)) [j] = wipe σ [j])
    (he : ∀ i x ys l' ms' H', xs[i]? = some x → Iv i ys l' → Fc T p L n l' ms' H' → ∀ R : VK, (∀ y l2 H2, Iv (i + 1) (ys ++ [y]) l2 → Fc T p L n l2 ms' H2 → R y H2) → te ((wipe σ [j]).set j (some x)) H' R)
    (hQ : ∀ D H' ys l', Iv xs.length ys l' → Fc T p L n l' ((D, .lst ys) :: ms) H' → Q (.ref D) H') : LcB (Itt K a) (gName j) tYes te [j] σ H Q := by
  intro D hD
  have hDp : D ≠ p := fun z => f.pot.ne (by rw [← z]; exact hD)
  have haD : a ≠ D := ne_of_none ha hD
  have hap : a ≠ p := fun z => by
    obtain ⟨_, _, _, h, _⟩ := f.pot
    rw [z, h] at ha
    cases ha
  have hms : ∀ u ∈ ms, u.1 ≠ D := fun u hu z => by
    have := cut_ex _ _ (f.lst u hu)
    rw [z, hD] at this
    cases this
  refine lc_tup (xs := xs) (fun i H' => ∃ ys l', ys.length ≤ i ∧ Iv i ys l' ∧ Fc T p L n l' ((D, .lst ys) :: (a, .tup xs) :: ms) H') ⟨[], l, Nat.le_refl _, h0, ((f.new hD).know (by rw [upd_ne haD]; exact ha) hap).know upd_same hDp⟩ (fun i H' _ ⟨_, _, _, _, g⟩ => .of (g.obj (o := .tup xs) (by walk_at "mm"))) ?_ ?_
  · rintro i x H' hi ⟨ys, l', hl, hI, g⟩
    have hi2 := (List.getElem?_eq_some_iff.mp hi).1
    refine ⟨hw x, ?_⟩
    unfold L2.tYes
    dsimp only
    rw [if_pos rfl]
    refine he i x ys l' _ H' hi hI g _ fun y l2 H2 hI2 g2 => ⟨ys, g2.obj (by walk_at "mm"), Nat.lt_of_lt_of_le (show ys.length < 1000 by omega) (by decide), ys ++ [y], l2, ?_, hI2, ?_⟩
    · rw [List.length_append]
      exact Nat.add_le_add_right hl 1
    · refine (((g2.sub (m' := (a, .tup xs) :: ms) (fun u hu => hu) (fun u hu => List.mem_cons_of_mem _ hu)).put (g2.obj (o := .lst ys) (by walk_at "mm")) hDp fun u hu => ?_).know upd_same hDp)
      rcases List.mem_cons.mp hu with rfl | hu
      · exact haD
      · exact hms u hu
  · rintro H' ⟨ys, l', hl, hI, g⟩
    exact hQ D H' ys l' hI (g.sub (fun u hu => hu) fun u hu => by
      rcases List.mem_cons.mp hu with rfl | hu
      · exact List.mem_cons_self ..
      · exact List.mem_cons_of_mem _ (List.mem_cons_of_mem _ hu))
theorem three_of {α : Type} : ∀ {l : List α}, l.length = 3 → ∃ a b c, l = [a, b, c]
  | [a, b, c], _ => ⟨a, b, c, rfl⟩
theorem forB_tup {a : Addr} {xs : List V} {g : TG} {tb : TS} {D : Ends} {σ : L2.St} {H : Hp} (Pv : Nat → L2.St → Hp → Prop) (h0 : Pv 0 σ H) (hl : ∀ i σ H, i ≤ xs.length → Pv i σ H → SqT K H a xs)
    (hs : ∀ i x σ H, xs[i]? = some x → Pv i σ H → g x σ H fun σ2 H2 => tb { D with nx := Pv (i + 1), ct := Pv (i + 1), bk := D.nx } σ2 H2) (hd : ∀ σ H, Pv xs.length σ H → D.nx σ H) : ForB (Itt K a) g tb D σ H := for_tup Pv h0 hl hs hd
theorem star_eq : V.str ("*" : Str) = .str ⟨#[42]⟩ := by
  have e : ("*" : Str) = ⟨#[42]⟩ := by decide +kernel
  rw [e]
theorem eqs_eq : V.str ("=" : Str) = .str ⟨#[61]⟩ := by
  have e : ("=" : Str) = ⟨#[61]⟩ := by decide +kernel
  rw [e]
theorem stars_eq {z : Str} {L : Nat} (h : z.cps.toList = List.replicate ((L : Int)).toNat 42) : z = txt (List.replicate L none) := by
  obtain ⟨c⟩ := z
  unfold txt
  rw [List.map_replicate]
  congr 1
  apply Array.toList_inj.mp
  rw [h]
  simp [enc]
theorem frees_eq {z : Str} {L : Nat} (h : z.cps.toList = List.replicate ((L : Int)).toNat 61) : unt z = List.replicate L none := by
  unfold unt
  rw [h, List.map_replicate]
  simp [decC]
theorem frees_ok {z : Str} {L : Nat} (h : z.cps.toList = List.replicate ((L : Int)).toNat 61) : okRow L "01=" (.str z) = true := by
  rw [okRow_str, Bool.and_eq_true]
  have e2 : ("01=" : Str).cps.toList = [48, 49, 61] := by decide +kernel
  refine ⟨decide_eq_true ?_, List.all_eq_true.mpr fun c hc => ?_⟩
  · show z.cps.size = L
    rw [← Array.length_toList, h, List.length_replicate, Int.toNat_natCast]
  · rw [h] at hc
    rw [e2, (List.mem_replicate.mp hc).2]
    decide
theorem row_of : ∀ (cs : List Nat), (∀ c ∈ cs, c = 48 ∨ c = 49) → ∃ x : R, (⟨cs.toArray⟩ : Str) = rowS x ∧ x.length = cs.length := by
  intro cs h
  have : ∃ x : R, cs = (x.map some).map enc := by
    induction cs with
    | nil => exact ⟨[], rfl⟩
    | cons c cs ih =>
      obtain ⟨x, e⟩ := ih fun d hd => h d (List.mem_cons_of_mem _ hd)
      rcases h c (List.mem_cons_self ..) with rfl | rfl
      · exact ⟨false :: x, by rw [List.map_cons, List.map_cons, ← e]; rfl⟩
      · exact ⟨true :: x, by rw [List.map_cons, List.map_cons, ← e]; rfl⟩
  obtain ⟨x, rfl⟩ := this
  exact ⟨x, rfl, by rw [List.length_map, List.length_map]⟩
def Few (L : Nat) (S : R → Bool) : Prop := ∃ ps : List Pa, S = setOf ps ∧ ps.length ≤ 3 ∧ ∀ x ∈ ps, x.length = L
def spRight (T : List (Addr × Str)) (CT : Addr) : Sp := fun vs H Q E => ∃ (p : Addr) (n : Nat), vs = [.ref p] ∧ PotIn p (n + 1000) H ∧ Tabs T H ∧ (∀ H', Q (.bl true) H') ∧ ∀ d H2, H2 d = some (.xd [("value", .int 4000)]) → E (.ref CT) (some d) H2
theorem ok_right {f : Addr} {fd : FuncData} (F : FD K s__law_right "_law_right" "_law_right" f fd) (X : LxT mg) (R : RtG P w K mg base T CT) : FnOk P w K mg base (XC P w) 25 f fd ["pot"] (spRight T CT) := by
  refine F.ok sc__law_right (fun vs H Q E h => ?_) (fun cdv A outer s H vs Q E hr h => ?_)
  · obtain ⟨p, n, rfl, _⟩ := h
    rfl
  refine ⟨_, (pss_cons (ps_set (i := 1) sc__law_right.nd rfl (Or.inr rfl) (pe_callTy call_intI (by rfl) X.b_int (by decide +kernel) (pa_cons (pe_op op_add pe_int (pe_fn R.F__law_take (hr.mono (by first | omega | decide)) passE0 (pa_cons (pv 0) (pa_cons pe_int pa_nil)))) pa_nil)))
      (pss_cons (ps_asg (pe_lc (own := [("lap", 2)]) (g := (gName 2)) rfl sc__law_right.nd (pi_range1 (by rfl) X.b_range (pa_cons pe_int pa_nil)) (blkOk_by (own := [("lap", 2)]) (N := ["pot", "width", "lap", "one", "two", "three", "heads", "rest", "sizes", "place", "mask", "there", "back", "again", "head"]) (sc := defScope s__law_right) (by decide +kernel)) (fun _ _ _ _ _ => pg_name (i := 2) sc__law_right.nd rfl (Or.inl rfl)) (fun _ _ _ _ _ => pts_nil) (fun _ _ _ _ _ => (pe_fn R.F_plain (hr.mono (by first | omega | decide)) passE0 (pa_cons (pv 1) (pa_cons (pe_fn R.F__law_patterns (hr.mono (by first | omega | decide)) passE0 (pa_cons (pv 0) (pa_cons (pv 1) (pa_cons pe_int pa_nil)))) pa_nil))))) (pg_unl (by rfl) (pgs_cons (pg_name (i := 3) sc__law_right.nd rfl (Or.inl rfl)) (pgs_cons (pg_name (i := 4) sc__law_right.nd rfl (Or.inl rfl)) (pgs_cons (pg_name (i := 5) sc__law_right.nd rfl (Or.inl rfl)) pgs_nil)))))
      (pss_cons (ps_setLc (i := 7) (own := [("heads", 6)]) (g := (gName 6)) rfl sc__law_right.nd rfl rfl (sw_true rfl rfl rfl (by decide +kernel)) (pi_tup (pe_tup (pa_cons (pv 3) (pa_cons (pv 4) (pa_cons (pv 5) pa_nil))))) (blkOk_by (own := [("heads", 6)]) (N := ["pot", "width", "lap", "one", "two", "three", "heads", "rest", "sizes", "place", "mask", "there", "back", "again", "head"]) (sc := defScope s__law_right) (by decide +kernel)) (fun _ _ _ _ _ => pg_name (i := 6) sc__law_right.nd rfl (Or.inl rfl)) (fun _ _ _ _ _ => pts_nil) (fun _ _ _ _ _ => (pe_fn R.F_others (hr.mono (by first | omega | decide)) passE0 (pa_cons (pv 1) (pa_cons (pv 6) pa_nil)))))
      (pss_cons (ps_if (pt_cmpR (op_neD hr.units) (pe_fn R.F_others (hr.mono (by first | omega | decide)) passE (pa_cons (pv 1) (pa_cons (pe_fn R.F_both (hr.mono (by first | omega | decide)) passE (pa_cons (pv 1) (pa_cons (pv 3) (pa_cons (pv 4) pa_nil)))) pa_nil))) (pe_fn R.F_either (hr.mono (by first | omega | decide)) passE (pa_cons (pv 1) (pa_cons (pe_ix ix_list (pv 7) pe_int (fun _ _ => rfl)) (pa_cons (pe_ix ix_list (pv 7) pe_int (fun _ _ => rfl)) pa_nil)))) (nomark _)) (pss_one (ps_ret pe_bl)) pss_nil)
      (pss_cons (ps_if (pt_cmpR (op_neD hr.units) (pe_fn R.F_both (hr.mono (by first | omega | decide)) passE (pa_cons (pv 1) (pa_cons (pv 3) (pa_cons (pe_fn R.F_either (hr.mono (by first | omega | decide)) passE (pa_cons (pv 1) (pa_cons (pv 4) (pa_cons (pv 5) pa_nil)))) pa_nil)))) (pe_fn R.F_either (hr.mono (by first | omega | decide)) passE (pa_cons (pv 1) (pa_cons (pe_fn R.F_both (hr.mono (by first | omega | decide)) passE (pa_cons (pv 1) (pa_cons (pv 3) (pa_cons (pv 4) pa_nil)))) (pa_cons (pe_fn R.F_both (hr.mono (by first | omega | decide)) passE (pa_cons (pv 1) (pa_cons (pv 3) (pa_cons (pv 5) pa_nil)))) pa_nil)))) (nomark _)) (pss_one (ps_ret pe_bl)) pss_nil)
      (pss_cons (ps_if (pt_cmpR (op_neD hr.units) (pe_fn R.F_either (hr.mono (by first | omega | decide)) passE (pa_cons (pv 1) (pa_cons (pv 3) (pa_cons (pe_fn R.F_both (hr.mono (by first | omega | decide)) passE (pa_cons (pv 1) (pa_cons (pv 4) (pa_cons (pv 5) pa_nil)))) pa_nil)))) (pe_fn R.F_both (hr.mono (by first | omega | decide)) passE (pa_cons (pv 1) (pa_cons (pe_fn R.F_either (hr.mono (by first | omega | decide)) passE (pa_cons (pv 1) (pa_cons (pv 3) (pa_cons (pv 4) pa_nil)))) (pa_cons (pe_fn R.F_either (hr.mono (by first | omega | decide)) passE (pa_cons (pv 1) (pa_cons (pv 3) (pa_cons (pv 5) pa_nil)))) pa_nil)))) (nomark _)) (pss_one (ps_ret pe_bl)) pss_nil)
      (pss_cons (ps_if (PW.pt (pw_or (pt_cmpR (op_neD hr.units) (pe_fn R.F_both (hr.mono (by first | omega | decide)) passE (pa_cons (pv 1) (pa_cons (pv 3) (pa_cons (pe_fn R.F_either (hr.mono (by first | omega | decide)) passE (pa_cons (pv 1) (pa_cons (pv 3) (pa_cons (pv 4) pa_nil)))) pa_nil)))) (pv 3) (nomark _)) (pw_or1 (pt_cmpR (op_neD hr.units) (pe_fn R.F_either (hr.mono (by first | omega | decide)) passE (pa_cons (pv 1) (pa_cons (pv 3) (pa_cons (pe_ix ix_list (pv 7) pe_int (fun _ _ => rfl)) pa_nil)))) (pe_tup (pa_cons (pe_op op_mulS pe_str (pv 1)) pa_nil)) (nomark _))))) (pss_one (ps_ret pe_bl)) pss_nil)
      (pss_cons (ps_setLc (i := 8) (own := [("heads", 6)]) (g := (gName 6)) rfl sc__law_right.nd rfl rfl (sw_true rfl rfl rfl (by decide +kernel)) (pi_tup (pe_tup (pa_cons (pv 3) (pa_cons (pv 4) (pa_cons (pe_fn R.F_both (hr.mono (by first | omega | decide)) passE (pa_cons (pv 1) (pa_cons (pv 3) (pa_cons (pv 4) pa_nil)))) (pa_cons (pe_fn R.F_either (hr.mono (by first | omega | decide)) passE (pa_cons (pv 1) (pa_cons (pv 3) (pa_cons (pv 4) pa_nil)))) pa_nil)))))) (blkOk_by (own := [("heads", 6)]) (N := ["pot", "width", "lap", "one", "two", "three", "heads", "rest", "sizes", "place", "mask", "there", "back", "again", "head"]) (sc := defScope s__law_right) (by decide +kernel)) (fun _ _ _ _ _ => pg_name (i := 6) sc__law_right.nd rfl (Or.inl rfl)) (fun _ _ _ _ _ => pts_nil) (fun _ _ _ _ _ => (pe_fn R.F_how_many (hr.mono (by first | omega | decide)) passE0 (pa_cons (pv 1) (pa_cons (pv 6) pa_nil)))))
      (pss_cons (ps_if (pt_cmpR op_ne (pe_op op_add (pe_ix ix_list (pv 8) pe_int (fun _ _ => rfl)) (pe_ix ix_list (pv 8) pe_int (fun _ _ => rfl))) (pe_op op_add (pe_ix ix_list (pv 8) pe_int (fun _ _ => rfl)) (pe_ix ix_list (pv 8) pe_int (fun _ _ => rfl))) (nomark _)) (pss_one (ps_ret pe_bl)) pss_nil)
      (pss_cons (ps_set (i := 10) sc__law_right.nd rfl (Or.inl rfl) (pe_join pe_str (pe_lc (own := [("place", 9)]) (g := (gName 9)) rfl sc__law_right.nd (pi_range1 (by rfl) X.b_range (pa_cons (pv 1) pa_nil)) (blkOk_by (own := [("place", 9)]) (N := ["pot", "width", "lap", "one", "two", "three", "heads", "rest", "sizes", "place", "mask", "there", "back", "again", "head"]) (sc := defScope s__law_right) (by decide +kernel)) (fun _ _ _ _ _ => pg_name (i := 9) sc__law_right.nd rfl (Or.inl rfl)) (fun _ _ _ _ _ => pts_nil) (fun _ _ _ _ _ => (pe_fn R.F__law_of (hr.mono (by first | omega | decide)) passE0 (pa_cons (pv 0) (pa_cons pe_str pa_nil)))))))
      (pss_cons (ps_par (i := 11) (j := 12) (by rfl) sc__law_right.nd rfl rfl (by decide) rfl rfl (pa_cons (pe_fn R.F_put_into (hr.mono (by first | omega | decide)) passE (pa_cons (pv 1) (pa_cons (pv 3) (pa_cons (pv 10) pa_nil)))) (pa_cons (pe_fn R.F_put_before (hr.mono (by first | omega | decide)) passE (pa_cons (pv 1) (pa_cons (pv 3) (pa_cons (pv 10) pa_nil)))) pa_nil)) (by rfl))
      (pss_cons (ps_set (i := 13) sc__law_right.nd rfl (Or.inl rfl) (pe_fn R.F_put_into (hr.mono (by first | omega | decide)) passE (pa_cons (pv 1) (pa_cons (pv 12) (pa_cons (pv 10) pa_nil)))))
      (pss_cons (ps_if (PW.pt (pw_or (pt_cmpR (op_neD hr.units) (pe_fn R.F_put_into (hr.mono (by first | omega | decide)) passE (pa_cons (pv 1) (pa_cons (pv 11) (pa_cons (pv 10) pa_nil)))) (pv 11) (nomark _)) (pw_or1 (pt_cmpR (op_neD hr.units) (pe_fn R.F_both (hr.mono (by first | omega | decide)) passE (pa_cons (pv 1) (pa_cons (pv 13) (pa_cons (pv 3) pa_nil)))) (pv 13) (nomark _))))) (pss_one (ps_ret pe_bl)) pss_nil)
      (pss_cons (ps_if (PW.pt (pw_or (pt_cmpR (op_neD hr.units) (pe_fn R.F_both (hr.mono (by first | omega | decide)) passE (pa_cons (pv 1) (pa_cons (pe_fn R.F_put_before (hr.mono (by first | omega | decide)) passE (pa_cons (pv 1) (pa_cons (pv 11) (pa_cons (pv 10) pa_nil)))) (pa_cons (pv 3) pa_nil)))) (pv 3) (nomark _)) (pw_or1 (pt_cmpR (op_neD hr.units) (pe_fn R.F_put_before (hr.mono (by first | omega | decide)) passE (pa_cons (pv 1) (pa_cons (pv 12) (pa_cons (pv 10) pa_nil)))) (pv 12) (nomark _))))) (pss_one (ps_ret pe_bl)) pss_nil)
      (pss_cons (ps_if (pt_cmpR (op_neD hr.units) (pe_fn R.F_put_into (hr.mono (by first | omega | decide)) passE (pa_cons (pv 1) (pa_cons (pe_fn R.F_either (hr.mono (by first | omega | decide)) passE (pa_cons (pv 1) (pa_cons (pv 3) (pa_cons (pv 4) pa_nil)))) (pa_cons (pv 10) pa_nil)))) (pe_fn R.F_either (hr.mono (by first | omega | decide)) passE (pa_cons (pv 1) (pa_cons (pv 11) (pa_cons (pe_fn R.F_put_into (hr.mono (by first | omega | decide)) passE (pa_cons (pv 1) (pa_cons (pv 4) (pa_cons (pv 10) pa_nil)))) pa_nil)))) (nomark _)) (pss_one (ps_ret pe_bl)) pss_nil)
      (pss_cons (ps_if (pt_cmpR (op_neD hr.units) (pe_fn R.F_put_before (hr.mono (by first | omega | decide)) passE (pa_cons (pv 1) (pa_cons (pe_ix ix_list (pv 7) pe_int (fun _ _ => rfl)) (pa_cons (pv 10) pa_nil)))) (pe_fn R.F_others (hr.mono (by first | omega | decide)) passE (pa_cons (pv 1) (pa_cons (pv 12) pa_nil))) (nomark _)) (pss_one (ps_ret pe_bl)) pss_nil)
      (pss_cons (ps_for (passes_of rfl) rfl (pi_tup (pe_tup (pa_cons (pv 3) (pa_cons (pv 11) (pa_cons (pv 12) (pa_cons (pe_ix ix_list (pv 7) pe_int (fun _ _ => rfl)) pa_nil)))))) (pg_name (i := 6) sc__law_right.nd rfl (Or.inl rfl))
      (pss_cons (ps_if (PW.pt (pw_or (pt_cmpR op_notBl (pe_fn R.F_is_heads (hr.mono (by first | omega | decide)) passE0 (pa_cons (pv 1) (pa_cons (pv 6) pa_nil))) pe_bl (nomark _)) (pw_or1 (pt_cmpR (op_neD hr.units) (pe_fn R.F_plain (hr.mono (by first | omega | decide)) passE (pa_cons (pv 1) (pa_cons (pe_revT (pv 6)) pa_nil))) (pv 6) (nomark _))))) (pss_one (ps_ret pe_bl)) pss_nil)
      (pss_cons (ps_set (i := 14) sc__law_right.nd rfl (Or.inl rfl) (pe_fn R.F_least_head (hr.mono (by first | omega | decide)) passE0 (pa_cons (pv 1) (pa_cons (pv 6) pa_nil))))
      (pss_cons (ps_if (PW.pt (pw_or (pt_cmpR op_ne (pe_cmpR op_isN (pv 14) pe_non (nomark _)) (pe_cmpR (op_eqD hr.units) (pv 6) (pe_tup pa_nil) (nomark _)) (nomark _)) (pw_or1 (PW.pt (pw_and (pt_cmpR op_notN (pv 14) pe_non (nomark _)) (pw_and1 (pt_not (pt_val (pe_fn R.F_has_head (hr.mono (by first | omega | decide)) passE0 (pa_cons (pv 1) (pa_cons (pv 6) (pa_cons (pv 14) pa_nil)))))))))))) (pss_one (ps_ret pe_bl)) pss_nil)
      (pss_one (ps_if (PW.pt (pw_and (pt_cmpR (op_neD hr.units) (pv 6) (pe_tup pa_nil) (nomark _)) (pw_and1 (pt_cmpR op_gt (pe_fn R.F_how_many (hr.mono (by first | omega | decide)) passE0 (pa_cons (pv 1) (pa_cons (pv 6) pa_nil))) (pe_fn R.F_how_many (hr.mono (by first | omega | decide)) passE0 (pa_cons (pv 1) (pa_cons (pe_fn R.F_put_into (hr.mono (by first | omega | decide)) passE (pa_cons (pv 1) (pa_cons (pv 6) (pa_cons (pe_op op_mulS pe_str (pv 1)) pa_nil)))) pa_nil))) (nomark _))))) (pss_one (ps_ret pe_bl)) pss_nil))))))
      (pss_cons (ps_for (passes_of rfl) rfl (pi_range1 (by rfl) X.b_range (pa_cons pe_int pa_nil)) (pg_name (i := 2) sc__law_right.nd rfl (Or.inl rfl))
      (pss_cons (ps_set (i := 14) sc__law_right.nd rfl (Or.inl rfl) (pe_fn R.F__law_row (hr.mono (by first | omega | decide)) passE0 (pa_cons (pv 0) (pa_cons (pv 1) (pa_cons pe_str pa_nil)))))
      (pss_cons (ps_if (pt_cmpR op_ne (pe_fn R.F_has_head (hr.mono (by first | omega | decide)) passE0 (pa_cons (pv 1) (pa_cons (pv 12) (pa_cons (pv 14) pa_nil)))) (pe_fn R.F_has_head (hr.mono (by first | omega | decide)) passE0 (pa_cons (pv 1) (pa_cons (pv 3) (pa_cons (pe_fn R.F__law_put (hr.mono (by first | omega | decide)) passE0 (pa_cons (pv 14) (pa_cons (pv 10) pa_nil))) pa_nil)))) (nomark _)) (pss_one (ps_ret pe_bl)) pss_nil)
      (pss_cons (ps_if (PW.pt (pw_and (pt_val (pe_fn R.F_has_head (hr.mono (by first | omega | decide)) passE0 (pa_cons (pv 1) (pa_cons (pv 3) (pa_cons (pv 14) pa_nil))))) (pw_and1 (pt_not (pt_val (pe_fn R.F_has_head (hr.mono (by first | omega | decide)) passE0 (pa_cons (pv 1) (pa_cons (pv 11) (pa_cons (pe_fn R.F__law_put (hr.mono (by first | omega | decide)) passE0 (pa_cons (pv 14) (pa_cons (pv 10) pa_nil))) pa_nil))))))))) (pss_one (ps_ret pe_bl)) pss_nil)
      (pss_one (ps_if (pt_cmpR op_eq (pe_fn R.F_has_head (hr.mono (by first | omega | decide)) passE0 (pa_cons (pv 1) (pa_cons (pe_ix ix_list (pv 7) pe_int (fun _ _ => rfl)) (pa_cons (pv 14) pa_nil)))) (pe_fn R.F_has_head (hr.mono (by first | omega | decide)) passE0 (pa_cons (pv 1) (pa_cons (pv 5) (pa_cons (pv 14) pa_nil)))) (nomark _)) (pss_one (ps_ret pe_bl)) pss_nil))))))
      (pss_one (ps_ret pe_bl)))))))))))))))))))), ?_⟩
  try dsimp only [cxOf]
  obtain ⟨p, n, rfl, hp, ht, k, ke⟩ := h
  have too : ∀ H, TooE T CT H E := fun H d H2 _ _ hd => ke d H2 hd
  -- width
  refine seq_cut (fun σ H1 => ∃ L : Nat, 9 ≤ L ∧ L ≤ 16 ∧ σ = [some (.ref p), some (.int (L : Nat)), none, none, none, none, none, none, none, none, none, none, none, none, none] ∧ Fc T p L (n + 999) [] [] H1) ?_ ?_
  rotate_left
  · intro k hk
    walk_at "sx"
    refine ⟨p, 8, n + 999, rfl, by decide, by decide, hp, fun i H1 hi p1 k1 => ?_⟩
    have e : (9 : Int) + (i : Nat) = ((9 + i : Nat) : Int) := by omega
    refine ⟨i, rfl, ?_⟩
    rw [e]
    exact hk _ _ ⟨9 + i, by omega, by omega, rfl, p1, tabs_pot ht hp k1, by simp, by simp⟩
  rintro σ H1 ⟨L, l9, l16, rfl, f1⟩
  have l1 : 1 ≤ L := by omega
  -- one, two, three
  refine seq_cut (fun σ H2 => ∃ (q1 q2 q3 : Addr) (S1 S2 S3 : Tr.R → Bool), σ = [some (.ref p), some (.int (L : Nat)), none, some (.ref q1), some (.ref q2), some (.ref q3), none, none, none, none, none, none, none, none, none] ∧ Few L S1 ∧ Few L S2 ∧ Few L S3 ∧ Fc T p L (n + 800) [(q1, S1), (q2, S2), (q3, S3)] [] H2) ?_ ?_
  rotate_left
  · intro k hk
    dsimp only [L2.tAsg]
    refine tLc_rngK ?_
    walk_at "sx"
    refine rngF (n := 3) (c := 50) (m := n + 800) (l := []) (ms := []) (p := p) (Few L) (f1.le (by omega)) (by decide) (fun _ => rfl) (fun i m' H' l' hi g R r => ?_) (fun D H' qs hq g hd hg hDp hD => ?_)
    · walk_at "sx"
      refine ⟨p, L, m', rfl, by omega, g.pot.le (by omega), fun ps q H2 h3 hl p2 k2 hq0 hq => ?_⟩
      exact c_few (g.kp k2 p2) hq h3 hl l1 l16 fun rr H3 g3 e3 => r rr (setOf ps) H3 g3 ((cut_of_kp k2).trans (cut_of_extN e3)) ⟨ps, rfl, h3, hl⟩
    · match qs, hq with
      | [a, b, c], _ =>
        refine ⟨D, _, rfl, .of hd, rfl, ?_⟩
        walk_at "sx"
        exact hk _ _ ⟨a.1, b.1, c.1, a.2, b.2, c.2, rfl, hg a (by simp), hg b (by simp), hg c (by simp), g⟩
  rintro σ H2 ⟨q1, q2, q3, S1, S2, S3, rfl, w1, w2, w3, f2⟩
  -- rest
  refine seq_cut (fun σ H3 => ∃ (rl r1 r2 r3 : Addr), σ = [some (.ref p), some (.int (L : Nat)), none, some (.ref q1), some (.ref q2), some (.ref q3), none, some (.ref rl), none, none, none, none, none, none, none] ∧ Fc T p L (n + 800) [(q1, S1), (q2, S2), (q3, S3), (r1, fun x => !S1 x), (r2, fun x => !S2 x), (r3, fun x => !S3 x)] [(rl, .lst [.ref r1, .ref r2, .ref r3])] H3) ?_ ?_
  rotate_left
  · intro k hk
    dsimp only [L2.tAsg]
    rw [tLc_eq]
    walk_at "sx"
    refine ⟨by decide, fun tq htq => ⟨⟨_, .of upd_same⟩, ?_⟩⟩
    refine lcB_tF (xs := [.ref q1, .ref q2, .ref q3]) (fun i ys l' => ∃ rs : Fs, ys = rs.map (fun q => .ref q.1) ∧ l' = rs ++ [(q1, S1), (q2, S2), (q3, S3)] ∧ rs.map (·.2) = (([S1, S2, S3].take i).map fun (S : Tr.R → Bool) (x : Tr.R) => !S x)) (f2.new htq) upd_same ⟨[], rfl, rfl, rfl⟩ (show 3 ≤ 1000 by decide) (fun _ => rfl) ?_ ?_
    · rintro i x ys l' ms' H3 hi ⟨rs, rfl, rfl, e⟩ g R r
      have hx : ∃ (q : Addr) (S : Tr.R → Bool), x = .ref q ∧ (q, S) ∈ [(q1, S1), (q2, S2), (q3, S3)] ∧ [S1, S2, S3][i]? = some S := by
        match i, hi with
        | 0, hi => exact ⟨q1, S1, (Option.some.inj hi).symm, by walk_at "mm", rfl⟩
        | 1, hi => exact ⟨q2, S2, (Option.some.inj hi).symm, by walk_at "mm", rfl⟩
        | 2, hi => exact ⟨q3, S3, (Option.some.inj hi).symm, by walk_at "mm", rfl⟩
      obtain ⟨q, S, rfl, hm, hS⟩ := hx
      have hf : Few L S := by
        simp only [List.mem_cons, List.not_mem_nil, or_false, Prod.mk.injEq] at hm
        rcases hm with ⟨_, rfl⟩ | ⟨_, rfl⟩ | ⟨_, rfl⟩
        · exact w1
        · exact w2
        · exact w3
      obtain ⟨ps, rfl, h3, hl⟩ := hf
      walk_at "sx"
      refine c_othersN g (List.mem_append_right _ hm) (few_16 (fun b => !b) l16 h3 hl) l1 l16 fun rr H4 g4 => r (.ref rr) (rs ++ (rr, fun x => !setOf ps x) :: [(q1, S1), (q2, S2), (q3, S3)]) H4 ⟨rs ++ [(rr, fun x => !setOf ps x)], by rw [List.map_append]; rfl, by rw [List.append_assoc]; rfl, ?_⟩ (g4.sub (fun u hu => ?_) fun u hu => hu)
      · rw [List.map_append, e, List.take_add_one, hS, List.map_append]
        rfl
      · rw [List.mem_append, List.mem_cons] at hu
        rw [List.mem_cons, List.mem_append]
        rcases hu with h | h | h
        · exact .inr (.inl h)
        · exact .inl h
        · exact .inr (.inr h)
    · rintro D H3 ys l' ⟨rs, rfl, rfl, e⟩ g
      have hlen : rs.length = 3 := by
        have := congrArg List.length e
        rw [List.length_map, List.length_map] at this
        exact this
      obtain ⟨a, b, c, rfl⟩ := three_of hlen
      simp only [List.map_cons, List.map_nil, List.length_cons, List.length_nil, List.take_succ_cons, List.take_zero, List.take, List.cons.injEq, and_true] at e
      obtain ⟨e1, e2, e3⟩ := e
      refine hk _ _ ⟨D, a.1, b.1, c.1, rfl, g.sub (fun u hu => ?_) fun u hu => hu⟩
      rw [← e1, ← e2, ← e3] at hu
      simp only [List.mem_cons, List.not_mem_nil, or_false, List.cons_append, List.nil_append] at hu ⊢
      rcases hu with h | h | h | h | h | h
      · exact .inr (.inr (.inr (.inl h)))
      · exact .inr (.inr (.inr (.inr (.inl h))))
      · exact .inr (.inr (.inr (.inr (.inr h))))
      · exact .inl h
      · exact .inr (.inl h)
      · exact .inr (.inr (.inl h))
  rintro σ H3 ⟨rl, r1, r2, r3, rfl, f3⟩
  -- others of both
  refine seq_cut (fun σ H4 => σ = [some (.ref p), some (.int (L : Nat)), none, some (.ref q1), some (.ref q2), some (.ref q3), none, some (.ref rl), none, none, none, none, none, none, none] ∧ Fc T p L (n + 800) [(q1, S1), (q2, S2), (q3, S3), (r1, fun x => !S1 x), (r2, fun x => !S2 x), (r3, fun x => !S3 x)] [(rl, .lst [.ref r1, .ref r2, .ref r3])] H4) ?_ ?_
  rotate_left
  · intro k hk
    walk_at "sx"
    refine c_both f3 (by walk_at "mm") (by walk_at "mm") l1 l16 too fun a1 H4 f4 => ?_
    refine c_others f4 (by walk_at "mm") l1 l16 too fun a2 H5 f5 => ?_
    refine ⟨_, .of (f5.obj (q := rl) (by walk_at "mm")), _, atI_nat (xs := [V.ref r1, .ref r2, .ref r3]) (j := 0) rfl, _, .of (f5.obj (q := rl) (by walk_at "mm")), _, atI_nat (xs := [V.ref r1, .ref r2, .ref r3]) (j := 1) rfl, ?_⟩
    refine c_either f5 (by walk_at "mm") (by walk_at "mm") l1 l16 too fun a3 H6 f6 => ?_
    refine eq_go f6 (by walk_at "mm") (by walk_at "mm") (fun x _ => ?_) (hk _ _ ⟨rfl, f6.sub (fun u hu => ?_) fun u hu => hu⟩)
    · cases S1 x <;> cases S2 x <;> rfl
    · exact List.mem_cons_of_mem _ (List.mem_cons_of_mem _ (List.mem_cons_of_mem _ hu))
  rintro σ H4 ⟨rfl, f4⟩
  obtain ⟨B, hB⟩ : ∃ B : Fs, B = [(q1, S1), (q2, S2), (q3, S3), (r1, fun x => !S1 x), (r2, fun x => !S2 x), (r3, fun x => !S3 x)] := ⟨_, rfl⟩
  obtain ⟨M, hM⟩ : ∃ M : Ms, M = [(rl, HO.lst [.ref r1, .ref r2, .ref r3])] := ⟨_, rfl⟩
  have mb1 : (q1, S1) ∈ B := by rw [hB]; walk_at "mm"
  have mb2 : (q2, S2) ∈ B := by rw [hB]; walk_at "mm"
  have mb3 : (q3, S3) ∈ B := by rw [hB]; walk_at "mm"
  have mb4 : (r1, fun x => !S1 x) ∈ B := by rw [hB]; walk_at "mm"
  have mb5 : (r2, fun x => !S2 x) ∈ B := by rw [hB]; walk_at "mm"
  have mb6 : (r3, fun x => !S3 x) ∈ B := by rw [hB]; walk_at "mm"
  have mm1 : (rl, HO.lst [.ref r1, .ref r2, .ref r3]) ∈ M := by rw [hM]; walk_at "mm"
  rw [← hB, ← hM] at f4
  clear hB hM f1 f2 f3
  -- distributed
  refine seq_cut (fun σ H5 => σ = [some (.ref p), some (.int (L : Nat)), none, some (.ref q1), some (.ref q2), some (.ref q3), none, some (.ref rl), none, none, none, none, none, none, none] ∧ Fc T p L (n + 800) B M H5) ?_ ?_
  rotate_left
  · intro k hk
    walk_at "sx"
    refine c_either (q1 := q2) (q2 := q3) f4 (by walk_at "mm") (by walk_at "mm") l1 l16 too fun a1 G1 g1 => ?_
    refine c_both (q1 := q1) (q2 := a1) g1 (by walk_at "mm") (by walk_at "mm") l1 l16 too fun a2 G2 g2 => ?_
    refine c_both (q1 := q1) (q2 := q2) g2 (by walk_at "mm") (by walk_at "mm") l1 l16 too fun a3 G3 g3 => ?_
    refine c_both (q1 := q1) (q2 := q3) g3 (by walk_at "mm") (by walk_at "mm") l1 l16 too fun a4 G4 g4 => ?_
    refine c_either (q1 := a3) (q2 := a4) g4 (by walk_at "mm") (by walk_at "mm") l1 l16 too fun a5 G5 g5 => ?_
    refine eq_go (q1 := a2) (q2 := a5) g5 (by walk_at "mm") (by walk_at "mm") (fun x _ => ?_) (hk _ _ ⟨rfl, g5.sub (fun u hu => List.mem_cons_of_mem _ (List.mem_cons_of_mem _ (List.mem_cons_of_mem _ (List.mem_cons_of_mem _ (List.mem_cons_of_mem _ (hu)))))) fun u hu => hu⟩)
    cases S1 x <;> cases S2 x <;> cases S3 x <;> rfl
  rintro σ H5 ⟨rfl, f5⟩
  -- the other way
  refine seq_cut (fun σ H5 => σ = [some (.ref p), some (.int (L : Nat)), none, some (.ref q1), some (.ref q2), some (.ref q3), none, some (.ref rl), none, none, none, none, none, none, none] ∧ Fc T p L (n + 800) B M H5) ?_ ?_
  rotate_left
  · intro k hk
    walk_at "sx"
    refine c_both (q1 := q2) (q2 := q3) f5 (by walk_at "mm") (by walk_at "mm") l1 l16 too fun a1 G1 g1 => ?_
    refine c_either (q1 := q1) (q2 := a1) g1 (by walk_at "mm") (by walk_at "mm") l1 l16 too fun a2 G2 g2 => ?_
    refine c_either (q1 := q1) (q2 := q2) g2 (by walk_at "mm") (by walk_at "mm") l1 l16 too fun a3 G3 g3 => ?_
    refine c_either (q1 := q1) (q2 := q3) g3 (by walk_at "mm") (by walk_at "mm") l1 l16 too fun a4 G4 g4 => ?_
    refine c_both (q1 := a3) (q2 := a4) g4 (by walk_at "mm") (by walk_at "mm") l1 l16 too fun a5 G5 g5 => ?_
    refine eq_go (q1 := a2) (q2 := a5) g5 (by walk_at "mm") (by walk_at "mm") (fun x _ => ?_) (hk _ _ ⟨rfl, g5.sub (fun u hu => List.mem_cons_of_mem _ (List.mem_cons_of_mem _ (List.mem_cons_of_mem _ (List.mem_cons_of_mem _ (List.mem_cons_of_mem _ (hu)))))) fun u hu => hu⟩)
    cases S1 x <;> cases S2 x <;> cases S3 x <;> rfl
  rintro σ H6 ⟨rfl, f6⟩
  -- absorbed
  refine seq_cut (fun σ H5 => σ = [some (.ref p), some (.int (L : Nat)), none, some (.ref q1), some (.ref q2), some (.ref q3), none, some (.ref rl), none, none, none, none, none, none, none] ∧ Fc T p L (n + 800) B M H5) ?_ ?_
  rotate_left
  · intro k hk
    walk_at "sx"
    refine c_either (q1 := q1) (q2 := q2) f6 (by walk_at "mm") (by walk_at "mm") l1 l16 too fun a1 G1 g1 => ?_
    refine c_both (q1 := q1) (q2 := a1) g1 (by walk_at "mm") (by walk_at "mm") l1 l16 too fun a2 G2 g2 => ?_
    refine eq_go (q1 := a2) (q2 := q1) g2 (by walk_at "mm") (by walk_at "mm") (fun x _ => ?_) ?_
    · cases S1 x <;> cases S2 x <;> rfl
    refine ⟨_, .of (g2.obj (q := rl) (by walk_at "mm")), _, atI_nat (xs := [V.ref r1, .ref r2, .ref r3]) (j := 0) rfl, ?_⟩
    refine c_either (q1 := q1) (q2 := r1) g2 (by walk_at "mm") (by walk_at "mm") l1 l16 too fun a3 G3 g3 => ?_
    refine ⟨42, L, star_eq, rfl, by omega, by omega, fun z hz => ⟨by decide, fun pp hpp => ?_⟩⟩
    have g4 := g3.new (o := .tup [V.str z]) hpp
    refine ⟨_, dp_at (q1 := a3) g4 (by walk_at "mm"), _, .tup (.of (by rw [upd_same, stars_eq hz]; rfl)) (dpAll_txt [List.replicate L none]), shaped_txt _, shaped_txt _, ?_⟩
    rw [eqv_txt, pl_all (fun x _ => by cases S1 x <;> rfl), decide_eq_true rfl, if_neg (by decide)]
    exact hk _ _ ⟨rfl, g4.sub (fun u hu => List.mem_cons_of_mem _ (List.mem_cons_of_mem _ (List.mem_cons_of_mem _ hu))) fun u hu => hu⟩
  rintro σ H7 ⟨rfl, f7⟩
  -- sizes
  refine seq_cut (fun σ H8 => ∃ sz : Addr, σ = [some (.ref p), some (.int (L : Nat)), none, some (.ref q1), some (.ref q2), some (.ref q3), none, some (.ref rl), some (.ref sz), none, none, none, none, none, none] ∧ Fc T p L (n + 800) B ((sz, .lst ([S1, S2, fun x => S1 x && S2 x, fun x => S1 x || S2 x].map fun S => V.int (((allR L).filter S).length : Nat))) :: M) H8) ?_ ?_
  rotate_left
  · intro k hk
    dsimp only [L2.tAsg]
    rw [tLc_eq]
    walk_at "sx"
    refine c_both (q1 := q1) (q2 := q2) f7 (by walk_at "mm") (by walk_at "mm") l1 l16 too fun a1 G1 g1 => ?_
    refine c_either (q1 := q1) (q2 := q2) g1 (by walk_at "mm") (by walk_at "mm") l1 l16 too fun a2 G2 g2 => ?_
    refine ⟨by decide, fun tq htq => ⟨⟨_, .of upd_same⟩, ?_⟩⟩
    refine lcB_tF (xs := [.ref q1, .ref q2, .ref a1, .ref a2]) (fun i ys l' => l' = (a2, fun x => S1 x || S2 x) :: (a1, fun x => S1 x && S2 x) :: B ∧ ys = ([S1, S2, fun x => S1 x && S2 x, fun x => S1 x || S2 x].take i).map fun S => V.int (((allR L).filter S).length : Nat)) (g2.new htq) upd_same ⟨rfl, rfl⟩ (show 4 ≤ 1000 by decide) (fun _ => rfl) ?_ ?_
    · rintro i x ys l' ms' H3 hi ⟨rfl, rfl⟩ g R r
      have hx : ∃ (q : Addr) (S : Tr.R → Bool), x = .ref q ∧ (q, S) ∈ (a2, fun x => S1 x || S2 x) :: (a1, fun x => S1 x && S2 x) :: B ∧ [S1, S2, fun x => S1 x && S2 x, fun x => S1 x || S2 x][i]? = some S := by
        match i, hi with
        | 0, hi => exact ⟨q1, S1, (Option.some.inj hi).symm, by walk_at "mm", rfl⟩
        | 1, hi => exact ⟨q2, S2, (Option.some.inj hi).symm, by walk_at "mm", rfl⟩
        | 2, hi => exact ⟨a1, _, (Option.some.inj hi).symm, by walk_at "mm", rfl⟩
        | 3, hi => exact ⟨a2, _, (Option.some.inj hi).symm, by walk_at "mm", rfl⟩
      obtain ⟨q, S, rfl, hm, hS⟩ := hx
      walk_at "sx"
      refine c_many g hm l1 l16 fun H4 g4 e4 => r _ _ H4 ⟨rfl, ?_⟩ g4
      rw [List.take_add_one, hS, List.map_append]
      rfl
    · rintro D H3 ys l' ⟨rfl, rfl⟩ g
      exact hk _ _ ⟨D, rfl, g.sub (fun u hu => List.mem_cons_of_mem _ (List.mem_cons_of_mem _ hu)) fun u hu => hu⟩
  rintro σ H8 ⟨sz, rfl, f8⟩
  -- the counts
  refine seq_cut (fun σ H9 => σ = [some (.ref p), some (.int (L : Nat)), none, some (.ref q1), some (.ref q2), some (.ref q3), none, some (.ref rl), some (.ref sz), none, none, none, none, none, none] ∧ Fc T p L (n + 800) B M H9) ?_ ?_
  rotate_left
  · intro k hk
    walk_at "sx"
    refine ⟨_, .of (f8.obj (q := sz) (by walk_at "mm")), _, atI_nat (j := 0) rfl, _, .of (f8.obj (q := sz) (by walk_at "mm")), _, atI_nat (j := 1) rfl, _, rfl, _, rfl, _, .of (f8.obj (q := sz) (by walk_at "mm")), _, atI_nat (j := 2) rfl, _, .of (f8.obj (q := sz) (by walk_at "mm")), _, atI_nat (j := 3) rfl, _, rfl, _, rfl, rfl, ?_⟩
    have hc := count_two S1 S2 (allR L)
    rw [decide_eq_true (by omega), if_neg (by decide)]
    exact hk _ _ ⟨rfl, f8.sub (fun u hu => hu) fun u hu => List.mem_cons_of_mem _ hu⟩
  rintro σ H9 ⟨rfl, f9⟩
  -- mask
  refine seq_cut (fun σ H10 => ∃ z : Str, σ = [some (.ref p), some (.int (L : Nat)), none, some (.ref q1), some (.ref q2), some (.ref q3), none, some (.ref rl), some (.ref sz), none, some (.str z), none, none, none, none] ∧ okRow L "01=" (.str z) = true ∧ Fc T p L (n + 400) B M H10) ?_ ?_
  rotate_left
  · intro k hk
    walk_at "sx"
    refine tLc_rngK ?_
    walk_at "sx"
    refine rngP (p := p) (m := n + 400) (n := L) (k := 1) (fun _ y _ => ∃ c, y = .str ⟨#[c]⟩ ∧ c ∈ ("01====" : Str).cps.toList) (fun _ _ _ _ _ h => h) (by omega) (f9.pot.le (by omega)) (fun _ => rfl) ?_ ?_
    · intro i m' H' D hi hD hDp hac kp pi R r
      walk_at "sx"
      refine ⟨p, _, _, m', rfl, ⟨.inr ⟨"01====", rfl, by decide +kernel, rfl⟩, fun z => by cases z⟩, ?_, ?_, pi, ?_⟩
      · rw [chV_len]; decide +kernel
      · rw [chV_len]; decide +kernel
      · intro v H2 hv p2 k2
        refine r v H2 p2 k2 ?_
        obtain ⟨c, hc, rfl⟩ := List.mem_map.mp hv
        exact ⟨c, rfl, hc⟩
    · intro D H' ys hD hDp kp pi hl hg hd
      obtain ⟨cs, rfl, hcs⟩ := chars_of ys hg
      refine ⟨D, rfl, cs.map fun c => ⟨#[c]⟩, .inl (.of (by rw [hd, List.map_map]; rfl)), ?_, ?_⟩
      · rw [List.map_map]
        have h1 := sum_ones cs
        rw [List.length_map] at hl
        have h2 : ((cs.map ((fun x => x.length) ∘ fun c => (⟨#[c]⟩ : Str))).sum) = cs.length := h1
        rw [h2, List.length_map, show ("" : Str).length = 0 by decide +kernel]
        omega
      · rw [join_chars]
        rw [List.length_map] at hl
        refine hk _ _ ⟨_, rfl, ?_, f9.kp kp pi⟩
        rw [okRow_str, Bool.and_eq_true]
        have e1 : ("01====" : Str).cps.toList = [48, 49, 61, 61, 61, 61] := by decide +kernel
        have e2 : ("01=" : Str).cps.toList = [48, 49, 61] := by decide +kernel
        refine ⟨decide_eq_true (by show cs.toArray.size = L; simpa using hl), List.all_eq_true.mpr fun c hc => ?_⟩
        have h := hcs c (by simpa using hc)
        rw [e1] at h
        rw [e2]
        simp only [List.mem_cons, List.not_mem_nil, or_false] at h
        rcases h with rfl | rfl | rfl | rfl | rfl | rfl <;> decide
  rintro σ H10 ⟨z, rfl, hz, f10⟩
  have hzl : z.length = L := by
    rw [okRow_str, Bool.and_eq_true] at hz
    exact of_decide_eq_true hz.1
  have hml : (unt z).length = L := (unt_len z).trans hzl
  -- there, back
  refine seq_cut (fun σ H11 => ∃ u1 u2 : Addr, σ = [some (.ref p), some (.int (L : Nat)), none, some (.ref q1), some (.ref q2), some (.ref q3), none, some (.ref rl), some (.ref sz), none, some (.str z), some (.ref u1), some (.ref u2), none, none] ∧ Fc T p L (n + 400) ((u2, befo (unt z) S1) :: (u1, into L (unt z) S1) :: B) M H11) ?_ ?_
  rotate_left
  · intro k hk
    walk_at "sx"
    refine c_into (q1 := q1) f10 (by walk_at "mm") hz l1 l16 too fun u1 G1 g1 => ?_
    refine c_befo (q1 := q1) g1 (by walk_at "mm") hz l1 l16 too fun u2 G2 g2 => ?_
    exact hk _ _ ⟨u1, u2, rfl, g2⟩
  rintro σ H11 ⟨u1, u2, rfl, f11⟩
  -- again
  refine seq_cut (fun σ H11 => ∃ u3 : Addr, σ = [some (.ref p), some (.int (L : Nat)), none, some (.ref q1), some (.ref q2), some (.ref q3), none, some (.ref rl), some (.ref sz), none, some (.str z), some (.ref u1), some (.ref u2), some (.ref u3), none] ∧ Fc T p L (n + 400) ((u3, into L (unt z) (befo (unt z) S1)) :: (u2, befo (unt z) S1) :: (u1, into L (unt z) S1) :: B) M H11) ?_ ?_
  rotate_left
  · intro k hk
    walk_at "sx"
    refine c_into (q1 := u2) f11 (by walk_at "mm") hz l1 l16 too fun u3 G1 g1 => ?_
    exact hk _ _ ⟨u3, rfl, g1⟩
  rintro σ H12 ⟨u3, rfl, f12⟩
  obtain ⟨C, hC⟩ : ∃ C : Fs, C = (u3, into L (unt z) (befo (unt z) S1)) :: (u2, befo (unt z) S1) :: (u1, into L (unt z) S1) :: B := ⟨_, rfl⟩
  have mc1 : (u1, into L (unt z) S1) ∈ C := by rw [hC]; walk_at "mm"
  have mc2 : (u2, befo (unt z) S1) ∈ C := by rw [hC]; walk_at "mm"
  have mc3 : (u3, into L (unt z) (befo (unt z) S1)) ∈ C := by rw [hC]; walk_at "mm"
  have mc4 : (q1, S1) ∈ C := by rw [hC]; walk_at "mm"
  have mc5 : (q2, S2) ∈ C := by rw [hC]; walk_at "mm"
  have mc6 : (q3, S3) ∈ C := by rw [hC]; walk_at "mm"
  have mc7 : (r1, fun x => !S1 x) ∈ C := by rw [hC]; walk_at "mm"
  have mc8 : (r2, fun x => !S2 x) ∈ C := by rw [hC]; walk_at "mm"
  have mc9 : (r3, fun x => !S3 x) ∈ C := by rw [hC]; walk_at "mm"
  rw [← hC] at f12
  clear hC mb1 mb2 mb3 mb4 mb5 mb6 f4 f5 f6 f7 f8 f9 f10 f11
  -- into twice
  refine seq_cut (fun σ H5 => σ = [some (.ref p), some (.int (L : Nat)), none, some (.ref q1), some (.ref q2), some (.ref q3), none, some (.ref rl), some (.ref sz), none, some (.str z), some (.ref u1), some (.ref u2), some (.ref u3), none] ∧ Fc T p L (n + 400) C M H5) ?_ ?_
  rotate_left
  · intro k hk
    walk_at "sx"
    refine c_into (q1 := u1) f12 (by walk_at "mm") hz l1 l16 too fun a1 G1 g1 => ?_
    refine eq_go (q1 := a1) (q2 := u1) g1 (by walk_at "mm") (by walk_at "mm") (fun x _ => into_into hml) ?_
    refine c_both (q1 := u3) (q2 := q1) g1 (by walk_at "mm") (by walk_at "mm") l1 l16 too fun a2 G2 g2 => ?_
    refine eq_go (q1 := a2) (q2 := u3) g2 (by walk_at "mm") (by walk_at "mm") (fun x _ => into_befo) (hk _ _ ⟨rfl, g2.sub (fun u hu => List.mem_cons_of_mem _ (List.mem_cons_of_mem _ (hu))) fun u hu => hu⟩)
  rintro σ H13 ⟨rfl, f13⟩
  -- before what goes in
  refine seq_cut (fun σ H5 => σ = [some (.ref p), some (.int (L : Nat)), none, some (.ref q1), some (.ref q2), some (.ref q3), none, some (.ref rl), some (.ref sz), none, some (.str z), some (.ref u1), some (.ref u2), some (.ref u3), none] ∧ Fc T p L (n + 400) C M H5) ?_ ?_
  rotate_left
  · intro k hk
    walk_at "sx"
    refine c_befo (q1 := u1) f13 (by walk_at "mm") hz l1 l16 too fun a1 G1 g1 => ?_
    refine c_both (q1 := a1) (q2 := q1) g1 (by walk_at "mm") (by walk_at "mm") l1 l16 too fun a2 G2 g2 => ?_
    refine eq_go (q1 := a2) (q2 := q1) g2 (by walk_at "mm") (by walk_at "mm") (fun x hx => befo_into hx) ?_
    refine c_befo (q1 := u2) g2 (by walk_at "mm") hz l1 l16 too fun a3 G3 g3 => ?_
    refine eq_go (q1 := a3) (q2 := u2) g3 (by walk_at "mm") (by walk_at "mm") (fun x hx => befo_befo (hml.trans hx.symm)) (hk _ _ ⟨rfl, g3.sub (fun u hu => List.mem_cons_of_mem _ (List.mem_cons_of_mem _ (List.mem_cons_of_mem _ (hu)))) fun u hu => hu⟩)
  rintro σ H14 ⟨rfl, f14⟩
  -- into of either
  refine seq_cut (fun σ H5 => σ = [some (.ref p), some (.int (L : Nat)), none, some (.ref q1), some (.ref q2), some (.ref q3), none, some (.ref rl), some (.ref sz), none, some (.str z), some (.ref u1), some (.ref u2), some (.ref u3), none] ∧ Fc T p L (n + 400) C M H5) ?_ ?_
  rotate_left
  · intro k hk
    walk_at "sx"
    refine c_either (q1 := q1) (q2 := q2) f14 (by walk_at "mm") (by walk_at "mm") l1 l16 too fun a1 G1 g1 => ?_
    refine c_into (q1 := a1) g1 (by walk_at "mm") hz l1 l16 too fun a2 G2 g2 => ?_
    refine c_into (q1 := q2) g2 (by walk_at "mm") hz l1 l16 too fun a3 G3 g3 => ?_
    refine c_either (q1 := u1) (q2 := a3) g3 (by walk_at "mm") (by walk_at "mm") l1 l16 too fun a4 G4 g4 => ?_
    refine eq_go (q1 := a2) (q2 := a4) g4 (by walk_at "mm") (by walk_at "mm") (fun x _ => into_or) (hk _ _ ⟨rfl, g4.sub (fun u hu => List.mem_cons_of_mem _ (List.mem_cons_of_mem _ (List.mem_cons_of_mem _ (List.mem_cons_of_mem _ (hu))))) fun u hu => hu⟩)
  rintro σ H15 ⟨rfl, f15⟩
  -- before of others
  refine seq_cut (fun σ H5 => σ = [some (.ref p), some (.int (L : Nat)), none, some (.ref q1), some (.ref q2), some (.ref q3), none, some (.ref rl), some (.ref sz), none, some (.str z), some (.ref u1), some (.ref u2), some (.ref u3), none] ∧ Fc T p L (n + 400) C M H5) ?_ ?_
  rotate_left
  · intro k hk
    walk_at "sx"
    refine ⟨_, .of (f15.obj (q := rl) (by walk_at "mm")), _, atI_nat (xs := [V.ref r1, .ref r2, .ref r3]) (j := 0) rfl, ?_⟩
    refine c_befo (q1 := r1) f15 (by walk_at "mm") hz l1 l16 too fun a1 G1 g1 => ?_
    refine c_others (q1 := u2) g1 (by walk_at "mm") l1 l16 too fun a2 G2 g2 => ?_
    refine eq_go (q1 := a1) (q2 := a2) g2 (by walk_at "mm") (by walk_at "mm") (fun x _ => rfl) (hk _ _ ⟨rfl, g2.sub (fun u hu => List.mem_cons_of_mem _ (List.mem_cons_of_mem _ (hu))) fun u hu => hu⟩)
  rintro σ H16 ⟨rfl, f16⟩
  -- each of four
  refine seq_cut (fun σ H17 => (∃ o6 o14, σ = [some (.ref p), some (.int (L : Nat)), none, some (.ref q1), some (.ref q2), some (.ref q3), o6, some (.ref rl), some (.ref sz), none, some (.str z), some (.ref u1), some (.ref u2), some (.ref u3), o14]) ∧ Fc T p L (n + 400) C M H17) ?_ ?_
  rotate_left
  · intro k hk
    rw [tFor_eq]
    walk_at "sx"
    refine ⟨_, .of (f16.obj (q := rl) (by walk_at "mm")), _, atI_nat (xs := [V.ref r1, .ref r2, .ref r3]) (j := 1) rfl, by decide, fun tq htq => ⟨⟨_, .of upd_same⟩, ?_⟩⟩
    have htp : tq ≠ p := fun e => f16.pot.ne (by rw [← e]; exact htq)
    refine forB_tup (xs := [V.ref q1, .ref u1, .ref u2, .ref r2]) (fun i σ H => (∃ o6 o14, σ = [some (.ref p), some (.int (L : Nat)), none, some (.ref q1), some (.ref q2), some (.ref q3), o6, some (.ref rl), some (.ref sz), none, some (.str z), some (.ref u1), some (.ref u2), some (.ref u3), o14]) ∧ Fc T p L (n + 400) C ((tq, .tup [V.ref q1, .ref u1, .ref u2, .ref r2]) :: M) H)
      ⟨⟨_, _, rfl⟩, (f16.new htq).know upd_same htp⟩ (fun i σ H _ h => .of (h.2.obj (q := tq) (by walk_at "mm"))) ?_ (fun σ H h => hk _ _ ⟨h.1, h.2.sub (fun u hu => hu) fun u hu => List.mem_cons_of_mem _ hu⟩)
    rintro i x σ H17 hi ⟨⟨o6, o14, rfl⟩, g⟩
    have hx : ∃ (q : Addr) (S : Tr.R → Bool), x = .ref q ∧ (q, S) ∈ C := by
      match i, hi with
      | 0, hi => exact ⟨q1, _, (Option.some.inj hi).symm, mc4⟩
      | 1, hi => exact ⟨u1, _, (Option.some.inj hi).symm, mc1⟩
      | 2, hi => exact ⟨u2, _, (Option.some.inj hi).symm, mc2⟩
      | 3, hi => exact ⟨r2, _, (Option.some.inj hi).symm, mc8⟩
    obtain ⟨q, S, rfl, mq⟩ := hx
    dsimp only [gName]
    generalize hMM : (tq, HO.tup [V.ref q1, .ref u1, .ref u2, .ref r2]) :: M = MM at g
    -- it is heads, plain of it turned about is the same
    refine seq_cut (fun σ H18 => σ = [some (.ref p), some (.int (L : Nat)), none, some (.ref q1), some (.ref q2), some (.ref q3), some (.ref q), some (.ref rl), some (.ref sz), none, some (.str z), some (.ref u1), some (.ref u2), some (.ref u3), o14] ∧ Fc T p L (n + 400) C MM H18) ?_ ?_
    rotate_left
    · intro k hk
      walk_at "sx"
      refine c_is (q1 := q) g (by walk_at "mm") l1 l16 fun G1 g1 => ?_
      refine ⟨true, true, rfl, rfl, _, rfl, ?_⟩
      rw [if_neg (by decide)]
      have hq := g1.heads mq
      refine ⟨_, rfl, q, _, rfl, .of hq.1, fun t ht => ?_⟩
      refine c_plain (S1 := S) (g1.new ht) upd_same hq.2 l1 l16 fun a2 G2 g2 => ?_
      refine eq_go (q1 := a2) (q2 := q) g2 (by walk_at "mm") (by walk_at "mm") (fun x _ => rfl) (hk _ _ ⟨rfl, g2.sub (fun u hu => List.mem_cons_of_mem _ hu) fun u hu => hu⟩)
    rintro σ H18 ⟨rfl, g18⟩
    -- the least head
    refine seq_cut (fun σ H18 => ∃ v, LeastV L S v ∧ σ = [some (.ref p), some (.int (L : Nat)), none, some (.ref q1), some (.ref q2), some (.ref q3), some (.ref q), some (.ref rl), some (.ref sz), none, some (.str z), some (.ref u1), some (.ref u2), some (.ref u3), some v] ∧ Fc T p L (n + 400) C MM H18) ?_ ?_
    rotate_left
    · intro k hk
      walk_at "sx"
      refine c_least (q1 := q) g18 (by walk_at "mm") l1 l16 fun v G1 g1 hv => ?_
      exact hk _ _ ⟨v, hv, rfl, g1⟩
    rintro σ H19 ⟨v, hv, rfl, g19⟩
    refine seq_cut (fun σ H18 => σ = [some (.ref p), some (.int (L : Nat)), none, some (.ref q1), some (.ref q2), some (.ref q3), some (.ref q), some (.ref rl), some (.ref sz), none, some (.str z), some (.ref u1), some (.ref u2), some (.ref u3), some v] ∧ Fc T p L (n + 400) C MM H18) ?_ ?_
    rotate_left
    · intro k hk
      walk_at "sx"
      refine ⟨by decide, fun p0 hp0 => ?_⟩
      have g0 := g19.new (o := .tup []) hp0
      refine ⟨_, dp_at (q1 := q) g0 mq, _, .tup (.of upd_same) (dpAll_txt []), shaped_txt _, shaped_txt _, rfl, ?_⟩
      rw [eqv_txt]
      rcases hv with ⟨rfl, h0⟩ | ⟨x, rfl, hx, hS, _⟩
      · rw [decide_eq_true (pl_nil.mpr h0), if_neg (by simp), if_neg (by simp)]
        exact hk _ _ ⟨rfl, g0⟩
      · have hne : pl L S ≠ [] := fun e => by
          have := pl_nil.mp e x hx
          rw [hS] at this
          cases this
        rw [decide_eq_false hne, if_neg (by simp), if_pos (by simp)]
        refine c_has (q1 := q) g0 mq hx l1 l16 fun G1 g1 => ⟨_, rfl, ?_⟩
        rw [hS, if_neg (by decide)]
        exact hk _ _ ⟨rfl, g1⟩
    rintro σ H20 ⟨rfl, g20⟩
    walk_at "sx"
    subst hMM
    refine ⟨by decide, fun p0 hp0 => ?_⟩
    have g0 := g20.new (o := .tup []) hp0
    refine ⟨_, dp_at (q1 := q) g0 mq, _, .tup (.of upd_same) (dpAll_txt []), shaped_txt _, shaped_txt _, ?_⟩
    rw [eqv_txt]
    by_cases hne : pl L S = []
    · rw [decide_eq_true hne, if_neg (by decide)]
      exact g0
    · rw [decide_eq_false hne, if_pos rfl]
      refine c_many (q1 := q) g0 mq l1 l16 fun G1 g1 _ => ?_
      refine ⟨61, L, eqs_eq, rfl, by omega, by omega, fun zz hzz => ?_⟩
      refine c_into (q1 := q) g1 mq (frees_ok hzz) l1 l16 too fun a2 G2 g2 => ?_
      refine c_many (q1 := a2) g2 (by walk_at "mm") l1 l16 fun G3 g3 _ => ⟨_, rfl, _, rfl, ?_⟩
      rw [frees_eq hzz]
      have e : (allR L).filter (into L (List.replicate L none) S) = (allR L).filter S := List.filter_congr fun x hx => into_free (mem_allR.mp hx)
      rw [e, if_neg (by simp)]
      exact g3.sub (fun u hu => List.mem_cons_of_mem _ hu) fun u hu => hu
  rintro σ H17 ⟨⟨o6, o14, rfl⟩, f17⟩
  -- twelve heads
  refine seq_cut (fun σ H18 => True) ?_ ?_
  rotate_left
  · intro k hk
    rw [tFor_eq]
    walk_at "sx"
    refine ⟨by decide, by decide, ?_⟩
    refine forB_range (n := 12) (fun i σ H => (∃ o2 o14, σ = [some (.ref p), some (.int (L : Nat)), o2, some (.ref q1), some (.ref q2), some (.ref q3), o6, some (.ref rl), some (.ref sz), none, some (.str z), some (.ref u1), some (.ref u2), some (.ref u3), o14]) ∧ Fc T p L (n + 16 * (12 - i)) C M H) ⟨⟨_, _, rfl⟩, f17.le (by omega)⟩ ?_ (fun σ H _ => hk _ _ trivial)
    rintro i σ H18 hi ⟨⟨o2, o14, rfl⟩, g⟩
    have eN : n + 16 * (12 - i) = (n + 16 * (12 - (i + 1))) + 16 := by omega
    rw [eN] at g
    generalize n + 16 * (12 - (i + 1)) = N at g
    rw [Int.zero_add]
    dsimp only [gName]
    -- head
    refine seq_cut (fun σ H18 => ∃ x : Tr.R, x.length = L ∧ σ = [some (.ref p), some (.int (L : Nat)), some (.int (i : Nat)), some (.ref q1), some (.ref q2), some (.ref q3), o6, some (.ref rl), some (.ref sz), none, some (.str z), some (.ref u1), some (.ref u2), some (.ref u3), some (.str (rowS x))] ∧ Fc T p L N C M H18) ?_ ?_
    rotate_left
    · intro k hk
      walk_at "sx"
      refine ⟨p, L, "01", N, rfl, by omega, by decide +kernel, by decide +kernel, g.pot.le (by omega), fun cs G1 hcl hcs pi kp => ?_⟩
      rw [cps01] at hcs
      obtain ⟨x, hx, hxl⟩ := row_of cs fun c hc => by simpa using hcs c hc
      rw [hx]
      exact hk _ _ ⟨x, by omega, rfl, g.kp kp pi⟩
    rintro σ H19 ⟨x, hx, rfl, g1⟩
    have hml2 : (unt z).length = x.length := hml.trans hx.symm
    have hpl : (mput (unt z) x).length = L := (mput_len hml2).trans hx
    have hzc : ∀ c ∈ z.cps.toList, c = 48 ∨ c = 49 ∨ c = 61 := fun c hc => by
      rw [okRow_str, Bool.and_eq_true] at hz
      have e2 : ("01=" : Str).cps.toList = [48, 49, 61] := by decide +kernel
      have := of_decide_eq_true (List.all_eq_true.mp hz.2 c hc)
      rw [e2] at this
      simpa using this
    refine seq_cut (fun σ H18 => σ = [some (.ref p), some (.int (L : Nat)), some (.int (i : Nat)), some (.ref q1), some (.ref q2), some (.ref q3), o6, some (.ref rl), some (.ref sz), none, some (.str z), some (.ref u1), some (.ref u2), some (.ref u3), some (.str (rowS x))] ∧ Fc T p L N C M H18) ?_ ?_
    rotate_left
    · intro k hk
      walk_at "sx"
      refine c_has (q1 := u2) g1 mc2 hx l1 l16 fun G1 g2 => ?_
      refine ⟨x, z, rfl, hzl.trans hx.symm, by omega, hzc, fun G2 e2 => ?_⟩
      refine c_has (q1 := q1) (g2.ex e2) mc4 hpl l1 l16 fun G3 g3 => ⟨rfl, ?_⟩
      rw [if_neg (by unfold befo; simp)]
      exact hk _ _ ⟨rfl, g3⟩
    rintro σ H20 ⟨rfl, g2⟩
    refine seq_cut (fun σ H18 => σ = [some (.ref p), some (.int (L : Nat)), some (.int (i : Nat)), some (.ref q1), some (.ref q2), some (.ref q3), o6, some (.ref rl), some (.ref sz), none, some (.str z), some (.ref u1), some (.ref u2), some (.ref u3), some (.str (rowS x))] ∧ Fc T p L N C M H18) ?_ ?_
    rotate_left
    · intro k hk
      walk_at "sx"
      refine c_has (q1 := q1) g2 mc4 hx l1 l16 fun G1 g3 => ?_
      refine ⟨_, rfl, ?_⟩
      cases hS : S1 x with
      | false =>
        rw [if_neg (by decide)]
        exact hk _ _ ⟨rfl, g3⟩
      | true =>
        rw [if_pos rfl]
        refine ⟨x, z, rfl, hzl.trans hx.symm, by omega, hzc, fun G2 e2 => ?_⟩
        refine c_has (q1 := u1) (g3.ex e2) mc1 hpl l1 l16 fun G3 g4 => ⟨_, rfl, ?_⟩
        rw [into_of hx hS, if_neg (by decide)]
        exact hk _ _ ⟨rfl, g4⟩
    rintro σ H21 ⟨rfl, g3⟩
    walk_at "sx"
    refine ⟨_, .of (g3.obj (q := rl) (by walk_at "mm")), _, atI_nat (xs := [V.ref r1, .ref r2, .ref r3]) (j := 2) rfl, ?_⟩
    refine c_has (q1 := r3) g3 mc9 hx l1 l16 fun G1 g4 => ?_
    refine c_has (q1 := q3) g4 mc6 hx l1 l16 fun G2 g5 => ⟨rfl, ?_⟩
    rw [if_neg (by cases S3 x <;> simp)]
    exact g5
  rintro σ H18 _
  walk_at "sx"
  exact k _
end
end My
namespace My
open PySem PySem.Spec PyProof.Rows L2 LamX Tr
section
variable {P : Program} {w : World} {K : PySem.W.Frag} {mg : Str → Option Value} {base : Heap} {T : List (Addr × Str)} {CT : Addr}
theorem passLam {X : Cx} {A : Around} {outer : List Env} {s : Shared} {H : Hp} {E : XK} {scope : Scope} {f c' : Addr} : Passes (XC X.prog X.w) (lamCx X A outer s H E scope f c') E := fun pins σ H2 s2 e s3 I c =>
  XE.leave (X := lamCx X A outer s H E scope f c') (W := fun cls d _ H => E cls d H) rfl rfl rfl (fun _ _ _ _ h => h) (XE.of_call I (fun _ _ _ h => h) c)
theorem lam_right {X : Cx} {A : Around} {outer : List Env} {s : Shared} {H : Hp} {E : XK} {scope : Scope} {f c' : Addr} {k i : Nat} {sp : Sp} {p1 p2 p3 : Pos} (F : FnG X.prog X.w X.K X.mg X.base k "_law_right" ["pot"] sp) (hr : Room k (A.deeper (lamEnv X scope s.heap.objs.size f c')))
    (hN : X.N[i]? = some ("pot" : Str)) (hf : scope.names.lookup ("pot" : Str) = some .free) (hg : scope.names.lookup ("_law_right" : Str) = some .globalImplicit) : PE (lamCx X A outer s H E scope f c') (.Call (.Name "_law_right" p1) [.Name "pot" p2] [] p3) (tFn sp E (tCons (tVar i) tNil)) := by
  have h1 : PE (lamCx X A outer s H E scope f c') (.Name "pot" p2) (tVar i) := pe_var hN (.inr (.inr hf))
  have F' : FnG (lamCx X A outer s H E scope f c').prog (lamCx X A outer s H E scope f c').w (lamCx X A outer s H E scope f c').K (lamCx X A outer s H E scope f c').mg (lamCx X A outer s H E scope f c').base k "_law_right" ["pot"] sp := F
  have hr' : Room k (lamCx X A outer s H E scope f c').A := hr
  have hp : Passes (XC (lamCx X A outer s H E scope f c').prog (lamCx X A outer s H E scope f c').w) (lamCx X A outer s H E scope f c') E := @passLam X A outer s H E scope f c'
  have h2 : PA (lamCx X A outer s H E scope f c') [.Name "pot" p2] (tCons (tVar i) tNil) := pa_cons h1 pa_nil
  exact pe_fn F' hr' hp h2 hg
def spLaw (K : PySem.W.Frag) (T : List (Addr × Str)) : Sp := fun vs H Q _ => ∃ (a : Addr) (ns : List Int), vs = [.ref a] ∧ SqL K H a (ns.map V.int) ∧ ns.length ≤ sizeLine ∧ (∀ z ∈ ns, Builtin.Int.intBits z ≤ 1048576) ∧ Tabs T H ∧ ∀ H', Q (.bl true) H'
theorem sc_law : FnScope ["script", "pot", "caught", "told"] ["script"] (defScope s_law) := ⟨rfl, rfl, rfl, by decide +kernel, rfl, by decide +kernel, by decide +kernel⟩
theorem ok_law {f g c Pt CS : Addr} {fd fdh : FuncData} (F : FD K s_law "law" "law" f fd) (X : LxT mg) (hc : fd.code = .ref c) (TB : TabB base mg c Pt) (hm : (Pt, ("law.<locals>.<lambda>" : Str)) ∈ T) (hu : ∀ q ∈ T, q.1 = Pt → q.2 = ("law.<locals>.<lambda>" : Str))
    (F__law_pot : FnG P w K mg base 1 "_law_pot" ["script", "place"] (spPot K)) (F__law_right : FnG P w K mg base 25 "_law_right" ["pot"] (spRight T CT))
    (FH : FD K s__law_heard "_law_heard" "_law_heard" g fdh) (hH : mg "_law_heard" = some (.ref g)) (hE : mg "NetError" = some (.ref CS)) (hCT : mg "TooMany" = some (.ref CT)) (hx : PySem.W.exmOne K (.ref CT) (.ref CS) = some true) (xc : ExcC K CT) (xf : XfC K CT) (xv : PySem.W.findIn K (.ref CT) "value" = some none) : FnOk P w K mg base (XC P w) 28 f fd ["script"] (spLaw K T) := by
  have bH : L2.Binds K fdh ["look"] [] := FH.bindsN fun _ _ _ _ _ _ us hl => match us, hl with | [_], _ => rfl
  have kH : PySem.W.keepIn K (.ref g) = true := FH.kp
  obtain ⟨oc, od, dV, kV, doc, pm, an, cdv, ct, osl, e0, lk, hcd, _, _⟩ := FH.ex
  rw [e0] at lk bH
  refine fun_okC F hc sc_law (fun vs H Q E h => ?_) (fun A outer s H vs Q E hr h => ?_)
  · obtain ⟨a, ns, rfl, _⟩ := h
    rfl
  refine ⟨_, (pss_cons (ps_set (i := 1) sc_law.nd rfl (Or.inr rfl) (pe_fn F__law_pot (hr.mono (by first | omega | decide)) passE0 (pa_cons (pv 0) (pa_cons pe_int pa_nil))))
      (pss_cons (ps_asg (pe_lamAt (k := 25) (TT := TTheard K CS) rfl hH kH lk hcd bH sc__law_heard rfl (.inl rfl) (heard_gives hE) TB rfl hm hu hr (lamS_by (show lamSB (defScope s_law) { kind := .function, names := [("pot", .free), ("_law_right", .globalImplicit)], isGenerator := false, isCoroutine := false } = true by decide +kernel)) rfl (fun _ _ _ _ _ => rfl) (fun A outer s H E f c2 hr2 => lam_right (i := 1) F__law_right hr2 rfl rfl rfl)) (pg_tup (by rfl) (pgs_cons (pg_name (i := 2) sc_law.nd rfl (Or.inl rfl)) (pgs_cons (pg_name (i := 3) sc_law.nd rfl (Or.inl rfl)) pgs_nil))))
      (pss_one (ps_ret (pe_ifExp (pt_cmpR op_isN (pv 2) pe_non (nomark _)) (pe_cmpR op_isBl (pv 3) pe_bl (nomark _)) (pe_and (pe_callB call_isK (by rfl) X.b_isinstance (by decide +kernel) (pa_cons (pv 2) (pa_cons (pe_glob (v := .ref CT) rfl hCT rfl) pa_nil))) (pe_one (pe_cmpR op_eq (pe_xk (pv 2)) pe_int (nomark _))))))))), ?_⟩
  try dsimp only [cxOf]
  obtain ⟨a, ns, rfl, ha, hl, hb, ht, k⟩ := h
  walk_at "sx"
  refine ⟨a, ns, 0, rfl, ha, hl, hb, by decide, fun q H1 e1 hq0 pq => ⟨ht.ext e1, fun H2 e2 t2 p0 hp0 => ?_⟩⟩
  refine ⟨_, rfl, q, 899000, rfl, ((potIn_extN pq e2).new hp0).le (by decide), Tabs.new t2 hp0, fun H3 => ⟨by decide, fun r hr0 => ⟨r, rfl, _, .of upd_same, rfl, _, _, rfl, _, _, rfl, rfl, ?_⟩⟩, fun d H3 hd => ⟨hx, fun ea r hea hne hr0 => ⟨r, rfl, _, .of upd_same, rfl, _, _, rfl, _, _, rfl, rfl, ?_⟩⟩⟩
  · rw [if_pos (by simp)]
    exact ⟨true, true, rfl, rfl, k _⟩
  · rw [if_neg (by simp)]
    have hda : d ≠ ea := fun z => by rw [z, hea] at hd; cases hd
    have hdr : d ≠ r := fun z => by rw [z, hr0] at hd; cases hd
    have h1 : (upd (upd H3 ea (exk ea (.ref CT) (some d))) r (.tup [V.ref ea, .non])) ea = some (exk ea (.ref CT) (some d)) := by rw [upd_ne (Ne.symm hne), upd_same]
    have h2 : (upd (upd H3 ea (exk ea (.ref CT) (some d))) r (.tup [V.ref ea, .non])) d = some (.xd [("value", .int 4000)]) := by rw [upd_ne hdr, upd_ne hda]; exact hd
    refine ⟨ea, CT, d, _, .ref CT, .ref CT, true, rfl, h1, h2, xc, fun u hu => hu, by simp [PySem.W.kitOne], true, rfl, ?_⟩
    rw [if_pos rfl]
    exact ⟨_, rfl, ea, CT, d, _, .int 4000, rfl, h1, h2, rfl, xf, xv, rfl, k _⟩
end
end My
namespace My
open PySem PySem.Spec PyProof.Rows L2 He
abbrev fileL : Str := PySem.Challenge.pw_whereversent_k73_great_heads_put_togethe.main.file
theorem too_net {P : Program} {w : World} {K : PySem.W.Frag} {mg : Str → Option Value} {base : Heap} (hP : P.main.file = fileL) (htop : (P.main.scope.names.lookup ("super" : Str)).isSome = false) (hs : mg "super" = none) (hC : mg "TooMany" = some (.ref (ga K "TooMany"))) (h : supB K "TooMany" "NetError" fileL = true) (e : supW K "TooMany" = supV s_NetError___init__ "NetError.__init__") : NetX P w K mg base "TooMany" (ga K "TooMany") (ga K "NetError") := by
  obtain ⟨s1, s2, s3⟩ := supB_c h
  obtain ⟨fd, S, hd⟩ := supB_f (P := P) h e hP rfl rfl
  have B : L2.Binds K fd ["self", "value"] [] := by
    obtain ⟨oc, od, dV, kV, doc, pm, an, ct, osl, cc, cda, ccl, cdd, vs, ccs, file, tf, cl, cld, csl, cdD, ar, rfl, _⟩ := S.ex
    have hd' : dV = .none := hd
    subst hd'
    exact .all fun us hl => match us, hl with | [_, _], _ => rfl
  refine ⟨hC, s1, _, fd, s2, s3, ?_, B⟩
  exact fnok_super (k := 0) S hs (NdefX.nscope_by (by decide +kernel)) (by decide +kernel) htop (fun L cda cc => rfl) (fun L cda cc => rfl) (fun L cda cc => rfl)
end My
set_option maxHeartbeats 0
namespace My
open PySem PySem.Spec PyProof.Rows L2
def dd0 : He.DefD := ⟨("Trees", some "__init__"), "__init__", "Trees.__init__", defArgs s_Trees___init__, defBody s_Trees___init__, defScope s_Trees___init__, [], []⟩
def dd1 : He.DefD := ⟨("Trees", some "node"), "node", "Trees.node", defArgs s_Trees_node, defBody s_Trees_node, defScope s_Trees_node, [], []⟩
def dd2 : He.DefD := ⟨("Trees", some "halves"), "halves", "Trees.halves", defArgs s_Trees_halves, defBody s_Trees_halves, defScope s_Trees_halves, [], []⟩
def dd3 : He.DefD := ⟨("Trees", some "both"), "both", "Trees.both", defArgs s_Trees_both, defBody s_Trees_both, defScope s_Trees_both, [], []⟩
def dd4 : He.DefD := ⟨("Trees", some "rest"), "rest", "Trees.rest", defArgs s_Trees_rest, defBody s_Trees_rest, defScope s_Trees_rest, [], []⟩
def dd5 : He.DefD := ⟨("Trees", some "either"), "either", "Trees.either", defArgs s_Trees_either, defBody s_Trees_either, defScope s_Trees_either, [], []⟩
def dd6 : He.DefD := ⟨("Trees", some "together"), "together", "Trees.together", defArgs s_Trees_together, defBody s_Trees_together, defScope s_Trees_together, [], []⟩
def dd7 : He.DefD := ⟨("Trees", some "row"), "row", "Trees.row", defArgs s_Trees_row, defBody s_Trees_row, defScope s_Trees_row, [], []⟩
def dd8 : He.DefD := ⟨("Trees", some "freed"), "freed", "Trees.freed", defArgs s_Trees_freed, defBody s_Trees_freed, defScope s_Trees_freed, [], []⟩
def dd9 : He.DefD := ⟨("Trees", some "put"), "put", "Trees.put", defArgs s_Trees_put, defBody s_Trees_put, defScope s_Trees_put, [], []⟩
def dd10 : He.DefD := ⟨("Trees", some "put_back"), "put_back", "Trees.put_back", defArgs s_Trees_put_back, defBody s_Trees_put_back, defScope s_Trees_put_back, [], []⟩
def dd11 : He.DefD := ⟨("Trees", some "many"), "many", "Trees.many", defArgs s_Trees_many, defBody s_Trees_many, defScope s_Trees_many, [], []⟩
def dd12 : He.DefD := ⟨("Trees", some "below"), "below", "Trees.below", defArgs s_Trees_below, defBody s_Trees_below, defScope s_Trees_below, [], []⟩
def dd13 : He.DefD := ⟨("Trees", some "many_parts"), "many_parts", "Trees.many_parts", defArgs s_Trees_many_parts, defBody s_Trees_many_parts, defScope s_Trees_many_parts, [], []⟩
def dd14 : He.DefD := ⟨("Trees", some "first"), "first", "Trees.first", defArgs s_Trees_first, defBody s_Trees_first, defScope s_Trees_first, [], []⟩
def dd15 : He.DefD := ⟨("Trees", some "parts"), "parts", "Trees.parts", defArgs s_Trees_parts, defBody s_Trees_parts, defScope s_Trees_parts, [], []⟩
def dd16 : He.DefD := ⟨("doubled", none), "doubled", "doubled", defArgs s_doubled, defBody s_doubled, defScope s_doubled, [], []⟩
def dd17 : He.DefD := ⟨("is_integer", none), "is_integer", "is_integer", defArgs s_is_integer, defBody s_is_integer, defScope s_is_integer, [], []⟩
def dd18 : He.DefD := ⟨("is_between", none), "is_between", "is_between", defArgs s_is_between, defBody s_is_between, defScope s_is_between, [], []⟩
def dd19 : He.DefD := ⟨("check_width", none), "check_width", "check_width", defArgs s_check_width, defBody s_check_width, defScope s_check_width, [], []⟩
def dd20 : He.DefD := ⟨("is_row", none), "is_row", "is_row", defArgs s_is_row, defBody s_is_row, defScope s_is_row, [], []⟩
def dd21 : He.DefD := ⟨("is_head_of", none), "is_head_of", "is_head_of", defArgs s_is_head_of, defBody s_is_head_of, defScope s_is_head_of, [], []⟩
def dd22 : He.DefD := ⟨("is_pattern_of", none), "is_pattern_of", "is_pattern_of", defArgs s_is_pattern_of, defBody s_is_pattern_of, defScope s_is_pattern_of, [], []⟩
def dd23 : He.DefD := ⟨("is_mask_of", none), "is_mask_of", "is_mask_of", defArgs s_is_mask_of, defBody s_is_mask_of, defScope s_is_mask_of, [], []⟩
def dd24 : He.DefD := ⟨("are_patterns", none), "are_patterns", "are_patterns", defArgs s_are_patterns, defBody s_are_patterns, defScope s_are_patterns, [], []⟩
def dd25 : He.DefD := ⟨("signs_of", none), "signs_of", "signs_of", defArgs s_signs_of, defBody s_signs_of, defScope s_signs_of, [], []⟩
def dd26 : He.DefD := ⟨("tree_of", none), "tree_of", "tree_of", defArgs s_tree_of, defBody s_tree_of, defScope s_tree_of, [], []⟩
def dd27 : He.DefD := ⟨("told_heads", none), "told_heads", "told_heads", defArgs s_told_heads, defBody s_told_heads, defScope s_told_heads, [], []⟩
def dd28 : He.DefD := ⟨("is_heads_of", none), "is_heads_of", "is_heads_of", defArgs s_is_heads_of, defBody s_is_heads_of, defScope s_is_heads_of, [], []⟩
def dd29 : He.DefD := ⟨("check_heads", none), "check_heads", "check_heads", defArgs s_check_heads, defBody s_check_heads, defScope s_check_heads, [], []⟩
def dd30 : He.DefD := ⟨("check_head", none), "check_head", "check_head", defArgs s_check_head, defBody s_check_head, defScope s_check_head, [], []⟩
def dd31 : He.DefD := ⟨("is_heads", none), "is_heads", "is_heads", defArgs s_is_heads, defBody s_is_heads, defScope s_is_heads, [], []⟩
def dd32 : He.DefD := ⟨("plain", none), "plain", "plain", defArgs s_plain, defBody s_plain, defScope s_plain, [], []⟩
def dd33 : He.DefD := ⟨("fits", none), "fits", "fits", defArgs s_fits, defBody s_fits, defScope s_fits, [], []⟩
def dd34 : He.DefD := ⟨("has_head", none), "has_head", "has_head", defArgs s_has_head, defBody s_has_head, defScope s_has_head, [], []⟩
def dd35 : He.DefD := ⟨("both", none), "both", "both", defArgs s_both, defBody s_both, defScope s_both, [], []⟩
def dd36 : He.DefD := ⟨("either", none), "either", "either", defArgs s_either, defBody s_either, defScope s_either, [], []⟩
def dd37 : He.DefD := ⟨("others", none), "others", "others", defArgs s_others, defBody s_others, defScope s_others, [], []⟩
def dd38 : He.DefD := ⟨("how_many", none), "how_many", "how_many", defArgs s_how_many, defBody s_how_many, defScope s_how_many, [], []⟩
def dd39 : He.DefD := ⟨("head_of", none), "head_of", "head_of", defArgs s_head_of, defBody s_head_of, defScope s_head_of, [], []⟩
def dd40 : He.DefD := ⟨("least_head", none), "least_head", "least_head", defArgs s_least_head, defBody s_least_head, defScope s_least_head, [], []⟩
def dd41 : He.DefD := ⟨("check_mask", none), "check_mask", "check_mask", defArgs s_check_mask, defBody s_check_mask, defScope s_check_mask, [], []⟩
def dd42 : He.DefD := ⟨("put_into", none), "put_into", "put_into", defArgs s_put_into, defBody s_put_into, defScope s_put_into, [], []⟩
def dd43 : He.DefD := ⟨("put_before", none), "put_before", "put_before", defArgs s_put_before, defBody s_put_before, defScope s_put_before, [], []⟩
def dd44 : He.DefD := ⟨("_law_take", none), "_law_take", "_law_take", defArgs s__law_take, defBody s__law_take, defScope s__law_take, [], []⟩
def dd45 : He.DefD := ⟨("_law_of", none), "_law_of", "_law_of", defArgs s__law_of, defBody s__law_of, defScope s__law_of, [], []⟩
def dd46 : He.DefD := ⟨("_law_row", none), "_law_row", "_law_row", defArgs s__law_row, defBody s__law_row, defScope s__law_row, [], []⟩
def dd47 : He.DefD := ⟨("_law_patterns", none), "_law_patterns", "_law_patterns", defArgs s__law_patterns, defBody s__law_patterns, defScope s__law_patterns, [], []⟩
def dd48 : He.DefD := ⟨("_law_put", none), "_law_put", "_law_put", defArgs s__law_put, defBody s__law_put, defScope s__law_put, [], []⟩
def dd49 : He.DefD := ⟨("_law_pot", none), "_law_pot", "_law_pot", defArgs s__law_pot, defBody s__law_pot, defScope s__law_pot, [], []⟩
def dd50 : He.DefD := ⟨("_law_heard", none), "_law_heard", "_law_heard", defArgs s__law_heard, defBody s__law_heard, defScope s__law_heard, [], []⟩
def dd51 : He.DefD := ⟨("_law_right", none), "_law_right", "_law_right", defArgs s__law_right, defBody s__law_right, defScope s__law_right, [], []⟩
def dd52 : He.DefD := ⟨("law", none), "law", "law", defArgs s_law, defBody s_law, defScope s_law, [], []⟩
def fnl : List He.DefD := [dd0, dd1, dd2, dd3, dd4, dd5, dd6, dd7, dd8, dd9, dd10, dd11, dd12, dd13, dd14, dd15, dd16, dd17, dd18, dd19, dd20, dd21, dd22, dd23, dd24, dd25, dd26, dd27, dd28, dd29, dd30, dd31, dd32, dd33, dd34, dd35, dd36, dd37, dd38, dd39, dd40, dd41, dd42, dd43, dd44, dd45, dd46, dd47, dd48, dd49, dd50, dd51, dd52]
def fal : List He.Fa := [.glo "NetError", .glo "TooMany", .int "NOTHING" 0, .int "ALL" 1, .glo "Trees", .cls "Trees", .mkr "Trees", .noat "Trees" "own_levels", .noat "Trees" "own_level", .noat "Trees" "own_low", .noat "Trees" "own_high", .noat "Trees" "own_known", .noat "Trees" "own_told", .meth "Trees" "node", .meth "Trees" "halves", .meth "Trees" "both", .meth "Trees" "rest", .meth "Trees" "either", .meth "Trees" "together", .meth "Trees" "row", .meth "Trees" "freed", .meth "Trees" "put", .meth "Trees" "put_back", .meth "Trees" "many", .meth "Trees" "below", .meth "Trees" "many_parts", .meth "Trees" "first", .meth "Trees" "parts", .glo "doubled", .glo "is_integer", .glo "is_between", .int "MOST_WIDTH" 16, .int "MOST_PATTERNS" 4000, .str "SIGNS" "01", .str "ANY" "*", .str "STAY" "=", .glo "check_width", .glo "is_row", .glo "is_head_of", .glo "is_pattern_of", .glo "is_mask_of", .glo "are_patterns", .glo "signs_of", .glo "tree_of", .glo "told_heads", .glo "is_heads_of", .glo "check_heads", .glo "check_head", .glo "is_heads", .glo "plain", .glo "fits", .glo "has_head", .glo "both", .glo "either", .glo "others", .glo "how_many", .glo "head_of", .glo "least_head", .glo "check_mask", .glo "put_into", .glo "put_before", .glo "_law_take", .glo "_law_of", .glo "_law_row", .glo "_law_patterns", .glo "_law_put", .glo "_law_pot", .glo "_law_heard", .glo "_law_right", .glo "law", .free "len", .free "range", .free "isinstance", .free "min", .free "max", .free "abs", .free "sorted", .free "tuple", .free "int", .free "str", .free "bool", .free "all", .free "any", .free "enumerate", .free "zip", .free "super", .free "dict", .free "list", .free "repr", .free "sum"]
def names0 : List PySem.Str := ["_wall", "__name__", "NetError", "BadHead", "BadHeads", "BadWidth", "BadMask", "BadPatterns", "TooMany", "NOTHING", "ALL", "Trees", "doubled", "is_integer", "is_between", "MOST_WIDTH", "MOST_PATTERNS", "SIGNS", "ANY", "STAY", "check_width", "is_row", "is_head_of", "is_pattern_of", "is_mask_of", "are_patterns", "signs_of", "tree_of", "told_heads", "is_heads_of"]
def names1 : List PySem.Str := ["check_heads", "check_head", "is_heads", "plain", "fits", "has_head", "both", "either", "others", "how_many", "head_of", "least_head", "check_mask", "put_into", "put_before", "_law_take", "_law_of", "_law_row", "_law_patterns", "_law_put", "_law_pot", "_law_heard", "_law_right"]
abbrev loose : List PySem.Str := names0 ++ names1
abbrev tfl : List He.Defn := [("Trees", some "below"), ("law", none)]
abbrev RowL : PySem.W.OpenRow := PySem.W.OpenLaw.row PySem.Challenge.rw_whereversent_k73_great_heads_put_togethe
def exL (K : PySem.W.Frag) : Bool := supB K "TooMany" "NetError" fileL && (excB K (He.ga K "TooMany") && (decide (PySem.W.exmOne K (.ref (He.ga K "TooMany")) (.ref (He.ga K "NetError")) = some true) && decide ((He.cT K ("Trees", some "below")).2 ≠ (He.cT K ("law", none)).2)))
abbrev hk : PySem.W.Hook := hookY 4 fal fnl tfl "TooMany" s_NetError___init__ "NetError.__init__" exL
def ob (s : PySem.W.SharedT) : AlY := obsY 4 fal fnl tfl "TooMany" exL (HandSHeadRun.getT s)
theorem ob_eq (s : PySem.W.SharedT) : ob s = hk.obs s.abs := obsY_eq (HandSHeadRun.getT_eq s)
theorem run (w : World) : HandSHeadRun.RunEq RowL (PySem.W.view RowL.prog [57]) hk ob 4000 loose w := by
  intro os
  kernel_rfl
end My
namespace My
open PySem PySem.Spec PyProof.Rows L2 LamX
section
variable {P : Program} {w : World} {K : PySem.W.Frag} {mg : Str → Option Value} {base : Heap} {C : Addr} {T : List (Addr × Str)}
theorem rec_both {f : Addr} {fd : FuncData} (F : FD K s_Trees_both "both" "Trees.both" f fd) (X : TxT K mg C) (M_node : MtG P w K mg base C 1 "node" ["self", "level", "low", "high"] (spNode P w T C)) (M_halves : MtG P w K mg base C 1 "halves" ["self", "tree", "level"] (spHalves P w T C)) (hM : Meth K C "both" f) (B : Binds K fd ["self", "one", "other"] []) : ∀ d : Nat, MtG P w K mg base C (d + 2) "both" ["self", "one", "other"] (spBoth P w T C d)
  | 0 => ⟨X.cls, f, fd, hM, ok_both_step F X M_node M_halves (d := 0) (spR := spNone) ⟨X.cls, f, fd, hM, fnok_none, B⟩ (fun e h => by omega), B⟩
  | d + 1 => ⟨X.cls, f, fd, hM, ok_both_step F X M_node M_halves (d := d + 1) (rec_both F X M_node M_halves hM B d) (fun e h => by injection h with h; rw [h]), B⟩
theorem rec_either {f : Addr} {fd : FuncData} (F : FD K s_Trees_either "either" "Trees.either" f fd) (X : TxT K mg C) (M_node : MtG P w K mg base C 1 "node" ["self", "level", "low", "high"] (spNode P w T C)) (M_halves : MtG P w K mg base C 1 "halves" ["self", "tree", "level"] (spHalves P w T C)) (hM : Meth K C "either" f) (B : Binds K fd ["self", "one", "other"] []) : ∀ d : Nat, MtG P w K mg base C (d + 2) "either" ["self", "one", "other"] (spEither P w T C d)
  | 0 => ⟨X.cls, f, fd, hM, ok_either_step F X M_node M_halves (d := 0) (spR := spNone) ⟨X.cls, f, fd, hM, fnok_none, B⟩ (fun e h => by omega), B⟩
  | d + 1 => ⟨X.cls, f, fd, hM, ok_either_step F X M_node M_halves (d := d + 1) (rec_either F X M_node M_halves hM B d) (fun e h => by injection h with h; rw [h]), B⟩
theorem rec_eithC {f : Addr} {fd : FuncData} (F : FD K s_Trees_either "either" "Trees.either" f fd) (X : TxT K mg C) (M_node : MtG P w K mg base C 1 "node" ["self", "level", "low", "high"] (spNode P w T C)) (M_halves : MtG P w K mg base C 1 "halves" ["self", "tree", "level"] (spHalves P w T C)) (hM : Meth K C "either" f) (B : Binds K fd ["self", "one", "other"] []) : ∀ d : Nat, MtG P w K mg base C (d + 2) "either" ["self", "one", "other"] (spEithC P w T C d)
  | 0 => ⟨X.cls, f, fd, hM, ok_eith_step F X M_node M_halves (d := 0) (spR := spNone) ⟨X.cls, f, fd, hM, fnok_none, B⟩ (fun e h => by omega), B⟩
  | d + 1 => ⟨X.cls, f, fd, hM, ok_eith_step F X M_node M_halves (d := d + 1) (rec_eithC F X M_node M_halves hM B d) (fun e h => by injection h with h; rw [h]), B⟩
theorem rec_rest {f : Addr} {fd : FuncData} (F : FD K s_Trees_rest "rest" "Trees.rest" f fd) (X : TxT K mg C) (M_node : MtG P w K mg base C 1 "node" ["self", "level", "low", "high"] (spNode P w T C)) (hM : Meth K C "rest" f) (B : Binds K fd ["self", "tree"] []) : ∀ d : Nat, MtG P w K mg base C (d + 2) "rest" ["self", "tree"] (spRest P w T C d)
  | 0 => ⟨X.cls, f, fd, hM, ok_rest_step F X M_node (d := 0) (spR := spNone) ⟨X.cls, f, fd, hM, fnok_none, B⟩ (fun e h => by omega), B⟩
  | d + 1 => ⟨X.cls, f, fd, hM, ok_rest_step F X M_node (d := d + 1) (rec_rest F X M_node hM B d) (fun e h => by injection h with h; rw [h]), B⟩
theorem rec_freed {f : Addr} {fd : FuncData} (F : FD K s_Trees_freed "freed" "Trees.freed" f fd) (X : TxT K mg C) (M_node : MtG P w K mg base C 1 "node" ["self", "level", "low", "high"] (spNode P w T C)) (hM : Meth K C "freed" f) (B : Binds K fd ["self", "tree", "levels"] []) (ME : ∀ d : Nat, MtG P w K mg base C (d + 2) "either" ["self", "one", "other"] (spEither P w T C d)) : ∀ d : Nat, MtG P w K mg base C (d + 3) "freed" ["self", "tree", "levels"] (spFreed P w T C d)
  | 0 => ⟨X.cls, f, fd, hM, ok_freed_step F X M_node (d := 0) (spR := spNone) (spE := spNone) ((show MtG P w K mg base C 1 "either" ["self", "one", "other"] spNone from by
      obtain ⟨cl, f', fd', a, b, c⟩ := ME 0
      exact ⟨cl, f', fd', a, fnok_none, c⟩)) ⟨X.cls, f, fd, hM, fnok_none, B⟩ (fun e h => by omega), B⟩
  | d + 1 => ⟨X.cls, f, fd, hM, ok_freed_step F X M_node (d := d + 1) (ME d) (rec_freed F X M_node hM B ME d) (fun e h => by injection h with h; subst h; exact ⟨rfl, rfl⟩), B⟩
end
abbrev bel (K : PySem.W.Frag) : Addr × Addr := He.cT K ("Trees", some "below")
abbrev lwt (K : PySem.W.Frag) : Addr × Addr := He.cT K ("law", none)
abbrev TTb (K : PySem.W.Frag) : List (Addr × Str) := [((bel K).2, ("Trees.below.<locals>.<lambda>" : Str)), ((lwt K).2, ("law.<locals>.<lambda>" : Str))]
theorem gd_of_fn {P : Program} {w : World} {K : PySem.W.Frag} {mg : Str → Option Value} {base : Heap} {k : Nat} {f : Addr} {fd : FuncData} {ps : List Str} {sp : Sp} (F : FnOk P w K mg base (XC P w) k f fd ps sp) : GdOk P w K mg base k f fd ps sp :=
  ⟨F.len, fun A room _ out s H xs us vs Q E e0 hb r hsp => F.run A out s H xs us vs Q E room e0 hb r hsp⟩
theorem code_of {K : PySem.W.Frag} {p : Str × Option Str} {x q : Str} {pr : Arguments} {bd : List Stmt} {sc : Scope} {fd : FuncData} (F : FunD K x q pr bd sc [] [] (He.fAd K p) fd) : fd.code = .ref (He.codeOf K p) := by
  obtain ⟨oc, od, dV, kV, doc, pm, an, cdv, ct, osl, e, lk, hcd, _, _⟩ := F.ex
  obtain ⟨c', rfl⟩ := He.codeIn_ref hcd
  have e2 : fd.code = .ref c' := by rw [e]
  rw [He.codeOf_eq lk e2]
  exact e2
theorem join_law {P : Program} {w : World} {K : PySem.W.Frag} {mg : Str → Option Value} {base h : Heap} {fdl : FuncData} (X : K.In h) (G : h.Ns mainGlobals mg) (c : He.SaysD fal fnl K) (FL : FD K s_law "law" "law" (He.ga K "law") fdl) (hP : P.main.file = fileL) (htop : (P.main.scope.names.lookup ("super" : Str)).isSome = false) (hex : exL K = true) (hin : supW K "TooMany" = supV s_NetError___init__ "NetError.__init__") (TB : TabB base mg (bel K).1 (bel K).2) (TB2 : TabB base mg (lwt K).1 (lwt K).2) : FnOk P w K mg base (XC P w) 28 (He.ga K "law") fdl ["script"] (spLaw K (TTb K)) := by
  have HX : HxT mg := { c_MOST_WIDTH := He.int_ok X G (c.fact 31 (f := .int "MOST_WIDTH" 16) rfl), c_MOST_PATTERNS := He.int_ok X G (c.fact 32 (f := .int "MOST_PATTERNS" 4000) rfl), c_SIGNS := He.str_ok X G (c.fact 33 (f := .str "SIGNS" "01") rfl), c_ANY := He.str_ok X G (c.fact 34 (f := .str "ANY" "*") rfl), c_STAY := He.str_ok X G (c.fact 35 (f := .str "STAY" "=") rfl), b_isinstance := He.free_ok X G (c.fact 72 (f := .free "isinstance") rfl), b_int := He.free_ok X G (c.fact 78 (f := .free "int") rfl), b_bool := He.free_ok X G (c.fact 80 (f := .free "bool") rfl), b_str := He.free_ok X G (c.fact 79 (f := .free "str") rfl), b_tuple := He.free_ok X G (c.fact 77 (f := .free "tuple") rfl), b_len := He.free_ok X G (c.fact 70 (f := .free "len") rfl), b_all := He.free_ok X G (c.fact 81 (f := .free "all") rfl), b_any := He.free_ok X G (c.fact 82 (f := .free "any") rfl), b_enumerate := He.free_ok X G (c.fact 83 (f := .free "enumerate") rfl), b_zip := He.free_ok X G (c.fact 84 (f := .free "zip") rfl) }
  have TX : TxT K mg (He.ga K "Trees") := { cls := He.cls_ok (c.fact 5 (f := .cls "Trees") rfl), n1 := He.noat_ok (c.fact 7 (f := .noat "Trees" "own_levels") rfl), n2 := He.noat_ok (c.fact 8 (f := .noat "Trees" "own_level") rfl), n3 := He.noat_ok (c.fact 9 (f := .noat "Trees" "own_low") rfl), n4 := He.noat_ok (c.fact 10 (f := .noat "Trees" "own_high") rfl), n5 := He.noat_ok (c.fact 11 (f := .noat "Trees" "own_known") rfl), n6 := He.noat_ok (c.fact 12 (f := .noat "Trees" "own_told") rfl), c_NOTHING := He.int_ok X G (c.fact 2 (f := .int "NOTHING" 0) rfl), c_ALL := He.int_ok X G (c.fact 3 (f := .int "ALL" 1) rfl), b_len := He.free_ok X G (c.fact 70 (f := .free "len") rfl), b_min := He.free_ok X G (c.fact 73 (f := .free "min") rfl), b_max := He.free_ok X G (c.fact 74 (f := .free "max") rfl), b_sorted := He.free_ok X G (c.fact 76 (f := .free "sorted") rfl), b_tuple := He.free_ok X G (c.fact 77 (f := .free "tuple") rfl), b_range := He.free_ok X G (c.fact 71 (f := .free "range") rfl) }
  have LX : LxT mg := { b_int := He.free_ok X G (c.fact 78 (f := .free "int") rfl), b_len := He.free_ok X G (c.fact 70 (f := .free "len") rfl), b_range := He.free_ok X G (c.fact 71 (f := .free "range") rfl), b_tuple := He.free_ok X G (c.fact 77 (f := .free "tuple") rfl), b_all := He.free_ok X G (c.fact 81 (f := .free "all") rfl), b_any := He.free_ok X G (c.fact 82 (f := .free "any") rfl), b_zip := He.free_ok X G (c.fact 84 (f := .free "zip") rfl), b_dict := He.free_ok X G (c.fact 86 (f := .free "dict") rfl), b_list := He.free_ok X G (c.fact 87 (f := .free "list") rfl), b_isinstance := He.free_ok X G (c.fact 72 (f := .free "isinstance") rfl), b_str := He.free_ok X G (c.fact 79 (f := .free "str") rfl), b_abs := He.free_ok X G (c.fact 75 (f := .free "abs") rfl), b_max := He.free_ok X G (c.fact 74 (f := .free "max") rfl), b_min := He.free_ok X G (c.fact 73 (f := .free "min") rfl), b_repr := He.free_ok X G (c.fact 88 (f := .free "repr") rfl), b_sorted := He.free_ok X G (c.fact 76 (f := .free "sorted") rfl) }
  obtain ⟨x1, hex⟩ := He.ba hex
  obtain ⟨x2, hex⟩ := He.ba hex
  obtain ⟨x3, x4⟩ := He.ba hex
  have x3 := of_decide_eq_true x3
  have x4 := of_decide_eq_true x4
  obtain ⟨xc, xf⟩ := excB_ok x2
  have gT := He.glo_ok X G (c.fact 1 (f := .glo "TooMany") rfl)
  have NX : NetX P w K mg base "TooMany" (He.ga K "TooMany") (He.ga K "NetError") := too_net hP htop (He.free_ok X G (c.fact 85 (f := .free "super") rfl)) gT x1 hin
  have hu1 : ∀ q ∈ TTb K, q.1 = (bel K).2 → q.2 = ("Trees.below.<locals>.<lambda>" : Str) := fun q hq e => by
    rcases List.mem_cons.mp hq with rfl | hq
    · rfl
    · rw [List.mem_singleton.mp hq] at e
      exact absurd e.symm x4
  have hu2 : ∀ q ∈ TTb K, q.1 = (lwt K).2 → q.2 = ("law.<locals>.<lambda>" : Str) := fun q hq e => by
    rcases List.mem_cons.mp hq with rfl | hq
    · exact absurd e x4
    · rw [List.mem_singleton.mp hq]
  obtain ⟨fd_Trees_node, FD_Trees_node⟩ := c.def_ 1 (d := dd1) rfl
  have FD_Trees_node : FD K s_Trees_node "node" "Trees.node" (He.fAd K ("Trees", some "node")) fd_Trees_node := FD_Trees_node
  have B_Trees_node : Binds K fd_Trees_node ["self", "level", "low", "high"] [] := FD_Trees_node.bindsN fun _ _ _ _ _ _ us hl => match us, hl with | [_, _, _, _], _ => rfl
  have O_Trees_node : FnOk P w K mg base (XC P w) 1 (He.fAd K ("Trees", some "node")) fd_Trees_node ["self", "level", "low", "high"] (spNode P w (TTb K) (He.ga K "Trees")) := ok_node (F := FD_Trees_node) (X := TX)
  have G_M_node : MtG P w K mg base (He.ga K "Trees") 1 "node" ["self", "level", "low", "high"] (spNode P w (TTb K) (He.ga K "Trees")) := ⟨TX.cls, _, _, He.meth_ok (c.fact 13 (f := .meth "Trees" "node") rfl), O_Trees_node, B_Trees_node⟩
  obtain ⟨fd_Trees_halves, FD_Trees_halves⟩ := c.def_ 2 (d := dd2) rfl
  have FD_Trees_halves : FD K s_Trees_halves "halves" "Trees.halves" (He.fAd K ("Trees", some "halves")) fd_Trees_halves := FD_Trees_halves
  have B_Trees_halves : Binds K fd_Trees_halves ["self", "tree", "level"] [] := FD_Trees_halves.bindsN fun _ _ _ _ _ _ us hl => match us, hl with | [_, _, _], _ => rfl
  have O_Trees_halves : FnOk P w K mg base (XC P w) 1 (He.fAd K ("Trees", some "halves")) fd_Trees_halves ["self", "tree", "level"] (spHalves P w (TTb K) (He.ga K "Trees")) := ok_halves (F := FD_Trees_halves) (X := TX)
  have G_M_halves : MtG P w K mg base (He.ga K "Trees") 1 "halves" ["self", "tree", "level"] (spHalves P w (TTb K) (He.ga K "Trees")) := ⟨TX.cls, _, _, He.meth_ok (c.fact 14 (f := .meth "Trees" "halves") rfl), O_Trees_halves, B_Trees_halves⟩
  obtain ⟨fd_Trees_both, FD_Trees_both⟩ := c.def_ 3 (d := dd3) rfl
  have FD_Trees_both : FD K s_Trees_both "both" "Trees.both" (He.fAd K ("Trees", some "both")) fd_Trees_both := FD_Trees_both
  have B_Trees_both : Binds K fd_Trees_both ["self", "one", "other"] [] := FD_Trees_both.bindsN fun _ _ _ _ _ _ us hl => match us, hl with | [_, _, _], _ => rfl
  have A_both := rec_both (P := P) (w := w) (base := base) (T := TTb K) FD_Trees_both TX G_M_node G_M_halves (He.meth_ok (c.fact 15 (f := .meth "Trees" "both") rfl)) B_Trees_both
  have G_M_both := A_both 16
  obtain ⟨fd_Trees_either, FD_Trees_either⟩ := c.def_ 5 (d := dd5) rfl
  have FD_Trees_either : FD K s_Trees_either "either" "Trees.either" (He.fAd K ("Trees", some "either")) fd_Trees_either := FD_Trees_either
  have B_Trees_either : Binds K fd_Trees_either ["self", "one", "other"] [] := FD_Trees_either.bindsN fun _ _ _ _ _ _ us hl => match us, hl with | [_, _, _], _ => rfl
  have A_either := rec_either (P := P) (w := w) (base := base) (T := TTb K) FD_Trees_either TX G_M_node G_M_halves (He.meth_ok (c.fact 17 (f := .meth "Trees" "either") rfl)) B_Trees_either
  have G_M_either := A_either 16
  obtain ⟨fd_Trees_rest, FD_Trees_rest⟩ := c.def_ 4 (d := dd4) rfl
  have FD_Trees_rest : FD K s_Trees_rest "rest" "Trees.rest" (He.fAd K ("Trees", some "rest")) fd_Trees_rest := FD_Trees_rest
  have B_Trees_rest : Binds K fd_Trees_rest ["self", "tree"] [] := FD_Trees_rest.bindsN fun _ _ _ _ _ _ us hl => match us, hl with | [_, _], _ => rfl
  have A_rest := rec_rest (P := P) (w := w) (base := base) (T := TTb K) FD_Trees_rest TX G_M_node (He.meth_ok (c.fact 16 (f := .meth "Trees" "rest") rfl)) B_Trees_rest
  have G_M_rest := A_rest 16
  obtain ⟨fd_doubled, FD_doubled⟩ := c.def_ 16 (d := dd16) rfl
  have FD_doubled : FD K s_doubled "doubled" "doubled" (He.fAd K ("doubled", none)) fd_doubled := FD_doubled
  have B_doubled : Binds K fd_doubled ["times"] [] := FD_doubled.bindsN fun _ _ _ _ _ _ us hl => match us, hl with | [_], _ => rfl
  have O_doubled : FnOk P w K mg base (XC P w) 1 (He.fAd K ("doubled", none)) fd_doubled ["times"] spDoubled := ok_doubled (F := FD_doubled) (X := TX)
  have G_F_doubled : FnG P w K mg base 1 "doubled" ["times"] spDoubled := ⟨_, _, He.glo_ok X G (c.fact 28 (f := .glo "doubled") rfl), FD_doubled.kp, O_doubled, B_doubled⟩
  obtain ⟨fd_Trees_row, FD_Trees_row⟩ := c.def_ 7 (d := dd7) rfl
  have FD_Trees_row : FD K s_Trees_row "row" "Trees.row" (He.fAd K ("Trees", some "row")) fd_Trees_row := FD_Trees_row
  have B_Trees_row : Binds K fd_Trees_row ["self", "signs"] [] := FD_Trees_row.bindsN fun _ _ _ _ _ _ us hl => match us, hl with | [_, _], _ => rfl
  have O_Trees_row : FnOk P w K mg base (XC P w) 2 (He.fAd K ("Trees", some "row")) fd_Trees_row ["self", "signs"] (spRow P w (TTb K) (He.ga K "Trees")) := ok_row (F := FD_Trees_row) (X := TX) (M_node := G_M_node)
  have G_M_row : MtG P w K mg base (He.ga K "Trees") 2 "row" ["self", "signs"] (spRow P w (TTb K) (He.ga K "Trees")) := ⟨TX.cls, _, _, He.meth_ok (c.fact 19 (f := .meth "Trees" "row") rfl), O_Trees_row, B_Trees_row⟩
  obtain ⟨fd_Trees_freed, FD_Trees_freed⟩ := c.def_ 8 (d := dd8) rfl
  have FD_Trees_freed : FD K s_Trees_freed "freed" "Trees.freed" (He.fAd K ("Trees", some "freed")) fd_Trees_freed := FD_Trees_freed
  have B_Trees_freed : Binds K fd_Trees_freed ["self", "tree", "levels"] [] := FD_Trees_freed.bindsN fun _ _ _ _ _ _ us hl => match us, hl with | [_, _, _], _ => rfl
  have A_freed := rec_freed (P := P) (w := w) (base := base) (T := TTb K) FD_Trees_freed TX G_M_node (He.meth_ok (c.fact 20 (f := .meth "Trees" "freed") rfl)) B_Trees_freed A_either
  have G_M_freed := A_freed 16
  obtain ⟨fd_Trees_put, FD_Trees_put⟩ := c.def_ 9 (d := dd9) rfl
  have FD_Trees_put : FD K s_Trees_put "put" "Trees.put" (He.fAd K ("Trees", some "put")) fd_Trees_put := FD_Trees_put
  have B_Trees_put : Binds K fd_Trees_put ["self", "tree", "signs"] [] := FD_Trees_put.bindsN fun _ _ _ _ _ _ us hl => match us, hl with | [_, _, _], _ => rfl
  have O_Trees_put : FnOk P w K mg base (XC P w) 20 (He.fAd K ("Trees", some "put")) fd_Trees_put ["self", "tree", "signs"] (spPut P w (TTb K) (He.ga K "Trees") 16) := ok_put (F := FD_Trees_put) (X := TX) (M_row := G_M_row) (d := 16) (M_both := G_M_both) (M_freed := G_M_freed)
  have G_M_put : MtG P w K mg base (He.ga K "Trees") 20 "put" ["self", "tree", "signs"] (spPut P w (TTb K) (He.ga K "Trees") 16) := ⟨TX.cls, _, _, He.meth_ok (c.fact 21 (f := .meth "Trees" "put") rfl), O_Trees_put, B_Trees_put⟩
  obtain ⟨fd_Trees_put_back, FD_Trees_put_back⟩ := c.def_ 10 (d := dd10) rfl
  have FD_Trees_put_back : FD K s_Trees_put_back "put_back" "Trees.put_back" (He.fAd K ("Trees", some "put_back")) fd_Trees_put_back := FD_Trees_put_back
  have B_Trees_put_back : Binds K fd_Trees_put_back ["self", "tree", "signs"] [] := FD_Trees_put_back.bindsN fun _ _ _ _ _ _ us hl => match us, hl with | [_, _, _], _ => rfl
  have O_Trees_put_back : FnOk P w K mg base (XC P w) 20 (He.fAd K ("Trees", some "put_back")) fd_Trees_put_back ["self", "tree", "signs"] (spPutBack P w (TTb K) (He.ga K "Trees") 16) := ok_put_back (F := FD_Trees_put_back) (X := TX) (M_row := G_M_row) (d := 16) (M_both := G_M_both) (M_freed := G_M_freed)
  have G_M_put_back : MtG P w K mg base (He.ga K "Trees") 20 "put_back" ["self", "tree", "signs"] (spPutBack P w (TTb K) (He.ga K "Trees") 16) := ⟨TX.cls, _, _, He.meth_ok (c.fact 22 (f := .meth "Trees" "put_back") rfl), O_Trees_put_back, B_Trees_put_back⟩
  obtain ⟨fd_Trees___init__, FD_Trees___init__⟩ := c.def_ 0 (d := dd0) rfl
  have FD_Trees___init__ : FD K s_Trees___init__ "__init__" "Trees.__init__" (He.fAd K ("Trees", some "__init__")) fd_Trees___init__ := FD_Trees___init__
  have B_Trees___init__ : Binds K fd_Trees___init__ ["self", "levels"] [] := FD_Trees___init__.bindsN fun _ _ _ _ _ _ us hl => match us, hl with | [_, _], _ => rfl
  have O_Trees___init__ : FnOk P w K mg base (XC P w) 1 (He.fAd K ("Trees", some "__init__")) fd_Trees___init__ ["self", "levels"] (spInit P w (TTb K) (He.ga K "Trees")) := ok_init (F := FD_Trees___init__) (X := TX)
  have G_F_Trees : MkG P w K mg base "Trees" (He.ga K "Trees") 1 ["self", "levels"] (spInit P w (TTb K) (He.ga K "Trees")) := ⟨TX.cls, _, _, He.glo_ok X G (c.fact 4 (f := .glo "Trees") rfl), He.mkr_ok (c.fact 6 (f := .mkr "Trees") rfl), O_Trees___init__, B_Trees___init__⟩
  obtain ⟨fd_Trees_first, FD_Trees_first⟩ := c.def_ 14 (d := dd14) rfl
  have FD_Trees_first : FD K s_Trees_first "first" "Trees.first" (He.fAd K ("Trees", some "first")) fd_Trees_first := FD_Trees_first
  have B_Trees_first : Binds K fd_Trees_first ["self", "tree"] [] := FD_Trees_first.bindsN fun _ _ _ _ _ _ us hl => match us, hl with | [_, _], _ => rfl
  have O_Trees_first : FnOk P w K mg base (XC P w) 2 (He.fAd K ("Trees", some "first")) fd_Trees_first ["self", "tree"] (spFirst P w (TTb K) (He.ga K "Trees")) := ok_first (F := FD_Trees_first) (X := TX) (M_halves := G_M_halves)
  have G_M_first : MtG P w K mg base (He.ga K "Trees") 2 "first" ["self", "tree"] (spFirst P w (TTb K) (He.ga K "Trees")) := ⟨TX.cls, _, _, He.meth_ok (c.fact 26 (f := .meth "Trees" "first") rfl), O_Trees_first, B_Trees_first⟩
  obtain ⟨fd_Trees_below, FD_Trees_below⟩ := c.def_ 12 (d := dd12) rfl
  have FD_Trees_below : FD K s_Trees_below "below" "Trees.below" (He.fAd K ("Trees", some "below")) fd_Trees_below := FD_Trees_below
  have B_Trees_below : Binds K fd_Trees_below ["self", "tree"] [] := FD_Trees_below.bindsN fun _ _ _ _ _ _ us hl => match us, hl with | [_, _], _ => rfl
  have O_Trees_below : FnOk P w K mg base (XC P w) 2 (He.fAd K ("Trees", some "below")) fd_Trees_below ["self", "tree"] (spBelow P w (TTb K) (He.ga K "Trees")) := ok_below (F := FD_Trees_below) (X := TX) (hc := code_of FD_Trees_below) (TB := TB) (hm := List.mem_cons_self ..) (hu := hu1)
  have G_M_below : MtG P w K mg base (He.ga K "Trees") 2 "below" ["self", "tree"] (spBelow P w (TTb K) (He.ga K "Trees")) := ⟨TX.cls, _, _, He.meth_ok (c.fact 24 (f := .meth "Trees" "below") rfl), O_Trees_below, B_Trees_below⟩
  obtain ⟨fd_Trees_many_parts, FD_Trees_many_parts⟩ := c.def_ 13 (d := dd13) rfl
  have FD_Trees_many_parts : FD K s_Trees_many_parts "many_parts" "Trees.many_parts" (He.fAd K ("Trees", some "many_parts")) fd_Trees_many_parts := FD_Trees_many_parts
  have B_Trees_many_parts : Binds K fd_Trees_many_parts ["self", "tree"] [] := FD_Trees_many_parts.bindsN fun _ _ _ _ _ _ us hl => match us, hl with | [_, _], _ => rfl
  have O_Trees_many_parts : FnOk P w K mg base (XC P w) 3 (He.fAd K ("Trees", some "many_parts")) fd_Trees_many_parts ["self", "tree"] (spManyParts P w (TTb K) (He.ga K "Trees")) := ok_many_parts (F := FD_Trees_many_parts) (X := TX) (M_below := G_M_below)
  have G_M_many_parts : MtG P w K mg base (He.ga K "Trees") 3 "many_parts" ["self", "tree"] (spManyParts P w (TTb K) (He.ga K "Trees")) := ⟨TX.cls, _, _, He.meth_ok (c.fact 25 (f := .meth "Trees" "many_parts") rfl), O_Trees_many_parts, B_Trees_many_parts⟩
  obtain ⟨fd_Trees_many, FD_Trees_many⟩ := c.def_ 11 (d := dd11) rfl
  have FD_Trees_many : FD K s_Trees_many "many" "Trees.many" (He.fAd K ("Trees", some "many")) fd_Trees_many := FD_Trees_many
  have B_Trees_many : Binds K fd_Trees_many ["self", "tree"] [] := FD_Trees_many.bindsN fun _ _ _ _ _ _ us hl => match us, hl with | [_, _], _ => rfl
  have O_Trees_many : FnOk P w K mg base (XC P w) 3 (He.fAd K ("Trees", some "many")) fd_Trees_many ["self", "tree"] (spMany P w (TTb K) (He.ga K "Trees")) := ok_many (F := FD_Trees_many) (X := TX) (M_below := G_M_below) (F_doubled := G_F_doubled)
  have G_M_many : MtG P w K mg base (He.ga K "Trees") 3 "many" ["self", "tree"] (spMany P w (TTb K) (He.ga K "Trees")) := ⟨TX.cls, _, _, He.meth_ok (c.fact 23 (f := .meth "Trees" "many") rfl), O_Trees_many, B_Trees_many⟩
  obtain ⟨fd_Trees_parts, FD_Trees_parts⟩ := c.def_ 15 (d := dd15) rfl
  have FD_Trees_parts : FD K s_Trees_parts "parts" "Trees.parts" (He.fAd K ("Trees", some "parts")) fd_Trees_parts := FD_Trees_parts
  have B_Trees_parts : Binds K fd_Trees_parts ["self", "tree"] [] := FD_Trees_parts.bindsN fun _ _ _ _ _ _ us hl => match us, hl with | [_, _], _ => rfl
  have O_Trees_parts : FnOk P w K mg base (XC P w) 2 (He.fAd K ("Trees", some "parts")) fd_Trees_parts ["self", "tree"] (spParts P w (TTb K) (He.ga K "Trees")) := ok_parts (F := FD_Trees_parts) (X := TX) (M_halves := G_M_halves)
  have G_M_parts : MtG P w K mg base (He.ga K "Trees") 2 "parts" ["self", "tree"] (spParts P w (TTb K) (He.ga K "Trees")) := ⟨TX.cls, _, _, He.meth_ok (c.fact 27 (f := .meth "Trees" "parts") rfl), O_Trees_parts, B_Trees_parts⟩
  obtain ⟨fd_is_integer, FD_is_integer⟩ := c.def_ 17 (d := dd17) rfl
  have FD_is_integer : FD K s_is_integer "is_integer" "is_integer" (He.fAd K ("is_integer", none)) fd_is_integer := FD_is_integer
  have B_is_integer : Binds K fd_is_integer ["value"] [] := FD_is_integer.bindsN fun _ _ _ _ _ _ us hl => match us, hl with | [_], _ => rfl
  have O_is_integer : FnOk P w K mg base (XC P w) 1 (He.fAd K ("is_integer", none)) fd_is_integer ["value"] spIsInteger := ok_is_integer (F := FD_is_integer) (X := HX)
  have G_F_is_integer : FnG P w K mg base 1 "is_integer" ["value"] spIsInteger := ⟨_, _, He.glo_ok X G (c.fact 29 (f := .glo "is_integer") rfl), FD_is_integer.kp, O_is_integer, B_is_integer⟩
  obtain ⟨fd_is_between, FD_is_between⟩ := c.def_ 18 (d := dd18) rfl
  have FD_is_between : FD K s_is_between "is_between" "is_between" (He.fAd K ("is_between", none)) fd_is_between := FD_is_between
  have B_is_between : Binds K fd_is_between ["value", "least", "most"] [] := FD_is_between.bindsN fun _ _ _ _ _ _ us hl => match us, hl with | [_, _, _], _ => rfl
  have O_is_between : FnOk P w K mg base (XC P w) 2 (He.fAd K ("is_between", none)) fd_is_between ["value", "least", "most"] spIsBetween := ok_is_between (F := FD_is_between) (F_is_integer := G_F_is_integer)
  have G_F_is_between : FnG P w K mg base 2 "is_between" ["value", "least", "most"] spIsBetween := ⟨_, _, He.glo_ok X G (c.fact 30 (f := .glo "is_between") rfl), FD_is_between.kp, O_is_between, B_is_between⟩
  obtain ⟨fd_check_width, FD_check_width⟩ := c.def_ 19 (d := dd19) rfl
  have FD_check_width : FD K s_check_width "check_width" "check_width" (He.fAd K ("check_width", none)) fd_check_width := FD_check_width
  have B_check_width : Binds K fd_check_width ["width"] [] := FD_check_width.bindsN fun _ _ _ _ _ _ us hl => match us, hl with | [_], _ => rfl
  have O_check_width : FnOk P w K mg base (XC P w) 3 (He.fAd K ("check_width", none)) fd_check_width ["width"] spCheckWidth := ok_check_width (F := FD_check_width) (X := HX) (F_is_between := G_F_is_between)
  have G_F_check_width : FnG P w K mg base 3 "check_width" ["width"] spCheckWidth := ⟨_, _, He.glo_ok X G (c.fact 36 (f := .glo "check_width") rfl), FD_check_width.kp, O_check_width, B_check_width⟩
  obtain ⟨fd_is_row, FD_is_row⟩ := c.def_ 20 (d := dd20) rfl
  have FD_is_row : FD K s_is_row "is_row" "is_row" (He.fAd K ("is_row", none)) fd_is_row := FD_is_row
  have B_is_row : Binds K fd_is_row ["width", "value", "signs"] [] := FD_is_row.bindsN fun _ _ _ _ _ _ us hl => match us, hl with | [_, _, _], _ => rfl
  have O_is_row : FnOk P w K mg base (XC P w) 1 (He.fAd K ("is_row", none)) fd_is_row ["width", "value", "signs"] (spIsRow K) := ok_is_row (F := FD_is_row) (X := HX)
  have G_F_is_row : FnG P w K mg base 1 "is_row" ["width", "value", "signs"] (spIsRow K) := ⟨_, _, He.glo_ok X G (c.fact 37 (f := .glo "is_row") rfl), FD_is_row.kp, O_is_row, B_is_row⟩
  obtain ⟨fd_is_head_of, FD_is_head_of⟩ := c.def_ 21 (d := dd21) rfl
  have FD_is_head_of : FD K s_is_head_of "is_head_of" "is_head_of" (He.fAd K ("is_head_of", none)) fd_is_head_of := FD_is_head_of
  have B_is_head_of : Binds K fd_is_head_of ["width", "value"] [] := FD_is_head_of.bindsN fun _ _ _ _ _ _ us hl => match us, hl with | [_, _], _ => rfl
  have O_is_head_of : FnOk P w K mg base (XC P w) 2 (He.fAd K ("is_head_of", none)) fd_is_head_of ["width", "value"] (spRowOf K "01") := ok_is_head_of (F := FD_is_head_of) (X := HX) (F_is_row := G_F_is_row)
  have G_F_is_head_of : FnG P w K mg base 2 "is_head_of" ["width", "value"] (spRowOf K "01") := ⟨_, _, He.glo_ok X G (c.fact 38 (f := .glo "is_head_of") rfl), FD_is_head_of.kp, O_is_head_of, B_is_head_of⟩
  obtain ⟨fd_is_pattern_of, FD_is_pattern_of⟩ := c.def_ 22 (d := dd22) rfl
  have FD_is_pattern_of : FD K s_is_pattern_of "is_pattern_of" "is_pattern_of" (He.fAd K ("is_pattern_of", none)) fd_is_pattern_of := FD_is_pattern_of
  have B_is_pattern_of : Binds K fd_is_pattern_of ["width", "value"] [] := FD_is_pattern_of.bindsN fun _ _ _ _ _ _ us hl => match us, hl with | [_, _], _ => rfl
  have O_is_pattern_of : FnOk P w K mg base (XC P w) 2 (He.fAd K ("is_pattern_of", none)) fd_is_pattern_of ["width", "value"] (spRowOf K "01*") := ok_is_pattern_of (F := FD_is_pattern_of) (X := HX) (F_is_row := G_F_is_row)
  have G_F_is_pattern_of : FnG P w K mg base 2 "is_pattern_of" ["width", "value"] (spRowOf K "01*") := ⟨_, _, He.glo_ok X G (c.fact 39 (f := .glo "is_pattern_of") rfl), FD_is_pattern_of.kp, O_is_pattern_of, B_is_pattern_of⟩
  obtain ⟨fd_is_mask_of, FD_is_mask_of⟩ := c.def_ 23 (d := dd23) rfl
  have FD_is_mask_of : FD K s_is_mask_of "is_mask_of" "is_mask_of" (He.fAd K ("is_mask_of", none)) fd_is_mask_of := FD_is_mask_of
  have B_is_mask_of : Binds K fd_is_mask_of ["width", "value"] [] := FD_is_mask_of.bindsN fun _ _ _ _ _ _ us hl => match us, hl with | [_, _], _ => rfl
  have O_is_mask_of : FnOk P w K mg base (XC P w) 2 (He.fAd K ("is_mask_of", none)) fd_is_mask_of ["width", "value"] (spRowOf K "01=") := ok_is_mask_of (F := FD_is_mask_of) (X := HX) (F_is_row := G_F_is_row)
  have G_F_is_mask_of : FnG P w K mg base 2 "is_mask_of" ["width", "value"] (spRowOf K "01=") := ⟨_, _, He.glo_ok X G (c.fact 40 (f := .glo "is_mask_of") rfl), FD_is_mask_of.kp, O_is_mask_of, B_is_mask_of⟩
  obtain ⟨fd_check_head, FD_check_head⟩ := c.def_ 30 (d := dd30) rfl
  have FD_check_head : FD K s_check_head "check_head" "check_head" (He.fAd K ("check_head", none)) fd_check_head := FD_check_head
  have B_check_head : Binds K fd_check_head ["width", "head"] [] := FD_check_head.bindsN fun _ _ _ _ _ _ us hl => match us, hl with | [_, _], _ => rfl
  have O_check_head : FnOk P w K mg base (XC P w) 3 (He.fAd K ("check_head", none)) fd_check_head ["width", "head"] (spCheckRow "01") := ok_check_head (F := FD_check_head) (F_is_head_of := G_F_is_head_of)
  have G_F_check_head : FnG P w K mg base 3 "check_head" ["width", "head"] (spCheckRow "01") := ⟨_, _, He.glo_ok X G (c.fact 47 (f := .glo "check_head") rfl), FD_check_head.kp, O_check_head, B_check_head⟩
  obtain ⟨fd_check_mask, FD_check_mask⟩ := c.def_ 41 (d := dd41) rfl
  have FD_check_mask : FD K s_check_mask "check_mask" "check_mask" (He.fAd K ("check_mask", none)) fd_check_mask := FD_check_mask
  have B_check_mask : Binds K fd_check_mask ["width", "mask"] [] := FD_check_mask.bindsN fun _ _ _ _ _ _ us hl => match us, hl with | [_, _], _ => rfl
  have O_check_mask : FnOk P w K mg base (XC P w) 3 (He.fAd K ("check_mask", none)) fd_check_mask ["width", "mask"] (spCheckRow "01=") := ok_check_mask (F := FD_check_mask) (F_is_mask_of := G_F_is_mask_of)
  have G_F_check_mask : FnG P w K mg base 3 "check_mask" ["width", "mask"] (spCheckRow "01=") := ⟨_, _, He.glo_ok X G (c.fact 58 (f := .glo "check_mask") rfl), FD_check_mask.kp, O_check_mask, B_check_mask⟩
  obtain ⟨fd_are_patterns, FD_are_patterns⟩ := c.def_ 24 (d := dd24) rfl
  have FD_are_patterns : FD K s_are_patterns "are_patterns" "are_patterns" (He.fAd K ("are_patterns", none)) fd_are_patterns := FD_are_patterns
  have B_are_patterns : Binds K fd_are_patterns ["width", "value"] [] := FD_are_patterns.bindsN fun _ _ _ _ _ _ us hl => match us, hl with | [_, _], _ => rfl
  have O_are_patterns : FnOk P w K mg base (XC P w) 3 (He.fAd K ("are_patterns", none)) fd_are_patterns ["width", "value"] (spArePatterns K) := ok_are_patterns (F := FD_are_patterns) (X := HX) (F_is_pattern_of := G_F_is_pattern_of)
  have G_F_are_patterns : FnG P w K mg base 3 "are_patterns" ["width", "value"] (spArePatterns K) := ⟨_, _, He.glo_ok X G (c.fact 41 (f := .glo "are_patterns") rfl), FD_are_patterns.kp, O_are_patterns, B_are_patterns⟩
  obtain ⟨fd_signs_of, FD_signs_of⟩ := c.def_ 25 (d := dd25) rfl
  have FD_signs_of : FD K s_signs_of "signs_of" "signs_of" (He.fAd K ("signs_of", none)) fd_signs_of := FD_signs_of
  have B_signs_of : Binds K fd_signs_of ["pattern"] [] := FD_signs_of.bindsN fun _ _ _ _ _ _ us hl => match us, hl with | [_], _ => rfl
  have O_signs_of : FnOk P w K mg base (XC P w) 1 (He.fAd K ("signs_of", none)) fd_signs_of ["pattern"] spSignsOf := ok_signs_of (F := FD_signs_of) (X := HX)
  have G_F_signs_of : FnG P w K mg base 1 "signs_of" ["pattern"] spSignsOf := ⟨_, _, He.glo_ok X G (c.fact 42 (f := .glo "signs_of") rfl), FD_signs_of.kp, O_signs_of, B_signs_of⟩
  obtain ⟨fd__law_take, FD__law_take⟩ := c.def_ 44 (d := dd44) rfl
  have FD__law_take : FD K s__law_take "_law_take" "_law_take" (He.fAd K ("_law_take", none)) fd__law_take := FD__law_take
  have B__law_take : Binds K fd__law_take ["pot", "upto"] [] := FD__law_take.bindsN fun _ _ _ _ _ _ us hl => match us, hl with | [_, _], _ => rfl
  have O__law_take : FnOk P w K mg base (XC P w) 1 (He.fAd K ("_law_take", none)) fd__law_take ["pot", "upto"] spTake := ok_take (F := FD__law_take) (X := LX)
  have G_F__law_take : FnG P w K mg base 1 "_law_take" ["pot", "upto"] spTake := ⟨_, _, He.glo_ok X G (c.fact 61 (f := .glo "_law_take") rfl), FD__law_take.kp, O__law_take, B__law_take⟩
  obtain ⟨fd__law_of, FD__law_of⟩ := c.def_ 45 (d := dd45) rfl
  have FD__law_of : FD K s__law_of "_law_of" "_law_of" (He.fAd K ("_law_of", none)) fd__law_of := FD__law_of
  have B__law_of : Binds K fd__law_of ["pot", "some"] [] := FD__law_of.bindsN fun _ _ _ _ _ _ us hl => match us, hl with | [_, _], _ => rfl
  have O__law_of : FnOk P w K mg base (XC P w) 2 (He.fAd K ("_law_of", none)) fd__law_of ["pot", "some"] (spOf K) := ok_of (F := FD__law_of) (X := LX) (F__law_take := G_F__law_take)
  have G_F__law_of : FnG P w K mg base 2 "_law_of" ["pot", "some"] (spOf K) := ⟨_, _, He.glo_ok X G (c.fact 62 (f := .glo "_law_of") rfl), FD__law_of.kp, O__law_of, B__law_of⟩
  obtain ⟨fd__law_row, FD__law_row⟩ := c.def_ 46 (d := dd46) rfl
  have FD__law_row : FD K s__law_row "_law_row" "_law_row" (He.fAd K ("_law_row", none)) fd__law_row := FD__law_row
  have B__law_row : Binds K fd__law_row ["pot", "width", "signs"] [] := FD__law_row.bindsN fun _ _ _ _ _ _ us hl => match us, hl with | [_, _, _], _ => rfl
  have O__law_row : FnOk P w K mg base (XC P w) 3 (He.fAd K ("_law_row", none)) fd__law_row ["pot", "width", "signs"] spRowL := ok_rowL (F := FD__law_row) (X := LX) (F__law_of := G_F__law_of)
  have G_F__law_row : FnG P w K mg base 3 "_law_row" ["pot", "width", "signs"] spRowL := ⟨_, _, He.glo_ok X G (c.fact 63 (f := .glo "_law_row") rfl), FD__law_row.kp, O__law_row, B__law_row⟩
  obtain ⟨fd_Trees_either, FD_Trees_either⟩ := c.def_ 5 (d := dd5) rfl
  have FD_Trees_either : FD K s_Trees_either "either" "Trees.either" (He.fAd K ("Trees", some "either")) fd_Trees_either := FD_Trees_either
  have B_Trees_either : Binds K fd_Trees_either ["self", "one", "other"] [] := FD_Trees_either.bindsN fun _ _ _ _ _ _ us hl => match us, hl with | [_, _, _], _ => rfl
  have A_eithC := rec_eithC (P := P) (w := w) (base := base) (T := TTb K) FD_Trees_either TX G_M_node G_M_halves (He.meth_ok (c.fact 17 (f := .meth "Trees" "either") rfl)) B_Trees_either
  have G_M_eithC := A_eithC 16
  obtain ⟨fd_Trees_together, FD_Trees_together⟩ := c.def_ 6 (d := dd6) rfl
  have FD_Trees_together : FD K s_Trees_together "together" "Trees.together" (He.fAd K ("Trees", some "together")) fd_Trees_together := FD_Trees_together
  have B_Trees_together : Binds K fd_Trees_together ["self", "some"] [] := FD_Trees_together.bindsN fun _ _ _ _ _ _ us hl => match us, hl with | [_, _], _ => rfl
  have O_Trees_together : FnOk P w K mg base (XC P w) 19 (He.fAd K ("Trees", some "together")) fd_Trees_together ["self", "some"] (spTogC P w (TTb K) (He.ga K "Trees") 16) := ok_togC (F := FD_Trees_together) (X := TX) (d := 16) (M_either := G_M_eithC)
  have G_M_together : MtG P w K mg base (He.ga K "Trees") 19 "together" ["self", "some"] (spTogC P w (TTb K) (He.ga K "Trees") 16) := ⟨TX.cls, _, _, He.meth_ok (c.fact 18 (f := .meth "Trees" "together") rfl), O_Trees_together, B_Trees_together⟩
  obtain ⟨fd_tree_of, FD_tree_of⟩ := c.def_ 26 (d := dd26) rfl
  have FD_tree_of : FD K s_tree_of "tree_of" "tree_of" (He.fAd K ("tree_of", none)) fd_tree_of := FD_tree_of
  have B_tree_of : Binds K fd_tree_of ["trees", "patterns"] [] := FD_tree_of.bindsN fun _ _ _ _ _ _ us hl => match us, hl with | [_, _], _ => rfl
  have O_tree_of : FnOk P w K mg base (XC P w) 20 (He.fAd K ("tree_of", none)) fd_tree_of ["trees", "patterns"] (spTreeC P w (TTb K) (He.ga K "Trees") 16) := ok_treeC (F := FD_tree_of) (X := HX) (F_signs_of := G_F_signs_of) (M_row := G_M_row) (d := 16) (M_together := G_M_together)
  have G_F_tree_of : FnG P w K mg base 20 "tree_of" ["trees", "patterns"] (spTreeC P w (TTb K) (He.ga K "Trees") 16) := ⟨_, _, He.glo_ok X G (c.fact 43 (f := .glo "tree_of") rfl), FD_tree_of.kp, O_tree_of, B_tree_of⟩
  obtain ⟨fd_told_heads, FD_told_heads⟩ := c.def_ 27 (d := dd27) rfl
  have FD_told_heads : FD K s_told_heads "told_heads" "told_heads" (He.fAd K ("told_heads", none)) fd_told_heads := FD_told_heads
  have B_told_heads : Binds K fd_told_heads ["trees", "tree"] [] := FD_told_heads.bindsN fun _ _ _ _ _ _ us hl => match us, hl with | [_, _], _ => rfl
  have O_told_heads : FnOk P w K mg base (XC P w) 4 (He.fAd K ("told_heads", none)) fd_told_heads ["trees", "tree"] (spTold P w (TTb K) (He.ga K "Trees") (He.ga K "TooMany")) := ok_told_heads (N := NX) (F := FD_told_heads) (X := HX) (M_many_parts := G_M_many_parts) (M_parts := G_M_parts)
  have G_F_told_heads : FnG P w K mg base 4 "told_heads" ["trees", "tree"] (spTold P w (TTb K) (He.ga K "Trees") (He.ga K "TooMany")) := ⟨_, _, He.glo_ok X G (c.fact 44 (f := .glo "told_heads") rfl), FD_told_heads.kp, O_told_heads, B_told_heads⟩
  obtain ⟨fd_is_heads_of, FD_is_heads_of⟩ := c.def_ 28 (d := dd28) rfl
  have FD_is_heads_of : FD K s_is_heads_of "is_heads_of" "is_heads_of" (He.fAd K ("is_heads_of", none)) fd_is_heads_of := FD_is_heads_of
  have B_is_heads_of : Binds K fd_is_heads_of ["width", "value"] [] := FD_is_heads_of.bindsN fun _ _ _ _ _ _ us hl => match us, hl with | [_, _], _ => rfl
  have O_is_heads_of : FnOk P w K mg base (XC P w) 21 (He.fAd K ("is_heads_of", none)) fd_is_heads_of ["width", "value"] (spIsHeads K (TTb K) 16) := ok_is_heads_of (F := FD_is_heads_of) (X := HX) (F_are_patterns := G_F_are_patterns) (F_Trees := G_F_Trees) (d := 16) (hbud := bud16) (F_tree_of := G_F_tree_of) (M_many_parts := G_M_many_parts) (F_told_heads := G_F_told_heads)
  have G_F_is_heads_of : FnG P w K mg base 21 "is_heads_of" ["width", "value"] (spIsHeads K (TTb K) 16) := ⟨_, _, He.glo_ok X G (c.fact 45 (f := .glo "is_heads_of") rfl), FD_is_heads_of.kp, O_is_heads_of, B_is_heads_of⟩
  obtain ⟨fd_check_heads, FD_check_heads⟩ := c.def_ 29 (d := dd29) rfl
  have FD_check_heads : FD K s_check_heads "check_heads" "check_heads" (He.fAd K ("check_heads", none)) fd_check_heads := FD_check_heads
  have B_check_heads : Binds K fd_check_heads ["width", "heads"] [] := FD_check_heads.bindsN fun _ _ _ _ _ _ us hl => match us, hl with | [_, _], _ => rfl
  have O_check_heads : FnOk P w K mg base (XC P w) 22 (He.fAd K ("check_heads", none)) fd_check_heads ["width", "heads"] (spCheckHeads (TTb K) 16) := ok_check_heads (F := FD_check_heads) (F_check_width := G_F_check_width) (d := 16) (F_is_heads_of := G_F_is_heads_of)
  have G_F_check_heads : FnG P w K mg base 22 "check_heads" ["width", "heads"] (spCheckHeads (TTb K) 16) := ⟨_, _, He.glo_ok X G (c.fact 46 (f := .glo "check_heads") rfl), FD_check_heads.kp, O_check_heads, B_check_heads⟩
  obtain ⟨fd_is_heads, FD_is_heads⟩ := c.def_ 31 (d := dd31) rfl
  have FD_is_heads : FD K s_is_heads "is_heads" "is_heads" (He.fAd K ("is_heads", none)) fd_is_heads := FD_is_heads
  have B_is_heads : Binds K fd_is_heads ["width", "value"] [] := FD_is_heads.bindsN fun _ _ _ _ _ _ us hl => match us, hl with | [_, _], _ => rfl
  have O_is_heads : FnOk P w K mg base (XC P w) 22 (He.fAd K ("is_heads", none)) fd_is_heads ["width", "value"] (spIsHeads K (TTb K) 16) := ok_is_heads (F := FD_is_heads) (F_check_width := G_F_check_width) (d := 16) (F_is_heads_of := G_F_is_heads_of)
  have G_F_is_heads : FnG P w K mg base 22 "is_heads" ["width", "value"] (spIsHeads K (TTb K) 16) := ⟨_, _, He.glo_ok X G (c.fact 48 (f := .glo "is_heads") rfl), FD_is_heads.kp, O_is_heads, B_is_heads⟩
  obtain ⟨fd_plain, FD_plain⟩ := c.def_ 32 (d := dd32) rfl
  have FD_plain : FD K s_plain "plain" "plain" (He.fAd K ("plain", none)) fd_plain := FD_plain
  have B_plain : Binds K fd_plain ["width", "patterns"] [] := FD_plain.bindsN fun _ _ _ _ _ _ us hl => match us, hl with | [_, _], _ => rfl
  have O_plain : FnOk P w K mg base (XC P w) 21 (He.fAd K ("plain", none)) fd_plain ["width", "patterns"] (spPlain (TTb K) (He.ga K "TooMany") 16) := ok_plain (F := FD_plain) (F_check_width := G_F_check_width) (F_are_patterns := G_F_are_patterns) (d := 16) (hbud := bud16) (F_Trees := G_F_Trees) (F_tree_of := G_F_tree_of) (F_told_heads := G_F_told_heads)
  have G_F_plain : FnG P w K mg base 21 "plain" ["width", "patterns"] (spPlain (TTb K) (He.ga K "TooMany") 16) := ⟨_, _, He.glo_ok X G (c.fact 49 (f := .glo "plain") rfl), FD_plain.kp, O_plain, B_plain⟩
  obtain ⟨fd_both, FD_both⟩ := c.def_ 35 (d := dd35) rfl
  have FD_both : FD K s_both "both" "both" (He.fAd K ("both", none)) fd_both := FD_both
  have B_both : Binds K fd_both ["width", "one", "other"] [] := FD_both.bindsN fun _ _ _ _ _ _ us hl => match us, hl with | [_, _, _], _ => rfl
  have O_both : FnOk P w K mg base (XC P w) 23 (He.fAd K ("both", none)) fd_both ["width", "one", "other"] (spBothH (TTb K) (He.ga K "TooMany") 16) := ok_bothH (F := FD_both) (d := 16) (hbud := bud16) (F_check_heads := G_F_check_heads) (F_Trees := G_F_Trees) (F_tree_of := G_F_tree_of) (F_told_heads := G_F_told_heads) (M_both := G_M_both)
  have G_F_both : FnG P w K mg base 23 "both" ["width", "one", "other"] (spBothH (TTb K) (He.ga K "TooMany") 16) := ⟨_, _, He.glo_ok X G (c.fact 52 (f := .glo "both") rfl), FD_both.kp, O_both, B_both⟩
  obtain ⟨fd_either, FD_either⟩ := c.def_ 36 (d := dd36) rfl
  have FD_either : FD K s_either "either" "either" (He.fAd K ("either", none)) fd_either := FD_either
  have B_either : Binds K fd_either ["width", "one", "other"] [] := FD_either.bindsN fun _ _ _ _ _ _ us hl => match us, hl with | [_, _, _], _ => rfl
  have O_either : FnOk P w K mg base (XC P w) 23 (He.fAd K ("either", none)) fd_either ["width", "one", "other"] (spEitherH (TTb K) (He.ga K "TooMany") 16) := ok_eitherH (F := FD_either) (d := 16) (hbud := bud16) (F_check_heads := G_F_check_heads) (F_Trees := G_F_Trees) (F_tree_of := G_F_tree_of) (F_told_heads := G_F_told_heads) (M_either := G_M_either)
  have G_F_either : FnG P w K mg base 23 "either" ["width", "one", "other"] (spEitherH (TTb K) (He.ga K "TooMany") 16) := ⟨_, _, He.glo_ok X G (c.fact 53 (f := .glo "either") rfl), FD_either.kp, O_either, B_either⟩
  obtain ⟨fd_others, FD_others⟩ := c.def_ 37 (d := dd37) rfl
  have FD_others : FD K s_others "others" "others" (He.fAd K ("others", none)) fd_others := FD_others
  have B_others : Binds K fd_others ["width", "heads"] [] := FD_others.bindsN fun _ _ _ _ _ _ us hl => match us, hl with | [_, _], _ => rfl
  have O_others : FnOk P w K mg base (XC P w) 23 (He.fAd K ("others", none)) fd_others ["width", "heads"] (spOthers (TTb K) (He.ga K "TooMany") 16) := ok_othersH (F := FD_others) (d := 16) (hbud := bud16) (F_check_heads := G_F_check_heads) (F_Trees := G_F_Trees) (F_tree_of := G_F_tree_of) (F_told_heads := G_F_told_heads) (M_rest := G_M_rest)
  have G_F_others : FnG P w K mg base 23 "others" ["width", "heads"] (spOthers (TTb K) (He.ga K "TooMany") 16) := ⟨_, _, He.glo_ok X G (c.fact 54 (f := .glo "others") rfl), FD_others.kp, O_others, B_others⟩
  obtain ⟨fd_how_many, FD_how_many⟩ := c.def_ 38 (d := dd38) rfl
  have FD_how_many : FD K s_how_many "how_many" "how_many" (He.fAd K ("how_many", none)) fd_how_many := FD_how_many
  have B_how_many : Binds K fd_how_many ["width", "heads"] [] := FD_how_many.bindsN fun _ _ _ _ _ _ us hl => match us, hl with | [_, _], _ => rfl
  have O_how_many : FnOk P w K mg base (XC P w) 23 (He.fAd K ("how_many", none)) fd_how_many ["width", "heads"] (spHowMany (TTb K) 16) := ok_how_manyH (F := FD_how_many) (d := 16) (hbud := bud16) (F_check_heads := G_F_check_heads) (F_Trees := G_F_Trees) (F_tree_of := G_F_tree_of) (F_told_heads := G_F_told_heads) (M_many := G_M_many)
  have G_F_how_many : FnG P w K mg base 23 "how_many" ["width", "heads"] (spHowMany (TTb K) 16) := ⟨_, _, He.glo_ok X G (c.fact 55 (f := .glo "how_many") rfl), FD_how_many.kp, O_how_many, B_how_many⟩
  obtain ⟨fd_put_into, FD_put_into⟩ := c.def_ 42 (d := dd42) rfl
  have FD_put_into : FD K s_put_into "put_into" "put_into" (He.fAd K ("put_into", none)) fd_put_into := FD_put_into
  have B_put_into : Binds K fd_put_into ["width", "heads", "mask"] [] := FD_put_into.bindsN fun _ _ _ _ _ _ us hl => match us, hl with | [_, _, _], _ => rfl
  have O_put_into : FnOk P w K mg base (XC P w) 23 (He.fAd K ("put_into", none)) fd_put_into ["width", "heads", "mask"] (spPutInto (TTb K) (He.ga K "TooMany") 16) := ok_put_intoH (F := FD_put_into) (d := 16) (hbud := bud16) (F_check_heads := G_F_check_heads) (F_Trees := G_F_Trees) (F_tree_of := G_F_tree_of) (F_told_heads := G_F_told_heads) (F_check_mask := G_F_check_mask) (F_signs_of := G_F_signs_of) (M_put := G_M_put)
  have G_F_put_into : FnG P w K mg base 23 "put_into" ["width", "heads", "mask"] (spPutInto (TTb K) (He.ga K "TooMany") 16) := ⟨_, _, He.glo_ok X G (c.fact 59 (f := .glo "put_into") rfl), FD_put_into.kp, O_put_into, B_put_into⟩
  obtain ⟨fd_put_before, FD_put_before⟩ := c.def_ 43 (d := dd43) rfl
  have FD_put_before : FD K s_put_before "put_before" "put_before" (He.fAd K ("put_before", none)) fd_put_before := FD_put_before
  have B_put_before : Binds K fd_put_before ["width", "heads", "mask"] [] := FD_put_before.bindsN fun _ _ _ _ _ _ us hl => match us, hl with | [_, _, _], _ => rfl
  have O_put_before : FnOk P w K mg base (XC P w) 23 (He.fAd K ("put_before", none)) fd_put_before ["width", "heads", "mask"] (spPutBefore (TTb K) (He.ga K "TooMany") 16) := ok_put_beforeH (F := FD_put_before) (d := 16) (hbud := bud16) (F_check_heads := G_F_check_heads) (F_Trees := G_F_Trees) (F_tree_of := G_F_tree_of) (F_told_heads := G_F_told_heads) (F_check_mask := G_F_check_mask) (F_signs_of := G_F_signs_of) (M_put_back := G_M_put_back)
  have G_F_put_before : FnG P w K mg base 23 "put_before" ["width", "heads", "mask"] (spPutBefore (TTb K) (He.ga K "TooMany") 16) := ⟨_, _, He.glo_ok X G (c.fact 60 (f := .glo "put_before") rfl), FD_put_before.kp, O_put_before, B_put_before⟩
  obtain ⟨fd_fits, FD_fits⟩ := c.def_ 33 (d := dd33) rfl
  have FD_fits : FD K s_fits "fits" "fits" (He.fAd K ("fits", none)) fd_fits := FD_fits
  have B_fits : Binds K fd_fits ["head", "pattern"] [] := FD_fits.bindsN fun _ _ _ _ _ _ us hl => match us, hl with | [_, _], _ => rfl
  have O_fits : FnOk P w K mg base (XC P w) 1 (He.fAd K ("fits", none)) fd_fits ["head", "pattern"] spFits := ok_fits (F := FD_fits) (X := HX)
  have G_F_fits : FnG P w K mg base 1 "fits" ["head", "pattern"] spFits := ⟨_, _, He.glo_ok X G (c.fact 50 (f := .glo "fits") rfl), FD_fits.kp, O_fits, B_fits⟩
  obtain ⟨fd_has_head, FD_has_head⟩ := c.def_ 34 (d := dd34) rfl
  have FD_has_head : FD K s_has_head "has_head" "has_head" (He.fAd K ("has_head", none)) fd_has_head := FD_has_head
  have B_has_head : Binds K fd_has_head ["width", "heads", "head"] [] := FD_has_head.bindsN fun _ _ _ _ _ _ us hl => match us, hl with | [_, _, _], _ => rfl
  have O_has_head : FnOk P w K mg base (XC P w) 23 (He.fAd K ("has_head", none)) fd_has_head ["width", "heads", "head"] (spHasHead (TTb K) 16) := ok_has_head (F := FD_has_head) (X := HX) (d := 16) (F_check_heads := G_F_check_heads) (F_check_head := G_F_check_head) (F_fits := G_F_fits)
  have G_F_has_head : FnG P w K mg base 23 "has_head" ["width", "heads", "head"] (spHasHead (TTb K) 16) := ⟨_, _, He.glo_ok X G (c.fact 51 (f := .glo "has_head") rfl), FD_has_head.kp, O_has_head, B_has_head⟩
  obtain ⟨fd_head_of, FD_head_of⟩ := c.def_ 39 (d := dd39) rfl
  have FD_head_of : FD K s_head_of "head_of" "head_of" (He.fAd K ("head_of", none)) fd_head_of := FD_head_of
  have B_head_of : Binds K fd_head_of ["trees", "tree"] [] := FD_head_of.bindsN fun _ _ _ _ _ _ us hl => match us, hl with | [_, _], _ => rfl
  have O_head_of : FnOk P w K mg base (XC P w) 3 (He.fAd K ("head_of", none)) fd_head_of ["trees", "tree"] (spHeadOf P w (TTb K) (He.ga K "Trees")) := ok_head_of (F := FD_head_of) (X := HX) (M_first := G_M_first)
  have G_F_head_of : FnG P w K mg base 3 "head_of" ["trees", "tree"] (spHeadOf P w (TTb K) (He.ga K "Trees")) := ⟨_, _, He.glo_ok X G (c.fact 56 (f := .glo "head_of") rfl), FD_head_of.kp, O_head_of, B_head_of⟩
  obtain ⟨fd_least_head, FD_least_head⟩ := c.def_ 40 (d := dd40) rfl
  have FD_least_head : FD K s_least_head "least_head" "least_head" (He.fAd K ("least_head", none)) fd_least_head := FD_least_head
  have B_least_head : Binds K fd_least_head ["width", "heads"] [] := FD_least_head.bindsN fun _ _ _ _ _ _ us hl => match us, hl with | [_, _], _ => rfl
  have O_least_head : FnOk P w K mg base (XC P w) 23 (He.fAd K ("least_head", none)) fd_least_head ["width", "heads"] (spLeast (TTb K) 16) := ok_least_head (F := FD_least_head) (d := 16) (hbud := bud16) (F_check_heads := G_F_check_heads) (F_Trees := G_F_Trees) (F_tree_of := G_F_tree_of) (F_head_of := G_F_head_of)
  have G_F_least_head : FnG P w K mg base 23 "least_head" ["width", "heads"] (spLeast (TTb K) 16) := ⟨_, _, He.glo_ok X G (c.fact 57 (f := .glo "least_head") rfl), FD_least_head.kp, O_least_head, B_least_head⟩
  obtain ⟨fd__law_patterns, FD__law_patterns⟩ := c.def_ 47 (d := dd47) rfl
  have FD__law_patterns : FD K s__law_patterns "_law_patterns" "_law_patterns" (He.fAd K ("_law_patterns", none)) fd__law_patterns := FD__law_patterns
  have B__law_patterns : Binds K fd__law_patterns ["pot", "width", "most"] [] := FD__law_patterns.bindsN fun _ _ _ _ _ _ us hl => match us, hl with | [_, _, _], _ => rfl
  have O__law_patterns : FnOk P w K mg base (XC P w) 4 (He.fAd K ("_law_patterns", none)) fd__law_patterns ["pot", "width", "most"] spPats := ok_pats (F := FD__law_patterns) (X := LX) (F__law_take := G_F__law_take) (F__law_of := G_F__law_of) (F__law_row := G_F__law_row)
  have G_F__law_patterns : FnG P w K mg base 4 "_law_patterns" ["pot", "width", "most"] spPats := ⟨_, _, He.glo_ok X G (c.fact 64 (f := .glo "_law_patterns") rfl), FD__law_patterns.kp, O__law_patterns, B__law_patterns⟩
  obtain ⟨fd__law_put, FD__law_put⟩ := c.def_ 48 (d := dd48) rfl
  have FD__law_put : FD K s__law_put "_law_put" "_law_put" (He.fAd K ("_law_put", none)) fd__law_put := FD__law_put
  have B__law_put : Binds K fd__law_put ["head", "mask"] [] := FD__law_put.bindsN fun _ _ _ _ _ _ us hl => match us, hl with | [_, _], _ => rfl
  have O__law_put : FnOk P w K mg base (XC P w) 1 (He.fAd K ("_law_put", none)) fd__law_put ["head", "mask"] spPutL := ok_putL (F := FD__law_put) (X := LX)
  have G_F__law_put : FnG P w K mg base 1 "_law_put" ["head", "mask"] spPutL := ⟨_, _, He.glo_ok X G (c.fact 65 (f := .glo "_law_put") rfl), FD__law_put.kp, O__law_put, B__law_put⟩
  obtain ⟨fd__law_pot, FD__law_pot⟩ := c.def_ 49 (d := dd49) rfl
  have FD__law_pot : FD K s__law_pot "_law_pot" "_law_pot" (He.fAd K ("_law_pot", none)) fd__law_pot := FD__law_pot
  have B__law_pot : Binds K fd__law_pot ["script", "place"] [] := FD__law_pot.bindsN fun _ _ _ _ _ _ us hl => match us, hl with | [_, _], _ => rfl
  have O__law_pot : FnOk P w K mg base (XC P w) 1 (He.fAd K ("_law_pot", none)) fd__law_pot ["script", "place"] (spPot K) := ok_pot (F := FD__law_pot) (X := LX)
  have G_F__law_pot : FnG P w K mg base 1 "_law_pot" ["script", "place"] (spPot K) := ⟨_, _, He.glo_ok X G (c.fact 66 (f := .glo "_law_pot") rfl), FD__law_pot.kp, O__law_pot, B__law_pot⟩
  obtain ⟨fd__law_right, FD__law_right⟩ := c.def_ 51 (d := dd51) rfl
  have FD__law_right : FD K s__law_right "_law_right" "_law_right" (He.fAd K ("_law_right", none)) fd__law_right := FD__law_right
  have B__law_right : Binds K fd__law_right ["pot"] [] := FD__law_right.bindsN fun _ _ _ _ _ _ us hl => match us, hl with | [_], _ => rfl
  obtain ⟨fd__law_heard, FD__law_heard⟩ := c.def_ 50 (d := dd50) rfl
  have FD__law_heard : FD K s__law_heard "_law_heard" "_law_heard" (He.fAd K ("_law_heard", none)) fd__law_heard := FD__law_heard
  have B__law_heard : Binds K fd__law_heard ["look"] [] := FD__law_heard.bindsN fun _ _ _ _ _ _ us hl => match us, hl with | [_], _ => rfl
  have RT : RtG P w K mg base (TTb K) (He.ga K "TooMany") := { F__law_take := G_F__law_take, F__law_of := G_F__law_of, F__law_patterns := G_F__law_patterns, F__law_row := G_F__law_row, F__law_put := G_F__law_put, F_plain := G_F_plain, F_both := G_F_both, F_either := G_F_either, F_others := G_F_others, F_how_many := G_F_how_many, F_put_into := G_F_put_into, F_put_before := G_F_put_before, F_is_heads := G_F_is_heads, F_least_head := G_F_least_head, F_has_head := G_F_has_head }
  have G_right : FnG P w K mg base 25 "_law_right" ["pot"] (spRight (TTb K) (He.ga K "TooMany")) := ⟨_, _, He.glo_ok X G (c.fact 68 (f := .glo "_law_right") rfl), FD__law_right.kp, ok_right FD__law_right LX RT, B__law_right⟩
  exact ok_law FL LX (code_of FL) TB2 (List.mem_cons_of_mem _ (List.mem_cons_self ..)) hu2 G_F__law_pot G_right FD__law_heard (He.glo_ok X G (c.fact 67 (f := .glo "_law_heard") rfl)) (He.glo_ok X G (c.fact 0 (f := .glo "NetError") rfl)) gT x3 xc xf (supB_c x1).1.noV
abbrev LawL : PySem.W.OpenLaw := PySem.Challenge.rw_whereversent_k73_great_heads_put_togethe
theorem law_gd {w : World} {mg : Str → Option Value} {fa : Addr} {h : Heap} (Y : hk.says w h) (G : h.Ns mainGlobals mg) (hmg : mg ("law" : Str) = some (.ref fa)) : LawGd LawL w 28 63 "script" mg fa h := by
  obtain ⟨K, KX, y⟩ := Y
  have c := y.told
  have cd := c.t.d
  obtain ⟨fdl, FL⟩ := cd.def_ 52 (d := dd52) rfl
  have FL : FD K s_law "law" "law" (He.ga K "law") fdl := FL
  have e : fa = He.ga K "law" := by
    have e1 := hmg.symm.trans (He.glo_ok KX G (cd.fact 69 (f := .glo "law") rfl))
    injection e1 with e1
    injection e1
  subst e
  have hb := FL.bindsA (ps := ["script"]) fun _ _ _ _ _ _ us hl => match us, hl with | [_], _ => rfl
  have two : ∀ p ∈ [bel K, lwt K], p = He.cT K ("Trees", some "below") ∨ p = He.cT K ("law", none) := fun p hp => by
    rcases List.mem_cons.mp hp with h | h
    · exact .inl h
    · exact .inr (List.mem_singleton.mp h)
  refine ⟨K, fdl, [bel K, lwt K], spLaw K (TTb K), KX, fun p hp => ?_, fun p hp => ?_, fun p hp => ?_, fun s v => hb s [v] rfl, fun H a ns hl hbits htab hS => ⟨a, ns, rfl, hS, Nat.le_trans hl (by decide), hbits, fun p hp => ?_, fun _ => rfl⟩, fun base kin gl tb => gd_of_fn (join_law KX G cd FL rfl rfl c.more y.ini (tb _ (List.mem_cons_self ..)) (tb _ (List.mem_cons_of_mem _ (List.mem_cons_self ..))))⟩
  · rcases two p hp with rfl | rfl
    · exact c.empty _ (List.mem_cons_self ..)
    · exact c.empty _ (List.mem_cons_of_mem _ (List.mem_cons_self ..))
  · rcases two p hp with rfl | rfl
    · exact c.out _ (List.mem_cons_self ..)
    · exact c.out _ (List.mem_cons_of_mem _ (List.mem_cons_self ..))
  · rcases two p hp with rfl | rfl
    · exact PySem.W.codeHd_of_K KX (c.hd _ (List.mem_cons_self ..))
    · exact PySem.W.codeHd_of_K KX (c.hd _ (List.mem_cons_of_mem _ (List.mem_cons_self ..)))
  · rcases List.mem_cons.mp hp with rfl | hp
    · exact TabS.nil (htab _ (List.mem_cons_self ..))
    · rw [List.mem_singleton.mp hp]
      exact TabS.nil (htab _ (List.mem_cons_of_mem _ (List.mem_cons_self ..)))
end My
set_option maxHeartbeats 0
open PySem PySem.W PySem.Calls PyProof.Rows
theorem PySem.Challenge.cw_whereversent_k73_great_heads_put_togethe_holds : PySem.Challenge.rw_whereversent_k73_great_heads_put_togethe.Holds := by
  w_on; o_law
  refine HandSHeadRun.head_any (r := OpenLaw.row PySem.Challenge.rw_whereversent_k73_great_heads_put_togethe) (q := view (OpenLaw.row PySem.Challenge.rw_whereversent_k73_great_heads_put_togethe).prog [57]) (H := My.hk) (ob := My.ob) (M := 4000) (loose := My.loose) (d := HandSHeadRun.topDef (OpenLaw.row PySem.Challenge.rw_whereversent_k73_great_heads_put_togethe).prog 57) (kwd := []) My.ob_eq
    (by kernel_rfl) (fun s => by kernel_rfl) My.run (by kernel_rfl) (by kernel_rfl) (by kernel_rfl) (by rfl) (by first | assumption | decide +kernel) (by decide +kernel) ⟨rfl, rfl, rfl, rfl, rfl, by decide +kernel⟩ ?hw ?hc
  case hw => w_witness2
  case hc =>
    refine My.walk_gd (l := PySem.Challenge.rw_whereversent_k73_great_heads_put_togethe) (n := 63) (k := 28) (x := "script") rfl (by decide) (by kernel_rfl) ⟨rfl, by decide, by decide⟩ ?F
    intro w mg fa h Y G hmg0
    have hmg : mg ("law" : PySem.Str) = some (.ref fa) := by
      have e : (HandSHeadRun.topDef (OpenLaw.row PySem.Challenge.rw_whereversent_k73_great_heads_put_togethe).prog 57).name = ("law" : PySem.Str) := by kernel_rfl
      rw [← e]
      exact hmg0
    exact My.law_gd Y G hmg
