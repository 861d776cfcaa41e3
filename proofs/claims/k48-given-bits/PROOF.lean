import PyProof.Rows.All
import Wide.All
import OpenK.AllK
import Wide.FinOn
import HandS.ForMost
import HandS.Star
import KE.DataMinMax
import PyProof.Claim2Refuses
import HandS.Evl
import PySem.Challenge.RW_farhaul_k48_whole_given_bits_are_told
set_option Elab.async false
set_option linter.all false
set_option maxRecDepth 100000
set_option maxHeartbeats 8000000
namespace Fh

/-! ### the order -/
def lexI : List Int → List Int → Bool
  | [], [] => false
  | [], _ :: _ => true
  | _ :: _, [] => false
  | x :: r, y :: t => decide (x < y) || (!decide (y < x) && lexI r t)
theorem lexI_irrefl : ∀ l, lexI l l = false
  | [] => rfl
  | x :: r => by
    have ih := lexI_irrefl r
    simp [lexI, ih]
theorem lexI_trans : ∀ a b c, lexI a b = true → lexI b c = true → lexI a c = true
  | [], [], c, h, _ => by simp [lexI] at h
  | [], _ :: _, [], _, h => by simp [lexI] at h
  | [], _ :: _, _ :: _, _, _ => rfl
  | _ :: _, [], _, h, _ => by simp [lexI] at h
  | _ :: _, _ :: _, [], _, h => by simp [lexI] at h
  | x :: r, y :: t, z :: u, h1, h2 => by
    have ih := lexI_trans r t u
    simp only [lexI, Bool.or_eq_true, decide_eq_true_eq, Bool.and_eq_true, Bool.not_eq_true', decide_eq_false_iff_not] at h1 h2 ⊢
    rcases h1 with h1 | ⟨h1, h1'⟩ <;> rcases h2 with h2 | ⟨h2, h2'⟩
    · left; omega
    · left; omega
    · left; omega
    · by_cases e : x < z
      · left; exact e
      · right; exact ⟨by omega, ih h1' h2'⟩
theorem lexI_anti : ∀ a b, lexI a b = false → lexI b a = false → a = b
  | [], [], _, _ => rfl
  | [], _ :: _, h, _ => by simp [lexI] at h
  | _ :: _, [], _, h => by simp [lexI] at h
  | x :: r, y :: t, h1, h2 => by
    have ih := lexI_anti r t
    simp only [lexI, Bool.or_eq_false_iff, decide_eq_false_iff_not, Bool.and_eq_false_iff, Bool.not_eq_false', decide_eq_true_eq] at h1 h2
    have e : x = y := by omega
    subst e
    rw [ih (by simpa using h1.2) (by simpa using h2.2)]
theorem lexI_app : ∀ a b (z : List Int), a.length = b.length → lexI (a ++ z) (b ++ z) = lexI a b
  | [], [], z, _ => by simp [lexI_irrefl]
  | [], _ :: _, _, h => by simp at h
  | _ :: _, [], _, h => by simp at h
  | x :: r, y :: t, z, h => by
    have ih := lexI_app r t z (by simpa using h)
    simp only [List.cons_append, lexI, ih]

def ltP (p q : Int × List Int) : Bool := decide (p.1 < q.1) || (decide (p.1 = q.1) && lexI p.2 q.2)
theorem ltP_trans {p q r : Int × List Int} (h1 : ltP p q = true) (h2 : ltP q r = true) : ltP p r = true := by
  simp only [ltP, Bool.or_eq_true, decide_eq_true_eq, Bool.and_eq_true] at h1 h2 ⊢
  rcases h1 with h1 | ⟨h1, h1'⟩ <;> rcases h2 with h2 | ⟨h2, h2'⟩
  · left; omega
  · left; omega
  · left; omega
  · right; exact ⟨by omega, lexI_trans _ _ _ h1' h2'⟩
theorem ltP_irrefl (p : Int × List Int) : ltP p p = false := by simp [ltP, lexI_irrefl]
theorem ltP_false {p q : Int × List Int} : ltP p q = false ↔ q.1 ≤ p.1 ∧ (p.1 = q.1 → lexI p.2 q.2 = false) := by
  simp only [ltP, Bool.or_eq_false_iff, decide_eq_false_iff_not, Bool.and_eq_false_iff]
  constructor
  · rintro ⟨a, b⟩
    refine ⟨by omega, fun e => ?_⟩
    rcases b with b | b
    · exact absurd e b
    · exact b
  · rintro ⟨a, b⟩
    refine ⟨by omega, ?_⟩
    by_cases e : p.1 = q.1
    · right; exact b e
    · left; exact e
/-- q not greater than r, p not less than q: p is not less than r's lessers -/
theorem ltP_le_trans {p q r : Int × List Int} (h1 : ltP p q = false) (h2 : ltP q r = false) : ltP p r = false := by
  rw [ltP_false] at h1 h2 ⊢
  refine ⟨by omega, fun e => ?_⟩
  have e1 : p.1 = q.1 := by omega
  have e2 : q.1 = r.1 := by omega
  have a := h1.2 e1
  have b := h2.2 e2
  cases h : lexI p.2 r.2 with
  | false => rfl
  | true =>
    by_cases hq : lexI q.2 p.2 = true
    · have := lexI_trans _ _ _ hq h
      rw [this] at b; cases b
    · have := lexI_anti _ _ a (by simpa using hq)
      rw [this, b] at h
      cases h

/-! ### paths forward -/
abbrev Path := Option (Int × List Int)
def relax (ps : List Path) (k : Nat) (p : Int × List Int) : List Path :=
  match ps[k]? with
  | some (some q) => if ltP p q = true then ps.set k (some p) else ps
  | _ => ps.set k (some p)
theorem relax_len (ps : List Path) (k : Nat) (p) : (relax ps k p).length = ps.length := by
  unfold relax
  split
  · split <;> simp
  · simp

section
variable (nx : Nat → Nat → Nat)
def stepS (wt : Nat → Nat → Int) (ps acc : List Path) (s : Nat) : List Path :=
  match ps[s]? with
  | some (some (c, l)) => relax (relax acc (nx s 0) (c + wt s 0, l ++ [0])) (nx s 1) (c + wt s 1, l ++ [1])
  | _ => acc
def turnTo (wt : Nat → Nat → Int) (ps : List Path) : Nat → List Path
  | 0 => List.replicate ps.length none
  | i + 1 => stepS nx wt ps (turnTo wt ps i) i
def turnF (wt : Nat → Nat → Int) (ps : List Path) : List Path := turnTo nx wt ps ps.length
theorem stepS_len (wt) (ps acc : List Path) (s : Nat) : (stepS nx wt ps acc s).length = acc.length := by
  unfold stepS
  split
  · rw [relax_len, relax_len]
  · rfl
theorem turnTo_len (wt) (ps : List Path) : ∀ i, (turnTo nx wt ps i).length = ps.length
  | 0 => by simp [turnTo]
  | i + 1 => by rw [turnTo, stepS_len, turnTo_len wt ps i]
theorem turnF_len (wt) (ps : List Path) : (turnF nx wt ps).length = ps.length := turnTo_len nx wt ps _

/-- acc holds the least of the candidates C -/
def Least (M : Nat) (acc : List Path) (C : Nat → (Int × List Int) → Prop) : Prop :=
  acc.length = M ∧ ∀ k, k < M → ∃ o, acc[k]? = some o ∧ match o with
    | none => ∀ p, ¬ C k p
    | some q => C k q ∧ ∀ p, C k p → ltP p q = false
theorem Least.relax {M : Nat} {acc : List Path} {C : Nat → (Int × List Int) → Prop} (h : Least M acc C) {k : Nat} (hk : k < M) (p : Int × List Int) :
    Least M (relax acc k p) (fun j q => C j q ∨ (j = k ∧ q = p)) := by
  obtain ⟨hl, h⟩ := h
  refine ⟨by rw [relax_len, hl], fun j hj => ?_⟩
  obtain ⟨o, e, ho⟩ := h j hj
  obtain ⟨o', e', ho'⟩ := h k hk
  by_cases hjk : j = k
  · subst hjk
    rw [e] at e'; cases e'
    unfold Fh.relax
    rw [e]
    cases o with
    | none =>
      refine ⟨some p, ?_, ?_⟩
      · rw [List.getElem?_set_self (by omega)]
      · refine ⟨.inr ⟨rfl, rfl⟩, fun q hq => ?_⟩
        rcases hq with hq | ⟨_, rfl⟩
        · exact absurd hq (ho q)
        · exact ltP_irrefl _
    | some q =>
      simp only
      obtain ⟨h1, h2⟩ := ho
      by_cases hp : ltP p q = true
      · rw [if_pos hp]
        refine ⟨some p, ?_, ?_⟩
        · rw [List.getElem?_set_self (by omega)]
        · refine ⟨.inr ⟨trivial, rfl⟩, fun r hr => ?_⟩
          rcases hr with hr | ⟨_, rfl⟩
          · have := h2 r hr
            cases z : ltP r p with
            | false => rfl
            | true => rw [ltP_trans z hp] at this; cases this
          · exact ltP_irrefl _
      · rw [if_neg hp]
        refine ⟨some q, e, .inl h1, fun r hr => ?_⟩
        rcases hr with hr | ⟨_, rfl⟩
        · exact h2 r hr
        · simpa using hp
  · refine ⟨o, ?_, ?_⟩
    · unfold Fh.relax
      split
      · split
        · rw [List.getElem?_set_ne (Ne.symm hjk), e]
        · exact e
      · rw [List.getElem?_set_ne (Ne.symm hjk), e]
    · cases o with
      | none => rintro q (hq | ⟨z, _⟩)
                · exact ho q hq
                · exact hjk z
      | some q =>
        refine ⟨.inl ho.1, ?_⟩
        rintro r (hr | ⟨z, _⟩)
        · exact ho.2 r hr
        · exact absurd z hjk
theorem Least.congr {M : Nat} {acc : List Path} {C C' : Nat → (Int × List Int) → Prop} (h : Least M acc C) (e : ∀ k p, C k p ↔ C' k p) : Least M acc C' := by
  have : C = C' := by funext k p; exact propext (e k p)
  rw [← this]; exact h

def Cand (wt : Nat → Nat → Int) (ps : List Path) (n k : Nat) (p : Int × List Int) : Prop :=
  ∃ s b c l, s < n ∧ b < 2 ∧ ps[s]? = some (some (c, l)) ∧ nx s b = k ∧ p = (c + wt s b, l ++ [(b : Int)])
theorem turnTo_least {M : Nat} (hnx : ∀ s b, s < M → b < 2 → nx s b < M) (wt) (ps : List Path) (hl : ps.length = M) : ∀ i, i ≤ M → Least M (turnTo nx wt ps i) (Cand nx wt ps i)
  | 0, _ => by
    refine ⟨by simp [turnTo, hl], fun k hk => ⟨none, ?_, ?_⟩⟩
    · rw [turnTo, List.getElem?_replicate, if_pos (by omega)]
    · rintro p ⟨s, _, _, _, h, _⟩
      omega
  | i + 1, hi => by
    have ih := turnTo_least hnx wt ps hl i (by omega)
    rw [turnTo]
    unfold stepS
    split
    · rename_i c l e
      refine ((ih.relax (hnx i 0 (by omega) (by omega)) _).relax (hnx i 1 (by omega) (by omega)) _).congr fun k p => ?_
      constructor
      · rintro ((⟨s, b, c', l', h1, h2, h3, h4, h5⟩ | ⟨h1, h2⟩) | ⟨h1, h2⟩)
        · exact ⟨s, b, c', l', by omega, h2, h3, h4, h5⟩
        · exact ⟨i, 0, c, l, by omega, by omega, e, h1.symm, h2⟩
        · exact ⟨i, 1, c, l, by omega, by omega, e, h1.symm, h2⟩
      · rintro ⟨s, b, c', l', h1, h2, h3, h4, h5⟩
        by_cases hs : s = i
        · subst hs
          rw [e] at h3
          cases h3
          have hb : b = 0 ∨ b = 1 := by omega
          rcases hb with rfl | rfl
          · exact .inl (.inr ⟨h4.symm, h5⟩)
          · exact .inr ⟨h4.symm, h5⟩
        · exact .inl (.inl ⟨s, b, c', l', by omega, h2, h3, h4, h5⟩)
    · rename_i hne
      refine ih.congr fun k p => ?_
      constructor
      · rintro ⟨s, b, c', l', h1, h2, h3, h4, h5⟩
        exact ⟨s, b, c', l', by omega, h2, h3, h4, h5⟩
      · rintro ⟨s, b, c', l', h1, h2, h3, h4, h5⟩
        by_cases hs : s = i
        · subst hs
          exact absurd h3 (hne c' l')
        · exact ⟨s, b, c', l', by omega, h2, h3, h4, h5⟩

variable (w : Nat → Nat → Nat → Int)
def path0 (M : Nat) : List Path := some (0, []) :: List.replicate (M - 1) none
def pathsAt (M : Nat) : Nat → List Path
  | 0 => path0 M
  | t + 1 => turnF nx (w t) (pathsAt M t)

def fin (s : Nat) (l : List Int) : Nat := l.foldl (fun s b => nx s b.toNat) s
def cst : Nat → Nat → List Int → Int
  | _, _, [] => 0
  | t, s, b :: l => w t s b.toNat + cst (t + 1) (nx s b.toNat) l
def Bits (l : List Int) : Prop := ∀ x ∈ l, x = 0 ∨ x = 1
theorem fin_app (s : Nat) (l m : List Int) : fin nx s (l ++ m) = fin nx (fin nx s l) m := by
  simp [fin, List.foldl_append]
theorem cst_app : ∀ (l m : List Int) (t s : Nat), cst nx w t s (l ++ m) = cst nx w t s l + cst nx w (t + l.length) (fin nx s l) m
  | [], m, t, s => by simp [cst, fin]
  | b :: l, m, t, s => by
    have ih := cst_app l m (t + 1) (nx s b.toNat)
    have e : t + 1 + l.length = t + (b :: l).length := by simp; omega
    rw [List.cons_append, cst, cst, ih, e]
    have e2 : fin nx s (b :: l) = fin nx (nx s b.toNat) l := rfl
    rw [e2]
    omega
theorem Bits.app {l m : List Int} : Bits (l ++ m) ↔ Bits l ∧ Bits m := by
  unfold Bits
  constructor
  · intro h
    exact ⟨fun x hx => h x (List.mem_append_left _ hx), fun x hx => h x (List.mem_append_right _ hx)⟩
  · rintro ⟨a, b⟩ x hx
    rcases List.mem_append.mp hx with hx | hx
    · exact a x hx
    · exact b x hx
theorem fin_lt {M : Nat} (hnx : ∀ s b, s < M → b < 2 → nx s b < M) : ∀ (l : List Int) (s : Nat), s < M → Bits l → fin nx s l < M
  | [], s, hs, _ => hs
  | b :: l, s, hs, hb => by
    have h1 := hb b List.mem_cons_self
    have h2 : b.toNat < 2 := by omega
    exact fin_lt hnx l _ (hnx s _ hs h2) fun x hx => hb x (List.mem_cons_of_mem _ hx)

def Told (M t : Nat) (ps : List Path) : Prop := ps.length = M ∧ ∀ k, k < M → ∃ o, ps[k]? = some o ∧ match o with
  | none => ∀ l, l.length = t → Bits l → fin nx 0 l ≠ k
  | some (c, l) => l.length = t ∧ Bits l ∧ fin nx 0 l = k ∧ c = cst nx w 0 0 l ∧
      ∀ l', l'.length = t → Bits l' → fin nx 0 l' = k → ltP (cst nx w 0 0 l', l') (c, l) = false
theorem told0 {M : Nat} (hM : 0 < M) : Told nx w M 0 (path0 M) := by
  refine ⟨by simp [path0]; omega, fun k hk => ?_⟩
  cases k with
  | zero =>
    refine ⟨some (0, []), rfl, rfl, by intro x hx; simp at hx, rfl, rfl, ?_⟩
    intro l' h _ _
    have := List.eq_nil_of_length_eq_zero h
    subst this
    exact ltP_irrefl _
  | succ k =>
    refine ⟨none, ?_, ?_⟩
    · show (List.replicate (M - 1) (none : Path))[k]? = _
      rw [List.getElem?_replicate, if_pos (by omega)]
    · intro l h _ e
      have := List.eq_nil_of_length_eq_zero h
      subst this
      simp [fin] at e
theorem last_of {t : Nat} {l : List Int} (h : l.length = t + 1) : ∃ m x, l = m ++ [x] ∧ m.length = t := by
  have hne : l ≠ [] := by intro e; subst e; simp at h
  refine ⟨l.dropLast, l.getLast hne, (List.dropLast_concat_getLast hne).symm, ?_⟩
  rw [List.length_dropLast]; omega
theorem told_turn {M t : Nat} (hM : 0 < M) (hnx : ∀ s b, s < M → b < 2 → nx s b < M) {ps : List Path} (h : Told nx w M t ps) : Told nx w M (t + 1) (turnF nx (w t) ps) := by
  obtain ⟨hl, h⟩ := h
  have L := turnTo_least nx hnx (w t) ps hl M (Nat.le_refl _)
  have e0 : turnF nx (w t) ps = turnTo nx (w t) ps M := by unfold turnF; rw [hl]
  rw [e0]
  refine ⟨L.1, fun k hk => ?_⟩
  obtain ⟨o, e, ho⟩ := L.2 k hk
  refine ⟨o, e, ?_⟩
  -- every full list gives a candidate that is not greater
  have key : ∀ l', l'.length = t + 1 → Bits l' → fin nx 0 l' = k → ∃ p, Cand nx (w t) ps M k p ∧ ltP (cst nx w 0 0 l', l') p = false := by
    intro l' h1 h2 h3
    obtain ⟨m, x, rfl, hm⟩ := last_of h1
    rw [Bits.app] at h2
    have hx := h2.2 x List.mem_cons_self
    have hs : fin nx 0 m < M := fin_lt nx hnx m 0 hM h2.1
    obtain ⟨o', e', ho'⟩ := h _ hs
    cases o' with
    | none => exact absurd rfl (ho' m hm h2.1)
    | some q =>
      obtain ⟨c, l⟩ := q
      obtain ⟨a1, a2, a3, a4, a5⟩ := ho'
      have hq := a5 m hm h2.1 rfl
      have ex : ((x.toNat : Nat) : Int) = x := by omega
      refine ⟨(c + w t (fin nx 0 m) x.toNat, l ++ [x]), ⟨fin nx 0 m, x.toNat, c, l, hs, by omega, e', ?_, by rw [ex]⟩, ?_⟩
      · rw [fin_app] at h3; exact h3
      · rw [cst_app]
        rw [ltP_false] at hq ⊢
        simp only [cst, Nat.zero_add, hm, Int.add_zero] at hq ⊢
        refine ⟨by omega, fun z => ?_⟩
        rw [lexI_app _ _ _ (by rw [hm, a1])]
        exact hq.2 (by omega)
  cases o with
  | none =>
    intro l h1 h2 h3
    obtain ⟨p, hp, _⟩ := key l h1 h2 h3
    exact ho p hp
  | some q =>
    obtain ⟨h1, h2⟩ := ho
    obtain ⟨s, b, c, l, b1, b2, b3, b4, rfl⟩ := h1
    obtain ⟨o', e', ho'⟩ := h s b1
    rw [b3] at e'
    cases e'
    obtain ⟨a1, a2, a3, a4, a5⟩ := ho'
    have eb : (b : Int).toNat = b := by omega
    refine ⟨by simp [a1], ?_, ?_, ?_, ?_⟩
    · rw [Bits.app]
      refine ⟨a2, fun x hx => ?_⟩
      have : x = (b : Int) := by simpa using hx
      omega
    · rw [fin_app, a3]
      show nx s (b : Int).toNat = k
      rw [eb, b4]
    · rw [cst_app, a1, a3, a4]
      simp only [cst, Nat.zero_add, Int.add_zero, eb]
    · intro l' c1 c2 c3
      obtain ⟨p, hp, hlt⟩ := key l' c1 c2 c3
      exact ltP_le_trans hlt (h2 p hp)
theorem told_at {M : Nat} (hM : 0 < M) (hnx : ∀ s b, s < M → b < 2 → nx s b < M) : ∀ t, Told nx w M t (pathsAt nx w M t)
  | 0 => told0 nx w hM
  | t + 1 => told_turn nx w hM hnx (told_at hM hnx t)

/-! ### the prices of the rest, backward -/
variable (T count M : Nat)
def okB (t b : Nat) : Bool := decide (b = 0) || decide (t < count)
/-- what a state's list `found` holds -/
def foundL (t : Nat) (prev : List (Option Int)) (s : Nat) : List Int :=
  (match (prev[nx s 0]?).join with | some r => [w t s 0 + r] | none => []) ++
  (if t < count then (match (prev[nx s 1]?).join with | some r => [w t s 1 + r] | none => []) else [])
def layF (t : Nat) (prev : List (Option Int)) : List (Option Int) := (List.range M).map fun s => (foundL nx w count t prev s).min?
/-- j steps before the end -/
def lay : Nat → List (Option Int)
  | 0 => some 0 :: List.replicate (M - 1) none
  | j + 1 => layF nx w count M (T - (j + 1)) (lay j)
theorem lay_len (hM : 0 < M) : ∀ j, (lay nx w T count M j).length = M
  | 0 => by simp [lay]; omega
  | j + 1 => by simp [lay, layF]
def Valid (j s : Nat) (l : List Int) : Prop := l.length = j ∧ Bits l ∧ fin nx s l = 0 ∧ ∀ i x, l[i]? = some x → x ≠ 0 → T - j + i < count
def P (j s : Nat) : Option Int := ((lay nx w T count M j)[s]?).join
def Rests (j s : Nat) (o : Option Int) : Prop := match o with
  | none => ∀ l, ¬ Valid nx T count j s l
  | some c => (∀ l, Valid nx T count j s l → c ≤ cst nx w (T - j) s l) ∧ ∃ l, Valid nx T count j s l ∧ cst nx w (T - j) s l = c
theorem mem_found {t : Nat} {prev : List (Option Int)} {s : Nat} {y : Int} : y ∈ foundL nx w count t prev s ↔ ∃ b r, b < 2 ∧ okB count t b = true ∧ (prev[nx s b]?).join = some r ∧ y = w t s b + r := by
  unfold foundL
  rw [List.mem_append]
  constructor
  · rintro (h | h)
    · split at h
      · rename_i r e
        exact ⟨0, r, by omega, by simp [okB], e, by simpa using h⟩
      · simp at h
    · split at h
      · rename_i ht
        split at h
        · rename_i r e
          exact ⟨1, r, by omega, by simp [okB, ht], e, by simpa using h⟩
        · simp at h
      · simp at h
  · rintro ⟨b, r, hb, ho, e, hy⟩
    have hb' : b = 0 ∨ b = 1 := by omega
    rcases hb' with rfl | rfl
    · left; rw [e]; simp [hy]
    · right
      have : t < count := by simpa [okB] using ho
      rw [if_pos this, e]; simp [hy]
theorem P_zero (hM : 0 < M) {s : Nat} (hs : s < M) : P nx w T count M 0 s = if s = 0 then some 0 else none := by
  unfold P lay
  cases s with
  | zero => rfl
  | succ s =>
    rw [List.getElem?_cons_succ, List.getElem?_replicate, if_pos (by omega), if_neg (by omega)]
    rfl
theorem P_succ {j s : Nat} (hs : s < M) : P nx w T count M (j + 1) s = (foundL nx w count (T - (j + 1)) (lay nx w T count M j) s).min? := by
  unfold P
  rw [lay, layF, List.getElem?_map, List.getElem?_range hs]
  rfl
theorem min_iff {xs : List Int} {a : Int} : xs.min? = some a ↔ a ∈ xs ∧ ∀ b ∈ xs, a ≤ b := List.min?_eq_some_iff
theorem valid_cons {j s : Nat} {b : Int} {l : List Int} (hj : j + 1 ≤ T) : Valid nx T count (j + 1) s (b :: l) ↔ (b = 0 ∨ b = 1) ∧ okB count (T - (j + 1)) b.toNat = true ∧ Valid nx T count j (nx s b.toNat) l := by
  unfold Valid
  constructor
  · rintro ⟨h1, h2, h3, h4⟩
    have hb := h2 b List.mem_cons_self
    refine ⟨hb, ?_, by simpa using h1, fun x hx => h2 x (List.mem_cons_of_mem _ hx), h3, fun i x hi hx => ?_⟩
    · have := h4 0 b rfl
      simp only [okB, Bool.or_eq_true, decide_eq_true_eq]
      by_cases z : b = 0
      · left; omega
      · right; have := this z; omega
    · have := h4 (i + 1) x hi hx
      omega
  · rintro ⟨h1, h2, h3, h4, h5, h6⟩
    refine ⟨by simp [h3], fun x hx => ?_, h5, fun i x hi hx => ?_⟩
    · rcases List.mem_cons.mp hx with rfl | hx
      · exact h1
      · exact h4 x hx
    · cases i with
      | zero =>
        have : b = x := by simpa using hi
        subst this
        simp only [okB, Bool.or_eq_true, decide_eq_true_eq] at h2
        omega
      | succ i =>
        have := h6 i x hi hx
        omega
theorem rests (hM : 0 < M) (hnx : ∀ s b, s < M → b < 2 → nx s b < M) : ∀ j, j ≤ T → ∀ s, s < M → Rests nx w T count j s (P nx w T count M j s)
  | 0, _, s, hs => by
    rw [P_zero nx w T count M hM hs]
    by_cases h : s = 0
    · subst h
      rw [if_pos rfl]
      refine ⟨fun l hl => ?_, [], ⟨rfl, (by intro x hx; simp at hx), rfl, (by intro i x hi; simp at hi)⟩, rfl⟩
      have := List.eq_nil_of_length_eq_zero hl.1
      subst this
      exact Int.le_refl _
    · rw [if_neg h]
      intro l hl
      have := List.eq_nil_of_length_eq_zero hl.1
      subst this
      exact h hl.2.2.1
  | j + 1, hj, s, hs => by
    have ih := rests hM hnx j (by omega)
    rw [P_succ nx w T count M hs]
    have et : T - (j + 1) + 1 = T - j := by omega
    -- what is found is what a valid list begins with
    have to_found : ∀ l, Valid nx T count (j + 1) s l → ∃ y ∈ foundL nx w count (T - (j + 1)) (lay nx w T count M j) s, y ≤ cst nx w (T - (j + 1)) s l := by
      intro l hl
      cases l with
      | nil => have := hl.1; simp at this
      | cons b l =>
        rw [valid_cons nx T count hj] at hl
        obtain ⟨hb, ho, hv⟩ := hl
        have hb2 : b.toNat < 2 := by omega
        have r := ih _ (hnx s _ hs hb2)
        cases hP : P nx w T count M j (nx s b.toNat) with
        | none => rw [hP] at r; exact absurd hv (r l)
        | some c =>
          rw [hP] at r
          refine ⟨w (T - (j + 1)) s b.toNat + c, (mem_found nx w count).mpr ⟨b.toNat, c, hb2, ho, hP, rfl⟩, ?_⟩
          have := r.1 l hv
          rw [cst, et]
          omega
    have from_found : ∀ y ∈ foundL nx w count (T - (j + 1)) (lay nx w T count M j) s, ∃ l, Valid nx T count (j + 1) s l ∧ cst nx w (T - (j + 1)) s l = y := by
      intro y hy
      obtain ⟨b, r, hb, ho, e, rfl⟩ := (mem_found nx w count).mp hy
      have q := ih _ (hnx s _ hs hb)
      have e' : P nx w T count M j (nx s b) = some r := e
      rw [e'] at q
      obtain ⟨l, hv, hc⟩ := q.2
      have eb : (b : Int).toNat = b := by omega
      refine ⟨(b : Int) :: l, (valid_cons nx T count hj).mpr ⟨by omega, by rw [eb]; exact ho, by rw [eb]; exact hv⟩, ?_⟩
      rw [cst, et, eb, hc]
    cases hm : (foundL nx w count (T - (j + 1)) (lay nx w T count M j) s).min? with
    | none =>
      intro l hl
      obtain ⟨y, hy, _⟩ := to_found l hl
      rw [List.min?_eq_none_iff] at hm
      rw [hm] at hy
      cases hy
    | some c =>
      rw [min_iff] at hm
      refine ⟨fun l hl => ?_, from_found c hm.1⟩
      obtain ⟨y, hy, hle⟩ := to_found l hl
      exact Int.le_trans (hm.2 y hy) hle

/-! ### mend's way -/
def thr (j s b : Nat) : Option Int := (P nx w T count M j (nx s b)).map fun r => r + w (T - (j + 1)) s b
/-- the bit that mend takes with j + 1 steps left -/
def bitAt (j s : Nat) : Nat := if thr nx w T count M j s 0 = P nx w T count M (j + 1) s then 0 else 1
def gr : Nat → Nat → List Int
  | 0, _ => []
  | j + 1, s => (bitAt nx w T count M j s : Int) :: gr j (nx s (bitAt nx w T count M j s))
theorem bitAt_lt (j s : Nat) : bitAt nx w T count M j s < 2 := by unfold bitAt; split <;> omega
theorem gr_len : ∀ j s, (gr nx w T count M j s).length = j
  | 0, _ => rfl
  | j + 1, s => by simp [gr, gr_len j]
theorem gr_bits : ∀ j s, Bits (gr nx w T count M j s)
  | 0, _ => by intro x hx; simp [gr] at hx
  | j + 1, s => by
    intro x hx
    rw [gr] at hx
    rcases List.mem_cons.mp hx with rfl | hx
    · have := bitAt_lt nx w T count M j s; omega
    · exact gr_bits j _ x hx
theorem gr_best (hM : 0 < M) (hnx : ∀ s b, s < M → b < 2 → nx s b < M) : ∀ j, j ≤ T → ∀ s c, s < M → P nx w T count M j s = some c →
    Valid nx T count j s (gr nx w T count M j s) ∧ cst nx w (T - j) s (gr nx w T count M j s) = c ∧ ∀ l, Valid nx T count j s l → cst nx w (T - j) s l = c → lexI l (gr nx w T count M j s) = false
  | 0, _, s, c, hs, h => by
    rw [P_zero nx w T count M hM hs] at h
    split at h
    · rename_i z
      subst z
      cases h
      refine ⟨⟨rfl, (by intro x hx; simp [gr] at hx), rfl, (by intro i x hi; simp [gr] at hi)⟩, rfl, fun l hl _ => ?_⟩
      have := List.eq_nil_of_length_eq_zero hl.1
      subst this
      rfl
    · cases h
  | j + 1, hj, s, c, hs, h => by
    have et : T - (j + 1) + 1 = T - j := by omega
    have R := rests nx w T count M hM hnx
    have r0 := R (j + 1) hj s hs
    rw [h] at r0
    obtain ⟨r1, l0, v0, c0⟩ := r0
    -- a valid list of the price c that begins with b: through b comes c
    have via : ∀ (b : Int) l, Valid nx T count (j + 1) s (b :: l) → cst nx w (T - (j + 1)) s (b :: l) = c →
        ∃ c', P nx w T count M j (nx s b.toNat) = some c' ∧ c' + w (T - (j + 1)) s b.toNat = c ∧ cst nx w (T - j) (nx s b.toNat) l = c' := by
      intro b l hv hc
      have hv' := (valid_cons nx T count hj).mp hv
      obtain ⟨hb, ho, hl⟩ := hv'
      have hb2 : b.toNat < 2 := by omega
      have q := R j (by omega) _ (hnx s _ hs hb2)
      rw [cst, et] at hc
      cases hP : P nx w T count M j (nx s b.toNat) with
      | none => rw [hP] at q; exact absurd hl (q l)
      | some c' =>
        rw [hP] at q
        obtain ⟨q1, l', q2, q3⟩ := q
        have a1 := q1 l hl
        have a2 := r1 (b :: l') ((valid_cons nx T count hj).mpr ⟨hb, ho, q2⟩)
        rw [cst, et, q3] at a2
        exact ⟨c', rfl, by omega, by omega⟩
    -- the taken bit leads on
    have take : ∃ c', P nx w T count M j (nx s (bitAt nx w T count M j s)) = some c' ∧ c' + w (T - (j + 1)) s (bitAt nx w T count M j s) = c ∧ okB count (T - (j + 1)) (bitAt nx w T count M j s) = true := by
      unfold bitAt
      split
      · rename_i e
        rw [h] at e
        unfold thr at e
        obtain ⟨c', e1, e2⟩ := Option.map_eq_some_iff.mp e
        exact ⟨c', e1, e2, by simp [okB]⟩
      · rename_i e
        cases l0 with
        | nil => have := v0.1; simp at this
        | cons b l =>
          obtain ⟨c', p1, p2, p3⟩ := via b l v0 c0
          have hv' := (valid_cons nx T count hj).mp v0
          obtain ⟨hb, ho, hl⟩ := hv'
          rcases hb with rfl | rfl
          · exfalso
            apply e
            unfold thr
            have p1' : P nx w T count M j (nx s 0) = some c' := p1
            rw [p1', h]
            exact congrArg some p2
          · exact ⟨c', p1, p2, ho⟩
    obtain ⟨c', t1, t2, t3⟩ := take
    have hb := bitAt_lt nx w T count M j s
    have eb : ((bitAt nx w T count M j s : Nat) : Int).toNat = bitAt nx w T count M j s := by omega
    obtain ⟨g1, g2, g3⟩ := gr_best hM hnx j (by omega) _ c' (hnx s _ hs hb) t1
    refine ⟨?_, ?_, fun l hl hc => ?_⟩
    · rw [gr, valid_cons nx T count hj]
      exact ⟨by omega, by rw [eb]; exact t3, by rw [eb]; exact g1⟩
    · rw [gr, cst, et, eb, g2]; omega
    · cases l with
      | nil => have := hl.1; simp at this
      | cons b l =>
        obtain ⟨c2, p1, p2, p3⟩ := via b l hl hc
        have hv' := (valid_cons nx T count hj).mp hl
        obtain ⟨hb', ho, hl'⟩ := hv'
        rw [gr]
        by_cases hbe : b = ((bitAt nx w T count M j s : Nat) : Int)
        · have eb2 : b.toNat = bitAt nx w T count M j s := by omega
          rw [eb2] at p1 hl' p3
          rw [t1] at p1
          cases p1
          rw [hbe]
          simp only [lexI, Int.lt_irrefl, decide_false, Bool.false_or, Bool.not_false, Bool.true_and]
          exact g3 l hl' p3
        · -- b is 1 and 0 was taken: for 1 is taken only where 0 leads to more
          have hz : bitAt nx w T count M j s = 0 := by
            rcases hb' with rfl | rfl
            · exfalso
              apply hbe
              have p1' : P nx w T count M j (nx s 0) = some c2 := p1
              have : bitAt nx w T count M j s = 0 := by
                unfold bitAt
                rw [if_pos]
                unfold thr
                rw [p1', h]
                exact congrArg some p2
              rw [this]; rfl
            · omega
          rw [hz] at hbe ⊢
          have hb1 : b = 1 := by omega
          subst hb1
          simp [lexI]
end
end Fh
namespace Fh

/-! ### the register's states -/
def nxt (v : Nat) (s b : Nat) : Nat := (b + 2 * s) % 2 ^ v
theorem nxt_lt (v s b : Nat) : nxt v s b < 2 ^ v := Nat.mod_lt _ (Nat.pow_pos (by decide))
/-- the state behind a list, from the right: the last inputs -/
theorem fin_snoc (nx : Nat → Nat → Nat) (s : Nat) (l : List Int) (x : Int) : fin nx s (l ++ [x]) = nx (fin nx s l) x.toNat := by
  rw [fin_app]; rfl
theorem nxt_mod (v s b j : Nat) (hj : j ≤ v) : nxt v s b % 2 ^ j = (b + 2 * s) % 2 ^ j := by
  unfold nxt
  exact Nat.mod_mod_of_dvd _ (Nat.pow_dvd_pow 2 hj)
/-- the last j inputs are 0 if the state's last j bits are -/
theorem zeros_of (v : Nat) : ∀ (j : Nat) (l : List Int), j ≤ v → j ≤ l.length → Bits l → fin (nxt v) 0 l % 2 ^ j = 0 → ∀ i x, l[i]? = some x → l.length - j ≤ i → x = 0
  | 0, l, _, _, _, _, i, x, hi, h => by
    have := (List.getElem?_eq_some_iff.mp hi).1
    omega
  | j + 1, l, hj, hl, hb, hf, i, x, hi, h => by
    obtain ⟨m, y, rfl, hm⟩ := last_of (t := l.length - 1) (l := l) (by omega)
    rw [Bits.app] at hb
    have hy := hb.2 y List.mem_cons_self
    rw [fin_snoc, nxt_mod v _ _ _ hj] at hf
    have e2 : 2 ^ (j + 1) = 2 * 2 ^ j := by rw [Nat.pow_succ, Nat.mul_comm]
    rw [e2] at hf
    have d : 2 * 2 ^ j ∣ y.toNat + 2 * fin (nxt v) 0 m := Nat.dvd_of_mod_eq_zero hf
    obtain ⟨q, hq⟩ := d
    have hq' : y.toNat + 2 * fin (nxt v) 0 m = 2 * (2 ^ j * q) := by rw [hq, Nat.mul_assoc]
    have y0 : y = 0 := by omega
    have hm0 : fin (nxt v) 0 m = 2 ^ j * q := by omega
    have hz : fin (nxt v) 0 m % 2 ^ j = 0 := by rw [hm0]; exact Nat.mul_mod_right _ _
    simp only [List.length_append, List.length_singleton] at hl h
    by_cases hi2 : i < m.length
    · rw [List.getElem?_append_left hi2] at hi
      exact zeros_of v j m (by omega) (by omega) hb.1 hz i x hi (by omega)
    · rw [List.getElem?_append_right (by omega)] at hi
      have : i - m.length = 0 := by
        have := (List.getElem?_eq_some_iff.mp hi).1
        simpa using this
      rw [this] at hi
      have : y = x := by simpa using hi
      rw [← this, y0]
theorem valid_iff {v count : Nat} {l : List Int} : Valid (nxt v) (count + v) count (count + v) 0 l ↔ l.length = count + v ∧ Bits l ∧ fin (nxt v) 0 l = 0 := by
  unfold Valid
  constructor
  · rintro ⟨a, b, c, _⟩
    exact ⟨a, b, c⟩
  · rintro ⟨a, b, c⟩
    refine ⟨a, b, c, fun i x hi hx => ?_⟩
    by_cases h : i < count
    · omega
    · exfalso
      apply hx
      refine zeros_of v v l (Nat.le_refl _) (by omega) b ?_ i x hi (by omega)
      rw [c]; simp
theorem valid_zeros (v count : Nat) : Valid (nxt v) (count + v) count (count + v) 0 (List.replicate (count + v) 0) := by
  rw [valid_iff]
  refine ⟨by simp, fun x hx => .inl (List.eq_of_mem_replicate hx), ?_⟩
  have : ∀ n, fin (nxt v) 0 (List.replicate n (0 : Int)) = 0 := by
    intro n
    induction n with
    | zero => rfl
    | succ n ih =>
      rw [List.replicate_succ]
      have : nxt v 0 0 = 0 := by simp [nxt]
      show fin (nxt v) (nxt v 0 (0 : Int).toNat) (List.replicate n (0 : Int)) = 0
      rw [show (0 : Int).toNat = 0 from rfl, this]
      exact ih
  exact this _

section
variable (v count : Nat) (w : Nat → Nat → Nat → Int)
abbrev GR : List Int := gr (nxt v) w (count + v) count (2 ^ v) (count + v) 0
abbrev P0 : Option Int := P (nxt v) w (count + v) count (2 ^ v) (count + v) 0
/-- THE TWO READINGS AGREE: the told inputs of the state 0 are mend's -/
theorem told_is_mend : ∃ c, P0 v count w = some c ∧ (pathsAt (nxt v) w (2 ^ v) (count + v))[0]? = some (some (c, GR v count w)) := by
  have hM : 0 < 2 ^ v := Nat.pow_pos (by decide)
  have hnx : ∀ s b, s < 2 ^ v → b < 2 → nxt v s b < 2 ^ v := fun s b _ _ => nxt_lt v s b
  have R := rests (nxt v) w (count + v) count (2 ^ v) hM hnx (count + v) (Nat.le_refl _) 0 hM
  have hz := valid_zeros v count
  cases hP : P (nxt v) w (count + v) count (2 ^ v) (count + v) 0 with
  | none => rw [hP] at R; exact absurd hz (R _)
  | some c =>
    rw [hP] at R
    obtain ⟨r1, _⟩ := R
    obtain ⟨g1, g2, g3⟩ := gr_best (nxt v) w (count + v) count (2 ^ v) hM hnx (count + v) (Nat.le_refl _) 0 c hM hP
    have T := told_at (nxt v) w hM hnx (count + v)
    obtain ⟨o, e, ho⟩ := T.2 0 hM
    rw [Nat.sub_self] at r1 g2 g3
    cases o with
    | none =>
      have := valid_iff.mp g1
      exact absurd this.2.2 (ho _ this.1 this.2.1)
    | some q =>
      obtain ⟨c', l⟩ := q
      obtain ⟨a1, a2, a3, a4, a5⟩ := ho
      have hv : Valid (nxt v) (count + v) count (count + v) 0 l := valid_iff.mpr ⟨a1, a2, a3⟩
      have b1 := r1 l hv
      have gg := valid_iff.mp g1
      have b2 := a5 _ gg.1 gg.2.1 gg.2.2
      rw [ltP_false, g2] at b2
      have ec : c' = c := by
        have := b2.1
        simp only at this
        omega
      have b3 := b2.2 ec.symm
      have b4 := g3 l hv (by omega)
      have := lexI_anti _ _ b3 b4
      refine ⟨c, hP, ?_⟩
      rw [e, ec]
      exact congrArg (fun z => some (some (c, z))) this.symm
/-- mend's list ends in v times 0 -/
theorem GR_ends : GR v count w = (GR v count w).take count ++ List.replicate v 0 := by
  have hM : 0 < 2 ^ v := Nat.pow_pos (by decide)
  have hnx : ∀ s b, s < 2 ^ v → b < 2 → nxt v s b < 2 ^ v := fun s b _ _ => nxt_lt v s b
  obtain ⟨c, hc, _⟩ := told_is_mend v count w
  obtain ⟨g1, _, _⟩ := gr_best (nxt v) w (count + v) count (2 ^ v) hM hnx (count + v) (Nat.le_refl _) 0 c hM hc
  have hl : (GR v count w).length = count + v := g1.1
  refine (List.take_append_drop count (GR v count w)).symm.trans ?_
  congr 1
  refine List.ext_getElem? fun i => ?_
  rw [List.getElem?_drop, List.getElem?_replicate]
  by_cases h : i < v
  · rw [if_pos h]
    have hi : count + i < (GR v count w).length := by omega
    rw [List.getElem?_eq_getElem hi]
    congr 1
    apply Classical.byContradiction
    intro hx
    have := g1.2.2.2 (count + i) _ (List.getElem?_eq_getElem hi) hx
    omega
  · rw [if_neg h, List.getElem?_eq_none]
    omega
end

/-! ### the common beginning -/
def rowsOf (ps : List Path) : List (List Int) := ps.filterMap fun p => p.map (·.2)
/-- p is the longest list with which all rows begin -/
def Com (rows : List (List Int)) (p : List Int) : Prop := (∀ r ∈ rows, p <+: r) ∧ ∀ q, (∀ r ∈ rows, q <+: r) → q <+: p
theorem Com.uniq {rows : List (List Int)} {p q : List Int} (a : Com rows p) (b : Com rows q) : p = q :=
  (List.IsPrefix.eq_of_length_le (b.2 p a.1) (a.2 q b.1).length_le)
/-- as long as all rows agree with the first one -/
def szTo (rows : List (List Int)) (r0 : List Int) : Nat → Nat
  | 0 => 0
  | k + 1 => if szTo rows r0 k = k ∧ (rows.all fun r => decide (r[k]? = r0[k]?)) = true then k + 1 else szTo rows r0 k
def lawBeg (rows : List (List Int)) : List Int := (rows.headD []).take (szTo rows (rows.headD []) (rows.headD []).length)
theorem szTo_le (rows : List (List Int)) (r0 : List Int) : ∀ k, szTo rows r0 k ≤ k
  | 0 => Nat.le_refl _
  | k + 1 => by
    have := szTo_le rows r0 k
    rw [szTo]
    split <;> omega
theorem szTo_spec (rows : List (List Int)) (r0 : List Int) : ∀ k, (∀ i, i < szTo rows r0 k → ∀ r ∈ rows, r[i]? = r0[i]?) ∧ (szTo rows r0 k = k ∨ ∃ r ∈ rows, r[szTo rows r0 k]? ≠ r0[szTo rows r0 k]?)
  | 0 => ⟨fun i h => by simp [szTo] at h, .inl rfl⟩
  | k + 1 => by
    obtain ⟨a, b⟩ := szTo_spec rows r0 k
    rw [szTo]
    split
    · rename_i h
      obtain ⟨h1, h2⟩ := h
      rw [h1] at a
      refine ⟨fun i hi r hr => ?_, .inl rfl⟩
      by_cases hk : i < k
      · exact a i hk r hr
      · have : i = k := by omega
        subst this
        have := List.all_eq_true.mp h2 r hr
        simpa using this
    · rename_i h
      refine ⟨a, .inr ?_⟩
      rcases b with b | b
      · have : ¬ (rows.all fun r => decide (r[k]? = r0[k]?)) = true := fun z => h ⟨b, z⟩
        rw [List.all_eq_true] at this
        have : ∃ r ∈ rows, ¬ r[k]? = r0[k]? := by
          apply Classical.byContradiction
          intro z
          apply this
          intro r hr
          apply Classical.byContradiction
          intro y
          exact z ⟨r, hr, by simpa using y⟩
        rw [b]
        exact this
      · exact b
theorem prefix_at {p r : List Int} (h : p <+: r) {i : Nat} (hi : i < p.length) : r[i]? = p[i]? := by
  obtain ⟨t, rfl⟩ := h
  rw [List.getElem?_append_left hi]
theorem prefix_of_at : ∀ {p r : List Int}, (∀ i, i < p.length → r[i]? = p[i]?) → p <+: r
  | [], r, _ => List.nil_prefix
  | x :: p, [], h => by
    have := h 0 (by simp)
    simp at this
  | x :: p, y :: r, h => by
    have e : y = x := by
      have := h 0 (by simp)
      simpa using this
    subst e
    rw [List.prefix_cons_inj]
    exact prefix_of_at fun i hi => by
      have := h (i + 1) (by simpa using hi)
      simpa using this
theorem lawBeg_com {rows : List (List Int)} (hne : rows ≠ []) : Com rows (lawBeg rows) := by
  obtain ⟨r0, rest, rfl⟩ : ∃ r0 rest, rows = r0 :: rest := by
    cases rows with
    | nil => exact absurd rfl hne
    | cons a b => exact ⟨a, b, rfl⟩
  have hle := szTo_le (r0 :: rest) r0 r0.length
  obtain ⟨a, b⟩ := szTo_spec (r0 :: rest) r0 r0.length
  have e : lawBeg (r0 :: rest) = r0.take (szTo (r0 :: rest) r0 r0.length) := rfl
  rw [e]
  refine ⟨fun r hr => prefix_of_at fun i hi => ?_, fun q hq => ?_⟩
  · rw [List.length_take] at hi
    have hi' : i < szTo (r0 :: rest) r0 r0.length := by omega
    rw [List.getElem?_take, if_pos hi']
    exact a i hi' r hr
  · have h0 := hq r0 List.mem_cons_self
    refine prefix_of_at fun i hi => ?_
    rw [List.getElem?_take]
    by_cases z : i < szTo (r0 :: rest) r0 r0.length
    · rw [if_pos z]; exact prefix_at h0 hi
    · exfalso
      have hq0 := h0.length_le
      rcases b with b | ⟨r, hr, b⟩
      · omega
      · apply b
        have i2 : szTo (r0 :: rest) r0 r0.length < q.length := by omega
        rw [prefix_at (hq r hr) i2, prefix_at h0 i2]
def cp : List Int → List Int → Nat
  | x :: r, y :: t => if x = y then cp r t + 1 else 0
  | _, _ => 0
theorem cp_le : ∀ a b, cp a b ≤ a.length ∧ cp a b ≤ b.length
  | [], _ => ⟨Nat.le_refl _, Nat.zero_le _⟩
  | _ :: _, [] => ⟨Nat.zero_le _, Nat.le_refl _⟩
  | x :: r, y :: t => by
    have := cp_le r t
    simp only [cp, List.length_cons]
    split <;> omega
theorem cp_take : ∀ a b : List Int, a.take (cp a b) = b.take (cp a b)
  | [], b => by simp [cp]
  | _ :: _, [] => by simp [cp]
  | x :: r, y :: t => by
    have := cp_take r t
    simp only [cp]
    split
    · rename_i e
      subst e
      simp [this]
    · simp
theorem cp_max : ∀ {a b q : List Int}, q <+: a → q <+: b → q <+: a.take (cp a b)
  | a, b, [], _, _ => List.nil_prefix
  | [], b, x :: q, h, _ => by
    have := h.length_le
    simp at this
  | y :: a, [], x :: q, _, h => by
    have := h.length_le
    simp at this
  | y :: a, z :: b, x :: q, h1, h2 => by
    rw [List.cons_prefix_cons] at h1 h2
    obtain ⟨e1, h1⟩ := h1
    obtain ⟨e2, h2⟩ := h2
    subst e1 e2
    simp only [cp, if_true, List.take_succ_cons]
    rw [List.cons_prefix_cons]
    exact ⟨rfl, cp_max h1 h2⟩
theorem between : ∀ {p a b r : List Int}, p <+: a → p <+: b → lexI r a = false → lexI b r = false → p <+: r
  | [], _, _, _, _, _, _, _ => List.nil_prefix
  | x :: p, [], _, _, h, _, _, _ => by
    have := h.length_le
    simp at this
  | x :: p, _ :: _, [], _, _, h, _, _ => by
    have := h.length_le
    simp at this
  | x :: p, y :: a, z :: b, [], _, _, h, _ => by simp [lexI] at h
  | x :: p, y :: a, z :: b, u :: r, h1, h2, h3, h4 => by
    rw [List.cons_prefix_cons] at h1 h2 ⊢
    obtain ⟨e1, h1⟩ := h1
    obtain ⟨e2, h2⟩ := h2
    subst e1 e2
    simp only [lexI, Bool.or_eq_false_iff, decide_eq_false_iff_not, Bool.and_eq_false_iff, Bool.not_eq_false', decide_eq_true_eq] at h3 h4
    have e : x = u := by omega
    subst e
    refine ⟨rfl, between h1 h2 (by simpa using h3.2) (by simpa using h4.2)⟩
/-- what the program's least and greatest row give -/
theorem cp_com {rows : List (List Int)} {mn mx : List Int} (h1 : mn ∈ rows) (h2 : ∀ y ∈ rows, lexI y mn = false) (h3 : mx ∈ rows) (h4 : ∀ y ∈ rows, lexI mx y = false) : Com rows (mn.take (cp mn mx)) :=
  ⟨fun r hr => between (List.take_prefix _ _) (by rw [cp_take]; exact List.take_prefix _ _) (h2 r hr) (h4 r hr), fun q hq => cp_max (hq mn h1) (hq mx h3)⟩

/-- the given bits of these paths -/
def beg (ps : List Path) : List Int := lawBeg (rowsOf ps)
theorem mem_rows {ps : List Path} {r : List Int} : r ∈ rowsOf ps ↔ ∃ c, some (c, r) ∈ ps := by
  unfold rowsOf
  rw [List.mem_filterMap]
  constructor
  · rintro ⟨o, ho, e⟩
    obtain ⟨p, rfl, rfl⟩ := Option.map_eq_some_iff.mp e
    exact ⟨p.1, ho⟩
  · rintro ⟨c, h⟩
    exact ⟨some (c, r), h, rfl⟩
theorem beg_turn {nx : Nat → Nat → Nat} {M : Nat} (hnx : ∀ s b, s < M → b < 2 → nx s b < M) (wt : Nat → Nat → Int) {ps : List Path} (hl : ps.length = M) (hne : rowsOf ps ≠ []) :
    rowsOf (turnF nx wt ps) ≠ [] ∧ beg ps <+: beg (turnF nx wt ps) := by
  have L := turnTo_least nx hnx wt ps hl M (Nat.le_refl _)
  have e0 : turnF nx wt ps = turnTo nx wt ps M := by unfold turnF; rw [hl]
  rw [e0]
  have h1 : rowsOf (turnTo nx wt ps M) ≠ [] := by
    obtain ⟨r, hr⟩ := List.exists_mem_of_ne_nil _ hne
    obtain ⟨c, hc⟩ := mem_rows.mp hr
    obtain ⟨s, hs, e⟩ := List.mem_iff_getElem.mp hc
    have hsM : s < M := by omega
    obtain ⟨o, eo, ho⟩ := L.2 (nx s 0) (hnx s 0 hsM (by omega))
    cases o with
    | none => exact absurd ⟨s, 0, c, r, hsM, by omega, by rw [List.getElem?_eq_getElem hs, e], rfl, rfl⟩ (ho _)
    | some q =>
      intro z
      have : q.2 ∈ rowsOf (turnTo nx wt ps M) := mem_rows.mpr ⟨q.1, List.mem_of_getElem? eo⟩
      rw [z] at this
      cases this
  refine ⟨h1, ?_⟩
  have a := lawBeg_com hne
  have b := lawBeg_com h1
  refine b.2 _ fun r hr => ?_
  obtain ⟨c, hc⟩ := mem_rows.mp hr
  obtain ⟨k, hk, e⟩ := List.mem_iff_getElem.mp hc
  have hkM : k < M := by have := L.1; omega
  obtain ⟨o, eo, ho⟩ := L.2 k hkM
  rw [List.getElem?_eq_getElem hk, e] at eo
  cases eo
  obtain ⟨s, b', c', l', _, _, h3, _, h5⟩ := ho.1
  have : r = l' ++ [(b' : Int)] := congrArg Prod.snd h5
  rw [this]
  refine List.IsPrefix.trans (a.1 l' (mem_rows.mpr ⟨c', List.mem_of_getElem? h3⟩)) (List.prefix_append _ _)
section
variable {nx : Nat → Nat → Nat} {M : Nat} (hM : 0 < M) (hnx : ∀ s b, s < M → b < 2 → nx s b < M) (w : Nat → Nat → Nat → Int)
include hM hnx
theorem rows_at : ∀ t, rowsOf (pathsAt nx w M t) ≠ []
  | 0 => by simp [pathsAt, path0, rowsOf]
  | t + 1 => (beg_turn hnx (w t) (told_at nx w hM hnx t).1 (rows_at t)).1
theorem beg_mono (t : Nat) : ∀ k, beg (pathsAt nx w M t) <+: beg (pathsAt nx w M (t + k))
  | 0 => List.prefix_rfl
  | k + 1 => List.IsPrefix.trans (beg_mono t k) (beg_turn hnx (w (t + k)) (told_at nx w hM hnx (t + k)).1 (rows_at hM hnx w (t + k))).2
theorem beg_le {t t' : Nat} (h : t ≤ t') : beg (pathsAt nx w M t) <+: beg (pathsAt nx w M t') := by
  have := beg_mono hM hnx w t (t' - t)
  rw [show t + (t' - t) = t' by omega] at this
  exact this
theorem beg_told {t k : Nat} {c : Int} {l : List Int} (h : (pathsAt nx w M t)[k]? = some (some (c, l))) : beg (pathsAt nx w M t) <+: l :=
  (lawBeg_com (rows_at hM hnx w t)).1 l (mem_rows.mpr ⟨c, List.mem_of_getElem? h⟩)
theorem len_told {t k : Nat} {c : Int} {l : List Int} (h : (pathsAt nx w M t)[k]? = some (some (c, l))) : l.length = t := by
  have T := told_at nx w hM hnx t
  have hk : k < M := by have := (List.getElem?_eq_some_iff.mp h).1; have := T.1; omega
  obtain ⟨o, e, ho⟩ := T.2 k hk
  rw [h] at e
  cases e
  exact ho.1
end
theorem beg_nil {M : Nat} : beg (path0 M) = [] := by
  simp [beg, path0, rowsOf, lawBeg]
theorem drop_told {p q : List Int} (h : p <+: q) : p ++ q.drop p.length = q := by
  obtain ⟨t, rfl⟩ := h
  simp
end Fh
namespace Fh
def pcn : Nat → Nat → Nat
  | 0, _ => 0
  | n + 1, x => x % 2 + pcn n (x / 2)
def par (x : Nat) : Nat := pcn 6 x % 2
def cntTo : Nat → Nat → Nat
  | 0, _ => 0
  | n + 1, x => cntTo n x + if x &&& 2 ^ n ≠ 0 then 1 else 0
theorem pcn_cnt : ∀ n, n < 7 → ∀ x, x < 64 → x < 2 ^ n → pcn 6 x = cntTo n x := by decide +kernel
theorem par_lt (x : Nat) : par x < 2 := Nat.mod_lt _ (by decide)
theorem pcn_zero : ∀ n, pcn n 0 = 0
  | 0 => rfl
  | n + 1 => by simp [pcn, pcn_zero n]
/-- the rows of a register -/
def tab (v : Nat) (taps : List Int) : List (List Int) := (List.range (2 * 2 ^ v)).map fun w => taps.map fun t => ((par (w &&& t.toNat) : Nat) : Int)
theorem tab_len (v : Nat) (taps : List Int) : (tab v taps).length = 2 * 2 ^ v := by simp [tab]
theorem tab_at {v : Nat} {taps : List Int} {w : Nat} (h : w < 2 * 2 ^ v) : (tab v taps)[w]? = some (taps.map fun t => ((par (w &&& t.toNat) : Nat) : Int)) := by
  unfold tab
  rw [List.getElem?_map, List.getElem?_range h]
  rfl
/-- what the law and the program ask of a register -/
structure RegOk (v : Nat) (taps : List Int) : Prop where
  v1 : 1 ≤ v
  v5 : v ≤ 5
  n2 : 2 ≤ taps.length
  n4 : taps.length ≤ 4
  rng : ∀ t ∈ taps, 0 ≤ t ∧ t < ((2 * 2 ^ v : Nat) : Int)
  pos : ∃ t ∈ taps, 0 < t
theorem RegOk.pow {v : Nat} {taps : List Int} (h : RegOk v taps) : 2 ≤ 2 ^ v ∧ 2 ^ v ≤ 32 := by
  have h1 := h.v1
  have h5 := h.v5
  have : v = 1 ∨ v = 2 ∨ v = 3 ∨ v = 4 ∨ v = 5 := by omega
  rcases this with rfl | rfl | rfl | rfl | rfl <;> decide

/-! ### places that differ -/
def diffAt (bits : List Int) (part : List (Option Int)) (k : Nat) : Bool :=
  match part[k]?, bits[k]? with
  | some (some x), some b => decide (x ≠ b)
  | _, _ => false
def costTo (bits : List Int) (part : List (Option Int)) : Nat → Nat
  | 0 => 0
  | k + 1 => costTo bits part k + if diffAt bits part k = true then 1 else 0
def cost (bits : List Int) (part : List (Option Int)) : Nat := costTo bits part bits.length
theorem costTo_le (bits : List Int) (part : List (Option Int)) : ∀ k, costTo bits part k ≤ k
  | 0 => Nat.le_refl _
  | k + 1 => by
    have := costTo_le bits part k
    rw [costTo]
    split <;> omega
/-- the step costs of a received row -/
def slc (R : List (Option Int)) (a b : Nat) : List (Option Int) := (R.drop a).take (b - a)
def rowAt (v : Nat) (taps : List Int) (w : Nat) : List Int := (tab v taps).getD w []
def wOf (v : Nat) (taps : List Int) (part : List (Option Int)) (s b : Nat) : Int := ((cost (rowAt v taps (b + 2 * s)) part : Nat) : Int)
def wR (v : Nat) (taps : List Int) (R : List (Option Int)) (t s b : Nat) : Int := wOf v taps (slc R (t * taps.length) (t * taps.length + taps.length)) s b
theorem rowAt_at {v : Nat} {taps : List Int} {w : Nat} (h : w < 2 * 2 ^ v) : (tab v taps)[w]? = some (rowAt v taps w) := by
  unfold rowAt
  rw [List.getD_eq_getElem?_getD, tab_at h]
  rfl
theorem rowAt_len {v : Nat} {taps : List Int} {w : Nat} (h : w < 2 * 2 ^ v) : (rowAt v taps w).length = taps.length := by
  have := rowAt_at (taps := taps) h
  rw [tab_at h] at this
  rw [← Option.some.inj this]
  simp
theorem slc_len {R : List (Option Int)} {a b : Nat} (h1 : a ≤ b) (h2 : b ≤ R.length) : (slc R a b).length = b - a := by
  unfold slc
  rw [List.length_take, List.length_drop]
  omega
theorem slc_app {R : List (Option Int)} {a b c : Nat} (h1 : a ≤ b) (h2 : b ≤ c) : slc R a b ++ slc R b c = slc R a c := by
  unfold slc
  have e : R.drop b = (R.drop a).drop (b - a) := by rw [List.drop_drop]; congr 1; omega
  rw [e, ← List.take_add]
  congr 1
  omega
theorem slc_take {R : List (Option Int)} {a b n : Nat} (h : a + n ≤ b) : (slc R a b).take n = slc R a (a + n) := by
  unfold slc
  rw [List.take_take]
  congr 1
  omega
theorem slc_drop {R : List (Option Int)} {a b n : Nat} : (slc R a b).drop n = slc R (a + n) b := by
  unfold slc
  rw [List.drop_take, List.drop_drop]
  congr 1
  omega
theorem slc_all (R : List (Option Int)) (b : Nat) : slc R b b = [] := by
  unfold slc
  simp
end Fh
namespace Fh
open PySem PySem.Spec PyProof.Rows L2

/-! ### data -/
abbrev dL (ns : List Int) : PyData := .list (ns.map .int)
abbrev dP (p : Int × List Int) : PyData := .tuple [.int p.1, dL p.2]
theorem toks_lex (z : List (Int ⊕ List Nat)) : ∀ a b : List Int, lexLt PyProof.Rows.itemOrd (PySem.W.keyToksAll (a.map .int) ++ z) (PySem.W.keyToksAll (b.map .int) ++ z) = lexI a b
  | [], [] => by
    rw [lex_irrefl]; rfl
  | [], y :: t => by
    simp only [List.map_nil, List.map_cons, PySem.W.keyToksAll, List.cons_append, List.nil_append, lex_cons]
    rfl
  | x :: r, [] => by
    simp only [List.map_nil, List.map_cons, PySem.W.keyToksAll, List.cons_append, List.nil_append, lex_cons]
    rfl
  | x :: r, y :: t => by
    have ih := toks_lex z r t
    simp only [List.map_cons, PySem.W.keyToksAll, PySem.W.keyToks, List.cons_append, List.nil_append]
    rw [lex_self, lex_cons, ih]
    rfl
theorem lt_dL (a b : List Int) : PySem.W.dataLt (dL a) (dL b) = lexI a b := by
  have := toks_lex [] a b
  rw [List.append_nil, List.append_nil] at this
  exact this
theorem lt_dP (p q : Int × List Int) : PySem.W.dataLt (dP p) (dP q) = ltP p q := by
  have h := toks_lex [.inl 0] p.2 q.2
  show lexLt PyProof.Rows.itemOrd (PySem.W.keyToks (dP p)) (PySem.W.keyToks (dP q)) = _
  simp only [PySem.W.keyToks, PySem.W.keyToksAll, List.cons_append, List.nil_append]
  rw [lex_self, lex_cons, lex_self, h]
  unfold ltP
  show (decide (p.1 < q.1) || (!decide (q.1 < p.1) && lexI p.2 q.2)) = _
  by_cases e1 : p.1 < q.1
  · simp [e1]
  · by_cases e2 : q.1 < p.1
    · have : ¬ p.1 = q.1 := by omega
      simp [e1, e2, this]
    · have : p.1 = q.1 := by omega
      simp [e1, e2, this]
theorem alikeAll_ints : ∀ a b : List Int, PySem.W.alikeAll (a.map .int) (b.map .int) = true
  | [], b => by simp [PySem.W.alikeAll]
  | _ :: _, [] => by simp [PySem.W.alikeAll]
  | x :: r, y :: t => by
    have := alikeAll_ints r t
    simp [PySem.W.alikeAll, PySem.W.alike, this]
theorem alike_dL (a b : List Int) : PySem.W.alike (dL a) (dL b) = true := by
  rw [PySem.W.alike]; exact alikeAll_ints a b
theorem alike_dP (p q : Int × List Int) : PySem.W.alike (dP p) (dP q) = true := by
  have := alike_dL p.2 q.2
  simp [PySem.W.alike, PySem.W.alikeAll, this, alikeAll_ints]
theorem depth_ints : ∀ a : List Int, PyData.depthAll (a.map .int) ≤ 1
  | [] => by simp [PyData.depthAll]
  | x :: r => by
    have := depth_ints r
    simp only [List.map_cons, PyData.depthAll, PyData.depth]
    omega
theorem depth_dL (a : List Int) : (dL a).depth ≤ 2 := by
  have := depth_ints a
  simp only [PyData.depth]
  omega
theorem depth_dP (p : Int × List Int) : (dP p).depth ≤ 4 := by
  have := depth_ints p.2
  simp only [PyData.depth, PyData.depthAll]
  omega
theorem depth_rows : ∀ rows : List (List Int), PyData.depthAll (rows.map dL) ≤ 2
  | [] => by simp [PyData.depthAll]
  | r :: rs => by
    have h1 := depth_rows rs
    have h2 := depth_dL r
    simp only [List.map_cons, PyData.depthAll]
    omega

/-! ### rules -/
section
variable {X : Cx}
def rLtP (K : PySem.W.Frag) : R2 := fun x y H Q => ∃ p q, Dp K H x (dP p) ∧ Dp K H y (dP q) ∧ Q (.bl (ltP p q)) H
theorem op_ltP (hu : X.A.units + 64 < cLine) : OpR X (compareOp .Lt) (rLtP X.K) := by
  intro pins s σ H x y v u Q I rx ry h
  obtain ⟨p, q, hd, he, hq⟩ := h
  obtain ⟨as, r1⟩ := Dp.reads I _ x v hd rx
  obtain ⟨bs, r2⟩ := Dp.reads I _ y u he ry
  have d1 := depth_dP p
  have d2 := depth_dP q
  refine PySem.W.lt_data r1 r2 (alike_dP p q) (by intro z; cases z) ?_ ?_
  · have := Nat.min_le_left (dP p).depth (dP q).depth
    omega
  · rw [lt_dP]
    exact ⟨.bl _, H, I, rfl, hq⟩
theorem minD_rows : ∀ (rs : List (List Int)) (r : List Int), ∃ m, PySem.W.minD (dL r) (rs.map dL) = dL m ∧ m ∈ r :: rs ∧ ∀ y ∈ r :: rs, lexI y m = false := by
  intro rs
  induction rs with
  | nil => exact fun r => ⟨r, rfl, List.mem_cons_self, fun y hy => by
      have : y = r := by simpa using hy
      rw [this]; exact lexI_irrefl r⟩
  | cons y rs ih =>
    intro r
    have e : PySem.W.minD (dL r) ((y :: rs).map dL) = PySem.W.minD (dL (if lexI y r = true then y else r)) (rs.map dL) := by
      show PySem.W.minD _ _ = _
      unfold PySem.W.minD
      rw [List.map_cons, List.foldl_cons, lt_dL]
      congr 1
      split <;> rfl
    obtain ⟨m, h1, h2, h3⟩ := ih (if lexI y r = true then y else r)
    refine ⟨m, e.trans h1, ?_, ?_⟩
    · rcases List.mem_cons.mp h2 with h2 | h2
      · rw [h2]; split <;> simp
      · simp [h2]
    · have hb := h3 _ List.mem_cons_self
      have hc : lexI y m = false ∧ lexI r m = false := by
        by_cases z : lexI y r = true
        · rw [if_pos z] at hb
          refine ⟨hb, ?_⟩
          cases hh : lexI r m with
          | false => rfl
          | true => rw [lexI_trans _ _ _ z hh] at hb; cases hb
        · rw [if_neg z] at hb
          refine ⟨?_, hb⟩
          cases hh : lexI y m with
          | false => rfl
          | true =>
            have hq := ltP_le_trans (p := (0, y)) (q := (0, r)) (r := (0, m)) (by simpa [ltP] using z) (by simpa [ltP] using hb)
            simp [ltP, hh] at hq
      intro x hx
      rcases List.mem_cons.mp hx with rfl | hx
      · exact hc.2
      · rcases List.mem_cons.mp hx with rfl | hx
        · exact hc.1
        · exact h3 x (List.mem_cons_of_mem _ hx)
theorem maxD_rows : ∀ (rs : List (List Int)) (r : List Int), ∃ m, PySem.W.maxD (dL r) (rs.map dL) = dL m ∧ m ∈ r :: rs ∧ ∀ y ∈ r :: rs, lexI m y = false := by
  intro rs
  induction rs with
  | nil => exact fun r => ⟨r, rfl, List.mem_cons_self, fun y hy => by
      have : y = r := by simpa using hy
      rw [this]; exact lexI_irrefl r⟩
  | cons y rs ih =>
    intro r
    have e : PySem.W.maxD (dL r) ((y :: rs).map dL) = PySem.W.maxD (dL (if lexI r y = true then y else r)) (rs.map dL) := by
      show PySem.W.maxD _ _ = _
      unfold PySem.W.maxD
      rw [List.map_cons, List.foldl_cons, lt_dL]
      congr 1
      split <;> rfl
    obtain ⟨m, h1, h2, h3⟩ := ih (if lexI r y = true then y else r)
    refine ⟨m, e.trans h1, ?_, ?_⟩
    · rcases List.mem_cons.mp h2 with h2 | h2
      · rw [h2]; split <;> simp
      · simp [h2]
    · have hb := h3 _ List.mem_cons_self
      have hc : lexI m y = false ∧ lexI m r = false := by
        by_cases z : lexI r y = true
        · rw [if_pos z] at hb
          refine ⟨hb, ?_⟩
          cases hh : lexI m r with
          | false => rfl
          | true => rw [lexI_trans _ _ _ hh z] at hb; cases hb
        · rw [if_neg z] at hb
          refine ⟨?_, hb⟩
          cases hh : lexI m y with
          | false => rfl
          | true =>
            have hq := ltP_le_trans (p := (0, m)) (q := (0, r)) (r := (0, y)) (by simpa [ltP] using hb) (by simpa [ltP] using z)
            simp [ltP, hh] at hq
      intro x hx
      rcases List.mem_cons.mp hx with rfl | hx
      · exact hc.2
      · rcases List.mem_cons.mp hx with rfl | hx
        · exact hc.1
        · exact h3 x (List.mem_cons_of_mem _ hx)
theorem alikeAll_rows (rows : List (List Int)) : PySem.W.AlikeAll (rows.map dL) := by
  refine ⟨fun x hx y hy => ?_, fun x hx => ?_⟩
  · obtain ⟨a, _, rfl⟩ := List.mem_map.mp hx
    obtain ⟨b, _, rfl⟩ := List.mem_map.mp hy
    exact alike_dL a b
  · obtain ⟨a, _, rfl⟩ := List.mem_map.mp hx
    intro z; cases z
theorem DpAll.get {K : PySem.W.Frag} {H : Hp} : ∀ {vs : List V} {ds : List PyData} (i : Nat) (v : V), DpAll K H vs ds → vs[i]? = some v → ∃ d, ds[i]? = some d ∧ Dp K H v d
  | _, _, i, v, .nil, h => by simp at h
  | _, _, 0, v, .cons a _, h => by
    have := Option.some.inj (show some _ = some v from h)
    subst this
    exact ⟨_, rfl, a⟩
  | _, _, i + 1, v, .cons _ b, h => DpAll.get i v b h
theorem dL_inj {a b : List Int} (h : dL a = dL b) : a = b := by
  have h' : a.map PyData.int = b.map PyData.int := by injection h
  have : ∀ a b : List Int, a.map PyData.int = b.map PyData.int → a = b := by
    intro a
    induction a with
    | nil => intro b h; cases b with
      | nil => rfl
      | cons _ _ => simp at h
    | cons x r ih => intro b h; cases b with
      | nil => simp at h
      | cons y t =>
        rw [List.map_cons, List.map_cons] at h
        injection h with h1 h2
        injection h1 with h1
        rw [h1, ih t h2]
  exact this a b h'
def rMinL (K : PySem.W.Frag) : List V → Hp → VK → Prop := fun vs H Q => ∃ (a : Addr) (xs : List V) (rows : List (List Int)), vs = [V.ref a] ∧ SqL K H a xs ∧ DpAll K H xs (rows.map dL) ∧ rows ≠ [] ∧
  ∀ (i : Nat) (v : V) (m : List Int), xs[i]? = some v → rows[i]? = some m → (∀ y ∈ rows, lexI y m = false) → Q v H
def rMaxL (K : PySem.W.Frag) : List V → Hp → VK → Prop := fun vs H Q => ∃ (a : Addr) (xs : List V) (rows : List (List Int)), vs = [V.ref a] ∧ SqL K H a xs ∧ DpAll K H xs (rows.map dL) ∧ rows ≠ [] ∧
  ∀ (i : Nat) (v : V) (m : List Int), xs[i]? = some v → rows[i]? = some m → (∀ y ∈ rows, lexI m y = false) → Q v H
theorem cr_minL (hc : X.calm = true) (hu : X.A.units + 64 < cLine) : CallR X (.builtin "min") (rMinL X.K) := by
  intro pins s σ H vs us Q I r h
  obtain ⟨a, xs, rows, rfl, hs, hd, hne, q⟩ := h
  obtain ⟨its, rv, hl, _⟩ := I.list hs
  rw [Vals.ref1 r]
  obtain ⟨r0, rs, rfl⟩ : ∃ r0 rs, rows = r0 :: rs := by
    cases rows with
    | nil => exact absurd rfl hne
    | cons a b => exact ⟨a, b, rfl⟩
  obtain ⟨as, hr⟩ := Dp.readsAll I _ _ its hd rv
  have hdep := depth_rows (r0 :: rs)
  refine PySem.W.min_list_data (x := dL r0) (xs := rs.map dL) (I.ok.hd hc) hl.isList (by simpa using hr) (alikeAll_rows (r0 :: rs)) (by rw [List.map_cons] at hdep; omega) fun i v h' tk bs hi hrd hk => ?_
  obtain ⟨m, e1, e2, e3⟩ := minD_rows rs r0
  rw [e1] at hrd
  have hi' : its[i]? = some v := by simpa using hi
  have hlt : i < xs.length := by
    have := (List.getElem?_eq_some_iff.mp hi').1
    have := rv.length
    omega
  have hx := List.getElem?_eq_getElem hlt
  obtain ⟨u, hu1, hu2⟩ := rv.get hx
  rw [hi'] at hu1
  cases hu1
  obtain ⟨d, hd1, hd2⟩ := DpAll.get i _ hd hx
  obtain ⟨rw', hw1, hw2⟩ : ∃ rw', (r0 :: rs)[i]? = some rw' ∧ d = dL rw' := by
    rw [List.getElem?_map] at hd1
    obtain ⟨z, hz1, hz2⟩ := Option.map_eq_some_iff.mp hd1
    exact ⟨z, hz1, hz2.symm⟩
  subst hw2
  obtain ⟨cs, hrd2⟩ := Dp.reads I _ _ _ hd2 hu2
  have em := (PySem.Reads.unique hrd _ _ (PySem.W.reads_keeps hk hrd2)).1
  have em' := dL_inj em
  subst em'
  exact ⟨xs[i], H, I.kept hk, hu2, q i _ _ hx hw1 e3⟩
theorem cr_maxL (hc : X.calm = true) (hu : X.A.units + 64 < cLine) : CallR X (.builtin "max") (rMaxL X.K) := by
  intro pins s σ H vs us Q I r h
  obtain ⟨a, xs, rows, rfl, hs, hd, hne, q⟩ := h
  obtain ⟨its, rv, hl, _⟩ := I.list hs
  rw [Vals.ref1 r]
  obtain ⟨r0, rs, rfl⟩ : ∃ r0 rs, rows = r0 :: rs := by
    cases rows with
    | nil => exact absurd rfl hne
    | cons a b => exact ⟨a, b, rfl⟩
  obtain ⟨as, hr⟩ := Dp.readsAll I _ _ its hd rv
  have hdep := depth_rows (r0 :: rs)
  refine PySem.W.max_list_data (x := dL r0) (xs := rs.map dL) (I.ok.hd hc) hl.isList (by simpa using hr) (alikeAll_rows (r0 :: rs)) (by rw [List.map_cons] at hdep; omega) fun i v h' tk bs hi hrd hk => ?_
  obtain ⟨m, e1, e2, e3⟩ := maxD_rows rs r0
  rw [e1] at hrd
  have hi' : its[i]? = some v := by simpa using hi
  have hlt : i < xs.length := by
    have := (List.getElem?_eq_some_iff.mp hi').1
    have := rv.length
    omega
  have hx := List.getElem?_eq_getElem hlt
  obtain ⟨u, hu1, hu2⟩ := rv.get hx
  rw [hi'] at hu1
  cases hu1
  obtain ⟨d, hd1, hd2⟩ := DpAll.get i _ hd hx
  obtain ⟨rw', hw1, hw2⟩ : ∃ rw', (r0 :: rs)[i]? = some rw' ∧ d = dL rw' := by
    rw [List.getElem?_map] at hd1
    obtain ⟨z, hz1, hz2⟩ := Option.map_eq_some_iff.mp hd1
    exact ⟨z, hz1, hz2.symm⟩
  subst hw2
  obtain ⟨cs, hrd2⟩ := Dp.reads I _ _ _ hd2 hu2
  have em := (PySem.Reads.unique hrd _ _ (PySem.W.reads_keeps hk hrd2)).1
  have em' := dL_inj em
  subst em'
  exact ⟨xs[i], H, I.kept hk, hu2, q i _ _ hx hw1 e3⟩
end
end Fh
namespace Fh
open PySem PySem.Spec PyProof.Rows L2

def top (i : Nat) : Stmt := PySem.Challenge.pw_farhaul_k48_whole_given_bits_are_told.main.body.getD i (.Pass ⟨0, 0, 0, 0⟩)

/-! ### heaps -/
structure KD (H H' : Hp) : Prop where
  l : ∀ b xs, H b = some (.lst xs) → H' b = some (.lst xs)
  t : ∀ b xs, H b = some (.tup xs) → H' b = some (.tup xs)
theorem KD.refl (H : Hp) : KD H H := ⟨fun _ _ h => h, fun _ _ h => h⟩
theorem KD.trans {H H1 H2 : Hp} (a : KD H H1) (b : KD H1 H2) : KD H H2 := ⟨fun c o h => b.l c o (a.l c o h), fun c o h => b.t c o (a.t c o h)⟩
theorem kd {H H' : Hp} (s : Same H H') : KD H H' := ⟨fun b xs h => s b _ h, fun b xs h => s b _ h⟩
/-- all but p is as it was -/
def SameX (p : Addr) (H H' : Hp) : Prop := ∀ b o, b ≠ p → H b = some o → H' b = some o
theorem SameX.refl (p : Addr) (H : Hp) : SameX p H H := fun _ _ _ h => h
theorem SameX.trans {p : Addr} {H H1 H2 : Hp} (a : SameX p H H1) (b : SameX p H1 H2) : SameX p H H2 := fun c o n h => b c o n (a c o n h)
theorem sx {p : Addr} {H H' : Hp} (s : Same H H') : SameX p H H' := fun b o _ h => s b o h
theorem SameX.kd {p C dx : Addr} {fs : List (Str × V)} {H H' : Hp} (s : SameX p H H') (hp : H p = some (.ins C dx fs)) : KD H H' :=
  ⟨fun b xs h => s b _ (ne_of h hp (by intro z; cases z)) h, fun b xs h => s b _ (ne_of h hp (by intro z; cases z)) h⟩
theorem sx_upd {p : Addr} {o : HO} {H : Hp} : SameX p H (upd H p o) := fun b u n h => by rw [upd_ne n]; exact h
theorem same_new {H : Hp} {p : Addr} {o : HO} (h : H p = none) : Same H (upd H p o) := fun b x e => by
  rw [upd_ne (ne_of_none e h)]
  exact e
/-- H without q -/
def hid (H : Hp) (q : Addr) : Hp := fun b => if b = q then none else H b
theorem hid_upd {H : Hp} {q : Addr} {o : HO} : hid (upd H q o) q = hid H q := by
  funext b
  unfold hid
  by_cases h : b = q
  · rw [if_pos h, if_pos h]
  · rw [if_neg h, if_neg h, upd_ne h]
theorem hid_same {H : Hp} {q : Addr} : Same (hid H q) H := fun b o e => by
  unfold hid at e
  split at e
  · cases e
  · exact e
theorem hid_new {H : Hp} {q p : Addr} {o : HO} (n : p ≠ q) : hid (upd H p o) q = upd (hid H q) p o := by
  funext b
  unfold hid
  by_cases h : b = q
  · subst h
    rw [if_pos rfl, upd_ne (Ne.symm n), if_pos rfl]
  · rw [if_neg h]
    by_cases hb : b = p
    · subst hb; rw [upd_same, upd_same]
    · rw [upd_ne hb, upd_ne hb, if_neg h]
theorem hid_ne {H : Hp} {q b : Addr} (n : b ≠ q) : hid H q b = H b := by unfold hid; rw [if_neg n]
theorem hid_none {H : Hp} {q b : Addr} (h : H b = none) : hid H q b = none := by
  unfold hid
  split
  · rfl
  · exact h
/-- what keeps H₀, in which q is new, keeps it beside q -/
theorem same_hid {H0 H : Hp} {q : Addr} (s : Same H0 H) (n : H0 q = none) : Same H0 (hid H q) := fun b o e => by
  rw [hid_ne (ne_of_none e n)]
  exact s b o e
theorem hid_mono {H H' : Hp} {q : Addr} (s : Same H H') : Same (hid H q) (hid H' q) := fun b o e => by
  unfold hid at e ⊢
  split at e
  · cases e
  · rename_i n
    rw [if_neg n]
    exact s b o e

/-! ### lists side by side -/
def A2 {α β : Type} (R : α → β → Prop) (xs : List α) (ys : List β) : Prop := xs.length = ys.length ∧ ∀ (i : Nat) x y, xs[i]? = some x → ys[i]? = some y → R x y
theorem A2.nil {α β : Type} {R : α → β → Prop} : A2 R ([] : List α) ([] : List β) := ⟨rfl, fun i x y h => by simp at h⟩
theorem A2.imp {α β : Type} {R S : α → β → Prop} {xs : List α} {ys : List β} (h : A2 R xs ys) (f : ∀ x y, R x y → S x y) : A2 S xs ys := ⟨h.1, fun i x y a b => f x y (h.2 i x y a b)⟩
theorem A2.snoc {α β : Type} {R : α → β → Prop} {xs : List α} {ys : List β} {x : α} {y : β} (h : A2 R xs ys) (r : R x y) : A2 R (xs ++ [x]) (ys ++ [y]) := by
  refine ⟨by simp [h.1], fun i a b ha hb => ?_⟩
  have hl := h.1
  by_cases z : i < xs.length
  · rw [List.getElem?_append_left z] at ha
    rw [List.getElem?_append_left (by omega)] at hb
    exact h.2 i a b ha hb
  · rw [List.getElem?_append_right (by omega)] at ha hb
    have h0 : i - xs.length = 0 := by
      have := (List.getElem?_eq_some_iff.mp ha).1
      simpa using this
    rw [h0] at ha
    rw [show i - ys.length = 0 by omega] at hb
    have e1 : x = a := by simpa using ha
    have e2 : y = b := by simpa using hb
    subst e1 e2
    exact r
theorem A2.set {α β : Type} {R : α → β → Prop} {xs : List α} {ys : List β} {x : α} {y : β} (h : A2 R xs ys) (j : Nat) (r : R x y) : A2 R (xs.set j x) (ys.set j y) := by
  refine ⟨by simp [h.1], fun i a b ha hb => ?_⟩
  by_cases z : j = i
  · subst z
    have h1 : j < xs.length := by
      have := (List.getElem?_eq_some_iff.mp ha).1
      simpa using this
    have h2 : j < ys.length := by have := h.1; omega
    rw [List.getElem?_set_self h1] at ha
    rw [List.getElem?_set_self h2] at hb
    cases ha; cases hb
    exact r
  · rw [List.getElem?_set_ne z] at ha hb
    exact h.2 i a b ha hb
theorem A2.at_ {α β : Type} {R : α → β → Prop} {xs : List α} {ys : List β} (h : A2 R xs ys) {i : Nat} {y : β} (e : ys[i]? = some y) : ∃ x, xs[i]? = some x ∧ R x y := by
  have h2 : i < xs.length := by
    have := (List.getElem?_eq_some_iff.mp e).1
    have := h.1
    omega
  exact ⟨xs[i], List.getElem?_eq_getElem h2, h.2 i _ y (List.getElem?_eq_getElem h2) e⟩
theorem A2.at1 {α β : Type} {R : α → β → Prop} {xs : List α} {ys : List β} (h : A2 R xs ys) {i : Nat} {x : α} (e : xs[i]? = some x) : ∃ y, ys[i]? = some y ∧ R x y := by
  have h2 : i < ys.length := by
    have := (List.getElem?_eq_some_iff.mp e).1
    have := h.1
    omega
  exact ⟨ys[i], List.getElem?_eq_getElem h2, h.2 i x _ e (List.getElem?_eq_getElem h2)⟩
theorem A2.rep {α β : Type} {R : α → β → Prop} {x : α} {y : β} (r : R x y) (n : Nat) : A2 R (List.replicate n x) (List.replicate n y) := by
  refine ⟨by simp, fun i a b ha hb => ?_⟩
  have h1 := List.eq_of_mem_replicate (List.mem_of_getElem? ha)
  have h2 := List.eq_of_mem_replicate (List.mem_of_getElem? hb)
  subst h1 h2
  exact r
theorem A2.cons {α β : Type} {R : α → β → Prop} {xs : List α} {ys : List β} {x : α} {y : β} (r : R x y) (h : A2 R xs ys) : A2 R (x :: xs) (y :: ys) := by
  refine ⟨by simp [h.1], fun i a b ha hb => ?_⟩
  cases i with
  | zero =>
    have e1 : x = a := by simpa using ha
    have e2 : y = b := by simpa using hb
    subst e1 e2
    exact r
  | succ i => exact h.2 i a b (by simpa using ha) (by simpa using hb)

/-! ### data in the heap -/
def ov : Option Int → V
  | none => .non
  | some i => .int i
/-- a list of ints; of ints and None; of lists of ints; a path; a list of paths -/
def IL (H : Hp) (a : Addr) (ns : List Int) : Prop := H a = some (.lst (ns.map V.int))
def OL (H : Hp) (a : Addr) (os : List (Option Int)) : Prop := H a = some (.lst (os.map ov))
def RL (H : Hp) (v : V) (ns : List Int) : Prop := ∃ b, v = .ref b ∧ IL H b ns
def TL (H : Hp) (a : Addr) (rows : List (List Int)) : Prop := ∃ vs, H a = some (.lst vs) ∧ A2 (RL H) vs rows
def PV (H : Hp) (v : V) : Path → Prop
  | none => v = .non
  | some (c, l) => ∃ t b, v = .ref t ∧ H t = some (.tup [.int c, .ref b]) ∧ IL H b l
def PL (H : Hp) (a : Addr) (ps : List Path) : Prop := ∃ vs, H a = some (.lst vs) ∧ A2 (PV H) vs ps
def ROL (H : Hp) (v : V) (os : List (Option Int)) : Prop := ∃ b, v = .ref b ∧ OL H b os
/-- a paper: a list of lists of ints and None -/
def PP (H : Hp) (a : Addr) (ls : List (List (Option Int))) : Prop := ∃ vs, H a = some (.lst vs) ∧ A2 (ROL H) vs ls
section
variable {H H' : Hp}
theorem IL.kd (k : KD H H') {a : Addr} {ns : List Int} (h : IL H a ns) : IL H' a ns := k.l _ _ h
theorem OL.kd (k : KD H H') {a : Addr} {ns : List (Option Int)} (h : OL H a ns) : OL H' a ns := k.l _ _ h
theorem RL.kd (k : KD H H') {v : V} {ns : List Int} (h : RL H v ns) : RL H' v ns := let ⟨b, e, q⟩ := h; ⟨b, e, q.kd k⟩
theorem ROL.kd (k : KD H H') {v : V} {ns : List (Option Int)} (h : ROL H v ns) : ROL H' v ns := let ⟨b, e, q⟩ := h; ⟨b, e, q.kd k⟩
theorem TL.kd (k : KD H H') {a : Addr} {rows : List (List Int)} (h : TL H a rows) : TL H' a rows := let ⟨vs, e, q⟩ := h; ⟨vs, k.l _ _ e, q.imp fun _ _ z => z.kd k⟩
theorem PV.kd (k : KD H H') {v : V} : ∀ {p : Path}, PV H v p → PV H' v p
  | none, h => h
  | some (c, l), h => let ⟨t, b, e, q, r⟩ := h; ⟨t, b, e, k.t _ _ q, r.kd k⟩
theorem PL.kd (k : KD H H') {a : Addr} {ps : List Path} (h : PL H a ps) : PL H' a ps := let ⟨vs, e, q⟩ := h; ⟨vs, k.l _ _ e, q.imp fun _ _ z => z.kd k⟩
theorem PP.kd (k : KD H H') {a : Addr} {ps : List (List (Option Int))} (h : PP H a ps) : PP H' a ps := let ⟨vs, e, q⟩ := h; ⟨vs, k.l _ _ e, q.imp fun _ _ z => z.kd k⟩

/-! ### as data -/
theorem dpAll_ints {K : PySem.W.Frag} : ∀ ns : List Int, DpAll K H (ns.map V.int) (ns.map .int)
  | [] => .nil
  | x :: r => .cons (.int x) (dpAll_ints r)
theorem IL.dp {K : PySem.W.Frag} {a : Addr} {ns : List Int} (h : IL H a ns) : Dp K H (.ref a) (dL ns) := .lst (SqL.of h) (dpAll_ints ns)
def dO : Option Int → PyData
  | none => .none
  | some i => .int i
theorem dpAll_opts {K : PySem.W.Frag} : ∀ os : List (Option Int), DpAll K H (os.map ov) (os.map dO)
  | [] => .nil
  | none :: r => .cons .non (dpAll_opts r)
  | some x :: r => .cons (.int x) (dpAll_opts r)
theorem OL.dp {K : PySem.W.Frag} {a : Addr} {os : List (Option Int)} (h : OL H a os) : Dp K H (.ref a) (.list (os.map dO)) := .lst (SqL.of h) (dpAll_opts os)
theorem PV.dp {K : PySem.W.Frag} {v : V} {p : Int × List Int} (h : PV H v (some p)) : Dp K H v (dP p) := by
  obtain ⟨c, l⟩ := p
  obtain ⟨t, b, rfl, q, r⟩ := h
  exact .tup (SqT.of q) (.cons (.int c) (.cons r.dp .nil))
theorem dpAll_rows {K : PySem.W.Frag} : ∀ {vs : List V} {rows : List (List Int)}, A2 (RL H) vs rows → DpAll K H vs (rows.map dL)
  | [], [], _ => .nil
  | [], _ :: _, h => by have := h.1; simp at this
  | _ :: _, [], h => by have := h.1; simp at this
  | v :: vs, r :: rows, h => by
    refine .cons ?_ (dpAll_rows (rows := rows) ⟨by have := h.1; simpa using this, fun i x y a b => h.2 (i + 1) x y (by simpa using a) (by simpa using b)⟩)
    obtain ⟨b, rfl, q⟩ := h.2 0 v r rfl rfl
    exact q.dp
end
theorem layInts : ∀ ns : List Int, PyData.canLayAll0 (ns.map .int) = true
  | [] => rfl
  | x :: r => by
    have := layInts r
    simp [PyData.canLayAll0, PyData.canLay0, this]
theorem layOpts : ∀ ns : List (Option Int), PyData.canLayAll0 (ns.map dO) = true
  | [] => rfl
  | none :: r => by
    have := layOpts r
    simp [PyData.canLayAll0, PyData.canLay0, this, dO]
  | some x :: r => by
    have := layOpts r
    simp [PyData.canLayAll0, PyData.canLay0, this, dO]
theorem depthOpts : ∀ ns : List (Option Int), PyData.depthAll (ns.map dO) ≤ 1
  | [] => by simp [PyData.depthAll]
  | none :: r => by
    have := depthOpts r
    simp only [List.map_cons, PyData.depthAll, PyData.depth, dO]
    omega
  | some x :: r => by
    have := depthOpts r
    simp only [List.map_cons, PyData.depthAll, PyData.depth, dO]
    omega
theorem shaped_dL (ns : List Int) : SeqAt.shaped (dL ns) = true := by
  have h1 := layInts ns
  have h2 := depth_dL ns
  unfold SeqAt.shaped
  rw [Bool.and_eq_true, decide_eq_true_eq]
  exact ⟨by rw [PyData.canLay0]; exact h1, by omega⟩
theorem shaped_dO (ns : List (Option Int)) : SeqAt.shaped (.list (ns.map dO)) = true := by
  have h1 := layOpts ns
  have h2 := depthOpts ns
  unfold SeqAt.shaped
  rw [Bool.and_eq_true, decide_eq_true_eq]
  refine ⟨by rw [PyData.canLay0]; exact h1, ?_⟩
  simp only [PyData.depth]
  omega
theorem eqv_same {d : PyData} (h : SeqAt.shaped d = true) : (!PyData.eqv d d) = false := by
  rw [SeqAt.eqv_refl d (SeqAt.canLay_of_shaped h)]; rfl
/-- the question of x != y of two equal lists: False -/
theorem ne_same {K : PySem.W.Frag} {H : Hp} {x y : V} {d : PyData} {Q : VK} (hx : Dp K H x d) (hy : Dp K H y d) (hs : SeqAt.shaped d = true) (q : Q (.bl false) H) : rNeD K x y H Q :=
  ⟨d, d, hx, hy, hs, hs, by rw [eqv_same hs]; exact q⟩

/-! ### slices -/
theorem cut_nat (xs : List V) (a b : Nat) : cutV xs (some (a : Int)) (some (b : Int)) = (xs.drop a).take (b - a) := by
  unfold cutV
  rw [HT.sIx_nat, HT.sIx_nat]
  by_cases h : a ≤ xs.length
  · rw [Nat.min_eq_left h]
    by_cases h2 : b ≤ xs.length
    · rw [Nat.min_eq_left h2]
    · rw [Nat.min_eq_right (by omega), List.take_of_length_le (by rw [List.length_drop]; omega), List.take_of_length_le (by rw [List.length_drop]; omega)]
  · have e : min a xs.length = xs.length := by omega
    rw [e, List.drop_of_length_le (Nat.le_refl _), List.drop_of_length_le (show xs.length ≤ a by omega)]
    simp
theorem cut_to (xs : List V) (b : Nat) : cutV xs none (some (b : Int)) = xs.take b := by
  unfold cutV
  rw [HT.sIx_none, HT.sIx_nat]
  by_cases h2 : b ≤ xs.length
  · rw [Nat.min_eq_left h2]; simp
  · rw [Nat.min_eq_right (by omega), List.take_of_length_le (by rw [List.length_drop]; omega), List.take_of_length_le (by omega)]; simp
theorem cut_from (xs : List V) (a : Nat) : cutV xs (some (a : Int)) none = xs.drop a := by
  unfold cutV
  rw [HT.sIx_none, HT.sIx_nat]
  by_cases h : a ≤ xs.length
  · rw [Nat.min_eq_left h, List.take_of_length_le (by rw [List.length_drop]; omega)]
  · rw [Nat.min_eq_right (by omega), List.drop_of_length_le (Nat.le_refl _), List.drop_of_length_le (by omega)]
    simp
theorem map_at {α : Type} {f : α → V} {xs : List α} {i : Nat} {x : α} (h : xs[i]? = some x) : (xs.map f)[i]? = some (f x) := by
  rw [List.getElem?_map, h]; rfl
theorem of_map {α : Type} {f : α → V} {xs : List α} {i : Nat} {v : V} (h : (xs.map f)[i]? = some v) : ∃ x, xs[i]? = some x ∧ v = f x := by
  rw [List.getElem?_map] at h
  obtain ⟨x, h1, h2⟩ := Option.map_eq_some_iff.mp h
  exact ⟨x, h1, h2.symm⟩
theorem rep_flat {α : Type} (x : α) (n : Nat) : (List.replicate n [x]).flatten = List.replicate n x := by
  induction n with
  | zero => rfl
  | succ n ih => rw [List.replicate_succ, List.flatten_cons, ih, List.replicate_succ]; rfl
theorem szline {n : Nat} (h : n ≤ 100000) : n < sizeLine := by rw [sizeLine_eq]; omega
theorem szle {n : Nat} (h : n ≤ 100000) : n ≤ sizeLine := Nat.le_of_lt (szline h)
theorem wbnd {n : Nat} (h : n ≤ 100000) : -(2 ^ 62) ≤ (n : Int) ∧ (n : Int) < 2 ^ 62 := by
  have : (2 : Int) ^ 62 = 4611686018427387904 := by decide
  omega
end Fh
namespace Fh
open PySem PySem.Spec PyProof.Rows L2

/-! ### the classes' facts -/
structure Tx (K : PySem.W.Frag) (mg : Str → Option Value) (CR CF : Addr) : Prop where
  clR : Cls K CR
  rV : NoAttr K CR "_v"
  rT : NoAttr K CR "_taps"
  rR : NoAttr K CR "_rows"
  clF : Cls K CF
  fG : NoAttr K CF "_register"
  fP : NoAttr K CF "_paths"
  fW : NoAttr K CF "_waiting"
  fT : NoAttr K CF "_turns"
  mR : mg "Register" = some (.ref CR)
  mF : mg "Follower" = some (.ref CF)
  len : mg "len" = none
  range : mg "range" = none
  min : mg "min" = none
  max : mg "max" = none
  abs : mg "abs" = none
  all : mg "all" = none
  int : mg "int" = none
  list : mg "list" = none

/-! ### the register's fields -/
def fR (v : Nat) (at_ ar : Addr) : List (Str × V) := [("_v", .int (v : Int)), ("_taps", .ref at_), ("_rows", .ref ar)]
theorem fR_v (v at_ ar) : (fR v at_ ar).lookup ("_v" : Str) = some (.int (v : Int)) := rfl
theorem fR_t (v at_ ar) : (fR v at_ ar).lookup ("_taps" : Str) = some (.ref at_) := rfl
theorem fR_r (v at_ ar) : (fR v at_ ar).lookup ("_rows" : Str) = some (.ref ar) := rfl
structure RegA (CR : Addr) (H : Hp) (r : Addr) (v : Nat) (taps : List Int) (dx at_ ar : Addr) : Prop where
  h : H r = some (.ins CR dx (fR v at_ ar))
  t : IL H at_ taps
  r : TL H ar (tab v taps)
  ok : RegOk v taps
def RegAt (CR : Addr) (H : Hp) (r : Addr) (v : Nat) (taps : List Int) : Prop := ∃ dx at_ ar, RegA CR H r v taps dx at_ ar
theorem RegAt.same {CR : Addr} {H H' : Hp} {r : Addr} {v : Nat} {taps : List Int} (s : Same H H') (h : RegAt CR H r v taps) : RegAt CR H' r v taps :=
  let ⟨dx, a, b, q⟩ := h; ⟨dx, a, b, s _ _ q.h, q.t.kd (kd s), q.r.kd (kd s), q.ok⟩
theorem RegAt.sx {CR : Addr} {H H' : Hp} {r p C d : Addr} {fs : List (Str × V)} {v : Nat} {taps : List Int} (s : SameX p H H') (hp : H p = some (.ins C d fs)) (n : r ≠ p) (h : RegAt CR H r v taps) : RegAt CR H' r v taps :=
  let ⟨dx, a, b, q⟩ := h; ⟨dx, a, b, s _ _ n q.h, q.t.kd (s.kd hp), q.r.kd (s.kd hp), q.ok⟩
theorem RegAt.ok {CR : Addr} {H : Hp} {r : Addr} {v : Nat} {taps : List Int} (h : RegAt CR H r v taps) : RegOk v taps := let ⟨_, _, _, q⟩ := h; q.ok

theorem qi {Q : VK} {H : Hp} {i j : Int} (e : i = j) (q : Q (.int j) H) : Q (.int i) H := by rw [e]; exact q
theorem qb {Q : VK} {H : Hp} {i j : Bool} (e : i = j) (q : Q (.bl j) H) : Q (.bl i) H := by rw [e]; exact q
theorem xor_nat (a b : Nat) : Builtin.bitXor (a : Int) (b : Int) = ((a ^^^ b : Nat) : Int) := by
  rw [_root_.Bits.bitXor_pp (by omega) (by omega)]; simp
theorem and_nat (a b : Nat) : Builtin.bitAnd (a : Int) (b : Int) = ((a &&& b : Nat) : Int) := by
  rw [bitAnd_pp (by omega) (by omega)]; simp

/-! ### promises -/
def spOdd : Sp := fun vs H Q _ => ∃ n : Nat, vs = [.int (n : Int)] ∧ n < 64 ∧ Q (.int ((par n : Nat) : Int)) H
def spMemory (CR : Addr) : Sp := fun vs H Q _ => ∃ r v taps, vs = [.ref r] ∧ RegAt CR H r v taps ∧ Q (.int (v : Int)) H
def spTaps (CR : Addr) : Sp := fun vs H Q _ => ∃ r v taps, vs = [.ref r] ∧ RegAt CR H r v taps ∧ ∀ p, H p = none → Q (.ref p) (upd H p (.lst (taps.map V.int)))
def spNext (CR : Addr) : Sp := fun vs H Q _ => ∃ (r : Addr) (v : Nat) (taps : List Int) (s b : Nat), vs = [.ref r, .int (s : Int), .int (b : Int)] ∧ RegAt CR H r v taps ∧ Q (.int ((nxt v s b : Nat) : Int)) H
def spOut (CR : Addr) : Sp := fun vs H Q _ => ∃ (r : Addr) (v : Nat) (taps : List Int) (s b : Nat), vs = [.ref r, .int (s : Int), .int (b : Int)] ∧ RegAt CR H r v taps ∧ s < 2 ^ v ∧ b < 2 ∧
  ∀ p, H p = none → Q (.ref p) (upd H p (.lst ((rowAt v taps (b + 2 * s)).map V.int)))
def spStates (CR : Addr) : Sp := fun vs H Q _ => ∃ r v taps, vs = [.ref r] ∧ RegAt CR H r v taps ∧ Q (.int ((2 ^ v : Nat) : Int)) H

abbrev sOdd : Stmt := top 8
abbrev sCheck : Stmt := top 9
abbrev sRInit : Stmt := inClass (top 10) 0
abbrev sMemory : Stmt := inClass (top 10) 1
abbrev sTaps : Stmt := inClass (top 10) 2
abbrev sNext : Stmt := inClass (top 10) 3
abbrev sOut : Stmt := inClass (top 10) 4
abbrev sStates : Stmt := top 11

section
variable {P : Program} {w : World} {K : PySem.W.Frag} {mg : Str → Option Value} {base : Heap}

theorem scOdd : FnScope ["bits", "found"] ["bits"] (defScope sOdd) := ⟨rfl, rfl, rfl, by decide +kernel, rfl, by decide +kernel, by decide +kernel⟩
theorem ok_odd {f : Addr} {fd : FuncData} (F : Fun K "is_odd" "is_odd" sOdd f fd) : FnOk P w K mg base CX0 1 f fd ["bits"] spOdd := by
  refine F.ok scOdd (fun vs H Q E h => ?_) (fun cdv A outer s H vs Q E hr h => ?_)
  · obtain ⟨n, rfl, _⟩ := h
    rfl
  · obtain ⟨n, rfl, hn, q⟩ := h
    refine ⟨_, pss_cons (ps_set (i := 1) scOdd.nd rfl (.inl rfl) pe_int)
      (pss_cons (ps_while PassesOwn.never (pt_cmpR op_gt (pv 0) pe_int (nomark _))
        (pss_cons (ps_set (i := 1) scOdd.nd rfl (.inl rfl) (pe_op op_xor (pv 1) (pe_op op_and (pv 0) pe_int)))
        (pss_one (ps_set (i := 0) scOdd.nd rfl (.inl rfl) (pe_op op_shr (pv 0) pe_int)))))
      (pss_one (ps_ret (pv 1)))), ?_⟩
    refine ⟨fun m σ H' => ∃ b g : Nat, σ = [some (.int (b : Int)), some (.int (g : Int))] ∧ H' = H ∧ g < 2 ∧ b < 2 ^ m ∧ (g + pcn m b) % 2 = par n, ⟨6, n, 0, rfl, rfl, by decide, hn, by simp [par]⟩, ?_⟩
    rintro m σ H' ⟨b, g, rfl, rfl, hg, hb, hp⟩
    refine ⟨_, rfl, _, _, rfl, rfl, _, rfl, ite2 (fun c => ?_) (fun c => ?_)⟩
    · have hb0 : 0 < b := by
        have := of_decide_eq_true c
        omega
      cases m with
      | zero => exact absurd hb (by simp; omega)
      | succ m =>
        refine ⟨fun σ' H'' => ∃ b g : Nat, σ' = [some (.int (b : Int)), some (.int (g : Int))] ∧ H'' = H' ∧ g < 2 ∧ b < 2 ^ m ∧ (g + pcn m b) % 2 = par n, fun σ' H'' hw => ⟨m, Nat.lt_succ_self m, hw⟩, ?_⟩
        refine ⟨_, rfl, _, rfl, _, _, rfl, rfl, _, _, rfl, rfl, ?_⟩
        refine ⟨_, rfl, _, _, rfl, rfl, Int.one_nonneg, ?_⟩
        refine ⟨b / 2, g ^^^ (b &&& 1), ?_, rfl, ?_, ?_, ?_⟩
        · have e1 : Builtin.bitXor (g : Int) (Builtin.bitAnd (b : Int) 1) = ((g ^^^ (b &&& 1) : Nat) : Int) := by
            have := and_nat b 1
            rw [show ((1 : Nat) : Int) = 1 from rfl] at this
            rw [this, xor_nat]
          have e2 : ((b : Int) / 2 ^ (1 : Int).toNat) = ((b / 2 : Nat) : Int) := by
            show ((b : Int) / 2 ^ 1) = _
            simp
          show [some (V.int ((b : Int) / 2 ^ (1 : Int).toNat)), some (V.int (Builtin.bitXor (g : Int) (Builtin.bitAnd (b : Int) 1)))] = _
          rw [e1, e2]
        · rw [Nat.and_one_is_mod]
          have h1 : g = 0 ∨ g = 1 := by omega
          have h2 : b % 2 = 0 ∨ b % 2 = 1 := by omega
          rcases h1 with rfl | rfl <;> rcases h2 with h2 | h2 <;> rw [h2] <;> decide
        · rw [Nat.pow_succ] at hb; omega
        · rw [pcn] at hp
          rw [Nat.and_one_is_mod]
          have h1 : g = 0 ∨ g = 1 := by omega
          have h2 : b % 2 = 0 ∨ b % 2 = 1 := by omega
          rcases h1 with rfl | rfl <;> rcases h2 with h2 | h2 <;> rw [h2] at hp ⊢
          · simpa using hp
          · simpa using hp
          · simpa using hp
          · rw [← hp]
            show (0 + pcn m (b / 2)) % 2 = _
            omega
    · have hb0 : b = 0 := by
        apply Classical.byContradiction
        intro z
        exact c (decide_eq_true (by omega))
      subst hb0
      rw [pcn_zero] at hp
      refine ⟨_, rfl, ?_⟩
      rw [← hp, Nat.add_zero, Nat.mod_eq_of_lt hg] at q
      exact q

theorem scMem : FnScope ["self"] ["self"] (defScope sMemory) := ⟨rfl, rfl, rfl, by decide +kernel, rfl, by decide +kernel, by decide +kernel⟩
theorem ok_memory {CR CF f : Addr} {fd : FuncData} (F : Fun K "memory" "Register.memory" sMemory f fd) (T : Tx K mg CR CF) : FnOk P w K mg base CX0 1 f fd ["self"] (spMemory CR) := by
  refine F.ok scMem (fun vs H Q E h => ?_) (fun cdv A outer s H vs Q E hr h => ?_)
  · obtain ⟨r, v, taps, rfl, _⟩ := h
    rfl
  · obtain ⟨r, v, taps, rfl, ⟨dx, a, b, g⟩, q⟩ := h
    refine ⟨_, pss_one (ps_ret (pe_fld (pv 0) rfl)), ?_⟩
    exact ⟨_, rfl, r, CR, dx, _, _, rfl, g.h, T.clR, T.rV, fR_v _ _ _, q⟩
theorem scTaps : FnScope ["self"] ["self"] (defScope sTaps) := ⟨rfl, rfl, rfl, by decide +kernel, rfl, by decide +kernel, by decide +kernel⟩
theorem ok_taps {CR CF f : Addr} {fd : FuncData} (F : Fun K "taps" "Register.taps" sTaps f fd) (T : Tx K mg CR CF) : FnOk P w K mg base CX0 1 f fd ["self"] (spTaps CR) := by
  refine F.ok scTaps (fun vs H Q E h => ?_) (fun cdv A outer s H vs Q E hr h => ?_)
  · obtain ⟨r, v, taps, rfl, _⟩ := h
    rfl
  · obtain ⟨r, v, taps, rfl, ⟨dx, a, b, g⟩, q⟩ := h
    refine ⟨_, pss_one (ps_ret (pe_callTy call_list_of (by rfl) T.list (by decide +kernel) (pa_cons (pe_fld (pv 0) rfl) pa_nil))), ?_⟩
    exact ⟨_, rfl, r, CR, dx, _, _, rfl, g.h, T.clR, T.rT, fR_t _ _ _, a, _, rfl, .inl (SqL.of g.t), q⟩
theorem scNext : FnScope ["self", "state", "bit"] ["self", "state", "bit"] (defScope sNext) := ⟨rfl, rfl, rfl, by decide +kernel, rfl, by decide +kernel, by decide +kernel⟩
theorem ok_next {CR CF f : Addr} {fd : FuncData} (F : Fun K "next_state" "Register.next_state" sNext f fd) (T : Tx K mg CR CF) : FnOk P w K mg base CX0 1 f fd ["self", "state", "bit"] (spNext CR) := by
  refine F.ok scNext (fun vs H Q E h => ?_) (fun cdv A outer s H vs Q E hr h => ?_)
  · obtain ⟨r, v, taps, s', b', rfl, _⟩ := h
    rfl
  · obtain ⟨r, v, taps, st, bt, rfl, ⟨dx, a, b, g⟩, q⟩ := h
    refine ⟨_, pss_one (ps_ret (pe_op op_and (pe_op op_add (pv 2) (pe_op op_mul pe_int (pv 1))) (pe_op op_sub (pe_op op_shl pe_int (pe_fld (pv 0) rfl)) pe_int))), ?_⟩
    refine ⟨_, rfl, _, rfl, _, _, rfl, rfl, .inl (by decide), _, _, rfl, rfl, ?_⟩
    have h5 := g.ok.v5
    refine ⟨_, rfl, r, CR, dx, _, _, rfl, g.h, T.clR, T.rV, fR_v _ _ _, _, _, rfl, rfl, ⟨by omega, by omega, by decide⟩, _, _, rfl, rfl, _, _, rfl, rfl, ?_⟩
    have e : Builtin.bitAnd ((bt : Int) + 2 * (st : Int)) (1 * 2 ^ ((v : Int)).toNat - 1) = ((nxt v st bt : Nat) : Int) := by
      rw [Int.one_mul, Int.toNat_natCast, _root_.Bits.bitAnd_mask v (by omega)]
      unfold nxt
      simp
    exact qi e q
theorem scOut : FnScope ["self", "state", "bit"] ["self", "state", "bit"] (defScope sOut) := ⟨rfl, rfl, rfl, by decide +kernel, rfl, by decide +kernel, by decide +kernel⟩
theorem ok_out {CR CF f : Addr} {fd : FuncData} (F : Fun K "out" "Register.out" sOut f fd) (T : Tx K mg CR CF) : FnOk P w K mg base CX0 1 f fd ["self", "state", "bit"] (spOut CR) := by
  refine F.ok scOut (fun vs H Q E h => ?_) (fun cdv A outer s H vs Q E hr h => ?_)
  · obtain ⟨r, v, taps, s', b', rfl, _⟩ := h
    rfl
  · obtain ⟨r, v, taps, st, bt, rfl, ⟨dx, a, b, g⟩, hs, hb, q⟩ := h
    refine ⟨_, pss_one (ps_ret (pe_callTy call_list_of (by rfl) T.list (by decide +kernel) (pa_cons (pe_ix ix_list (pe_fld (pv 0) rfl) (pe_op op_add (pv 2) (pe_op op_mul pe_int (pv 1))) (fun _ _ => rfl)) pa_nil))), ?_⟩
    have hw : bt + 2 * st < 2 * 2 ^ v := by omega
    obtain ⟨vs, hv, h2⟩ := g.r
    obtain ⟨x, hx, c, rfl, hc⟩ := h2.at_ (rowAt_at hw)
    refine ⟨_, rfl, r, CR, dx, _, _, rfl, g.h, T.clR, T.rR, fR_r _ _ _, _, rfl, _, rfl, _, _, rfl, rfl, .inl (by decide), _, _, rfl, rfl, b, vs, _, .ref c, rfl, rfl, SqL.of hv, ?_, ?_⟩
    · exact at_of (j := bt + 2 * st) (by simp) hx
    · exact ⟨c, _, rfl, .inl (SqL.of hc), q⟩
theorem scStates : FnScope ["shift_register"] ["shift_register"] (defScope sStates) := ⟨rfl, rfl, rfl, by decide +kernel, rfl, by decide +kernel, by decide +kernel⟩
theorem ok_states {CR CF f fM : Addr} {fd fdM : FuncData} (F : Fun K "states_of" "states_of" sStates f fd) (T : Tx K mg CR CF) (GM : FnOk P w K mg base CX0 1 fM fdM ["self"] (spMemory CR)) (bM : Binds K fdM ["self"] []) (mM : Meth K CR "memory" fM) : FnOk P w K mg base CX0 2 f fd ["shift_register"] (spStates CR) := by
  refine F.ok scStates (fun vs H Q E h => ?_) (fun cdv A outer s H vs Q E hr h => ?_)
  · obtain ⟨r, v, taps, rfl, _⟩ := h
    rfl
  · obtain ⟨r, v, taps, rfl, R, q⟩ := h
    have R' := R
    obtain ⟨dx, a, b, g⟩ := R'
    refine ⟨_, pss_one (ps_ret (pe_op op_shl pe_int (pe_meth0 (pv 0) T.clR mM GM hr bM .nil pass0))), ?_⟩
    have h5 := g.ok.v5
    refine ⟨_, rfl, r, dx, _, rfl, g.h, rfl, r, v, taps, rfl, R, ?_⟩
    refine ⟨_, _, rfl, rfl, ⟨by omega, by omega, by decide⟩, ?_⟩
    have e : (1 * 2 ^ ((v : Int)).toNat : Int) = ((2 ^ v : Nat) : Int) := by
      rw [Int.one_mul, Int.toNat_natCast]; simp
    exact qi e q
end
end Fh
namespace Fh
open PySem PySem.Spec PyProof.Rows L2

def asgVal : Stmt → Expr
  | .Assign _ e _ => e
  | _ => .Constant .none 0 ⟨0, 0, 0, 0⟩
def lcScope : Expr → Scope
  | .ListComp _ _ s _ => s
  | _ => { kind := .function, names := [], isGenerator := false, isCoroutine := false }

def spDiff : Sp := fun vs H Q _ => ∃ (a b : Addr) (bits : List Int) (part : List (Option Int)), vs = [.ref a, .ref b] ∧ IL H a bits ∧ OL H b part ∧ bits.length ≤ part.length ∧ bits.length ≤ 1000 ∧
  ∀ H', Same H H' → Q (.int ((cost bits part : Nat) : Int)) H'
def spCheck : Sp := fun vs H Q _ => ∃ (v : Nat) (a : Addr) (taps : List Int), vs = [.int (v : Int), .ref a] ∧ IL H a taps ∧ RegOk v taps ∧ Q .non H
def spRInit (CR : Addr) : Sp := fun vs H Q _ => ∃ (p dx a : Addr) (v : Nat) (taps : List Int), vs = [.ref p, .int (v : Int), .ref a] ∧ H p = some (.ins CR dx []) ∧ IL H a taps ∧ RegOk v taps ∧
  ∀ H', SameX p H H' → RegAt CR H' p v taps → Q .non H'
abbrev sDiff : Stmt := top 15
abbrev sLCost : Stmt := top 30

theorem pow2 (v : Nat) : (2 * 2 ^ ((v : Int)).toNat : Int) = ((2 * 2 ^ v : Nat) : Int) := by
  rw [Int.toNat_natCast]; simp

/-! ### rules whose questions don't speak of the block -/
theorem ixL (K : PySem.W.Frag) {X : Cx} (h : X.K = K := by rfl) : IxR X (rIxL K) := by
  subst h
  exact ix_list
theorem ixT (K : PySem.W.Frag) {X : Cx} (h : X.K = K := by rfl) : IxR X (rIxT K) := by
  subst h
  exact ix_tup
theorem piL (K : PySem.W.Frag) {X : Cx} {tg l : Expr} {tl : TE} (hl : PE X l tl) (h : X.K = K := by rfl) : PI X tg l (iList K tl) := by
  subst h
  exact pi_list hl
theorem tyes {σ : L2.St} {H : Hp} {Q : Bool → Hp → Prop} (h : Q true H) : tYes σ H Q := h
theorem tyesI {σ : L2.St} {H : Hp} {A B : Hp → Prop} (h : A H) : tYes σ H (fun b H' => if b = true then A H' else B H') := by
  show if true = true then A H else B H
  exact iteT h
def eltOf : Expr → Expr
  | .ListComp e _ _ _ => e
  | _ => .Constant .none 0 ⟨0, 0, 0, 0⟩
abbrev rowsLC : Expr := asgVal ((defBody sRInit).getD 4 (.Pass ⟨0, 0, 0, 0⟩))
/-- the block's scope as it runs: the names that it takes from the def are cells there -/
def scRows : Scope := { lcScope rowsLC with names := [(".0", .local), ("window", .cell), ("taps", .cell)] }
theorem blkIn : BlkOk ["self", "v", "taps", "window", "tap"] scRows (lcScope (eltOf rowsLC)) [("tap", 4)] := blkOk_by (by decide +kernel)

section
variable {P : Program} {w : World} {K : PySem.W.Frag} {mg : Str → Option Value} {base : Heap}
theorem scDiff : FnScope ["bits", "received", "k"] ["bits", "received"] (defScope sDiff) := ⟨rfl, rfl, rfl, by decide +kernel, rfl, by decide +kernel, by decide +kernel⟩
theorem ok_diff {CR CF f : Addr} {fd : FuncData} (F : Fun K "differing" "differing" sDiff f fd) (T : Tx K mg CR CF) : FnOk P w K mg base CX0 1 f fd ["bits", "received"] spDiff := by
  refine F.ok scDiff (fun vs H Q E h => ?_) (fun cdv A outer s H vs Q E hr h => ?_)
  · obtain ⟨a, b, _, _, rfl, _⟩ := h
    rfl
  · obtain ⟨a, b, bits, part, rfl, ha, hb, hle, hsz, q⟩ := h
    refine ⟨_, pss_one (ps_ret (pe_callB call_len_seq (by rfl) T.len PySem.boot_len (pa_cons (pe_lc (own := [("k", 2)]) (g := gName 2) (by rfl) scDiff.nd
      (pi_range1 (by rfl) T.range (pa_cons (pe_callB call_len_seq (by rfl) T.len PySem.boot_len (pa_cons (pv 0) pa_nil)) pa_nil))
      (blkOk_by (own := [("k", 2)]) (N := ["bits", "received", "k"]) (sc := defScope sDiff) (by decide +kernel))
      (fun _ _ _ _ _ => pg_name (i := 2) scDiff.nd rfl (Or.inl rfl))
      (fun _ _ _ _ _ => pts_one (PW.pt (pw_and (pt_cmpR op_notN (pe_ix (ixL K) (pv 1) (pv 2) (fun _ _ => rfl)) pe_non (nomark _)) (pw_and1 (pt_cmpR op_ne (pe_ix (ixL K) (pv 1) (pv 2) (fun _ _ => rfl)) (pe_ix (ixL K) (pv 0) (pv 2) (fun _ _ => rfl)) (nomark _))))))
      (fun _ _ _ _ _ => pv 2)) pa_nil))), ?_⟩
    refine ⟨_, rfl, a, _, rfl, .inl (SqL.of ha), ?_⟩
    have hn : (bits.map V.int).length = bits.length := List.length_map ..
    have bn := wbnd (n := (bits.map V.int).length) (by omega)
    refine ⟨_, rfl, bn.1, bn.2, fun D hD => ?_⟩
    have nba : a ≠ D := ne_of_none ha hD
    have nbb : b ≠ D := ne_of_none hb hD
    refine lc_range (fun i H' => ∃ acc : List V, acc.length = costTo bits part i ∧ H' = upd H D (.lst acc)) ⟨[], rfl, rfl⟩ ?_ ?_
    · rintro i H' hi ⟨acc, hl, rfl⟩
      rw [Int.toNat_natCast, hn] at hi
      have hi2 : i < part.length := by omega
      have e1 : ((upd H D (.lst acc)) a) = some (.lst (bits.map V.int)) := by rw [upd_ne nba]; exact ha
      have e2 : ((upd H D (.lst acc)) b) = some (.lst (part.map ov)) := by rw [upd_ne nbb]; exact hb
      have g1 := List.getElem?_eq_getElem hi
      have g2 := List.getElem?_eq_getElem hi2
      have at2 : atI (part.map ov) ((0 : Int) + (i : Int)) = some (ov part[i]) := at_of (j := i) (by omega) (map_at g2)
      have at1 : atI (bits.map V.int) ((0 : Int) + (i : Int)) = some (V.int bits[i]) := at_of (j := i) (by omega) (map_at g1)
      have hc := costTo_le bits part i
      refine ⟨rfl, ?_⟩
      refine ⟨_, rfl, _, rfl, b, _, _, _, rfl, rfl, SqL.of e2, at2, rfl, _, rfl, ?_⟩
      cases hp : part[i] with
      | none =>
        refine iteF (iteF ⟨acc, ?_, rfl⟩)
        rw [costTo]
        have : diffAt bits part i = false := by unfold diffAt; rw [g2, g1, hp]
        rw [this, hl]; simp
      | some x =>
        refine iteT ?_
        refine ⟨_, rfl, _, rfl, b, _, _, _, rfl, rfl, SqL.of e2, at2, _, rfl, _, rfl, a, _, _, _, rfl, rfl, SqL.of e1, at1, ?_⟩
        rw [hp]
        refine ⟨rfl, _, rfl, ?_⟩
        by_cases hx : x = bits[i]
        · have ed : (!decide (ov (some x) = V.int bits[i])) = false := by
            rw [hx]; simp [ov]
          rw [ed]
          refine iteF ⟨acc, ?_, rfl⟩
          rw [costTo]
          have : diffAt bits part i = false := by unfold diffAt; rw [g2, g1, hp]; simp [hx]
          rw [this, hl]; simp
        · have ed : (!decide (ov (some x) = V.int bits[i])) = true := by
            simp [ov, hx]
          rw [ed]
          refine iteT ⟨_, rfl, acc, upd_same, szline (by omega), acc ++ [_], ?_, upd_upd⟩
          rw [costTo]
          have : diffAt bits part i = true := by unfold diffAt; rw [g2, g1, hp]; simp [hx]
          rw [this, List.length_append, hl]; simp
    · rintro H' ⟨acc, hl, rfl⟩
      refine ⟨D, acc, rfl, .inl (SqL.of upd_same), ?_⟩
      rw [Int.toNat_natCast, hn] at hl
      rw [hl]
      exact q _ (same_new hD)

theorem scCheck : FnScope ["v", "taps", "k"] ["v", "taps"] (defScope sCheck) := ⟨rfl, rfl, rfl, by decide +kernel, rfl, by decide +kernel, by decide +kernel⟩
theorem ok_check {CR CF f : Addr} {fd : FuncData} (F : Fun K "check_taps" "check_taps" sCheck f fd) (T : Tx K mg CR CF) : FnOk P w K mg base CX0 1 f fd ["v", "taps"] spCheck := by
  refine F.ok scCheck (fun vs H Q E h => ?_) (fun cdv A outer s H vs Q E hr h => ?_)
  · obtain ⟨v, a, _, rfl, _⟩ := h
    rfl
  · obtain ⟨v, a, taps, rfl, ha, ok, q⟩ := h
    refine ⟨_, pss_cons (ps_if (pt_not (pt_chain op_le op_le pe_int (pe_callB call_len_seq (by rfl) T.len PySem.boot_len (pa_cons (pv 1) pa_nil)) pe_int)) pss_never pss_nil)
      (pss_cons (ps_for PassesOwn.never rfl (pi_range1 (by rfl) T.range (pa_cons (pe_callB call_len_seq (by rfl) T.len PySem.boot_len (pa_cons (pv 1) pa_nil)) pa_nil)) (pg_name (i := 2) scCheck.nd rfl (.inl rfl))
        (pss_one (ps_if (pt_not (pt_chain op_le op_lt pe_int (pe_ix ix_list (pv 1) (pv 2) (fun _ _ => rfl)) (pe_op op_shl pe_int (pv 0)))) pss_never pss_nil)))
      (pss_one (ps_if (pt_cmpR op_eq (pe_callB (cr_max rfl) (by rfl) T.max (by decide +kernel) (pa_cons (pv 1) pa_nil)) pe_int (nomark _)) pss_never pss_nil))), ?_⟩
    have hn : (taps.map V.int).length = taps.length := List.length_map ..
    have h2 := ok.n2
    have h4 := ok.n4
    refine ⟨_, rfl, a, _, rfl, .inl (SqL.of ha), _, _, rfl, rfl, true, ?_, iteT ⟨_, _, rfl, rfl, true, ?_, iteF ?_⟩⟩
    · rw [hn]; exact congrArg V.bl (decide_eq_true (by omega))
    · rw [hn]; exact congrArg V.bl (decide_eq_true (by omega))
    have bn := wbnd (n := (taps.map V.int).length) (by omega)
    refine ⟨_, rfl, a, _, rfl, .inl (SqL.of ha), _, rfl, bn.1, bn.2, ?_⟩
    refine for_range (fun i σ H' => ∃ y, σ = [some (.int (v : Int)), some (.ref a), y] ∧ H' = H) ⟨none, rfl, rfl⟩ ?_ ?_
    · rintro i σ H' hi ⟨y, rfl, rfl⟩
      rw [Int.toNat_natCast, hn] at hi
      have g1 := List.getElem?_eq_getElem hi
      have at1 : atI (taps.map V.int) ((0 : Int) + (i : Int)) = some (V.int taps[i]) := at_of (j := i) (by omega) (map_at g1)
      have hr1 := ok.rng taps[i] (List.getElem_mem hi)
      have h5 := ok.v5
      refine ⟨_, rfl, _, rfl, a, _, _, _, rfl, rfl, SqL.of ha, at1, _, _, rfl, rfl, true, ?_, iteT ⟨_, rfl, _, _, rfl, rfl, ⟨by omega, by omega, by decide⟩, _, _, rfl, rfl, true, ?_, iteF ?_⟩⟩
      · exact congrArg V.bl (decide_eq_true hr1.1)
      · rw [pow2]; exact congrArg V.bl (decide_eq_true hr1.2)
      · exact ⟨_, rfl, rfl⟩
    · rintro σ H' ⟨y, rfl, rfl⟩
      obtain ⟨t, ht, hp⟩ := ok.pos
      refine ⟨_, rfl, a, taps, rfl, SqL.of ha, by omega, fun m hm hle => ?_⟩
      refine ⟨rfl, false, ?_, iteF q⟩
      have := hle t ht
      exact congrArg V.bl (decide_eq_false (by intro z; injection z with z; omega))

theorem scRInit : FnScope ["self", "v", "taps", "window", "tap"] ["self", "v", "taps"] (defScope sRInit) := ⟨rfl, rfl, rfl, by decide +kernel, rfl, by decide +kernel, by decide +kernel⟩
theorem ok_rinit {CR CF f fC fO : Addr} {fd fdC fdO : FuncData} (F : Fun K "__init__" "Register.__init__" sRInit f fd) (T : Tx K mg CR CF)
    (GC : FnOk P w K mg base CX0 1 fC fdC ["v", "taps"] spCheck) (bC : Binds K fdC ["v", "taps"] []) (gC : mg "check_taps" = some (.ref fC)) (kC : PySem.W.keepIn K (.ref fC) = true)
    (GO : FnOk P w K mg base CX0 1 fO fdO ["bits"] spOdd) (bO : Binds K fdO ["bits"] []) (gO : mg "is_odd" = some (.ref fO)) (kO : PySem.W.keepIn K (.ref fO) = true) :
    FnOk P w K mg base CX0 2 f fd ["self", "v", "taps"] (spRInit CR) := by
  refine F.ok scRInit (fun vs H Q E h => ?_) (fun cdv A outer s H vs Q E hr h => ?_)
  · obtain ⟨p, dx, a, v, taps, rfl, _⟩ := h
    rfl
  · obtain ⟨p, dx, a, v, taps, rfl, hp, ha, ok, q⟩ := h
    refine ⟨_, pss_cons (ps_if (pt_not (pt_chain op_le op_le pe_int (pv 1) pe_int)) pss_never pss_nil)
      (pss_cons (ps_expr (pe_call GC hr (by rfl) gC kC bC .nil pass0 (pa_cons (pv 1) (pa_cons (pv 2) pa_nil))))
      (pss_cons (ps_fld (pv 0) (pv 1) rfl)
      (pss_cons (ps_fld (pv 0) (pe_callTy call_list_of (by rfl) T.list (by decide +kernel) (pa_cons (pv 2) pa_nil)) rfl)
      (pss_one (ps_fld (pv 0) (pe_lc (own := [("window", 3)]) (g := gName 3) (by rfl) scRInit.nd
        (pi_range1 (by rfl) T.range (pa_cons (pe_op op_shl pe_int (pv 1)) pa_nil))
        (blkOk_by (own := [("window", 3)]) (N := ["self", "v", "taps", "window", "tap"]) (sc := defScope sRInit) (by decide +kernel))
        (fun _ _ _ _ _ => pg_name (i := 3) scRInit.nd rfl (Or.inr rfl)) (fun _ _ _ _ _ => pts_nil)
        (fun _ _ _ _ _ => pe_lc (own := [("tap", 4)]) (g := gName 4) (by rfl) scRInit.nd (piL K (pv 2))
          blkIn
          (fun _ _ _ _ _ => pg_name (i := 4) scRInit.nd rfl (Or.inl rfl)) (fun _ _ _ _ _ => pts_nil)
          (fun _ _ _ _ _ => pe_call GO hr (by rfl) gO kO bO .nil pass0 (pa_cons (pe_op op_and (pv 3) (pv 4)) pa_nil)))) rfl))))), ?_⟩
    have h1 := ok.v1
    have h5 := ok.v5
    refine ⟨_, rfl, _, _, rfl, rfl, true, congrArg V.bl (decide_eq_true (by omega)), iteT ⟨_, _, rfl, rfl, true, congrArg V.bl (decide_eq_true (by omega)), iteF ?_⟩⟩
    refine ⟨_, rfl, _, rfl, v, a, taps, rfl, ha, ok, ?_⟩
    -- self._v = v
    refine ⟨_, rfl, _, rfl, p, CR, dx, [], rfl, hp, T.clR, T.rV, (by show 0 < 1000; decide), ?_⟩
    -- self._taps = list(taps)
    have nap : a ≠ p := ne_of ha hp (by intro z; cases z)
    refine ⟨_, rfl, a, _, rfl, .inl (SqL.of (by rw [upd_ne nap]; exact ha)), fun l hl => ?_⟩
    have npl : p ≠ l := by
      intro z
      rw [← z, upd_same] at hl
      cases hl
    have hl0 : H l = none := by rw [upd_ne (Ne.symm npl)] at hl; exact hl
    refine ⟨_, rfl, p, CR, dx, _, rfl, by rw [upd_ne npl]; exact upd_same, T.clR, T.rT, (by show 1 < 1000; decide), ?_⟩
    generalize hH2 : upd (upd (upd H p (.ins CR dx (putF "_v" (.int (v : Int)) []))) l (.lst (taps.map V.int))) p (.ins CR dx (putF "_taps" (.ref l) (putF "_v" (.int (v : Int)) []))) = H2
    have f2 : H2 p = some (.ins CR dx [("_v", .int (v : Int)), ("_taps", .ref l)]) := by rw [← hH2]; exact upd_same
    have s2 : SameX p H H2 := fun b o n e => by
      rw [← hH2, upd_ne n, upd_ne (ne_of_none e hl0), upd_ne n]; exact e
    have l2 : IL H2 l taps := by
      unfold IL
      rw [← hH2, upd_ne (Ne.symm npl)]; exact upd_same
    have a2 : IL H2 a taps := s2 _ _ nap ha
    -- self._rows
    have hM := ok.pow
    have bn := wbnd (n := 2 * 2 ^ v) (by omega)
    refine ⟨_, rfl, _, _, rfl, rfl, ⟨by omega, by omega, by decide⟩, _, rfl, by rw [pow2]; exact bn.1, by rw [pow2]; exact bn.2, fun D hD => ?_⟩
    refine lc_range (fun i H' => ∃ vs, H' D = some (.lst vs) ∧ A2 (RL (hid H' D)) vs ((tab v taps).take i) ∧ Same H2 H' ∧ vs.length = i) ⟨[], upd_same, by simp; exact A2.nil, same_new hD, rfl⟩ ?_ ?_
    · rintro i H' hi ⟨vs, hv, h2, sm, hvl⟩
      have hi' : i < 2 * 2 ^ v := by
        have e := pow2 v
        rw [e, Int.toNat_natCast] at hi
        exact hi
      refine ⟨rfl, ?_⟩
      refine tyesI ?_
      refine ⟨_, rfl, a, rfl, ⟨_, SqL.of (sm _ _ a2)⟩, fun D2 hD2 => ?_⟩
      have nDa : a ≠ D2 := ne_of_none (sm _ _ a2) hD2
      have nDD : D ≠ D2 := ne_of_none hv hD2
      refine lc_list (K := K) (a := a) (xs := taps.map V.int) (fun j H3 => H3 = upd H' D2 (.lst (((taps.map fun t => ((par (i &&& t.toNat) : Nat) : Int)).take j).map V.int))) (by simp) (fun j H3 _ e => ?_) ?_ ?_
      · rw [e]; exact SqL.of (by rw [upd_ne nDa]; exact sm _ _ a2)
      · rintro j x H3 hx rfl
        obtain ⟨t, ht, rfl⟩ := of_map hx
        have htm : t ∈ taps := List.mem_of_getElem? ht
        have hr1 := ok.rng t htm
        refine ⟨rfl, tyesI ?_⟩
        refine ⟨_, rfl, _, rfl, _, _, rfl, rfl, i &&& t.toNat, ?_, ?_, ?_⟩
        · have e1 : ((t.toNat : Nat) : Int) = t := by omega
          have := and_nat i t.toNat
          rw [e1] at this
          show [V.int (Builtin.bitAnd ((0 : Int) + (i : Int)) t)] = _
          rw [Int.zero_add, this]
        · have := Nat.and_le_left (n := i) (m := t.toNat)
          omega
        · have hj : j < taps.length := (List.getElem?_eq_some_iff.mp ht).1
          have h4 := ok.n4
          refine ⟨_, upd_same, szline (by simp; omega), ?_⟩
          rw [upd_upd, List.take_add_one, List.map_append, List.getElem?_map, ht]
          rfl
      · rintro H3 rfl
        refine ⟨vs, by rw [upd_ne nDD]; exact hv, szline (by omega), ?_⟩
        refine ⟨_, upd_same, ?_, ?_, by simp [hvl]⟩
        · rw [hid_upd, hid_new (Ne.symm nDD), List.take_add_one, tab_at hi']
          refine A2.snoc (h2.imp fun x y z => z.kd (kd (same_new (hid_none hD2)))) ⟨D2, rfl, ?_⟩
          unfold IL
          rw [upd_same, List.length_map, List.take_of_length_le (by simp)]
        · intro b o e
          rw [upd_ne (ne_of_none e hD), upd_ne (ne_of_none (sm _ _ e) hD2)]
          exact sm _ _ e
    · rintro H' ⟨vs, hv, h2, sm, hvl⟩
      have e := pow2 v
      rw [e, Int.toNat_natCast, List.take_of_length_le (by rw [tab_len]; omega)] at h2
      have npD : p ≠ D := ne_of_none f2 hD
      refine ⟨_, rfl, p, CR, dx, _, rfl, sm _ _ f2, T.clR, T.rR, (by show 2 < 1000; decide), ?_⟩
      have f3 : H' p = some (.ins CR dx [("_v", .int (v : Int)), ("_taps", .ref l)]) := sm _ _ f2
      refine q _ ?_ ⟨dx, l, D, upd_same, ?_, ?_, ok⟩
      · exact (s2.trans (sx sm)).trans sx_upd
      · exact (SameX.kd (sx_upd (p := p)) f3).l _ _ (sm _ _ l2)
      · exact (TL.kd (SameX.kd (sx_upd (p := p)) f3) ⟨vs, hv, h2.imp fun x y z => z.kd (kd hid_same)⟩)
end
end Fh
namespace Fh
open PySem PySem.Spec PyProof.Rows L2

abbrev sAllowed : Stmt := top 13
abbrev sCountOf : Stmt := top 16
abbrev sTurnPrice : Stmt := top 17
abbrev sPaper : Stmt := top 18
abbrev sThrough : Stmt := top 19
abbrev sChecked : Stmt := top 20
abbrev sMend : Stmt := top 21

abbrev LY (v : Nat) (taps : List Int) (R : List (Option Int)) (count j : Nat) : List (Option Int) := lay (nxt v) (wR v taps R) (count + v) count (2 ^ v) j
abbrev PA (v : Nat) (taps : List Int) (R : List (Option Int)) (count i : Nat) : List (List (Option Int)) := (List.range (i + 1)).map fun k => LY v taps R count (i - k)
theorem PA_succ (v taps R count i) : PA v taps R count (i + 1) = LY v taps R count (i + 1) :: PA v taps R count i := by
  unfold PA
  rw [List.range_succ_eq_map, List.map_cons, List.map_map]
  congr 1
  refine List.map_congr_left fun k _ => ?_
  show LY v taps R count (i + 1 - (k + 1)) = _
  rw [Nat.add_sub_add_right]
theorem PA_at {v taps R count i t} (h : t ≤ i) : (PA v taps R count i)[t]? = some (LY v taps R count (i - t)) := by
  unfold PA
  rw [List.getElem?_map, List.getElem?_range (by omega)]
  rfl
theorem LY_len {v taps R count j} : (LY v taps R count j).length = 2 ^ v := lay_len _ _ _ _ _ (Nat.pow_pos (by decide)) j
/-- the row that was received -/
structure RowA (H : Hp) (b : Addr) (R : List (Option Int)) (v : Nat) (taps : List Int) (count : Nat) : Prop where
  h : OL H b R
  n : R.length = (count + v) * taps.length
  c : count ≤ 100
theorem RowA.kd {H H' : Hp} {b R v taps count} (k : KD H H') (r : RowA H b R v taps count) : RowA H' b R v taps count := ⟨r.h.kd k, r.n, r.c⟩

def spAllowed : Sp := fun vs H Q _ => ∃ t c : Nat, vs = [.int (t : Int), .int (c : Int)] ∧ ∀ p, H p = none → Q (.ref p) (upd H p (.tup (if t < c then [.int 0, .int 1] else [.int 0])))
def spCountOf (CR : Addr) : Sp := fun vs H Q _ => ∃ (r b : Addr) (v : Nat) (taps : List Int) (R : List (Option Int)) (count : Nat), vs = [.ref r, .ref b] ∧ RegAt CR H r v taps ∧ RowA H b R v taps count ∧ ∀ H', Same H H' → Q (.int (count : Int)) H'
def spTurnPrice (CR : Addr) : Sp := fun vs H Q _ => ∃ (r b : Addr) (v : Nat) (taps : List Int) (R : List (Option Int)) (count t s c : Nat), vs = [.ref r, .ref b, .int (t : Int), .int (s : Int), .int (c : Int)] ∧
  RegAt CR H r v taps ∧ RowA H b R v taps count ∧ t < count + v ∧ s < 2 ^ v ∧ c < 2 ∧ ∀ H', Same H H' → Q (.int (wR v taps R t s c)) H'
def spThrough (CR : Addr) : Sp := fun vs H Q _ => ∃ (r b a : Addr) (v : Nat) (taps : List Int) (R : List (Option Int)) (count t s c : Nat) (ls : List (List (Option Int))) (ly : List (Option Int)) (o : Option Int),
  vs = [.ref r, .ref b, .ref a, .int (t : Int), .int (s : Int), .int (c : Int)] ∧
  RegAt CR H r v taps ∧ RowA H b R v taps count ∧ PP H a ls ∧ ls[t + 1]? = some ly ∧ ly[nxt v s c]? = some o ∧ t < count + v ∧ s < 2 ^ v ∧ c < 2 ∧ ∀ H', Same H H' → Q (ov (o.map fun r => r + wR v taps R t s c)) H'
def spPaper (CR : Addr) : Sp := fun vs H Q _ => ∃ (r b : Addr) (v : Nat) (taps : List Int) (R : List (Option Int)) (count : Nat), vs = [.ref r, .ref b, .int (count : Int)] ∧ RegAt CR H r v taps ∧ RowA H b R v taps count ∧
  ∀ H' p, Same H H' → PP H' p (PA v taps R count (count + v)) → Q (.ref p) H'
def spMend (CR : Addr) : Sp := fun vs H Q _ => ∃ (r b : Addr) (v : Nat) (taps : List Int) (R : List (Option Int)) (count : Nat), vs = [.ref r, .ref b] ∧ RegAt CR H r v taps ∧ RowA H b R v taps count ∧
  ∀ H' t m p, Same H H' → H' t = some (.tup [.ref m, ov (P0 v count (wR v taps R)), .ref p]) → IL H' m ((GR v count (wR v taps R)).take count) → Q (.ref t) H'

theorem PP.at_ {H : Hp} {a : Addr} {ls : List (List (Option Int))} (h : PP H a ls) : ∃ vs, H a = some (.lst vs) ∧ ∀ (t : Nat) ly, ls[t]? = some ly → ∃ c, vs[t]? = some (.ref c) ∧ OL H c ly := by
  obtain ⟨vs, e, q⟩ := h
  refine ⟨vs, e, fun t ly hl => ?_⟩
  obtain ⟨x, hx, c, rfl, hc⟩ := q.at_ hl
  exact ⟨c, hx, hc⟩

section
variable {P : Program} {w : World} {K : PySem.W.Frag} {mg : Str → Option Value} {base : Heap}
theorem scAllowed : FnScope ["step", "count"] ["step", "count"] (defScope sAllowed) := ⟨rfl, rfl, rfl, by decide +kernel, rfl, by decide +kernel, by decide +kernel⟩
theorem ok_allowed {f : Addr} {fd : FuncData} (F : Fun K "allowed" "allowed" sAllowed f fd) : FnOk P w K mg base CX0 1 f fd ["step", "count"] spAllowed := by
  refine F.ok scAllowed (fun vs H Q E h => ?_) (fun cdv A outer s H vs Q E hr h => ?_)
  · obtain ⟨t, c, rfl, _⟩ := h
    rfl
  · obtain ⟨t, c, rfl, q⟩ := h
    refine ⟨_, pss_one (ps_ret (pe_ifExp (pt_cmpR op_lt (pv 0) (pv 1) (nomark _)) (pe_tup (pa_cons pe_int (pa_cons pe_int pa_nil))) (pe_tup (pa_cons pe_int pa_nil)))), ?_⟩
    refine ⟨_, rfl, _, rfl, _, _, rfl, rfl, _, rfl, ite2 (fun h => ?_) (fun h => ?_)⟩
    · have h' : t < c := by have := of_decide_eq_true h; omega
      refine ⟨by show 2 ≤ sizeLine; decide, fun p hp => ?_⟩
      have := q p hp
      rw [if_pos h'] at this
      exact this
    · have h' : ¬ t < c := fun z => h (decide_eq_true (by omega))
      refine ⟨by show 1 ≤ sizeLine; decide, fun p hp => ?_⟩
      have := q p hp
      rw [if_neg h'] at this
      exact this

theorem scCountOf : FnScope ["shift_register", "received", "many", "steps"] ["shift_register", "received"] (defScope sCountOf) := ⟨rfl, rfl, rfl, by decide +kernel, rfl, by decide +kernel, by decide +kernel⟩
theorem ok_countof {CR CF f fM fT : Addr} {fd fdM fdT : FuncData} (F : Fun K "count_of" "count_of" sCountOf f fd) (T : Tx K mg CR CF)
    (GM : FnOk P w K mg base CX0 1 fM fdM ["self"] (spMemory CR)) (bM : Binds K fdM ["self"] []) (mM : Meth K CR "memory" fM)
    (GT : FnOk P w K mg base CX0 1 fT fdT ["self"] (spTaps CR)) (bT : Binds K fdT ["self"] []) (mT : Meth K CR "taps" fT) : FnOk P w K mg base CX0 2 f fd ["shift_register", "received"] (spCountOf CR) := by
  refine F.ok scCountOf (fun vs H Q E h => ?_) (fun cdv A outer s H vs Q E hr h => ?_)
  · obtain ⟨r, b, _, _, _, _, rfl, _⟩ := h
    rfl
  · obtain ⟨r, b, v, taps, R, count, rfl, RR, rw', q⟩ := h
    refine ⟨_, pss_cons (ps_set (i := 2) scCountOf.nd rfl (.inl rfl) (pe_callB call_len_seq (by rfl) T.len PySem.boot_len (pa_cons (pe_meth0 (pv 0) T.clR mT GT hr bT .nil pass0) pa_nil)))
      (pss_cons (ps_set (i := 3) scCountOf.nd rfl (.inl rfl) (pe_op op_fdiv (pe_callB call_len_seq (by rfl) T.len PySem.boot_len (pa_cons (pv 1) pa_nil)) (pv 2)))
      (pss_cons (ps_if (pt_cmpR op_ne (pe_op op_mul (pv 3) (pv 2)) (pe_callB call_len_seq (by rfl) T.len PySem.boot_len (pa_cons (pv 1) pa_nil)) (nomark _)) pss_never pss_nil)
      (pss_one (ps_ret (pe_callB (call_max2 rfl) (by rfl) T.max (by decide +kernel) (pa_cons (pe_un un_neg pe_int) (pa_cons (pe_op op_sub (pv 3) (pe_meth0 (pv 0) T.clR mM GM hr bM .nil pass0)) pa_nil))))))), ?_⟩
    have R0 := RR
    obtain ⟨dx, at_, ar, g⟩ := R0
    have h2 := g.ok.n2
    have h4 := g.ok.n4
    have h5 := g.ok.v5
    have hc := rw'.c
    refine ⟨_, rfl, r, dx, _, rfl, g.h, rfl, r, v, taps, rfl, RR, fun p hp => ?_⟩
    have sm : Same H (upd H p (.lst (taps.map V.int))) := same_new hp
    have R1 := RR.same sm
    have r1 := rw'.kd (kd sm)
    refine ⟨p, _, rfl, .inl (SqL.of upd_same), ?_⟩
    refine ⟨_, rfl, b, _, rfl, .inl (SqL.of r1.h), _, rfl, _, _, rfl, rfl, ⟨by rw [List.length_map]; omega, by rw [List.length_map]; omega⟩, ?_⟩
    have ed : (((R.map ov).length : Nat) : Int) / (((taps.map V.int).length : Nat) : Int) = ((count + v : Nat) : Int) := by
      rw [List.length_map, List.length_map, rw'.n]
      rw [Int.natCast_mul, Int.mul_ediv_cancel _ (by omega)]
    refine ⟨_, rfl, _, rfl, _, _, rfl, rfl, ?_, _, rfl, b, _, rfl, .inl (SqL.of r1.h), rfl, false, ?_, iteF ?_⟩
    · rw [ed]; exact .inl ⟨by omega, by omega⟩
    · rw [ed]
      have : ((count + v : Nat) : Int) * (((taps.map V.int).length : Nat) : Int) = (((R.map ov).length : Nat) : Int) := by
        rw [List.length_map, List.length_map, rw'.n, Int.natCast_mul]
      show V.bl (!decide (V.int _ = V.int _)) = _
      rw [this]; simp
    · obtain ⟨dx', at', ar', g'⟩ := id R1
      refine ⟨_, rfl, _, rfl, _, rfl, r, dx', _, rfl, g'.h, rfl, r, v, taps, rfl, R1, ?_⟩
      refine ⟨_, _, rfl, rfl, _, _, rfl, ?_⟩
      rw [ed]
      refine qi ?_ (q _ sm)
      rw [if_pos (by omega)]
      omega

theorem scTurnPrice : FnScope ["shift_register", "received", "step", "state", "bit", "many"] ["shift_register", "received", "step", "state", "bit"] (defScope sTurnPrice) := ⟨rfl, rfl, rfl, by decide +kernel, rfl, by decide +kernel, by decide +kernel⟩
theorem ok_turnprice {CR CF f fT fO fD : Addr} {fd fdT fdO fdD : FuncData} (F : Fun K "turn_price" "turn_price" sTurnPrice f fd) (T : Tx K mg CR CF)
    (GT : FnOk P w K mg base CX0 1 fT fdT ["self"] (spTaps CR)) (bT : Binds K fdT ["self"] []) (mT : Meth K CR "taps" fT)
    (GO : FnOk P w K mg base CX0 1 fO fdO ["self", "state", "bit"] (spOut CR)) (bO : Binds K fdO ["self", "state", "bit"] []) (mO : Meth K CR "out" fO)
    (GD : FnOk P w K mg base CX0 1 fD fdD ["bits", "received"] spDiff) (bD : Binds K fdD ["bits", "received"] []) (gD : mg "differing" = some (.ref fD)) (kD : PySem.W.keepIn K (.ref fD) = true) :
    FnOk P w K mg base CX0 2 f fd ["shift_register", "received", "step", "state", "bit"] (spTurnPrice CR) := by
  refine F.ok scTurnPrice (fun vs H Q E h => ?_) (fun cdv A outer s H vs Q E hr h => ?_)
  · obtain ⟨r, b, _, _, _, _, _, _, _, rfl, _⟩ := h
    rfl
  · obtain ⟨r, b, v, taps, R, count, t, st, c, rfl, RR, rw', ht, hs, hc, q⟩ := h
    refine ⟨_, pss_cons (ps_set (i := 5) scTurnPrice.nd rfl (.inl rfl) (pe_callB call_len_seq (by rfl) T.len PySem.boot_len (pa_cons (pe_meth0 (pv 0) T.clR mT GT hr bT .nil pass0) pa_nil)))
      (pss_one (ps_ret (pe_call GD hr (by rfl) gD kD bD .nil pass0 (pa_cons (pe_meth (pv 0) T.clR mO GO hr bO .nil pass0 (pa_cons (pv 3) (pa_cons (pv 4) pa_nil)))
        (pa_cons (pe_slice sl_list (pv 1) (po_some (pe_op op_mul (pv 2) (pv 5))) (po_some (pe_op op_add (pe_op op_mul (pv 2) (pv 5)) (pv 5)))) pa_nil))))), ?_⟩
    have R0 := RR
    obtain ⟨dx, at_, ar, g⟩ := R0
    have h2 := g.ok.n2
    have h4 := g.ok.n4
    have h5 := g.ok.v5
    have hcc := rw'.c
    refine ⟨_, rfl, r, dx, _, rfl, g.h, rfl, r, v, taps, rfl, RR, fun p hp => ?_⟩
    have sm : Same H (upd H p (.lst (taps.map V.int))) := same_new hp
    have R1 := RR.same sm
    have r1 := rw'.kd (kd sm)
    refine ⟨p, _, rfl, .inl (SqL.of upd_same), ?_⟩
    obtain ⟨dx', at', ar', g'⟩ := id R1
    have hw : c + 2 * st < 2 * 2 ^ v := by omega
    refine ⟨_, rfl, r, dx', _, rfl, g'.h, rfl, _, rfl, _, rfl, r, v, taps, st, c, rfl, R1, hs, hc, fun p2 hp2 => ?_⟩
    have sm2 := same_new (o := .lst ((rowAt v taps (c + 2 * st)).map V.int)) hp2
    have r2 := r1.kd (kd sm2)
    refine ⟨_, rfl, _, rfl, _, rfl, _, _, rfl, rfl, .inl ⟨by omega, by omega⟩, _, rfl, _, rfl, _, rfl, _, _, rfl, rfl, .inl ⟨by omega, by omega⟩, _, rfl, _, _, rfl, rfl, _, rfl, b, _, rfl, SqL.of r2.h, fun p3 hp3 => ?_⟩
    have hn : (taps.map V.int).length = taps.length := List.length_map ..
    have sm3 := same_new (o := .lst (cutV (R.map ov) (some ((t : Int) * (((taps.map V.int).length : Nat) : Int))) (some ((t : Int) * (((taps.map V.int).length : Nat) : Int) + (((taps.map V.int).length : Nat) : Int))))) hp3
    have ecut : cutV (R.map ov) (some ((t : Int) * (((taps.map V.int).length : Nat) : Int))) (some ((t : Int) * (((taps.map V.int).length : Nat) : Int) + (((taps.map V.int).length : Nat) : Int))) = (slc R (t * taps.length) (t * taps.length + taps.length)).map ov := by
      rw [hn]
      have e1 : (t : Int) * (taps.length : Int) = ((t * taps.length : Nat) : Int) := (Int.natCast_mul _ _).symm
      rw [e1, ← Int.natCast_add, cut_nat]
      unfold slc
      rw [List.map_take, List.map_drop]
    have hl := rowAt_len (taps := taps) hw
    have hle : t * taps.length + taps.length ≤ R.length := by
      rw [rw'.n]
      have := Nat.mul_le_mul_right taps.length (show t + 1 ≤ count + v by omega)
      rw [Nat.succ_mul] at this
      exact this
    have hsl := slc_len (R := R) (show t * taps.length ≤ t * taps.length + taps.length by omega) hle
    refine ⟨p2, p3, rowAt v taps (c + 2 * st), slc R (t * taps.length) (t * taps.length + taps.length), rfl, ?_, ?_, by rw [hl, hsl]; omega, by omega, fun H' sm4 => q H' (((sm.trans sm2).trans sm3).trans sm4)⟩
    · exact IL.kd (kd sm3) (show IL _ p2 _ from upd_same)
    · show (upd _ p3 _) p3 = _
      rw [upd_same, ecut]

theorem scThrough : FnScope ["shift_register", "received", "paper", "step", "state", "bit", "rest"] ["shift_register", "received", "paper", "step", "state", "bit"] (defScope sThrough) := ⟨rfl, rfl, rfl, by decide +kernel, rfl, by decide +kernel, by decide +kernel⟩
theorem ok_through {CR CF f fN fT : Addr} {fd fdN fdT : FuncData} (F : Fun K "through" "through" sThrough f fd) (T : Tx K mg CR CF)
    (GN : FnOk P w K mg base CX0 1 fN fdN ["self", "state", "bit"] (spNext CR)) (bN : Binds K fdN ["self", "state", "bit"] []) (mN : Meth K CR "next_state" fN)
    (GT : FnOk P w K mg base CX0 2 fT fdT ["shift_register", "received", "step", "state", "bit"] (spTurnPrice CR)) (bT : Binds K fdT ["shift_register", "received", "step", "state", "bit"] []) (gT : mg "turn_price" = some (.ref fT)) (kT : PySem.W.keepIn K (.ref fT) = true) :
    FnOk P w K mg base CX0 3 f fd ["shift_register", "received", "paper", "step", "state", "bit"] (spThrough CR) := by
  refine F.ok scThrough (fun vs H Q E h => ?_) (fun cdv A outer s H vs Q E hr h => ?_)
  · obtain ⟨r, b, a, _, _, _, _, _, _, _, _, _, _, rfl, _⟩ := h
    rfl
  · obtain ⟨r, b, a, v, taps, R, count, t, st, c, ls, ly, o, rfl, RR, rw', hP, h1, h2, ht, hs, hc, q⟩ := h
    have hr1 : Room 1 _ := hr.mono (by decide)
    refine ⟨_, pss_cons (ps_set (i := 6) scThrough.nd rfl (.inl rfl) (pe_ix ix_list (pe_ix ix_list (pv 2) (pe_op op_add (pv 3) pe_int) (fun _ _ => rfl)) (pe_meth (pv 0) T.clR mN GN hr1 bN .nil pass0 (pa_cons (pv 4) (pa_cons (pv 5) pa_nil))) (fun _ _ => rfl)))
      (pss_one (ps_ret (pe_ifExp (pt_cmpR op_isN (pv 6) pe_non (nomark _)) pe_non (pe_op op_add (pv 6) (pe_call GT hr (by rfl) gT kT bT .nil pass0 (pa_cons (pv 0) (pa_cons (pv 1) (pa_cons (pv 3) (pa_cons (pv 4) (pa_cons (pv 5) pa_nil)))))))))), ?_⟩
    obtain ⟨dx, at_, ar, g⟩ := id RR
    obtain ⟨vs, hv, hat⟩ := hP.at_
    obtain ⟨y, hy, hyl⟩ := hat _ _ h1
    refine ⟨_, rfl, _, rfl, _, _, rfl, rfl, a, vs, _, _, rfl, rfl, SqL.of hv, at_of (j := t + 1) (by simp) hy, ?_⟩
    refine ⟨_, rfl, r, dx, _, rfl, g.h, rfl, _, rfl, _, rfl, r, v, taps, st, c, rfl, RR, ?_⟩
    refine ⟨y, _, _, _, rfl, rfl, SqL.of hyl, atI_nat (map_at h2), ?_⟩
    cases o with
    | none => exact ⟨_, rfl, rfl, _, rfl, iteT (q H (Same.refl H))⟩
    | some z =>
      refine ⟨_, rfl, rfl, false, rfl, iteF ?_⟩
      refine ⟨_, rfl, _, rfl, _, rfl, _, rfl, _, rfl, _, rfl, r, b, v, taps, R, count, t, st, c, rfl, RR, rw', ht, hs, hc, fun H' sm => ?_⟩
      exact ⟨_, _, rfl, rfl, q H' sm⟩

theorem scChecked : FnScope ["shift_register", "received", "count"] ["shift_register", "received"] (defScope sChecked) := ⟨rfl, rfl, rfl, by decide +kernel, rfl, by decide +kernel, by decide +kernel⟩
theorem ok_checked {CR CF f fC : Addr} {fd fdC : FuncData} (F : Fun K "checked_count" "checked_count" sChecked f fd) (T : Tx K mg CR CF)
    (GC : FnOk P w K mg base CX0 2 fC fdC ["shift_register", "received"] (spCountOf CR)) (bC : Binds K fdC ["shift_register", "received"] []) (gC : mg "count_of" = some (.ref fC)) (kC : PySem.W.keepIn K (.ref fC) = true) :
    FnOk P w K mg base CX0 3 f fd ["shift_register", "received"] (spCountOf CR) := by
  refine F.ok scChecked (fun vs H Q E h => ?_) (fun cdv A outer s H vs Q E hr h => ?_)
  · obtain ⟨r, b, _, _, _, _, rfl, _⟩ := h
    rfl
  · obtain ⟨r, b, v, taps, R, count, rfl, RR, rw', q⟩ := h
    refine ⟨_, pss_cons (ps_set (i := 2) scChecked.nd rfl (.inl rfl) (pe_call GC hr (by rfl) gC kC bC .nil pass0 (pa_cons (pv 0) (pa_cons (pv 1) pa_nil))))
      (pss_cons (ps_if (pt_cmpR op_lt (pv 2) pe_int (nomark _)) pss_never pss_nil)
      (pss_one (ps_ret (pv 2)))), ?_⟩
    refine ⟨_, rfl, _, rfl, r, b, v, taps, R, count, rfl, RR, rw', fun H' sm => ?_⟩
    refine ⟨_, rfl, _, _, rfl, rfl, false, congrArg V.bl (decide_eq_false (by omega)), iteF ?_⟩
    exact ⟨_, rfl, q H' sm⟩
end
end Fh
namespace Fh
open PySem PySem.Spec PyProof.Rows L2

/-- what `found` holds behind k of the allowed bits -/
def fPart (v : Nat) (w : Nat → Nat → Nat → Int) (t : Nat) (prev : List (Option Int)) (s b : Nat) : List Int :=
  match (prev[nxt v s b]?).join with
  | some r => [w t s b + r]
  | none => []
def fTo (v : Nat) (w : Nat → Nat → Nat → Int) (t : Nat) (prev : List (Option Int)) (s : Nat) : Nat → List Int
  | 0 => []
  | k + 1 => fTo v w t prev s k ++ fPart v w t prev s k
theorem fTo_found (v : Nat) (w) (count t : Nat) (prev : List (Option Int)) (s : Nat) : fTo v w t prev s (if t < count then 2 else 1) = foundL (nxt v) w count t prev s := by
  unfold foundL
  by_cases h : t < count
  · rw [if_pos h, if_pos h]
    simp only [fTo, fPart, List.nil_append] <;> rfl
  · rw [if_neg h, if_neg h]
    simp only [fTo, fPart, List.nil_append, List.append_nil] <;> rfl
theorem fPart_len (v w t prev s b) : (fPart v w t prev s b).length ≤ 1 := by
  unfold fPart
  split <;> simp
theorem fTo_len (v w t prev s) : ∀ k, (fTo v w t prev s k).length ≤ k
  | 0 => Nat.le_refl _
  | k + 1 => by
    have := fTo_len v w t prev s k
    have := fPart_len v w t prev s k
    rw [fTo, List.length_append]
    omega
theorem layF_at {v : Nat} {w} {count t : Nat} {prev : List (Option Int)} {s : Nat} (h : s < 2 ^ v) : (layF (nxt v) w count (2 ^ v) t prev)[s]? = some ((foundL (nxt v) w count t prev s).min?) := by
  unfold layF
  rw [List.getElem?_map, List.getElem?_range h]
  rfl
theorem min_eq {ns : List Int} {m : Int} (h1 : m ∈ ns) (h2 : ∀ y ∈ ns, m ≤ y) : ns.min? = some m := min_iff.mpr ⟨h1, h2⟩

section
variable {P : Program} {w : World} {K : PySem.W.Frag} {mg : Str → Option Value} {base : Heap}
theorem scPaper : FnScope ["shift_register", "received", "count", "size", "paper", "step", "layer", "state", "found", "bit", "rest"] ["shift_register", "received", "count"] (defScope sPaper) := ⟨rfl, rfl, rfl, by decide +kernel, rfl, by decide +kernel, by decide +kernel⟩
theorem ok_paper {CR CF f fS fM fA fN fT : Addr} {fd fdS fdM fdA fdN fdT : FuncData} (F : Fun K "path_paper" "path_paper" sPaper f fd) (T : Tx K mg CR CF)
    (GS : FnOk P w K mg base CX0 2 fS fdS ["shift_register"] (spStates CR)) (bS : Binds K fdS ["shift_register"] []) (gS : mg "states_of" = some (.ref fS)) (kS : PySem.W.keepIn K (.ref fS) = true)
    (GM : FnOk P w K mg base CX0 1 fM fdM ["self"] (spMemory CR)) (bM : Binds K fdM ["self"] []) (mM : Meth K CR "memory" fM)
    (GA : FnOk P w K mg base CX0 1 fA fdA ["step", "count"] spAllowed) (bA : Binds K fdA ["step", "count"] []) (gA : mg "allowed" = some (.ref fA)) (kA : PySem.W.keepIn K (.ref fA) = true)
    (GN : FnOk P w K mg base CX0 1 fN fdN ["self", "state", "bit"] (spNext CR)) (bN : Binds K fdN ["self", "state", "bit"] []) (mN : Meth K CR "next_state" fN)
    (GT : FnOk P w K mg base CX0 2 fT fdT ["shift_register", "received", "step", "state", "bit"] (spTurnPrice CR)) (bT : Binds K fdT ["shift_register", "received", "step", "state", "bit"] []) (gT : mg "turn_price" = some (.ref fT)) (kT : PySem.W.keepIn K (.ref fT) = true) :
    FnOk P w K mg base CX0 3 f fd ["shift_register", "received", "count"] (spPaper CR) := by
  refine F.ok scPaper (fun vs H Q E h => ?_) (fun cdv A outer s H vs Q E hr h => ?_)
  · obtain ⟨r, b, _, _, _, _, rfl, _⟩ := h
    rfl
  · obtain ⟨r, b, v, taps, R, count, rfl, RR, rw', q⟩ := h
    have hr1 : Room 1 _ := hr.mono (by decide)
    refine ⟨_, pss_cons (ps_set (i := 3) scPaper.nd rfl (.inl rfl) (pe_call GS hr (by rfl) gS kS bS .nil pass0 (pa_cons (pv 0) pa_nil)))
      (pss_cons (ps_set (i := 4) scPaper.nd rfl (.inl rfl) (pe_lst (pa_cons (pe_op op_cat (pe_lst (pa_cons pe_int pa_nil)) (pe_op op_rep (pe_lst (pa_cons pe_non pa_nil)) (pe_op op_sub (pv 3) pe_int))) pa_nil)))
      (pss_cons (ps_for PassesOwn.never rfl (pi_range3 (by rfl) T.range (pa_cons (pe_op op_sub (pe_op op_add (pv 2) (pe_meth0 (pv 0) T.clR mM GM hr1 bM .nil pass0)) pe_int) (pa_cons (pe_un un_neg pe_int) (pa_cons (pe_un un_neg pe_int) pa_nil)))) (pg_name (i := 5) scPaper.nd rfl (.inl rfl))
        (pss_cons (ps_set (i := 6) scPaper.nd rfl (.inl rfl) (pe_lst pa_nil))
        (pss_cons (ps_for PassesOwn.never rfl (pi_range1 (by rfl) T.range (pa_cons (pv 3) pa_nil)) (pg_name (i := 7) scPaper.nd rfl (.inl rfl))
          (pss_cons (ps_set (i := 8) scPaper.nd rfl (.inl rfl) (pe_lst pa_nil))
          (pss_cons (ps_for PassesOwn.never rfl (pi_tup (pe_call GA hr1 (by rfl) gA kA bA .nil pass0 (pa_cons (pv 5) (pa_cons (pv 2) pa_nil)))) (pg_name (i := 9) scPaper.nd rfl (.inl rfl))
            (pss_cons (ps_set (i := 10) scPaper.nd rfl (.inl rfl) (pe_ix ix_list (pe_ix ix_list (pv 4) pe_int (fun _ _ => rfl)) (pe_meth (pv 0) T.clR mN GN hr1 bN .nil pass0 (pa_cons (pv 7) (pa_cons (pv 9) pa_nil))) (fun _ _ => rfl)))
            (pss_one (ps_if (pt_cmpR op_notN (pv 10) pe_non (nomark _))
              (pss_one (ps_expr (pe_bm PySem.F.plainAttrs_list PySem.F.slot_list_append PySem.F.type_list_append mt_append (pv 8) (pa_cons (pe_op op_add (pe_call GT hr (by rfl) gT kT bT .nil pass0 (pa_cons (pv 0) (pa_cons (pv 1) (pa_cons (pv 5) (pa_cons (pv 7) (pa_cons (pv 9) pa_nil)))))) (pv 10)) pa_nil)))) pss_nil))))
          (pss_one (ps_expr (pe_bm PySem.F.plainAttrs_list PySem.F.slot_list_append PySem.F.type_list_append mt_append (pv 6) (pa_cons (pe_ifExp (pt_truth (pv 8) (by intro _; rfl)) (pe_callB (cr_min rfl) (by rfl) T.min (by decide +kernel) (pa_cons (pv 8) pa_nil)) pe_non) pa_nil)))))))
        (pss_one (ps_set (i := 4) scPaper.nd rfl (.inl rfl) (pe_lst (pa_cons (pv 6) (StX.pa_star (pv 4) pa_nil))))))))
      (pss_one (ps_ret (pv 4))))), ?_⟩
    have hM := RR.ok.pow
    have h5 := RR.ok.v5
    have hcc := rw'.c
    have hpos : 0 < 2 ^ v := by omega
    -- size, paper
    refine ⟨_, rfl, r, v, taps, rfl, RR, ?_⟩
    refine ⟨by decide, fun p1 hp1 => ?_⟩
    have s1 := same_new (o := .lst [V.int 0]) hp1
    refine ⟨by decide, fun p2 hp2 => ?_⟩
    have s2 := same_new (o := .lst [V.non]) hp2
    refine ⟨_, rfl, _, _, rfl, rfl, p2, _, _, rfl, rfl, upd_same, by omega, by omega, szle (by simp only [List.length_singleton]; omega), fun p3 hp3 => ?_⟩
    have n12 : p1 ≠ p2 := ne_of_none (H := upd H p1 (.lst [V.int 0])) upd_same hp2
    have n13 : p1 ≠ p3 := ne_of_none (s2 _ _ upd_same) hp3
    have e3 : (List.replicate (((2 ^ v : Nat) : Int) - 1).toNat [V.non]).flatten = List.replicate (2 ^ v - 1) V.non := by
      rw [rep_flat]; congr 1; omega
    rw [e3]
    have s3 := same_new (o := .lst (List.replicate (2 ^ v - 1) V.non)) hp3
    refine ⟨p1, p3, _, _, rfl, rfl, s3 _ _ (s2 _ _ upd_same), upd_same, szle (by simp; omega), fun p4 hp4 => ?_⟩
    have s4 := same_new (o := .lst ([V.int 0] ++ List.replicate (2 ^ v - 1) V.non)) hp4
    refine ⟨szle (by simp), fun p5 hp5 => ?_⟩
    have s5 := same_new (o := .lst [V.ref p4]) hp5
    have S5 := (((s1.trans s2).trans s3).trans s4).trans s5
    generalize hH5 : upd (upd (upd (upd (upd H p1 (.lst [V.int 0])) p2 (.lst [V.non])) p3 (.lst (List.replicate (2 ^ v - 1) V.non))) p4 (.lst ([V.int 0] ++ List.replicate (2 ^ v - 1) V.non))) p5 (.lst [V.ref p4]) = H5 at S5 ⊢
    have P5 : PP H5 p5 (PA v taps R count 0) := by
      refine ⟨[V.ref p4], by rw [← hH5]; exact upd_same, ?_⟩
      show A2 _ [V.ref p4] [LY v taps R count (0 - 0)]
      refine A2.cons ⟨p4, rfl, ?_⟩ A2.nil
      unfold OL
      rw [← hH5, s5 _ _ upd_same]
      show _ = some (HO.lst ((some (0 : Int) :: List.replicate (2 ^ v - 1) none).map ov))
      rw [List.map_cons, List.map_replicate]
      rfl
    -- the range
    have R5 := RR.same S5
    obtain ⟨dx5, at5, ar5, g5⟩ := id R5
    refine ⟨_, rfl, _, rfl, r, dx5, _, rfl, g5.h, rfl, r, v, taps, rfl, R5, ?_⟩
    refine ⟨_, _, rfl, rfl, _, _, rfl, rfl, _, rfl, _, rfl, ?_⟩
    refine ⟨_, _, _, _, rfl, RgC.neg (by omega) (by omega) (by omega) (by omega), ?_⟩
    have eN : (((count : Int) + (v : Int) - 1) - (-1)).toNat = count + v := by omega
    refine for_rangeC (fun i σ H' => ∃ pa y5 y6 y7 y8 y9 y10, σ = [some (.ref r), some (.ref b), some (.int (count : Int)), some (.int ((2 ^ v : Nat) : Int)), some (.ref pa), y5, y6, y7, y8, y9, y10] ∧ Same H H' ∧ PP H' pa (PA v taps R count i))
      ⟨p5, none, none, none, none, none, none, rfl, S5, P5⟩ ?_ ?_
    · rintro i σ Hi hi ⟨pa, y5, y6, y7, y8, y9, y10, rfl, Si, Pi⟩
      have hiT : i < count + v := by rw [← eN]; exact hi
      -- step
      have est : (count : Int) + (v : Int) - 1 + (i : Int) * (-1) = ((count + v - (i + 1) : Nat) : Int) := by omega
      rw [est]
      generalize hst : count + v - (i + 1) = st
      have hstT : st < count + v := by omega
      -- layer = []
      refine ⟨by decide, fun la hla => ?_⟩
      have sL := same_new (o := .lst []) hla
      have bs := wbnd (n := 2 ^ v) (by omega)
      refine ⟨_, rfl, _, rfl, bs.1, bs.2, ?_⟩
      refine for_range (fun j σ H' => ∃ y7 y8 y9 y10, σ = [some (.ref r), some (.ref b), some (.int (count : Int)), some (.int ((2 ^ v : Nat) : Int)), some (.ref pa), some (.int (st : Int)), some (.ref la), y7, y8, y9, y10] ∧ Same Hi H' ∧ H' la = some (.lst (((LY v taps R count (i + 1)).take j).map ov)))
        ⟨y7, y8, y9, y10, rfl, sL, upd_same⟩ ?_ ?_
      · rintro j σ Hj hj ⟨z7, z8, z9, z10, rfl, Sj, hl⟩
        have hj2 : j < 2 ^ v := by rw [Int.toNat_natCast] at hj; exact hj
        -- found = []
        refine ⟨by decide, fun fo hfo => ?_⟩
        have sF := same_new (o := .lst []) hfo
        have e0 : (0 : Int) + (j : Int) = (j : Int) := by omega
        rw [e0]
        -- allowed
        refine ⟨_, rfl, _, rfl, st, count, rfl, fun ta hta => ?_⟩
        generalize hxs : (if st < count then [V.int 0, V.int 1] else [V.int 0]) = xs
        have hlen : xs.length = if st < count then 2 else 1 := by rw [← hxs]; split <;> rfl
        have hat : ∀ (k : Nat) x, xs[k]? = some x → x = V.int (k : Int) ∧ k < 2 := by
          intro k x hk
          rw [← hxs] at hk
          split at hk
          · match k, hk with
            | 0, hk => exact ⟨(Option.some.inj hk).symm, by decide⟩
            | 1, hk => exact ⟨(Option.some.inj hk).symm, by decide⟩
            | k + 2, hk => simp at hk
          · match k, hk with
            | 0, hk => exact ⟨(Option.some.inj hk).symm, by decide⟩
            | k + 1, hk => simp at hk
        have sA := same_new (o := .tup xs) hta
        refine ⟨ta, rfl, ⟨_, SqT.of upd_same⟩, ?_⟩
        have SA := sF.trans sA
        have nft : fo ≠ ta := ne_of_none (H := upd Hj fo (.lst [])) upd_same hta
        refine for_tup (xs := xs) (fun k σ H' => ∃ y9 y10, σ = [some (.ref r), some (.ref b), some (.int (count : Int)), some (.int ((2 ^ v : Nat) : Int)), some (.ref pa), some (.int (st : Int)), some (.ref la), some (.int (j : Int)), some (.ref fo), y9, y10] ∧ Same Hj H' ∧
            H' ta = some (.tup xs) ∧ H' fo = some (.lst ((fTo v (wR v taps R) st (LY v taps R count i) j k).map V.int)))
          ⟨z9, z10, rfl, SA, upd_same, by rw [upd_ne nft]; exact upd_same⟩ (fun k σ H' _ ⟨_, _, _, _, h, _⟩ => SqT.of h) ?_ ?_
        · rintro k x σ Hk hk ⟨x9, x10, rfl, Sk, htak, hfk⟩
          obtain ⟨rfl, hk2⟩ := hat k x hk
          have SK := Si.trans (Sj.trans Sk)
          have RK := RR.same SK
          have PK := Pi.kd (kd (Sj.trans Sk))
          obtain ⟨vs, hv, hatp⟩ := PK.at_
          obtain ⟨y, hy, hyl⟩ := hatp 0 _ (PA_at (Nat.zero_le i))
          rw [Nat.sub_zero] at hyl
          have hnl : nxt v j k < (LY v taps R count i).length := by rw [LY_len]; exact nxt_lt v j k
          have hn2 := List.getElem?_eq_getElem hnl
          obtain ⟨dxk, atk, ark, gk⟩ := id RK
          refine ⟨_, rfl, pa, vs, 0, _, rfl, rfl, SqL.of hv, at_of (j := 0) rfl hy, ?_⟩
          refine ⟨_, rfl, r, dxk, _, rfl, gk.h, rfl, _, rfl, _, rfl, r, v, taps, j, k, rfl, RK, ?_⟩
          refine ⟨y, _, _, _, rfl, rfl, SqL.of hyl, atI_nat (map_at hn2), ?_⟩
          cases ho : (LY v taps R count i)[nxt v j k] with
          | none =>
            refine ⟨_, rfl, rfl, false, rfl, iteF ?_⟩
            refine ⟨_, _, rfl, Sk, htak, ?_⟩
            have : fPart v (wR v taps R) st (LY v taps R count i) j k = [] := by unfold fPart; rw [hn2, ho]; rfl
            rw [fTo, this, List.append_nil]; exact hfk
          | some z =>
            refine ⟨_, rfl, rfl, true, rfl, iteT ?_⟩
            refine ⟨_, rfl, .inl ⟨rfl, _, SqL.of hfk⟩, ?_⟩
            refine ⟨_, rfl, _, rfl, _, rfl, _, rfl, _, rfl, r, b, v, taps, R, count, st, j, k, rfl, RK, rw'.kd (kd SK), hstT, hj2, hk2, fun Hm Sm => ?_⟩
            refine ⟨_, rfl, _, _, rfl, rfl, ?_⟩
            have hlf := fTo_len v (wR v taps R) st (LY v taps R count i) j k
            refine ⟨fo, _, _, rfl, rfl, Sm _ _ hfk, szline (by rw [List.length_map]; omega), ?_⟩
            refine ⟨_, _, rfl, ?_, ?_, ?_⟩
            · intro c o ec
              rw [upd_ne (ne_of_none ec hfo)]
              exact Sm _ _ (Sk _ _ ec)
            · rw [upd_ne (Ne.symm nft)]; exact Sm _ _ htak
            · have : fPart v (wR v taps R) st (LY v taps R count i) j k = [wR v taps R st j k + z] := by unfold fPart; rw [hn2, ho]; rfl
              rw [fTo, this, List.map_append, upd_same]
              rfl
        · rintro σ Hk ⟨x9, x10, rfl, Sk, htak, hfk⟩
          rw [hlen, fTo_found] at hfk
          have hlk : Hk la = some (.lst (((LY v taps R count (i + 1)).take j).map ov)) := Sk _ _ hl
          have hLj : (LY v taps R count (i + 1))[j]? = some ((foundL (nxt v) (wR v taps R) count st (LY v taps R count i) j).min?) := by
            show (lay (nxt v) (wR v taps R) (count + v) count (2 ^ v) (i + 1))[j]? = _
            rw [lay, hst, layF_at hj2]
          have hlen2 : (((LY v taps R count (i + 1)).take j).map ov).length < sizeLine := by
            refine szline ?_
            rw [List.length_map, List.length_take]
            omega
          have fin_ : ∀ o, (foundL (nxt v) (wR v taps R) count st (LY v taps R count i) j).min? = o → Same Hi (upd Hk la (.lst (((LY v taps R count (i + 1)).take j).map ov ++ [ov o]))) ∧ (upd Hk la (.lst (((LY v taps R count (i + 1)).take j).map ov ++ [ov o]))) la = some (.lst (((LY v taps R count (i + 1)).take (j + 1)).map ov)) := by
            intro o ho
            refine ⟨fun c o' ec => ?_, ?_⟩
            · rw [upd_ne (ne_of_none ec hla)]
              exact Sk _ _ (Sj _ _ ec)
            · rw [upd_same, List.take_add_one, hLj, ho, List.map_append]
              rfl
          refine ⟨_, rfl, .inl ⟨rfl, _, SqL.of hlk⟩, ?_⟩
          refine ⟨_, rfl, _, .inl ⟨_, SqL.of hfk, rfl⟩, ?_⟩
          cases hfo2 : foundL (nxt v) (wR v taps R) count st (LY v taps R count i) j with
          | nil =>
            refine iteF ?_
            obtain ⟨a1, a2⟩ := fin_ none (by rw [hfo2]; rfl)
            exact ⟨la, _, _, rfl, rfl, hlk, hlen2, _, _, _, _, rfl, a1, a2⟩
          | cons m ms =>
            refine iteT ?_
            refine ⟨_, rfl, fo, m :: ms, rfl, SqL.of (by rw [hfk, hfo2]), by simp, fun mm h1 h2 => ?_⟩
            obtain ⟨a1, a2⟩ := fin_ (some mm) (by rw [hfo2]; exact min_eq h1 h2)
            exact ⟨la, _, _, rfl, rfl, hlk, hlen2, _, _, _, _, rfl, a1, a2⟩
      · rintro σ Hj ⟨z7, z8, z9, z10, rfl, Sj, hl⟩
        -- paper = [layer, *paper]
        rw [Int.toNat_natCast, List.take_of_length_le (by rw [LY_len]; exact Nat.le_refl _)] at hl
        obtain ⟨vs, hv, hA⟩ := Pi.kd (kd Sj)
        have hvl : vs.length = i + 1 := by rw [hA.1]; simp [PA]
        refine ⟨_, rfl, _, rfl, pa, vs, rfl, .inr (SqL.of hv), ?_⟩
        refine ⟨szle (by simp; omega), fun pn hpn => ?_⟩
        have sN := same_new (o := .lst (V.ref la :: (vs ++ []))) hpn
        rw [List.append_nil] at sN
        rw [List.append_nil]
        refine ⟨pn, _, _, _, _, _, _, rfl, (Si.trans Sj).trans sN, ?_⟩
        refine ⟨_, upd_same, ?_⟩
        rw [PA_succ]
        exact A2.cons ⟨la, rfl, OL.kd (kd sN) hl⟩ (hA.imp fun x y z => z.kd (kd sN))
    · rintro σ H' ⟨pa, y5, y6, y7, y8, y9, y10, rfl, Si, Pi⟩
      rw [eN] at Pi
      exact ⟨_, rfl, q _ _ Si Pi⟩
end
end Fh
namespace Fh
open PySem PySem.Spec PyProof.Rows L2

theorem scal_ov (a b : Option Int) : scal (ov a) (ov b) = true := by
  cases a <;> cases b <;> rfl
theorem ov_inj {a b : Option Int} : (ov a = ov b) ↔ a = b := by
  cases a <;> cases b <;> simp [ov]
theorem decide_ov (a b : Option Int) : decide (ov a = ov b) = decide (a = b) := by
  by_cases h : a = b
  · rw [decide_eq_true h, decide_eq_true (ov_inj.mpr h)]
  · rw [decide_eq_false h, decide_eq_false fun z => h (ov_inj.mp z)]
/-- mend's list, read from the place i on -/
theorem gr_at {v count : Nat} {w : Nat → Nat → Nat → Int} {i s : Nat} (hi : i < count) (h : (GR v count w).drop i = gr (nxt v) w (count + v) count (2 ^ v) (count + v - i) s) :
    (GR v count w)[i]? = some ((bitAt (nxt v) w (count + v) count (2 ^ v) (count + v - (i + 1)) s : Nat) : Int) ∧
      (GR v count w).drop (i + 1) = gr (nxt v) w (count + v) count (2 ^ v) (count + v - (i + 1)) (nxt v s (bitAt (nxt v) w (count + v) count (2 ^ v) (count + v - (i + 1)) s)) := by
  have e : count + v - i = (count + v - (i + 1)) + 1 := by omega
  rw [e, gr] at h
  constructor
  · have : ((GR v count w).drop i)[0]? = (GR v count w)[i]? := by rw [List.getElem?_drop]; rfl
    rw [← this, h]; rfl
  · rw [← List.drop_drop, h]; rfl

section
variable {P : Program} {w : World} {K : PySem.W.Frag} {mg : Str → Option Value} {base : Heap}
theorem scMend : FnScope ["shift_register", "received", "count", "paper", "message", "state", "step", "bit"] ["shift_register", "received"] (defScope sMend) := ⟨rfl, rfl, rfl, by decide +kernel, rfl, by decide +kernel, by decide +kernel⟩
theorem ok_mend {CR CF f fC fP fN fT : Addr} {fd fdC fdP fdN fdT : FuncData} (F : Fun K "mend" "mend" sMend f fd) (T : Tx K mg CR CF)
    (GC : FnOk P w K mg base CX0 3 fC fdC ["shift_register", "received"] (spCountOf CR)) (bC : Binds K fdC ["shift_register", "received"] []) (gC : mg "checked_count" = some (.ref fC)) (kC : PySem.W.keepIn K (.ref fC) = true)
    (GP : FnOk P w K mg base CX0 3 fP fdP ["shift_register", "received", "count"] (spPaper CR)) (bP : Binds K fdP ["shift_register", "received", "count"] []) (gP : mg "path_paper" = some (.ref fP)) (kP : PySem.W.keepIn K (.ref fP) = true)
    (GN : FnOk P w K mg base CX0 1 fN fdN ["self", "state", "bit"] (spNext CR)) (bN : Binds K fdN ["self", "state", "bit"] []) (mN : Meth K CR "next_state" fN)
    (GT : FnOk P w K mg base CX0 3 fT fdT ["shift_register", "received", "paper", "step", "state", "bit"] (spThrough CR)) (bT : Binds K fdT ["shift_register", "received", "paper", "step", "state", "bit"] []) (gT : mg "through" = some (.ref fT)) (kT : PySem.W.keepIn K (.ref fT) = true) :
    FnOk P w K mg base CX0 4 f fd ["shift_register", "received"] (spMend CR) := by
  refine F.ok scMend (fun vs H Q E h => ?_) (fun cdv A outer s H vs Q E hr h => ?_)
  · obtain ⟨r, b, _, _, _, _, rfl, _⟩ := h
    rfl
  · obtain ⟨r, b, v, taps, R, count, rfl, RR, rw', q⟩ := h
    have hr1 : Room 1 _ := hr.mono (by decide)
    refine ⟨_, pss_cons (ps_set (i := 2) scMend.nd rfl (.inl rfl) (pe_call GC hr (by rfl) gC kC bC .nil pass0 (pa_cons (pv 0) (pa_cons (pv 1) pa_nil))))
      (pss_cons (ps_set (i := 3) scMend.nd rfl (.inl rfl) (pe_call GP hr (by rfl) gP kP bP .nil pass0 (pa_cons (pv 0) (pa_cons (pv 1) (pa_cons (pv 2) pa_nil)))))
      (pss_cons (ps_set (i := 4) scMend.nd rfl (.inl rfl) (pe_lst pa_nil))
      (pss_cons (ps_set (i := 5) scMend.nd rfl (.inl rfl) pe_int)
      (pss_cons (ps_for PassesOwn.never rfl (pi_range1 (by rfl) T.range (pa_cons (pv 2) pa_nil)) (pg_name (i := 6) scMend.nd rfl (.inl rfl))
        (pss_cons (ps_set (i := 7) scMend.nd rfl (.inl rfl) pe_int)
        (pss_cons (ps_if (pt_cmpR op_eq (pe_call GT hr (by rfl) gT kT bT .nil pass0 (pa_cons (pv 0) (pa_cons (pv 1) (pa_cons (pv 3) (pa_cons (pv 6) (pa_cons (pv 5) (pa_cons pe_int pa_nil)))))))
            (pe_ix ix_list (pe_ix ix_list (pv 3) (pv 6) (fun _ _ => rfl)) (pv 5) (fun _ _ => rfl)) (nomark _))
          (pss_one (ps_set (i := 7) scMend.nd rfl (.inl rfl) pe_int)) pss_nil)
        (pss_cons (ps_expr (pe_bm PySem.F.plainAttrs_list PySem.F.slot_list_append PySem.F.type_list_append mt_append (pv 4) (pa_cons (pv 7) pa_nil)))
        (pss_one (ps_set (i := 5) scMend.nd rfl (.inl rfl) (pe_meth (pv 0) T.clR mN GN hr1 bN .nil pass0 (pa_cons (pv 5) (pa_cons (pv 7) pa_nil)))))))))
      (pss_one (ps_ret (pe_tup (pa_cons (pv 4) (pa_cons (pe_ix ix_list (pe_ix ix_list (pv 3) pe_int (fun _ _ => rfl)) pe_int (fun _ _ => rfl)) (pa_cons (pv 3) pa_nil)))))))))), ?_⟩
    have hM := RR.ok.pow
    have h5 := RR.ok.v5
    have hcc := rw'.c
    have hpos : 0 < 2 ^ v := by omega
    refine ⟨_, rfl, _, rfl, r, b, v, taps, R, count, rfl, RR, rw', fun H1 s1 => ?_⟩
    refine ⟨_, rfl, _, rfl, _, rfl, r, b, v, taps, R, count, rfl, RR.same s1, rw'.kd (kd s1), fun H2 pa s2 hP => ?_⟩
    have S2 := s1.trans s2
    refine ⟨by decide, fun ma hma => ?_⟩
    have s3 := same_new (o := .lst []) hma
    have bn := wbnd (n := count) (by omega)
    refine ⟨_, rfl, _, rfl, bn.1, bn.2, ?_⟩
    refine for_range (fun i σ H' => ∃ (s : Nat) (y6 y7 : Option V), σ = [some (.ref r), some (.ref b), some (.int (count : Int)), some (.ref pa), some (.ref ma), some (.int (s : Int)), y6, y7] ∧ Same H2 H' ∧ s < 2 ^ v ∧
        H' ma = some (.lst (((GR v count (wR v taps R)).take i).map V.int)) ∧ (GR v count (wR v taps R)).drop i = gr (nxt v) (wR v taps R) (count + v) count (2 ^ v) (count + v - i) s)
      ⟨0, none, none, rfl, s3, hpos, upd_same, rfl⟩ ?_ ?_
    · rintro i σ Hi hi ⟨s, y6, y7, rfl, Si, hs, hm, hd⟩
      have hi2 : i < count := by rw [Int.toNat_natCast] at hi; exact hi
      have e0 : (0 : Int) + (i : Int) = (i : Int) := by omega
      rw [e0]
      have SI := S2.trans Si
      have PI := hP.kd (kd Si)
      obtain ⟨g1, g2⟩ := gr_at hi2 hd
      have l1 : (PA v taps R count (count + v))[i + 1]? = some (LY v taps R count (count + v - (i + 1))) := PA_at (by omega)
      have l0 : (PA v taps R count (count + v))[i]? = some (LY v taps R count (count + v - i)) := PA_at (by omega)
      have hnl : nxt v s 0 < (LY v taps R count (count + v - (i + 1))).length := by rw [LY_len]; exact nxt_lt v s 0
      have hn2 := List.getElem?_eq_getElem hnl
      have hsl : s < (LY v taps R count (count + v - i)).length := by rw [LY_len]; exact hs
      have hs2 := List.getElem?_eq_getElem hsl
      refine ⟨_, rfl, _, rfl, _, rfl, _, rfl, _, rfl, r, b, pa, v, taps, R, count, i, s, 0, _, _, _, rfl, RR.same SI, rw'.kd (kd SI), PI, l1, hn2, by omega, hs, by decide, fun H3 s3' => ?_⟩
      obtain ⟨vs, hv, hat⟩ := (PI.kd (kd s3')).at_
      obtain ⟨y, hy, hyl⟩ := hat _ _ l0
      refine ⟨_, rfl, _, rfl, pa, vs, _, _, rfl, rfl, SqL.of hv, atI_nat hy, _, rfl, y, _, _, _, rfl, rfl, SqL.of hyl, atI_nat (map_at hs2), ?_⟩
      refine ⟨scal_ov _ _, _, rfl, ?_⟩
      rw [decide_ov]
      have hth : thr (nxt v) (wR v taps R) (count + v) count (2 ^ v) (count + v - (i + 1)) s 0 = Option.map (fun r => r + wR v taps R i s 0) (LY v taps R count (count + v - (i + 1)))[nxt v s 0] := by
        unfold thr
        have e1 : count + v - (count + v - (i + 1) + 1) = i := by omega
        have e2 : Fh.P (nxt v) (wR v taps R) (count + v) count (2 ^ v) (count + v - (i + 1)) (nxt v s 0) = (LY v taps R count (count + v - (i + 1)))[nxt v s 0] := by
          show ((LY v taps R count (count + v - (i + 1)))[nxt v s 0]?).join = _
          rw [hn2]; rfl
        rw [e1, e2]
      have hP0 : Fh.P (nxt v) (wR v taps R) (count + v) count (2 ^ v) (count + v - (i + 1) + 1) s = (LY v taps R count (count + v - i))[s] := by
        have e1 : count + v - (i + 1) + 1 = count + v - i := by omega
        rw [e1]
        show ((LY v taps R count (count + v - i))[s]?).join = _
        rw [hs2]; rfl
      have hm3 : H3 ma = some (.lst (((GR v count (wR v taps R)).take i).map V.int)) := s3' _ _ hm
      have hRR3 : RegAt CR H3 r v taps := (RR.same SI).same s3'
      -- the turn's end
      have fin_ : ∀ bt : Nat, bt = bitAt (nxt v) (wR v taps R) (count + v) count (2 ^ v) (count + v - (i + 1)) s →
          (upd H3 ma (.lst (((GR v count (wR v taps R)).take i).map V.int ++ [V.int (bt : Int)]))) ma = some (.lst (((GR v count (wR v taps R)).take (i + 1)).map V.int)) ∧ Same H2 (upd H3 ma (.lst (((GR v count (wR v taps R)).take i).map V.int ++ [V.int (bt : Int)]))) := by
        intro bt hb
        refine ⟨?_, fun c o ec => ?_⟩
        · rw [upd_same, List.take_add_one, g1, List.map_append, ← hb]; rfl
        · rw [upd_ne (ne_of_none ec hma)]
          exact s3' _ _ (Si _ _ ec)
      have step_ : ∀ bt : Nat, bt = bitAt (nxt v) (wR v taps R) (count + v) count (2 ^ v) (count + v - (i + 1)) s →
          RegAt CR (upd H3 ma (.lst (((GR v count (wR v taps R)).take i).map V.int ++ [V.int (bt : Int)]))) r v taps := fun bt hb => (RR.same S2).same (fin_ bt hb).2
      have hsz : (((GR v count (wR v taps R)).take i).map V.int).length < sizeLine := szline (by simp; omega)
      refine ite2 (fun c => ?_) (fun c => ?_)
      · have hb : 0 = bitAt (nxt v) (wR v taps R) (count + v) count (2 ^ v) (count + v - (i + 1)) s := by
          unfold bitAt
          rw [hth, hP0, if_pos (of_decide_eq_true c)]
        have hst := step_ 0 hb
        obtain ⟨dx, at_, ar, g⟩ := id hst
        refine ⟨_, rfl, .inl ⟨rfl, _, SqL.of hm3⟩, _, rfl, ma, _, _, rfl, rfl, hm3, hsz, ?_⟩
        refine ⟨_, rfl, r, dx, _, rfl, g.h, rfl, _, rfl, _, rfl, r, v, taps, s, 0, rfl, hst, ?_⟩
        refine ⟨_, _, _, rfl, (fin_ 0 hb).2, nxt_lt _ _ _, (fin_ 0 hb).1, ?_⟩
        rw [g2, ← hb]
      · have hb : 1 = bitAt (nxt v) (wR v taps R) (count + v) count (2 ^ v) (count + v - (i + 1)) s := by
          unfold bitAt
          rw [hth, hP0, if_neg (fun z => c (decide_eq_true z))]
        have hst := step_ 1 hb
        obtain ⟨dx, at_, ar, g⟩ := id hst
        refine ⟨_, rfl, .inl ⟨rfl, _, SqL.of hm3⟩, _, rfl, ma, _, _, rfl, rfl, hm3, hsz, ?_⟩
        refine ⟨_, rfl, r, dx, _, rfl, g.h, rfl, _, rfl, _, rfl, r, v, taps, s, 1, rfl, hst, ?_⟩
        refine ⟨_, _, _, rfl, (fin_ 1 hb).2, nxt_lt _ _ _, (fin_ 1 hb).1, ?_⟩
        rw [g2, ← hb]
    · rintro σ Hi ⟨s, y6, y7, rfl, Si, hs, hm, hd⟩
      rw [Int.toNat_natCast] at hm
      have PI := hP.kd (kd Si)
      obtain ⟨vs, hv, hat⟩ := PI.at_
      have l0 : (PA v taps R count (count + v))[0]? = some (LY v taps R count (count + v - 0)) := PA_at (by omega)
      obtain ⟨y, hy, hyl⟩ := hat _ _ l0
      rw [Nat.sub_zero] at hyl
      have hsl : 0 < (LY v taps R count (count + v)).length := by rw [LY_len]; exact hpos
      have hs2 := List.getElem?_eq_getElem hsl
      have hP0 : P0 v count (wR v taps R) = (LY v taps R count (count + v))[0] := by
        show ((LY v taps R count (count + v))[0]?).join = _
        rw [hs2]; rfl
      refine ⟨_, rfl, _, rfl, pa, vs, 0, _, rfl, rfl, SqL.of hv, at_of (j := 0) rfl hy, y, _, 0, _, rfl, rfl, SqL.of hyl, at_of (j := 0) rfl (map_at hs2), _, rfl, ?_⟩
      refine ⟨szle (by simp), fun t ht => ?_⟩
      have sT := same_new (o := .tup [V.ref ma, ov (LY v taps R count (count + v))[0], V.ref pa]) ht
      refine q _ t ma pa ((S2.trans Si).trans sT) ?_ (IL.kd (kd sT) hm)
      rw [upd_same, hP0]
end
end Fh
namespace Fh
open PySem PySem.Spec PyProof.Rows L2

abbrev sCommon : Stmt := top 23
abbrev sFInit : Stmt := inClass (top 24) 0
abbrev sTurn : Stmt := inClass (top 24) 1
abbrev sFeed : Stmt := inClass (top 24) 2
abbrev sGiven : Stmt := inClass (top 24) 3
abbrev sTurns : Stmt := inClass (top 24) 4
abbrev sWaiting : Stmt := inClass (top 24) 5
abbrev sPrices : Stmt := inClass (top 24) 6
abbrev sTold : Stmt := inClass (top 24) 7

theorem cp_char : ∀ {a b : List Int} {k : Nat}, (∀ j, j < k → a[j]? = b[j]?) → k ≤ a.length → k ≤ b.length → (k = a.length ∨ k = b.length ∨ a[k]? ≠ b[k]?) → k = cp a b
  | [], b, k, _, h, _, _ => by
    have : k = 0 := by simpa using h
    simp [this, cp]
  | _ :: _, [], k, _, _, h, _ => by
    have : k = 0 := by simpa using h
    simp [this, cp]
  | x :: a, y :: b, 0, _, _, _, h => by
    have : x ≠ y := by
      rcases h with h | h | h
      · simp at h
      · simp at h
      · simpa using h
    simp [cp, this]
  | x :: a, y :: b, k + 1, h1, h2, h3, h4 => by
    have e : x = y := by
      have := h1 0 (Nat.succ_pos _)
      simpa using this
    have ih := cp_char (a := a) (b := b) (k := k) (fun j hj => by
      have := h1 (j + 1) (Nat.succ_lt_succ hj)
      simpa using this) (by simpa using h2) (by simpa using h3) (by simpa using h4)
    simp [cp, e, ← ih]

/-! ### the follower's fields -/
def fF (r ap aw : Addr) (t : Nat) : List (Str × V) := [("_register", .ref r), ("_paths", .ref ap), ("_waiting", .ref aw), ("_turns", .int (t : Int))]
theorem fF_r (r ap aw t) : (fF r ap aw t).lookup ("_register" : Str) = some (.ref r) := rfl
theorem fF_p (r ap aw t) : (fF r ap aw t).lookup ("_paths" : Str) = some (.ref ap) := rfl
theorem fF_w (r ap aw t) : (fF r ap aw t).lookup ("_waiting" : Str) = some (.ref aw) := rfl
theorem fF_t (r ap aw t) : (fF r ap aw t).lookup ("_turns" : Str) = some (.int (t : Int)) := rfl
structure FolA (CF : Addr) (H : Hp) (p r : Addr) (ps : List Path) (W : List (Option Int)) (t : Nat) (dx ap aw : Addr) : Prop where
  h : H p = some (.ins CF dx (fF r ap aw t))
  p : PL H ap ps
  w : OL H aw W
def FolAt (CF : Addr) (H : Hp) (p r : Addr) (ps : List Path) (W : List (Option Int)) (t : Nat) : Prop := ∃ dx ap aw, FolA CF H p r ps W t dx ap aw
theorem FolAt.same {CF : Addr} {H H' : Hp} {p r : Addr} {ps W t} (s : Same H H') (h : FolAt CF H p r ps W t) : FolAt CF H' p r ps W t :=
  let ⟨dx, a, b, q⟩ := h; ⟨dx, a, b, s _ _ q.h, q.p.kd (kd s), q.w.kd (kd s)⟩
theorem FolAt.ne {CR CF : Addr} {H : Hp} {p r r' : Addr} {ps W t v taps} (h : FolAt CF H p r' ps W t) (g : RegAt CR H r v taps) : r ≠ p := by
  obtain ⟨dx, a, b, q⟩ := h
  obtain ⟨dx', a', b', q'⟩ := g
  refine ne_of q'.h q.h fun z => ?_
  injection z with _ _ z
  have := congrArg List.length z
  simp [fR, fF] at this

def spCommon : Sp := fun vs H Q _ => ∃ (a : Addr) (rows : List (List Int)), vs = [.ref a] ∧ TL H a rows ∧ rows ≠ [] ∧ (∀ r ∈ rows, r.length ≤ 1000) ∧
  ∀ H' p c, Same H H' → Com rows c → IL H' p c → Q (.ref p) H'
def spFInit (CR CF : Addr) : Sp := fun vs H Q _ => ∃ (p dx r : Addr) (v : Nat) (taps : List Int), vs = [.ref p, .ref r] ∧ H p = some (.ins CF dx []) ∧ RegAt CR H r v taps ∧
  ∀ H', SameX p H H' → FolAt CF H' p r (path0 (2 ^ v)) [] 0 → Q .non H'
def spGiven (CF : Addr) : Sp := fun vs H Q _ => ∃ (p r : Addr) (ps : List Path) (W : List (Option Int)) (t : Nat), vs = [.ref p] ∧ FolAt CF H p r ps W t ∧ rowsOf ps ≠ [] ∧ ps.length ≤ 1000 ∧ (∀ r ∈ rowsOf ps, r.length ≤ 1000) ∧
  ∀ H' q, Same H H' → IL H' q (beg ps) → Q (.ref q) H'
def spTurns (CF : Addr) : Sp := fun vs H Q _ => ∃ (p r : Addr) (ps : List Path) (W : List (Option Int)) (t : Nat), vs = [.ref p] ∧ FolAt CF H p r ps W t ∧ Q (.int (t : Int)) H
def spWaiting (CF : Addr) : Sp := fun vs H Q _ => ∃ (p r : Addr) (ps : List Path) (W : List (Option Int)) (t : Nat), vs = [.ref p] ∧ FolAt CF H p r ps W t ∧ Q (.int ((W.length : Nat) : Int)) H
def pr (p : Path) : Option Int := p.map (·.1)
def spPrices (CF : Addr) : Sp := fun vs H Q _ => ∃ (p r : Addr) (ps : List Path) (W : List (Option Int)) (t : Nat), vs = [.ref p] ∧ FolAt CF H p r ps W t ∧ ps.length ≤ 1000 ∧
  ∀ H' q, Same H H' → OL H' q (ps.map pr) → Q (.ref q) H'
def spTold (CF : Addr) : Sp := fun vs H Q _ => ∃ (p r : Addr) (ps : List Path) (W : List (Option Int)) (t k : Nat) (c : Int) (l : List Int), vs = [.ref p, .int (k : Int)] ∧ FolAt CF H p r ps W t ∧ ps[k]? = some (some (c, l)) ∧
  ∀ H' q, Same H H' → IL H' q l → Q (.ref q) H'

section
variable {P : Program} {w : World} {K : PySem.W.Frag} {mg : Str → Option Value} {base : Heap}
theorem scCommon : FnScope ["rows", "first", "last", "size"] ["rows"] (defScope sCommon) := ⟨rfl, rfl, rfl, by decide +kernel, rfl, by decide +kernel, by decide +kernel⟩
theorem ok_common {CR CF f : Addr} {fd : FuncData} (F : Fun K "common_beginning" "common_beginning" sCommon f fd) (T : Tx K mg CR CF) : FnOk P w K mg base CX0 1 f fd ["rows"] spCommon := by
  refine F.ok scCommon (fun vs H Q E h => ?_) (fun cdv A outer s H vs Q E hr h => ?_)
  · obtain ⟨a, _, rfl, _⟩ := h
    rfl
  · obtain ⟨a, rows, rfl, ⟨vs, hv, hA⟩, hne, hsz, q⟩ := h
    refine ⟨_, pss_cons (ps_set (i := 1) scCommon.nd rfl (.inl rfl) (pe_callB (cr_minL rfl hr.units) (by rfl) T.min (by decide +kernel) (pa_cons (pv 0) pa_nil)))
      (pss_cons (ps_set (i := 2) scCommon.nd rfl (.inl rfl) (pe_callB (cr_maxL rfl hr.units) (by rfl) T.max (by decide +kernel) (pa_cons (pv 0) pa_nil)))
      (pss_cons (ps_set (i := 3) scCommon.nd rfl (.inl rfl) pe_int)
      (pss_cons (ps_while PassesOwn.never (PW.pt (pw_and (pt_cmpR op_lt (pv 3) (pe_callB (call_min2 rfl) (by rfl) T.min (by decide +kernel) (pa_cons (pe_callB call_len_seq (by rfl) T.len PySem.boot_len (pa_cons (pv 1) pa_nil)) (pa_cons (pe_callB call_len_seq (by rfl) T.len PySem.boot_len (pa_cons (pv 2) pa_nil)) pa_nil))) (nomark _))
          (pw_and1 (pt_cmpR op_eq (pe_ix ix_list (pv 1) (pv 3) (fun _ _ => rfl)) (pe_ix ix_list (pv 2) (pv 3) (fun _ _ => rfl)) (nomark _)))))
        (pss_one (ps_aug (i := 3) scCommon.nd rfl (.inl rfl) pe_int ip_add)))
      (pss_one (ps_ret (pe_slice sl_list (pv 1) po_none (po_some (pv 3)))))))), ?_⟩
    refine ⟨_, rfl, a, vs, rows, rfl, SqL.of hv, dpAll_rows hA, hne, fun i1 v1 mn hi1 hm1 hmin => ?_⟩
    refine ⟨_, rfl, a, vs, rows, rfl, SqL.of hv, dpAll_rows hA, hne, fun i2 v2 mx hi2 hm2 hmax => ?_⟩
    obtain ⟨a1, rfl, h1⟩ := hA.2 i1 _ _ hi1 hm1
    obtain ⟨a2, rfl, h2⟩ := hA.2 i2 _ _ hi2 hm2
    have mem1 := List.mem_of_getElem? hm1
    have mem2 := List.mem_of_getElem? hm2
    have sz1 := hsz _ mem1
    refine ⟨fun m σ H' => ∃ k : Nat, σ = [some (.ref a), some (.ref a1), some (.ref a2), some (.int (k : Int))] ∧ H' = H ∧ m + k = mn.length ∧ k ≤ mx.length ∧ ∀ j, j < k → mn[j]? = mx[j]?, ⟨mn.length, 0, rfl, rfl, rfl, Nat.zero_le _, fun j h => absurd h (Nat.not_lt_zero _)⟩, ?_⟩
    rintro m σ H' ⟨k, rfl, rfl, hmk, hkx, hag⟩
    have l1 : (mn.map V.int).length = mn.length := List.length_map ..
    have l2 : (mx.map V.int).length = mx.length := List.length_map ..
    have fin_ : (k = mn.length ∨ k = mx.length ∨ mn[k]? ≠ mx[k]?) → ∀ p, H' p = none → Q (.ref p) (upd H' p (.lst (cutV (mn.map V.int) none (some (k : Int))))) := fun hk p hp => by
      have e := cp_char hag (by omega) hkx hk
      refine q _ p (mn.take (cp mn mx)) (same_new hp) (cp_com mem1 hmin mem2 hmax) ?_
      unfold IL
      rw [upd_same, cut_to, ← e, List.map_take]
    refine ⟨_, rfl, _, rfl, a1, _, rfl, .inl (SqL.of h1), _, rfl, a2, _, rfl, .inl (SqL.of h2), _, _, rfl, ?_⟩
    refine ⟨_, _, rfl, rfl, _, rfl, ?_⟩
    rw [l1, l2]
    refine ite2 (fun c => ?_) (fun c => ?_)
    · have c' := of_decide_eq_true c
      have hk1 : k < mn.length := by split at c' <;> omega
      have hk2 : k < mx.length := by split at c' <;> omega
      have g1 := List.getElem?_eq_getElem hk1
      have g2 := List.getElem?_eq_getElem hk2
      refine ⟨_, rfl, _, rfl, a1, _, _, _, rfl, rfl, SqL.of h1, atI_nat (map_at g1), _, rfl, _, rfl, a2, _, _, _, rfl, rfl, SqL.of h2, atI_nat (map_at g2), ?_⟩
      refine ⟨rfl, _, rfl, ?_⟩
      refine ite2 (fun d => ?_) (fun d => ?_)
      · have d' : mn[k] = mx[k] := by have := of_decide_eq_true d; injection this
        refine ⟨fun σ' H'' => ∃ k : Nat, σ' = [some (.ref a), some (.ref a1), some (.ref a2), some (.int (k : Int))] ∧ H'' = H' ∧ (m - 1) + k = mn.length ∧ k ≤ mx.length ∧ ∀ j, j < k → mn[j]? = mx[j]?, fun σ' H'' hw => ⟨m - 1, by omega, hw⟩, ?_⟩
        refine ⟨_, rfl, _, _, rfl, rfl, k + 1, rfl, rfl, by omega, by omega, fun j hj => ?_⟩
        by_cases hjk : j = k
        · subst hjk; rw [g1, g2, d']
        · exact hag j (by omega)
      · refine ⟨_, rfl, _, rfl, _, rfl, a1, _, rfl, SqL.of h1, fin_ (.inr (.inr ?_))⟩
        rw [g1, g2]
        intro z
        apply d
        rw [Option.some.inj z]
        exact decide_eq_true rfl
    · refine iteF ?_
      refine ⟨_, rfl, _, rfl, _, rfl, a1, _, rfl, SqL.of h1, fin_ ?_⟩
      by_cases z : k < mn.length
      · by_cases z2 : k < mx.length
        · exfalso
          apply c
          refine decide_eq_true ?_
          split <;> omega
        · right; left; omega
      · left; omega

theorem scFInit : FnScope ["self", "shift_register"] ["self", "shift_register"] (defScope sFInit) := ⟨rfl, rfl, rfl, by decide +kernel, rfl, by decide +kernel, by decide +kernel⟩
theorem ok_finit {CR CF f fS : Addr} {fd fdS : FuncData} (F : Fun K "__init__" "Follower.__init__" sFInit f fd) (T : Tx K mg CR CF)
    (GS : FnOk P w K mg base CX0 2 fS fdS ["shift_register"] (spStates CR)) (bS : Binds K fdS ["shift_register"] []) (gS : mg "states_of" = some (.ref fS)) (kS : PySem.W.keepIn K (.ref fS) = true) :
    FnOk P w K mg base CX0 3 f fd ["self", "shift_register"] (spFInit CR CF) := by
  refine F.ok scFInit (fun vs H Q E h => ?_) (fun cdv A outer s H vs Q E hr h => ?_)
  · obtain ⟨p, dx, r, _, _, rfl, _⟩ := h
    rfl
  · obtain ⟨p, dx, r, v, taps, rfl, hp, RR, q⟩ := h
    refine ⟨_, pss_cons (ps_fld (pv 0) (pv 1) rfl)
      (pss_cons (ps_fld (pv 0) (pe_op op_cat (pe_lst (pa_cons (pe_tup (pa_cons pe_int (pa_cons (pe_lst pa_nil) pa_nil))) pa_nil)) (pe_op op_rep (pe_lst (pa_cons pe_non pa_nil)) (pe_op op_sub (pe_call GS hr (by rfl) gS kS bS .nil pass0 (pa_cons (pv 1) pa_nil)) pe_int))) rfl)
      (pss_cons (ps_fld (pv 0) (pe_lst pa_nil) rfl)
      (pss_one (ps_fld (pv 0) pe_int rfl)))), ?_⟩
    have hM := RR.ok.pow
    have nrp : r ≠ p := by
      obtain ⟨_, _, _, g⟩ := RR
      refine ne_of g.h hp fun z => ?_
      injection z with _ _ z
      cases z
    refine ⟨_, rfl, _, rfl, p, CF, dx, _, rfl, hp, T.clF, T.fG, (by show 0 < 1000; decide), ?_⟩
    generalize hH1 : upd H p (.ins CF dx (putF "_register" (.ref r) [])) = H1
    have f1 : H1 p = some (.ins CF dx [("_register", .ref r)]) := by rw [← hH1]; exact upd_same
    have x1 : SameX p H H1 := by rw [← hH1]; exact sx_upd
    have R1 : RegAt CR H1 r v taps := RR.sx x1 hp nrp
    -- the paths
    refine ⟨by decide, fun e hee => ?_⟩
    have s2 := same_new (o := .lst []) hee
    refine ⟨szle (by simp), fun t ht => ?_⟩
    have s3 := same_new (o := .tup [V.int 0, V.ref e]) ht
    refine ⟨szle (by simp), fun l1 hl1 => ?_⟩
    have s4 := same_new (o := .lst [V.ref t]) hl1
    refine ⟨by decide, fun l2 hl2 => ?_⟩
    have s5 := same_new (o := .lst [V.non]) hl2
    have S5 := ((s2.trans s3).trans s4).trans s5
    refine ⟨_, rfl, r, v, taps, rfl, R1.same S5, ?_⟩
    refine ⟨_, _, rfl, rfl, l2, _, _, rfl, rfl, upd_same, by omega, by omega, szle (by simp only [List.length_singleton]; omega), fun l3 hl3 => ?_⟩
    have e3 : (List.replicate (((2 ^ v : Nat) : Int) - 1).toNat [V.non]).flatten = List.replicate (2 ^ v - 1) V.non := by
      rw [rep_flat]; congr 1; omega
    rw [e3]
    have s6 := same_new (o := .lst (List.replicate (2 ^ v - 1) V.non)) hl3
    refine ⟨l1, l3, _, _, rfl, rfl, s6 _ _ (s5 _ _ upd_same), upd_same, szle (by simp; omega), fun l4 hl4 => ?_⟩
    have s7 := same_new (o := .lst ([V.ref t] ++ List.replicate (2 ^ v - 1) V.non)) hl4
    have S7 := (S5.trans s6).trans s7
    have ht7 := s7 _ _ (s6 _ _ (s5 _ _ (s4 _ _ (show (upd _ t (.tup [V.int 0, V.ref e])) t = _ from upd_same))))
    have he7 := s7 _ _ (s6 _ _ (s5 _ _ (s4 _ _ (s3 _ _ (show (upd _ e (.lst [])) e = _ from upd_same)))))
    generalize hH7 : upd (upd (upd (upd (upd (upd H1 e (.lst [])) t (.tup [V.int 0, V.ref e])) l1 (.lst [V.ref t])) l2 (.lst [V.non])) l3 (.lst (List.replicate (2 ^ v - 1) V.non))) l4 (.lst ([V.ref t] ++ List.replicate (2 ^ v - 1) V.non)) = H7 at S7 ht7 he7 ⊢
    have hl47 : H7 l4 = some (.lst ([V.ref t] ++ List.replicate (2 ^ v - 1) V.non)) := by rw [← hH7]; exact upd_same
    refine ⟨_, rfl, p, CF, dx, _, rfl, S7 _ _ f1, T.clF, T.fP, (by show 1 < 1000; decide), ?_⟩
    have x8 := sx_upd (p := p) (H := H7) (o := .ins CF dx (putF "_paths" (.ref l4) [("_register", .ref r)]))
    -- waiting
    refine ⟨by decide, fun w2 hw2 => ?_⟩
    have s9 := same_new (o := .lst []) hw2
    have np2 : p ≠ w2 := fun z => by rw [← z, upd_same] at hw2; cases hw2
    refine ⟨_, rfl, p, CF, dx, _, rfl, s9 _ _ upd_same, T.clF, T.fW, (by show 2 < 1000; decide), ?_⟩
    refine ⟨_, rfl, p, CF, dx, _, rfl, upd_same, T.clF, T.fT, (by show 3 < 1000; decide), ?_⟩
    have f7 := S7 _ _ f1
    generalize hH10 : upd (upd (upd (upd H7 p (.ins CF dx (putF "_paths" (.ref l4) [("_register", .ref r)]))) w2 (.lst [])) p (.ins CF dx (putF "_waiting" (.ref w2) (putF "_paths" (.ref l4) [("_register", .ref r)])))) p (.ins CF dx (putF "_turns" (.int 0) (putF "_waiting" (.ref w2) (putF "_paths" (.ref l4) [("_register", .ref r)])))) = H10
    have x10 : SameX p H7 H10 := by
      rw [← hH10]
      exact ((x8.trans (sx s9)).trans sx_upd).trans sx_upd
    have hw10 : H10 w2 = some (.lst []) := by
      rw [← hH10, upd_ne (Ne.symm np2), upd_ne (Ne.symm np2)]
      exact upd_same
    have hp10 : H10 p = some (.ins CF dx (fF r l4 w2 0)) := by rw [← hH10]; exact upd_same
    have k10 := x10.kd f7
    refine q H10 ((x1.trans (sx S7)).trans x10) ⟨dx, l4, w2, hp10, ⟨_, k10.l _ _ hl47, ?_⟩, hw10⟩
    show A2 _ (V.ref t :: List.replicate (2 ^ v - 1) V.non) (some (0, []) :: List.replicate (2 ^ v - 1) none)
    exact A2.cons ⟨t, e, rfl, k10.t _ _ ht7, k10.l _ _ he7⟩ (A2.rep (R := PV H10) (x := V.non) (y := none) rfl _)

theorem scTurns : FnScope ["self"] ["self"] (defScope sTurns) := ⟨rfl, rfl, rfl, by decide +kernel, rfl, by decide +kernel, by decide +kernel⟩
theorem ok_turns {CR CF f : Addr} {fd : FuncData} (F : Fun K "turns" "Follower.turns" sTurns f fd) (T : Tx K mg CR CF) : FnOk P w K mg base CX0 1 f fd ["self"] (spTurns CF) := by
  refine F.ok scTurns (fun vs H Q E h => ?_) (fun cdv A outer s H vs Q E hr h => ?_)
  · obtain ⟨p, _, _, _, _, rfl, _⟩ := h
    rfl
  · obtain ⟨p, r, ps, W, t, rfl, ⟨dx, ap, aw, g⟩, q⟩ := h
    exact ⟨_, pss_one (ps_ret (pe_fld (pv 0) rfl)), _, rfl, p, CF, dx, _, _, rfl, g.h, T.clF, T.fT, fF_t _ _ _ _, q⟩
theorem scWaiting : FnScope ["self"] ["self"] (defScope sWaiting) := ⟨rfl, rfl, rfl, by decide +kernel, rfl, by decide +kernel, by decide +kernel⟩
theorem ok_waiting {CR CF f : Addr} {fd : FuncData} (F : Fun K "waiting" "Follower.waiting" sWaiting f fd) (T : Tx K mg CR CF) : FnOk P w K mg base CX0 1 f fd ["self"] (spWaiting CF) := by
  refine F.ok scWaiting (fun vs H Q E h => ?_) (fun cdv A outer s H vs Q E hr h => ?_)
  · obtain ⟨p, _, _, _, _, rfl, _⟩ := h
    rfl
  · obtain ⟨p, r, ps, W, t, rfl, ⟨dx, ap, aw, g⟩, q⟩ := h
    refine ⟨_, pss_one (ps_ret (pe_callB call_len_seq (by rfl) T.len PySem.boot_len (pa_cons (pe_fld (pv 0) rfl) pa_nil))), _, rfl, p, CF, dx, _, _, rfl, g.h, T.clF, T.fW, fF_w _ _ _ _, aw, _, rfl, .inl (SqL.of g.w), ?_⟩
    exact qi (by rw [List.length_map]) q

theorem scPrices : FnScope ["self", "path"] ["self"] (defScope sPrices) := ⟨rfl, rfl, rfl, by decide +kernel, rfl, by decide +kernel, by decide +kernel⟩
theorem ok_prices {CR CF f : Addr} {fd : FuncData} (F : Fun K "prices" "Follower.prices" sPrices f fd) (T : Tx K mg CR CF) : FnOk P w K mg base CX0 1 f fd ["self"] (spPrices CF) := by
  refine F.ok scPrices (fun vs H Q E h => ?_) (fun cdv A outer s H vs Q E hr h => ?_)
  · obtain ⟨p, _, _, _, _, rfl, _⟩ := h
    rfl
  · obtain ⟨p, r, ps, W, t, rfl, ⟨dx, ap, aw, g⟩, hsz, q⟩ := h
    refine ⟨_, pss_one (ps_ret (pe_lc (own := [("path", 1)]) (g := gName 1) (by rfl) scPrices.nd (pi_list (pe_fld (pv 0) rfl))
      (blkOk_by (own := [("path", 1)]) (N := ["self", "path"]) (sc := defScope sPrices) (by decide +kernel))
      (fun _ _ _ _ _ => pg_name (i := 1) scPrices.nd rfl (Or.inl rfl)) (fun _ _ _ _ _ => pts_nil)
      (fun _ _ _ _ _ => pe_ifExp (pt_cmpR op_isN (pv 1) pe_non (nomark _)) pe_non (pe_ix (ixT K) (pv 1) pe_int (fun _ _ => rfl))))), ?_⟩
    obtain ⟨vs, hv, hA⟩ := g.p
    refine ⟨_, rfl, p, CF, dx, _, _, rfl, g.h, T.clF, T.fP, fF_p _ _ _ _, ap, rfl, ⟨_, SqL.of hv⟩, fun D hD => ?_⟩
    have nD : ap ≠ D := ne_of_none hv hD
    refine lc_list (K := K) (a := ap) (xs := vs) (fun i H' => H' = upd H D (.lst (((ps.take i).map pr).map ov))) (by simp) (fun i H' _ e => by rw [e]; exact SqL.of (by rw [upd_ne nD]; exact hv)) ?_ ?_
    · rintro i x H' hx rfl
      obtain ⟨o, ho, hpv⟩ := hA.at1 hx
      have hi : i < ps.length := (List.getElem?_eq_some_iff.mp ho).1
      have hsz2 : (((ps.take i).map pr).map ov).length < sizeLine := szline (by simp; omega)
      have fin_ : ∀ y, y = ov (pr o) → upd (upd H D (.lst (((ps.take i).map pr).map ov))) D (.lst (((ps.take i).map pr).map ov ++ [y])) = upd H D (.lst (((ps.take (i + 1)).map pr).map ov)) := by
        intro y hy
        rw [upd_upd, List.take_add_one, ho, hy, List.map_append, List.map_append]
        rfl
      refine ⟨rfl, tyesI ?_⟩
      cases o with
      | none =>
        cases hpv
        refine ⟨_, rfl, rfl, _, rfl, iteT ⟨_, upd_same, hsz2, fin_ _ rfl⟩⟩
      | some cl =>
        obtain ⟨c, l⟩ := cl
        obtain ⟨tp, b, rfl, htp, hb⟩ := hpv
        have ntD : tp ≠ D := ne_of_none htp hD
        refine ⟨_, rfl, rfl, false, rfl, iteF ?_⟩
        refine ⟨_, rfl, tp, _, 0, _, rfl, rfl, SqT.of (by rw [upd_ne ntD]; exact htp), at_of (j := 0) rfl rfl, _, upd_same, hsz2, fin_ _ rfl⟩
    · rintro H' rfl
      refine q _ D (same_new hD) ?_
      show (upd H D _) D = _
      rw [upd_same, hA.1, List.take_length]

theorem scTold : FnScope ["self", "state"] ["self", "state"] (defScope sTold) := ⟨rfl, rfl, rfl, by decide +kernel, rfl, by decide +kernel, by decide +kernel⟩
theorem ok_told {CR CF f : Addr} {fd : FuncData} (F : Fun K "told" "Follower.told" sTold f fd) (T : Tx K mg CR CF) : FnOk P w K mg base CX0 1 f fd ["self", "state"] (spTold CF) := by
  refine F.ok scTold (fun vs H Q E h => ?_) (fun cdv A outer s H vs Q E hr h => ?_)
  · obtain ⟨p, _, _, _, _, k, _, _, rfl, _⟩ := h
    rfl
  · obtain ⟨p, r, ps, W, t, k, c, l, rfl, ⟨dx, ap, aw, g⟩, hk, q⟩ := h
    refine ⟨_, pss_cons (ps_if (pt_not (pt_chain op_le op_lt pe_int (pv 1) (pe_callB call_len_seq (by rfl) T.len PySem.boot_len (pa_cons (pe_fld (pv 0) rfl) pa_nil)))) pss_never pss_nil)
      (pss_cons (ps_if (pt_cmpR op_isN (pe_ix ix_list (pe_fld (pv 0) rfl) (pv 1) (fun _ _ => rfl)) pe_non (nomark _)) pss_never pss_nil)
      (pss_one (ps_ret (pe_callTy call_list_of (by rfl) T.list (by decide +kernel) (pa_cons (pe_ix ix_tup (pe_ix ix_list (pe_fld (pv 0) rfl) (pv 1) (fun _ _ => rfl)) pe_int (fun _ _ => rfl)) pa_nil))))), ?_⟩
    obtain ⟨vs, hv, hA⟩ := g.p
    obtain ⟨x, hx, tp, b, rfl, htp, hb⟩ := hA.at_ hk
    have hkl : k < vs.length := (List.getElem?_eq_some_iff.mp hx).1
    refine ⟨_, rfl, _, _, rfl, rfl, true, congrArg V.bl (decide_eq_true (by omega)), iteT ⟨_, rfl, p, CF, dx, _, _, rfl, g.h, T.clF, T.fP, fF_p _ _ _ _, ap, _, rfl, .inl (SqL.of hv), _, _, rfl, rfl, true, congrArg V.bl (decide_eq_true (by omega)), iteF ?_⟩⟩
    refine ⟨_, rfl, p, CF, dx, _, _, rfl, g.h, T.clF, T.fP, fF_p _ _ _ _, _, rfl, ap, _, _, _, rfl, rfl, SqL.of hv, atI_nat hx, rfl, false, rfl, iteF ?_⟩
    refine ⟨_, rfl, p, CF, dx, _, _, rfl, g.h, T.clF, T.fP, fF_p _ _ _ _, _, rfl, ap, _, _, _, rfl, rfl, SqL.of hv, atI_nat hx, tp, _, 1, _, rfl, rfl, SqT.of htp, at_of (j := 1) rfl rfl, b, _, rfl, .inl (SqL.of hb), fun q2 hq2 => ?_⟩
    exact q _ q2 (same_new hq2) upd_same

theorem scGiven : FnScope ["self", "path"] ["self"] (defScope sGiven) := ⟨rfl, rfl, rfl, by decide +kernel, rfl, by decide +kernel, by decide +kernel⟩
theorem ok_given {CR CF f fC : Addr} {fd fdC : FuncData} (F : Fun K "given" "Follower.given" sGiven f fd) (T : Tx K mg CR CF)
    (GC : FnOk P w K mg base CX0 1 fC fdC ["rows"] spCommon) (bC : Binds K fdC ["rows"] []) (gC : mg "common_beginning" = some (.ref fC)) (kC : PySem.W.keepIn K (.ref fC) = true) :
    FnOk P w K mg base CX0 2 f fd ["self"] (spGiven CF) := by
  refine F.ok scGiven (fun vs H Q E h => ?_) (fun cdv A outer s H vs Q E hr h => ?_)
  · obtain ⟨p, _, _, _, _, rfl, _⟩ := h
    rfl
  · obtain ⟨p, r, ps, W, t, rfl, ⟨dx, ap, aw, g⟩, hne, hsz, hrl, q⟩ := h
    refine ⟨_, pss_one (ps_ret (pe_call GC hr (by rfl) gC kC bC .nil pass0 (pa_cons (pe_lc (own := [("path", 1)]) (g := gName 1) (by rfl) scGiven.nd (pi_list (pe_fld (pv 0) rfl))
      (blkOk_by (own := [("path", 1)]) (N := ["self", "path"]) (sc := defScope sGiven) (by decide +kernel))
      (fun _ _ _ _ _ => pg_name (i := 1) scGiven.nd rfl (Or.inl rfl)) (fun _ _ _ _ _ => pts_one (pt_cmpR op_notN (pv 1) pe_non (nomark _)))
      (fun _ _ _ _ _ => pe_ix (ixT K) (pv 1) pe_int (fun _ _ => rfl))) pa_nil))), ?_⟩
    obtain ⟨vs, hv, hA⟩ := g.p
    refine ⟨_, rfl, p, CF, dx, _, _, rfl, g.h, T.clF, T.fP, fF_p _ _ _ _, ap, rfl, ⟨_, SqL.of hv⟩, fun D hD => ?_⟩
    have nD : ap ≠ D := ne_of_none hv hD
    refine lc_list (K := K) (a := ap) (xs := vs) (fun i H' => ∃ us, H' = upd H D (.lst us) ∧ A2 (RL H) us (rowsOf (ps.take i)) ∧ us.length ≤ i) ⟨[], rfl, by simp [rowsOf]; exact A2.nil, Nat.le_refl _⟩
      (fun i H' _ ⟨us, e, _⟩ => by rw [e]; exact SqL.of (by rw [upd_ne nD]; exact hv)) ?_ ?_
    · rintro i x H' hx ⟨us, rfl, hU, hul⟩
      obtain ⟨o, ho, hpv⟩ := hA.at1 hx
      have hi : i < ps.length := (List.getElem?_eq_some_iff.mp ho).1
      have et : ps.take (i + 1) = ps.take i ++ [o] := by rw [List.take_add_one, ho]; rfl
      refine ⟨rfl, ?_⟩
      cases o with
      | none =>
        cases hpv
        refine ⟨_, rfl, rfl, false, rfl, iteF ⟨us, rfl, ?_, by omega⟩⟩
        rw [et]
        unfold rowsOf
        rw [List.filterMap_append]
        simp only [List.filterMap_cons, Option.map_none, List.filterMap_nil, List.append_nil]
        exact hU
      | some cl =>
        obtain ⟨c, l⟩ := cl
        obtain ⟨tp, b, rfl, htp, hb⟩ := hpv
        have ntD : tp ≠ D := ne_of_none htp hD
        refine ⟨_, rfl, rfl, true, rfl, iteT ?_⟩
        refine ⟨_, rfl, tp, _, 1, _, rfl, rfl, SqT.of (by rw [upd_ne ntD]; exact htp), at_of (j := 1) rfl rfl, us, upd_same, szline (by omega), us ++ [V.ref b], upd_upd, ?_, by simp; omega⟩
        rw [et]
        unfold rowsOf
        rw [List.filterMap_append]
        exact hU.snoc ⟨b, rfl, hb⟩
    · rintro H' ⟨us, rfl, hU, hul⟩
      rw [hA.1, List.take_length] at hU
      have sD := same_new (o := .lst us) hD
      refine ⟨D, rowsOf ps, rfl, ⟨us, upd_same, hU.imp fun x y z => z.kd (kd sD)⟩, hne, hrl, fun H2 q2 c s2 hc hi => ?_⟩
      have := Com.uniq hc (lawBeg_com hne)
      subst this
      exact q H2 q2 (sD.trans s2) hi
end
end Fh
namespace Fh
open PySem PySem.Spec PyProof.Rows L2

/-- a state's k first inputs relaxed -/
def stepK (nx : Nat → Nat → Nat) (wt : Nat → Nat → Int) (s : Nat) (c : Int) (l : List Int) (acc : List Path) : Nat → List Path
  | 0 => acc
  | k + 1 => relax (stepK nx wt s c l acc k) (nx s k) (c + wt s k, l ++ [(k : Int)])
theorem stepK_two {nx : Nat → Nat → Nat} {wt : Nat → Nat → Int} {ps acc : List Path} {s : Nat} {c : Int} {l : List Int} (h : ps[s]? = some (some (c, l))) : stepK nx wt s c l acc 2 = stepS nx wt ps acc s := by
  unfold stepS
  rw [h]
  rfl
theorem stepS_none {nx : Nat → Nat → Nat} {wt : Nat → Nat → Int} {ps acc : List Path} {s : Nat} (h : ps[s]? = some none) : stepS nx wt ps acc s = acc := by
  unfold stepS
  rw [h]
theorem stepK_len {nx wt s c l acc} : ∀ k, (stepK nx wt s c l acc k).length = acc.length
  | 0 => rfl
  | k + 1 => by rw [stepK, relax_len, stepK_len k]
/-- what relax makes of the entry -/
theorem relax_set {acc : List Path} {k : Nat} {p : Int × List Int} {o : Path} (h : acc[k]? = some o) (g : ∀ q, o = some q → ltP p q = true) : relax acc k p = acc.set k (some p) := by
  unfold relax
  rw [h]
  cases o with
  | none => rfl
  | some q => simp only [g q rfl, if_true]
theorem relax_keep {acc : List Path} {k : Nat} {p q : Int × List Int} (h : acc[k]? = some (some q)) (g : ltP p q = false) : relax acc k p = acc := by
  unfold relax
  rw [h]
  simp [g]

def spTurn (CR CF : Addr) : Sp := fun vs H Q _ => ∃ (p r b : Addr) (ps : List Path) (W part : List (Option Int)) (t v : Nat) (taps : List Int), vs = [.ref p, .ref b] ∧ FolAt CF H p r ps W t ∧ RegAt CR H r v taps ∧ OL H b part ∧ part.length = taps.length ∧ ps.length = 2 ^ v ∧
  (∀ l ∈ rowsOf ps, l.length ≤ 1000) ∧ ∀ H', SameX p H H' → FolAt CF H' p r (turnF (nxt v) (wOf v taps part) ps) W (t + 1) → Q .non H'
theorem pv_row {ps : List Path} {s : Nat} {c : Int} {l : List Int} (h : ps[s]? = some (some (c, l))) : l ∈ rowsOf ps := mem_rows.mpr ⟨c, List.mem_of_getElem? h⟩

section
variable {P : Program} {w : World} {K : PySem.W.Frag} {mg : Str → Option Value} {base : Heap}
theorem scTurn : FnScope ["self", "received", "paths", "state", "total", "inputs", "bit", "after", "path"] ["self", "received"] (defScope sTurn) := ⟨rfl, rfl, rfl, by decide +kernel, rfl, by decide +kernel, by decide +kernel⟩
theorem ok_turn {CR CF f fN fO fD : Addr} {fd fdN fdO fdD : FuncData} (F : Fun K "_turn" "Follower._turn" sTurn f fd) (T : Tx K mg CR CF)
    (GN : FnOk P w K mg base CX0 1 fN fdN ["self", "state", "bit"] (spNext CR)) (bN : Binds K fdN ["self", "state", "bit"] []) (mN : Meth K CR "next_state" fN)
    (GO : FnOk P w K mg base CX0 1 fO fdO ["self", "state", "bit"] (spOut CR)) (bO : Binds K fdO ["self", "state", "bit"] []) (mO : Meth K CR "out" fO)
    (GD : FnOk P w K mg base CX0 1 fD fdD ["bits", "received"] spDiff) (bD : Binds K fdD ["bits", "received"] []) (gD : mg "differing" = some (.ref fD)) (kD : PySem.W.keepIn K (.ref fD) = true) :
    FnOk P w K mg base CX0 2 f fd ["self", "received"] (spTurn CR CF) := by
  refine F.ok scTurn (fun vs H Q E h => ?_) (fun cdv A outer s H vs Q E hr h => ?_)
  · obtain ⟨p, r, b, _, _, _, _, _, _, rfl, _⟩ := h
    rfl
  · obtain ⟨p, r, b, ps, W, part, t, v, taps, rfl, FF, RR, hb, hpl, hpsl, hrl, q⟩ := h
    refine ⟨_, pss_cons (ps_set (i := 2) scTurn.nd rfl (.inl rfl) (pe_op op_rep (pe_lst (pa_cons pe_non pa_nil)) (pe_callB call_len_seq (by rfl) T.len PySem.boot_len (pa_cons (pe_fld (pv 0) rfl) pa_nil))))
      (pss_cons (ps_for PassesOwn.never rfl (pi_range1 (by rfl) T.range (pa_cons (pe_callB call_len_seq (by rfl) T.len PySem.boot_len (pa_cons (pe_fld (pv 0) rfl) pa_nil)) pa_nil)) (pg_name (i := 3) scTurn.nd rfl (.inl rfl))
        (pss_one (ps_if (pt_cmpR op_notN (pe_ix ix_list (pe_fld (pv 0) rfl) (pv 3) (fun _ _ => rfl)) pe_non (nomark _))
          (pss_cons (ps_asg (pe_ix ix_list (pe_fld (pv 0) rfl) (pv 3) (fun _ _ => rfl)) (pg_tup rfl (pgs_cons (pg_name (i := 4) scTurn.nd rfl (.inl rfl)) (pgs_cons (pg_name (i := 5) scTurn.nd rfl (.inl rfl)) pgs_nil))))
          (pss_one (ps_for PassesOwn.never rfl (pi_tup (pe_tup (pa_cons pe_int (pa_cons pe_int pa_nil)))) (pg_name (i := 6) scTurn.nd rfl (.inl rfl))
            (pss_cons (ps_set (i := 7) scTurn.nd rfl (.inl rfl) (pe_meth (pe_fld (pv 0) rfl) T.clR mN GN hr bN .nil pass0 (pa_cons (pv 3) (pa_cons (pv 6) pa_nil))))
            (pss_cons (ps_set (i := 8) scTurn.nd rfl (.inl rfl) (pe_tup (pa_cons (pe_op op_add (pv 4) (pe_call GD hr (by rfl) gD kD bD .nil pass0 (pa_cons (pe_meth (pe_fld (pv 0) rfl) T.clR mO GO hr bO .nil pass0 (pa_cons (pv 3) (pa_cons (pv 6) pa_nil))) (pa_cons (pv 1) pa_nil))))
                (pa_cons (pe_lst (StX.pa_star (pv 5) (pa_cons (pv 6) pa_nil))) pa_nil))))
            (pss_one (ps_if (PW.pt (pw_or (pt_cmpR op_isN (pe_ix ix_list (pv 2) (pv 7) (fun _ _ => rfl)) pe_non (nomark _)) (pw_or1 (pt_cmpR (op_ltP hr.units) (pv 8) (pe_ix ix_list (pv 2) (pv 7) (fun _ _ => rfl)) (nomark _)))))
              (pss_one (ps_asg (pv 8) (pg_sub (pv 2) (pv 7) set_list))) pss_nil)))))) ) pss_nil)))
      (pss_cons (ps_fld (pv 0) (pv 2) rfl)
      (pss_one (ps_fldaug (pv 0) pe_int in_add)))), ?_⟩
    have hM := RR.ok.pow
    have h4 := RR.ok.n4
    obtain ⟨dx, ap, aw, g⟩ := id FF
    obtain ⟨vs0, hv0, hA0⟩ := g.p
    have hvl : vs0.length = 2 ^ v := by rw [hA0.1, hpsl]
    -- paths = [None] * len(..)
    refine ⟨by decide, fun l1 hl1 => ?_⟩
    have s1 := same_new (o := .lst [V.non]) hl1
    refine ⟨_, rfl, p, CF, dx, _, _, rfl, s1 _ _ g.h, T.clF, T.fP, fF_p _ _ _ _, ap, _, rfl, .inl (SqL.of (s1 _ _ hv0)), ?_⟩
    refine ⟨l1, _, _, rfl, rfl, upd_same, by omega, by omega, szle (by rw [List.length_singleton, Int.toNat_natCast]; omega), fun pa hpa => ?_⟩
    rw [Int.toNat_natCast, rep_flat, hvl]
    have s2 := same_new (o := .lst (List.replicate (2 ^ v) V.non)) hpa
    have S2 := s1.trans s2
    have hpa0 : H pa = none := hpa |> s1.free
    have bn := wbnd (n := vs0.length) (by omega)
    refine ⟨_, rfl, p, CF, dx, _, _, rfl, S2 _ _ g.h, T.clF, T.fP, fF_p _ _ _ _, ap, _, rfl, .inl (SqL.of (S2 _ _ hv0)), _, rfl, bn.1, bn.2, ?_⟩
    refine for_range (fun i σ H' => ∃ (y3 y4 y5 y6 y7 y8 : Option V) (us : List V), σ = [some (.ref p), some (.ref b), some (.ref pa), y3, y4, y5, y6, y7, y8] ∧ Same H H' ∧ H' pa = some (.lst us) ∧ A2 (PV (hid H' pa)) us (turnTo (nxt v) (wOf v taps part) ps i))
      ⟨none, none, none, none, none, none, _, rfl, S2, upd_same, ?_⟩ ?_ ?_
    · rw [turnTo, hpsl]
      exact A2.rep (R := PV _) (x := V.non) (y := none) rfl _
    · rintro i σ Hi hi ⟨y3, y4, y5, y6, y7, y8, us, rfl, Si, hpi, hAi⟩
      have hi2 : i < 2 ^ v := by rw [Int.toNat_natCast, hvl] at hi; exact hi
      have e0 : (0 : Int) + (i : Int) = (i : Int) := by omega
      rw [e0]
      obtain ⟨o, ho⟩ : ∃ o, ps[i]? = some o := ⟨_, List.getElem?_eq_getElem (by omega)⟩
      obtain ⟨x, hx, hpv⟩ := hA0.at_ ho
      refine ⟨_, rfl, p, CF, dx, _, _, rfl, Si _ _ g.h, T.clF, T.fP, fF_p _ _ _ _, _, rfl, ap, _, _, _, rfl, rfl, SqL.of (Si _ _ hv0), atI_nat hx, ?_⟩
      cases o with
      | none =>
        cases hpv
        refine ⟨rfl, false, rfl, iteF ?_⟩
        refine ⟨_, _, _, _, _, _, us, rfl, Si, hpi, ?_⟩
        rw [turnTo, stepS_none ho]
        exact hAi
      | some cl =>
        obtain ⟨c, l⟩ := cl
        obtain ⟨tp, lb, rfl, htp, hlb⟩ := hpv
        refine ⟨rfl, true, rfl, iteT ?_⟩
        -- total, inputs = ..
        refine ⟨_, rfl, p, CF, dx, _, _, rfl, Si _ _ g.h, T.clF, T.fP, fF_p _ _ _ _, _, rfl, ap, _, _, _, rfl, rfl, SqL.of (Si _ _ hv0), atI_nat hx, ?_⟩
        refine ⟨tp, _, rfl, SqT.of (Si _ _ htp), rfl, _, _, rfl, _, _, rfl, rfl, ?_⟩
        -- for bit in (0, 1)
        refine ⟨by decide, fun tb htb => ?_⟩
        have sB := same_new (o := .tup [V.int 0, V.int 1]) htb
        refine ⟨tb, rfl, ⟨_, SqT.of upd_same⟩, ?_⟩
        have npt : pa ≠ tb := ne_of_none hpi htb
        have hll : l.length ≤ 1000 := hrl l (pv_row ho)
        refine for_tup (xs := [V.int 0, V.int 1]) (fun k σ H' => ∃ (y6 y7 y8 : Option V) (us : List V), σ = [some (.ref p), some (.ref b), some (.ref pa), some (.int (i : Int)), some (.int c), some (.ref lb), y6, y7, y8] ∧ Same H H' ∧ H' tb = some (.tup [V.int 0, V.int 1]) ∧
            H' pa = some (.lst us) ∧ A2 (PV (hid H' pa)) us (stepK (nxt v) (wOf v taps part) i c l (turnTo (nxt v) (wOf v taps part) ps i) k))
          ⟨y6, y7, y8, us, rfl, Si.trans sB, upd_same, by rw [upd_ne npt]; exact hpi, by rw [hid_new (Ne.symm npt)]; exact hAi.imp fun x y z => z.kd (kd (same_new (hid_none htb)))⟩ (fun k σ H' _ ⟨_, _, _, _, _, _, h, _⟩ => SqT.of h) ?_ ?_
        · rintro k x σ Hk hk ⟨y6, y7, y8, us, rfl, Sk, htbk, hpk, hAk⟩
          obtain ⟨rfl, hk2⟩ : x = V.int (k : Int) ∧ k < 2 := by
            match k, hk with
            | 0, hk => exact ⟨(Option.some.inj hk).symm, by decide⟩
            | 1, hk => exact ⟨(Option.some.inj hk).symm, by decide⟩
            | k + 2, hk => simp at hk
          have RK := RR.same Sk
          obtain ⟨dr, at_, ar, gr'⟩ := id RK
          -- after
          refine ⟨_, rfl, p, CF, dx, _, _, rfl, Sk _ _ g.h, T.clF, T.fG, fF_r _ _ _ _, r, dr, _, rfl, gr'.h, rfl, _, rfl, _, rfl, r, v, taps, i, k, rfl, RK, ?_⟩
          -- path
          refine ⟨_, rfl, _, rfl, p, CF, dx, _, _, rfl, Sk _ _ g.h, T.clF, T.fG, fF_r _ _ _ _, r, dr, _, rfl, gr'.h, rfl, _, rfl, _, rfl, r, v, taps, i, k, rfl, RK, hi2, hk2, fun o1 ho1 => ?_⟩
          have sO := same_new (o := .lst ((rowAt v taps (k + 2 * i)).map V.int)) ho1
          have hw : k + 2 * i < 2 * 2 ^ v := by omega
          have hrow := rowAt_len (taps := taps) hw
          refine ⟨_, rfl, o1, b, rowAt v taps (k + 2 * i), part, rfl, upd_same, (sO _ _ (Sk _ _ hb)), by omega, by omega, fun Hm sm => ?_⟩
          have Sm := sO.trans sm
          refine ⟨_, _, rfl, rfl, ?_⟩
          -- [*inputs, bit]
          have hlbm : Hm lb = some (.lst (l.map V.int)) := Sm _ _ (Sk _ _ hlb)
          refine ⟨_, rfl, lb, _, rfl, .inr (SqL.of hlbm), _, rfl, szle (by simp; omega), fun nl hnl => ?_⟩
          have sN := same_new (o := .lst (l.map V.int ++ [V.int (k : Int)])) hnl
          refine ⟨szle (by simp), fun nt hnt => ?_⟩
          have sT := same_new (o := .tup [V.int (c + ((cost (rowAt v taps (k + 2 * i)) part : Nat) : Int)), V.ref nl]) hnt
          have SN := (Sm.trans sN).trans sT
          have npl : nl ≠ pa := fun z => by rw [z] at hnl; rw [Sm _ _ hpk] at hnl; cases hnl
          have npt2 : nt ≠ pa := fun z => by rw [z] at hnt; rw [sN _ _ (Sm _ _ hpk)] at hnt; cases hnt
          generalize hHn : upd (upd Hm nl (.lst (l.map V.int ++ [V.int (k : Int)]))) nt (.tup [V.int (c + ((cost (rowAt v taps (k + 2 * i)) part : Nat) : Int)), V.ref nl]) = Hn at SN ⊢
          have hpn : Hn pa = some (.lst us) := SN _ _ hpk
          have hAn : A2 (PV (hid Hn pa)) us (stepK (nxt v) (wOf v taps part) i c l (turnTo (nxt v) (wOf v taps part) ps i) k) := hAk.imp fun x y z => z.kd (kd (hid_mono SN))
          have hnew : PV (hid Hn pa) (V.ref nt) (some (c + wOf v taps part i k, l ++ [(k : Int)])) := by
            refine ⟨nt, nl, rfl, ?_, ?_⟩
            · rw [hid_ne npt2, ← hHn, upd_same]; rfl
            · unfold IL
              rw [hid_ne npl, ← hHn, sT _ _ (show (upd Hm nl _) nl = _ from upd_same), List.map_append]; rfl
          have hlen : (stepK (nxt v) (wOf v taps part) i c l (turnTo (nxt v) (wOf v taps part) ps i) k).length = 2 ^ v := by rw [stepK_len, turnTo_len, hpsl]
          have hal : nxt v i k < (stepK (nxt v) (wOf v taps part) i c l (turnTo (nxt v) (wOf v taps part) ps i) k).length := by rw [hlen]; exact nxt_lt v i k
          obtain ⟨oa, hoa⟩ : ∃ oa, (stepK (nxt v) (wOf v taps part) i c l (turnTo (nxt v) (wOf v taps part) ps i) k)[nxt v i k]? = some oa := ⟨_, List.getElem?_eq_getElem hal⟩
          obtain ⟨u, hu, hpu⟩ := hAn.at_ hoa
          have hixu : ixN us.length ((nxt v i k : Nat) : Int) = some (nxt v i k) := by
            have hul : us.length = 2 ^ v := by rw [hAn.1, hlen]
            have := nxt_lt v i k
            unfold ixN
            rw [if_pos (by omega), if_pos (by omega)]
            simp
          have SHn := Sk.trans SN
          -- the store
          have store : relax (stepK (nxt v) (wOf v taps part) i c l (turnTo (nxt v) (wOf v taps part) ps i) k) (nxt v i k) (c + wOf v taps part i k, l ++ [(k : Int)]) = (stepK (nxt v) (wOf v taps part) i c l (turnTo (nxt v) (wOf v taps part) ps i) k).set (nxt v i k) (some (c + wOf v taps part i k, l ++ [(k : Int)])) →
              Same H (upd Hn pa (.lst (us.set (nxt v i k) (V.ref nt)))) ∧ A2 (PV (hid (upd Hn pa (.lst (us.set (nxt v i k) (V.ref nt)))) pa)) (us.set (nxt v i k) (V.ref nt)) (stepK (nxt v) (wOf v taps part) i c l (turnTo (nxt v) (wOf v taps part) ps i) (k + 1)) := by
            intro e
            refine ⟨fun d o ed => ?_, ?_⟩
            · rw [upd_ne (ne_of_none ed hpa0)]
              exact SHn _ _ ed
            · rw [hid_upd, stepK, e]
              exact hAn.set _ hnew
          refine ⟨_, rfl, _, rfl, pa, us, _, _, rfl, rfl, SqL.of hpn, atI_nat hu, rfl, _, rfl, ?_⟩
          cases oa with
          | none =>
            cases hpu
            refine iteT (iteT ?_)
            obtain ⟨a1, a2⟩ := store (relax_set hoa fun q hq => by cases hq)
            refine ⟨_, rfl, _, rfl, _, rfl, pa, us, _, _, rfl, rfl, hpn, hixu, ?_⟩
            exact ⟨_, _, _, _, rfl, a1, by rw [upd_ne (Ne.symm npt)]; exact SN _ _ htbk, upd_same, a2⟩
          | some qo =>
            have hpu' := hpu
            obtain ⟨ut, ul, rfl, _, _⟩ := hpu'
            refine iteF ?_
            refine ⟨_, rfl, _, rfl, _, rfl, pa, us, _, _, rfl, rfl, SqL.of hpn, atI_nat hu, ?_⟩
            refine ⟨_, qo, (hnew.kd (kd hid_same)).dp, (hpu.kd (kd hid_same)).dp, _, rfl, ?_⟩
            by_cases hlt : ltP (c + wOf v taps part i k, l ++ [(k : Int)]) qo = true
            · rw [hlt]
              refine iteT ?_
              obtain ⟨a1, a2⟩ := store (relax_set hoa fun q hq => by cases hq; exact hlt)
              refine ⟨_, rfl, _, rfl, _, rfl, pa, us, _, _, rfl, rfl, hpn, hixu, ?_⟩
              exact ⟨_, _, _, _, rfl, a1, by rw [upd_ne (Ne.symm npt)]; exact SN _ _ htbk, upd_same, a2⟩
            · have hlf : ltP (c + wOf v taps part i k, l ++ [(k : Int)]) qo = false := by simpa using hlt
              rw [hlf]
              refine iteF ?_
              refine ⟨_, _, _, us, rfl, SHn, SN _ _ htbk, hpn, ?_⟩
              rw [stepK, relax_keep hoa hlf]
              exact hAn
        · rintro σ Hk ⟨y6, y7, y8, us, rfl, Sk, htbk, hpk, hAk⟩
          refine ⟨_, _, _, _, _, _, us, rfl, Sk, hpk, ?_⟩
          rw [turnTo, ← stepK_two ho]
          exact hAk
    · rintro σ Hi ⟨y3, y4, y5, y6, y7, y8, us, rfl, Si, hpi, hAi⟩
      rw [Int.toNat_natCast, hvl] at hAi
      have ef : turnTo (nxt v) (wOf v taps part) ps (2 ^ v) = turnF (nxt v) (wOf v taps part) ps := by unfold turnF; rw [hpsl]
      rw [ef] at hAi
      have hpp : Hi p = some (.ins CF dx (fF r ap aw t)) := Si _ _ g.h
      refine ⟨_, rfl, _, rfl, p, CF, dx, _, rfl, hpp, T.clF, T.fP, (by show 4 < 1000; decide), ?_⟩
      refine ⟨_, rfl, p, CF, dx, _, _, rfl, upd_same, T.clF, T.fT, (show List.lookup ("_turns" : Str) (putF "_paths" (.ref pa) (fF r ap aw t)) = some (.int (t : Int)) from rfl), _, _, rfl, rfl, ?_⟩
      refine ⟨dx, _, upd_same, (by show 4 < 1000; decide), ?_⟩
      have hpx := (sx_upd (p := p) (H := Hi) (o := .ins CF dx (putF "_paths" (.ref pa) (fF r ap aw t)))).trans (sx_upd (o := .ins CF dx (putF "_turns" (.int ((t : Int) + 1)) (putF "_paths" (.ref pa) (fF r ap aw t)))))
      have kx := hpx.kd hpp
      refine q _ ((sx Si).trans hpx) ⟨dx, pa, aw, ?_, ⟨us, kx.l _ _ hpi, hAi.imp fun x y z => (z.kd (kd hid_same)).kd kx⟩, (g.w.kd (kd Si)).kd kx⟩
      rw [upd_same]
      show some (HO.ins CF dx [("_register", .ref r), ("_paths", .ref pa), ("_waiting", .ref aw), ("_turns", .int ((t : Int) + 1))]) = some (.ins CF dx (fF r pa aw (t + 1)))
      unfold fF
      rw [Int.natCast_succ]
end
end Fh
namespace Fh
open PySem PySem.Spec PyProof.Rows L2

abbrev PAT (v : Nat) (taps : List Int) (R : List (Option Int)) (t : Nat) : List Path := pathsAt (nxt v) (wR v taps R) (2 ^ v) t
theorem PAT_told (v taps R t) : Told (nxt v) (wR v taps R) (2 ^ v) t (PAT v taps R t) := told_at (nxt v) (wR v taps R) (Nat.pow_pos (by decide)) (fun s b _ _ => nxt_lt v s b) t
theorem PAT_len (v taps R t) : (PAT v taps R t).length = 2 ^ v := (PAT_told v taps R t).1
theorem PAT_rows (v taps R t) : rowsOf (PAT v taps R t) ≠ [] := rows_at (Nat.pow_pos (by decide)) (fun s b _ _ => nxt_lt v s b) (wR v taps R) t
theorem PAT_row_len {v taps R t} {l : List Int} (h : l ∈ rowsOf (PAT v taps R t)) : l.length = t := by
  obtain ⟨c, hc⟩ := mem_rows.mp h
  obtain ⟨k, hk⟩ := List.mem_iff_getElem?.mp hc
  exact len_told (Nat.pow_pos (by decide)) (fun s b _ _ => nxt_lt v s b) (wR v taps R) hk
theorem PAT_succ (v taps R t) : PAT v taps R (t + 1) = turnF (nxt v) (wOf v taps (slc R (t * taps.length) (t * taps.length + taps.length))) (PAT v taps R t) := rfl

def spFeed (CR CF : Addr) : Sp := fun vs H Q _ => ∃ (p r b : Addr) (v : Nat) (taps : List Int) (R : List (Option Int)) (a a' t : Nat), vs = [.ref p, .ref b] ∧ FolAt CF H p r (PAT v taps R t) (slc R (t * taps.length) a) t ∧ RegAt CR H r v taps ∧
  OL H b (slc R a a') ∧ t * taps.length ≤ a ∧ a ≤ a' ∧ a' ≤ R.length ∧ R.length ≤ 1000 ∧
  ∀ H' q, SameX p H H' → FolAt CF H' p r (PAT v taps R (a' / taps.length)) (slc R (a' / taps.length * taps.length) a') (a' / taps.length) → IL H' q ((beg (PAT v taps R (a' / taps.length))).drop (beg (PAT v taps R t)).length) → Q (.ref q) H'

section
variable {P : Program} {w : World} {K : PySem.W.Frag} {mg : Str → Option Value} {base : Heap}
theorem scFeed : FnScope ["self", "part", "before", "many"] ["self", "part"] (defScope sFeed) := ⟨rfl, rfl, rfl, by decide +kernel, rfl, by decide +kernel, by decide +kernel⟩
theorem ok_feed {CR CF f fG fT fU : Addr} {fd fdG fdT fdU : FuncData} (F : Fun K "feed" "Follower.feed" sFeed f fd) (T : Tx K mg CR CF)
    (GG : FnOk P w K mg base CX0 2 fG fdG ["self"] (spGiven CF)) (bG : Binds K fdG ["self"] []) (mG : Meth K CF "given" fG)
    (GT : FnOk P w K mg base CX0 1 fT fdT ["self"] (spTaps CR)) (bT : Binds K fdT ["self"] []) (mT : Meth K CR "taps" fT)
    (GU : FnOk P w K mg base CX0 2 fU fdU ["self", "received"] (spTurn CR CF)) (bU : Binds K fdU ["self", "received"] []) (mU : Meth K CF "_turn" fU) :
    FnOk P w K mg base CX0 3 f fd ["self", "part"] (spFeed CR CF) := by
  refine F.ok scFeed (fun vs H Q E h => ?_) (fun cdv A outer s H vs Q E hr h => ?_)
  · obtain ⟨p, r, b, _, _, _, _, _, _, rfl, _⟩ := h
    rfl
  · obtain ⟨p, r, b, v, taps, R, a, a', t, rfl, FF, RR, hb, hta, haa, haR, hRs, q⟩ := h
    have hr1 : Room 1 _ := hr.mono (by decide)
    refine ⟨_, pss_cons (ps_set (i := 2) scFeed.nd rfl (.inl rfl) (pe_callB call_len_seq (by rfl) T.len PySem.boot_len (pa_cons (pe_meth0 (pv 0) T.clF mG GG hr bG .nil pass0) pa_nil)))
      (pss_cons (ps_set (i := 3) scFeed.nd rfl (.inl rfl) (pe_callB call_len_seq (by rfl) T.len PySem.boot_len (pa_cons (pe_meth0 (pe_fld (pv 0) rfl) T.clR mT GT hr1 bT .nil pass0) pa_nil)))
      (pss_cons (ps_fld (pv 0) (pe_op op_cat (pe_fld (pv 0) rfl) (pe_callTy call_list_of (by rfl) T.list (by decide +kernel) (pa_cons (pv 1) pa_nil))) rfl)
      (pss_cons (ps_while PassesOwn.never (pt_cmpR op_ge (pe_callB call_len_seq (by rfl) T.len PySem.boot_len (pa_cons (pe_fld (pv 0) rfl) pa_nil)) (pv 3) (nomark _))
        (pss_cons (ps_expr (pe_meth (pv 0) T.clF mU GU hr bU .nil pass0 (pa_cons (pe_slice sl_list (pe_fld (pv 0) rfl) po_none (po_some (pv 3))) pa_nil)))
        (pss_one (ps_fld (pv 0) (pe_slice sl_list (pe_fld (pv 0) rfl) (po_some (pv 3)) po_none) rfl))))
      (pss_one (ps_ret (pe_slice sl_list (pe_meth0 (pv 0) T.clF mG GG hr bG .nil pass0) (po_some (pv 2)) po_none)))))), ?_⟩
    have h2 := RR.ok.n2
    have h4 := RR.ok.n4
    have hM := RR.ok.pow
    have bnd : ∀ t1, t1 * taps.length ≤ a' → t1 ≤ 1000 := fun t1 h => by
      have := Nat.mul_le_mul_left t1 (show 1 ≤ taps.length by omega)
      omega
    have htl : t ≤ 1000 := bnd t (by omega)
    have nrp := FF.ne RR
    -- before
    obtain ⟨dx, ap, aw, g⟩ := id FF
    refine ⟨_, rfl, p, dx, _, rfl, g.h, rfl, p, r, _, _, t, rfl, FF, PAT_rows v taps R t, by rw [PAT_len]; omega, fun l hl => by rw [PAT_row_len hl]; exact htl, fun H1 q1 s1 hq1 => ?_⟩
    refine ⟨q1, _, rfl, .inl (SqL.of hq1), ?_⟩
    -- many
    have RR1 := RR.same s1
    obtain ⟨dr, at_, ar, gr'⟩ := id RR1
    refine ⟨_, rfl, p, CF, dx, _, _, rfl, s1 _ _ g.h, T.clF, T.fG, fF_r _ _ _ _, r, dr, _, rfl, gr'.h, rfl, r, v, taps, rfl, RR1, fun p2 hp2 => ?_⟩
    have s2 := same_new (o := .lst (taps.map V.int)) hp2
    refine ⟨p2, _, rfl, .inl (SqL.of upd_same), ?_⟩
    have S2 := s1.trans s2
    -- self._waiting = self._waiting + list(part)
    refine ⟨_, rfl, p, CF, dx, _, _, rfl, S2 _ _ g.h, T.clF, T.fW, fF_w _ _ _ _, _, rfl, b, _, rfl, .inl (SqL.of (S2 _ _ hb)), fun p3 hp3 => ?_⟩
    have s3 := same_new (o := .lst ((slc R a a').map ov)) hp3
    have S3 := S2.trans s3
    have lw := slc_len (R := R) hta (show a ≤ R.length by omega)
    have lp := slc_len (R := R) haa haR
    refine ⟨aw, p3, _, _, rfl, rfl, S3 _ _ g.w, upd_same, szle (by rw [List.length_map, List.length_map, lw, lp]; omega), fun p4 hp4 => ?_⟩
    have s4 := same_new (o := .lst ((slc R (t * taps.length) a).map ov ++ (slc R a a').map ov)) hp4
    have S4 := S3.trans s4
    have eapp : (slc R (t * taps.length) a).map ov ++ (slc R a a').map ov = (slc R (t * taps.length) a').map ov := by
      rw [← List.map_append, slc_app hta haa]
    rw [eapp] at s4 S4 ⊢
    generalize hH4 : upd (upd (upd H1 p2 (.lst (taps.map V.int))) p3 (.lst ((slc R a a').map ov))) p4 (.lst ((slc R (t * taps.length) a').map ov)) = H4 at s4 S4 ⊢
    have w4 : OL H4 p4 (slc R (t * taps.length) a') := by unfold OL; rw [← hH4]; exact upd_same
    have g4 := S4 _ _ g.h
    refine ⟨_, rfl, p, CF, dx, _, rfl, g4, T.clF, T.fW, (by show 4 < 1000; decide), ?_⟩
    have x5 := sx_upd (p := p) (H := H4) (o := .ins CF dx (putF "_waiting" (.ref p4) (fF r ap aw t)))
    have k5 := x5.kd g4
    have F5 : FolAt CF (upd H4 p (.ins CF dx (putF "_waiting" (.ref p4) (fF r ap aw t)))) p r (PAT v taps R t) (slc R (t * taps.length) a') t :=
      ⟨dx, ap, p4, upd_same, (g.p.kd (kd S4)).kd k5, w4.kd k5⟩
    have X5 := (sx (p := p) S4).trans x5
    refine ⟨fun m σ H' => ∃ t1, σ = [some (.ref p), some (.ref b), some (.int (((beg (PAT v taps R t)).map V.int).length : Int)), some (.int ((taps.map V.int).length : Int))] ∧ SameX p H H' ∧ t1 * taps.length ≤ a' ∧ m = a' - t1 * taps.length ∧
        FolAt CF H' p r (PAT v taps R t1) (slc R (t1 * taps.length) a') t1, ⟨_, t, rfl, X5, by omega, rfl, F5⟩, ?_⟩
    rintro m σ Hi ⟨t1, rfl, Xi, hle, rfl, Fi⟩
    have Ri := RR.sx Xi g.h nrp
    obtain ⟨dx1, ap1, aw1, g1⟩ := id Fi
    have lsl := slc_len (R := R) hle haR
    refine ⟨_, rfl, p, CF, dx1, _, _, rfl, g1.h, T.clF, T.fW, fF_w _ _ _ _, aw1, _, rfl, .inl (SqL.of g1.w), _, rfl, _, _, rfl, rfl, _, rfl, ?_⟩
    have l1 : ((slc R (t1 * taps.length) a').map ov).length = a' - t1 * taps.length := by rw [List.length_map, lsl]
    have l2 : (taps.map V.int).length = taps.length := List.length_map ..
    refine ite2 (fun c => ?_) (fun c => ?_)
    · have c' : taps.length ≤ a' - t1 * taps.length := by
        have := of_decide_eq_true c
        rw [l1, l2] at this
        omega
      have e1 : (t1 + 1) * taps.length = t1 * taps.length + taps.length := Nat.succ_mul _ _
      refine ⟨fun σ' H'' => ∃ t2, t1 < t2 ∧ σ' = [some (.ref p), some (.ref b), some (.int (((beg (PAT v taps R t)).map V.int).length : Int)), some (.int ((taps.map V.int).length : Int))] ∧ SameX p H H'' ∧ t2 * taps.length ≤ a' ∧
        FolAt CF H'' p r (PAT v taps R t2) (slc R (t2 * taps.length) a') t2, fun σ' H'' ⟨t2, hlt, e, x, hle2, f2⟩ => ⟨_, ?_, t2, e, x, hle2, rfl, f2⟩, ?_⟩
      · have := Nat.mul_le_mul_right taps.length (show t1 + 1 ≤ t2 by omega)
        omega
      -- self._turn(self._waiting[:many])
      refine ⟨_, rfl, p, dx1, _, rfl, g1.h, rfl, _, rfl, p, CF, dx1, _, _, rfl, g1.h, T.clF, T.fW, fF_w _ _ _ _, _, rfl, _, rfl, aw1, _, rfl, SqL.of g1.w, fun p5 hp5 => ?_⟩
      rw [cut_to]
      have s5 := same_new (o := .lst (((slc R (t1 * taps.length) a').map ov).take (taps.map V.int).length)) hp5
      have etake : ((slc R (t1 * taps.length) a').map ov).take (taps.map V.int).length = (slc R (t1 * taps.length) (t1 * taps.length + taps.length)).map ov := by
        rw [l2, ← List.map_take, slc_take (by omega)]
      rw [etake] at s5 ⊢
      refine ⟨p, r, p5, PAT v taps R t1, slc R (t1 * taps.length) a', slc R (t1 * taps.length) (t1 * taps.length + taps.length), t1, v, taps, rfl, Fi.same s5, Ri.same s5, upd_same, by rw [slc_len (by omega) (by omega)]; omega, PAT_len .., fun l hl => by rw [PAT_row_len hl]; exact bnd t1 hle, fun H6 x6 F6 => ?_⟩
      obtain ⟨dx6, ap6, aw6, g6⟩ := id F6
      have Xi6 := (Xi.trans (sx s5)).trans x6
      -- self._waiting = self._waiting[many:]
      refine ⟨_, rfl, p, CF, dx6, _, _, rfl, g6.h, T.clF, T.fW, fF_w _ _ _ _, _, rfl, _, rfl, aw6, _, rfl, SqL.of g6.w, fun p7 hp7 => ?_⟩
      rw [cut_from]
      have edrop : ((slc R (t1 * taps.length) a').map ov).drop (taps.map V.int).length = (slc R ((t1 + 1) * taps.length) a').map ov := by
        rw [l2, ← List.map_drop, slc_drop, e1]
      rw [edrop]
      have s7 := same_new (o := .lst ((slc R ((t1 + 1) * taps.length) a').map ov)) hp7
      refine ⟨_, rfl, p, CF, dx6, _, rfl, s7 _ _ g6.h, T.clF, T.fW, (by show 4 < 1000; decide), ?_⟩
      have x8 := sx_upd (p := p) (H := upd H6 p7 (.lst ((slc R ((t1 + 1) * taps.length) a').map ov))) (o := .ins CF dx6 (putF "_waiting" (.ref p7) (fF r ap6 aw6 (t1 + 1))))
      have k8 := x8.kd (s7 _ _ g6.h)
      refine ⟨t1 + 1, Nat.lt_succ_self _, rfl, (Xi6.trans (sx s7)).trans x8, by omega, dx6, ap6, p7, upd_same, ?_, ?_⟩
      · rw [PAT_succ]; exact (g6.p.kd (kd s7)).kd k8
      · exact OL.kd k8 (show OL _ p7 _ from upd_same)
    · have c' : a' - t1 * taps.length < taps.length := by
        apply Classical.byContradiction
        intro z
        apply c
        refine decide_eq_true ?_
        rw [l1, l2]
        omega
      have et : t1 = a' / taps.length := by
        have hd := Nat.div_add_mod a' taps.length
        have hm := Nat.mod_lt a' (show 0 < taps.length by omega)
        have hc : taps.length * (a' / taps.length) = (a' / taps.length) * taps.length := Nat.mul_comm _ _
        rcases Nat.lt_trichotomy t1 (a' / taps.length) with h | h | h
        · have := Nat.mul_le_mul_right taps.length (show t1 + 1 ≤ a' / taps.length by omega)
          rw [Nat.succ_mul] at this
          omega
        · exact h
        · have := Nat.mul_le_mul_right taps.length (show a' / taps.length + 1 ≤ t1 by omega)
          rw [Nat.succ_mul] at this
          omega
      subst et
      refine ⟨_, rfl, p, dx1, _, rfl, g1.h, rfl, p, r, _, _, a' / taps.length, rfl, Fi, PAT_rows v taps R _, by rw [PAT_len]; omega, fun l hl => by rw [PAT_row_len hl]; exact bnd _ hle, fun H9 q9 s9 hq9 => ?_⟩
      refine ⟨_, rfl, _, rfl, q9, _, rfl, SqL.of hq9, fun p10 hp10 => ?_⟩
      have s10 := same_new (o := .lst (cutV ((beg (PAT v taps R (a' / taps.length))).map V.int) (some (((beg (PAT v taps R t)).map V.int).length : Int)) none)) hp10
      refine q _ p10 ((Xi.trans (sx s9)).trans (sx s10)) ((Fi.same s9).same s10) ?_
      unfold IL
      rw [upd_same, cut_from, List.length_map, List.map_drop]
end
end Fh
namespace Fh
open PySem PySem.Spec PyProof.Rows L2

abbrev sNumbers : Stmt := top 26
abbrev sLTaps : Stmt := top 27
abbrev sLTable : Stmt := top 28
abbrev sLRun : Stmt := top 29
abbrev sLBit : Stmt := top 31
abbrev sLReceived : Stmt := top 32

def spNumbers (K : PySem.W.Frag) : Sp := fun vs H Q _ => ∃ (a : Addr) (ns : List Int), vs = [.ref a, .int 260] ∧ SqL K H a (ns.map V.int) ∧ ns.length ≤ 63 ∧
  ∀ H' p out, Same H H' → IL H' p out → out.length = 260 → Q (.ref p) H'
def spLTaps : Sp := fun vs H Q _ => ∃ (a : Addr) (ns : List Int), vs = [.ref a, .int 0] ∧ IL H a ns ∧ ns.length = 260 ∧
  ∀ H' t p (v : Nat) taps, Same H H' → H' t = some (.tup [.int (v : Int), .ref p]) → IL H' p taps → RegOk v taps → Q (.ref t) H'
def spLBit : Sp := fun vs H Q _ => ∃ (a : Addr) (ns : List Int) (k : Nat), vs = [.ref a, .int (k : Int)] ∧ IL H a ns ∧ ns.length = 260 ∧ k < 97 ∧ ∀ x : Nat, x < 2 → Q (.int (x : Int)) H

section
variable {P : Program} {w : World} {K : PySem.W.Frag} {mg : Str → Option Value} {base : Heap}
theorem scLCost : FnScope ["_law_row", "_law_part", "_law_k"] ["_law_row", "_law_part"] (defScope sLCost) := ⟨rfl, rfl, rfl, by decide +kernel, rfl, by decide +kernel, by decide +kernel⟩
theorem ok_lcost {CR CF f : Addr} {fd : FuncData} (F : Fun K "_law_cost" "_law_cost" sLCost f fd) (T : Tx K mg CR CF) : FnOk P w K mg base CX0 1 f fd ["_law_row", "_law_part"] spDiff := by
  refine F.ok scLCost (fun vs H Q E h => ?_) (fun cdv A outer s H vs Q E hr h => ?_)
  · obtain ⟨a, b, _, _, rfl, _⟩ := h
    rfl
  · obtain ⟨a, b, bits, part, rfl, ha, hb, hle, hsz, q⟩ := h
    refine ⟨_, pss_one (ps_ret (pe_callB call_len_seq (by rfl) T.len PySem.boot_len (pa_cons (pe_lc (own := [("_law_k", 2)]) (g := gName 2) (by rfl) scLCost.nd
      (pi_range1 (by rfl) T.range (pa_cons (pe_callB call_len_seq (by rfl) T.len PySem.boot_len (pa_cons (pv 0) pa_nil)) pa_nil))
      (blkOk_by (own := [("_law_k", 2)]) (N := ["_law_row", "_law_part", "_law_k"]) (sc := defScope sLCost) (by decide +kernel))
      (fun _ _ _ _ _ => pg_name (i := 2) scLCost.nd rfl (Or.inl rfl))
      (fun _ _ _ _ _ => pts_one (PW.pt (pw_and (pt_cmpR op_notN (pe_ix (ixL K) (pv 1) (pv 2) (fun _ _ => rfl)) pe_non (nomark _)) (pw_and1 (pt_cmpR op_ne (pe_ix (ixL K) (pv 1) (pv 2) (fun _ _ => rfl)) (pe_ix (ixL K) (pv 0) (pv 2) (fun _ _ => rfl)) (nomark _))))))
      (fun _ _ _ _ _ => pv 2)) pa_nil))), ?_⟩
    refine ⟨_, rfl, a, _, rfl, .inl (SqL.of ha), ?_⟩
    have hn : (bits.map V.int).length = bits.length := List.length_map ..
    have bn := wbnd (n := (bits.map V.int).length) (by omega)
    refine ⟨_, rfl, bn.1, bn.2, fun D hD => ?_⟩
    have nba : a ≠ D := ne_of_none ha hD
    have nbb : b ≠ D := ne_of_none hb hD
    refine lc_range (fun i H' => ∃ acc : List V, acc.length = costTo bits part i ∧ H' = upd H D (.lst acc)) ⟨[], rfl, rfl⟩ ?_ ?_
    · rintro i H' hi ⟨acc, hl, rfl⟩
      rw [Int.toNat_natCast, hn] at hi
      have hi2 : i < part.length := by omega
      have e1 : ((upd H D (.lst acc)) a) = some (.lst (bits.map V.int)) := by rw [upd_ne nba]; exact ha
      have e2 : ((upd H D (.lst acc)) b) = some (.lst (part.map ov)) := by rw [upd_ne nbb]; exact hb
      have g1 := List.getElem?_eq_getElem hi
      have g2 := List.getElem?_eq_getElem hi2
      have at2 : atI (part.map ov) ((0 : Int) + (i : Int)) = some (ov part[i]) := at_of (j := i) (by omega) (map_at g2)
      have at1 : atI (bits.map V.int) ((0 : Int) + (i : Int)) = some (V.int bits[i]) := at_of (j := i) (by omega) (map_at g1)
      have hc := costTo_le bits part i
      refine ⟨rfl, ?_⟩
      refine ⟨_, rfl, _, rfl, b, _, _, _, rfl, rfl, SqL.of e2, at2, rfl, _, rfl, ?_⟩
      cases hp : part[i] with
      | none =>
        refine iteF (iteF ⟨acc, ?_, rfl⟩)
        rw [costTo]
        have : diffAt bits part i = false := by unfold diffAt; rw [g2, g1, hp]
        rw [this, hl]; simp
      | some x =>
        refine iteT ?_
        refine ⟨_, rfl, _, rfl, b, _, _, _, rfl, rfl, SqL.of e2, at2, _, rfl, _, rfl, a, _, _, _, rfl, rfl, SqL.of e1, at1, ?_⟩
        rw [hp]
        refine ⟨rfl, _, rfl, ?_⟩
        by_cases hx : x = bits[i]
        · have ed : (!decide (ov (some x) = V.int bits[i])) = false := by
            rw [hx]; simp [ov]
          rw [ed]
          refine iteF ⟨acc, ?_, rfl⟩
          rw [costTo]
          have : diffAt bits part i = false := by unfold diffAt; rw [g2, g1, hp]; simp [hx]
          rw [this, hl]; simp
        · have ed : (!decide (ov (some x) = V.int bits[i])) = true := by
            simp [ov, hx]
          rw [ed]
          refine iteT ⟨_, rfl, acc, upd_same, szline (by omega), acc ++ [_], ?_, upd_upd⟩
          rw [costTo]
          have : diffAt bits part i = true := by unfold diffAt; rw [g2, g1, hp]; simp [hx]
          rw [this, List.length_append, hl]; simp
    · rintro H' ⟨acc, hl, rfl⟩
      refine ⟨D, acc, rfl, .inl (SqL.of upd_same), ?_⟩
      rw [Int.toNat_natCast, hn] at hl
      rw [hl]
      exact q _ (same_new hD)

theorem scLBit : FnScope ["_law_numbers_here", "_law_k"] ["_law_numbers_here", "_law_k"] (defScope sLBit) := ⟨rfl, rfl, rfl, by decide +kernel, rfl, by decide +kernel, by decide +kernel⟩
theorem at_lt {ns : List Int} {z : Int} (h0 : 0 ≤ z) (h1 : z < ns.length) : ∃ x, atI (ns.map V.int) z = some (V.int x) := by
  have hz : ((z.toNat : Nat) : Int) = z := by omega
  have hl : z.toNat < ns.length := by omega
  exact ⟨ns[z.toNat], at_of hz.symm (map_at (List.getElem?_eq_getElem hl))⟩
theorem ok_lbit {CR CF f : Addr} {fd : FuncData} (F : Fun K "_law_bit" "_law_bit" sLBit f fd) (T : Tx K mg CR CF) : FnOk P w K mg base CX0 1 f fd ["_law_numbers_here", "_law_k"] spLBit := by
  refine F.ok scLBit (fun vs H Q E h => ?_) (fun cdv A outer s H vs Q E hr h => ?_)
  · obtain ⟨a, _, _, rfl, _⟩ := h
    rfl
  · obtain ⟨a, ns, k, rfl, ha, hl, hk, q⟩ := h
    refine ⟨_, pss_one (ps_ret (pe_op op_mod (pe_op op_fdiv (pe_callTy call_int1 (by rfl) T.int (by decide +kernel) (pa_cons (pe_op op_add
        (pe_op op_fdiv (pe_ix ix_list (pv 0) (pe_op op_add pe_int (pe_op op_mod (pe_callTy call_int1 (by rfl) T.int (by decide +kernel) (pa_cons (pv 1) pa_nil)) pe_int)) (fun _ _ => rfl)) (pe_op op_add pe_int (pe_op op_fdiv (pv 1) pe_int)))
        (pe_op op_mul (pe_op op_fdiv (pv 1) pe_int) (pe_ix ix_list (pv 0) (pe_op op_add pe_int (pe_op op_mod (pe_callTy call_int1 (by rfl) T.int (by decide +kernel) (pa_cons (pv 1) pa_nil)) pe_int)) (fun _ _ => rfl)))) pa_nil)) pe_int) pe_int)), ?_⟩
    obtain ⟨x1, hx1⟩ := at_lt (ns := ns) (z := 20 + (k : Int) % 97) (by omega) (by omega)
    obtain ⟨x2, hx2⟩ := at_lt (ns := ns) (z := 20 + (k : Int) % 89) (by omega) (by omega)
    refine ⟨_, rfl, _, rfl, .inl ⟨_, rfl, _, _, rfl, rfl, (show (0 : Int) < 97 by decide), _, _, rfl, rfl, a, _, _, _, rfl, rfl, SqL.of ha, hx1, ?_⟩⟩
    refine ⟨_, rfl, _, _, rfl, rfl, ⟨by decide, by decide⟩, _, _, rfl, rfl, _, _, rfl, rfl, ⟨by omega, by omega⟩, ?_⟩
    refine ⟨_, rfl, _, _, rfl, rfl, ⟨by decide, by decide⟩, _, rfl, _, rfl, .inl ⟨_, rfl, _, _, rfl, rfl, (show (0 : Int) < 89 by decide), _, _, rfl, rfl, a, _, _, _, rfl, rfl, SqL.of ha, hx2, ?_⟩⟩
    refine ⟨_, _, rfl, rfl, .inl ⟨by omega, by omega⟩, _, _, rfl, rfl, .inl ⟨_, rfl, ?_⟩⟩
    refine ⟨_, _, rfl, rfl, ⟨by decide, by decide⟩, _, _, rfl, rfl, (show (0 : Int) < 2 by decide), ?_⟩
    generalize (x1 / (1 + (k : Int) / 97) + (k : Int) / 97 * x2) / 3 = z
    refine qi ?_ (q (z % 2).toNat (by omega))
    omega

theorem scNumbers : FnScope ["_law_script", "_law_many", "_law_rest", "_law_mixed", "_law_numbers_here", "_law_k", "_law_at", "_law_cell"] ["_law_script", "_law_many"] (defScope sNumbers) := ⟨rfl, rfl, rfl, by decide +kernel, rfl, by decide +kernel, by decide +kernel⟩
theorem ok_numbers {CR CF f : Addr} {fd : FuncData} (F : Fun K "_law_numbers" "_law_numbers" sNumbers f fd) (T : Tx K mg CR CF) : FnOk P w K mg base CX0 1 f fd ["_law_script", "_law_many"] (spNumbers K) := by
  refine F.ok scNumbers (fun vs H Q E h => ?_) (fun cdv A outer s H vs Q E hr h => ?_)
  · obtain ⟨a, _, rfl, _⟩ := h
    rfl
  · obtain ⟨a, ns, rfl, hS, hlen, q⟩ := h
    refine ⟨_, pss_cons (ps_set (i := 2) scNumbers.nd rfl (.inl rfl) (pe_op op_cat (pe_lc (own := [("_law_cell", 7)]) (g := gName 7) (by rfl) scNumbers.nd (pi_list (pe_slice sl_list (pv 0) po_none (po_some pe_int)))
          (blkOk_by (own := [("_law_cell", 7)]) (N := ["_law_script", "_law_many", "_law_rest", "_law_mixed", "_law_numbers_here", "_law_k", "_law_at", "_law_cell"]) (sc := defScope sNumbers) (by decide +kernel))
          (fun _ _ _ _ _ => pg_name (i := 7) scNumbers.nd rfl (Or.inl rfl)) (fun _ _ _ _ _ => pts_nil)
          (fun _ _ _ _ _ => pe_callB call_abs (by rfl) T.abs (by decide +kernel) (pa_cons (pv 7) pa_nil))) (pe_lst (pa_cons pe_int pa_nil))))
      (Evl.pss_cut (ps_if (pt_cmpR op_gt (pe_callB call_len_seq (by rfl) T.len PySem.boot_len (pa_cons (pv 0) pa_nil)) pe_int (nomark _))
        (pss_one (ps_set (i := 2) scNumbers.nd rfl (.inl rfl) (pe_slice sl_list (pv 2) po_none (po_some (pe_un un_neg pe_int))))) pss_nil)
      (pss_cons (ps_setLc (i := 3) (own := [("_law_cell", 7)]) (g := gName 7) (by rfl) scNumbers.nd rfl rfl (sw_true rfl rfl rfl (by decide +kernel)) (pi_list (pv 2))
          (blkOk_by (own := [("_law_cell", 7)]) (N := ["_law_script", "_law_many", "_law_rest", "_law_mixed", "_law_numbers_here", "_law_k", "_law_at", "_law_cell"]) (sc := defScope sNumbers) (by decide +kernel))
          (fun _ _ _ _ _ => pg_name (i := 7) scNumbers.nd rfl (Or.inl rfl)) (fun _ _ _ _ _ => pts_nil)
          (fun _ _ _ _ _ => pe_op op_mod (pe_callTy call_int1 (by rfl) T.int (by decide +kernel) (pa_cons (pe_op op_add (pe_op op_mul (pv 7) pe_int) pe_int) pa_nil)) pe_int))
      (pss_cons (ps_set (i := 4) scNumbers.nd rfl (.inl rfl) (pe_lst pa_nil))
      (pss_cons (ps_for PassesOwn.never rfl (pi_range1 (by rfl) T.range (pa_cons (pv 1) pa_nil)) (pg_name (i := 5) scNumbers.nd rfl (.inl rfl))
        (pss_cons (ps_set (i := 6) scNumbers.nd rfl (.inl rfl) (pe_op op_mod (pe_callTy call_int1 (by rfl) T.int (by decide +kernel) (pa_cons (pv 5) pa_nil)) (pe_callB call_len_seq (by rfl) T.len PySem.boot_len (pa_cons (pv 2) pa_nil))))
        (pss_one (ps_if (pt_cmpR op_ge (pe_ix ix_list (pv 2) (pv 6) (fun _ _ => rfl)) (pe_op op_pow pe_int pe_int) (nomark _))
          (pss_cons (ps_expr (pe_bm PySem.F.plainAttrs_list PySem.F.slot_list_append PySem.F.type_list_append mt_append (pv 4) (pa_cons (pe_op op_mod (pe_callTy call_int1 (by rfl) T.int (by decide +kernel) (pa_cons (pe_ix ix_list (pv 2) (pv 6) (fun _ _ => rfl)) pa_nil)) pe_int) pa_nil)))
          (pss_one (ps_asg (pe_op op_fdiv (pe_ix ix_list (pv 2) (pv 6) (fun _ _ => rfl)) pe_int) (pg_sub (pv 2) (pv 6) set_list))))
          (pss_cons (ps_asg (pe_op op_mod (pe_callTy call_int1 (by rfl) T.int (by decide +kernel) (pa_cons (pe_op op_add (pe_op op_add (pe_op op_mul (pe_ix ix_list (pv 3) (pv 6) (fun _ _ => rfl)) pe_int) pe_int) (pe_op op_mul pe_int (pv 5))) pa_nil)) pe_int) (pg_sub (pv 3) (pv 6) set_list))
          (pss_one (ps_expr (pe_bm PySem.F.plainAttrs_list PySem.F.slot_list_append PySem.F.type_list_append mt_append (pv 4) (pa_cons (pe_op op_mod (pe_callTy call_int1 (by rfl) T.int (by decide +kernel) (pa_cons (pe_op op_add (pe_ix ix_list (pv 2) (pv 6) (fun _ _ => rfl)) (pe_op op_fdiv (pe_ix ix_list (pv 3) (pv 6) (fun _ _ => rfl)) pe_int)) pa_nil)) pe_int) pa_nil)))))))))
      (pss_one (ps_ret (pv 4))))))), ?_⟩
    -- script[:63]
    refine ⟨_, rfl, _, rfl, a, _, rfl, hS, fun c hc => ?_⟩
    have e63 : cutV (ns.map V.int) none (some 63) = ns.map V.int := by
      have := cut_to (ns.map V.int) 63
      rw [show ((63 : Nat) : Int) = 63 from rfl] at this
      rw [this, List.take_of_length_le (by rw [List.length_map]; exact hlen)]
    rw [e63]
    have sC := same_new (o := .lst (ns.map V.int)) hc
    refine ⟨c, rfl, ⟨_, SqL.of upd_same⟩, fun D hD => ?_⟩
    have ncD : c ≠ D := ne_of_none (H := upd H c (.lst (ns.map V.int))) upd_same hD
    refine lc_list (K := K) (a := c) (xs := ns.map V.int) (fun i H' => ∃ xs : List Int, H' = upd (upd H c (.lst (ns.map V.int))) D (.lst (xs.map V.int)) ∧ xs.length = i) ⟨[], rfl, rfl⟩ (fun i H' _ ⟨xs, e, _⟩ => by rw [e]; exact SqL.of (by rw [upd_ne ncD]; exact upd_same)) ?_ ?_
    · rintro i x H' hx ⟨xs, rfl, hxl⟩
      obtain ⟨u, hu, rfl⟩ := of_map hx
      have hi : i < ns.length := (List.getElem?_eq_some_iff.mp hu).1
      refine ⟨rfl, tyesI ?_⟩
      refine ⟨_, rfl, _, rfl, _, upd_same, szline (by rw [List.length_map]; omega), xs ++ [if u < 0 then -u else u], ?_, by simp [hxl]⟩
      rw [upd_upd, List.map_append]
      rfl
    rintro H1 ⟨xs, rfl, hxl⟩
    rw [List.length_map] at hxl
    -- + [0]
    have sD := same_new (o := .lst (xs.map V.int)) hD
    refine ⟨by decide, fun e he => ?_⟩
    have sE := same_new (o := .lst [V.int 0]) he
    refine ⟨D, e, _, _, rfl, rfl, sE _ _ upd_same, upd_same, szle (by simp; omega), fun r0 hr0 => ?_⟩
    have sR := same_new (o := .lst (xs.map V.int ++ [V.int 0])) hr0
    have S4 := ((sC.trans sD).trans sE).trans sR
    have er0 : xs.map V.int ++ [V.int 0] = (xs ++ [0]).map V.int := by rw [List.map_append]; rfl
    have hrl : (xs ++ [(0 : Int)]).length = ns.length + 1 := by simp [hxl]
    rw [er0] at sR S4 ⊢
    generalize hH4 : upd (upd (upd (upd H c (.lst (ns.map V.int))) D (.lst (xs.map V.int))) e (.lst [V.int 0])) r0 (.lst ((xs ++ [0]).map V.int)) = H4 at S4 ⊢
    have hr4 : H4 r0 = some (.lst ((xs ++ [0]).map V.int)) := by rw [← hH4]; exact upd_same
    have r0n : H r0 = none := (((sC.trans sD).trans sE)).free hr0
    -- if len(script) > 0
    refine ⟨fun σ H5 => ∃ (r1 : Addr) (rs : List Int), σ = [some (.ref a), some (.int 260), some (.ref r1), none, none, none, none, none] ∧ Same H H5 ∧ H r1 = none ∧ H5 r1 = some (.lst (rs.map V.int)) ∧ 0 < rs.length ∧ rs.length ≤ 64, ?_, ?_⟩
    · refine ⟨_, rfl, a, _, rfl, .inl (S4.seq hS), _, _, rfl, rfl, _, rfl, ite2 (fun h => ?_) (fun h => ?_)⟩
      · have hpos : 0 < ns.length := by
          have := of_decide_eq_true h
          rw [List.length_map] at this
          omega
        refine ⟨_, rfl, _, rfl, _, rfl, r0, _, rfl, SqL.of hr4, fun r1 hr1 => ?_⟩
        have ecut : cutV ((xs ++ [0]).map V.int) none (some (-1)) = ((xs ++ [0]).take ns.length).map V.int := by
          unfold cutV
          have e1 : HT.sIx ((xs ++ [(0 : Int)]).map V.int).length ((xs ++ [(0 : Int)]).map V.int).length (some (-1)) = ns.length := by
            rw [List.length_map, hrl]
            unfold HT.sIx
            simp only
            rw [if_pos (by decide)]
            omega
          rw [e1, HT.sIx_none, List.drop_zero, Nat.sub_zero, List.map_take]
        have s6 := same_new (o := .lst (cutV ((xs ++ [0]).map V.int) none (some (-1)))) hr1
        exact ⟨r1, (xs ++ [0]).take ns.length, rfl, S4.trans s6, S4.free hr1, by rw [ecut]; exact upd_same, by rw [List.length_take]; omega, by rw [List.length_take]; omega⟩
      · exact ⟨r0, xs ++ [0], rfl, S4, r0n, hr4, by omega, by omega⟩
    rintro σ H5 ⟨r1, rs, rfl, S5, r1n, hr5, hpos, hle⟩
    -- mixed
    refine ⟨_, rfl, r1, rfl, ⟨_, SqL.of hr5⟩, fun m hm => ?_⟩
    have nrm : r1 ≠ m := ne_of_none hr5 hm
    refine lc_list (K := K) (a := r1) (xs := rs.map V.int) (fun i H' => ∃ ms : List Int, H' = upd H5 m (.lst (ms.map V.int)) ∧ ms.length = i) ⟨[], rfl, rfl⟩ (fun i H' _ ⟨ms, e, _⟩ => by rw [e]; exact SqL.of (by rw [upd_ne nrm]; exact hr5)) ?_ ?_
    · rintro i x H' hx ⟨ms, rfl, hml⟩
      obtain ⟨u, hu, rfl⟩ := of_map hx
      have hi : i < rs.length := (List.getElem?_eq_some_iff.mp hu).1
      refine ⟨rfl, tyesI ?_⟩
      refine ⟨_, rfl, _, _, rfl, rfl, .inr ⟨by decide, by decide⟩, _, _, rfl, rfl, .inl ⟨_, rfl, _, _, rfl, rfl, (show (0 : Int) < 2147483647 by decide), ?_⟩⟩
      refine ⟨_, upd_same, szline (by rw [List.length_map]; omega), ms ++ [(u * 48271 + 11) % 2147483647], ?_, by simp [hml]⟩
      rw [upd_upd, List.map_append]
      rfl
    rintro H6 ⟨ms, rfl, hml⟩
    rw [List.length_map] at hml
    have s6 := same_new (o := .lst (ms.map V.int)) hm
    -- numbers = []
    refine ⟨by decide, fun n0 hn0 => ?_⟩
    have s7 := same_new (o := .lst []) hn0
    have mn : H m = none := S5.free hm
    have nn : H n0 = none := (S5.trans s6).free hn0
    have nmn : m ≠ n0 := ne_of_none (H := upd H5 m (.lst (ms.map V.int))) upd_same hn0
    have nrn : r1 ≠ n0 := ne_of_none (s6 _ _ hr5) hn0
    refine ⟨_, rfl, _, rfl, (show -(2 ^ 62) ≤ (260 : Int) by decide), (show (260 : Int) < 2 ^ 62 by decide), ?_⟩
    refine for_range (fun i σ H' => ∃ (rs ms out : List Int) (y5 y6 y7 : Option V), σ = [some (.ref a), some (.int 260), some (.ref r1), some (.ref m), some (.ref n0), y5, y6, y7] ∧ Same H H' ∧ H' r1 = some (.lst (rs.map V.int)) ∧ H' m = some (.lst (ms.map V.int)) ∧ H' n0 = some (.lst (out.map V.int)) ∧
        0 < rs.length ∧ ms.length = rs.length ∧ out.length = i)
      ⟨rs, ms, [], none, none, none, rfl, (S5.trans s6).trans s7, s7 _ _ (s6 _ _ hr5), s7 _ _ upd_same, upd_same, hpos, hml, rfl⟩ ?_ ?_
    · rintro i σ H' hi ⟨rs, ms, out, y5, y6, y7, rfl, Si, hr, hmm, ho, hp, hl, hol⟩
      have hi2 : i < 260 := hi
      have e0 : (0 : Int) + (i : Int) = (i : Int) := by omega
      rw [e0]
      have lr : (rs.map V.int).length = rs.length := List.length_map ..
      refine ⟨_, rfl, .inl ⟨_, rfl, _, rfl, r1, _, rfl, .inl (SqL.of hr), _, _, rfl, rfl, (show (0 : Int) < (((rs.map V.int).length : Nat) : Int) by rw [lr]; omega), ?_⟩⟩
      have eat : (i : Int) % (((rs.map V.int).length : Nat) : Int) = ((i % rs.length : Nat) : Int) := by rw [lr]; exact (Int.natCast_emod _ _).symm
      show gName 6 (V.int ((i : Int) % (((rs.map V.int).length : Nat) : Int))) _ _ _
      rw [eat]
      have hj : i % rs.length < rs.length := Nat.mod_lt _ hp
      generalize i % rs.length = j at hj ⊢
      have hj2 : j < ms.length := by omega
      have g1 := List.getElem?_eq_getElem hj
      have g2 := List.getElem?_eq_getElem hj2
      have hixr : ixN (rs.map V.int).length (j : Int) = some j := by
        unfold ixN
        rw [if_pos (by omega), if_pos (by omega)]
        simp
      have hixm : ixN (ms.map V.int).length (j : Int) = some j := by
        unfold ixN
        rw [if_pos (by omega), if_pos (by rw [List.length_map]; omega)]
        simp
      have hsz : (out.map V.int).length < sizeLine := szline (by rw [List.length_map]; omega)
      refine ⟨_, rfl, _, rfl, r1, _, _, _, rfl, rfl, SqL.of hr, atI_nat (map_at g1), _, _, rfl, rfl, ⟨by decide, by decide, by decide⟩, _, _, rfl, rfl, _, rfl, ite2 (fun h => ?_) (fun h => ?_)⟩
      · -- numbers.append(..); rest[at] = ..
        refine ⟨_, rfl, .inl ⟨rfl, _, SqL.of ho⟩, _, rfl, _, rfl, r1, _, _, _, rfl, rfl, SqL.of hr, atI_nat (map_at g1), .inl ⟨_, rfl, _, _, rfl, rfl, (show (0 : Int) < 65536 by decide), ?_⟩⟩
        refine ⟨n0, _, _, rfl, rfl, ho, hsz, ?_⟩
        have hr' : (upd H' n0 (.lst (out.map V.int ++ [V.int (rs[j] % 65536)]))) r1 = some (.lst (rs.map V.int)) := by rw [upd_ne nrn]; exact hr
        refine ⟨_, rfl, _, rfl, r1, _, _, _, rfl, rfl, SqL.of hr', atI_nat (map_at g1), _, _, rfl, rfl, ⟨by decide, by decide⟩, ?_⟩
        refine ⟨_, rfl, _, rfl, r1, _, _, _, rfl, rfl, hr', hixr, ?_⟩
        refine ⟨rs.set j (rs[j] / 65536), ms, out ++ [rs[j] % 65536], _, _, _, rfl, ?_, ?_, ?_, ?_, by simp [hp], by simp [hl], by simp [hol]⟩
        · intro d o ed
          rw [upd_ne (ne_of_none ed r1n), upd_ne (ne_of_none ed nn)]
          exact Si _ _ ed
        · rw [upd_same, List.map_set]
        · rw [upd_ne (Ne.symm nrm), upd_ne nmn]; exact hmm
        · rw [upd_ne (Ne.symm nrn), upd_same, List.map_append]; rfl
      · refine ⟨_, rfl, _, rfl, m, _, _, _, rfl, rfl, SqL.of hmm, atI_nat (map_at g2), _, _, rfl, rfl, .inr ⟨by decide, by decide⟩, _, _, rfl, rfl, _, rfl, _, _, rfl, rfl, .inl ⟨by decide, by decide⟩, _, _, rfl, rfl, .inl ⟨_, rfl, _, _, rfl, rfl, (show (0 : Int) < 2147483647 by decide), ?_⟩⟩
        refine ⟨_, rfl, _, rfl, m, _, _, _, rfl, rfl, hmm, hixm, ?_⟩
        have hr' : ∀ x, (upd H' m (.lst ((ms.map V.int).set j x))) r1 = some (.lst (rs.map V.int)) := fun x => by rw [upd_ne nrm]; exact hr
        have ho' : ∀ x, (upd H' m (.lst ((ms.map V.int).set j x))) n0 = some (.lst (out.map V.int)) := fun x => by rw [upd_ne (Ne.symm nmn)]; exact ho
        have g3 : ∀ x, ((ms.map V.int).set j x)[j]? = some x := fun x => List.getElem?_set_self (by rw [List.length_map]; exact hj2)
        refine ⟨_, rfl, .inl ⟨rfl, _, SqL.of (ho' _)⟩, _, rfl, _, rfl, r1, _, _, _, rfl, rfl, SqL.of (hr' _), atI_nat (map_at g1), _, rfl, _, rfl, m, _, _, _, rfl, rfl, SqL.of upd_same, atI_nat (g3 _), _, _, rfl, rfl, ⟨by decide, by decide⟩, _, _, rfl, rfl, .inl ⟨_, rfl, _, _, rfl, rfl, (show (0 : Int) < 65536 by decide), ?_⟩⟩
        refine ⟨n0, _, _, rfl, rfl, ho' _, hsz, ?_⟩
        refine ⟨rs, ms.set j ((ms[j] * 16807 + 12345 + 7919 * (i : Int)) % 2147483647), out ++ [(rs[j] + (ms[j] * 16807 + 12345 + 7919 * (i : Int)) % 2147483647 / 5) % 65536], _, _, _, rfl, ?_, ?_, ?_, ?_, hp, by simp [hl], by simp [hol]⟩
        · intro d o ed
          rw [upd_ne (ne_of_none ed nn), upd_ne (ne_of_none ed mn)]
          exact Si _ _ ed
        · rw [upd_ne nrn]; exact hr' _
        · rw [upd_ne nmn, List.map_set]; exact upd_same
        · rw [upd_same, List.map_append]; rfl
    · rintro σ H' ⟨rs, ms, out, y5, y6, y7, rfl, Si, hr, hmm, ho, hp, hl, hol⟩
      exact ⟨_, rfl, q _ n0 out Si ho hol⟩
end
end Fh
namespace Fh
open PySem PySem.Spec PyProof.Rows L2

def spLTable : Sp := fun vs H Q _ => ∃ (v : Nat) (a : Addr) (taps : List Int), vs = [.int (v : Int), .ref a] ∧ IL H a taps ∧ RegOk v taps ∧ ∀ H' p, Same H H' → TL H' p (tab v taps) → Q (.ref p) H'
def spLRun : Sp := fun vs H Q _ => ∃ (v : Nat) (a b : Addr) (taps bits : List Int), vs = [.int (v : Int), .ref a, .int 0, .ref b] ∧ TL H a (tab v taps) ∧ IL H b bits ∧ RegOk v taps ∧ Fh.Bits bits ∧ bits.length ≤ 100 ∧
  ∀ H' t p s (row : List Int), Same H H' → H p = none → H' t = some (.tup [s, .ref p]) → IL H' p row → row.length = bits.length * taps.length → Q (.ref t) H'
def spLReceived : Sp := fun vs H Q _ => ∃ (a tb : Addr) (ns : List Int) (v : Nat) (taps : List Int) (many : Nat), vs = [.ref a, .int (v : Int), .ref tb, .int (many : Int)] ∧ IL H a ns ∧ ns.length = 260 ∧ TL H tb (tab v taps) ∧ RegOk v taps ∧ many ≤ 30 ∧
  ∀ H' p (R : List (Option Int)), Same H H' → OL H' p R → R.length = (many + v) * taps.length → Q (.ref p) H'
theorem cnt_par {v x : Nat} (hv : v ≤ 5) (h : x < 2 * 2 ^ v) : cntTo (v + 1) x % 2 = par x := by
  have h2 : 2 ^ (v + 1) = 2 * 2 ^ v := by rw [Nat.pow_succ, Nat.mul_comm]
  have h6 : 2 ^ v ≤ 2 ^ 5 := Nat.pow_le_pow_right (by decide) hv
  unfold par
  rw [pcn_cnt (v + 1) (by omega) x (by omega) (by omega)]
theorem cntTo_le (x : Nat) : ∀ n, cntTo n x ≤ n
  | 0 => Nat.le_refl _
  | n + 1 => by
    have := cntTo_le x n
    rw [cntTo]
    split <;> omega

section
variable {P : Program} {w : World} {K : PySem.W.Frag} {mg : Str → Option Value} {base : Heap}
theorem scLTaps : FnScope ["_law_numbers_here", "_law_at", "_law_v", "_law_taps_here", "_law_k"] ["_law_numbers_here", "_law_at"] (defScope sLTaps) := ⟨rfl, rfl, rfl, by decide +kernel, rfl, by decide +kernel, by decide +kernel⟩
theorem ok_ltaps {CR CF f : Addr} {fd : FuncData} (F : Fun K "_law_taps" "_law_taps" sLTaps f fd) (T : Tx K mg CR CF) : FnOk P w K mg base CX0 1 f fd ["_law_numbers_here", "_law_at"] spLTaps := by
  refine F.ok scLTaps (fun vs H Q E h => ?_) (fun cdv A outer s H vs Q E hr h => ?_)
  · obtain ⟨a, _, rfl, _⟩ := h
    rfl
  · obtain ⟨a, ns, rfl, ha, hl, q⟩ := h
    refine ⟨_, pss_cons (ps_set (i := 2) scLTaps.nd rfl (.inr rfl) (pe_op op_add pe_int (pe_op op_mod (pe_callTy call_int1 (by rfl) T.int (by decide +kernel) (pa_cons (pe_ix ix_list (pv 0) (pv 1) (fun _ _ => rfl)) pa_nil)) pe_int)))
      (pss_cons (ps_setLc (i := 3) (own := [("_law_k", 4)]) (g := gName 4) (by rfl) scLTaps.nd rfl rfl (sw_true rfl rfl rfl (by decide +kernel))
          (pi_range1 (by rfl) T.range (pa_cons (pe_op op_add pe_int (pe_op op_mod (pe_callTy call_int1 (by rfl) T.int (by decide +kernel) (pa_cons (pe_ix ix_list (pv 0) (pe_op op_add (pv 1) pe_int) (fun _ _ => rfl)) pa_nil)) pe_int)) pa_nil))
          (blkOk_by (own := [("_law_k", 4)]) (N := ["_law_numbers_here", "_law_at", "_law_v", "_law_taps_here", "_law_k"]) (sc := defScope sLTaps) (by decide +kernel))
          (fun _ _ _ _ _ => pg_name (i := 4) scLTaps.nd rfl (Or.inl rfl)) (fun _ _ _ _ _ => pts_nil)
          (fun _ _ _ _ _ => pe_op op_mod (pe_callTy call_int1 (by rfl) T.int (by decide +kernel) (pa_cons (pe_ix (ixL K) (pv 0) (pe_op op_add (pe_op op_add (pv 1) pe_int) (pv 4)) (fun _ _ => rfl)) pa_nil)) (pe_op op_shl pe_int (pv 2))))
      (Evl.pss_cut (ps_if (pt_cmpR op_eq (pe_callB (cr_max rfl) (by rfl) T.max (by decide +kernel) (pa_cons (pv 3) pa_nil)) pe_int (nomark _))
          (pss_one (ps_asg (pe_op op_add pe_int (pe_op op_mod (pe_callTy call_int1 (by rfl) T.int (by decide +kernel) (pa_cons (pe_ix ix_list (pv 0) (pe_op op_add (pv 1) pe_int) (fun _ _ => rfl)) pa_nil)) (pe_op op_sub (pe_op op_shl pe_int (pv 2)) pe_int)))
            (pg_sub (pv 3) (pe_op op_mod (pe_callTy call_int1 (by rfl) T.int (by decide +kernel) (pa_cons (pe_ix ix_list (pv 0) (pe_op op_add (pv 1) pe_int) (fun _ _ => rfl)) pa_nil)) (pe_callB call_len_seq (by rfl) T.len PySem.boot_len (pa_cons (pv 3) pa_nil))) set_list))) pss_nil)
      (pss_one (ps_ret (pe_tup (pa_cons (pv 2) (pa_cons (pv 3) pa_nil))))))), ?_⟩
    obtain ⟨x0, hx0⟩ := at_lt (ns := ns) (z := 0) (by omega) (by omega)
    obtain ⟨x1, hx1⟩ := at_lt (ns := ns) (z := 0 + 1) (by omega) (by omega)
    obtain ⟨x6, hx6⟩ := at_lt (ns := ns) (z := 0 + 6) (by omega) (by omega)
    obtain ⟨x7, hx7⟩ := at_lt (ns := ns) (z := 0 + 7) (by omega) (by omega)
    refine ⟨_, rfl, _, rfl, a, _, _, _, rfl, rfl, SqL.of ha, hx0, .inl ⟨_, rfl, _, _, rfl, rfl, (show (0 : Int) < 5 by decide), _, _, rfl, rfl, ?_⟩⟩
    -- v
    obtain ⟨v, hv⟩ : ∃ v : Nat, (1 : Int) + x0 % 5 = (v : Int) := ⟨(1 + x0 % 5).toNat, by omega⟩
    have hv1 : 1 ≤ v ∧ v ≤ 5 := by omega
    show gName 2 (V.int ((1 : Int) + x0 % 5)) _ _ _
    rw [hv]
    have hpow : (2 : Int) * 2 ^ ((v : Int)).toNat = ((2 * 2 ^ v : Nat) : Int) := pow2 v
    have hM : 2 ≤ 2 ^ v := by
      have := Nat.pow_le_pow_right (n := 2) (by decide) hv1.1
      simpa using this
    -- taps
    refine ⟨_, rfl, _, rfl, _, _, rfl, rfl, a, _, _, _, rfl, rfl, SqL.of ha, hx1, .inl ⟨_, rfl, _, _, rfl, rfl, (show (0 : Int) < 3 by decide), _, _, rfl, rfl, ?_⟩⟩
    refine ⟨_, rfl, by omega, by omega, fun D hD => ?_⟩
    have naD : a ≠ D := ne_of_none ha hD
    obtain ⟨n, hn⟩ : ∃ n : Nat, (2 : Int) + x1 % 3 = (n : Int) := ⟨(2 + x1 % 3).toNat, by omega⟩
    have hn2 : 2 ≤ n ∧ n ≤ 4 := by omega
    have hnn : ((2 : Int) + x1 % 3).toNat = n := by omega
    refine lc_range (fun i H' => ∃ xs : List Int, H' = upd H D (.lst (xs.map V.int)) ∧ xs.length = i ∧ ∀ t ∈ xs, 0 ≤ t ∧ t < ((2 * 2 ^ v : Nat) : Int)) ⟨[], rfl, rfl, fun t h => by cases h⟩ ?_ ?_
    · rintro i H' hi ⟨xs, rfl, hxl, hxr⟩
      have hi2 : i < n := by
        have : i < ((2 : Int) + x1 % 3).toNat := hi
        omega
      obtain ⟨xk, hxk⟩ := at_lt (ns := ns) (z := 0 + 2 + (0 + (i : Int))) (by omega) (by omega)
      have ha' : (upd H D (.lst (xs.map V.int))) a = some (.lst (ns.map V.int)) := by rw [upd_ne naD]; exact ha
      refine ⟨rfl, tyesI ?_⟩
      refine ⟨_, rfl, _, rfl, _, _, rfl, rfl, _, rfl, _, _, rfl, rfl, a, _, _, _, rfl, rfl, SqL.of ha', hxk, .inl ⟨_, rfl, _, rfl, _, _, rfl, rfl, ⟨by omega, by omega, by decide⟩, _, _, rfl, rfl, by rw [hpow]; omega, ?_⟩⟩
      have hp2 : (0 : Int) < 2 * 2 ^ ((v : Int)).toNat := by rw [hpow]; omega
      refine ⟨_, upd_same, szline (by rw [List.length_map]; omega), xs ++ [xk % (2 * 2 ^ ((v : Int)).toNat)], ?_, by simp [hxl], fun t ht => ?_⟩
      · rw [upd_upd, List.map_append]; rfl
      · rcases List.mem_append.mp ht with ht | ht
        · exact hxr t ht
        · have : t = xk % (2 * 2 ^ ((v : Int)).toNat) := by simpa using ht
          rw [this]
          have h1 := Int.emod_nonneg xk (show (2 * 2 ^ ((v : Int)).toNat : Int) ≠ 0 by omega)
          have h2 := Int.emod_lt_of_pos xk hp2
          rw [hpow] at h1 h2 ⊢
          exact ⟨h1, h2⟩
    rintro H1 ⟨xs, rfl, hxl, hxr⟩
    have hxl2 : xs.length = n := by rw [hxl]; exact hnn
    have sD := same_new (o := .lst (xs.map V.int)) hD
    have ha1 : (upd H D (.lst (xs.map V.int))) a = some (.lst (ns.map V.int)) := sD _ _ ha
    have lx : (xs.map V.int).length = xs.length := List.length_map ..
    refine ⟨fun σ H2 => ∃ taps : List Int, σ = [some (.ref a), some (.int 0), some (.int (v : Int)), some (.ref D), none] ∧ Same H H2 ∧ IL H2 D taps ∧ RegOk v taps, ?_, ?_⟩
    · refine ⟨_, rfl, D, xs, rfl, SqL.of upd_same, by omega, fun m hm hle => ?_⟩
      refine ⟨rfl, _, rfl, ite2 (fun c => ?_) (fun c => ?_)⟩
      · refine ⟨_, rfl, _, rfl, _, _, rfl, rfl, a, _, _, _, rfl, rfl, SqL.of ha1, hx7, .inl ⟨_, rfl, _, rfl, _, _, rfl, rfl, ⟨by omega, by omega, by decide⟩, _, _, rfl, rfl, _, _, rfl, rfl, by rw [hpow]; omega, _, _, rfl, rfl, ?_⟩⟩
        refine ⟨_, rfl, _, rfl, _, rfl, _, _, rfl, rfl, a, _, _, _, rfl, rfl, SqL.of ha1, hx6, .inl ⟨_, rfl, _, rfl, D, _, rfl, .inl (SqL.of upd_same), _, _, rfl, rfl, by rw [lx]; omega, ?_⟩⟩
        obtain ⟨j, hj⟩ : ∃ j : Nat, x6 % (((xs.map V.int).length : Nat) : Int) = (j : Int) := ⟨(x6 % (((xs.map V.int).length : Nat) : Int)).toNat, by
          have := Int.emod_nonneg x6 (show (((xs.map V.int).length : Nat) : Int) ≠ 0 by rw [lx]; omega)
          omega⟩
        have hjl : j < xs.length := by
          have := Int.emod_lt_of_pos x6 (show (0 : Int) < (((xs.map V.int).length : Nat) : Int) by rw [lx]; omega)
          rw [hj, lx] at this
          omega
        have hix : ixN (xs.map V.int).length (x6 % (((xs.map V.int).length : Nat) : Int)) = some j := by
          rw [hj]
          unfold ixN
          rw [if_pos (by omega), if_pos (by omega)]
          simp
        refine ⟨D, _, _, _, rfl, rfl, upd_same, hix, ?_⟩
        have hq : (0 : Int) < 2 * 2 ^ ((v : Int)).toNat - 1 := by rw [hpow]; omega
        have h1 := Int.emod_nonneg x7 (show (2 * 2 ^ ((v : Int)).toNat - 1 : Int) ≠ 0 by omega)
        have h2 := Int.emod_lt_of_pos x7 hq
        refine ⟨xs.set j (1 + x7 % (2 * 2 ^ ((v : Int)).toNat - 1)), rfl, fun d o ed => ?_, ?_, ⟨hv1.1, hv1.2, by simp; omega, by simp; omega, fun t ht => ?_, ⟨_, List.mem_set hjl _, by omega⟩⟩⟩
        · rw [upd_ne (ne_of_none ed hD)]; exact sD _ _ ed
        · unfold IL
          rw [upd_same, List.map_set]
        · rcases List.mem_or_eq_of_mem_set ht with ht | ht
          · exact hxr t ht
          · rw [ht]
            rw [hpow] at h1 h2 ⊢
            omega
      · refine ⟨xs, rfl, sD, upd_same, ⟨hv1.1, hv1.2, by omega, by omega, hxr, ⟨m, hm, ?_⟩⟩⟩
        have := hxr m hm
        have : m ≠ 0 := fun z => c (by rw [z]; exact decide_eq_true rfl)
        omega
    · rintro σ H2 ⟨taps, rfl, S2, hI, ok⟩
      refine ⟨_, rfl, _, rfl, szle (by simp), fun t ht => ?_⟩
      have sT := same_new (o := .tup [V.int (v : Int), V.ref D]) ht
      exact q _ t D v taps (S2.trans sT) upd_same (hI.kd (kd sT)) ok

theorem scLTable : FnScope ["_law_v", "_law_taps_here", "_law_table_here", "_law_window", "_law_row", "_law_tap", "_law_k"] ["_law_v", "_law_taps_here"] (defScope sLTable) := ⟨rfl, rfl, rfl, by decide +kernel, rfl, by decide +kernel, by decide +kernel⟩
theorem ok_ltable {CR CF f : Addr} {fd : FuncData} (F : Fun K "_law_table" "_law_table" sLTable f fd) (T : Tx K mg CR CF) : FnOk P w K mg base CX0 1 f fd ["_law_v", "_law_taps_here"] spLTable := by
  refine F.ok scLTable (fun vs H Q E h => ?_) (fun cdv A outer s H vs Q E hr h => ?_)
  · obtain ⟨v, a, _, rfl, _⟩ := h
    rfl
  · obtain ⟨v, a, taps, rfl, ha, ok, q⟩ := h
    refine ⟨_, pss_cons (ps_set (i := 2) scLTable.nd rfl (.inl rfl) (pe_lst pa_nil))
      (pss_cons (ps_for PassesOwn.never rfl (pi_range1 (by rfl) T.range (pa_cons (pe_op op_shl pe_int (pv 0)) pa_nil)) (pg_name (i := 3) scLTable.nd rfl (.inr rfl))
        (pss_cons (ps_set (i := 4) scLTable.nd rfl (.inl rfl) (pe_lst pa_nil))
        (pss_cons (ps_for PassesOwn.never rfl (pi_list (pv 1)) (pg_name (i := 5) scLTable.nd rfl (.inr rfl))
          (pss_one (ps_expr (pe_bm PySem.F.plainAttrs_list PySem.F.slot_list_append PySem.F.type_list_append mt_append (pv 4) (pa_cons (pe_op op_and (pe_callB call_len_seq (by rfl) T.len PySem.boot_len (pa_cons (pe_lc (own := [("_law_k", 6)]) (g := gName 6) (by rfl) scLTable.nd
              (pi_range1 (by rfl) T.range (pa_cons (pe_op op_add (pv 0) pe_int) pa_nil))
              (blkOk_by (own := [("_law_k", 6)]) (N := ["_law_v", "_law_taps_here", "_law_table_here", "_law_window", "_law_row", "_law_tap", "_law_k"]) (sc := defScope sLTable) (by decide +kernel))
              (fun _ _ _ _ _ => pg_name (i := 6) scLTable.nd rfl (Or.inl rfl))
              (fun _ _ _ _ _ => pts_one (pt_cmpR op_ne (pe_op op_and (pe_op op_and (pv 3) (pv 5)) (pe_op op_shl pe_int (pv 6))) pe_int (nomark _)))
              (fun _ _ _ _ _ => pv 6)) pa_nil)) pe_int) pa_nil)))))
        (pss_one (ps_expr (pe_bm PySem.F.plainAttrs_list PySem.F.slot_list_append PySem.F.type_list_append mt_append (pv 2) (pa_cons (pv 4) pa_nil)))))))
      (pss_one (ps_ret (pv 2)))), ?_⟩
    have hM := ok.pow
    have h1 := ok.v1
    have h5 := ok.v5
    have h4 := ok.n4
    refine ⟨by decide, fun pt hpt => ?_⟩
    have s1 := same_new (o := .lst []) hpt
    have bn := wbnd (n := 2 * 2 ^ v) (by omega)
    refine ⟨_, rfl, _, _, rfl, rfl, ⟨by omega, by omega, by decide⟩, _, rfl, by rw [pow2]; exact bn.1, by rw [pow2]; exact bn.2, ?_⟩
    refine for_range (fun i σ H' => ∃ (y3 y4 y5 y6 : Option V) (vs : List V), σ = [some (.int (v : Int)), some (.ref a), some (.ref pt), y3, y4, y5, y6] ∧ Same H H' ∧ H' pt = some (.lst vs) ∧ A2 (RL (hid H' pt)) vs ((tab v taps).take i) ∧ vs.length = i)
      ⟨none, none, none, none, [], rfl, s1, upd_same, by simp; exact A2.nil, rfl⟩ ?_ ?_
    · rintro i σ Hi hi ⟨y3, y4, y5, y6, vs, rfl, Si, hpi, hAi, hvl⟩
      have hi2 : i < 2 * 2 ^ v := by
        have e := pow2 v
        rw [e, Int.toNat_natCast] at hi
        exact hi
      have e0 : (0 : Int) + (i : Int) = (i : Int) := by omega
      rw [e0]
      refine ⟨by decide, fun ro hro => ?_⟩
      have s2 := same_new (o := .lst []) hro
      have nrp : pt ≠ ro := ne_of_none hpi hro
      refine ⟨_, rfl, a, rfl, ⟨_, SqL.of (s2 _ _ (Si _ _ ha))⟩, ?_⟩
      refine for_list (K := K) (a := a) (xs := taps.map V.int) (fun j σ H' => ∃ (y5 y6 : Option V), σ = [some (.int (v : Int)), some (.ref a), some (.ref pt), some (.int (i : Int)), some (.ref ro), y5, y6] ∧ Same Hi H' ∧ H' ro = some (.lst (((taps.map fun t => ((par (i &&& t.toNat) : Nat) : Int)).take j).map V.int)))
        ⟨y5, y6, rfl, s2, upd_same⟩ (fun j σ H' _ ⟨_, _, _, S, _⟩ => SqL.of (S _ _ (Si _ _ ha))) ?_ ?_
      · rintro j x σ Hj hx ⟨y5, y6, rfl, Sj, hrj⟩
        obtain ⟨t, ht, rfl⟩ := of_map hx
        have hj : j < taps.length := (List.getElem?_eq_some_iff.mp ht).1
        have htr := ok.rng t (List.mem_of_getElem? ht)
        have hxb : i &&& t.toNat < 2 * 2 ^ v := by
          have := Nat.and_le_left (n := i) (m := t.toNat)
          omega
        have ett : ((t.toNat : Nat) : Int) = t := by omega
        refine ⟨_, rfl, .inl ⟨rfl, _, SqL.of hrj⟩, ?_⟩
        have bv := wbnd (n := v + 1) (by omega)
        refine ⟨_, rfl, _, _, rfl, rfl, _, rfl, by omega, by omega, fun D hD => ?_⟩
        have nD : ro ≠ D := ne_of_none hrj hD
        have en : ((v : Int) + 1).toNat = v + 1 := by omega
        refine lc_range (fun k H' => ∃ acc : List V, acc.length = cntTo k (i &&& t.toNat) ∧ H' = upd Hj D (.lst acc)) ⟨[], rfl, rfl⟩ ?_ ?_
        · rintro k H' hk ⟨acc, hacc, rfl⟩
          have hk2 : k < v + 1 := by rw [en] at hk; exact hk
          refine ⟨rfl, ?_⟩
          refine ⟨_, rfl, _, rfl, _, _, rfl, rfl, _, rfl, _, _, rfl, rfl, ⟨by omega, by omega, by decide⟩, _, _, rfl, rfl, rfl, _, rfl, ?_⟩
          have eb : Builtin.bitAnd (Builtin.bitAnd (i : Int) t) (1 * 2 ^ ((0 : Int) + (k : Int)).toNat) = (((i &&& t.toNat) &&& 2 ^ k : Nat) : Int) := by
            have e1 := and_nat i t.toNat
            rw [ett] at e1
            have e2 : ((0 : Int) + (k : Int)).toNat = k := by omega
            rw [e1, Int.one_mul, e2]
            have e3 : ((2 : Int) ^ k) = ((2 ^ k : Nat) : Int) := by simp
            rw [e3, and_nat]
          have hc := cntTo_le (i &&& t.toNat) k
          have e4 : (!decide (V.int (Builtin.bitAnd (Builtin.bitAnd (i : Int) t) (1 * 2 ^ ((0 : Int) + (k : Int)).toNat)) = V.int 0)) = decide ((i &&& t.toNat) &&& 2 ^ k ≠ 0) := by
            rw [eb]
            by_cases z : (i &&& t.toNat) &&& 2 ^ k = 0
            · rw [z]; simp
            · have z2 : ¬ (((i &&& t.toNat) &&& 2 ^ k : Nat) : Int) = 0 := by omega
              rw [decide_eq_true (p := (i &&& t.toNat) &&& 2 ^ k ≠ 0) z]
              rw [decide_eq_false]
              · rfl
              · intro y
                injection y with y
                exact z2 y
          show (if (!decide (V.int (Builtin.bitAnd (Builtin.bitAnd (i : Int) t) (1 * 2 ^ ((0 : Int) + (k : Int)).toNat)) = V.int 0)) = true then _ else _)
          rw [e4]
          refine ite2 (fun c => ?_) (fun c => ?_)
          · have c' := of_decide_eq_true c
            refine ⟨_, rfl, acc, upd_same, szline (by omega), acc ++ [_], ?_, upd_upd⟩
            rw [cntTo, if_pos c', List.length_append, hacc]; rfl
          · have c' : ¬ (i &&& t.toNat) &&& 2 ^ k ≠ 0 := fun z => c (decide_eq_true z)
            refine ⟨acc, ?_, rfl⟩
            rw [cntTo, if_neg c', hacc]; rfl
        · rintro H' ⟨acc, hacc, rfl⟩
          rw [en] at hacc
          refine ⟨D, acc, rfl, .inl (SqL.of upd_same), _, _, rfl, rfl, ?_⟩
          have eb : Builtin.bitAnd ((acc.length : Nat) : Int) 1 = ((par (i &&& t.toNat) : Nat) : Int) := by
            have e1 := and_nat acc.length 1
            rw [show ((1 : Nat) : Int) = 1 from rfl] at e1
            rw [e1, Nat.and_one_is_mod, hacc, cnt_par h5 hxb]
          refine ⟨ro, _, _, rfl, rfl, by rw [upd_ne nD]; exact hrj, szline (by simp; omega), ?_⟩
          refine ⟨_, _, rfl, fun d o ed => ?_, ?_⟩
          · rw [upd_ne (ne_of_none ed hro), upd_ne (ne_of_none (Sj _ _ ed) hD)]
            exact Sj _ _ ed
          · rw [upd_same, List.take_add_one, List.map_append, List.getElem?_map, ht]
            show some (HO.lst (_ ++ [V.int (Builtin.bitAnd ((acc.length : Nat) : Int) 1)])) = _
            rw [eb]
            rfl
      · rintro σ Hj ⟨y5, y6, rfl, Sj, hrj⟩
        rw [List.length_map, List.take_of_length_le (by simp)] at hrj
        have hpj : Hj pt = some (.lst vs) := Sj _ _ hpi
        refine ⟨_, rfl, .inl ⟨rfl, _, SqL.of hpj⟩, _, rfl, pt, vs, _, rfl, rfl, hpj, szline (by omega), ?_⟩
        refine ⟨_, _, _, _, _, rfl, fun d o ed => ?_, upd_same, ?_, by simp [hvl]⟩
        · rw [upd_ne (ne_of_none ed hpt)]
          exact Sj _ _ (Si _ _ ed)
        · rw [hid_upd, List.take_add_one, tab_at hi2]
          refine (hAi.imp fun x y z => z.kd (kd (hid_mono Sj))).snoc ⟨ro, rfl, ?_⟩
          unfold IL
          rw [hid_ne (Ne.symm nrp), hrj]
    · rintro σ Hi ⟨y3, y4, y5, y6, vs, rfl, Si, hpi, hAi, hvl⟩
      have e := pow2 v
      rw [e, Int.toNat_natCast, List.take_of_length_le (by rw [tab_len]; omega)] at hAi
      exact ⟨_, rfl, q _ pt Si ⟨vs, hpi, hAi.imp fun x y z => z.kd (kd hid_same)⟩⟩
end
end Fh
namespace Fh
open PySem PySem.Spec PyProof.Rows L2

theorem and_mask (v : Nat) (x : Nat) : Builtin.bitAnd (x : Int) (1 * 2 ^ ((v : Int)).toNat - 1) = ((x % 2 ^ v : Nat) : Int) := by
  rw [Int.one_mul, Int.toNat_natCast, _root_.Bits.bitAnd_mask v (by omega)]
  simp

section
variable {P : Program} {w : World} {K : PySem.W.Frag} {mg : Str → Option Value} {base : Heap}
theorem scLRun : FnScope ["_law_v", "_law_table_here", "_law_state", "_law_bits", "_law_row", "_law_bit_here", "_law_window"] ["_law_v", "_law_table_here", "_law_state", "_law_bits"] (defScope sLRun) := ⟨rfl, rfl, rfl, by decide +kernel, rfl, by decide +kernel, by decide +kernel⟩
theorem ok_lrun {CR CF f : Addr} {fd : FuncData} (F : Fun K "_law_run" "_law_run" sLRun f fd) (T : Tx K mg CR CF) : FnOk P w K mg base CX0 1 f fd ["_law_v", "_law_table_here", "_law_state", "_law_bits"] spLRun := by
  refine F.ok scLRun (fun vs H Q E h => ?_) (fun cdv A outer s H vs Q E hr h => ?_)
  · obtain ⟨v, a, b, _, _, rfl, _⟩ := h
    rfl
  · obtain ⟨v, a, b, taps, bits, rfl, ⟨vs, hv, hA⟩, hb, ok, hbits, hlen, q⟩ := h
    refine ⟨_, pss_cons (ps_set (i := 4) scLRun.nd rfl (.inl rfl) (pe_lst pa_nil))
      (pss_cons (ps_for PassesOwn.never rfl (pi_list (pv 3)) (pg_name (i := 5) scLRun.nd rfl (.inl rfl))
        (pss_cons (ps_set (i := 6) scLRun.nd rfl (.inl rfl) (pe_op op_add (pv 5) (pe_op op_mul pe_int (pv 2))))
        (pss_cons (ps_set (i := 4) scLRun.nd rfl (.inl rfl) (pe_op op_cat (pv 4) (pe_ix ix_list (pv 1) (pv 6) (fun _ _ => rfl))))
        (pss_one (ps_set (i := 2) scLRun.nd rfl (.inl rfl) (pe_op op_and (pv 6) (pe_op op_sub (pe_op op_shl pe_int (pv 0)) pe_int)))))))
      (pss_one (ps_ret (pe_tup (pa_cons (pv 2) (pa_cons (pv 4) pa_nil)))))), ?_⟩
    have hM := ok.pow
    have h5 := ok.v5
    have h4 := ok.n4
    refine ⟨by decide, fun r0 hr0 => ?_⟩
    refine ⟨_, rfl, b, rfl, ⟨_, SqL.of (same_new hr0 _ _ hb)⟩, ?_⟩
    refine for_list (K := K) (a := b) (xs := bits.map V.int) (fun i σ H' => ∃ (st : Nat) (p : Addr) (row : List Int) (y5 y6 : Option V), σ = [some (.int (v : Int)), some (.ref a), some (.int (st : Int)), some (.ref b), some (.ref p), y5, y6] ∧ Same H H' ∧ H p = none ∧ st < 2 ^ v ∧ H' p = some (.lst (row.map V.int)) ∧ row.length = i * taps.length)
      ⟨0, r0, [], none, none, rfl, same_new hr0, hr0, by omega, upd_same, by simp⟩ (fun i σ H' _ ⟨_, _, _, _, _, _, S, _⟩ => SqL.of (S _ _ hb)) ?_ ?_
    · rintro i x σ H' hx ⟨st, p, row, y5, y6, rfl, Si, hpn, hst, hrow, hrl⟩
      obtain ⟨u, hu, rfl⟩ := of_map hx
      have hi : i < bits.length := (List.getElem?_eq_some_iff.mp hu).1
      have hub := hbits u (List.mem_of_getElem? hu)
      obtain ⟨c, hc⟩ : ∃ c : Nat, u = (c : Int) := ⟨u.toNat, by omega⟩
      subst hc
      have hc2 : c < 2 := by omega
      have hwn : c + 2 * st < 2 * 2 ^ v := by omega
      obtain ⟨x, hx2, rb, rfl, hrb⟩ := hA.at_ (rowAt_at (taps := taps) hwn)
      have hrl2 := rowAt_len (taps := taps) hwn
      have ew : (c : Int) + 2 * (st : Int) = ((c + 2 * st : Nat) : Int) := by omega
      have hsz : i * taps.length ≤ 100 * 4 := Nat.mul_le_mul (by omega) h4
      refine ⟨_, rfl, _, rfl, _, _, rfl, rfl, .inl ⟨by decide, by decide⟩, _, _, rfl, rfl, ?_⟩
      show gName 6 (V.int ((c : Int) + 2 * (st : Int))) _ _ _
      rw [ew]
      refine ⟨_, rfl, _, rfl, _, rfl, a, vs, _, _, rfl, rfl, SqL.of (Si _ _ hv), atI_nat hx2, ?_⟩
      refine ⟨p, rb, _, _, rfl, rfl, hrow, Si _ _ hrb, szle (by rw [List.length_map, List.length_map]; omega), fun p2 hp2 => ?_⟩
      have s2 := same_new (o := .lst (row.map V.int ++ (rowAt v taps (c + 2 * st)).map V.int)) hp2
      refine ⟨_, rfl, _, rfl, _, _, rfl, rfl, ⟨by omega, by omega, by decide⟩, _, _, rfl, rfl, _, _, rfl, rfl, ?_⟩
      refine ⟨(c + 2 * st) % 2 ^ v, p2, row ++ rowAt v taps (c + 2 * st), some (V.int (c : Int)), some (V.int ((c + 2 * st : Nat) : Int)), ?_, Si.trans s2, Si.free hp2, Nat.mod_lt _ (by omega), by rw [upd_same, List.map_append], by rw [List.length_append, hrl, hrl2, Nat.succ_mul]⟩
      show [some (V.int (v : Int)), some (V.ref a), some (V.int (Builtin.bitAnd ((c + 2 * st : Nat) : Int) (1 * 2 ^ ((v : Int)).toNat - 1))), some (V.ref b), some (V.ref p2), _, _] = _
      rw [and_mask]
    · rintro σ H' ⟨st, p, row, y5, y6, rfl, Si, hpn, hst, hrow, hrl⟩
      rw [List.length_map] at hrl
      refine ⟨_, rfl, _, rfl, szle (by simp), fun t ht => ?_⟩
      have sT := same_new (o := .tup [V.int (st : Int), V.ref p]) ht
      exact q _ t p _ row (Si.trans sT) hpn upd_same (IL.kd (kd sT) hrow) hrl

theorem scLReceived : FnScope ["_law_numbers_here", "_law_v", "_law_table_here", "_law_many", "_law_k", "_law_row", "_law_rate", "_law_drawn"] ["_law_numbers_here", "_law_v", "_law_table_here", "_law_many"] (defScope sLReceived) := ⟨rfl, rfl, rfl, by decide +kernel, rfl, by decide +kernel, by decide +kernel⟩
theorem ok_lreceived {CR CF f fB fU : Addr} {fd fdB fdU : FuncData} (F : Fun K "_law_received" "_law_received" sLReceived f fd) (T : Tx K mg CR CF)
    (GB : FnOk P w K mg base CX0 1 fB fdB ["_law_numbers_here", "_law_k"] spLBit) (bB : Binds K fdB ["_law_numbers_here", "_law_k"] []) (gB : mg "_law_bit" = some (.ref fB)) (kB : PySem.W.keepIn K (.ref fB) = true)
    (GU : FnOk P w K mg base CX0 1 fU fdU ["_law_v", "_law_table_here", "_law_state", "_law_bits"] spLRun) (bU : Binds K fdU ["_law_v", "_law_table_here", "_law_state", "_law_bits"] []) (gU : mg "_law_run" = some (.ref fU)) (kU : PySem.W.keepIn K (.ref fU) = true) :
    FnOk P w K mg base CX0 2 f fd ["_law_numbers_here", "_law_v", "_law_table_here", "_law_many"] spLReceived := by
  refine F.ok scLReceived (fun vs H Q E h => ?_) (fun cdv A outer s H vs Q E hr h => ?_)
  · obtain ⟨a, tb, _, _, _, _, rfl, _⟩ := h
    rfl
  · obtain ⟨a, tb, ns, v, taps, many, rfl, ha, hl, hT, ok, hmany, q⟩ := h
    refine ⟨_, pss_cons (ps_set (i := 5) scLReceived.nd rfl (.inl rfl) (pe_ix ix_tup (pe_call GU hr (by rfl) gU kU bU .nil pass0 (pa_cons (pv 1) (pa_cons (pv 2) (pa_cons pe_int
        (pa_cons (pe_op op_cat (pe_lc (own := [("_law_k", 4)]) (g := gName 4) (by rfl) scLReceived.nd (pi_range1 (by rfl) T.range (pa_cons (pv 3) pa_nil))
            (blkOk_by (own := [("_law_k", 4)]) (N := ["_law_numbers_here", "_law_v", "_law_table_here", "_law_many", "_law_k", "_law_row", "_law_rate", "_law_drawn"]) (sc := defScope sLReceived) (by decide +kernel))
            (fun _ _ _ _ _ => pg_name (i := 4) scLReceived.nd rfl (Or.inl rfl)) (fun _ _ _ _ _ => pts_nil)
            (fun _ _ _ _ _ => pe_call GB hr (by rfl) gB kB bB .nil pass0 (pa_cons (pv 0) (pa_cons (pv 4) pa_nil))))
          (pe_op op_rep (pe_lst (pa_cons pe_int pa_nil)) (pv 1))) pa_nil))))) pe_int (fun _ _ => rfl)))
      (pss_cons (ps_set (i := 6) scLReceived.nd rfl (.inl rfl) (pe_ix ix_list (pe_lst (pa_cons pe_int (pa_cons pe_int (pa_cons pe_int (pa_cons pe_int pa_nil))))) (pe_op op_mod (pe_callTy call_int1 (by rfl) T.int (by decide +kernel) (pa_cons (pe_ix ix_list (pv 0) pe_int (fun _ _ => rfl)) pa_nil)) pe_int) (fun _ _ => rfl)))
      (pss_cons (ps_for PassesOwn.never rfl (pi_range1 (by rfl) T.range (pa_cons (pe_callB call_len_seq (by rfl) T.len PySem.boot_len (pa_cons (pv 5) pa_nil)) pa_nil)) (pg_name (i := 4) scLReceived.nd rfl (.inl rfl))
        (pss_cons (ps_set (i := 7) scLReceived.nd rfl (.inl rfl) (pe_callTy call_int1 (by rfl) T.int (by decide +kernel) (pa_cons (pe_op op_add (pe_ix ix_list (pv 0) (pe_op op_add pe_int (pe_op op_mod (pe_callTy call_int1 (by rfl) T.int (by decide +kernel) (pa_cons (pv 4) pa_nil)) pe_int)) (fun _ _ => rfl))
            (pe_op op_mul (pv 4) (pe_ix ix_list (pv 0) (pe_op op_add pe_int (pe_op op_mod (pe_callTy call_int1 (by rfl) T.int (by decide +kernel) (pa_cons (pv 4) pa_nil)) pe_int)) (fun _ _ => rfl)))) pa_nil)))
        (pss_one (ps_if (pt_cmpR op_eq (pe_op op_mod (pe_callTy call_int1 (by rfl) T.int (by decide +kernel) (pa_cons (pv 7) pa_nil)) (pv 6)) pe_int (nomark _))
          (pss_one (ps_asg (pe_ix ix_list (pe_lst (pa_cons (pe_op op_sub pe_int (pe_ix ix_list (pv 5) (pv 4) (fun _ _ => rfl))) (pa_cons (pe_op op_sub pe_int (pe_ix ix_list (pv 5) (pv 4) (fun _ _ => rfl))) (pa_cons pe_non pa_nil)))) (pe_op op_mod (pe_op op_fdiv (pv 7) pe_int) pe_int) (fun _ _ => rfl)) (pg_sub (pv 5) (pv 4) set_list))) pss_nil))))
      (pss_one (ps_ret (pv 5))))), ?_⟩
    have h4 := ok.n4
    have h5 := ok.v5
    -- the bits
    have bn := wbnd (n := many) (by omega)
    refine ⟨_, rfl, _, rfl, _, rfl, _, rfl, bn.1, bn.2, fun D hD => ?_⟩
    have naD : a ≠ D := ne_of_none ha hD
    refine lc_range (fun i H' => ∃ xs : List Int, H' = upd H D (.lst (xs.map V.int)) ∧ xs.length = i ∧ Fh.Bits xs) ⟨[], rfl, rfl, fun t h => by cases h⟩ ?_ ?_
    · rintro i H' hi ⟨xs, rfl, hxl, hxb⟩
      have hi2 : i < many := by rw [Int.toNat_natCast] at hi; exact hi
      have ha' : (upd H D (.lst (xs.map V.int))) a = some (.lst (ns.map V.int)) := by rw [upd_ne naD]; exact ha
      refine ⟨rfl, tyesI ?_⟩
      refine ⟨_, rfl, _, rfl, a, ns, i, by simp, ha', hl, by omega, fun x hx => ?_⟩
      refine ⟨_, upd_same, szline (by rw [List.length_map]; omega), xs ++ [(x : Int)], by rw [upd_upd, List.map_append]; rfl, by simp [hxl], fun t ht => ?_⟩
      rcases List.mem_append.mp ht with ht | ht
      · exact hxb t ht
      · have : t = (x : Int) := by simpa using ht
        omega
    rintro H1 ⟨xs, rfl, hxl, hxb⟩
    rw [Int.toNat_natCast] at hxl
    have sD := same_new (o := .lst (xs.map V.int)) hD
    refine ⟨by decide, fun z1 hz1 => ?_⟩
    have s2 := same_new (o := .lst [V.int 0]) hz1
    refine ⟨_, rfl, z1, _, _, rfl, rfl, upd_same, by omega, by omega, szle (by simp only [List.length_singleton]; omega), fun z2 hz2 => ?_⟩
    rw [Int.toNat_natCast, rep_flat]
    have s3 := same_new (o := .lst (List.replicate v (V.int 0))) hz2
    refine ⟨D, z2, _, _, rfl, rfl, s3 _ _ (s2 _ _ upd_same), upd_same, szle (by simp; omega), fun z3 hz3 => ?_⟩
    have s4 := same_new (o := .lst (xs.map V.int ++ List.replicate v (V.int 0))) hz3
    have S4 := ((sD.trans s2).trans s3).trans s4
    have eb : xs.map V.int ++ List.replicate v (V.int 0) = (xs ++ List.replicate v (0 : Int)).map V.int := by rw [List.map_append, List.map_replicate]
    have hbb : Fh.Bits (xs ++ List.replicate v (0 : Int)) := Fh.Bits.app.mpr ⟨hxb, fun x hx => .inl (List.eq_of_mem_replicate hx)⟩
    have hbl : (xs ++ List.replicate v (0 : Int)).length = many + v := by simp [hxl]
    refine ⟨v, tb, z3, taps, xs ++ List.replicate v (0 : Int), rfl, hT.kd (kd S4), by unfold IL; rw [← eb]; exact upd_same, ok, hbb, by omega, fun H5 t5 p5 st5 row s5 hp5 ht5 hrow hrl => ?_⟩
    rw [hbl] at hrl
    have S5 := S4.trans s5
    have hpn : H p5 = none := S4.free hp5
    refine ⟨t5, _, 1, _, rfl, rfl, SqT.of ht5, at_of (j := 1) rfl rfl, ?_⟩
    -- rate
    obtain ⟨x10, hx10⟩ := at_lt (ns := ns) (z := 10) (by omega) (by omega)
    refine ⟨szle (by simp), fun q1 hq1 => ?_⟩
    have s6 := same_new (o := .lst [V.int 2, V.int 6, V.int 20, V.int 500]) hq1
    have ha6 := s6 _ _ (S5 _ _ ha)
    refine ⟨_, rfl, a, _, _, _, rfl, rfl, SqL.of ha6, hx10, .inl ⟨_, rfl, _, _, rfl, rfl, (show (0 : Int) < 4 by decide), ?_⟩⟩
    obtain ⟨rate, hrate, hat⟩ : ∃ rate : Int, 0 < rate ∧ atI [V.int 2, V.int 6, V.int 20, V.int 500] (x10 % 4) = some (V.int rate) := by
      have : x10 % 4 = 0 ∨ x10 % 4 = 1 ∨ x10 % 4 = 2 ∨ x10 % 4 = 3 := by omega
      rcases this with e | e | e | e <;> rw [e]
      · exact ⟨2, by decide, rfl⟩
      · exact ⟨6, by decide, rfl⟩
      · exact ⟨20, by decide, rfl⟩
      · exact ⟨500, by decide, rfl⟩
    refine ⟨q1, _, _, _, rfl, rfl, SqL.of upd_same, hat, ?_⟩
    have hrow6 := s6 _ _ hrow
    have S6 := S5.trans s6
    have hlen : (row.map V.int).length ≤ 200 := by
      rw [List.length_map, hrl]
      have := Nat.mul_le_mul (show many + v ≤ 35 by omega) h4
      omega
    have br := wbnd (n := (row.map V.int).length) (by omega)
    refine ⟨_, rfl, p5, _, rfl, .inl (SqL.of hrow6), _, rfl, br.1, br.2, ?_⟩
    refine for_range (fun i σ H' => ∃ (R : List (Option Int)) (y4 y7 : Option V), σ = [some (.ref a), some (.int (v : Int)), some (.ref tb), some (.int (many : Int)), y4, some (.ref p5), some (.int rate), y7] ∧ Same H H' ∧ H' p5 = some (.lst (R.map ov)) ∧ R.length = row.length ∧
        ∀ j, i ≤ j → j < row.length → ∃ x, R[j]? = some (some x))
      ⟨row.map some, _, _, rfl, S6, by rw [hrow6, List.map_map]; rfl, by simp, fun j _ hj => ⟨row[j], by rw [List.getElem?_map, List.getElem?_eq_getElem hj]; rfl⟩⟩ ?_ ?_
    · rintro i σ H' hi ⟨R, y4, y7, rfl, Si, hR, hRl, hsome⟩
      have hi2 : i < row.length := by rw [Int.toNat_natCast, List.length_map] at hi; exact hi
      have e0 : (0 : Int) + (i : Int) = (i : Int) := by omega
      rw [e0]
      have hai := Si _ _ ha
      obtain ⟨x, hx⟩ := hsome i (Nat.le_refl i) hi2
      obtain ⟨d1, hd1⟩ := at_lt (ns := ns) (z := 120 + (i : Int) % 113) (by omega) (by omega)
      obtain ⟨d2, hd2⟩ := at_lt (ns := ns) (z := 11 + (i : Int) % 7) (by omega) (by omega)
      rw [List.length_map] at hlen
      refine ⟨_, rfl, _, rfl, .inl ⟨_, rfl, _, _, rfl, rfl, (show (0 : Int) < 113 by decide), _, _, rfl, rfl, a, _, _, _, rfl, rfl, SqL.of hai, hd1, ?_⟩⟩
      refine ⟨_, rfl, _, rfl, _, rfl, .inl ⟨_, rfl, _, _, rfl, rfl, (show (0 : Int) < 7 by decide), _, _, rfl, rfl, a, _, _, _, rfl, rfl, SqL.of hai, hd2, ?_⟩⟩
      refine ⟨_, _, rfl, rfl, .inl ⟨by omega, by omega⟩, _, _, rfl, rfl, .inl ⟨_, rfl, ?_⟩⟩
      refine ⟨_, rfl, .inl ⟨_, rfl, _, rfl, _, _, rfl, rfl, hrate, rfl, _, rfl, ite2 (fun c => ?_) (fun c => ?_)⟩⟩
      · have hRx : (R.map ov)[i]? = some (V.int x) := map_at hx
        refine ⟨_, rfl, _, rfl, p5, _, _, _, rfl, rfl, SqL.of hR, atI_nat hRx, _, _, rfl, rfl, _, rfl, _, rfl, p5, _, _, _, rfl, rfl, SqL.of hR, atI_nat hRx, _, _, rfl, rfl, szle (by simp), fun q2 hq2 => ?_⟩
        have s7 := same_new (o := .lst [V.int (1 - x), V.int (1 - x), V.non]) hq2
        refine ⟨_, rfl, _, _, rfl, rfl, ⟨by decide, by decide⟩, _, _, rfl, rfl, (show (0 : Int) < 3 by decide), ?_⟩
        obtain ⟨o, hat2⟩ : ∃ o : Option Int, atI [V.int (1 - x), V.int (1 - x), V.non] ((d1 + (i : Int) * d2) / 500 % 3) = some (ov o) := by
          have : (d1 + (i : Int) * d2) / 500 % 3 = 0 ∨ (d1 + (i : Int) * d2) / 500 % 3 = 1 ∨ (d1 + (i : Int) * d2) / 500 % 3 = 2 := by omega
          rcases this with e | e | e <;> rw [e]
          · exact ⟨some (1 - x), rfl⟩
          · exact ⟨some (1 - x), rfl⟩
          · exact ⟨none, rfl⟩
        refine ⟨q2, _, _, _, rfl, rfl, SqL.of upd_same, hat2, ?_⟩
        have hix : ixN (R.map ov).length (i : Int) = some i := by
          unfold ixN
          rw [if_pos (by omega), if_pos (by rw [List.length_map]; omega)]
          simp
        refine ⟨_, rfl, _, rfl, p5, _, _, _, rfl, rfl, s7 _ _ hR, hix, ?_⟩
        refine ⟨R.set i o, _, _, rfl, fun d u ed => ?_, by rw [upd_same, List.map_set], by simp [hRl], fun j h1 h2 => ?_⟩
        · rw [upd_ne (ne_of_none ed hpn)]
          exact s7 _ _ (Si _ _ ed)
        · rw [List.getElem?_set_ne (by omega)]
          exact hsome j (by omega) h2
      · exact ⟨R, _, _, rfl, Si, hR, hRl, fun j h1 h2 => hsome j (by omega) h2⟩
    · rintro σ H' ⟨R, y4, y7, rfl, Si, hR, hRl, hsome⟩
      exact ⟨_, rfl, q _ p5 R Si hR (by rw [hRl, hrl])⟩
end
end Fh
namespace Fh
open PySem PySem.Spec PyProof.Rows L2

abbrev sLTurn : Stmt := top 33
abbrev sLBeg : Stmt := top 34
abbrev sLPrices : Stmt := top 35

def spLTurn : Sp := fun vs H Q _ => ∃ (v : Nat) (tb a b : Addr) (taps : List Int) (ps : List Path) (part : List (Option Int)), vs = [.int (v : Int), .ref tb, .ref a, .ref b] ∧ TL H tb (tab v taps) ∧ PL H a ps ∧ OL H b part ∧ RegOk v taps ∧ part.length = taps.length ∧ ps.length = 2 ^ v ∧
  (∀ l ∈ rowsOf ps, l.length ≤ 1000) ∧ ∀ H' q, Same H H' → PL H' q (turnF (nxt v) (wOf v taps part) ps) → Q (.ref q) H'
def spLBeg : Sp := fun vs H Q _ => ∃ (a : Addr) (ps : List Path) (t : Nat), vs = [.ref a] ∧ PL H a ps ∧ rowsOf ps ≠ [] ∧ ps.length ≤ 1000 ∧ t ≤ 1000 ∧ (∀ r ∈ rowsOf ps, r.length = t) ∧ ∀ H' q, Same H H' → IL H' q (beg ps) → Q (.ref q) H'
def spLPrices : Sp := fun vs H Q _ => ∃ (a : Addr) (ps : List Path), vs = [.ref a] ∧ PL H a ps ∧ ps.length ≤ 1000 ∧ ∀ H' q, Same H H' → OL H' q (ps.map pr) → Q (.ref q) H'

section
variable {P : Program} {w : World} {K : PySem.W.Frag} {mg : Str → Option Value} {base : Heap}
theorem scLPrices : FnScope ["_law_paths", "_law_costs", "_law_path"] ["_law_paths"] (defScope sLPrices) := ⟨rfl, rfl, rfl, by decide +kernel, rfl, by decide +kernel, by decide +kernel⟩
theorem ok_lprices {CR CF f : Addr} {fd : FuncData} (F : Fun K "_law_prices" "_law_prices" sLPrices f fd) (T : Tx K mg CR CF) : FnOk P w K mg base CX0 1 f fd ["_law_paths"] spLPrices := by
  refine F.ok scLPrices (fun vs H Q E h => ?_) (fun cdv A outer s H vs Q E hr h => ?_)
  · obtain ⟨a, _, rfl, _⟩ := h
    rfl
  · obtain ⟨a, ps, rfl, ⟨vs, hv, hA⟩, hsz, q⟩ := h
    refine ⟨_, pss_cons (ps_set (i := 1) scLPrices.nd rfl (.inl rfl) (pe_lst pa_nil))
      (pss_cons (ps_for PassesOwn.never rfl (pi_list (pv 0)) (pg_name (i := 2) scLPrices.nd rfl (.inl rfl))
        (pss_cons (ps_expr (pe_bm PySem.F.plainAttrs_list PySem.F.slot_list_append PySem.F.type_list_append mt_append (pv 1) (pa_cons pe_non pa_nil)))
        (pss_one (ps_if (pt_cmpR op_notN (pv 2) pe_non (nomark _)) (pss_one (ps_asg (pe_ix ix_tup (pv 2) pe_int (fun _ _ => rfl)) (pg_sub (pv 1) (pe_un un_neg pe_int) set_list))) pss_nil))))
      (pss_one (ps_ret (pv 1)))), ?_⟩
    refine ⟨by decide, fun c hc => ?_⟩
    have s1 := same_new (o := .lst []) hc
    refine ⟨_, rfl, a, rfl, ⟨_, SqL.of (s1 _ _ hv)⟩, ?_⟩
    refine for_list (K := K) (a := a) (xs := vs) (fun i σ H' => ∃ y2, σ = [some (.ref a), some (.ref c), y2] ∧ Same H H' ∧ H' c = some (.lst (((ps.take i).map pr).map ov)))
      ⟨none, rfl, s1, upd_same⟩ (fun i σ H' _ ⟨_, _, S, _⟩ => SqL.of (S _ _ hv)) ?_ ?_
    · rintro i x σ H' hx ⟨y2, rfl, Si, hci⟩
      obtain ⟨o, ho, hpv⟩ := hA.at1 hx
      have hi : i < ps.length := (List.getElem?_eq_some_iff.mp ho).1
      have hl : (((ps.take i).map pr).map ov).length = i := by simp; omega
      have et : ((ps.take (i + 1)).map pr).map ov = ((ps.take i).map pr).map ov ++ [ov (pr o)] := by
        rw [List.take_add_one, ho, List.map_append, List.map_append]; rfl
      refine ⟨_, rfl, .inl ⟨rfl, _, SqL.of hci⟩, c, _, _, rfl, rfl, hci, szline (by omega), ?_⟩
      have keep : ∀ o', Same H (upd H' c o') := fun o' d u ed => by rw [upd_ne (ne_of_none ed hc)]; exact Si _ _ ed
      cases o with
      | none =>
        cases hpv
        refine ⟨_, rfl, rfl, false, rfl, iteF ⟨_, rfl, keep _, ?_⟩⟩
        rw [upd_same, et]; rfl
      | some cl =>
        obtain ⟨c0, l⟩ := cl
        obtain ⟨tp, b, rfl, htp, hb⟩ := hpv
        refine ⟨_, rfl, rfl, true, rfl, iteT ?_⟩
        refine ⟨_, rfl, tp, _, 0, _, rfl, rfl, SqT.of (keep _ _ _ htp), at_of (j := 0) rfl rfl, ?_⟩
        refine ⟨_, rfl, _, rfl, c, _, _, i, rfl, rfl, upd_same, ?_, ?_⟩
        · unfold ixN
          rw [List.length_append, hl, if_neg (by decide), if_pos (by simp; omega)]
          congr 1
          simp
          omega
        · refine ⟨_, rfl, by rw [upd_upd]; exact keep _, ?_⟩
          rw [upd_same, et, List.set_append_right _ _ (by omega), hl, Nat.sub_self]
          rfl
    · rintro σ H' ⟨y2, rfl, Si, hci⟩
      rw [hA.1, List.take_length] at hci
      exact ⟨_, rfl, q _ c Si hci⟩

theorem scLBeg : FnScope ["_law_paths", "_law_rows", "_law_size", "_law_k", "_law_path", "_law_row"] ["_law_paths"] (defScope sLBeg) := ⟨rfl, rfl, rfl, by decide +kernel, rfl, by decide +kernel, by decide +kernel⟩
theorem ok_lbeg {CR CF f : Addr} {fd : FuncData} (F : Fun K "_law_beginning" "_law_beginning" sLBeg f fd) (T : Tx K mg CR CF) : FnOk P w K mg base CX0 1 f fd ["_law_paths"] spLBeg := by
  refine F.ok scLBeg (fun vs H Q E h => ?_) (fun cdv A outer s H vs Q E hr h => ?_)
  · obtain ⟨a, _, _, rfl, _⟩ := h
    rfl
  · obtain ⟨a, ps, t, rfl, ⟨vs, hv, hA⟩, hne, hsz, ht, hrl, q⟩ := h
    refine ⟨_, pss_cons (ps_set (i := 1) scLBeg.nd rfl (.inr rfl) (pe_lc (own := [("_law_path", 4)]) (g := gName 4) (by rfl) scLBeg.nd (pi_list (pv 0))
          (blkOk_by (own := [("_law_path", 4)]) (N := ["_law_paths", "_law_rows", "_law_size", "_law_k", "_law_path", "_law_row"]) (sc := defScope sLBeg) (by decide +kernel))
          (fun _ _ _ _ _ => pg_name (i := 4) scLBeg.nd rfl (Or.inl rfl)) (fun _ _ _ _ _ => pts_one (pt_cmpR op_notN (pv 4) pe_non (nomark _)))
          (fun _ _ _ _ _ => pe_ix (ixT K) (pv 4) pe_int (fun _ _ => rfl))))
      (pss_cons (ps_set (i := 2) scLBeg.nd rfl (.inl rfl) pe_int)
      (pss_cons (ps_for PassesOwn.never rfl (pi_range1 (by rfl) T.range (pa_cons (pe_callB call_len_seq (by rfl) T.len PySem.boot_len (pa_cons (pe_ix ix_list (pv 1) pe_int (fun _ _ => rfl)) pa_nil)) pa_nil)) (pg_name (i := 3) scLBeg.nd rfl (.inr rfl))
        (pss_one (ps_if (PW.pt (pw_and (pt_cmpR op_eq (pv 2) (pv 3) (nomark _)) (pw_and1 (pt_val (pe_callB (cr_all rfl) (by rfl) T.all (by decide +kernel) (pa_cons (pe_lc (own := [("_law_row", 5)]) (g := gName 5) (by rfl) scLBeg.nd (pi_list (pv 1))
              (blkOk_by (own := [("_law_row", 5)]) (N := ["_law_paths", "_law_rows", "_law_size", "_law_k", "_law_path", "_law_row"]) (sc := defScope sLBeg) (by decide +kernel))
              (fun _ _ _ _ _ => pg_name (i := 5) scLBeg.nd rfl (Or.inl rfl)) (fun _ _ _ _ _ => pts_nil)
              (fun _ _ _ _ _ => pe_cmpR op_eq (pe_ix (ixL K) (pv 5) (pv 3) (fun _ _ => rfl)) (pe_ix (ixL K) (pe_ix (ixL K) (pv 1) pe_int (fun _ _ => rfl)) (pv 3) (fun _ _ => rfl)) (nomark _))) pa_nil))))))
          (pss_one (ps_set (i := 2) scLBeg.nd rfl (.inl rfl) (pe_op op_add (pv 3) pe_int))) pss_nil)))
      (pss_one (ps_ret (pe_slice sl_list (pe_ix ix_list (pv 1) pe_int (fun _ _ => rfl)) po_none (po_some (pv 2))))))), ?_⟩
    -- rows
    refine ⟨_, rfl, a, rfl, ⟨_, SqL.of hv⟩, fun D hD => ?_⟩
    have nD : a ≠ D := ne_of_none hv hD
    refine lc_list (K := K) (a := a) (xs := vs) (fun i H' => ∃ us, H' = upd H D (.lst us) ∧ A2 (RL H) us (rowsOf (ps.take i)) ∧ us.length ≤ i) ⟨[], rfl, by simp [rowsOf]; exact A2.nil, Nat.le_refl _⟩
      (fun i H' _ ⟨us, e, _⟩ => by rw [e]; exact SqL.of (by rw [upd_ne nD]; exact hv)) ?_ ?_
    · rintro i x H' hx ⟨us, rfl, hU, hul⟩
      obtain ⟨o, ho, hpv⟩ := hA.at1 hx
      have hi : i < ps.length := (List.getElem?_eq_some_iff.mp ho).1
      have et : ps.take (i + 1) = ps.take i ++ [o] := by rw [List.take_add_one, ho]; rfl
      refine ⟨rfl, ?_⟩
      cases o with
      | none =>
        cases hpv
        refine ⟨_, rfl, rfl, false, rfl, iteF ⟨us, rfl, ?_, by omega⟩⟩
        rw [et]
        unfold rowsOf
        rw [List.filterMap_append]
        simp only [List.filterMap_cons, Option.map_none, List.filterMap_nil, List.append_nil]
        exact hU
      | some cl =>
        obtain ⟨c, l⟩ := cl
        obtain ⟨tp, b, rfl, htp, hb⟩ := hpv
        have ntD : tp ≠ D := ne_of_none htp hD
        refine ⟨_, rfl, rfl, true, rfl, iteT ?_⟩
        refine ⟨_, rfl, tp, _, 1, _, rfl, rfl, SqT.of (by rw [upd_ne ntD]; exact htp), at_of (j := 1) rfl rfl, us, upd_same, szline (by omega), us ++ [V.ref b], upd_upd, ?_, by simp; omega⟩
        rw [et]
        unfold rowsOf
        rw [List.filterMap_append]
        exact hU.snoc ⟨b, rfl, hb⟩
    rintro H1 ⟨us, rfl, hU, hul⟩
    rw [hA.1, List.take_length] at hU
    have sD := same_new (o := .lst us) hD
    generalize hrows : rowsOf ps = rows at hU hne hrl
    obtain ⟨r0, rest, rfl⟩ : ∃ r0 rest, rows = r0 :: rest := by
      cases rows with
      | nil => exact absurd rfl hne
      | cons a b => exact ⟨a, b, rfl⟩
    have hbeg : beg ps = r0.take (szTo (r0 :: rest) r0 r0.length) := by unfold beg; rw [hrows]; rfl
    have l0 := hrl r0 List.mem_cons_self
    obtain ⟨x0, hx0, b0, rfl, hb0⟩ := hU.at_ (i := 0) (y := r0) rfl
    have hD1 : (upd H D (.lst us)) D = some (.lst us) := upd_same
    have hb1 : (upd H D (.lst us)) b0 = some (.lst (r0.map V.int)) := sD _ _ hb0
    have lr0 : (r0.map V.int).length = r0.length := List.length_map ..
    have br := wbnd (n := (r0.map V.int).length) (by omega)
    refine ⟨_, rfl, D, us, 0, _, rfl, rfl, SqL.of hD1, at_of (j := 0) rfl hx0, b0, _, rfl, .inl (SqL.of hb1), _, rfl, br.1, br.2, ?_⟩
    refine for_range (fun i σ H' => ∃ (y3 y4 y5 : Option V), σ = [some (.ref a), some (.ref D), some (.int ((szTo (r0 :: rest) r0 i : Nat) : Int)), y3, y4, y5] ∧ Same (upd H D (.lst us)) H')
      ⟨_, _, _, rfl, Same.refl _⟩ ?_ ?_
    · rintro i σ H' hi ⟨y3, y4, y5, rfl, Si⟩
      have hi2 : i < r0.length := by rw [Int.toNat_natCast, lr0] at hi; exact hi
      have e0 : (0 : Int) + (i : Int) = (i : Int) := by omega
      rw [e0]
      have hD2 := Si _ _ hD1
      have hb2 := Si _ _ hb1
      refine ⟨_, rfl, _, rfl, rfl, _, rfl, ?_⟩
      have hne2 : ∀ c, szTo (r0 :: rest) r0 (i + 1) = c → True := fun _ _ => trivial
      refine ite2 (fun c => ?_) (fun c => ?_)
      · have hz : szTo (r0 :: rest) r0 i = i := by
          have := of_decide_eq_true c
          injection this with this
          omega
        -- all([..])
        refine ⟨_, rfl, D, rfl, ⟨_, SqL.of hD2⟩, fun E1 hE1 => ?_⟩
        have nDE : D ≠ E1 := ne_of_none hD2 hE1
        have nbE : b0 ≠ E1 := ne_of_none hb2 hE1
        refine lc_list (K := K) (a := D) (xs := us) (fun j H3 => H3 = upd H' E1 (.lst ((((r0 :: rest).take j).map fun r => decide (r[i]? = r0[i]?)).map V.bl))) (by simp) (fun j H3 _ e => by rw [e]; exact SqL.of (by rw [upd_ne nDE]; exact hD2)) ?_ ?_
        · rintro j x H3 hx rfl
          obtain ⟨r, hr', b, rfl, hb⟩ := hU.at1 hx
          have hrm := List.mem_of_getElem? hr'
          have hri : i < r.length := by have := hrl r hrm; omega
          have hbb := Si _ _ (sD _ _ hb)
          have nbE2 : b ≠ E1 := ne_of_none hbb hE1
          have g1 := List.getElem?_eq_getElem hri
          have g2 := List.getElem?_eq_getElem hi2
          have hjl : j < us.length := (List.getElem?_eq_some_iff.mp hx).1
          refine ⟨rfl, tyesI ?_⟩
          refine ⟨_, rfl, _, rfl, b, _, _, _, rfl, rfl, SqL.of (by rw [upd_ne nbE2]; exact hbb), atI_nat (map_at g1), ?_⟩
          refine ⟨_, rfl, D, us, 0, _, rfl, rfl, SqL.of (by rw [upd_ne nDE]; exact hD2), at_of (j := 0) rfl hx0, _, rfl, b0, _, _, _, rfl, rfl, SqL.of (by rw [upd_ne nbE]; exact hb2), atI_nat (map_at g2), ?_⟩
          have hvl := hA.1
          refine ⟨rfl, _, upd_same, szline (by simp; omega), ?_⟩
          have ed : decide (V.int r[i] = V.int r0[i]) = decide (r[i]? = r0[i]?) := by
            rw [g1, g2]
            by_cases z : r[i] = r0[i]
            · rw [z]; simp
            · simp [z]
          rw [upd_upd, List.take_add_one, hr', List.map_append, List.map_append, ed]
          rfl
        · rintro H3 rfl
          have hul2 : us.length = (r0 :: rest).length := hU.1
          refine ⟨E1, _, rfl, SqL.of upd_same, _, rfl, ?_⟩
          rw [hul2, List.take_length]
          have sE := same_new (o := .lst ((((r0 :: rest).map fun r => decide (r[i]? = r0[i]?))).map V.bl)) hE1
          have eall : ((r0 :: rest).map fun r => decide (r[i]? = r0[i]?)).all id = (r0 :: rest).all fun r => decide (r[i]? = r0[i]?) := by rw [List.all_map]; rfl
          rw [eall]
          refine ite2 (fun d => ?_) (fun d => ?_)
          · refine ⟨_, rfl, _, _, rfl, rfl, some (.int (i : Int)), y4, y5, ?_, Si.trans sE⟩
            rw [szTo, if_pos ⟨hz, d⟩]
            rfl
          · refine ⟨some (.int (i : Int)), y4, y5, ?_, Si.trans sE⟩
            rw [szTo, if_neg (fun z => d z.2)]
            rfl
      · refine iteF ⟨some (.int (i : Int)), y4, y5, ?_, Si⟩
        have hz : ¬ szTo (r0 :: rest) r0 i = i := fun z => c (by rw [z]; exact decide_eq_true rfl)
        rw [szTo, if_neg (fun z => hz z.1)]
        rfl
    · rintro σ H' ⟨y3, y4, y5, rfl, Si⟩
      rw [Int.toNat_natCast, lr0]
      refine ⟨_, rfl, D, us, 0, _, rfl, rfl, SqL.of (Si _ _ hD1), at_of (j := 0) rfl hx0, _, rfl, _, rfl, b0, _, rfl, SqL.of (Si _ _ hb1), fun q2 hq2 => ?_⟩
      have s9 := same_new (o := .lst (cutV (r0.map V.int) none (some ((szTo (r0 :: rest) r0 r0.length : Nat) : Int)))) hq2
      refine q _ q2 ((sD.trans Si).trans s9) ?_
      unfold IL
      rw [upd_same, hbeg, cut_to, List.map_take]
end
end Fh
namespace Fh
open PySem PySem.Spec PyProof.Rows L2

section
variable {P : Program} {w : World} {K : PySem.W.Frag} {mg : Str → Option Value} {base : Heap}
abbrev nLTurn : List Str := ["_law_v", "_law_table_here", "_law_paths", "_law_part", "_law_state", "_law_after", "_law_bit_here", "_law_window", "_law_path", "_law_k"]
theorem scLTurn : FnScope nLTurn ["_law_v", "_law_table_here", "_law_paths", "_law_part"] (defScope sLTurn) := ⟨rfl, rfl, rfl, by decide +kernel, rfl, by decide +kernel, by decide +kernel⟩
theorem ok_lturn {CR CF f fC : Addr} {fd fdC : FuncData} (F : Fun K "_law_turn" "_law_turn" sLTurn f fd) (T : Tx K mg CR CF)
    (GC : FnOk P w K mg base CX0 1 fC fdC ["_law_row", "_law_part"] spDiff) (bC : Binds K fdC ["_law_row", "_law_part"] []) (gC : mg "_law_cost" = some (.ref fC)) (kC : PySem.W.keepIn K (.ref fC) = true) :
    FnOk P w K mg base CX0 2 f fd ["_law_v", "_law_table_here", "_law_paths", "_law_part"] spLTurn := by
  refine F.ok scLTurn (fun vs H Q E h => ?_) (fun cdv A outer s H vs Q E hr h => ?_)
  · obtain ⟨v, tb, a, b, _, _, _, rfl, _⟩ := h
    rfl
  · obtain ⟨v, tb, ap, b, taps, ps, part, rfl, ⟨tvs, htv, hTA⟩, ⟨vs0, hv0, hA0⟩, hb, ok, hpl, hpsl, hrl, q⟩ := h
    refine ⟨_, pss_cons (ps_setLc (i := 5) (own := [("_law_state", 4)]) (g := gName 4) (by rfl) scLTurn.nd rfl rfl (sw_true rfl rfl rfl (by decide +kernel))
          (pi_range1 (by rfl) T.range (pa_cons (pe_op op_shl pe_int (pv 0)) pa_nil))
          (blkOk_by (own := [("_law_state", 4)]) (N := nLTurn) (sc := defScope sLTurn) (by decide +kernel))
          (fun _ _ _ _ _ => pg_name (i := 4) scLTurn.nd rfl (Or.inl rfl)) (fun _ _ _ _ _ => pts_nil) (fun _ _ _ _ _ => pe_non))
      (pss_cons (ps_for PassesOwn.never rfl (pi_range1 (by rfl) T.range (pa_cons (pe_op op_shl pe_int (pv 0)) pa_nil)) (pg_name (i := 4) scLTurn.nd rfl (.inl rfl))
        (pss_one (ps_for PassesOwn.never rfl (pi_range1 (by rfl) T.range (pa_cons pe_int pa_nil)) (pg_name (i := 6) scLTurn.nd rfl (.inl rfl))
          (pss_one (ps_if (pt_cmpR op_notN (pe_ix ix_list (pv 2) (pv 4) (fun _ _ => rfl)) pe_non (nomark _))
            (pss_cons (ps_set (i := 7) scLTurn.nd rfl (.inl rfl) (pe_op op_add (pv 6) (pe_op op_mul pe_int (pv 4))))
            (pss_cons (ps_set (i := 8) scLTurn.nd rfl (.inl rfl) (pe_tup (pa_cons (pe_op op_add (pe_ix ix_tup (pe_ix ix_list (pv 2) (pv 4) (fun _ _ => rfl)) pe_int (fun _ _ => rfl)) (pe_call GC hr (by rfl) gC kC bC .nil pass0 (pa_cons (pe_ix ix_list (pv 1) (pv 7) (fun _ _ => rfl)) (pa_cons (pv 3) pa_nil))))
                (pa_cons (pe_op op_cat (pe_ix ix_tup (pe_ix ix_list (pv 2) (pv 4) (fun _ _ => rfl)) pe_int (fun _ _ => rfl)) (pe_lst (pa_cons (pv 6) pa_nil))) pa_nil))))
            (pss_cons (ps_set (i := 9) scLTurn.nd rfl (.inl rfl) (pe_op op_and (pv 7) (pe_op op_sub (pe_op op_shl pe_int (pv 0)) pe_int)))
            (pss_one (ps_if (PW.pt (pw_or (pt_cmpR op_isN (pe_ix ix_list (pv 5) (pv 9) (fun _ _ => rfl)) pe_non (nomark _)) (pw_or1 (pt_cmpR (op_ltP hr.units) (pv 8) (pe_ix ix_list (pv 5) (pv 9) (fun _ _ => rfl)) (nomark _)))))
              (pss_one (ps_asg (pv 8) (pg_sub (pv 5) (pv 9) set_list))) pss_nil))))) pss_nil)))))
      (pss_one (ps_ret (pv 5)))), ?_⟩
    have hM := ok.pow
    have h4 := ok.n4
    have h5 := ok.v5
    have hvl : vs0.length = 2 ^ v := by rw [hA0.1, hpsl]
    have ep : (1 : Int) * 2 ^ ((v : Int)).toNat = ((2 ^ v : Nat) : Int) := by rw [Int.one_mul, Int.toNat_natCast]; simp
    have bn := wbnd (n := 2 ^ v) (by omega)
    -- after
    refine ⟨_, rfl, _, _, rfl, rfl, ⟨by omega, by omega, by decide⟩, _, rfl, by rw [ep]; exact bn.1, by rw [ep]; exact bn.2, fun pa hpa => ?_⟩
    refine lc_range (fun i H' => H' = upd H pa (.lst (List.replicate i V.non))) rfl ?_ ?_
    · rintro i H' hi rfl
      rw [ep, Int.toNat_natCast] at hi
      refine ⟨rfl, tyesI ⟨_, upd_same, szline (by simp; omega), ?_⟩⟩
      rw [upd_upd, List.replicate_succ']
    rintro H1 rfl
    rw [ep, Int.toNat_natCast]
    have s1 := same_new (o := .lst (List.replicate (2 ^ v) V.non)) hpa
    refine ⟨_, rfl, _, _, rfl, rfl, ⟨by omega, by omega, by decide⟩, _, rfl, by rw [ep]; exact bn.1, by rw [ep]; exact bn.2, ?_⟩
    refine for_range (fun i σ H' => ∃ (y4 y6 y7 y8 y9 : Option V) (us : List V), σ = [some (.int (v : Int)), some (.ref tb), some (.ref ap), some (.ref b), y4, some (.ref pa), y6, y7, y8, y9] ∧ Same H H' ∧ H' pa = some (.lst us) ∧ A2 (PV (hid H' pa)) us (turnTo (nxt v) (wOf v taps part) ps i))
      ⟨none, none, none, none, none, _, rfl, s1, upd_same, ?_⟩ ?_ ?_
    · rw [turnTo, hpsl]
      exact A2.rep (R := PV _) (x := V.non) (y := none) rfl _
    · rintro i σ Hi hi ⟨y4, y6, y7, y8, y9, us, rfl, Si, hpi, hAi⟩
      have hi2 : i < 2 ^ v := by rw [ep, Int.toNat_natCast] at hi; exact hi
      have e0 : (0 : Int) + (i : Int) = (i : Int) := by omega
      rw [e0]
      obtain ⟨o, ho⟩ : ∃ o, ps[i]? = some o := ⟨_, List.getElem?_eq_getElem (by omega)⟩
      obtain ⟨x, hx, hpv⟩ := hA0.at_ ho
      refine ⟨_, rfl, (show -(2 ^ 62) ≤ (2 : Int) by decide), (show (2 : Int) < 2 ^ 62 by decide), ?_⟩
      cases o with
      | none =>
        cases hpv
        refine for_range (fun k σ H' => ∃ (y6 : Option V), σ = [some (.int (v : Int)), some (.ref tb), some (.ref ap), some (.ref b), some (.int (i : Int)), some (.ref pa), y6, y7, y8, y9] ∧ H' = Hi) ⟨_, rfl, rfl⟩ ?_ ?_
        · rintro k σ H' hk ⟨y6, rfl, rfl⟩
          refine ⟨_, rfl, _, rfl, ap, _, _, _, rfl, rfl, SqL.of (Si _ _ hv0), atI_nat hx, rfl, false, rfl, iteF ⟨_, rfl, rfl⟩⟩
        · rintro σ H' ⟨y6, rfl, rfl⟩
          refine ⟨_, _, _, _, _, us, rfl, Si, hpi, ?_⟩
          rw [turnTo, stepS_none ho]
          exact hAi
      | some cl =>
        obtain ⟨c, l⟩ := cl
        obtain ⟨tp, lb, rfl, htp, hlb⟩ := hpv
        have hll : l.length ≤ 1000 := hrl l (pv_row ho)
        refine for_range (fun k σ H' => ∃ (y6 y7 y8 y9 : Option V) (us : List V), σ = [some (.int (v : Int)), some (.ref tb), some (.ref ap), some (.ref b), some (.int (i : Int)), some (.ref pa), y6, y7, y8, y9] ∧ Same H H' ∧
            H' pa = some (.lst us) ∧ A2 (PV (hid H' pa)) us (stepK (nxt v) (wOf v taps part) i c l (turnTo (nxt v) (wOf v taps part) ps i) k))
          ⟨y6, y7, y8, y9, us, rfl, Si, hpi, hAi⟩ ?_ ?_
        · rintro k σ Hk hk ⟨y6, y7, y8, y9, us, rfl, Sk, hpk, hAk⟩
          have hk2 : k < 2 := hk
          have e1 : (0 : Int) + (k : Int) = (k : Int) := by omega
          rw [e1]
          refine ⟨_, rfl, _, rfl, ap, _, _, _, rfl, rfl, SqL.of (Sk _ _ hv0), atI_nat hx, rfl, true, rfl, iteT ?_⟩
          -- window
          have ew : (k : Int) + 2 * (i : Int) = ((k + 2 * i : Nat) : Int) := by omega
          refine ⟨_, rfl, _, rfl, _, _, rfl, rfl, .inl ⟨by decide, by decide⟩, _, _, rfl, rfl, ?_⟩
          show gName 7 (V.int ((k : Int) + 2 * (i : Int))) _ _ _
          rw [ew]
          have hw : k + 2 * i < 2 * 2 ^ v := by omega
          have hrow := rowAt_len (taps := taps) hw
          obtain ⟨xr, hxr, rb, rfl, hrb⟩ := hTA.at_ (rowAt_at (taps := taps) hw)
          -- path
          refine ⟨_, rfl, _, rfl, ap, _, _, _, rfl, rfl, SqL.of (Sk _ _ hv0), atI_nat hx, tp, _, 0, _, rfl, rfl, SqT.of (Sk _ _ htp), at_of (j := 0) rfl rfl, ?_⟩
          refine ⟨_, rfl, _, rfl, tb, _, _, _, rfl, rfl, SqL.of (Sk _ _ htv), atI_nat hxr, _, rfl, rb, b, rowAt v taps (k + 2 * i), part, rfl, Sk _ _ hrb, Sk _ _ hb, by omega, by omega, fun Hm Sm => ?_⟩
          have SM := Sk.trans Sm
          refine ⟨_, _, rfl, rfl, ?_⟩
          refine ⟨_, rfl, _, rfl, ap, _, _, _, rfl, rfl, SqL.of (SM _ _ hv0), atI_nat hx, tp, _, 1, _, rfl, rfl, SqT.of (SM _ _ htp), at_of (j := 1) rfl rfl, ?_⟩
          refine ⟨_, rfl, szle (by simp), fun l1 hl1 => ?_⟩
          have sL := same_new (o := .lst [V.int (k : Int)]) hl1
          refine ⟨lb, l1, _, _, rfl, rfl, sL _ _ (SM _ _ hlb), upd_same, szle (by simp; omega), fun nl hnl => ?_⟩
          have sN := same_new (o := .lst (l.map V.int ++ [V.int (k : Int)])) hnl
          refine ⟨szle (by simp), fun nt hnt => ?_⟩
          have sT := same_new (o := .tup [V.int (c + ((cost (rowAt v taps (k + 2 * i)) part : Nat) : Int)), V.ref nl]) hnt
          have SN := ((Sm.trans sL).trans sN).trans sT
          have npl : nl ≠ pa := fun z => by rw [z] at hnl; rw [sL _ _ (Sm _ _ hpk)] at hnl; cases hnl
          have npt2 : nt ≠ pa := fun z => by rw [z] at hnt; rw [sN _ _ (sL _ _ (Sm _ _ hpk))] at hnt; cases hnt
          generalize hHn : upd (upd (upd Hm l1 (.lst [V.int (k : Int)])) nl (.lst (l.map V.int ++ [V.int (k : Int)]))) nt (.tup [V.int (c + ((cost (rowAt v taps (k + 2 * i)) part : Nat) : Int)), V.ref nl]) = Hn at SN ⊢
          have hpn : Hn pa = some (.lst us) := SN _ _ hpk
          have hAn : A2 (PV (hid Hn pa)) us (stepK (nxt v) (wOf v taps part) i c l (turnTo (nxt v) (wOf v taps part) ps i) k) := hAk.imp fun x y z => z.kd (kd (hid_mono SN))
          have hnew : PV (hid Hn pa) (V.ref nt) (some (c + wOf v taps part i k, l ++ [(k : Int)])) := by
            refine ⟨nt, nl, rfl, ?_, ?_⟩
            · rw [hid_ne npt2, ← hHn, upd_same]; rfl
            · unfold IL
              rw [hid_ne npl, ← hHn, sT _ _ (show (upd _ nl _) nl = _ from upd_same), List.map_append]; rfl
          -- k
          refine ⟨_, rfl, _, rfl, _, _, rfl, rfl, ⟨by omega, by omega, by decide⟩, _, _, rfl, rfl, _, _, rfl, rfl, ?_⟩
          show gName 9 (V.int (Builtin.bitAnd ((k + 2 * i : Nat) : Int) (1 * 2 ^ ((v : Int)).toNat - 1))) _ _ _
          rw [and_mask]
          have hlen : (stepK (nxt v) (wOf v taps part) i c l (turnTo (nxt v) (wOf v taps part) ps i) k).length = 2 ^ v := by rw [stepK_len, turnTo_len, hpsl]
          have hal : nxt v i k < (stepK (nxt v) (wOf v taps part) i c l (turnTo (nxt v) (wOf v taps part) ps i) k).length := by rw [hlen]; exact nxt_lt v i k
          obtain ⟨oa, hoa⟩ : ∃ oa, (stepK (nxt v) (wOf v taps part) i c l (turnTo (nxt v) (wOf v taps part) ps i) k)[nxt v i k]? = some oa := ⟨_, List.getElem?_eq_getElem hal⟩
          obtain ⟨u, hu, hpu⟩ := hAn.at_ hoa
          have hixu : ixN us.length (((k + 2 * i) % 2 ^ v : Nat) : Int) = some (nxt v i k) := by
            have hul : us.length = 2 ^ v := by rw [hAn.1, hlen]
            have := nxt_lt v i k
            show ixN us.length ((nxt v i k : Nat) : Int) = _
            unfold ixN
            rw [if_pos (by omega), if_pos (by omega)]
            simp
          have hat : atI us (((k + 2 * i) % 2 ^ v : Nat) : Int) = some u := atI_nat (j := nxt v i k) hu
          have SHn := Sk.trans SN
          have store : relax (stepK (nxt v) (wOf v taps part) i c l (turnTo (nxt v) (wOf v taps part) ps i) k) (nxt v i k) (c + wOf v taps part i k, l ++ [(k : Int)]) = (stepK (nxt v) (wOf v taps part) i c l (turnTo (nxt v) (wOf v taps part) ps i) k).set (nxt v i k) (some (c + wOf v taps part i k, l ++ [(k : Int)])) →
              Same H (upd Hn pa (.lst (us.set (nxt v i k) (V.ref nt)))) ∧ A2 (PV (hid (upd Hn pa (.lst (us.set (nxt v i k) (V.ref nt)))) pa)) (us.set (nxt v i k) (V.ref nt)) (stepK (nxt v) (wOf v taps part) i c l (turnTo (nxt v) (wOf v taps part) ps i) (k + 1)) := by
            intro e
            refine ⟨fun d o ed => ?_, ?_⟩
            · rw [upd_ne (ne_of_none ed hpa)]
              exact SHn _ _ ed
            · rw [hid_upd, stepK, e]
              exact hAn.set _ hnew
          refine ⟨_, rfl, _, rfl, pa, us, _, _, rfl, rfl, SqL.of hpn, hat, rfl, _, rfl, ?_⟩
          cases oa with
          | none =>
            cases hpu
            refine iteT (iteT ?_)
            obtain ⟨a1, a2⟩ := store (relax_set hoa fun q hq => by cases hq)
            refine ⟨_, rfl, _, rfl, _, rfl, pa, us, _, _, rfl, rfl, hpn, hixu, ?_⟩
            exact ⟨_, _, _, _, _, rfl, a1, upd_same, a2⟩
          | some qo =>
            have hpu' := hpu
            obtain ⟨ut, ul, rfl, _, _⟩ := hpu'
            refine iteF ?_
            refine ⟨_, rfl, _, rfl, _, rfl, pa, us, _, _, rfl, rfl, SqL.of hpn, hat, ?_⟩
            refine ⟨_, qo, (hnew.kd (kd hid_same)).dp, (hpu.kd (kd hid_same)).dp, _, rfl, ?_⟩
            by_cases hlt : ltP (c + wOf v taps part i k, l ++ [(k : Int)]) qo = true
            · rw [hlt]
              refine iteT ?_
              obtain ⟨a1, a2⟩ := store (relax_set hoa fun q hq => by cases hq; exact hlt)
              refine ⟨_, rfl, _, rfl, _, rfl, pa, us, _, _, rfl, rfl, hpn, hixu, ?_⟩
              exact ⟨_, _, _, _, _, rfl, a1, upd_same, a2⟩
            · have hlf : ltP (c + wOf v taps part i k, l ++ [(k : Int)]) qo = false := by simpa using hlt
              rw [hlf]
              refine iteF ?_
              refine ⟨_, _, _, _, us, rfl, SHn, hpn, ?_⟩
              rw [stepK, relax_keep hoa hlf]
              exact hAn
        · rintro σ Hk ⟨y6, y7, y8, y9, us, rfl, Sk, hpk, hAk⟩
          refine ⟨_, _, _, _, _, us, rfl, Sk, hpk, ?_⟩
          rw [turnTo, ← stepK_two ho]
          exact hAk
    · rintro σ Hi ⟨y4, y6, y7, y8, y9, us, rfl, Si, hpi, hAi⟩
      rw [ep, Int.toNat_natCast] at hAi
      have ef : turnTo (nxt v) (wOf v taps part) ps (2 ^ v) = turnF (nxt v) (wOf v taps part) ps := by unfold turnF; rw [hpsl]
      rw [ef] at hAi
      exact ⟨_, rfl, q _ pa Si ⟨us, hpi, hAi.imp fun x y z => z.kd (kd hid_same)⟩⟩
end
end Fh
namespace Fh
open PySem PySem.Spec PyProof.Rows L2

abbrev sLaw : Stmt := top 36
abbrev nLaw : List Str := ["_law_script", "_law_numbers_here", "_law_v", "_law_taps_here", "_law_table_here", "_law_many", "_law_received_here", "_law_n", "_law_shift_register", "_law_follower", "_law_state", "_law_paths", "_law_at", "_law_turns", "_law_given", "_law_turn_here", "_law_size", "_law_told", "_law_more", "_law_due", "_law_message", "_law_cost_here", "_law_paper", "_law_whole"]
def spLaw (K : PySem.W.Frag) : Sp := fun vs H Q _ => ∃ (a : Addr) (ns : List Int), vs = [.ref a] ∧ SqL K H a (ns.map V.int) ∧ ns.length ≤ 63 ∧ ∀ H', Q (.bl true) H'

/-- what stands through the law -/
structure LS (CR : Addr) (H : Hp) (an tb ar rg : Addr) (ns : List Int) (v : Nat) (taps : List Int) (R : List (Option Int)) (count : Nat) : Prop where
  n : IL H an ns
  nl : ns.length = 260
  t : TL H tb (tab v taps)
  r : RowA H ar R v taps count
  g : RegAt CR H rg v taps
theorem LS.same {CR H H' an tb ar rg ns v taps R count} (s : Same H H') (h : LS CR H an tb ar rg ns v taps R count) : LS CR H' an tb ar rg ns v taps R count :=
  ⟨h.n.kd (kd s), h.nl, h.t.kd (kd s), h.r.kd (kd s), h.g.same s⟩
theorem LS.sx {CR CF H H' an tb ar rg ns v taps R count fo r' ps W t} (s : SameX fo H H') (f : FolAt CF H fo r' ps W t) (h : LS CR H an tb ar rg ns v taps R count) : LS CR H' an tb ar rg ns v taps R count := by
  have nn := f.ne h.g
  obtain ⟨dx, x, y, g⟩ := f
  have k := s.kd g.h
  exact ⟨h.n.kd k, h.nl, h.t.kd k, h.r.kd k, h.g.sx s g.h nn⟩
/-- what a turn of the law's loop changes -/
structure LD (CF : Addr) (H : Hp) (rg fo pa gi : Addr) (v : Nat) (taps : List Int) (R : List (Option Int)) (a t : Nat) : Prop where
  f : FolAt CF H fo rg (PAT v taps R t) (slc R (t * taps.length) a) t
  p : PL H pa (PAT v taps R t)
  i : IL H gi (beg (PAT v taps R t))
theorem LD.same {CF H H' rg fo pa gi v taps R a t} (s : Same H H') (h : LD CF H rg fo pa gi v taps R a t) : LD CF H' rg fo pa gi v taps R a t := ⟨h.f.same s, h.p.kd (kd s), h.i.kd (kd s)⟩

/-- the law's slots at a turn's start -/
def sL (a an tp tb ar rg fo pa gi : Addr) (v many n at_ t : Nat) (y10 y15 y16 y17 y18 y19 : Option V) : L2.St :=
  [some (.ref a), some (.ref an), some (.int (v : Int)), some (.ref tp), some (.ref tb), some (.int (many : Int)), some (.ref ar), some (.int (n : Int)), some (.ref rg), some (.ref fo), y10, some (.ref pa), some (.int (at_ : Int)), some (.int (t : Int)), some (.ref gi), y15, y16, y17, y18, y19, none, none, none, none]

theorem slc_min (R : List (Option Int)) (a b : Nat) : slc R a (min R.length b) = slc R a b := by
  unfold slc
  by_cases h : b ≤ R.length
  · rw [Nat.min_eq_right h]
  · rw [Nat.min_eq_left (by omega), List.take_of_length_le (by rw [List.length_drop]; omega), List.take_of_length_le (by rw [List.length_drop]; omega)]
theorem cut_slc (R : List (Option Int)) (a b : Nat) (h : a ≤ b) : cutV (R.map ov) (some (a : Int)) (some (b : Int)) = (slc R a b).map ov := by
  rw [cut_nat]
  unfold slc
  rw [List.map_take, List.map_drop]
theorem PAT_beg_le (v taps R) {t t' : Nat} (h : t ≤ t') : beg (PAT v taps R t) <+: beg (PAT v taps R t') := beg_le (Nat.pow_pos (by decide)) (fun s b _ _ => nxt_lt v s b) (wR v taps R) h
theorem PAT_beg_told {v : Nat} {taps : List Int} {R : List (Option Int)} {t k : Nat} {c : Int} {l : List Int} (h : (PAT v taps R t)[k]? = some (some (c, l))) : beg (PAT v taps R t) <+: l := beg_told (Nat.pow_pos (by decide)) (fun s b _ _ => nxt_lt v s b) (wR v taps R) h
theorem PAT_beg_len {v taps R t} : (beg (PAT v taps R t)).length ≤ t := by
  obtain ⟨r, hr⟩ := List.exists_mem_of_ne_nil _ (PAT_rows v taps R t)
  obtain ⟨c, hc⟩ := mem_rows.mp hr
  obtain ⟨k, hk⟩ := List.mem_iff_getElem?.mp hc
  have := (PAT_beg_told hk).length_le
  have := PAT_row_len hr
  omega
theorem iteNe {x : V} {A B : Prop} (h : B) : if (!decide (x = x)) = true then A else B := by
  rw [decide_eq_true rfl]
  exact iteF h

/-! ### the defs that the law calls -/
structure Gf (P : Program) (w : World) (K : PySem.W.Frag) (mg : Str → Option Value) (base : Heap) (x : Str) (k : Nat) (ps : List Str) (sp : Sp) (f : Addr) (fd : FuncData) : Prop where
  ok : FnOk P w K mg base CX0 k f fd ps sp
  b : Binds K fd ps []
  g : mg x = some (.ref f)
  k : PySem.W.keepIn K (.ref f) = true
structure Mf (P : Program) (w : World) (K : PySem.W.Frag) (mg : Str → Option Value) (base : Heap) (C : Addr) (x : Str) (k : Nat) (ps : List Str) (sp : Sp) (f : Addr) (fd : FuncData) : Prop where
  ok : FnOk P w K mg base CX0 k f fd ps sp
  b : Binds K fd ps []
  m : Meth K C x f

section
variable {P : Program} {w : World} {K : PySem.W.Frag} {mg : Str → Option Value} {base : Heap}
theorem scLaw : FnScope nLaw ["_law_script"] (defScope sLaw) := ⟨rfl, rfl, rfl, by decide +kernel, rfl, by decide +kernel, by decide +kernel⟩
theorem ok_law {CR CF f f1 f2 f3 f4 f5 f6 f7 f8 fR fF g1 g2 g3 g4 g5 g6 : Addr} {fd d1 d2 d3 d4 d5 d6 d7 d8 dR dF e1 e2 e3 e4 e5 e6 : FuncData} (F : Fun K "law" "law" sLaw f fd) (T : Tx K mg CR CF)
    (A1 : Gf P w K mg base "_law_numbers" 1 ["_law_script", "_law_many"] (spNumbers K) f1 d1)
    (A2' : Gf P w K mg base "_law_taps" 1 ["_law_numbers_here", "_law_at"] spLTaps f2 d2)
    (A3 : Gf P w K mg base "_law_table" 1 ["_law_v", "_law_taps_here"] spLTable f3 d3)
    (A4 : Gf P w K mg base "_law_received" 2 ["_law_numbers_here", "_law_v", "_law_table_here", "_law_many"] spLReceived f4 d4)
    (A5 : Gf P w K mg base "_law_turn" 2 ["_law_v", "_law_table_here", "_law_paths", "_law_part"] spLTurn f5 d5)
    (A6 : Gf P w K mg base "_law_beginning" 1 ["_law_paths"] spLBeg f6 d6)
    (A7 : Gf P w K mg base "_law_prices" 1 ["_law_paths"] spLPrices f7 d7)
    (A8 : Gf P w K mg base "mend" 4 ["shift_register", "received"] (spMend CR) f8 d8)
    (MR : Mk K CR fR) (GR' : FnOk P w K mg base CX0 2 fR dR ["self", "v", "taps"] (spRInit CR)) (bR : Binds K dR ["self", "v", "taps"] [])
    (MF : Mk K CF fF) (GF : FnOk P w K mg base CX0 3 fF dF ["self", "shift_register"] (spFInit CR CF)) (bF : Binds K dF ["self", "shift_register"] [])
    (B1 : Mf P w K mg base CF "feed" 3 ["self", "part"] (spFeed CR CF) g1 e1)
    (B2 : Mf P w K mg base CF "given" 2 ["self"] (spGiven CF) g2 e2)
    (B3 : Mf P w K mg base CF "turns" 1 ["self"] (spTurns CF) g3 e3)
    (B4 : Mf P w K mg base CF "waiting" 1 ["self"] (spWaiting CF) g4 e4)
    (B5 : Mf P w K mg base CF "prices" 1 ["self"] (spPrices CF) g5 e5)
    (B6 : Mf P w K mg base CF "told" 1 ["self", "state"] (spTold CF) g6 e6) :
    FnOk P w K mg base CX0 5 f fd ["_law_script"] (spLaw K) := by
  refine F.ok scLaw (fun vs H Q E h => ?_) (fun cdv A outer s H vs Q E hr h => ?_)
  · obtain ⟨a, _, rfl, _⟩ := h
    rfl
  · obtain ⟨a, sc, rfl, hS, hlen, q⟩ := h
    have hr3 : Room 3 _ := hr.mono (by decide)
    have hr2 : Room 2 _ := hr.mono (by decide)
    have hr1 : Room 1 _ := hr.mono (by decide)
    refine ⟨_, (pss_cons (ps_set (i := 1) scLaw.nd rfl (.inl rfl) (pe_call A1.ok hr1 (by rfl) A1.g A1.k A1.b .nil pass0 (pa_cons (pv 0) (pa_cons pe_int pa_nil))))
        (pss_cons (ps_asg (pe_call A2'.ok hr1 (by rfl) A2'.g A2'.k A2'.b .nil pass0 (pa_cons (pv 1) (pa_cons pe_int pa_nil))) (pg_tup rfl (pgs_cons (pg_name (i := 2) scLaw.nd rfl (.inl rfl)) (pgs_cons (pg_name (i := 3) scLaw.nd rfl (.inl rfl)) pgs_nil))))
        (pss_cons (ps_set (i := 4) scLaw.nd rfl (.inl rfl) (pe_call A3.ok hr1 (by rfl) A3.g A3.k A3.b .nil pass0 (pa_cons (pv 2) (pa_cons (pv 3) pa_nil))))
        (pss_cons (ps_set (i := 5) scLaw.nd rfl (.inl rfl) (pe_op op_mod (pe_callTy call_int1 (by rfl) T.int (by decide +kernel) (pa_cons (pe_ix ix_list (pv 1) pe_int (fun _ _ => rfl)) pa_nil)) (pe_ix ix_list (pe_lst (pa_cons pe_int (pa_cons pe_int pa_nil))) (pe_op op_mod (pe_callTy call_int1 (by rfl) T.int (by decide +kernel) (pa_cons (pe_ix ix_list (pv 1) pe_int (fun _ _ => rfl)) pa_nil)) pe_int) (fun _ _ => rfl))))
        (pss_cons (ps_set (i := 6) scLaw.nd rfl (.inl rfl) (pe_call A4.ok hr2 (by rfl) A4.g A4.k A4.b .nil pass0 (pa_cons (pv 1) (pa_cons (pv 2) (pa_cons (pv 4) (pa_cons (pv 5) pa_nil))))))
        (pss_cons (ps_set (i := 7) scLaw.nd rfl (.inl rfl) (pe_callB call_len_seq (by rfl) T.len PySem.boot_len (pa_cons (pv 3) pa_nil)))
        (pss_cons (ps_set (i := 8) scLaw.nd rfl (.inl rfl) (pe_make MR GR' hr3 rfl T.mR bR .nil pass0 (pa_cons (pv 2) (pa_cons (pv 3) pa_nil))))
        (pss_cons (ps_set (i := 9) scLaw.nd rfl (.inl rfl) (pe_make MF GF hr rfl T.mF bF .nil pass0 (pa_cons (pv 8) pa_nil)))
        (pss_cons (ps_setLc (i := 11) (own := [("_law_state", 10)]) (g := gName 10) (by rfl) scLaw.nd rfl rfl (sw_true rfl rfl rfl (by decide +kernel)) (pi_range1 (by rfl) T.range (pa_cons (pe_op op_shl pe_int (pv 2)) pa_nil)) (blkOk_by (own := [("_law_state", 10)]) (N := nLaw) (sc := defScope sLaw) (by decide +kernel)) (fun _ _ _ _ _ => pg_name (i := 10) scLaw.nd rfl (Or.inl rfl)) (fun _ _ _ _ _ => pts_nil) (fun _ _ _ _ _ => pe_non))
        (pss_cons (ps_asg (pe_tup (pa_cons pe_int (pa_cons (pe_lst pa_nil) pa_nil))) (pg_sub (pv 11) pe_int set_list))
        (pss_cons (ps_set (i := 12) scLaw.nd rfl (.inl rfl) pe_int)
        (pss_cons (ps_set (i := 13) scLaw.nd rfl (.inl rfl) pe_int)
        (Evl.pss_cut (ps_set (i := 14) scLaw.nd rfl (.inl rfl) (pe_lst pa_nil))
        (Evl.pss_cut (ps_for PassesOwn.never rfl (pi_range1 (by rfl) T.range (pa_cons (pe_op op_add (pe_callB call_len_seq (by rfl) T.len PySem.boot_len (pa_cons (pv 6) pa_nil)) pe_int) pa_nil)) (pg_name (i := 15) scLaw.nd rfl (.inl rfl))
        (pss_cons (ps_set (i := 16) scLaw.nd rfl (.inl rfl) (pe_ix ix_list (pe_lst (pa_cons pe_int (pa_cons (pv 7) (pa_cons (pe_op op_add (pe_op op_mul pe_int (pv 7)) pe_int) (pa_cons pe_int (pa_cons pe_int pa_nil)))))) (pe_op op_mod (pe_callTy call_int1 (by rfl) T.int (by decide +kernel) (pa_cons (pe_ix ix_list (pv 1) (pe_op op_add pe_int (pe_op op_mod (pe_callTy call_int1 (by rfl) T.int (by decide +kernel) (pa_cons (pv 15) pa_nil)) pe_int)) (fun _ _ => rfl)) pa_nil)) pe_int) (fun _ _ => rfl)))
        (pss_cons (ps_set (i := 17) scLaw.nd rfl (.inl rfl) (pe_meth (pv 9) T.clF B1.m B1.ok hr3 B1.b .nil pass0 (pa_cons (pe_slice sl_list (pv 6) (po_some (pv 12)) (po_some (pe_op op_add (pv 12) (pv 16)))) pa_nil)))
        (pss_cons (ps_set (i := 12) scLaw.nd rfl (.inl rfl) (pe_callB (call_min2 rfl) (by rfl) T.min (by decide +kernel) (pa_cons (pe_callB call_len_seq (by rfl) T.len PySem.boot_len (pa_cons (pv 6) pa_nil)) (pa_cons (pe_op op_add (pv 12) (pv 16)) pa_nil))))
        (Evl.pss_cut (ps_for PassesOwn.never rfl (pi_range1 (by rfl) T.range (pa_cons (pe_op op_sub (pe_op op_fdiv (pv 12) (pv 7)) (pv 13)) pa_nil)) (pg_name (i := 18) scLaw.nd rfl (.inl rfl)) (pss_cons (ps_set (i := 11) scLaw.nd rfl (.inl rfl) (pe_call A5.ok hr2 (by rfl) A5.g A5.k A5.b .nil pass0 (pa_cons (pv 2) (pa_cons (pv 4) (pa_cons (pv 11) (pa_cons (pe_slice sl_list (pv 6) (po_some (pe_op op_mul (pv 13) (pv 7))) (po_some (pe_op op_add (pe_op op_mul (pv 13) (pv 7)) (pv 7)))) pa_nil)))))) (pss_one (ps_set (i := 13) scLaw.nd rfl (.inl rfl) (pe_op op_add (pv 13) pe_int)))))
        (pss_cons (ps_set (i := 19) scLaw.nd rfl (.inl rfl) (pe_call A6.ok hr1 (by rfl) A6.g A6.k A6.b .nil pass0 (pa_cons (pv 11) pa_nil)))
        (pss_cons (ps_if (PW.pt (pw_or (pt_cmpR (op_neD hr.units) (pe_op op_cat (pv 14) (pv 17)) (pv 19) (nomark _)) (pw_or (pt_cmpR (op_neD hr.units) (pe_meth0 (pv 9) T.clF B2.m B2.ok hr2 B2.b .nil pass0) (pv 19) (nomark _)) (pw_or1 (pt_cmpR (op_neD hr.units) (pe_meth0 (pv 9) T.clF B5.m B5.ok hr1 B5.b .nil pass0) (pe_call A7.ok hr1 (by rfl) A7.g A7.k A7.b .nil pass0 (pa_cons (pv 11) pa_nil)) (nomark _)))))) pss_never pss_nil)
        (pss_cons (ps_if (PW.pt (pw_or (pt_cmpR op_ne (pe_meth0 (pv 9) T.clF B3.m B3.ok hr1 B3.b .nil pass0) (pv 13) (nomark _)) (pw_or1 (pt_cmpR op_ne (pe_meth0 (pv 9) T.clF B4.m B4.ok hr1 B4.b .nil pass0) (pe_op op_sub (pv 12) (pe_op op_mul (pv 13) (pv 7))) (nomark _))))) pss_never pss_nil)
        (pss_cons (ps_set (i := 14) scLaw.nd rfl (.inl rfl) (pv 19))
        (pss_one (ps_if (pt_cmpR op_eq (pv 12) (pe_callB call_len_seq (by rfl) T.len PySem.boot_len (pa_cons (pv 6) pa_nil)) (nomark _)) (pss_one ps_break) pss_nil)))))))))))
        (pss_cons (ps_asg (pe_call A8.ok hr (by rfl) A8.g A8.k A8.b .nil pass0 (pa_cons (pv 8) (pa_cons (pv 6) pa_nil))) (pg_tup rfl (pgs_cons (pg_name (i := 20) scLaw.nd rfl (.inl rfl)) (pgs_cons (pg_name (i := 21) scLaw.nd rfl (.inl rfl)) (pgs_cons (pg_name (i := 22) scLaw.nd rfl (.inl rfl)) pgs_nil)))))
        (pss_cons (ps_set (i := 23) scLaw.nd rfl (.inl rfl) (pe_op op_cat (pv 20) (pe_op op_rep (pe_lst (pa_cons pe_int pa_nil)) (pv 2))))
        (pss_cons (ps_if (PW.pt (pw_or (pt_cmpR (op_neD hr.units) (pe_meth (pv 9) T.clF B6.m B6.ok hr1 B6.b .nil pass0 (pa_cons pe_int pa_nil)) (pv 23) (nomark _)) (pw_or (pt_cmpR op_ne (pe_ix ix_list (pe_meth0 (pv 9) T.clF B5.m B5.ok hr1 B5.b .nil pass0) pe_int (fun _ _ => rfl)) (pv 21) (nomark _)) (pw_or1 (pt_cmpR (op_neD hr.units) (pe_slice sl_list (pv 23) po_none (po_some (pe_callB call_len_seq (by rfl) T.len PySem.boot_len (pa_cons (pv 14) pa_nil)))) (pv 14) (nomark _)))))) pss_never pss_nil)
        (pss_cons (ps_for PassesOwn.never rfl (pi_range1 (by rfl) T.range (pa_cons (pe_op op_shl pe_int (pv 2)) pa_nil)) (pg_name (i := 10) scLaw.nd rfl (.inl rfl)) (pss_one (ps_if (PW.pt (pw_and (pt_cmpR op_notN (pe_ix ix_list (pv 11) (pv 10) (fun _ _ => rfl)) pe_non (nomark _)) (pw_and1 (pt_cmpR (op_neD hr.units) (pe_meth (pv 9) T.clF B6.m B6.ok hr1 B6.b .nil pass0 (pa_cons (pv 10) pa_nil)) (pe_ix ix_tup (pe_ix ix_list (pv 11) (pv 10) (fun _ _ => rfl)) pe_int (fun _ _ => rfl)) (nomark _))))) pss_never pss_nil)))
        (pss_one (ps_ret pe_bl)))))))))))))))))))), ?_⟩
    -- numbers, v, taps, table
    refine ⟨_, rfl, a, sc, rfl, hS, hlen, fun H1 an ns s1 han hnl => ?_⟩
    refine ⟨_, rfl, an, ns, rfl, han, hnl, fun H2 t2 tp v taps s2 ht2 htp ok => ?_⟩
    refine ⟨t2, _, rfl, SqT.of ht2, rfl, _, _, rfl, _, _, rfl, rfl, ?_⟩
    refine ⟨_, rfl, _, rfl, v, tp, taps, rfl, htp, ok, fun H3 tb s3 htb => ?_⟩
    have hM := ok.pow
    have h5 := ok.v5
    have h1 := ok.v1
    have n2 := ok.n2
    have n4 := ok.n4
    -- many
    have S3 := s2.trans s3
    obtain ⟨x8, hx8⟩ := at_lt (ns := ns) (z := 8) (by omega) (by omega)
    obtain ⟨x9, hx9⟩ := at_lt (ns := ns) (z := 9) (by omega) (by omega)
    have han3 : IL H3 an ns := han.kd (kd S3)
    refine ⟨_, rfl, an, _, _, _, rfl, rfl, SqL.of han3, hx8, .inl ⟨_, rfl, szle (by simp), fun q1 hq1 => ?_⟩⟩
    have s4 := same_new (o := .lst [V.int 8, V.int 31]) hq1
    have han4 := han3.kd (kd s4)
    obtain ⟨m, hm, hat⟩ : ∃ m : Nat, (m = 8 ∨ m = 31) ∧ atI [V.int 8, V.int 31] (x9 % 2) = some (V.int (m : Int)) := by
      have : x9 % 2 = 0 ∨ x9 % 2 = 1 := by omega
      rcases this with e | e <;> rw [e]
      · exact ⟨8, .inl rfl, rfl⟩
      · exact ⟨31, .inr rfl, rfl⟩
    refine ⟨_, rfl, an, _, _, _, rfl, rfl, SqL.of han4, hx9, .inl ⟨_, rfl, _, _, rfl, rfl, (show (0 : Int) < 2 by decide), q1, _, _, _, rfl, rfl, SqL.of upd_same, hat, _, _, rfl, rfl, (show (0 : Int) < (m : Int) by omega), ?_⟩⟩
    obtain ⟨many, hmany, hmb⟩ : ∃ many : Nat, x8 % (m : Int) = (many : Int) ∧ many ≤ 30 := by
      have e1 := Int.emod_nonneg x8 (show (m : Int) ≠ 0 by omega)
      have e2 := Int.emod_lt_of_pos x8 (show (0 : Int) < (m : Int) by omega)
      exact ⟨(x8 % (m : Int)).toNat, by omega, by omega⟩
    show gName 5 (V.int (x8 % (m : Int))) _ _ _
    rw [hmany]
    -- received
    have S4 := S3.trans s4
    refine ⟨_, rfl, _, rfl, _, rfl, _, rfl, an, tb, ns, v, taps, many, rfl, han4, hnl, htb.kd (kd s4), ok, hmb, fun H5 ar R s5 hR hRl => ?_⟩
    have S5 := S4.trans s5
    refine ⟨_, rfl, tp, _, rfl, .inl (SqL.of (htp.kd (kd ((s3.trans s4).trans s5)))), ?_⟩
    show gName 7 (V.int (((taps.map V.int).length : Nat) : Int)) _ _ _
    rw [List.length_map]
    -- the register
    refine ⟨_, rfl, _, rfl, fun rg drg nrg ndrg nrd => ?_⟩
    have made : ∀ {H x dx : _} {o1 o2 : HO}, H x = none → H dx = none → Same H (upd (upd H dx o1) x o2) := fun {H x dx o1 o2} nx nd b o e => by
      rw [upd_ne (ne_of_none e nx), upd_ne (ne_of_none e nd)]; exact e
    have m6 : Same H5 (upd (upd H5 drg (.own rg)) rg (.ins CR drg [])) := made nrg ndrg
    refine ⟨rg, drg, tp, v, taps, rfl, upd_same, (htp.kd (kd ((s3.trans s4).trans s5))).kd (kd m6), ok, fun H6 x6 R6 => ⟨rfl, ?_⟩⟩
    have s6 : Same H5 H6 := fun b o e => x6 b o (ne_of_none e nrg) (m6 b o e)
    -- the follower
    refine ⟨_, rfl, fun fo dfo nfo ndfo nfd => ?_⟩
    have m7 : Same H6 (upd (upd H6 dfo (.own fo)) fo (.ins CF dfo [])) := made nfo ndfo
    refine ⟨fo, dfo, rg, v, taps, rfl, upd_same, R6.same m7, fun H7 x7 F7 => ⟨rfl, ?_⟩⟩
    have s7 : Same H6 H7 := fun b o e => x7 b o (ne_of_none e nfo) (m7 b o e)
    have S7 := s6.trans s7
    have hrl0 : R.length ≤ 140 := by
      rw [hRl]
      have := Nat.mul_le_mul (show many + v ≤ 35 by omega) n4
      omega
    have hrl1 : 2 ≤ R.length := by
      rw [hRl]
      have := Nat.mul_le_mul (show 1 ≤ many + v by omega) n2
      omega
    have ls7 : LS CR H7 an tb ar rg ns v taps R many := ⟨((han4.kd (kd s5)).kd (kd S7)), hnl, ((htb.kd (kd s4)).kd (kd s5)).kd (kd S7), ⟨hR.kd (kd S7), hRl, by omega⟩, R6.same s7⟩
    -- paths
    have ep : (1 : Int) * 2 ^ ((v : Int)).toNat = ((2 ^ v : Nat) : Int) := by rw [Int.one_mul, Int.toNat_natCast]; simp
    have bM := wbnd (n := 2 ^ v) (by omega)
    refine ⟨_, rfl, _, _, rfl, rfl, ⟨by omega, by omega, by decide⟩, _, rfl, by rw [ep]; exact bM.1, by rw [ep]; exact bM.2, fun pa hpa => ?_⟩
    refine lc_range (fun i H' => H' = upd H7 pa (.lst (List.replicate i V.non))) rfl ?_ ?_
    · rintro i H' hi rfl
      rw [ep, Int.toNat_natCast] at hi
      refine ⟨rfl, tyesI ⟨_, upd_same, szline (by simp; omega), ?_⟩⟩
      rw [upd_upd, List.replicate_succ']
    rintro H8 rfl
    rw [ep, Int.toNat_natCast]
    have s8 := same_new (o := .lst (List.replicate (2 ^ v) V.non)) hpa
    refine ⟨by decide, fun e he => ?_⟩
    have s9 := same_new (o := .lst []) he
    refine ⟨szle (by simp), fun tt htt => ?_⟩
    have s10 := same_new (o := .tup [V.int 0, V.ref e]) htt
    have hpa10 : (upd (upd (upd H7 pa (.lst (List.replicate (2 ^ v) V.non))) e (.lst [])) tt (.tup [V.int 0, V.ref e])) pa = some (.lst (List.replicate (2 ^ v) V.non)) := s10 _ _ (s9 _ _ upd_same)
    have hix0 : ixN (List.replicate (2 ^ v) V.non).length 0 = some 0 := by
      unfold ixN
      rw [if_pos (by decide), if_pos (by rw [List.length_replicate]; omega)]
      rfl
    have npe : e ≠ pa := fun z => by rw [z, upd_same] at he; cases he
    have npt : tt ≠ pa := fun z => by rw [z, s9 _ _ upd_same] at htt; cases htt
    refine ⟨_, rfl, pa, _, _, 0, rfl, rfl, hpa10, hix0, ?_⟩
    have het : (upd (upd (upd H7 pa (.lst (List.replicate (2 ^ v) V.non))) e (.lst [])) tt (.tup [V.int 0, V.ref e])) tt = some (.tup [V.int 0, V.ref e]) := upd_same
    have hee : (upd (upd (upd H7 pa (.lst (List.replicate (2 ^ v) V.non))) e (.lst [])) tt (.tup [V.int 0, V.ref e])) e = some (.lst []) := s10 _ _ upd_same
    have S10 := (s8.trans s9).trans s10
    generalize hH10 : upd (upd (upd H7 pa (.lst (List.replicate (2 ^ v) V.non))) e (.lst [])) tt (.tup [V.int 0, V.ref e]) = H10 at S10 hpa10 het hee ⊢
    have S11 : Same H7 (upd H10 pa (.lst ((List.replicate (2 ^ v) V.non).set 0 (V.ref tt)))) := fun b o eb => by
      rw [upd_ne (ne_of_none eb hpa)]; exact S10 _ _ eb
    have P11 : PL (upd H10 pa (.lst ((List.replicate (2 ^ v) V.non).set 0 (V.ref tt)))) pa (PAT v taps R 0) := by
      refine ⟨_, upd_same, ?_⟩
      have e1 : 2 ^ v = (2 ^ v - 1) + 1 := by omega
      have e2 : (List.replicate (2 ^ v) V.non).set 0 (V.ref tt) = V.ref tt :: List.replicate (2 ^ v - 1) V.non := by
        rw [e1, List.replicate_succ]; rfl
      rw [e2]
      show A2 _ (V.ref tt :: List.replicate (2 ^ v - 1) V.non) (some (0, []) :: List.replicate (2 ^ v - 1) none)
      refine A2.cons ⟨tt, e, rfl, by rw [upd_ne npt]; exact het, ?_⟩ (A2.rep (R := PV _) (x := V.non) (y := none) rfl _)
      unfold IL
      rw [upd_ne npe]; exact hee
    have F11 := F7.same S11
    have ls11 := ls7.same S11
    -- at, turns, given
    refine ⟨fun σ H' => ∃ gi, σ = sL a an tp tb ar rg fo pa gi v many taps.length 0 0 none none none none none none ∧ LS CR H' an tb ar rg ns v taps R many ∧ LD CF H' rg fo pa gi v taps R 0 0, ?_, ?_⟩
    · refine ⟨by decide, fun gi hgi => ?_⟩
      have s12 := same_new (o := .lst []) hgi
      refine ⟨gi, rfl, ls11.same s12, ?_, P11.kd (kd s12), ?_⟩
      · have := F11.same s12
        rw [Nat.zero_mul, slc_all]
        exact this
      · show (upd _ gi _) gi = _
        rw [upd_same]
        show _ = some (HO.lst ((beg (path0 (2 ^ v))).map V.int))
        rw [beg_nil]
        rfl
    rintro σ H12 ⟨gi, rfl, ls12, ld12⟩
    -- the loop
    refine ⟨fun σ H' => ∃ (pa gi : Addr) (t : Nat) (y10 y15 y16 y17 y18 y19 : Option V), σ = sL a an tp tb ar rg fo pa gi v many taps.length R.length t y10 y15 y16 y17 y18 y19 ∧ t = R.length / taps.length ∧ LS CR H' an tb ar rg ns v taps R many ∧ LD CF H' rg fo pa gi v taps R R.length t, ?_, ?_⟩
    · have lR : (R.map ov).length = R.length := List.length_map ..
      have bR1 := wbnd (n := (R.map ov).length + 1) (by omega)
      refine ⟨_, rfl, ar, _, rfl, .inl (SqL.of ls12.r.h), _, _, rfl, rfl, _, rfl, by omega, by omega, ?_⟩
      refine for_range (fun i σ H' => ∃ (pa gi : Addr) (at_ t : Nat) (y10 y15 y16 y17 y18 y19 : Option V), σ = sL a an tp tb ar rg fo pa gi v many taps.length at_ t y10 y15 y16 y17 y18 y19 ∧ i ≤ at_ ∧ at_ < R.length ∧ t = at_ / taps.length ∧ LS CR H' an tb ar rg ns v taps R many ∧ LD CF H' rg fo pa gi v taps R at_ t)
        ⟨pa, gi, 0, 0, none, none, none, none, none, none, rfl, Nat.le_refl _, by omega, (Nat.zero_div _).symm, ls12, ld12⟩ ?_ ?_
      · rintro i σ H0 hi ⟨pa, gi, at_, t, y10, y15, y16, y17, y18, y19, rfl, hia, haR, ht, ls, ld⟩
        have e0 : (0 : Int) + (i : Int) = (i : Int) := by omega
        rw [e0]
        have hi2 : i < R.length + 1 := by
          have : i < (((R.map ov).length : Int) + 1).toNat := hi
          omega
        -- size
        obtain ⟨x, hx⟩ := at_lt (ns := ns) (z := 200 + (i : Int) % 40) (by omega) (by rw [ls.nl]; omega)
        refine ⟨_, rfl, _, rfl, _, _, rfl, rfl, .inl ⟨by decide, by decide⟩, _, _, rfl, rfl, szle (by simp), fun q1 hq1 => ?_⟩
        have s1 := same_new (o := .lst [V.int 1, V.int (taps.length : Int), V.int (2 * (taps.length : Int) + 1), V.int 7, V.int 30]) hq1
        obtain ⟨size, hs1, hs30, hats⟩ : ∃ size : Nat, 1 ≤ size ∧ size ≤ 30 ∧ atI [V.int 1, V.int (taps.length : Int), V.int (2 * (taps.length : Int) + 1), V.int 7, V.int 30] (x % 5) = some (V.int (size : Int)) := by
          have : x % 5 = 0 ∨ x % 5 = 1 ∨ x % 5 = 2 ∨ x % 5 = 3 ∨ x % 5 = 4 := by omega
          rcases this with e | e | e | e | e <;> rw [e]
          · exact ⟨1, by omega, by omega, rfl⟩
          · exact ⟨taps.length, by omega, by omega, rfl⟩
          · exact ⟨2 * taps.length + 1, by omega, by omega, rfl⟩
          · exact ⟨7, by omega, by omega, rfl⟩
          · exact ⟨30, by omega, by omega, rfl⟩
        refine ⟨_, rfl, _, rfl, .inl ⟨_, rfl, _, _, rfl, rfl, (show (0 : Int) < 40 by decide), _, _, rfl, rfl, an, _, _, _, rfl, rfl, SqL.of (s1 _ _ ls.n), hx, .inl ⟨_, rfl, _, _, rfl, rfl, (show (0 : Int) < 5 by decide), q1, _, _, _, rfl, rfl, SqL.of upd_same, hats, ?_⟩⟩⟩
        -- told
        have ls1 := ls.same s1
        have ld1 := ld.same s1
        obtain ⟨dx, ap, aw, g1⟩ := id ld1.f
        refine ⟨_, rfl, fo, dx, _, rfl, g1.h, rfl, _, rfl, _, rfl, _, rfl, _, rfl, _, rfl, _, _, rfl, rfl, _, rfl, ar, _, rfl, SqL.of ls1.r.h, fun p2 hp2 => ?_⟩
        have e2 : (at_ : Int) + (size : Int) = ((at_ + size : Nat) : Int) := (Int.natCast_add _ _).symm
        have s2 := same_new (o := .lst (cutV (R.map ov) (some (at_ : Int)) (some ((at_ : Int) + (size : Int))))) hp2
        obtain ⟨a', ha'⟩ : ∃ a', a' = min R.length (at_ + size) := ⟨_, rfl⟩
        have ha1 : at_ < a' := by omega
        have ha2 : a' ≤ R.length := by omega
        have hpart : OL (upd (upd H0 q1 (.lst [V.int 1, V.int (taps.length : Int), V.int (2 * (taps.length : Int) + 1), V.int 7, V.int 30])) p2 (.lst (cutV (R.map ov) (some (at_ : Int)) (some ((at_ : Int) + (size : Int)))))) p2 (slc R at_ a') := by
          unfold OL
          rw [upd_same, e2, cut_slc R at_ (at_ + size) (by omega), ha', slc_min]
        have htn : t * taps.length ≤ at_ := by rw [ht]; exact Nat.div_mul_le_self _ _
        refine ⟨fo, rg, p2, v, taps, R, at_, a', t, rfl, (ld1.same s2).f, (ls1.same s2).g, hpart, htn, by omega, ha2, by omega, fun H3 q3 x3 F3 hq3 => ?_⟩
        obtain ⟨t', ht'⟩ : ∃ t', t' = a' / taps.length := ⟨_, rfl⟩
        rw [← ht'] at F3 hq3
        have ls3 : LS CR H3 an tb ar rg ns v taps R many := (ls1.same s2).sx x3 (ld1.same s2).f
        obtain ⟨dx0, ap0, aw0, g0⟩ := id (ld1.same s2).f
        have k3 := x3.kd g0.h
        have hp3 : PL H3 pa (PAT v taps R t) := (ld1.same s2).p.kd k3
        have hgi3 : IL H3 gi (beg (PAT v taps R t)) := (ld1.same s2).i.kd k3
        have htt' : t ≤ t' := by rw [ht, ht']; exact Nat.div_le_div_right (by omega)
        have ht'n : t' * taps.length ≤ a' := by rw [ht']; exact Nat.div_mul_le_self _ _
        have bt' : t' ≤ 1000 := by
          have := Nat.mul_le_mul_left t' (show 1 ≤ taps.length by omega)
          omega
        -- at
        refine ⟨_, rfl, ar, _, rfl, .inl (SqL.of ls3.r.h), _, rfl, _, rfl, _, _, rfl, rfl, _, _, rfl, ?_⟩
        show gName 12 (V.int (if (at_ : Int) + (size : Int) < (((R.map ov).length : Nat) : Int) then (at_ : Int) + (size : Int) else (((R.map ov).length : Nat) : Int))) _ _ _
        have emin : (if (at_ : Int) + (size : Int) < (((R.map ov).length : Nat) : Int) then (at_ : Int) + (size : Int) else (((R.map ov).length : Nat) : Int)) = (a' : Int) := by
          rw [lR, ha']
          split <;> omega
        rw [emin]
        -- the law's own turns
        refine ⟨fun σ H' => ∃ (pa' : Addr) (y18 : Option V), σ = sL a an tp tb ar rg fo pa' gi v many taps.length a' t' y10 (some (.int (i : Int))) (some (.int (size : Int))) (some (.ref q3)) y18 y19 ∧ Same H3 H' ∧ PL H' pa' (PAT v taps R t'), ?_, ?_⟩
        · have ediv : (a' : Int) / (taps.length : Int) = (t' : Int) := by rw [ht']; exact (Int.natCast_ediv _ _).symm
          refine ⟨_, rfl, _, rfl, _, _, rfl, rfl, ⟨by omega, by omega⟩, _, rfl, _, _, rfl, rfl, _, rfl, by rw [ediv]; omega, by rw [ediv]; omega, ?_⟩
          have ej : ((a' : Int) / (taps.length : Int) - (t : Int)).toNat = t' - t := by rw [ediv]; omega
          refine for_range (fun j σ H' => ∃ (pa' : Addr) (y18 : Option V), σ = sL a an tp tb ar rg fo pa' gi v many taps.length a' (t + j) y10 (some (.int (i : Int))) (some (.int (size : Int))) (some (.ref q3)) y18 y19 ∧ Same H3 H' ∧ PL H' pa' (PAT v taps R (t + j)))
            ⟨pa, _, rfl, Same.refl _, hp3⟩ ?_ ?_
          · rintro j σ Hj hj ⟨pa', y18, rfl, Sj, hpj⟩
            have hj2 : j < t' - t := by rw [← ej]; exact hj
            have lsj := ls3.same Sj
            refine ⟨_, rfl, _, rfl, _, rfl, _, rfl, _, rfl, _, rfl, _, _, rfl, rfl, .inl ⟨by omega, by omega⟩, _, rfl, _, rfl, _, rfl, _, _, rfl, rfl, .inl ⟨by omega, by omega⟩, _, rfl, _, _, rfl, rfl, _, rfl, ar, _, rfl, SqL.of lsj.r.h, fun p4 hp4 => ?_⟩
            have s4 := same_new (o := .lst (cutV (R.map ov) (some (((t + j : Nat) : Int) * (taps.length : Int))) (some (((t + j : Nat) : Int) * (taps.length : Int) + (taps.length : Int))))) hp4
            have hle : (t + j) * taps.length + taps.length ≤ a' := by
              have := Nat.mul_le_mul_right taps.length (show t + j + 1 ≤ t' by omega)
              rw [Nat.succ_mul] at this
              omega
            have hpart4 : OL (upd Hj p4 (.lst (cutV (R.map ov) (some (((t + j : Nat) : Int) * (taps.length : Int))) (some (((t + j : Nat) : Int) * (taps.length : Int) + (taps.length : Int)))))) p4 (slc R ((t + j) * taps.length) ((t + j) * taps.length + taps.length)) := by
              unfold OL
              have e1 : ((t + j : Nat) : Int) * (taps.length : Int) = (((t + j) * taps.length : Nat) : Int) := (Int.natCast_mul _ _).symm
              rw [upd_same, e1, ← Int.natCast_add, cut_slc _ _ _ (by omega)]
            refine ⟨v, tb, pa', p4, taps, PAT v taps R (t + j), _, rfl, (lsj.same s4).t, hpj.kd (kd s4), hpart4, ok, by rw [slc_len (by omega) (by omega)]; omega, PAT_len .., fun l hl => by rw [PAT_row_len hl]; omega, fun H5 q5 s5 hq5 => ?_⟩
            refine ⟨_, rfl, _, _, rfl, rfl, ?_⟩
            refine ⟨q5, some (.int ((0 : Int) + (j : Int))), ?_, (Sj.trans s4).trans s5, ?_⟩
            · rfl
            · rw [show t + (j + 1) = t + j + 1 from rfl, PAT_succ]; exact hq5
          · rintro σ Hj ⟨pa', y18, rfl, Sj, hpj⟩
            rw [ej, show t + (t' - t) = t' by omega] at hpj
            refine ⟨pa', y18, ?_, Sj, hpj⟩
            rw [ej, show t + (t' - t) = t' by omega]
        rintro σ H4 ⟨pa', y18, rfl, S4, hp4⟩
        have ls4 := ls3.same S4
        have F4 := F3.same S4
        -- due
        refine ⟨_, rfl, pa', PAT v taps R t', t', rfl, hp4, PAT_rows v taps R t', by rw [PAT_len]; omega, bt', fun r hr => PAT_row_len hr, fun H5 du s5 hdu => ?_⟩
        have S5 := S4.trans s5
        have F5 := F4.same s5
        obtain ⟨dx5, ap5, aw5, g5⟩ := id F5
        have hpre := PAT_beg_le v taps R htt'
        have hlb : (beg (PAT v taps R t)).length ≤ 1000 := by have := PAT_beg_len (v := v) (taps := taps) (R := R) (t := t); omega
        have hlb' : (beg (PAT v taps R t')).length ≤ 1000 := by have := PAT_beg_len (v := v) (taps := taps) (R := R) (t := t'); omega
        -- the checks
        refine ⟨_, rfl, _, rfl, gi, q3, _, _, rfl, rfl, S5 _ _ hgi3, S5 _ _ hq3, szle (by rw [List.length_map, List.length_map, List.length_drop]; omega), fun p6 hp6 => ?_⟩
        have s6 := same_new (o := .lst ((beg (PAT v taps R t)).map V.int ++ ((beg (PAT v taps R t')).drop (beg (PAT v taps R t)).length).map V.int)) hp6
        have hc6 : IL (upd H5 p6 (.lst ((beg (PAT v taps R t)).map V.int ++ ((beg (PAT v taps R t')).drop (beg (PAT v taps R t)).length).map V.int))) p6 (beg (PAT v taps R t')) := by
          unfold IL
          rw [upd_same, ← List.map_append, drop_told hpre]
        have hdu6 := hdu.kd (kd s6)
        refine ⟨_, rfl, ne_same hc6.dp hdu6.dp (shaped_dL _) ⟨false, rfl, iteF ?_⟩⟩
        have F6 := F5.same s6
        refine ⟨_, rfl, fo, dx5, _, rfl, s6 _ _ g5.h, rfl, fo, rg, _, _, t', rfl, F6, PAT_rows v taps R t', by rw [PAT_len]; omega, fun l hl => by rw [PAT_row_len hl]; exact bt', fun H7 g7 s7 hg7 => ?_⟩
        refine ⟨_, rfl, ne_same hg7.dp (hdu6.kd (kd s7)).dp (shaped_dL _) ⟨false, rfl, iteF ?_⟩⟩
        have F7 := F6.same s7
        refine ⟨_, rfl, fo, dx5, _, rfl, s7 _ _ (s6 _ _ g5.h), rfl, fo, rg, _, _, t', rfl, F7, by rw [PAT_len]; omega, fun H8 g8 s8 hg8 => ?_⟩
        have S8 := ((s5.trans s6).trans s7).trans s8
        refine ⟨_, rfl, pa', _, rfl, hp4.kd (kd S8), by rw [PAT_len]; omega, fun H9 g9 s9 hg9 => ?_⟩
        refine ne_same (hg8.kd (kd s9)).dp hg9.dp (shaped_dO _) ⟨false, rfl, iteF ?_⟩
        have S9 := S8.trans s9
        have F9 := F4.same S9
        obtain ⟨dx9, ap9, aw9, g9'⟩ := id F9
        refine ⟨_, rfl, fo, dx9, _, rfl, g9'.h, rfl, fo, rg, _, _, t', rfl, F9, _, rfl, rfl, _, rfl, iteNe ?_⟩
        refine ⟨_, rfl, fo, dx9, _, rfl, g9'.h, rfl, fo, rg, _, _, t', rfl, F9, _, rfl, _, rfl, _, rfl, _, _, rfl, rfl, .inl ⟨by omega, by omega⟩, _, _, rfl, rfl, rfl, _, rfl, ?_⟩
        have ew : (((slc R (t' * taps.length) a').length : Nat) : Int) = (a' : Int) - (t' : Int) * (taps.length : Int) := by
          rw [slc_len ht'n ha2, ← Int.natCast_mul]
          omega
        show (if (!decide (V.int (((slc R (t' * taps.length) a').length : Nat) : Int) = V.int ((a' : Int) - (t' : Int) * (taps.length : Int)))) = true then _ else _)
        rw [ew]
        refine iteNe ?_
        -- given = due
        refine ⟨_, rfl, ?_⟩
        have ls9 := ls4.same S9
        have ld9 : LD CF H9 rg fo pa' du v taps R a' t' := ⟨F9, hp4.kd (kd S9), ((hdu6.kd (kd s7)).kd (kd s8)).kd (kd s9)⟩
        refine ⟨_, rfl, _, rfl, ar, _, rfl, .inl (SqL.of ls9.r.h), rfl, _, rfl, ite2 (fun c => ?_) (fun c => ?_)⟩
        · have c' : a' = R.length := by
            have := of_decide_eq_true c
            injection this with this
            rw [lR] at this
            omega
          rw [c'] at ld9 ht'
          refine ⟨pa', du, t', y10, some (.int (i : Int)), some (.int (size : Int)), some (.ref q3), y18, some (.ref du), ?_, ht', ls9, ld9⟩
          rw [c']
          rfl
        · have c' : a' ≠ R.length := fun z => c (by rw [lR, z]; exact decide_eq_true rfl)
          exact ⟨pa', du, a', t', _, _, _, _, _, _, rfl, by omega, by omega, ht', ls9, ld9⟩
      · rintro σ H' ⟨pa, gi, at_, t, y10, y15, y16, y17, y18, y19, rfl, hia, haR, ht, ls, ld⟩
        exfalso
        have : (((R.map ov).length : Int) + 1).toNat = R.length + 1 := by rw [lR]; omega
        omega
    rintro σ H13 ⟨pa, gi, t, y10, y15, y16, y17, y18, y19, rfl, ht, ls, ld⟩
    have htT : t = many + v := by rw [ht, hRl]; exact Nat.mul_div_cancel _ (by omega)
    subst htT
    -- mend
    refine ⟨_, rfl, _, rfl, rg, ar, v, taps, R, many, rfl, ls.g, ls.r, fun H14 tm mm pm s14 htm hmm => ?_⟩
    refine ⟨tm, _, rfl, SqT.of htm, rfl, _, _, rfl, _, _, rfl, _, _, rfl, rfl, ?_⟩
    obtain ⟨c, hc, htold⟩ := told_is_mend v many (wR v taps R)
    -- whole
    refine ⟨_, rfl, by decide, fun z1 hz1 => ?_⟩
    have s15 := same_new (o := .lst [V.int 0]) hz1
    refine ⟨_, rfl, z1, _, _, rfl, rfl, upd_same, by omega, by omega, szle (by simp only [List.length_singleton]; omega), fun z2 hz2 => ?_⟩
    rw [Int.toNat_natCast, rep_flat]
    have s16 := same_new (o := .lst (List.replicate v (V.int 0))) hz2
    have glen : (Fh.GR v many (wR v taps R)).length = many + v := gr_len _ _ _ _ _ _ _
    refine ⟨mm, z2, _, _, rfl, rfl, s16 _ _ (s15 _ _ hmm), upd_same, szle (by simp; omega), fun wh hwh => ?_⟩
    have s17 := same_new (o := .lst (((Fh.GR v many (wR v taps R)).take many).map V.int ++ List.replicate v (V.int 0))) hwh
    have ewh : ((Fh.GR v many (wR v taps R)).take many).map V.int ++ List.replicate v (V.int 0) = (Fh.GR v many (wR v taps R)).map V.int := by
      have e1 := GR_ends v many (wR v taps R)
      have e2 : List.replicate v (V.int 0) = (List.replicate v (0 : Int)).map V.int := by rw [List.map_replicate]
      rw [e2, ← List.map_append]
      exact congrArg (List.map V.int) e1.symm
    rw [ewh] at s17 ⊢
    have S17 := ((s14.trans s15).trans s16).trans s17
    have hwhl : IL (upd (upd (upd H14 z1 (.lst [V.int 0])) z2 (.lst (List.replicate v (V.int 0)))) wh (.lst ((Fh.GR v many (wR v taps R)).map V.int))) wh (Fh.GR v many (wR v taps R)) := upd_same
    generalize hH17 : upd (upd (upd H14 z1 (.lst [V.int 0])) z2 (.lst (List.replicate v (V.int 0)))) wh (.lst ((Fh.GR v many (wR v taps R)).map V.int)) = H17 at S17 hwhl ⊢
    have ld17 := ld.same S17
    obtain ⟨dx, ap, aw, g17⟩ := id ld17.f
    -- the checks
    refine ⟨_, rfl, fo, dx, _, rfl, g17.h, rfl, fo, rg, _, _, many + v, 0, c, _, rfl, ld17.f, htold, fun H18 g18 s18 hg18 => ?_⟩
    refine ⟨_, rfl, ne_same hg18.dp (hwhl.kd (kd s18)).dp (shaped_dL _) ⟨false, rfl, iteF ?_⟩⟩
    have ld18 := ld17.same s18
    refine ⟨_, rfl, fo, dx, _, rfl, s18 _ _ g17.h, rfl, fo, rg, _, _, many + v, rfl, ld18.f, by rw [PAT_len]; omega, fun H19 g19 s19 hg19 => ?_⟩
    have hp0 : ((PAT v taps R (many + v)).map pr)[0]? = some (some c) := by rw [List.getElem?_map, htold]; rfl
    refine ⟨g19, _, 0, _, rfl, rfl, SqL.of hg19, at_of (j := 0) rfl (map_at hp0), _, rfl, ?_⟩
    rw [hc]
    refine ⟨rfl, _, rfl, iteNe ?_⟩
    have ld19 := ld18.same s19
    have S19 := s18.trans s19
    refine ⟨_, rfl, _, rfl, gi, _, rfl, .inl (SqL.of ld19.i), _, rfl, wh, _, rfl, SqL.of (S19 _ _ hwhl), fun p20 hp20 => ?_⟩
    have s20 := same_new (o := .lst (cutV ((Fh.GR v many (wR v taps R)).map V.int) none (some ((((beg (PAT v taps R (many + v))).map V.int).length : Nat) : Int)))) hp20
    have h20 : IL (upd H19 p20 (.lst (cutV ((Fh.GR v many (wR v taps R)).map V.int) none (some ((((beg (PAT v taps R (many + v))).map V.int).length : Nat) : Int))))) p20 (beg (PAT v taps R (many + v))) := by
      unfold IL
      rw [upd_same, cut_to, List.length_map, ← List.map_take, ← List.prefix_iff_eq_take.mp (PAT_beg_told htold)]
    refine ⟨_, rfl, ne_same h20.dp (ld19.i.kd (kd s20)).dp (shaped_dL _) ⟨false, rfl, iteF ?_⟩⟩
    -- the told inputs of all states
    have ld20 := ld19.same s20
    refine ⟨_, rfl, _, _, rfl, rfl, ⟨by omega, by omega, by decide⟩, _, rfl, by rw [ep]; exact bM.1, by rw [ep]; exact bM.2, ?_⟩
    refine for_range (fun i σ H' => ∃ (y10 y15 y16 y17 y18 y19 y20 y21 y22 y23 : Option V), σ = [some (.ref a), some (.ref an), some (.int (v : Int)), some (.ref tp), some (.ref tb), some (.int (many : Int)), some (.ref ar), some (.int (taps.length : Int)), some (.ref rg), some (.ref fo), y10, some (.ref pa), some (.int (R.length : Int)), some (.int ((many + v : Nat) : Int)), some (.ref gi), y15, y16, y17, y18, y19, y20, y21, y22, y23] ∧ LD CF H' rg fo pa gi v taps R R.length (many + v))
      ⟨_, _, _, _, _, _, _, _, _, _, rfl, ld20⟩ ?_ ?_
    · rintro i σ Hi hi ⟨y10, y15, y16, y17, y18, y19, y20, y21, y22, y23, rfl, ldi⟩
      have hi2 : i < 2 ^ v := by rw [ep, Int.toNat_natCast] at hi; exact hi
      have e0 : (0 : Int) + (i : Int) = (i : Int) := by omega
      rw [e0]
      obtain ⟨vs, hv, hA⟩ := ldi.p
      obtain ⟨o, ho⟩ : ∃ o, (PAT v taps R (many + v))[i]? = some o := ⟨_, List.getElem?_eq_getElem (by rw [PAT_len]; exact hi2)⟩
      obtain ⟨x, hx, hpv⟩ := hA.at_ ho
      refine ⟨_, rfl, _, rfl, pa, vs, _, _, rfl, rfl, SqL.of hv, atI_nat hx, ?_⟩
      cases o with
      | none =>
        cases hpv
        refine ⟨rfl, false, rfl, iteF (iteF ?_)⟩
        exact ⟨_, _, _, _, _, _, _, _, _, _, rfl, ldi⟩
      | some cl =>
        obtain ⟨c2, l⟩ := cl
        obtain ⟨t3, b3, rfl, ht3, hb3⟩ := hpv
        refine ⟨rfl, true, rfl, iteT ?_⟩
        obtain ⟨dxi, api, awi, gi'⟩ := id ldi.f
        refine ⟨_, rfl, fo, dxi, _, rfl, gi'.h, rfl, _, rfl, fo, rg, _, _, many + v, i, c2, l, rfl, ldi.f, ho, fun Hk gk sk hgk => ?_⟩
        refine ⟨_, rfl, _, rfl, pa, vs, _, _, rfl, rfl, SqL.of (sk _ _ hv), atI_nat hx, t3, _, 1, _, rfl, rfl, SqT.of (sk _ _ ht3), at_of (j := 1) rfl rfl, ?_⟩
        refine ne_same hgk.dp (hb3.kd (kd sk)).dp (shaped_dL _) ⟨false, rfl, iteF ?_⟩
        exact ⟨_, _, _, _, _, _, _, _, _, _, rfl, ldi.same sk⟩
    · rintro σ Hi ⟨y10, y15, y16, y17, y18, y19, y20, y21, y22, y23, rfl, ldi⟩
      exact q _
end
end Fh

namespace Fh
open PySem PySem.Spec PyProof.Rows L2

/-! ### what the top has written -/
theorem all_mk {l : PySem.W.OpenLaw} {w : World} {K : PySem.W.Frag} {h : Heap} {mg : Str → Option Value} {fa CR CF f_odd f_chk f_rin f_mem f_tps f_nxs f_out f_sta f_alw f_dif f_cnt f_tpr f_pap f_thr f_ckc f_mnd f_com f_fin f_trn f_fee f_giv f_tns f_wai f_pri f_tol f_lnu f_lta f_ltb f_lru f_lco f_lbi f_lre f_ltu f_lbe f_lpr f_law : Addr} (X : K.In h) (G : h.Ns mainGlobals mg) (hfa : mg "law" = some (.ref fa))
    {od_odd od_chk od_rin od_mem od_tps od_nxs od_out od_sta od_alw od_dif od_cnt od_tpr od_pap od_thr od_ckc od_mnd od_com od_fin od_trn od_fee od_giv od_tns od_wai od_pri od_tol od_lnu od_lta od_ltb od_lru od_lco od_lbi od_lre od_ltu od_lbe od_lpr od_law an_odd an_chk an_rin an_mem an_tps an_nxs an_out an_sta an_alw an_dif an_cnt an_tpr an_pap an_thr an_ckc an_mnd an_com an_fin an_trn an_fee an_giv an_tns an_wai an_pri an_tol an_lnu an_lta an_ltb an_lru an_lco an_lbi an_lre an_ltu an_lbe an_lpr an_law : Option Addr} {sl_odd sl_chk sl_rin sl_mem sl_tps sl_nxs sl_out sl_sta sl_alw sl_dif sl_cnt sl_tpr sl_pap sl_thr sl_ckc sl_mnd sl_com sl_fin sl_trn sl_fee sl_giv sl_tns sl_wai sl_pri sl_tol sl_lnu sl_lta sl_ltb sl_lru sl_lco sl_lbi sl_lre sl_ltu sl_lbe sl_lpr sl_law : Array (Option Value)} {oc_odd oc_chk oc_rin oc_mem oc_tps oc_nxs oc_out oc_sta oc_alw oc_dif oc_cnt oc_tpr oc_pap oc_thr oc_ckc oc_mnd oc_com oc_fin oc_trn oc_fee oc_giv oc_tns oc_wai oc_pri oc_tol oc_lnu oc_lta oc_ltb oc_lru oc_lco oc_lbi oc_lre oc_ltu oc_lbe oc_lpr oc_law kV_odd kV_chk kV_rin kV_mem kV_tps kV_nxs kV_out kV_sta kV_alw kV_dif kV_cnt kV_tpr kV_pap kV_thr kV_ckc kV_mnd kV_com kV_fin kV_trn kV_fee kV_giv kV_tns kV_wai kV_pri kV_tol kV_lnu kV_lta kV_ltb kV_lru kV_lco kV_lbi kV_lre kV_ltu kV_lbe kV_lpr kV_law dc_odd dc_chk dc_rin dc_mem dc_tps dc_nxs dc_out dc_sta dc_alw dc_dif dc_cnt dc_tpr dc_pap dc_thr dc_ckc dc_mnd dc_com dc_fin dc_trn dc_fee dc_giv dc_tns dc_wai dc_pri dc_tol dc_lnu dc_lta dc_ltb dc_lru dc_lco dc_lbi dc_lre dc_ltu dc_lbe dc_lpr dc_law pm_odd pm_chk pm_rin pm_mem pm_tps pm_nxs pm_out pm_sta pm_alw pm_dif pm_cnt pm_tpr pm_pap pm_thr pm_ckc pm_mnd pm_com pm_fin pm_trn pm_fee pm_giv pm_tns pm_wai pm_pri pm_tol pm_lnu pm_lta pm_ltb pm_lru pm_lco pm_lbi pm_lre pm_ltu pm_lbe pm_lpr pm_law cd_odd cd_chk cd_rin cd_mem cd_tps cd_nxs cd_out cd_sta cd_alw cd_dif cd_cnt cd_tpr cd_pap cd_thr cd_ckc cd_mnd cd_com cd_fin cd_trn cd_fee cd_giv cd_tns cd_wai cd_pri cd_tol cd_lnu cd_lta cd_ltb cd_lru cd_lco cd_lbi cd_lre cd_ltu cd_lbe cd_lpr cd_law ct_odd ct_chk ct_rin ct_mem ct_tps ct_nxs ct_out ct_sta ct_alw ct_dif ct_cnt ct_tpr ct_pap ct_thr ct_ckc ct_mnd ct_com ct_fin ct_trn ct_fee ct_giv ct_tns ct_wai ct_pri ct_tol ct_lnu ct_lta ct_ltb ct_lru ct_lco ct_lbi ct_lre ct_ltu ct_lbe ct_lpr ct_law : Value}
    (aCR : PySem.W.nsIn K mainGlobals "Register" = some (some (.ref CR)))
    (pgCR : PySem.W.plainGet K CR Str.empty = true)
    (hdCR : PySem.W.hasDictIn K CR = true)
    (poCR : PySem.W.plainOver K CR = true)
    (saCR : PySem.W.findIn K (.ref CR) "__setattr__" = some (some (.builtin "object.__setattr__")))
    (mkCR : PySem.W.makesIn K CR = true)
    (kcCR : PySem.W.keepIn K (.ref CR) = true)
    (nCR0 : PySem.W.findIn K (.ref CR) "_v" = some none)
    (nCR1 : PySem.W.findIn K (.ref CR) "_taps" = some none)
    (nCR2 : PySem.W.findIn K (.ref CR) "_rows" = some none)
    (aCF : PySem.W.nsIn K mainGlobals "Follower" = some (some (.ref CF)))
    (pgCF : PySem.W.plainGet K CF Str.empty = true)
    (hdCF : PySem.W.hasDictIn K CF = true)
    (poCF : PySem.W.plainOver K CF = true)
    (saCF : PySem.W.findIn K (.ref CF) "__setattr__" = some (some (.builtin "object.__setattr__")))
    (mkCF : PySem.W.makesIn K CF = true)
    (kcCF : PySem.W.keepIn K (.ref CF) = true)
    (nCF0 : PySem.W.findIn K (.ref CF) "_register" = some none)
    (nCF1 : PySem.W.findIn K (.ref CF) "_paths" = some none)
    (nCF2 : PySem.W.findIn K (.ref CF) "_waiting" = some none)
    (nCF3 : PySem.W.findIn K (.ref CF) "_turns" = some none)
    (z0 : PySem.W.nsIn K mainGlobals "len" = some none)
    (z1 : PySem.W.nsIn K mainGlobals "range" = some none)
    (z2 : PySem.W.nsIn K mainGlobals "min" = some none)
    (z3 : PySem.W.nsIn K mainGlobals "max" = some none)
    (z4 : PySem.W.nsIn K mainGlobals "abs" = some none)
    (z5 : PySem.W.nsIn K mainGlobals "all" = some none)
    (z6 : PySem.W.nsIn K mainGlobals "int" = some none)
    (z7 : PySem.W.nsIn K mainGlobals "list" = some none)
    (a_odd : PySem.W.nsIn K mainGlobals "is_odd" = some (some (.ref f_odd)))
    (l_odd : K.lookup f_odd = some ⟨oc_odd, od_odd, .func (PySem.W.fnOf "is_odd" "is_odd" (defArgs sOdd) (defBody sOdd) (defScope sOdd) .none kV_odd dc_odd pm_odd an_odd cd_odd ct_odd), sl_odd⟩)
    (c_odd : PySem.W.codeIn K cd_odd "is_odd" = true)
    (k_odd : PySem.W.keepIn K (.ref f_odd) = true)
    (a_chk : PySem.W.nsIn K mainGlobals "check_taps" = some (some (.ref f_chk)))
    (l_chk : K.lookup f_chk = some ⟨oc_chk, od_chk, .func (PySem.W.fnOf "check_taps" "check_taps" (defArgs sCheck) (defBody sCheck) (defScope sCheck) .none kV_chk dc_chk pm_chk an_chk cd_chk ct_chk), sl_chk⟩)
    (c_chk : PySem.W.codeIn K cd_chk "check_taps" = true)
    (k_chk : PySem.W.keepIn K (.ref f_chk) = true)
    (a_rin : PySem.W.findIn K (.ref CR) "__init__" = some (some (.ref f_rin)))
    (i_rin : PySem.W.isFn K (.ref f_rin) = true)
    (l_rin : K.lookup f_rin = some ⟨oc_rin, od_rin, .func (PySem.W.fnOf "__init__" "Register.__init__" (defArgs sRInit) (defBody sRInit) (defScope sRInit) .none kV_rin dc_rin pm_rin an_rin cd_rin ct_rin), sl_rin⟩)
    (c_rin : PySem.W.codeIn K cd_rin "Register.__init__" = true)
    (k_rin : PySem.W.keepIn K (.ref f_rin) = true)
    (a_mem : PySem.W.findIn K (.ref CR) "memory" = some (some (.ref f_mem)))
    (i_mem : PySem.W.isFn K (.ref f_mem) = true)
    (l_mem : K.lookup f_mem = some ⟨oc_mem, od_mem, .func (PySem.W.fnOf "memory" "Register.memory" (defArgs sMemory) (defBody sMemory) (defScope sMemory) .none kV_mem dc_mem pm_mem an_mem cd_mem ct_mem), sl_mem⟩)
    (c_mem : PySem.W.codeIn K cd_mem "Register.memory" = true)
    (k_mem : PySem.W.keepIn K (.ref f_mem) = true)
    (a_tps : PySem.W.findIn K (.ref CR) "taps" = some (some (.ref f_tps)))
    (i_tps : PySem.W.isFn K (.ref f_tps) = true)
    (l_tps : K.lookup f_tps = some ⟨oc_tps, od_tps, .func (PySem.W.fnOf "taps" "Register.taps" (defArgs sTaps) (defBody sTaps) (defScope sTaps) .none kV_tps dc_tps pm_tps an_tps cd_tps ct_tps), sl_tps⟩)
    (c_tps : PySem.W.codeIn K cd_tps "Register.taps" = true)
    (k_tps : PySem.W.keepIn K (.ref f_tps) = true)
    (a_nxs : PySem.W.findIn K (.ref CR) "next_state" = some (some (.ref f_nxs)))
    (i_nxs : PySem.W.isFn K (.ref f_nxs) = true)
    (l_nxs : K.lookup f_nxs = some ⟨oc_nxs, od_nxs, .func (PySem.W.fnOf "next_state" "Register.next_state" (defArgs sNext) (defBody sNext) (defScope sNext) .none kV_nxs dc_nxs pm_nxs an_nxs cd_nxs ct_nxs), sl_nxs⟩)
    (c_nxs : PySem.W.codeIn K cd_nxs "Register.next_state" = true)
    (k_nxs : PySem.W.keepIn K (.ref f_nxs) = true)
    (a_out : PySem.W.findIn K (.ref CR) "out" = some (some (.ref f_out)))
    (i_out : PySem.W.isFn K (.ref f_out) = true)
    (l_out : K.lookup f_out = some ⟨oc_out, od_out, .func (PySem.W.fnOf "out" "Register.out" (defArgs sOut) (defBody sOut) (defScope sOut) .none kV_out dc_out pm_out an_out cd_out ct_out), sl_out⟩)
    (c_out : PySem.W.codeIn K cd_out "Register.out" = true)
    (k_out : PySem.W.keepIn K (.ref f_out) = true)
    (a_sta : PySem.W.nsIn K mainGlobals "states_of" = some (some (.ref f_sta)))
    (l_sta : K.lookup f_sta = some ⟨oc_sta, od_sta, .func (PySem.W.fnOf "states_of" "states_of" (defArgs sStates) (defBody sStates) (defScope sStates) .none kV_sta dc_sta pm_sta an_sta cd_sta ct_sta), sl_sta⟩)
    (c_sta : PySem.W.codeIn K cd_sta "states_of" = true)
    (k_sta : PySem.W.keepIn K (.ref f_sta) = true)
    (a_alw : PySem.W.nsIn K mainGlobals "allowed" = some (some (.ref f_alw)))
    (l_alw : K.lookup f_alw = some ⟨oc_alw, od_alw, .func (PySem.W.fnOf "allowed" "allowed" (defArgs sAllowed) (defBody sAllowed) (defScope sAllowed) .none kV_alw dc_alw pm_alw an_alw cd_alw ct_alw), sl_alw⟩)
    (c_alw : PySem.W.codeIn K cd_alw "allowed" = true)
    (k_alw : PySem.W.keepIn K (.ref f_alw) = true)
    (a_dif : PySem.W.nsIn K mainGlobals "differing" = some (some (.ref f_dif)))
    (l_dif : K.lookup f_dif = some ⟨oc_dif, od_dif, .func (PySem.W.fnOf "differing" "differing" (defArgs sDiff) (defBody sDiff) (defScope sDiff) .none kV_dif dc_dif pm_dif an_dif cd_dif ct_dif), sl_dif⟩)
    (c_dif : PySem.W.codeIn K cd_dif "differing" = true)
    (k_dif : PySem.W.keepIn K (.ref f_dif) = true)
    (a_cnt : PySem.W.nsIn K mainGlobals "count_of" = some (some (.ref f_cnt)))
    (l_cnt : K.lookup f_cnt = some ⟨oc_cnt, od_cnt, .func (PySem.W.fnOf "count_of" "count_of" (defArgs sCountOf) (defBody sCountOf) (defScope sCountOf) .none kV_cnt dc_cnt pm_cnt an_cnt cd_cnt ct_cnt), sl_cnt⟩)
    (c_cnt : PySem.W.codeIn K cd_cnt "count_of" = true)
    (k_cnt : PySem.W.keepIn K (.ref f_cnt) = true)
    (a_tpr : PySem.W.nsIn K mainGlobals "turn_price" = some (some (.ref f_tpr)))
    (l_tpr : K.lookup f_tpr = some ⟨oc_tpr, od_tpr, .func (PySem.W.fnOf "turn_price" "turn_price" (defArgs sTurnPrice) (defBody sTurnPrice) (defScope sTurnPrice) .none kV_tpr dc_tpr pm_tpr an_tpr cd_tpr ct_tpr), sl_tpr⟩)
    (c_tpr : PySem.W.codeIn K cd_tpr "turn_price" = true)
    (k_tpr : PySem.W.keepIn K (.ref f_tpr) = true)
    (a_pap : PySem.W.nsIn K mainGlobals "path_paper" = some (some (.ref f_pap)))
    (l_pap : K.lookup f_pap = some ⟨oc_pap, od_pap, .func (PySem.W.fnOf "path_paper" "path_paper" (defArgs sPaper) (defBody sPaper) (defScope sPaper) .none kV_pap dc_pap pm_pap an_pap cd_pap ct_pap), sl_pap⟩)
    (c_pap : PySem.W.codeIn K cd_pap "path_paper" = true)
    (k_pap : PySem.W.keepIn K (.ref f_pap) = true)
    (a_thr : PySem.W.nsIn K mainGlobals "through" = some (some (.ref f_thr)))
    (l_thr : K.lookup f_thr = some ⟨oc_thr, od_thr, .func (PySem.W.fnOf "through" "through" (defArgs sThrough) (defBody sThrough) (defScope sThrough) .none kV_thr dc_thr pm_thr an_thr cd_thr ct_thr), sl_thr⟩)
    (c_thr : PySem.W.codeIn K cd_thr "through" = true)
    (k_thr : PySem.W.keepIn K (.ref f_thr) = true)
    (a_ckc : PySem.W.nsIn K mainGlobals "checked_count" = some (some (.ref f_ckc)))
    (l_ckc : K.lookup f_ckc = some ⟨oc_ckc, od_ckc, .func (PySem.W.fnOf "checked_count" "checked_count" (defArgs sChecked) (defBody sChecked) (defScope sChecked) .none kV_ckc dc_ckc pm_ckc an_ckc cd_ckc ct_ckc), sl_ckc⟩)
    (c_ckc : PySem.W.codeIn K cd_ckc "checked_count" = true)
    (k_ckc : PySem.W.keepIn K (.ref f_ckc) = true)
    (a_mnd : PySem.W.nsIn K mainGlobals "mend" = some (some (.ref f_mnd)))
    (l_mnd : K.lookup f_mnd = some ⟨oc_mnd, od_mnd, .func (PySem.W.fnOf "mend" "mend" (defArgs sMend) (defBody sMend) (defScope sMend) .none kV_mnd dc_mnd pm_mnd an_mnd cd_mnd ct_mnd), sl_mnd⟩)
    (c_mnd : PySem.W.codeIn K cd_mnd "mend" = true)
    (k_mnd : PySem.W.keepIn K (.ref f_mnd) = true)
    (a_com : PySem.W.nsIn K mainGlobals "common_beginning" = some (some (.ref f_com)))
    (l_com : K.lookup f_com = some ⟨oc_com, od_com, .func (PySem.W.fnOf "common_beginning" "common_beginning" (defArgs sCommon) (defBody sCommon) (defScope sCommon) .none kV_com dc_com pm_com an_com cd_com ct_com), sl_com⟩)
    (c_com : PySem.W.codeIn K cd_com "common_beginning" = true)
    (k_com : PySem.W.keepIn K (.ref f_com) = true)
    (a_fin : PySem.W.findIn K (.ref CF) "__init__" = some (some (.ref f_fin)))
    (i_fin : PySem.W.isFn K (.ref f_fin) = true)
    (l_fin : K.lookup f_fin = some ⟨oc_fin, od_fin, .func (PySem.W.fnOf "__init__" "Follower.__init__" (defArgs sFInit) (defBody sFInit) (defScope sFInit) .none kV_fin dc_fin pm_fin an_fin cd_fin ct_fin), sl_fin⟩)
    (c_fin : PySem.W.codeIn K cd_fin "Follower.__init__" = true)
    (k_fin : PySem.W.keepIn K (.ref f_fin) = true)
    (a_trn : PySem.W.findIn K (.ref CF) "_turn" = some (some (.ref f_trn)))
    (i_trn : PySem.W.isFn K (.ref f_trn) = true)
    (l_trn : K.lookup f_trn = some ⟨oc_trn, od_trn, .func (PySem.W.fnOf "_turn" "Follower._turn" (defArgs sTurn) (defBody sTurn) (defScope sTurn) .none kV_trn dc_trn pm_trn an_trn cd_trn ct_trn), sl_trn⟩)
    (c_trn : PySem.W.codeIn K cd_trn "Follower._turn" = true)
    (k_trn : PySem.W.keepIn K (.ref f_trn) = true)
    (a_fee : PySem.W.findIn K (.ref CF) "feed" = some (some (.ref f_fee)))
    (i_fee : PySem.W.isFn K (.ref f_fee) = true)
    (l_fee : K.lookup f_fee = some ⟨oc_fee, od_fee, .func (PySem.W.fnOf "feed" "Follower.feed" (defArgs sFeed) (defBody sFeed) (defScope sFeed) .none kV_fee dc_fee pm_fee an_fee cd_fee ct_fee), sl_fee⟩)
    (c_fee : PySem.W.codeIn K cd_fee "Follower.feed" = true)
    (k_fee : PySem.W.keepIn K (.ref f_fee) = true)
    (a_giv : PySem.W.findIn K (.ref CF) "given" = some (some (.ref f_giv)))
    (i_giv : PySem.W.isFn K (.ref f_giv) = true)
    (l_giv : K.lookup f_giv = some ⟨oc_giv, od_giv, .func (PySem.W.fnOf "given" "Follower.given" (defArgs sGiven) (defBody sGiven) (defScope sGiven) .none kV_giv dc_giv pm_giv an_giv cd_giv ct_giv), sl_giv⟩)
    (c_giv : PySem.W.codeIn K cd_giv "Follower.given" = true)
    (k_giv : PySem.W.keepIn K (.ref f_giv) = true)
    (a_tns : PySem.W.findIn K (.ref CF) "turns" = some (some (.ref f_tns)))
    (i_tns : PySem.W.isFn K (.ref f_tns) = true)
    (l_tns : K.lookup f_tns = some ⟨oc_tns, od_tns, .func (PySem.W.fnOf "turns" "Follower.turns" (defArgs sTurns) (defBody sTurns) (defScope sTurns) .none kV_tns dc_tns pm_tns an_tns cd_tns ct_tns), sl_tns⟩)
    (c_tns : PySem.W.codeIn K cd_tns "Follower.turns" = true)
    (k_tns : PySem.W.keepIn K (.ref f_tns) = true)
    (a_wai : PySem.W.findIn K (.ref CF) "waiting" = some (some (.ref f_wai)))
    (i_wai : PySem.W.isFn K (.ref f_wai) = true)
    (l_wai : K.lookup f_wai = some ⟨oc_wai, od_wai, .func (PySem.W.fnOf "waiting" "Follower.waiting" (defArgs sWaiting) (defBody sWaiting) (defScope sWaiting) .none kV_wai dc_wai pm_wai an_wai cd_wai ct_wai), sl_wai⟩)
    (c_wai : PySem.W.codeIn K cd_wai "Follower.waiting" = true)
    (k_wai : PySem.W.keepIn K (.ref f_wai) = true)
    (a_pri : PySem.W.findIn K (.ref CF) "prices" = some (some (.ref f_pri)))
    (i_pri : PySem.W.isFn K (.ref f_pri) = true)
    (l_pri : K.lookup f_pri = some ⟨oc_pri, od_pri, .func (PySem.W.fnOf "prices" "Follower.prices" (defArgs sPrices) (defBody sPrices) (defScope sPrices) .none kV_pri dc_pri pm_pri an_pri cd_pri ct_pri), sl_pri⟩)
    (c_pri : PySem.W.codeIn K cd_pri "Follower.prices" = true)
    (k_pri : PySem.W.keepIn K (.ref f_pri) = true)
    (a_tol : PySem.W.findIn K (.ref CF) "told" = some (some (.ref f_tol)))
    (i_tol : PySem.W.isFn K (.ref f_tol) = true)
    (l_tol : K.lookup f_tol = some ⟨oc_tol, od_tol, .func (PySem.W.fnOf "told" "Follower.told" (defArgs sTold) (defBody sTold) (defScope sTold) .none kV_tol dc_tol pm_tol an_tol cd_tol ct_tol), sl_tol⟩)
    (c_tol : PySem.W.codeIn K cd_tol "Follower.told" = true)
    (k_tol : PySem.W.keepIn K (.ref f_tol) = true)
    (a_lnu : PySem.W.nsIn K mainGlobals "_law_numbers" = some (some (.ref f_lnu)))
    (l_lnu : K.lookup f_lnu = some ⟨oc_lnu, od_lnu, .func (PySem.W.fnOf "_law_numbers" "_law_numbers" (defArgs sNumbers) (defBody sNumbers) (defScope sNumbers) .none kV_lnu dc_lnu pm_lnu an_lnu cd_lnu ct_lnu), sl_lnu⟩)
    (c_lnu : PySem.W.codeIn K cd_lnu "_law_numbers" = true)
    (k_lnu : PySem.W.keepIn K (.ref f_lnu) = true)
    (a_lta : PySem.W.nsIn K mainGlobals "_law_taps" = some (some (.ref f_lta)))
    (l_lta : K.lookup f_lta = some ⟨oc_lta, od_lta, .func (PySem.W.fnOf "_law_taps" "_law_taps" (defArgs sLTaps) (defBody sLTaps) (defScope sLTaps) .none kV_lta dc_lta pm_lta an_lta cd_lta ct_lta), sl_lta⟩)
    (c_lta : PySem.W.codeIn K cd_lta "_law_taps" = true)
    (k_lta : PySem.W.keepIn K (.ref f_lta) = true)
    (a_ltb : PySem.W.nsIn K mainGlobals "_law_table" = some (some (.ref f_ltb)))
    (l_ltb : K.lookup f_ltb = some ⟨oc_ltb, od_ltb, .func (PySem.W.fnOf "_law_table" "_law_table" (defArgs sLTable) (defBody sLTable) (defScope sLTable) .none kV_ltb dc_ltb pm_ltb an_ltb cd_ltb ct_ltb), sl_ltb⟩)
    (c_ltb : PySem.W.codeIn K cd_ltb "_law_table" = true)
    (k_ltb : PySem.W.keepIn K (.ref f_ltb) = true)
    (a_lru : PySem.W.nsIn K mainGlobals "_law_run" = some (some (.ref f_lru)))
    (l_lru : K.lookup f_lru = some ⟨oc_lru, od_lru, .func (PySem.W.fnOf "_law_run" "_law_run" (defArgs sLRun) (defBody sLRun) (defScope sLRun) .none kV_lru dc_lru pm_lru an_lru cd_lru ct_lru), sl_lru⟩)
    (c_lru : PySem.W.codeIn K cd_lru "_law_run" = true)
    (k_lru : PySem.W.keepIn K (.ref f_lru) = true)
    (a_lco : PySem.W.nsIn K mainGlobals "_law_cost" = some (some (.ref f_lco)))
    (l_lco : K.lookup f_lco = some ⟨oc_lco, od_lco, .func (PySem.W.fnOf "_law_cost" "_law_cost" (defArgs sLCost) (defBody sLCost) (defScope sLCost) .none kV_lco dc_lco pm_lco an_lco cd_lco ct_lco), sl_lco⟩)
    (c_lco : PySem.W.codeIn K cd_lco "_law_cost" = true)
    (k_lco : PySem.W.keepIn K (.ref f_lco) = true)
    (a_lbi : PySem.W.nsIn K mainGlobals "_law_bit" = some (some (.ref f_lbi)))
    (l_lbi : K.lookup f_lbi = some ⟨oc_lbi, od_lbi, .func (PySem.W.fnOf "_law_bit" "_law_bit" (defArgs sLBit) (defBody sLBit) (defScope sLBit) .none kV_lbi dc_lbi pm_lbi an_lbi cd_lbi ct_lbi), sl_lbi⟩)
    (c_lbi : PySem.W.codeIn K cd_lbi "_law_bit" = true)
    (k_lbi : PySem.W.keepIn K (.ref f_lbi) = true)
    (a_lre : PySem.W.nsIn K mainGlobals "_law_received" = some (some (.ref f_lre)))
    (l_lre : K.lookup f_lre = some ⟨oc_lre, od_lre, .func (PySem.W.fnOf "_law_received" "_law_received" (defArgs sLReceived) (defBody sLReceived) (defScope sLReceived) .none kV_lre dc_lre pm_lre an_lre cd_lre ct_lre), sl_lre⟩)
    (c_lre : PySem.W.codeIn K cd_lre "_law_received" = true)
    (k_lre : PySem.W.keepIn K (.ref f_lre) = true)
    (a_ltu : PySem.W.nsIn K mainGlobals "_law_turn" = some (some (.ref f_ltu)))
    (l_ltu : K.lookup f_ltu = some ⟨oc_ltu, od_ltu, .func (PySem.W.fnOf "_law_turn" "_law_turn" (defArgs sLTurn) (defBody sLTurn) (defScope sLTurn) .none kV_ltu dc_ltu pm_ltu an_ltu cd_ltu ct_ltu), sl_ltu⟩)
    (c_ltu : PySem.W.codeIn K cd_ltu "_law_turn" = true)
    (k_ltu : PySem.W.keepIn K (.ref f_ltu) = true)
    (a_lbe : PySem.W.nsIn K mainGlobals "_law_beginning" = some (some (.ref f_lbe)))
    (l_lbe : K.lookup f_lbe = some ⟨oc_lbe, od_lbe, .func (PySem.W.fnOf "_law_beginning" "_law_beginning" (defArgs sLBeg) (defBody sLBeg) (defScope sLBeg) .none kV_lbe dc_lbe pm_lbe an_lbe cd_lbe ct_lbe), sl_lbe⟩)
    (c_lbe : PySem.W.codeIn K cd_lbe "_law_beginning" = true)
    (k_lbe : PySem.W.keepIn K (.ref f_lbe) = true)
    (a_lpr : PySem.W.nsIn K mainGlobals "_law_prices" = some (some (.ref f_lpr)))
    (l_lpr : K.lookup f_lpr = some ⟨oc_lpr, od_lpr, .func (PySem.W.fnOf "_law_prices" "_law_prices" (defArgs sLPrices) (defBody sLPrices) (defScope sLPrices) .none kV_lpr dc_lpr pm_lpr an_lpr cd_lpr ct_lpr), sl_lpr⟩)
    (c_lpr : PySem.W.codeIn K cd_lpr "_law_prices" = true)
    (k_lpr : PySem.W.keepIn K (.ref f_lpr) = true)
    (a_law : PySem.W.nsIn K mainGlobals "law" = some (some (.ref f_law)))
    (l_law : K.lookup f_law = some ⟨oc_law, od_law, .func (PySem.W.fnOf "law" "law" (defArgs sLaw) (defBody sLaw) (defScope sLaw) .none kV_law dc_law pm_law an_law cd_law ct_law), sl_law⟩)
    (c_law : PySem.W.codeIn K cd_law "law" = true)
    (k_law : PySem.W.keepIn K (.ref f_law) = true)
    : ∃ fd : FuncData, (∀ (s : Shared) (v : Value), BindsTo s fd ⟨[v], []⟩ [("_law_script", v)]) ∧ ∀ base : Heap, K.In base → base.Ns mainGlobals mg → FnOk l.prog w K mg base CX0 5 fa fd ["_law_script"] (spLaw K) := by
  have e := hfa.symm.trans (PySem.W.mg_of X G a_law)
  cases e
  have T : Tx K mg CR CF := ⟨⟨pgCR, hdCR, poCR, saCR⟩, nCR0, nCR1, nCR2, ⟨pgCF, hdCF, poCF, saCF⟩, nCF0, nCF1, nCF2, nCF3, PySem.W.mg_of X G aCR, PySem.W.mg_of X G aCF, PySem.W.mg_none_of X G z0, PySem.W.mg_none_of X G z1, PySem.W.mg_none_of X G z2, PySem.W.mg_none_of X G z3, PySem.W.mg_none_of X G z4, PySem.W.mg_none_of X G z5, PySem.W.mg_none_of X G z6, PySem.W.mg_none_of X G z7⟩
  have F_odd := fun_mk (st := sOdd) l_odd c_odd k_odd
  have b_odd := F_odd.binds (ps := ["bits"]) fun _ _ _ _ _ _ us hl => match us, hl with | [_], _ => rfl
  have g_odd := PySem.W.mg_of X G a_odd
  have F_chk := fun_mk (st := sCheck) l_chk c_chk k_chk
  have b_chk := F_chk.binds (ps := ["v", "taps"]) fun _ _ _ _ _ _ us hl => match us, hl with | [_, _], _ => rfl
  have g_chk := PySem.W.mg_of X G a_chk
  have F_rin := fun_mk (st := sRInit) l_rin c_rin k_rin
  have b_rin := F_rin.binds (ps := ["self", "v", "taps"]) fun _ _ _ _ _ _ us hl => match us, hl with | [_, _, _], _ => rfl
  have m_rin : Meth K CR "__init__" f_rin := ⟨a_rin, i_rin, k_rin⟩
  have F_mem := fun_mk (st := sMemory) l_mem c_mem k_mem
  have b_mem := F_mem.binds (ps := ["self"]) fun _ _ _ _ _ _ us hl => match us, hl with | [_], _ => rfl
  have m_mem : Meth K CR "memory" f_mem := ⟨a_mem, i_mem, k_mem⟩
  have F_tps := fun_mk (st := sTaps) l_tps c_tps k_tps
  have b_tps := F_tps.binds (ps := ["self"]) fun _ _ _ _ _ _ us hl => match us, hl with | [_], _ => rfl
  have m_tps : Meth K CR "taps" f_tps := ⟨a_tps, i_tps, k_tps⟩
  have F_nxs := fun_mk (st := sNext) l_nxs c_nxs k_nxs
  have b_nxs := F_nxs.binds (ps := ["self", "state", "bit"]) fun _ _ _ _ _ _ us hl => match us, hl with | [_, _, _], _ => rfl
  have m_nxs : Meth K CR "next_state" f_nxs := ⟨a_nxs, i_nxs, k_nxs⟩
  have F_out := fun_mk (st := sOut) l_out c_out k_out
  have b_out := F_out.binds (ps := ["self", "state", "bit"]) fun _ _ _ _ _ _ us hl => match us, hl with | [_, _, _], _ => rfl
  have m_out : Meth K CR "out" f_out := ⟨a_out, i_out, k_out⟩
  have F_sta := fun_mk (st := sStates) l_sta c_sta k_sta
  have b_sta := F_sta.binds (ps := ["shift_register"]) fun _ _ _ _ _ _ us hl => match us, hl with | [_], _ => rfl
  have g_sta := PySem.W.mg_of X G a_sta
  have F_alw := fun_mk (st := sAllowed) l_alw c_alw k_alw
  have b_alw := F_alw.binds (ps := ["step", "count"]) fun _ _ _ _ _ _ us hl => match us, hl with | [_, _], _ => rfl
  have g_alw := PySem.W.mg_of X G a_alw
  have F_dif := fun_mk (st := sDiff) l_dif c_dif k_dif
  have b_dif := F_dif.binds (ps := ["bits", "received"]) fun _ _ _ _ _ _ us hl => match us, hl with | [_, _], _ => rfl
  have g_dif := PySem.W.mg_of X G a_dif
  have F_cnt := fun_mk (st := sCountOf) l_cnt c_cnt k_cnt
  have b_cnt := F_cnt.binds (ps := ["shift_register", "received"]) fun _ _ _ _ _ _ us hl => match us, hl with | [_, _], _ => rfl
  have g_cnt := PySem.W.mg_of X G a_cnt
  have F_tpr := fun_mk (st := sTurnPrice) l_tpr c_tpr k_tpr
  have b_tpr := F_tpr.binds (ps := ["shift_register", "received", "step", "state", "bit"]) fun _ _ _ _ _ _ us hl => match us, hl with | [_, _, _, _, _], _ => rfl
  have g_tpr := PySem.W.mg_of X G a_tpr
  have F_pap := fun_mk (st := sPaper) l_pap c_pap k_pap
  have b_pap := F_pap.binds (ps := ["shift_register", "received", "count"]) fun _ _ _ _ _ _ us hl => match us, hl with | [_, _, _], _ => rfl
  have g_pap := PySem.W.mg_of X G a_pap
  have F_thr := fun_mk (st := sThrough) l_thr c_thr k_thr
  have b_thr := F_thr.binds (ps := ["shift_register", "received", "paper", "step", "state", "bit"]) fun _ _ _ _ _ _ us hl => match us, hl with | [_, _, _, _, _, _], _ => rfl
  have g_thr := PySem.W.mg_of X G a_thr
  have F_ckc := fun_mk (st := sChecked) l_ckc c_ckc k_ckc
  have b_ckc := F_ckc.binds (ps := ["shift_register", "received"]) fun _ _ _ _ _ _ us hl => match us, hl with | [_, _], _ => rfl
  have g_ckc := PySem.W.mg_of X G a_ckc
  have F_mnd := fun_mk (st := sMend) l_mnd c_mnd k_mnd
  have b_mnd := F_mnd.binds (ps := ["shift_register", "received"]) fun _ _ _ _ _ _ us hl => match us, hl with | [_, _], _ => rfl
  have g_mnd := PySem.W.mg_of X G a_mnd
  have F_com := fun_mk (st := sCommon) l_com c_com k_com
  have b_com := F_com.binds (ps := ["rows"]) fun _ _ _ _ _ _ us hl => match us, hl with | [_], _ => rfl
  have g_com := PySem.W.mg_of X G a_com
  have F_fin := fun_mk (st := sFInit) l_fin c_fin k_fin
  have b_fin := F_fin.binds (ps := ["self", "shift_register"]) fun _ _ _ _ _ _ us hl => match us, hl with | [_, _], _ => rfl
  have m_fin : Meth K CF "__init__" f_fin := ⟨a_fin, i_fin, k_fin⟩
  have F_trn := fun_mk (st := sTurn) l_trn c_trn k_trn
  have b_trn := F_trn.binds (ps := ["self", "received"]) fun _ _ _ _ _ _ us hl => match us, hl with | [_, _], _ => rfl
  have m_trn : Meth K CF "_turn" f_trn := ⟨a_trn, i_trn, k_trn⟩
  have F_fee := fun_mk (st := sFeed) l_fee c_fee k_fee
  have b_fee := F_fee.binds (ps := ["self", "part"]) fun _ _ _ _ _ _ us hl => match us, hl with | [_, _], _ => rfl
  have m_fee : Meth K CF "feed" f_fee := ⟨a_fee, i_fee, k_fee⟩
  have F_giv := fun_mk (st := sGiven) l_giv c_giv k_giv
  have b_giv := F_giv.binds (ps := ["self"]) fun _ _ _ _ _ _ us hl => match us, hl with | [_], _ => rfl
  have m_giv : Meth K CF "given" f_giv := ⟨a_giv, i_giv, k_giv⟩
  have F_tns := fun_mk (st := sTurns) l_tns c_tns k_tns
  have b_tns := F_tns.binds (ps := ["self"]) fun _ _ _ _ _ _ us hl => match us, hl with | [_], _ => rfl
  have m_tns : Meth K CF "turns" f_tns := ⟨a_tns, i_tns, k_tns⟩
  have F_wai := fun_mk (st := sWaiting) l_wai c_wai k_wai
  have b_wai := F_wai.binds (ps := ["self"]) fun _ _ _ _ _ _ us hl => match us, hl with | [_], _ => rfl
  have m_wai : Meth K CF "waiting" f_wai := ⟨a_wai, i_wai, k_wai⟩
  have F_pri := fun_mk (st := sPrices) l_pri c_pri k_pri
  have b_pri := F_pri.binds (ps := ["self"]) fun _ _ _ _ _ _ us hl => match us, hl with | [_], _ => rfl
  have m_pri : Meth K CF "prices" f_pri := ⟨a_pri, i_pri, k_pri⟩
  have F_tol := fun_mk (st := sTold) l_tol c_tol k_tol
  have b_tol := F_tol.binds (ps := ["self", "state"]) fun _ _ _ _ _ _ us hl => match us, hl with | [_, _], _ => rfl
  have m_tol : Meth K CF "told" f_tol := ⟨a_tol, i_tol, k_tol⟩
  have F_lnu := fun_mk (st := sNumbers) l_lnu c_lnu k_lnu
  have b_lnu := F_lnu.binds (ps := ["_law_script", "_law_many"]) fun _ _ _ _ _ _ us hl => match us, hl with | [_, _], _ => rfl
  have g_lnu := PySem.W.mg_of X G a_lnu
  have F_lta := fun_mk (st := sLTaps) l_lta c_lta k_lta
  have b_lta := F_lta.binds (ps := ["_law_numbers_here", "_law_at"]) fun _ _ _ _ _ _ us hl => match us, hl with | [_, _], _ => rfl
  have g_lta := PySem.W.mg_of X G a_lta
  have F_ltb := fun_mk (st := sLTable) l_ltb c_ltb k_ltb
  have b_ltb := F_ltb.binds (ps := ["_law_v", "_law_taps_here"]) fun _ _ _ _ _ _ us hl => match us, hl with | [_, _], _ => rfl
  have g_ltb := PySem.W.mg_of X G a_ltb
  have F_lru := fun_mk (st := sLRun) l_lru c_lru k_lru
  have b_lru := F_lru.binds (ps := ["_law_v", "_law_table_here", "_law_state", "_law_bits"]) fun _ _ _ _ _ _ us hl => match us, hl with | [_, _, _, _], _ => rfl
  have g_lru := PySem.W.mg_of X G a_lru
  have F_lco := fun_mk (st := sLCost) l_lco c_lco k_lco
  have b_lco := F_lco.binds (ps := ["_law_row", "_law_part"]) fun _ _ _ _ _ _ us hl => match us, hl with | [_, _], _ => rfl
  have g_lco := PySem.W.mg_of X G a_lco
  have F_lbi := fun_mk (st := sLBit) l_lbi c_lbi k_lbi
  have b_lbi := F_lbi.binds (ps := ["_law_numbers_here", "_law_k"]) fun _ _ _ _ _ _ us hl => match us, hl with | [_, _], _ => rfl
  have g_lbi := PySem.W.mg_of X G a_lbi
  have F_lre := fun_mk (st := sLReceived) l_lre c_lre k_lre
  have b_lre := F_lre.binds (ps := ["_law_numbers_here", "_law_v", "_law_table_here", "_law_many"]) fun _ _ _ _ _ _ us hl => match us, hl with | [_, _, _, _], _ => rfl
  have g_lre := PySem.W.mg_of X G a_lre
  have F_ltu := fun_mk (st := sLTurn) l_ltu c_ltu k_ltu
  have b_ltu := F_ltu.binds (ps := ["_law_v", "_law_table_here", "_law_paths", "_law_part"]) fun _ _ _ _ _ _ us hl => match us, hl with | [_, _, _, _], _ => rfl
  have g_ltu := PySem.W.mg_of X G a_ltu
  have F_lbe := fun_mk (st := sLBeg) l_lbe c_lbe k_lbe
  have b_lbe := F_lbe.binds (ps := ["_law_paths"]) fun _ _ _ _ _ _ us hl => match us, hl with | [_], _ => rfl
  have g_lbe := PySem.W.mg_of X G a_lbe
  have F_lpr := fun_mk (st := sLPrices) l_lpr c_lpr k_lpr
  have b_lpr := F_lpr.binds (ps := ["_law_paths"]) fun _ _ _ _ _ _ us hl => match us, hl with | [_], _ => rfl
  have g_lpr := PySem.W.mg_of X G a_lpr
  refine ⟨PySem.W.fnOf "law" "law" (defArgs sLaw) (defBody sLaw) (defScope sLaw) .none kV_law dc_law pm_law an_law cd_law ct_law, fun s v => .of_eq rfl, fun base _ _ => ?_⟩
  have G_odd : FnOk l.prog w K mg base CX0 1 f_odd _ ["bits"] spOdd := ok_odd F_odd
  have G_chk : FnOk l.prog w K mg base CX0 1 f_chk _ ["v", "taps"] spCheck := ok_check F_chk T
  have G_rin : FnOk l.prog w K mg base CX0 2 f_rin _ ["self", "v", "taps"] (spRInit CR) := ok_rinit F_rin T G_chk b_chk g_chk k_chk G_odd b_odd g_odd k_odd
  have G_mem : FnOk l.prog w K mg base CX0 1 f_mem _ ["self"] (spMemory CR) := ok_memory F_mem T
  have G_tps : FnOk l.prog w K mg base CX0 1 f_tps _ ["self"] (spTaps CR) := ok_taps F_tps T
  have G_nxs : FnOk l.prog w K mg base CX0 1 f_nxs _ ["self", "state", "bit"] (spNext CR) := ok_next F_nxs T
  have G_out : FnOk l.prog w K mg base CX0 1 f_out _ ["self", "state", "bit"] (spOut CR) := ok_out F_out T
  have G_sta : FnOk l.prog w K mg base CX0 2 f_sta _ ["shift_register"] (spStates CR) := ok_states F_sta T G_mem b_mem m_mem
  have G_alw : FnOk l.prog w K mg base CX0 1 f_alw _ ["step", "count"] spAllowed := ok_allowed F_alw
  have G_dif : FnOk l.prog w K mg base CX0 1 f_dif _ ["bits", "received"] spDiff := ok_diff F_dif T
  have G_cnt : FnOk l.prog w K mg base CX0 2 f_cnt _ ["shift_register", "received"] (spCountOf CR) := ok_countof F_cnt T G_mem b_mem m_mem G_tps b_tps m_tps
  have G_tpr : FnOk l.prog w K mg base CX0 2 f_tpr _ ["shift_register", "received", "step", "state", "bit"] (spTurnPrice CR) := ok_turnprice F_tpr T G_tps b_tps m_tps G_out b_out m_out G_dif b_dif g_dif k_dif
  have G_pap : FnOk l.prog w K mg base CX0 3 f_pap _ ["shift_register", "received", "count"] (spPaper CR) := ok_paper F_pap T G_sta b_sta g_sta k_sta G_mem b_mem m_mem G_alw b_alw g_alw k_alw G_nxs b_nxs m_nxs G_tpr b_tpr g_tpr k_tpr
  have G_thr : FnOk l.prog w K mg base CX0 3 f_thr _ ["shift_register", "received", "paper", "step", "state", "bit"] (spThrough CR) := ok_through F_thr T G_nxs b_nxs m_nxs G_tpr b_tpr g_tpr k_tpr
  have G_ckc : FnOk l.prog w K mg base CX0 3 f_ckc _ ["shift_register", "received"] (spCountOf CR) := ok_checked F_ckc T G_cnt b_cnt g_cnt k_cnt
  have G_mnd : FnOk l.prog w K mg base CX0 4 f_mnd _ ["shift_register", "received"] (spMend CR) := ok_mend F_mnd T G_ckc b_ckc g_ckc k_ckc G_pap b_pap g_pap k_pap G_nxs b_nxs m_nxs G_thr b_thr g_thr k_thr
  have G_com : FnOk l.prog w K mg base CX0 1 f_com _ ["rows"] spCommon := ok_common F_com T
  have G_fin : FnOk l.prog w K mg base CX0 3 f_fin _ ["self", "shift_register"] (spFInit CR CF) := ok_finit F_fin T G_sta b_sta g_sta k_sta
  have G_trn : FnOk l.prog w K mg base CX0 2 f_trn _ ["self", "received"] (spTurn CR CF) := ok_turn F_trn T G_nxs b_nxs m_nxs G_out b_out m_out G_dif b_dif g_dif k_dif
  have G_giv : FnOk l.prog w K mg base CX0 2 f_giv _ ["self"] (spGiven CF) := ok_given F_giv T G_com b_com g_com k_com
  have G_fee : FnOk l.prog w K mg base CX0 3 f_fee _ ["self", "part"] (spFeed CR CF) := ok_feed F_fee T G_giv b_giv m_giv G_tps b_tps m_tps G_trn b_trn m_trn
  have G_tns : FnOk l.prog w K mg base CX0 1 f_tns _ ["self"] (spTurns CF) := ok_turns F_tns T
  have G_wai : FnOk l.prog w K mg base CX0 1 f_wai _ ["self"] (spWaiting CF) := ok_waiting F_wai T
  have G_pri : FnOk l.prog w K mg base CX0 1 f_pri _ ["self"] (spPrices CF) := ok_prices F_pri T
  have G_tol : FnOk l.prog w K mg base CX0 1 f_tol _ ["self", "state"] (spTold CF) := ok_told F_tol T
  have G_lnu : FnOk l.prog w K mg base CX0 1 f_lnu _ ["_law_script", "_law_many"] (spNumbers K) := ok_numbers F_lnu T
  have G_lta : FnOk l.prog w K mg base CX0 1 f_lta _ ["_law_numbers_here", "_law_at"] spLTaps := ok_ltaps F_lta T
  have G_ltb : FnOk l.prog w K mg base CX0 1 f_ltb _ ["_law_v", "_law_taps_here"] spLTable := ok_ltable F_ltb T
  have G_lru : FnOk l.prog w K mg base CX0 1 f_lru _ ["_law_v", "_law_table_here", "_law_state", "_law_bits"] spLRun := ok_lrun F_lru T
  have G_lco : FnOk l.prog w K mg base CX0 1 f_lco _ ["_law_row", "_law_part"] spDiff := ok_lcost F_lco T
  have G_lbi : FnOk l.prog w K mg base CX0 1 f_lbi _ ["_law_numbers_here", "_law_k"] spLBit := ok_lbit F_lbi T
  have G_lre : FnOk l.prog w K mg base CX0 2 f_lre _ ["_law_numbers_here", "_law_v", "_law_table_here", "_law_many"] spLReceived := ok_lreceived F_lre T G_lbi b_lbi g_lbi k_lbi G_lru b_lru g_lru k_lru
  have G_ltu : FnOk l.prog w K mg base CX0 2 f_ltu _ ["_law_v", "_law_table_here", "_law_paths", "_law_part"] spLTurn := ok_lturn F_ltu T G_lco b_lco g_lco k_lco
  have G_lbe : FnOk l.prog w K mg base CX0 1 f_lbe _ ["_law_paths"] spLBeg := ok_lbeg F_lbe T
  have G_lpr : FnOk l.prog w K mg base CX0 1 f_lpr _ ["_law_paths"] spLPrices := ok_lprices F_lpr T
  exact ok_law (fun_mk (st := sLaw) l_law c_law k_law) T ⟨G_lnu, b_lnu, g_lnu, k_lnu⟩ ⟨G_lta, b_lta, g_lta, k_lta⟩ ⟨G_ltb, b_ltb, g_ltb, k_ltb⟩ ⟨G_lre, b_lre, g_lre, k_lre⟩ ⟨G_ltu, b_ltu, g_ltu, k_ltu⟩ ⟨G_lbe, b_lbe, g_lbe, k_lbe⟩ ⟨G_lpr, b_lpr, g_lpr, k_lpr⟩ ⟨G_mnd, b_mnd, g_mnd, k_mnd⟩ ⟨mkCR, a_rin, i_rin, kcCR⟩ G_rin b_rin ⟨mkCF, a_fin, i_fin, kcCF⟩ G_fin b_fin ⟨G_fee, b_fee, m_fee⟩ ⟨G_giv, b_giv, m_giv⟩ ⟨G_tns, b_tns, m_tns⟩ ⟨G_wai, b_wai, m_wai⟩ ⟨G_pri, b_pri, m_pri⟩ ⟨G_tol, b_tol, m_tol⟩
end Fh

open PySem PySem.W PyProof.Rows in
set_option maxRecDepth 100000 in
set_option maxHeartbeats 0 in
theorem PySem.Challenge.cw_farhaul_k48_whole_given_bits_are_told_holds : PySem.Challenge.rw_farhaul_k48_whole_given_bits_are_told.Holds := by
  w_on; o_law; k_head; (case hw => w_witness2)
  k_fill
  refine L2.walk_of (l := PySem.Challenge.rw_farhaul_k48_whole_given_bits_are_told) (n := 63) (k := 5) (x := "_law_script") (CX := fun _ => L2.CX0) (sp := fun w => Fh.spLaw _) rfl (by decide) rfl ⟨rfl, by decide, by decide⟩ (fun w h Y => PySem.W.kIn_of Y) ?F (fun _ _ a ns hl _ hS => ⟨a, ns, rfl, hS, hl, fun _ => rfl⟩) (fun _ _ _ _ _ h => h)
  case F =>
    intro w mg fa h KX G hmg
    refine' Fh.all_mk KX G hmg ?aCR ?pgCR ?hdCR ?poCR ?saCR ?mkCR ?kcCR ?nCR0 ?nCR1 ?nCR2 ?aCF ?pgCF ?hdCF ?poCF ?saCF ?mkCF ?kcCF ?nCF0 ?nCF1 ?nCF2 ?nCF3 ?z0 ?z1 ?z2 ?z3 ?z4 ?z5 ?z6 ?z7 ?a_odd ?l_odd ?c_odd ?k_odd ?a_chk ?l_chk ?c_chk ?k_chk ?a_rin ?i_rin ?l_rin ?c_rin ?k_rin ?a_mem ?i_mem ?l_mem ?c_mem ?k_mem ?a_tps ?i_tps ?l_tps ?c_tps ?k_tps ?a_nxs ?i_nxs ?l_nxs ?c_nxs ?k_nxs ?a_out ?i_out ?l_out ?c_out ?k_out ?a_sta ?l_sta ?c_sta ?k_sta ?a_alw ?l_alw ?c_alw ?k_alw ?a_dif ?l_dif ?c_dif ?k_dif ?a_cnt ?l_cnt ?c_cnt ?k_cnt ?a_tpr ?l_tpr ?c_tpr ?k_tpr ?a_pap ?l_pap ?c_pap ?k_pap ?a_thr ?l_thr ?c_thr ?k_thr ?a_ckc ?l_ckc ?c_ckc ?k_ckc ?a_mnd ?l_mnd ?c_mnd ?k_mnd ?a_com ?l_com ?c_com ?k_com ?a_fin ?i_fin ?l_fin ?c_fin ?k_fin ?a_trn ?i_trn ?l_trn ?c_trn ?k_trn ?a_fee ?i_fee ?l_fee ?c_fee ?k_fee ?a_giv ?i_giv ?l_giv ?c_giv ?k_giv ?a_tns ?i_tns ?l_tns ?c_tns ?k_tns ?a_wai ?i_wai ?l_wai ?c_wai ?k_wai ?a_pri ?i_pri ?l_pri ?c_pri ?k_pri ?a_tol ?i_tol ?l_tol ?c_tol ?k_tol ?a_lnu ?l_lnu ?c_lnu ?k_lnu ?a_lta ?l_lta ?c_lta ?k_lta ?a_ltb ?l_ltb ?c_ltb ?k_ltb ?a_lru ?l_lru ?c_lru ?k_lru ?a_lco ?l_lco ?c_lco ?k_lco ?a_lbi ?l_lbi ?c_lbi ?k_lbi ?a_lre ?l_lre ?c_lre ?k_lre ?a_ltu ?l_ltu ?c_ltu ?k_ltu ?a_lbe ?l_lbe ?c_lbe ?k_lbe ?a_lpr ?l_lpr ?c_lpr ?k_lpr ?a_law ?l_law ?c_law ?k_law
    (case aCR => k_is)
    (case pgCR => k_is)
    (case hdCR => k_is)
    (case poCR => k_is)
    (case saCR => k_is)
    (case mkCR => k_is)
    (case kcCR => k_is)
    (case nCR0 => k_is)
    (case nCR1 => k_is)
    (case nCR2 => k_is)
    (case aCF => k_is)
    (case pgCF => k_is)
    (case hdCF => k_is)
    (case poCF => k_is)
    (case saCF => k_is)
    (case mkCF => k_is)
    (case kcCF => k_is)
    (case nCF0 => k_is)
    (case nCF1 => k_is)
    (case nCF2 => k_is)
    (case nCF3 => k_is)
    (case z0 => k_is)
    (case z1 => k_is)
    (case z2 => k_is)
    (case z3 => k_is)
    (case z4 => k_is)
    (case z5 => k_is)
    (case z6 => k_is)
    (case z7 => k_is)
    (case a_odd => k_is)
    (case l_odd => k_is)
    (case c_odd => k_is)
    (case k_odd => k_is)
    (case a_chk => k_is)
    (case l_chk => k_is)
    (case c_chk => k_is)
    (case k_chk => k_is)
    (case a_rin => k_is)
    (case i_rin => k_is)
    (case l_rin => k_is)
    (case c_rin => k_is)
    (case k_rin => k_is)
    (case a_mem => k_is)
    (case i_mem => k_is)
    (case l_mem => k_is)
    (case c_mem => k_is)
    (case k_mem => k_is)
    (case a_tps => k_is)
    (case i_tps => k_is)
    (case l_tps => k_is)
    (case c_tps => k_is)
    (case k_tps => k_is)
    (case a_nxs => k_is)
    (case i_nxs => k_is)
    (case l_nxs => k_is)
    (case c_nxs => k_is)
    (case k_nxs => k_is)
    (case a_out => k_is)
    (case i_out => k_is)
    (case l_out => k_is)
    (case c_out => k_is)
    (case k_out => k_is)
    (case a_sta => k_is)
    (case l_sta => k_is)
    (case c_sta => k_is)
    (case k_sta => k_is)
    (case a_alw => k_is)
    (case l_alw => k_is)
    (case c_alw => k_is)
    (case k_alw => k_is)
    (case a_dif => k_is)
    (case l_dif => k_is)
    (case c_dif => k_is)
    (case k_dif => k_is)
    (case a_cnt => k_is)
    (case l_cnt => k_is)
    (case c_cnt => k_is)
    (case k_cnt => k_is)
    (case a_tpr => k_is)
    (case l_tpr => k_is)
    (case c_tpr => k_is)
    (case k_tpr => k_is)
    (case a_pap => k_is)
    (case l_pap => k_is)
    (case c_pap => k_is)
    (case k_pap => k_is)
    (case a_thr => k_is)
    (case l_thr => k_is)
    (case c_thr => k_is)
    (case k_thr => k_is)
    (case a_ckc => k_is)
    (case l_ckc => k_is)
    (case c_ckc => k_is)
    (case k_ckc => k_is)
    (case a_mnd => k_is)
    (case l_mnd => k_is)
    (case c_mnd => k_is)
    (case k_mnd => k_is)
    (case a_com => k_is)
    (case l_com => k_is)
    (case c_com => k_is)
    (case k_com => k_is)
    (case a_fin => k_is)
    (case i_fin => k_is)
    (case l_fin => k_is)
    (case c_fin => k_is)
    (case k_fin => k_is)
    (case a_trn => k_is)
    (case i_trn => k_is)
    (case l_trn => k_is)
    (case c_trn => k_is)
    (case k_trn => k_is)
    (case a_fee => k_is)
    (case i_fee => k_is)
    (case l_fee => k_is)
    (case c_fee => k_is)
    (case k_fee => k_is)
    (case a_giv => k_is)
    (case i_giv => k_is)
    (case l_giv => k_is)
    (case c_giv => k_is)
    (case k_giv => k_is)
    (case a_tns => k_is)
    (case i_tns => k_is)
    (case l_tns => k_is)
    (case c_tns => k_is)
    (case k_tns => k_is)
    (case a_wai => k_is)
    (case i_wai => k_is)
    (case l_wai => k_is)
    (case c_wai => k_is)
    (case k_wai => k_is)
    (case a_pri => k_is)
    (case i_pri => k_is)
    (case l_pri => k_is)
    (case c_pri => k_is)
    (case k_pri => k_is)
    (case a_tol => k_is)
    (case i_tol => k_is)
    (case l_tol => k_is)
    (case c_tol => k_is)
    (case k_tol => k_is)
    (case a_lnu => k_is)
    (case l_lnu => k_is)
    (case c_lnu => k_is)
    (case k_lnu => k_is)
    (case a_lta => k_is)
    (case l_lta => k_is)
    (case c_lta => k_is)
    (case k_lta => k_is)
    (case a_ltb => k_is)
    (case l_ltb => k_is)
    (case c_ltb => k_is)
    (case k_ltb => k_is)
    (case a_lru => k_is)
    (case l_lru => k_is)
    (case c_lru => k_is)
    (case k_lru => k_is)
    (case a_lco => k_is)
    (case l_lco => k_is)
    (case c_lco => k_is)
    (case k_lco => k_is)
    (case a_lbi => k_is)
    (case l_lbi => k_is)
    (case c_lbi => k_is)
    (case k_lbi => k_is)
    (case a_lre => k_is)
    (case l_lre => k_is)
    (case c_lre => k_is)
    (case k_lre => k_is)
    (case a_ltu => k_is)
    (case l_ltu => k_is)
    (case c_ltu => k_is)
    (case k_ltu => k_is)
    (case a_lbe => k_is)
    (case l_lbe => k_is)
    (case c_lbe => k_is)
    (case k_lbe => k_is)
    (case a_lpr => k_is)
    (case l_lpr => k_is)
    (case c_lpr => k_is)
    (case k_lpr => k_is)
    (case a_law => k_is)
    (case l_law => k_is)
    (case c_law => k_is)
    (case k_law => k_is)
