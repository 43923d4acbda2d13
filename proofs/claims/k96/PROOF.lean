import PyProof.Rows.All
import Wide.All
import OpenK.AllK
import Wide.FinOn
import KE.GoesMore
import KE.GoesEnum
import KE.KDictDisplayH
import KE.KEqDict
import HandS.ForMost
import HandS.Walk
import HandS.Zip
import HandS.Star
import HandS.ClsMeth
import HandS.IsInst
import HandS.TupAny
import HandS.Style
import HandS.DictComp
import HandS.TupLen
import HandS.NoneIn
import HandS.OwnEq
import HandS.Defaults
import HandS.Wide
import HandS.Evl
import HandS.Codes
import HandS.HeadNt
import HandS.HeadHook4
import HandS.HeadEnd
import HandS.Head0
import HandS.Head1
import HandS.Head2
import PySem.Challenge.RW_handspaces_k96_whole_chains_of_a_triple
set_option Elab.async false
set_option linter.all false
set_option maxRecDepth 100000
/-! part Ma1 -/
/-! Vectors modulo a prime, as lists of whole numbers. -/
namespace HM

abbrev Vec := List Int

def gz (v : Vec) (i : Nat) : Int := v.getD i 0
def leading : Vec → Nat
  | [] => 0
  | x :: r => if x ≠ 0 then 0 else leading r + 1
def comb (p : Int) (u : Vec) (c : Int) (v : Vec) : Vec := List.zipWith (fun a b => (a + c * b) % p) u v
def zeros (n : Nat) : Vec := List.replicate n 0

/-- a vector of length n, reduced -/
structure IsV (p : Int) (n : Nat) (v : Vec) : Prop where
  len : v.length = n
  rng : ∀ i, i < n → 0 ≤ gz v i ∧ gz v i < p

theorem gz_lt {v : Vec} {i : Nat} (h : i < v.length) : gz v i = v[i] := by
  unfold gz; simp [List.getD_eq_getElem?_getD, h]
theorem gz_ge {v : Vec} {i : Nat} (h : v.length ≤ i) : gz v i = 0 := by
  unfold gz; simp [List.getD_eq_getElem?_getD, h]
theorem gz_zeros (n i : Nat) : gz (zeros n) i = 0 := by
  unfold gz zeros; simp only [List.getD_eq_getElem?_getD, List.getElem?_replicate]; split <;> rfl
theorem ext {n : Nat} {u v : Vec} (hu : u.length = n) (hv : v.length = n) (h : ∀ i, i < n → gz u i = gz v i) : u = v := by
  apply List.ext_getElem (by omega)
  intro i h1 h2
  have := h i (by omega)
  rwa [gz_lt h1, gz_lt h2] at this

section
variable {p : Int} {n : Nat}
theorem comb_len {u v : Vec} {c : Int} (hu : u.length = n) (hv : v.length = n) : (comb p u c v).length = n := by
  unfold comb; simp [hu, hv]
theorem gz_comb {u v : Vec} {c : Int} (hu : u.length = n) (hv : v.length = n) {i : Nat} (h : i < n) : gz (comb p u c v) i = (gz u i + c * gz v i) % p := by
  rw [gz_lt (by rw [comb_len hu hv]; exact h), gz_lt (by omega : i < u.length), gz_lt (by omega : i < v.length)]
  unfold comb; simp
theorem comb_isV (hp : 0 < p) {u v : Vec} {c : Int} (hu : u.length = n) (hv : v.length = n) : IsV p n (comb p u c v) :=
  ⟨comb_len hu hv, fun i h => by rw [gz_comb hu hv h]; exact ⟨Int.emod_nonneg _ (by omega), Int.emod_lt_of_pos _ hp⟩⟩
theorem zeros_isV (hp : 0 < p) : IsV p n (zeros n) := ⟨by simp [zeros], fun i _ => by rw [gz_zeros]; omega⟩

theorem emk (e p : Int) : ∃ k, e % p = e + p * k := ⟨-(e / p), by
  have h := Int.emod_add_mul_ediv e p
  have : p * -(e / p) = -(p * (e / p)) := Int.mul_neg ..
  omega⟩
theorem mk_eq {a b p k : Int} (h : a = b + p * k) : a % p = b % p := by subst h; exact Int.add_mul_emod_self_left ..
theorem small {a p : Int} (h : 0 ≤ a ∧ a < p) : a % p = a := Int.emod_eq_of_lt h.1 h.2

/-- a vector is what its places are -/
theorem IsV.eq {u v : Vec} (hu : IsV p n u) (hv : IsV p n v) (h : ∀ i, i < n → gz u i % p = gz v i % p) : u = v :=
  ext hu.len hv.len fun i hi => by
    have := h i hi
    rwa [small (hu.rng i hi), small (hv.rng i hi)] at this

theorem comb_zero {u v : Vec} (hu : IsV p n u) (hv : v.length = n) : comb p u 0 v = u :=
  ext (comb_len hu.len hv) hu.len fun i hi => by
    rw [gz_comb hu.len hv hi, Int.zero_mul, Int.add_zero, small (hu.rng i hi)]
theorem comb_zeros {u : Vec} {c : Int} (hu : IsV p n u) : comb p u c (zeros n) = u :=
  ext (comb_len hu.len (by simp [zeros])) hu.len fun i hi => by
    rw [gz_comb hu.len (by simp [zeros]) hi, gz_zeros, Int.mul_zero, Int.add_zero, small (hu.rng i hi)]
theorem comb_mod {u v : Vec} {c : Int} (hu : u.length = n) (hv : v.length = n) : comb p u (c % p) v = comb p u c v :=
  ext (comb_len hu hv) (comb_len hu hv) fun i hi => by
    rw [gz_comb hu hv hi, gz_comb hu hv hi]
    obtain ⟨k, hk⟩ := emk c p
    rw [hk]
    exact mk_eq (k := k * gz v i) (by grind)
theorem comb_twice {u v : Vec} {a b : Int} (hu : u.length = n) (hv : v.length = n) : comb p (comb p u a v) b v = comb p u (a + b) v :=
  ext (comb_len (comb_len hu hv) hv) (comb_len hu hv) fun i hi => by
    rw [gz_comb (comb_len hu hv) hv hi, gz_comb hu hv hi, gz_comb hu hv hi]
    obtain ⟨k, hk⟩ := emk (gz u i + a * gz v i) p
    rw [hk]
    exact mk_eq (k := k) (by grind)
theorem comb_comm {u v w : Vec} {a b : Int} (hu : u.length = n) (hv : v.length = n) (hw : w.length = n) : comb p (comb p u a v) b w = comb p (comb p u b w) a v :=
  ext (comb_len (comb_len hu hv) hw) (comb_len (comb_len hu hw) hv) fun i hi => by
    rw [gz_comb (comb_len hu hv) hw hi, gz_comb hu hv hi, gz_comb (comb_len hu hw) hv hi, gz_comb hu hw hi]
    obtain ⟨k, hk⟩ := emk (gz u i + a * gz v i) p
    obtain ⟨l, hl⟩ := emk (gz u i + b * gz w i) p
    rw [hk, hl]
    exact mk_eq (k := k - l) (by grind)
/-- u + a (v + b w) = (u + a v) + a b w -/
theorem comb_assoc {u v w : Vec} {a b : Int} (hu : u.length = n) (hv : v.length = n) (hw : w.length = n) : comb p u a (comb p v b w) = comb p (comb p u a v) (a * b) w :=
  ext (comb_len hu (comb_len hv hw)) (comb_len (comb_len hu hv) hw) fun i hi => by
    rw [gz_comb (comb_len hu hv) hw hi, gz_comb hu hv hi, gz_comb hu (comb_len hv hw) hi, gz_comb hv hw hi]
    obtain ⟨k, hk⟩ := emk (gz u i + a * gz v i) p
    obtain ⟨l, hl⟩ := emk (gz v i + b * gz w i) p
    rw [hk, hl]
    exact mk_eq (k := a * l - k) (by grind)
theorem zeros_comb {u : Vec} (hu : IsV p n u) : comb p (zeros n) 1 u = u :=
  ext (comb_len (by simp [zeros]) hu.len) hu.len fun i hi => by
    rw [gz_comb (by simp [zeros]) hu.len hi, gz_zeros, Int.zero_add, Int.one_mul, small (hu.rng i hi)]
theorem comb_self {u : Vec} (hu : u.length = n) : comb p u (-1) u = zeros n :=
  ext (comb_len hu hu) (by simp [zeros]) fun i hi => by
    rw [gz_comb hu hu hi, gz_zeros]
    have : gz u i + -1 * gz u i = 0 := by omega
    rw [this, Int.zero_emod]
/-- addition commutes -/
theorem comb_one_comm {u v : Vec} (hu : u.length = n) (hv : v.length = n) : comb p u 1 v = comb p v 1 u :=
  ext (comb_len hu hv) (comb_len hv hu) fun i hi => by
    rw [gz_comb hu hv hi, gz_comb hv hu hi, Int.one_mul, Int.one_mul, Int.add_comm]

/-! ### the first place that is not 0 -/
theorem leading_le : ∀ v : Vec, leading v ≤ v.length
  | [] => Nat.le_refl _
  | x :: r => by unfold leading; have := leading_le r; split <;> simp <;> omega
theorem leading_before : ∀ {v : Vec} {i : Nat}, i < leading v → gz v i = 0
  | [], i, h => by simp [leading] at h
  | x :: r, i, h => by
    unfold leading at h
    split at h
    · omega
    · rename_i hx
      cases i with
      | zero => simp at hx; simp [gz, hx]
      | succ i => have := leading_before (v := r) (i := i) (by omega); simpa [gz] using this
theorem leading_at : ∀ {v : Vec}, leading v < v.length → gz v (leading v) ≠ 0
  | [], h => by simp [leading] at h
  | x :: r, h => by
    unfold leading at h ⊢
    split
    · rename_i hx; simpa [gz] using hx
    · rename_i hx
      rw [if_neg hx] at h
      have := leading_at (v := r) (by simp at h; omega)
      simpa [gz] using this
theorem leading_ge : ∀ {v : Vec} {j : Nat}, j ≤ v.length → (∀ i, i < j → gz v i = 0) → j ≤ leading v
  | [], j, h, _ => by simpa [leading] using h
  | x :: r, j, h, hz => by
    unfold leading
    cases j with
    | zero => exact Nat.zero_le _
    | succ j =>
      have h0 := hz 0 (by omega)
      have h0' : x = 0 := by simpa [gz] using h0
      rw [if_neg (by simp [h0'])]
      have := leading_ge (v := r) (j := j) (by simp at h; omega) (fun i hi => by simpa [gz] using hz (i + 1) (by omega))
      omega
theorem leading_eq {v : Vec} {j : Nat} (h : j < v.length) (hz : ∀ i, i < j → gz v i = 0) (hn : gz v j ≠ 0) : leading v = j := by
  have h1 := leading_ge (v := v) (j := j) (by omega) hz
  rcases Nat.lt_or_ge j (leading v) with h2 | h2
  · exact absurd (leading_before h2) hn
  · omega
theorem leading_zeros : leading (zeros n) = n := by
  have h1 : leading (zeros n) ≤ n := by simpa [zeros] using leading_le (zeros n)
  have h2 := leading_ge (v := zeros n) (j := n) (by simp [zeros]) (fun i _ => gz_zeros n i)
  omega
theorem eq_zeros {v : Vec} (hv : v.length = n) (h : leading v = n) : v = zeros n :=
  ext hv (by simp [zeros]) fun i hi => by rw [gz_zeros]; exact leading_before (by omega)

/-! ### inverses -/
def IsP (p : Int) : Prop := p = 2 ∨ p = 3 ∨ p = 5 ∨ p = 7 ∨ p = 11 ∨ p = 13
theorem IsP.pos (h : IsP p) : 0 < p := by unfold IsP at h; omega
theorem IsP.one (h : IsP p) : 1 < p := by unfold IsP at h; omega
/-- as the program finds it -/
def inv (p a : Int) : Int := (((List.range (p - 1).toNat).map fun i : Nat => (1 : Int) + (i : Int)).filter fun b => decide (a * b % p = 1)).headD 0
theorem inv_tab : ∀ q ∈ ([2, 3, 5, 7, 11, 13] : List Nat), ∀ a ∈ List.range 13, 0 < a → a < q →
    ((((List.range (q - 1)).map fun i : Nat => (1 : Int) + (i : Int)).filter fun b => decide ((a : Int) * b % (q : Int) = 1)).headD 0) * (a : Int) % (q : Int) = 1 := by decide +kernel
theorem inv_mul (hp : IsP p) {a : Int} (h0 : 0 < a) (h1 : a < p) : inv p a * a % p = 1 := by
  obtain ⟨x, rfl⟩ : ∃ x : Nat, a = (x : Int) := ⟨a.toNat, by omega⟩
  obtain ⟨q, rfl⟩ : ∃ q : Nat, p = (q : Int) := ⟨p.toNat, by have := hp.pos; omega⟩
  have hq : q ∈ ([2, 3, 5, 7, 11, 13] : List Nat) := by unfold IsP at hp; simp; omega
  have hx : x < 13 := by unfold IsP at hp; omega
  have := inv_tab q hq x (List.mem_range.mpr hx) (by omega) (by omega)
  unfold inv
  have e : ((q : Int) - 1).toNat = q - 1 := by omega
  rw [e]
  exact this
/-- the list that the program makes is not empty -/
theorem inv_some (hp : IsP p) {a : Int} (h0 : 0 < a) (h1 : a < p) : ∃ b r, (((List.range (p - 1).toNat).map fun i : Nat => (1 : Int) + (i : Int)).filter fun b => decide (a * b % p = 1)) = b :: r ∧ inv p a = b := by
  have h := inv_mul hp h0 h1
  cases e : (((List.range (p - 1).toNat).map fun i : Nat => (1 : Int) + (i : Int)).filter fun b => decide (a * b % p = 1)) with
  | nil =>
    unfold inv at h
    rw [e] at h
    simp at h
  | cons b r =>
    refine ⟨b, r, rfl, ?_⟩
    unfold inv
    rw [e]
    rfl
end
end HM
/-! part Ma2 -/
/-! Subspaces by what is in them; their dimension as the number of leading places. -/
namespace HM
open Classical

structure Sub (p : Int) (n : Nat) (S : Vec → Prop) : Prop where
  vec : ∀ v, S v → IsV p n v
  zero : S (zeros n)
  comb : ∀ u c v, S u → S v → S (comb p u c v)

def Piv (S : Vec → Prop) (j : Nat) : Prop := ∃ v, S v ∧ leading v = j
noncomputable def dim (n : Nat) (S : Vec → Prop) : Nat := (List.range n).countP fun j => decide (Piv S j)

/-- S with v: what differs from S by a multiple of v -/
def Add (p : Int) (n : Nat) (S : Vec → Prop) (v : Vec) (t : Vec) : Prop := IsV p n t ∧ ∃ c, S (comb p t c v)
def SumS (p : Int) (U W : Vec → Prop) (t : Vec) : Prop := ∃ u w, U u ∧ W w ∧ t = comb p u 1 w
def Both (U W : Vec → Prop) (t : Vec) : Prop := U t ∧ W t
/-- the span of a list -/
def Span (p : Int) (n : Nat) : List Vec → Vec → Prop
  | [], t => t = zeros n
  | r :: rs, t => Add p n (Span p n rs) r t

theorem countP_le {α : Type} {P Q : α → Bool} : ∀ {l : List α}, (∀ x ∈ l, P x = true → Q x = true) → l.countP P ≤ l.countP Q
  | [], _ => Nat.le_refl _
  | x :: l, h => by
    have ih := countP_le (l := l) fun y hy => h y (List.mem_cons_of_mem _ hy)
    have hx := h x List.mem_cons_self
    rw [List.countP_cons, List.countP_cons]
    cases hP : P x with
    | true => rw [hx hP]; simpa using ih
    | false => split <;> split <;> simp_all <;> omega
theorem countP_back {α : Type} {P Q : α → Bool} : ∀ {l : List α}, (∀ x ∈ l, P x = true → Q x = true) → l.countP Q ≤ l.countP P → ∀ x ∈ l, Q x = true → P x = true
  | [], _, _, x, hx, _ => by cases hx
  | y :: l, h, hl, x, hx, hq => by
    have hy := h y List.mem_cons_self
    have ih0 := countP_le (P := P) (Q := Q) (l := l) fun z hz => h z (List.mem_cons_of_mem _ hz)
    rw [List.countP_cons, List.countP_cons] at hl
    rcases List.mem_cons.mp hx with rfl | hx
    · cases hP : P x with
      | true => rfl
      | false => rw [hP, hq] at hl; simp at hl; omega
    · refine countP_back (l := l) (fun z hz => h z (List.mem_cons_of_mem _ hz)) ?_ x hx hq
      cases hP : P y with
      | true => rw [hP, hy hP] at hl; simp at hl; omega
      | false => rw [hP] at hl; split at hl <;> simp at hl <;> omega
theorem countP_more {P Q : Nat → Bool} {j : Nat} : ∀ {l : List Nat}, l.Nodup → j ∈ l → P j = false → (∀ x ∈ l, Q x = true ↔ (P x = true ∨ x = j)) → l.countP Q = l.countP P + 1
  | [], _, h, _, _ => by cases h
  | x :: l, nd, hj, hP, hQ => by
    rw [List.countP_cons, List.countP_cons]
    have nd' := List.nodup_cons.mp nd
    by_cases e : x = j
    · subst e
      have hq : Q x = true := (hQ x List.mem_cons_self).mpr (.inr rfl)
      have same : l.countP Q = l.countP P := by
        apply Nat.le_antisymm
        · refine countP_le fun y hy h => ?_
          rcases (hQ y (List.mem_cons_of_mem _ hy)).mp h with h | h
          · exact h
          · exact absurd (h ▸ hy) nd'.1
        · exact countP_le fun y hy h => (hQ y (List.mem_cons_of_mem _ hy)).mpr (.inl h)
      rw [hq, hP, same]; simp
    · have hj' : j ∈ l := by rcases List.mem_cons.mp hj with h | h; exact absurd h.symm e; exact h
      have ih := countP_more nd'.2 hj' hP fun y hy => hQ y (List.mem_cons_of_mem _ hy)
      have hx : Q x = P x := by
        have := hQ x List.mem_cons_self
        rw [Bool.eq_iff_iff, this]
        exact ⟨fun h => h.elim id fun h => absurd h e, .inl⟩
      rw [ih, hx]; omega

section
variable {p : Int} {n : Nat} {S T U W : Vec → Prop}

theorem dim_mono (h : ∀ v, S v → T v) : dim n S ≤ dim n T :=
  countP_le fun j _ hj => by
    obtain ⟨v, h1, h2⟩ := of_decide_eq_true hj
    exact decide_eq_true ⟨v, h v h1, h2⟩
theorem dim_congr (h : ∀ v, S v ↔ T v) : dim n S = dim n T :=
  Nat.le_antisymm (dim_mono fun v => (h v).mp) (dim_mono fun v => (h v).mpr)
theorem dim_le : dim n S ≤ n := by
  have := List.countP_le_length (p := fun j => decide (Piv S j)) (l := List.range n)
  simpa [dim] using this

theorem Sub.smul (h : Sub p n S) (hp : 0 < p) {c : Int} {v : Vec} (hv : S v) : S (HM.comb p (zeros n) c v) := h.comb _ c _ h.zero hv

/-- v cleared at the place where s leads -/
theorem clear_at (hp : IsP p) {v s : Vec} (hv : IsV p n v) (hs : IsV p n s) (hj : leading s < n) (h : leading v = leading s) :
    ∃ c, leading s < leading (comb p v c s) := by
  have hs0 : gz s (leading s) ≠ 0 := leading_at (by rw [hs.len]; exact hj)
  have hsr := hs.rng _ hj
  refine ⟨-(gz v (leading s)) * inv p (gz s (leading s)), ?_⟩
  have hl : (comb p v (-(gz v (leading s)) * inv p (gz s (leading s))) s).length = n := comb_len hv.len hs.len
  refine leading_ge (j := leading s + 1) (by omega) fun i hi => ?_
  rw [gz_comb hv.len hs.len (by omega)]
  rcases Nat.lt_or_ge i (leading s) with h1 | h1
  · rw [leading_before h1, leading_before (v := v) (by omega)]; simp
  · have e : i = leading s := by omega
    rw [e]
    have hi := inv_mul hp (a := gz s (leading s)) (by omega) hsr.2
    obtain ⟨k, hk⟩ := emk (inv p (gz s (leading s)) * gz s (leading s)) p
    rw [hk] at hi
    have h2 : gz v (leading s) + -gz v (leading s) * inv p (gz s (leading s)) * gz s (leading s) = 0 + p * (gz v (leading s) * k) := by
      generalize gz s (leading s) = x at *
      generalize inv p x = y at *
      generalize gz v (leading s) = z at *
      grind
    rw [mk_eq h2]; simp

/-- v is taken off again -/
theorem comb_off {v s : Vec} {c : Int} (hv : IsV p n v) (hs : s.length = n) : comb p (comb p v c s) (-c) s = v := by
  rw [comb_twice hv.len hs, Int.add_right_neg, comb_zero hv hs]

/-- equal dimension and one within the other: the same -/
theorem sub_eq (hp : IsP p) (hS : Sub p n S) (hT : Sub p n T) (h : ∀ v, S v → T v) (hd : dim n T ≤ dim n S) : ∀ v, T v → S v := by
  have hpv : ∀ j, j < n → Piv T j → Piv S j := fun j hj hT => by
    have := countP_back (P := fun j => decide (Piv S j)) (Q := fun j => decide (Piv T j)) (l := List.range n)
      (fun x _ hx => by obtain ⟨v, h1, h2⟩ := of_decide_eq_true hx; exact decide_eq_true ⟨v, h v h1, h2⟩) hd j (List.mem_range.mpr hj) (decide_eq_true hT)
    exact of_decide_eq_true this
  have main : ∀ (m : Nat) (v : Vec), n - leading v ≤ m → T v → S v := by
    intro m
    induction m with
    | zero =>
      intro v hm hv
      have hl := (hT.vec v hv).len
      have := leading_le v
      rw [eq_zeros hl (by omega)]
      exact hS.zero
    | succ m ih =>
      intro v hm hv
      have V := hT.vec v hv
      have hle := leading_le v
      rw [V.len] at hle
      by_cases hl : leading v = n
      · rw [eq_zeros V.len hl]; exact hS.zero
      · obtain ⟨s, hs, e⟩ := hpv (leading v) (by omega) ⟨v, hv, rfl⟩
        have hsV := hS.vec s hs
        obtain ⟨c, hc⟩ := clear_at hp V hsV (by omega) e.symm
        have hw := ih (comb p v c s) (by omega) (hT.comb v c s hv (h s hs))
        have := hS.comb _ (-c) _ hw hs
        rwa [comb_off V hsV.len] at this
  intro v hv
  exact main _ v (Nat.le_refl _) hv

/-! ### one vector more -/
theorem add_sub (hp : 0 < p) (hS : Sub p n S) {v : Vec} (hv : IsV p n v) : Sub p n (Add p n S v) where
  vec := fun t h => h.1
  zero := ⟨zeros_isV hp, 0, by rw [comb_zero (zeros_isV hp) hv.len]; exact hS.zero⟩
  comb := fun t a u ⟨ht, c, hc⟩ ⟨hu, d, hd⟩ => ⟨comb_isV hp ht.len hu.len, c + a * d, by
    have h := hS.comb _ a _ hc hd
    rw [comb_assoc (comb_len ht.len hv.len) hu.len hv.len, comb_comm ht.len hv.len hu.len, comb_twice (comb_len ht.len hu.len) hv.len] at h
    exact h⟩
theorem add_in (hS : Sub p n S) {v s : Vec} (hv : IsV p n v) (hs : S s) : Add p n S v s := ⟨hS.vec s hs, 0, by rw [comb_zero (hS.vec s hs) hv.len]; exact hs⟩
theorem add_self (hS : Sub p n S) {v : Vec} (hv : IsV p n v) : Add p n S v v := ⟨hv, -1, by rw [comb_self hv.len]; exact hS.zero⟩
theorem add_of_mem (hS : Sub p n S) {v : Vec} (hv : S v) (t : Vec) : Add p n S v t ↔ S t :=
  ⟨fun ⟨ht, c, hc⟩ => by
    have h := hS.comb _ (-c) _ hc hv
    rwa [comb_off ht (hS.vec v hv).len] at h, fun h => add_in hS (hS.vec v hv) h⟩
/-- an element of the greater space is one of the lesser one and a multiple of v -/
theorem add_iff (hp : 0 < p) (hS : Sub p n S) {v : Vec} (hv : IsV p n v) (t : Vec) : Add p n S v t ↔ ∃ s c, S s ∧ t = comb p s c v :=
  ⟨fun ⟨ht, c, hc⟩ => ⟨_, -c, hc, (comb_off ht hv.len).symm⟩, fun ⟨s, c, hs, e⟩ => by
    subst e
    refine ⟨comb_isV hp (hS.vec s hs).len hv.len, -c, ?_⟩
    rw [comb_off (hS.vec s hs) hv.len]; exact hs⟩
theorem add_least (hp : 0 < p) (hS : Sub p n S) (hT : Sub p n T) {v : Vec} (hv : T v) (h : ∀ s, S s → T s) (t : Vec) (ht : Add p n S v t) : T t := by
  obtain ⟨s, c, hs, rfl⟩ := (add_iff hp hS (hT.vec v hv) t).mp ht
  exact hT.comb _ _ _ (h s hs) hv

/-- v may be moved by an element of S -/
theorem add_shift (hp : 0 < p) (hS : Sub p n S) {v s : Vec} {c : Int} (hv : IsV p n v) (hs : S s) (t : Vec) : Add p n S (comb p v c s) t ↔ Add p n S v t := by
  have A := add_sub hp hS hv
  have hw : IsV p n (comb p v c s) := comb_isV hp hv.len (hS.vec s hs).len
  have B := add_sub hp hS hw
  constructor
  · exact add_least hp hS A (A.comb _ _ _ (add_self hS hv) (add_in hS hv hs)) (fun s h => add_in hS hv h) t
  · refine add_least hp hS B ?_ (fun s h => add_in hS hw h) t
    have := B.comb _ (-c) _ (add_self hS hw) (add_in hS hw hs)
    rwa [comb_off hv (hS.vec s hs).len] at this

/-- v moved so that S leads nowhere where it does -/
theorem add_lead (hp : IsP p) (hS : Sub p n S) : ∀ (m : Nat) (v : Vec), n - leading v ≤ m → IsV p n v → ¬ S v →
    ∃ w, IsV p n w ∧ leading w < n ∧ ¬ Piv S (leading w) ∧ ∀ t, Add p n S w t ↔ Add p n S v t
  | 0, v, hm, hv, hn => by
    have := leading_le v
    rw [hv.len] at this
    exact absurd (eq_zeros hv.len (by omega) ▸ hS.zero) hn
  | m + 1, v, hm, hv, hn => by
    have hle := leading_le v
    rw [hv.len] at hle
    by_cases hl : leading v = n
    · exact absurd (eq_zeros hv.len hl ▸ hS.zero) hn
    · by_cases hP : Piv S (leading v)
      · obtain ⟨s, hs, e⟩ := hP
        obtain ⟨c, hc⟩ := clear_at hp hv (hS.vec s hs) (by omega) e.symm
        have hw : IsV p n (comb p v c s) := comb_isV hp.pos hv.len (hS.vec s hs).len
        obtain ⟨w, h1, h2, h3, h4⟩ := add_lead hp hS m (comb p v c s) (by omega) hw fun h => hn (by
          have := hS.comb _ (-c) _ h hs
          rwa [comb_off hv (hS.vec s hs).len] at this)
        exact ⟨w, h1, h2, h3, fun t => (h4 t).trans (add_shift hp.pos hS hv hs t)⟩
      · exact ⟨v, hv, by omega, hP, fun t => Iff.rfl⟩

theorem dim_add_in (hS : Sub p n S) {v : Vec} (hv : S v) : dim n (Add p n S v) = dim n S := dim_congr (add_of_mem hS hv)
theorem dim_add_out (hp : IsP p) (hS : Sub p n S) {v : Vec} (hv : IsV p n v) (hn : ¬ S v) : dim n (Add p n S v) = dim n S + 1 := by
  obtain ⟨w, hw, hl, hP, hA⟩ := add_lead hp hS _ v (Nat.le_refl _) hv hn
  rw [← dim_congr hA]
  refine countP_more (j := leading w) List.nodup_range (List.mem_range.mpr hl) (decide_eq_false hP) fun i hi => ?_
  have hi := List.mem_range.mp hi
  rw [decide_eq_true_iff, decide_eq_true_iff]
  constructor
  · rintro ⟨t, ht, rfl⟩
    obtain ⟨s, c, hs, rfl⟩ := (add_iff hp.pos hS hw t).mp ht
    have sV := hS.vec s hs
    have hn : (comb p s c w).length = n := comb_len sV.len hw.len
    rcases Nat.lt_trichotomy (leading s) (leading w) with h | h | h
    · left
      refine ⟨s, hs, (leading_eq (by omega) (fun i hi => ?_) ?_).symm⟩
      · rw [gz_comb sV.len hw.len (by omega), leading_before hi, leading_before (v := w) (by omega)]; simp
      · rw [gz_comb sV.len hw.len (by omega), leading_before (v := w) (by omega), Int.mul_zero, Int.add_zero, small (sV.rng _ (by omega))]
        exact leading_at (by rw [sV.len]; omega)
    · exact absurd ⟨s, hs, h⟩ hP
    · by_cases h0 : gz (comb p s c w) (leading w) = 0
      · left
        -- the factor is 0
        have hw0 : gz w (leading w) ≠ 0 := leading_at (by rw [hw.len]; exact hl)
        have hwr := hw.rng _ hl
        have hc : c % p = 0 := by
          rw [gz_comb sV.len hw.len hl, leading_before h, Int.zero_add] at h0
          have hi := inv_mul hp (a := gz w (leading w)) (by omega) hwr.2
          have e : c * gz w (leading w) * inv p (gz w (leading w)) % p = 0 := by
            rw [Int.mul_emod, h0, Int.zero_mul, Int.zero_emod]
          have e2 : c * gz w (leading w) * inv p (gz w (leading w)) = c * (inv p (gz w (leading w)) * gz w (leading w)) := by grind
          rw [e2, Int.mul_emod, hi, Int.mul_one, Int.emod_emod] at e
          exact e
        refine ⟨s, hs, ?_⟩
        rw [← comb_mod sV.len hw.len, hc, comb_zero sV hw.len]
      · right
        refine leading_eq (by omega) (fun i hi => ?_) h0
        rw [gz_comb sV.len hw.len (by omega), leading_before hi, leading_before (v := s) (by omega)]; simp
  · rintro (⟨s, hs, rfl⟩ | rfl)
    · exact ⟨s, add_in hS hw hs, rfl⟩
    · exact ⟨w, add_self hS hw, rfl⟩
theorem dim_add_le (hp : IsP p) (hS : Sub p n S) {v : Vec} (hv : IsV p n v) : dim n (Add p n S v) ≤ dim n S + 1 := by
  by_cases h : S v
  · rw [dim_add_in hS h]; omega
  · rw [dim_add_out hp hS hv h]; omega

/-! ### spans -/
theorem zero_sub (hp : 0 < p) : Sub p n (fun t => t = zeros n) := ⟨fun v h => h ▸ zeros_isV hp, rfl, fun u c v hu hv => by subst hu; subst hv; exact comb_zeros (zeros_isV hp)⟩
theorem dim_zero : dim n (fun t => t = zeros n) = 0 := by
  unfold dim
  rw [List.countP_eq_zero]
  intro j hj h
  obtain ⟨v, rfl, e⟩ := of_decide_eq_true h
  rw [leading_zeros] at e
  have := List.mem_range.mp hj
  omega
theorem span_sub (hp : 0 < p) : ∀ {rs : List Vec}, (∀ r ∈ rs, IsV p n r) → Sub p n (Span p n rs)
  | [], _ => zero_sub hp
  | r :: rs, h => add_sub hp (span_sub hp fun x hx => h x (List.mem_cons_of_mem _ hx)) (h r List.mem_cons_self)
theorem span_mem (hp : 0 < p) : ∀ {rs : List Vec}, (∀ r ∈ rs, IsV p n r) → ∀ r ∈ rs, Span p n rs r
  | [], _, r, hr => by cases hr
  | x :: rs, h, r, hr => by
    have hS := span_sub hp fun x hx => h x (List.mem_cons_of_mem _ hx)
    rcases List.mem_cons.mp hr with rfl | hr
    · exact add_self hS (h r List.mem_cons_self)
    · exact add_in hS (h x List.mem_cons_self) (span_mem hp (fun x hx => h x (List.mem_cons_of_mem _ hx)) r hr)
theorem span_least (hp : 0 < p) (hT : Sub p n T) : ∀ {rs : List Vec}, (∀ r ∈ rs, T r) → ∀ t, Span p n rs t → T t
  | [], _, t, ht => by rw [show t = zeros n from ht]; exact hT.zero
  | r :: rs, h, t, ht =>
    add_least hp (span_sub hp fun x hx => hT.vec x (h x (List.mem_cons_of_mem _ hx))) hT (h r List.mem_cons_self) (span_least hp hT fun x hx => h x (List.mem_cons_of_mem _ hx)) t ht
theorem span_mono (hp : 0 < p) {rs qs : List Vec} (hq : ∀ r ∈ qs, IsV p n r) (h : ∀ r ∈ rs, Span p n qs r) : ∀ t, Span p n rs t → Span p n qs t :=
  span_least hp (span_sub hp hq) h
theorem dim_span_le (hp : IsP p) : ∀ {rs : List Vec}, (∀ r ∈ rs, IsV p n r) → dim n (Span p n rs) ≤ rs.length
  | [], _ => by show dim n (fun t => t = zeros n) ≤ 0; rw [dim_zero]; omega
  | r :: rs, h => by
    have ih := dim_span_le hp (rs := rs) fun x hx => h x (List.mem_cons_of_mem _ hx)
    have := dim_add_le hp (span_sub hp.pos fun x hx => h x (List.mem_cons_of_mem _ hx)) (h r List.mem_cons_self) (S := Span p n rs)
    show dim n (Add p n (Span p n rs) r) ≤ rs.length + 1
    omega

/-! ### sums and intersections -/
theorem both_sub (hU : Sub p n U) (hW : Sub p n W) : Sub p n (Both U W) := ⟨fun v h => hU.vec v h.1, ⟨hU.zero, hW.zero⟩, fun u c v hu hv => ⟨hU.comb _ _ _ hu.1 hv.1, hW.comb _ _ _ hu.2 hv.2⟩⟩
theorem sum_sub (hp : 0 < p) (hU : Sub p n U) (hW : Sub p n W) : Sub p n (SumS p U W) where
  vec := fun t ⟨u, w, hu, hw, e⟩ => e ▸ comb_isV hp (hU.vec u hu).len (hW.vec w hw).len
  zero := ⟨_, _, hU.zero, hW.zero, (comb_zeros (zeros_isV hp)).symm⟩
  comb := fun s c t ⟨u, w, hu, hw, e⟩ ⟨u', w', hu', hw', e'⟩ => ⟨comb p u c u', comb p w c w', hU.comb _ _ _ hu hu', hW.comb _ _ _ hw hw', by
    subst e; subst e'
    have a := (hU.vec u hu).len
    have b := (hW.vec w hw).len
    have a' := (hU.vec u' hu').len
    have b' := (hW.vec w' hw').len
    rw [comb_assoc (comb_len a b) a' b', comb_comm a b a', comb_assoc (comb_len a a') b b', Int.one_mul, Int.mul_one]⟩
theorem sum_left (hU : Sub p n U) (hW : Sub p n W) {u : Vec} (h : U u) : SumS p U W u := ⟨u, _, h, hW.zero, (comb_zeros (hU.vec u h)).symm⟩
theorem sum_right (hU : Sub p n U) (hW : Sub p n W) {w : Vec} (h : W w) : SumS p U W w := ⟨_, w, hU.zero, h, (zeros_comb (hW.vec w h)).symm⟩
theorem sum_least (hT : Sub p n T) (h1 : ∀ u, U u → T u) (h2 : ∀ w, W w → T w) : ∀ t, SumS p U W t → T t := fun t ⟨u, w, hu, hw, e⟩ => e ▸ hT.comb _ _ _ (h1 u hu) (h2 w hw)

/-- dimensions of sum and intersection, for a space that is spanned by a list -/
theorem dim_sum_span (hp : IsP p) (hU : Sub p n U) : ∀ {rs : List Vec}, (∀ r ∈ rs, IsV p n r) →
    dim n (SumS p U (Span p n rs)) + dim n (Both U (Span p n rs)) = dim n U + dim n (Span p n rs)
  | [], _ => by
    have e1 : dim n (SumS p U (Span p n [])) = dim n U := dim_congr fun t => ⟨fun ⟨u, w, hu, hw, e⟩ => by
      rw [show w = zeros n from hw, comb_zeros (hU.vec u hu)] at e
      exact e ▸ hu, fun h => sum_left hU (zero_sub hp.pos) h⟩
    have e2 : dim n (Both U (Span p n [])) = dim n (Span p n []) := dim_congr fun t => ⟨fun h => h.2, fun h => ⟨by rw [show t = zeros n from h]; exact hU.zero, h⟩⟩
    rw [e1, e2]
  | r :: rs, h => by
    have hr := h r List.mem_cons_self
    have h' : ∀ x ∈ rs, IsV p n x := fun x hx => h x (List.mem_cons_of_mem _ hx)
    have hW := span_sub hp.pos h'
    have hW1 := span_sub hp.pos h
    have ih := dim_sum_span hp hU h'
    have hS0 := sum_sub hp.pos hU hW
    have hS1 := sum_sub hp.pos hU hW1
    have hB0 := both_sub hU hW
    have hB1 := both_sub hU hW1
    -- U + W with r more
    have eS : ∀ t, SumS p U (Span p n (r :: rs)) t ↔ Add p n (SumS p U (Span p n rs)) r t := fun t => by
      constructor
      · refine sum_least (add_sub hp.pos hS0 hr) (fun u hu => add_in hS0 hr (sum_left hU hW hu)) (fun w hw => ?_) t
        exact add_least hp.pos hW (add_sub hp.pos hS0 hr) (add_self hS0 hr) (fun s hs => add_in hS0 hr (sum_right hU hW hs)) w hw
      · refine add_least hp.pos hS0 hS1 (sum_right hU hW1 (span_mem hp.pos h r List.mem_cons_self)) (fun s hs => ?_) t
        exact sum_least hS1 (fun u hu => sum_left hU hW1 hu) (fun w hw => sum_right hU hW1 (add_in hW hr hw)) s hs
    by_cases c1 : Span p n rs r
    · have e : ∀ t, Span p n (r :: rs) t ↔ Span p n rs t := add_of_mem hW c1
      have a1 : dim n (SumS p U (Span p n (r :: rs))) = dim n (SumS p U (Span p n rs)) := dim_congr fun t => ⟨fun ⟨u, w, a, b, d⟩ => ⟨u, w, a, (e w).mp b, d⟩, fun ⟨u, w, a, b, d⟩ => ⟨u, w, a, (e w).mpr b, d⟩⟩
      have a2 : dim n (Both U (Span p n (r :: rs))) = dim n (Both U (Span p n rs)) := dim_congr fun t => ⟨fun z => ⟨z.1, (e t).mp z.2⟩, fun z => ⟨z.1, (e t).mpr z.2⟩⟩
      rw [a1, a2, ih, dim_congr e]
    · have dW : dim n (Span p n (r :: rs)) = dim n (Span p n rs) + 1 := dim_add_out hp hW hr c1
      by_cases c2 : SumS p U (Span p n rs) r
      · -- r = u + w: the intersection gains u
        have dS : dim n (SumS p U (Span p n (r :: rs))) = dim n (SumS p U (Span p n rs)) := (dim_congr eS).trans (dim_add_in hS0 c2)
        obtain ⟨u, w, hu, hw, er⟩ := c2
        have uV := hU.vec u hu
        have wV := hW.vec w hw
        have eu : u = comb p r (-1) w := by rw [er, comb_off uV wV.len]
        have uW1 : Span p n (r :: rs) u := by rw [eu]; exact hW1.comb _ _ _ (add_self hW hr) (add_in hW hr hw)
        have un : ¬ Both U (Span p n rs) u := fun z => c1 (by rw [er]; exact hW.comb _ _ _ z.2 hw)
        have eB : ∀ t, Both U (Span p n (r :: rs)) t ↔ Add p n (Both U (Span p n rs)) u t := fun t => by
          constructor
          · rintro ⟨t1, tV, c, hc⟩
            refine ⟨tV, c, hU.comb _ _ _ t1 hu, ?_⟩
            -- t + c u = (t + c r) - c w
            have := hW.comb _ (-c) _ hc hw
            have e2 : comb p (comb p t c r) (-c) w = comb p t c u := by
              rw [eu, comb_assoc tV.len hr.len wV.len, Int.mul_neg, Int.mul_one]
            rwa [e2] at this
          · exact add_least hp.pos hB0 hB1 ⟨hu, uW1⟩ (fun s hs => ⟨hs.1, add_in hW hr hs.2⟩) t
        have dB : dim n (Both U (Span p n (r :: rs))) = dim n (Both U (Span p n rs)) + 1 := (dim_congr eB).trans (dim_add_out hp hB0 uV un)
        omega
      · have dS : dim n (SumS p U (Span p n (r :: rs))) = dim n (SumS p U (Span p n rs)) + 1 := (dim_congr eS).trans (dim_add_out hp hS0 hr c2)
        have dB : dim n (Both U (Span p n (r :: rs))) = dim n (Both U (Span p n rs)) := dim_congr fun t => by
          constructor
          · rintro ⟨t1, tV, c, hc⟩
            by_cases h0 : c % p = 0
            · refine ⟨t1, ?_⟩
              rwa [← comb_mod tV.len hr.len, h0, comb_zero tV hr.len] at hc
            · exfalso
              -- r = inverse of c times ((t + c r) - t)
              apply c2
              have hcr : 0 ≤ c % p ∧ c % p < p := ⟨Int.emod_nonneg _ (by have := hp.pos; omega), Int.emod_lt_of_pos _ hp.pos⟩
              have hi := inv_mul hp (a := c % p) (by omega) hcr.2
              have x1 : SumS p U (Span p n rs) (comb p (zeros n) 1 (comb p t c r)) := hS0.comb _ _ _ hS0.zero (sum_right hU hW hc)
              have x2 := hS0.comb _ (-1) _ (sum_right hU hW hc) (sum_left hU hW t1)
              have x3 := hS0.comb _ (inv p (c % p)) _ hS0.zero x2
              have er : comb p (zeros n) (inv p (c % p)) (comb p (comb p t c r) (-1) t) = r := by
                refine IsV.eq (comb_isV hp.pos (by simp [zeros]) (comb_len (comb_len tV.len hr.len) tV.len)) hr fun i hi2 => ?_
                rw [gz_comb (by simp [zeros]) (comb_len (comb_len tV.len hr.len) tV.len) hi2, gz_comb (comb_len tV.len hr.len) tV.len hi2, gz_comb tV.len hr.len hi2, gz_zeros]
                obtain ⟨k1, e1⟩ := emk (gz t i + c * gz r i) p
                rw [e1]
                obtain ⟨k2, e2⟩ := emk (gz t i + c * gz r i + p * k1 + -1 * gz t i) p
                rw [e2]
                obtain ⟨k3, e3⟩ := emk c p
                rw [e3] at hi ⊢
                obtain ⟨k4, e4⟩ := emk (inv p (c + p * k3) * (c + p * k3)) p
                rw [e4] at hi
                obtain ⟨k5, e5⟩ := emk (0 + inv p (c + p * k3) * (gz t i + c * gz r i + p * k1 + -1 * gz t i + p * k2)) p
                rw [e5]
                generalize inv p (c + p * k3) = y at *
                generalize gz t i = a at *
                generalize gz r i = b at *
                refine mk_eq (k := y * k1 + y * k2 + k5 - y * k3 * b - k4 * b) ?_
                grind
              rwa [er] at x3
          · exact fun z => ⟨z.1, add_in hW hr z.2⟩
        omega
end
end HM
/-! part Ma3 -/
/-! Reduced bases: clearing, echelon form, uniqueness. -/
namespace HM
open Classical

def reduce (p : Int) : List Vec → Vec → Vec
  | [], v => v
  | r :: rs, v => reduce p rs (comb p v (-(gz v (leading r))) r)
def scaled (p : Int) (v : Vec) : Vec := v.map fun x => inv p (gz v (leading v)) * x % p
def cleared (p : Int) (l : Nat) (r : Vec) (found : List Vec) : List Vec := found.map fun o => comb p o (-(gz o l)) r
def ech1 (p : Int) (found : List Vec) (row : Vec) : List Vec :=
  if leading (reduce p found row) < (reduce p found row).length then
    let l := leading (reduce p found row)
    let r := scaled p (reduce p found row)
    (cleared p l r found).filter (fun o => decide (leading o < l)) ++ r :: (cleared p l r found).filter (fun o => decide (l < leading o))
  else found
def echelon (p : Int) (rows : List Vec) : List Vec := rows.foldl (ech1 p) []

/-- a reduced basis -/
structure Red (p : Int) (n : Nat) (rows : List Vec) : Prop where
  vec : ∀ r ∈ rows, IsV p n r
  lead : ∀ r ∈ rows, leading r < n ∧ gz r (leading r) = 1
  sorted : rows.Pairwise fun a b => leading a < leading b
  clear : ∀ r ∈ rows, ∀ q ∈ rows, leading r ≠ leading q → gz r (leading q) = 0

section
variable {p : Int} {n : Nat} {T : Vec → Prop}

theorem Red.nil : Red p n [] := ⟨fun _ h => (by cases h), fun _ h => (by cases h), List.Pairwise.nil, fun _ h => (by cases h)⟩
theorem Red.tail {r : Vec} {rs : List Vec} (h : Red p n (r :: rs)) : Red p n rs :=
  ⟨fun x hx => h.vec x (List.mem_cons_of_mem _ hx), fun x hx => h.lead x (List.mem_cons_of_mem _ hx), (List.pairwise_cons.mp h.sorted).2, fun x hx y hy => h.clear x (List.mem_cons_of_mem _ hx) y (List.mem_cons_of_mem _ hy)⟩

theorem reduce_isV (hp : 0 < p) : ∀ {rs : List Vec} {v : Vec}, (∀ r ∈ rs, IsV p n r) → IsV p n v → IsV p n (reduce p rs v)
  | [], _, _, hv => hv
  | r :: rs, v, h, hv => by
    show IsV p n (reduce p rs _)
    exact reduce_isV hp (fun x hx => h x (List.mem_cons_of_mem _ hx)) (comb_isV hp hv.len (h r List.mem_cons_self).len)
/-- what a subspace with the rows says of a vector it says of its rest -/
theorem reduce_iff (hp : 0 < p) (hT : Sub p n T) : ∀ {rs : List Vec} {v : Vec}, (∀ r ∈ rs, T r) → IsV p n v → (T (reduce p rs v) ↔ T v)
  | [], _, _, _ => Iff.rfl
  | r :: rs, v, h, hv => by
    have hr := h r List.mem_cons_self
    have rV := hT.vec r hr
    refine (reduce_iff hp hT (fun x hx => h x (List.mem_cons_of_mem _ hx)) (comb_isV hp hv.len rV.len)).trans ⟨fun q => ?_, fun q => hT.comb _ _ _ q hr⟩
    have := hT.comb _ (-(-(gz v (leading r)))) _ q hr
    rwa [comb_off hv rV.len] at this
theorem reduce_comb (hp : 0 < p) {c : Int} : ∀ {rs : List Vec} {u v : Vec}, (∀ r ∈ rs, IsV p n r ∧ leading r < n) → IsV p n u → IsV p n v → reduce p rs (comb p u c v) = comb p (reduce p rs u) c (reduce p rs v)
  | [], _, _, _, _, _ => rfl
  | r :: rs, u, v, h, hu, hv => by
    obtain ⟨rV, rl⟩ := h r List.mem_cons_self
    show reduce p rs _ = comb p (reduce p rs _) c (reduce p rs _)
    rw [← reduce_comb hp (fun x hx => h x (List.mem_cons_of_mem _ hx)) (comb_isV hp hu.len rV.len) (comb_isV hp hv.len rV.len)]
    congr 1
    rw [comb_assoc (comb_len hu.len rV.len) hv.len rV.len, comb_comm hu.len rV.len hv.len, comb_twice (comb_len hu.len hv.len) rV.len, gz_comb hu.len hv.len rl,
      ← comb_mod (comb_len hu.len hv.len) rV.len, ← comb_mod (c := -(gz u (leading r)) + _) (comb_len hu.len hv.len) rV.len]
    congr 1
    obtain ⟨k, hk⟩ := emk (gz u (leading r) + c * gz v (leading r)) p
    rw [hk]
    exact mk_eq (k := -k) (by grind)
theorem reduce_zeros : ∀ {rs : List Vec}, (∀ r ∈ rs, IsV p n r) → 0 < p → reduce p rs (zeros n) = zeros n
  | [], _, _ => rfl
  | r :: rs, h, hp => by
    show reduce p rs (comb p (zeros n) (-(gz (zeros n) (leading r))) r) = _
    rw [gz_zeros, Int.neg_zero, comb_zero (zeros_isV hp) (h r List.mem_cons_self).len]
    exact reduce_zeros (fun x hx => h x (List.mem_cons_of_mem _ hx)) hp
/-- where no row has anything the rest has what the vector has -/
theorem reduce_at (hp : 0 < p) {j : Nat} (hj : j < n) : ∀ {rs : List Vec} {v : Vec}, (∀ r ∈ rs, IsV p n r ∧ gz r j = 0) → IsV p n v → gz (reduce p rs v) j = gz v j
  | [], _, _, _ => rfl
  | r :: rs, v, h, hv => by
    obtain ⟨rV, r0⟩ := h r List.mem_cons_self
    show gz (reduce p rs _) j = _
    rw [reduce_at hp hj (fun x hx => h x (List.mem_cons_of_mem _ hx)) (comb_isV hp hv.len rV.len), gz_comb hv.len rV.len hj, r0, Int.mul_zero, Int.add_zero, small (hv.rng j hj)]
theorem Red.rest_at (hp : 0 < p) : ∀ {rs : List Vec}, Red p n rs → ∀ {v : Vec}, IsV p n v → ∀ q ∈ rs, gz (reduce p rs v) (leading q) = 0
  | [], _, _, _, q, hq => by cases hq
  | r :: rs, h, v, hv, q, hq => by
    have rV := h.vec r List.mem_cons_self
    rcases List.mem_cons.mp hq with rfl | hq
    · show gz (reduce p rs (comb p v (-(gz v (leading q))) q)) (leading q) = 0
      obtain ⟨l1, l2⟩ := h.lead q List.mem_cons_self
      rw [reduce_at hp l1 (fun x hx => ⟨h.vec x (List.mem_cons_of_mem _ hx), h.clear x (List.mem_cons_of_mem _ hx) q List.mem_cons_self (by
        have := (List.pairwise_cons.mp h.sorted).1 x hx
        omega)⟩) (comb_isV hp hv.len rV.len), gz_comb hv.len rV.len l1, l2]
      have : gz v (leading q) + -gz v (leading q) * 1 = 0 := by omega
      rw [this, Int.zero_emod]
    · exact h.tail.rest_at hp (comb_isV hp hv.len rV.len) q hq
theorem Red.row_zero (hp : 0 < p) : ∀ {rs : List Vec}, Red p n rs → ∀ r ∈ rs, reduce p rs r = zeros n
  | [], _, r, hr => by cases hr
  | q :: rs, h, r, hr => by
    have qV := h.vec q List.mem_cons_self
    rcases List.mem_cons.mp hr with rfl | hr
    · show reduce p rs (comb p r (-(gz r (leading r))) r) = _
      rw [(h.lead r List.mem_cons_self).2, comb_self qV.len]
      exact reduce_zeros h.tail.vec hp
    · show reduce p rs (comb p r (-(gz r (leading q))) q) = _
      have := (List.pairwise_cons.mp h.sorted).1 r hr
      rw [h.clear r (List.mem_cons_of_mem _ hr) q List.mem_cons_self (by omega), Int.neg_zero, comb_zero (h.vec r (List.mem_cons_of_mem _ hr)) qV.len]
      exact h.tail.row_zero hp r hr
theorem Red.sub (hp : 0 < p) {rs : List Vec} (h : Red p n rs) : Sub p n (Span p n rs) := span_sub hp h.vec
theorem Red.mem (hp : 0 < p) {rs : List Vec} (h : Red p n rs) : ∀ r ∈ rs, Span p n rs r := span_mem hp h.vec
/-- in the span: nothing is left -/
theorem Red.iff (hp : 0 < p) {rs : List Vec} (h : Red p n rs) {v : Vec} (hv : IsV p n v) : Span p n rs v ↔ reduce p rs v = zeros n := by
  constructor
  · intro hs
    have hK : Sub p n fun v => IsV p n v ∧ reduce p rs v = zeros n := ⟨fun v z => z.1, ⟨zeros_isV hp, reduce_zeros h.vec hp⟩, fun u c v ⟨u1, u2⟩ ⟨v1, v2⟩ =>
      ⟨comb_isV hp u1.len v1.len, by rw [reduce_comb hp (fun r hr => ⟨h.vec r hr, (h.lead r hr).1⟩) u1 v1, u2, v2, comb_zeros (zeros_isV hp)]⟩⟩
    exact (span_least hp hK (fun r hr => ⟨h.vec r hr, h.row_zero hp r hr⟩) v hs).2
  · intro e
    refine (reduce_iff hp (h.sub hp) (h.mem hp) hv).mp ?_
    rw [e]
    exact (h.sub hp).zero
theorem Red.iff_lead (hp : 0 < p) {rs : List Vec} (h : Red p n rs) {v : Vec} (hv : IsV p n v) : Span p n rs v ↔ leading (reduce p rs v) = n := by
  rw [h.iff hp hv]
  exact ⟨fun e => by rw [e, leading_zeros], fun e => eq_zeros (reduce_isV hp h.vec hv).len e⟩

/-! ### one row more -/
theorem scaled_eq (_hp : 0 < p) {v : Vec} (hv : IsV p n v) : scaled p v = comb p (zeros n) (inv p (gz v (leading v))) v := by
  refine ext (n := n) (by simp [scaled, hv.len]) (comb_len (by simp [zeros]) hv.len) fun i hi => ?_
  rw [gz_comb (by simp [zeros]) hv.len hi, gz_zeros, Int.zero_add]
  unfold scaled
  rw [gz_lt (i := i) (by simp [hv.len]; exact hi), List.getElem_map, gz_lt (v := v) (i := i) (by rw [hv.len]; exact hi)]
theorem scaled_isV (hp : 0 < p) {v : Vec} (hv : IsV p n v) : IsV p n (scaled p v) := by
  rw [scaled_eq hp hv]; exact comb_isV hp (by simp [zeros]) hv.len
theorem scaled_at (hp : 0 < p) {v : Vec} (hv : IsV p n v) {i : Nat} (hi : i < n) : gz (scaled p v) i = inv p (gz v (leading v)) * gz v i % p := by
  rw [scaled_eq hp hv, gz_comb (by simp [zeros]) hv.len hi, gz_zeros, Int.zero_add]
theorem scaled_lead (hp : IsP p) {v : Vec} (hv : IsV p n v) (hl : leading v < n) : leading (scaled p v) = leading v ∧ gz (scaled p v) (leading v) = 1 := by
  have h0 : gz v (leading v) ≠ 0 := leading_at (by rw [hv.len]; exact hl)
  have hr := hv.rng _ hl
  have e1 : gz (scaled p v) (leading v) = 1 := by rw [scaled_at hp.pos hv hl, inv_mul hp (by omega) hr.2]
  refine ⟨leading_eq (by rw [(scaled_isV hp.pos hv).len]; exact hl) (fun i hi => ?_) (by rw [e1]; decide), e1⟩
  rw [scaled_at hp.pos hv (by omega), leading_before hi, Int.mul_zero, Int.zero_emod]
/-- the vector from the scaled one -/
theorem scaled_back (hp : IsP p) {v : Vec} (hv : IsV p n v) (hl : leading v < n) : v = comb p (zeros n) (gz v (leading v)) (scaled p v) := by
  have h0 : gz v (leading v) ≠ 0 := leading_at (by rw [hv.len]; exact hl)
  have hr := hv.rng _ hl
  have hi := inv_mul hp (a := gz v (leading v)) (by omega) hr.2
  refine IsV.eq hv (comb_isV hp.pos (by simp [zeros]) (scaled_isV hp.pos hv).len) fun i hi2 => ?_
  rw [gz_comb (by simp [zeros]) (scaled_isV hp.pos hv).len hi2, gz_zeros, Int.zero_add, scaled_at hp.pos hv hi2]
  obtain ⟨k1, e1⟩ := emk (inv p (gz v (leading v)) * gz v (leading v)) p
  obtain ⟨k2, e2⟩ := emk (inv p (gz v (leading v)) * gz v i) p
  rw [e2]
  rw [e1] at hi
  obtain ⟨k3, e3⟩ := emk (gz v (leading v) * (inv p (gz v (leading v)) * gz v i + p * k2)) p
  rw [e3]
  generalize inv p (gz v (leading v)) = y at *
  generalize gz v (leading v) = a at *
  generalize gz v i = b at *
  refine mk_eq (k := b * k1 - a * k2 - k3) ?_
  grind

theorem ech1_out {found : List Vec} {row : Vec} (hp : 0 < p) (h : Red p n found) (hr : IsV p n row) (hs : Span p n found row) : ech1 p found row = found := by
  unfold ech1
  rw [if_neg]
  rw [(h.iff hp hr).mp hs, leading_zeros]
  simp [zeros]

structure Ech1 (p : Int) (n : Nat) (found new : List Vec) (row : Vec) : Prop where
  red : Red p n new
  span : ∀ t, Span p n new t ↔ Add p n (Span p n found) row t

theorem ech1_in {found : List Vec} {row : Vec} (hp : IsP p) (h : Red p n found) (hr : IsV p n row) (hs : ¬ Span p n found row) : Ech1 p n found (ech1 p found row) row := by
  have restV := reduce_isV hp.pos h.vec hr
  have hl : leading (reduce p found row) < n := by
    have h1 := leading_le (reduce p found row)
    rw [restV.len] at h1
    rcases Nat.lt_or_ge (leading (reduce p found row)) n with h2 | h2
    · exact h2
    · exact absurd ((h.iff_lead hp.pos hr).mpr (by omega)) hs
  have e : ech1 p found row = (cleared p (leading (reduce p found row)) (scaled p (reduce p found row)) found).filter (fun o => decide (leading o < leading (reduce p found row))) ++
      scaled p (reduce p found row) :: (cleared p (leading (reduce p found row)) (scaled p (reduce p found row)) found).filter (fun o => decide (leading (reduce p found row) < leading o)) := by
    unfold ech1
    rw [if_pos (by rw [restV.len]; exact hl)]
  rw [e]
  have hz : ∀ q ∈ found, gz (reduce p found row) (leading q) = 0 := h.rest_at hp.pos hr
  have hit : ∀ t, Span p n found t → IsV p n t := (h.sub hp.pos).vec
  -- the rest lies in the greater space, and row in whatever has the rest and found
  have A := add_sub hp.pos (h.sub hp.pos) hr
  have restA : Add p n (Span p n found) row (reduce p found row) :=
    (reduce_iff hp.pos A (fun r q => add_in (h.sub hp.pos) hr (h.mem hp.pos r q)) hr).mpr (add_self (h.sub hp.pos) hr)
  have rowOf : ∀ T, Sub p n T → (∀ q ∈ found, T q) → T (reduce p found row) → T row := fun T hT hf q => (reduce_iff hp.pos hT hf hr).mp q
  generalize reduce p found row = rest at *
  have sV := scaled_isV hp.pos restV
  obtain ⟨sl, s1⟩ := scaled_lead hp restV hl
  have sz : ∀ i, i < leading rest → gz (scaled p rest) i = 0 := fun i hi => leading_before (by rw [sl]; exact hi)
  have sq : ∀ q ∈ found, gz (scaled p rest) (leading q) = 0 := fun q hq => by rw [scaled_at hp.pos restV (h.lead q hq).1, hz q hq, Int.mul_zero, Int.zero_emod]
  have lne : ∀ q ∈ found, leading q ≠ leading rest := fun q hq c => by
    have := hz q hq
    rw [c] at this
    exact leading_at (by rw [restV.len]; exact hl) this
  -- a cleared row
  have cV : ∀ o ∈ found, IsV p n (comb p o (-(gz o (leading rest))) (scaled p rest)) := fun o ho => comb_isV hp.pos (h.vec o ho).len sV.len
  have cat : ∀ o ∈ found, ∀ i, i < n → gz (comb p o (-(gz o (leading rest))) (scaled p rest)) i = (gz o i + -(gz o (leading rest)) * gz (scaled p rest) i) % p := fun o ho i hi => gz_comb (h.vec o ho).len sV.len hi
  have clead : ∀ o ∈ found, leading (comb p o (-(gz o (leading rest))) (scaled p rest)) = leading o := fun o ho => by
    obtain ⟨l1, l2⟩ := h.lead o ho
    rcases Nat.lt_or_gt_of_ne (lne o ho) with c | c
    · refine leading_eq (by rw [(cV o ho).len]; exact l1) (fun i hi => ?_) ?_
      · rw [cat o ho i (by omega), leading_before hi, sz i (by omega), Int.mul_zero]; simp
      · rw [cat o ho _ l1, l2, sq o ho, Int.mul_zero, Int.add_zero, Int.emod_eq_of_lt (by decide) hp.one]; decide
    · rw [leading_before c, Int.neg_zero, comb_zero (h.vec o ho) sV.len]
  have cone : ∀ o ∈ found, gz (comb p o (-(gz o (leading rest))) (scaled p rest)) (leading o) = 1 := fun o ho => by
    obtain ⟨l1, l2⟩ := h.lead o ho
    rw [cat o ho _ l1, l2, sq o ho, Int.mul_zero, Int.add_zero, Int.emod_eq_of_lt (by decide) hp.one]
  have memC : ∀ x, x ∈ cleared p (leading rest) (scaled p rest) found ↔ ∃ o ∈ found, x = comb p o (-(gz o (leading rest))) (scaled p rest) := fun x => by
    unfold cleared
    rw [List.mem_map]
    exact ⟨fun ⟨o, a, b⟩ => ⟨o, a, b.symm⟩, fun ⟨o, a, b⟩ => ⟨o, a, b.symm⟩⟩
  have sortedC : (cleared p (leading rest) (scaled p rest) found).Pairwise fun a b => leading a < leading b := by
    unfold cleared
    rw [List.pairwise_map]
    refine List.Pairwise.imp_of_mem (fun {a b} ha hb hab => ?_) h.sorted
    rw [clead a ha, clead b hb]
    exact hab
  have memN : ∀ x, x ∈ (cleared p (leading rest) (scaled p rest) found).filter (fun o => decide (leading o < leading rest)) ++ scaled p rest :: (cleared p (leading rest) (scaled p rest) found).filter (fun o => decide (leading rest < leading o)) ↔
      x = scaled p rest ∨ ∃ o ∈ found, x = comb p o (-(gz o (leading rest))) (scaled p rest) := fun x => by
    rw [List.mem_append, List.mem_cons, List.mem_filter, List.mem_filter, memC]
    constructor
    · rintro (⟨a, _⟩ | a | ⟨a, _⟩)
      · exact .inr a
      · exact .inl a
      · exact .inr a
    · rintro (a | ⟨o, ho, a⟩)
      · exact .inr (.inl a)
      · have hx : leading x = leading o := by rw [a, clead o ho]
        rcases Nat.lt_or_gt_of_ne (lne o ho) with c | c
        · exact .inl ⟨⟨o, ho, a⟩, decide_eq_true (by omega)⟩
        · exact .inr (.inr ⟨⟨o, ho, a⟩, decide_eq_true (by omega)⟩)
  generalize hN : (cleared p (leading rest) (scaled p rest) found).filter (fun o => decide (leading o < leading rest)) ++ scaled p rest :: (cleared p (leading rest) (scaled p rest) found).filter (fun o => decide (leading rest < leading o)) = new at *
  have red : Red p n new := by
    refine ⟨fun x hx => ?_, fun x hx => ?_, ?_, fun x hx y hy hne => ?_⟩
    · rcases (memN x).mp hx with rfl | ⟨o, ho, rfl⟩
      · exact sV
      · exact cV o ho
    · rcases (memN x).mp hx with rfl | ⟨o, ho, rfl⟩
      · rw [sl]; exact ⟨hl, s1⟩
      · rw [clead o ho]; exact ⟨(h.lead o ho).1, cone o ho⟩
    · rw [← hN, List.pairwise_append]
      refine ⟨sortedC.filter _, List.pairwise_cons.mpr ⟨fun x hx => ?_, sortedC.filter _⟩, fun x hx y hy => ?_⟩
      · rw [sl]; exact of_decide_eq_true (List.mem_filter.mp hx).2
      · have h1 : leading x < leading rest := of_decide_eq_true (List.mem_filter.mp hx).2
        rcases List.mem_cons.mp hy with rfl | hy
        · rw [sl]; exact h1
        · have h2 : leading rest < leading y := of_decide_eq_true (List.mem_filter.mp hy).2
          omega
    · rcases (memN x).mp hx with rfl | ⟨o, ho, rfl⟩
      · rcases (memN y).mp hy with rfl | ⟨q, hq, rfl⟩
        · exact absurd rfl hne
        · rw [clead q hq]; exact sq q hq
      · rcases (memN y).mp hy with rfl | ⟨q, hq, rfl⟩
        · rw [sl, cat o ho _ hl, s1]
          have : gz o (leading rest) + -gz o (leading rest) * 1 = 0 := by omega
          rw [this, Int.zero_emod]
        · rw [clead o ho, clead q hq] at hne
          rw [clead q hq, cat o ho _ (h.lead q hq).1, h.clear o ho q hq hne, sq q hq, Int.mul_zero]
          simp
  refine ⟨red, fun t => ⟨?_, ?_⟩⟩
  · refine span_least hp.pos A (fun x hx => ?_) t
    have hsA : Add p n (Span p n found) row (scaled p rest) := by rw [scaled_eq hp.pos restV]; exact A.comb _ _ _ A.zero restA
    rcases (memN x).mp hx with rfl | ⟨o, ho, rfl⟩
    · exact hsA
    · exact A.comb _ _ _ (add_in (h.sub hp.pos) hr (h.mem hp.pos o ho)) hsA
  · have N := red.sub hp.pos
    have sN : Span p n new (scaled p rest) := red.mem hp.pos _ ((memN _).mpr (.inl rfl))
    have fN : ∀ q ∈ found, Span p n new q := fun q hq => by
      have := N.comb _ (-(-(gz q (leading rest)))) _ (red.mem hp.pos _ ((memN _).mpr (.inr ⟨q, hq, rfl⟩))) sN
      rwa [comb_off (h.vec q hq) sV.len] at this
    refine add_least hp.pos (h.sub hp.pos) N (rowOf _ N fN ?_) (span_least hp.pos N fN) t
    rw [scaled_back hp restV hl]
    exact N.comb _ _ _ N.zero sN

theorem ech1_ok {found : List Vec} {row : Vec} (hp : IsP p) (h : Red p n found) (hr : IsV p n row) : Ech1 p n found (ech1 p found row) row := by
  by_cases hs : Span p n found row
  · rw [ech1_out hp.pos h hr hs]
    exact ⟨h, fun t => (add_of_mem (h.sub hp.pos) hs t).symm⟩
  · exact ech1_in hp h hr hs
theorem foldl_ok (hp : IsP p) : ∀ {rows found : List Vec}, Red p n found → (∀ r ∈ rows, IsV p n r) → Red p n (rows.foldl (ech1 p) found) ∧
    ∀ T, Sub p n T → ((∀ t, Span p n (rows.foldl (ech1 p) found) t → T t) ↔ (∀ t, Span p n found t → T t) ∧ ∀ r ∈ rows, T r)
  | [], found, h, _ => ⟨h, fun T _ => ⟨fun q => ⟨q, fun r hr => by cases hr⟩, fun q => q.1⟩⟩
  | r :: rows, found, h, hr => by
    have E := ech1_ok hp h (hr r List.mem_cons_self)
    obtain ⟨h1, h2⟩ := foldl_ok hp (rows := rows) E.red fun x hx => hr x (List.mem_cons_of_mem _ hx)
    refine ⟨h1, fun T hT => (h2 T hT).trans ⟨fun ⟨a, b⟩ => ⟨fun t ht => a t ((E.span t).mpr (add_in (h.sub hp.pos) (hr r List.mem_cons_self) ht)), fun x hx => ?_⟩, fun ⟨a, b⟩ => ⟨fun t ht => ?_, fun x hx => b x (List.mem_cons_of_mem _ hx)⟩⟩⟩
    · rcases List.mem_cons.mp hx with rfl | hx
      · exact a x ((E.span x).mpr (add_self (h.sub hp.pos) (hr x List.mem_cons_self)))
      · exact b x hx
    · exact add_least hp.pos (h.sub hp.pos) hT (b r List.mem_cons_self) a t ((E.span t).mp ht)
theorem echelon_red (hp : IsP p) {rows : List Vec} (h : ∀ r ∈ rows, IsV p n r) : Red p n (echelon p rows) := (foldl_ok hp Red.nil h).1
theorem echelon_span (hp : IsP p) {rows : List Vec} (h : ∀ r ∈ rows, IsV p n r) (t : Vec) : Span p n (echelon p rows) t ↔ Span p n rows t := by
  have R := echelon_red hp h
  have F := (foldl_ok hp (Red.nil (p := p) (n := n)) h).2
  constructor
  · exact (F _ (span_sub hp.pos h)).mpr ⟨fun t ht => by rw [show t = zeros n from ht]; exact (span_sub hp.pos h).zero, span_mem hp.pos h⟩ t
  · exact span_least hp.pos (R.sub hp.pos) ((F _ (R.sub hp.pos)).mp fun t ht => ht).2 t

/-! ### dimension of a reduced basis, uniqueness -/
theorem span_at (hp : 0 < p) {j : Nat} (hj : j < n) {rs : List Vec} (h : ∀ r ∈ rs, IsV p n r) (hz : ∀ r ∈ rs, gz r j = 0) : ∀ t, Span p n rs t → gz t j = 0 := fun t ht => by
  have hK : Sub p n fun v => IsV p n v ∧ gz v j = 0 := ⟨fun v z => z.1, ⟨zeros_isV hp, gz_zeros n j⟩, fun u c v ⟨u1, u2⟩ ⟨v1, v2⟩ =>
    ⟨comb_isV hp u1.len v1.len, by rw [gz_comb u1.len v1.len hj, u2, v2, Int.mul_zero]; simp⟩⟩
  exact (span_least hp hK (fun r hr => ⟨h r hr, hz r hr⟩) t ht).2
theorem Red.dim (hp : IsP p) : ∀ {rs : List Vec}, Red p n rs → dim n (Span p n rs) = rs.length
  | [], _ => dim_zero
  | r :: rs, h => by
    show HM.dim n (Add p n (Span p n rs) r) = _
    obtain ⟨l1, l2⟩ := h.lead r List.mem_cons_self
    rw [dim_add_out hp (h.tail.sub hp.pos) (h.vec r List.mem_cons_self), h.tail.dim hp]
    · rfl
    · intro hs
      have := span_at hp.pos l1 h.tail.vec (fun q hq => h.clear q (List.mem_cons_of_mem _ hq) r List.mem_cons_self (by
        have := (List.pairwise_cons.mp h.sorted).1 q hq
        omega)) r hs
      omega
/-- what is in the span leads where a row does -/
theorem Red.leads (hp : IsP p) : ∀ {rs : List Vec}, Red p n rs → ∀ v, Span p n rs v → leading v < n → ∃ r ∈ rs, leading r = leading v
  | [], _, v, hv, hl => by
    rw [show v = zeros n from hv, leading_zeros] at hl
    omega
  | q :: rs, h, v, hv, hl => by
    have qV := h.vec q List.mem_cons_self
    obtain ⟨s, c, hs, rfl⟩ := (add_iff hp.pos (h.tail.sub hp.pos) qV v).mp hv
    have sV := (h.tail.sub hp.pos).vec s hs
    obtain ⟨l1, l2⟩ := h.lead q List.mem_cons_self
    have sz : ∀ i, i ≤ leading q → gz s i = 0 := fun i hi => span_at hp.pos (by omega) h.tail.vec (fun r hr => leading_before (by
      have := (List.pairwise_cons.mp h.sorted).1 r hr
      omega)) s hs
    by_cases hc : c % p = 0
    · rw [← comb_mod sV.len qV.len, hc, comb_zero sV qV.len] at hl ⊢
      obtain ⟨r, hr, e⟩ := h.tail.leads hp s hs hl
      exact ⟨r, List.mem_cons_of_mem _ hr, e⟩
    · refine ⟨q, List.mem_cons_self, (leading_eq (by rw [comb_len sV.len qV.len]; exact l1) (fun i hi => ?_) ?_).symm⟩
      · rw [gz_comb sV.len qV.len (by omega), sz i (by omega), leading_before hi]; simp
      · rw [gz_comb sV.len qV.len l1, sz _ (Nat.le_refl _), l2, Int.mul_one, Int.zero_add]
        exact hc
theorem sorted_same : ∀ {a b : List Vec}, a.Pairwise (fun x y => leading x < leading y) → b.Pairwise (fun x y => leading x < leading y) → (∀ x, x ∈ a ↔ x ∈ b) → a = b
  | [], [], _, _, _ => rfl
  | [], y :: b, _, _, h => by cases (h y).mpr List.mem_cons_self
  | x :: a, [], _, _, h => by cases (h x).mp List.mem_cons_self
  | x :: a, y :: b, ha, hb, h => by
    obtain ⟨a1, a2⟩ := List.pairwise_cons.mp ha
    obtain ⟨b1, b2⟩ := List.pairwise_cons.mp hb
    have e : x = y := by
      rcases List.mem_cons.mp ((h x).mp List.mem_cons_self) with e | e
      · exact e
      · rcases List.mem_cons.mp ((h y).mpr List.mem_cons_self) with e2 | e2
        · exact e2.symm
        · have := a1 y e2
          have := b1 x e
          omega
    subst e
    rw [sorted_same a2 b2 fun z => ⟨fun hz => ?_, fun hz => ?_⟩]
    · rcases List.mem_cons.mp ((h z).mp (List.mem_cons_of_mem _ hz)) with e | e
      · subst e; have := a1 z hz; omega
      · exact e
    · rcases List.mem_cons.mp ((h z).mpr (List.mem_cons_of_mem _ hz)) with e | e
      · subst e; have := b1 z hz; omega
      · exact e
theorem Red.within (hp : IsP p) {a b : List Vec} (ha : Red p n a) (hb : Red p n b) (h : ∀ v, Span p n a v ↔ Span p n b v) (r : Vec) (hr : r ∈ a) : r ∈ b := by
  have rb := (h r).mp (ha.mem hp.pos r hr)
  obtain ⟨l1, l2⟩ := ha.lead r hr
  obtain ⟨q, hq, e⟩ := hb.leads hp r rb l1
  have rV := ha.vec r hr
  have qV := hb.vec q hq
  have ds : Span p n b (comb p r (-1) q) := (hb.sub hp.pos).comb _ _ _ rb (hb.mem hp.pos q hq)
  have dl : ¬ leading (comb p r (-1) q) < n := fun hl => by
    obtain ⟨q', hq', e'⟩ := hb.leads hp _ ds hl
    obtain ⟨m1, m2⟩ := hb.lead q' hq'
    apply leading_at (v := comb p r (-1) q) (by rw [comb_len rV.len qV.len]; exact hl)
    rw [← e', gz_comb rV.len qV.len m1]
    by_cases c : leading q' = leading r
    · have x1 : gz r (leading q') = 1 := by rw [c]; exact l2
      have x2 : gz q (leading q') = 1 := by rw [c, ← e]; exact (hb.lead q hq).2
      rw [x1, x2]; simp
    · obtain ⟨r', hr', e2⟩ := ha.leads hp q' ((h q').mpr (hb.mem hp.pos q' hq')) m1
      have x1 : gz r (leading q') = 0 := by rw [← e2]; exact ha.clear r hr r' hr' (by omega)
      have x2 : gz q (leading q') = 0 := hb.clear q hq q' hq' (by omega)
      rw [x1, x2]; simp
  have hle := leading_le (comb p r (-1) q)
  rw [comb_len rV.len qV.len] at hle
  have dz := eq_zeros (comb_len rV.len qV.len) (show leading (comb p r (-1) q) = n by omega)
  have := comb_off (c := -1) rV qV.len
  rw [dz, show -(-1 : Int) = 1 by decide, zeros_comb qV] at this
  rw [← this]
  exact hq
/-- there is one reduced basis -/
theorem Red.unique (hp : IsP p) {a b : List Vec} (ha : Red p n a) (hb : Red p n b) (h : ∀ v, Span p n a v ↔ Span p n b v) : a = b :=
  sorted_same ha.sorted hb.sorted fun x => ⟨ha.within hp hb h x, hb.within hp ha (fun v => (h v).symm) x⟩
end
end HM
/-! part Ma4 -/
/-! Spaces as the program keeps them: sums, intersections, extensions. -/
namespace HM
open Classical

def norm (p : Int) (v : Vec) : Vec := v.map fun x => x % p
def mkRows (p : Int) (vs : List Vec) : List Vec := echelon p (vs.map (norm p))
def cutRows (p : Int) (n : Nat) (a b : List Vec) : List Vec :=
  ((echelon p (a.map (fun r => r ++ r) ++ b.map (fun r => r ++ zeros n))).filter fun r => decide (n ≤ leading r)).map fun r => r.drop n
def addRows (p : Int) (a b : List Vec) : List Vec := mkRows p (a ++ b)
def meetRows (p : Int) (n : Nat) (a b : List Vec) : List Vec := mkRows p (cutRows p n a b)
def leRows (p : Int) (n : Nat) (a b : List Vec) : Bool := a.all fun r => decide (leading (reduce p b r) = n)
def unitV (n i : Nat) : Vec := (List.range n).map fun k => if k = i then 1 else 0
def units (n : Nat) : List Vec := (List.range n).map (unitV n)
def wholeRows (p : Int) (n : Nat) : List Vec := mkRows p (units n)
/-- the rows that are added, one by one -/
def extend (p : Int) (n : Nat) : List Vec → List Vec → List Vec
  | _, [] => []
  | rows, r :: rs => if leading (reduce p rows r) < n then r :: extend p n (echelon p (rows ++ [r])) rs else extend p n rows rs

section
variable {p : Int} {n : Nat}
theorem norm_isV (hp : 0 < p) {v : Vec} (h : v.length = n) : IsV p n (norm p v) := ⟨by simp [norm, h], fun i hi => by
  rw [gz_lt (by simp [norm, h]; exact hi)]
  unfold norm
  rw [List.getElem_map]
  exact ⟨Int.emod_nonneg _ (by omega), Int.emod_lt_of_pos _ hp⟩⟩
theorem norm_id {v : Vec} (h : IsV p n v) : norm p v = v := ext (n := n) (by simp [norm, h.len]) h.len fun i hi => by
  rw [gz_lt (v := norm p v) (i := i) (by simp [norm, h.len]; exact hi), gz_lt (v := v) (i := i) (by rw [h.len]; exact hi)]
  unfold norm
  rw [List.getElem_map, ← gz_lt (v := v) (i := i) (by rw [h.len]; exact hi)]
  exact small (h.rng i hi)
theorem norms_id {vs : List Vec} (h : ∀ v ∈ vs, IsV p n v) : vs.map (norm p) = vs := by
  rw [List.map_congr_left fun v hv => norm_id (h v hv)]
  simp
theorem mkRows_eq {vs : List Vec} (h : ∀ v ∈ vs, IsV p n v) : mkRows p vs = echelon p vs := by unfold mkRows; rw [norms_id h]
theorem norm_mem (hp : 0 < p) {vs : List Vec} (h : ∀ v ∈ vs, v.length = n) : ∀ r ∈ vs.map (norm p), IsV p n r := fun r hr => by
  obtain ⟨v, hv, rfl⟩ := List.mem_map.mp hr
  exact norm_isV hp (h v hv)
theorem mkRows_red (hp : IsP p) {vs : List Vec} (h : ∀ v ∈ vs, v.length = n) : Red p n (mkRows p vs) := echelon_red hp (norm_mem hp.pos h)
theorem mkRows_span (hp : IsP p) {vs : List Vec} (h : ∀ v ∈ vs, IsV p n v) (t : Vec) : Span p n (mkRows p vs) t ↔ Span p n vs t := by
  rw [mkRows_eq h]; exact echelon_span hp h t
theorem span_norm (hp : IsP p) {vs : List Vec} (h : ∀ v ∈ vs, v.length = n) (t : Vec) : Span p n (mkRows p vs) t ↔ Span p n (vs.map (norm p)) t :=
  echelon_span hp (norm_mem hp.pos h) t

/-! ### sums -/
theorem addRows_red (hp : IsP p) {a b : List Vec} (ha : Red p n a) (hb : Red p n b) : Red p n (addRows p a b) :=
  mkRows_red hp fun v hv => (List.mem_append.mp hv).elim (fun h => (ha.vec v h).len) fun h => (hb.vec v h).len
theorem span_append (hp : 0 < p) {a b : List Vec} (ha : ∀ r ∈ a, IsV p n r) (hb : ∀ r ∈ b, IsV p n r) (t : Vec) : Span p n (a ++ b) t ↔ SumS p (Span p n a) (Span p n b) t := by
  have hab : ∀ r ∈ a ++ b, IsV p n r := fun r hr => (List.mem_append.mp hr).elim (ha r) (hb r)
  have A := span_sub hp ha
  have B := span_sub hp hb
  constructor
  · exact span_least hp (sum_sub hp A B) (fun r hr => (List.mem_append.mp hr).elim (fun h => sum_left A B (span_mem hp ha r h)) fun h => sum_right A B (span_mem hp hb r h)) t
  · exact sum_least (span_sub hp hab) (span_mono hp hab fun r hr => span_mem hp hab r (List.mem_append.mpr (.inl hr))) (span_mono hp hab fun r hr => span_mem hp hab r (List.mem_append.mpr (.inr hr))) t
theorem addRows_span (hp : IsP p) {a b : List Vec} (ha : Red p n a) (hb : Red p n b) (t : Vec) : Span p n (addRows p a b) t ↔ SumS p (Span p n a) (Span p n b) t := by
  have hab : ∀ r ∈ a ++ b, IsV p n r := fun r hr => (List.mem_append.mp hr).elim (ha.vec r) (hb.vec r)
  exact (mkRows_span hp hab t).trans (span_append hp.pos ha.vec hb.vec t)

/-! ### intersections: rows doubled -/
theorem gz_app_l {u v : Vec} {i : Nat} (h : i < u.length) : gz (u ++ v) i = gz u i := by
  rw [gz_lt (v := u ++ v) (by simp; omega), gz_lt (v := u) h, List.getElem_append_left h]
theorem gz_app_r {u v : Vec} {i : Nat} : gz (u ++ v) (u.length + i) = gz v i := by
  rcases Nat.lt_or_ge i v.length with h | h
  · rw [gz_lt (v := u ++ v) (by simp; omega), gz_lt (v := v) h, List.getElem_append_right (by omega)]
    simp
  · rw [gz_ge (by simp; omega), gz_ge h]
theorem app_isV {u v : Vec} (hu : IsV p n u) (hv : IsV p n v) : IsV p (n + n) (u ++ v) := ⟨by simp [hu.len, hv.len], fun i hi => by
  rcases Nat.lt_or_ge i n with h | h
  · rw [gz_app_l (by rw [hu.len]; exact h)]; exact hu.rng i h
  · have e : i = u.length + (i - n) := by rw [hu.len]; omega
    rw [e, gz_app_r]; exact hv.rng _ (by omega)⟩
theorem comb_app {a b u v : Vec} {c : Int} (hu : a.length = u.length) : comb p (a ++ b) c (u ++ v) = comb p a c u ++ comb p b c v := by
  unfold comb
  exact List.zipWith_append hu
theorem zeros_app : zeros (n + n) = zeros n ++ zeros n := by unfold zeros; rw [List.replicate_append_replicate]
/-- the pairs (x, u) with u in U and x - u in W -/
def Dbl (p : Int) (n : Nat) (U W : Vec → Prop) (t : Vec) : Prop := ∃ x u, t = x ++ u ∧ IsV p n x ∧ U u ∧ W (comb p x (-1) u)
theorem dbl_sub (hp : 0 < p) {U W : Vec → Prop} (hU : Sub p n U) (hW : Sub p n W) : Sub p (n + n) (Dbl p n U W) where
  vec := fun t ⟨x, u, e, hx, hu, _⟩ => e ▸ app_isV hx (hU.vec u hu)
  zero := ⟨_, _, zeros_app, zeros_isV hp, hU.zero, by rw [comb_zeros (zeros_isV hp)]; exact hW.zero⟩
  comb := fun s c t ⟨x, u, e, hx, hu, hw⟩ ⟨x', u', e', hx', hu', hw'⟩ => by
    have a := hx.len
    have b := (hU.vec u hu).len
    have a' := hx'.len
    have b' := (hU.vec u' hu').len
    refine ⟨comb p x c x', comb p u c u', ?_, comb_isV hp a a', hU.comb _ _ _ hu hu', ?_⟩
    · rw [e, e', comb_app (by omega)]
    · have := hW.comb _ c _ hw hw'
      rw [comb_assoc (comb_len a b) a' b', comb_comm a b a'] at this
      rw [comb_assoc (comb_len a a') b b']
      have e1 : -1 * c = c * -1 := Int.mul_comm ..
      rw [e1]
      exact this
theorem dbl_rows (hp : 0 < p) {a b : List Vec} (ha : ∀ r ∈ a, IsV p n r) (hb : ∀ r ∈ b, IsV p n r) :
    (∀ r ∈ a.map (fun r => r ++ r) ++ b.map (fun r => r ++ zeros n), IsV p (n + n) r) ∧ ∀ r ∈ a.map (fun r => r ++ r) ++ b.map (fun r => r ++ zeros n), Dbl p n (Span p n a) (Span p n b) r := by
  have A := span_sub hp ha
  have B := span_sub hp hb
  have main : ∀ r ∈ a.map (fun r => r ++ r) ++ b.map (fun r => r ++ zeros n), Dbl p n (Span p n a) (Span p n b) r := fun r hr => by
    rcases List.mem_append.mp hr with h | h
    · obtain ⟨x, hx, rfl⟩ := List.mem_map.mp h
      exact ⟨x, x, rfl, ha x hx, span_mem hp ha x hx, by rw [comb_self (ha x hx).len]; exact B.zero⟩
    · obtain ⟨x, hx, rfl⟩ := List.mem_map.mp h
      exact ⟨x, zeros n, rfl, hb x hx, A.zero, by rw [comb_zeros (hb x hx)]; exact span_mem hp hb x hx⟩
  exact ⟨fun r hr => (dbl_sub hp A B).vec r (main r hr), main⟩
/-- u in U gives (u, u), w in W gives (w, 0) -/
theorem dbl_left (hp : 0 < p) {a b : List Vec} (ha : ∀ r ∈ a, IsV p n r) (hb : ∀ r ∈ b, IsV p n r) (u : Vec) (hu : Span p n a u) :
    Span p (n + n) (a.map (fun r => r ++ r) ++ b.map (fun r => r ++ zeros n)) (u ++ u) := by
  have D := span_sub hp (dbl_rows hp ha hb).1
  have hK : Sub p n fun v => IsV p n v ∧ Span p (n + n) (a.map (fun r => r ++ r) ++ b.map (fun r => r ++ zeros n)) (v ++ v) :=
    ⟨fun v z => z.1, ⟨zeros_isV hp, by rw [← zeros_app]; exact D.zero⟩, fun x c y ⟨x1, x2⟩ ⟨y1, y2⟩ => ⟨comb_isV hp x1.len y1.len, by
      rw [← comb_app (by rw [x1.len, y1.len])]; exact D.comb _ _ _ x2 y2⟩⟩
  exact (span_least hp hK (fun r hr => ⟨ha r hr, span_mem hp (dbl_rows hp ha hb).1 _ (List.mem_append.mpr (.inl (List.mem_map.mpr ⟨r, hr, rfl⟩)))⟩) u hu).2
theorem dbl_right (hp : 0 < p) {a b : List Vec} (ha : ∀ r ∈ a, IsV p n r) (hb : ∀ r ∈ b, IsV p n r) (w : Vec) (hw : Span p n b w) :
    Span p (n + n) (a.map (fun r => r ++ r) ++ b.map (fun r => r ++ zeros n)) (w ++ zeros n) := by
  have D := span_sub hp (dbl_rows hp ha hb).1
  have hK : Sub p n fun v => IsV p n v ∧ Span p (n + n) (a.map (fun r => r ++ r) ++ b.map (fun r => r ++ zeros n)) (v ++ zeros n) :=
    ⟨fun v z => z.1, ⟨zeros_isV hp, by rw [← zeros_app]; exact D.zero⟩, fun x c y ⟨x1, x2⟩ ⟨y1, y2⟩ => ⟨comb_isV hp x1.len y1.len, by
      have h := D.comb _ c _ x2 y2
      rw [comb_app (by rw [x1.len, y1.len]), comb_zeros (zeros_isV hp)] at h
      exact h⟩⟩
  exact (span_least hp hK (fun r hr => ⟨hb r hr, span_mem hp (dbl_rows hp ha hb).1 _ (List.mem_append.mpr (.inr (List.mem_map.mpr ⟨r, hr, rfl⟩)))⟩) w hw).2

theorem drop_isV {r : Vec} (h : IsV p (n + n) r) : IsV p n (r.drop n) := ⟨by simp [h.len], fun i hi => by
  rw [gz_lt (by simp [h.len]; omega), List.getElem_drop, ← gz_lt (v := r) (i := n + i) (by rw [h.len]; omega)]
  exact h.rng _ (by omega)⟩
theorem cut_vec (hp : IsP p) {a b : List Vec} (ha : ∀ r ∈ a, IsV p n r) (hb : ∀ r ∈ b, IsV p n r) : ∀ r ∈ cutRows p n a b, IsV p n r := fun r hr => by
  obtain ⟨x, hx, rfl⟩ := List.mem_map.mp hr
  exact drop_isV ((echelon_red hp (dbl_rows hp.pos ha hb).1).vec x (List.mem_filter.mp hx).1)
/-- a row that leads behind the first half -/
theorem split_row {r : Vec} (h : IsV p (n + n) r) (hl : n ≤ leading r) : r = zeros n ++ r.drop n := by
  have e : r = r.take n ++ r.drop n := (List.take_append_drop n r).symm
  have e2 : r.take n = zeros n := ext (n := n) (by simp [h.len]) (by simp [zeros]) fun i hi => by
    rw [gz_zeros]
    have : gz (r.take n ++ r.drop n) i = gz (r.take n) i := gz_app_l (by simp [h.len]; omega)
    rw [← this, ← e]
    exact leading_before (by omega)
  rw [← e2]
  exact e
theorem app_inj {a b c d : Vec} (h : a ++ b = c ++ d) (hl : a.length = c.length) : a = c ∧ b = d := List.append_inj h hl
theorem cut_in (hp : IsP p) {a b : List Vec} (ha : Red p n a) (hb : Red p n b) : ∀ r ∈ cutRows p n a b, Both (Span p n a) (Span p n b) r := fun r hr => by
  obtain ⟨x, hx, rfl⟩ := List.mem_map.mp hr
  obtain ⟨h1, h2⟩ := List.mem_filter.mp hx
  have hl : n ≤ leading x := of_decide_eq_true h2
  have R := echelon_red hp (dbl_rows hp.pos ha.vec hb.vec).1
  have hs := (echelon_span hp (dbl_rows hp.pos ha.vec hb.vec).1 x).mp (R.mem hp.pos x h1)
  obtain ⟨y, u, e, hy, hu, hw⟩ := span_least hp.pos (dbl_sub hp.pos (ha.sub hp.pos) (hb.sub hp.pos)) (dbl_rows hp.pos ha.vec hb.vec).2 x hs
  have e2 := split_row (R.vec x h1) hl
  rw [e2] at e
  obtain ⟨e3, e4⟩ := app_inj e (by simp [zeros, hy.len])
  have uV := (ha.sub hp.pos).vec u hu
  rw [e4]
  refine ⟨hu, ?_⟩
  rw [← e3] at hw
  -- minus u in W, so u
  have := (hb.sub hp.pos).comb _ (-1) _ (hb.sub hp.pos).zero hw
  rw [comb_assoc (by simp [zeros]) (by simp [zeros]) uV.len, comb_zeros (zeros_isV hp.pos), show (-1 : Int) * -1 = 1 by decide, zeros_comb uV] at this
  exact this
/-- what is 0 ahead is cleared by rows that lead behind alone -/
theorem reduce_behind (hp : 0 < p) {T : Vec → Prop} (hT : Sub p (n + n) T) : ∀ {rs : List Vec} {v : Vec}, (∀ r ∈ rs, IsV p (n + n) r) → (∀ r ∈ rs, n ≤ leading r → T r) → IsV p (n + n) v → (∀ i, i < n → gz v i = 0) → T (reduce p rs v) → T v
  | [], _, _, _, _, _, h => h
  | r :: rs, v, hr, ht, hv, hz, h => by
    have rV := hr r List.mem_cons_self
    have hr' := fun x hx => hr x (List.mem_cons_of_mem _ hx)
    have ht' := fun x hx => ht x (List.mem_cons_of_mem _ hx)
    rcases Nat.lt_or_ge (leading r) n with c | c
    · have e : comb p v (-(gz v (leading r))) r = v := by rw [hz _ c, Int.neg_zero, comb_zero hv rV.len]
      have h' : T (reduce p rs (comb p v (-(gz v (leading r))) r)) := h
      rw [e] at h'
      exact reduce_behind hp hT hr' ht' hv hz h'
    · have h1 := reduce_behind hp hT hr' ht' (comb_isV hp hv.len rV.len) (fun i hi => by
        rw [gz_comb hv.len rV.len (by omega), hz i hi, leading_before (v := r) (by omega)]; simp) h
      have := hT.comb _ (-(-(gz v (leading r)))) _ h1 (ht r List.mem_cons_self c)
      rwa [comb_off hv rV.len] at this
theorem cut_all (hp : IsP p) {a b : List Vec} (ha : Red p n a) (hb : Red p n b) (t : Vec) (h1 : Span p n a t) (h2 : Span p n b t) : Span p n (cutRows p n a b) t := by
  have rowsV := (dbl_rows hp.pos ha.vec hb.vec).1
  have R := echelon_red hp rowsV
  have D := span_sub hp.pos rowsV
  have tV := (ha.sub hp.pos).vec t h1
  -- (0, t) lies in the doubled span
  have z : Span p (n + n) (a.map (fun r => r ++ r) ++ b.map (fun r => r ++ zeros n)) (zeros n ++ t) := by
    have := D.comb _ (-1) _ (dbl_left hp.pos ha.vec hb.vec t h1) (dbl_right hp.pos ha.vec hb.vec t h2)
    rwa [comb_app (by rfl), comb_self tV.len, comb_zeros tV] at this
  have zV : IsV p (n + n) (zeros n ++ t) := app_isV (zeros_isV hp.pos) tV
  have e0 := (R.iff hp.pos zV).mp ((echelon_span hp rowsV _).mpr z)
  -- the vectors whose second half lies in the span of the cut rows
  have C := span_sub hp.pos (cut_vec hp ha.vec hb.vec)
  have hT : Sub p (n + n) fun v => ∃ x, v = zeros n ++ x ∧ Span p n (cutRows p n a b) x := ⟨fun v ⟨x, e, hx⟩ => e ▸ app_isV (zeros_isV hp.pos) (C.vec x hx), ⟨_, zeros_app, C.zero⟩, fun v c w ⟨x, e, hx⟩ ⟨y, e', hy⟩ =>
    ⟨_, by rw [e, e', comb_app (by rfl), comb_zeros (zeros_isV hp.pos)], C.comb _ c _ hx hy⟩⟩
  obtain ⟨x, e, hx⟩ := reduce_behind hp.pos hT (rs := echelon p (a.map (fun r => r ++ r) ++ b.map (fun r => r ++ zeros n))) (v := zeros n ++ t) R.vec
    (fun r hr hl => ⟨r.drop n, split_row (R.vec r hr) hl, span_mem hp.pos (cut_vec hp ha.vec hb.vec) _ (List.mem_map.mpr ⟨r, List.mem_filter.mpr ⟨hr, decide_eq_true hl⟩, rfl⟩)⟩)
    zV (fun i hi => by rw [gz_app_l (by simp [zeros]; exact hi), gz_zeros]) (by rw [e0]; exact hT.zero)
  obtain ⟨_, e4⟩ := app_inj e (by rfl)
  rw [e4]
  exact hx
theorem meetRows_red (hp : IsP p) {a b : List Vec} (ha : Red p n a) (hb : Red p n b) : Red p n (meetRows p n a b) := mkRows_red hp fun v hv => (cut_vec hp ha.vec hb.vec v hv).len
theorem meetRows_span (hp : IsP p) {a b : List Vec} (ha : Red p n a) (hb : Red p n b) (t : Vec) : Span p n (meetRows p n a b) t ↔ Both (Span p n a) (Span p n b) t :=
  (mkRows_span hp (cut_vec hp ha.vec hb.vec) t).trans ⟨span_least hp.pos (both_sub (ha.sub hp.pos) (hb.sub hp.pos)) (cut_in hp ha hb) t, fun h => cut_all hp ha hb t h.1 h.2⟩

/-! ### within, extension, all vectors -/
theorem leRows_iff (hp : IsP p) {a b : List Vec} (ha : Red p n a) (hb : Red p n b) : leRows p n a b = true ↔ ∀ t, Span p n a t → Span p n b t := by
  unfold leRows
  rw [List.all_eq_true]
  constructor
  · intro h
    exact span_least hp.pos (hb.sub hp.pos) fun r hr => (hb.iff_lead hp.pos (ha.vec r hr)).mpr (of_decide_eq_true (h r hr))
  · intro h r hr
    exact decide_eq_true ((hb.iff_lead hp.pos (ha.vec r hr)).mp (h r (ha.mem hp.pos r hr)))
theorem unit_len (i : Nat) : (unitV n i).length = n := by simp [unitV]
theorem unit_at {i j : Nat} (h : j < n) : gz (unitV n i) j = if j = i then 1 else 0 := by
  rw [gz_lt (by rw [unit_len]; exact h)]
  simp [unitV]
theorem unit_isV (hp : IsP p) (i : Nat) : IsV p n (unitV n i) := ⟨unit_len i, fun j hj => by
  rw [unit_at hj]
  have := hp.one
  split <;> omega⟩
theorem units_isV (hp : IsP p) : ∀ r ∈ units n, IsV p n r := fun r hr => by
  obtain ⟨i, _, rfl⟩ := List.mem_map.mp hr
  exact unit_isV hp i
theorem whole_sub (hp : 0 < p) : Sub p n (IsV p n) := ⟨fun _ h => h, zeros_isV hp, fun _ _ _ hu hv => comb_isV hp hu.len hv.len⟩
theorem dim_whole (hp : IsP p) : dim n (IsV p n) = n := by
  have h : ∀ j ∈ List.range n, decide (Piv (IsV p n) j) = true := fun j hj => decide_eq_true ⟨unitV n j, unit_isV hp j, by
    have hj := List.mem_range.mp hj
    exact leading_eq (by rw [unit_len]; exact hj) (fun i hi => by rw [unit_at (by omega), if_neg (by omega)]) (by rw [unit_at hj, if_pos rfl]; decide)⟩
  unfold dim
  rw [List.countP_eq_length.mpr h]
  simp
theorem span_units (hp : IsP p) (t : Vec) : Span p n (units n) t ↔ IsV p n t := by
  have S := span_sub hp.pos (units_isV (n := n) hp)
  refine ⟨S.vec t, sub_eq hp S (whole_sub hp.pos) S.vec ?_ t⟩
  -- every place is led at
  refine countP_le fun j hj _ => ?_
  have hj := List.mem_range.mp hj
  exact decide_eq_true ⟨unitV n j, span_mem hp.pos (units_isV hp) _ (List.mem_map.mpr ⟨j, List.mem_range.mpr hj, rfl⟩),
    leading_eq (by rw [unit_len]; exact hj) (fun i hi => by rw [unit_at (by omega), if_neg (by omega)]) (by rw [unit_at hj, if_pos rfl]; decide)⟩
theorem wholeRows_red (hp : IsP p) : Red p n (wholeRows p n) := mkRows_red hp fun v hv => (units_isV hp v hv).len
theorem wholeRows_span (hp : IsP p) (t : Vec) : Span p n (wholeRows p n) t ↔ IsV p n t := (mkRows_span hp (units_isV hp) t).trans (span_units hp t)
theorem extend_ok (hp : IsP p) : ∀ {rs rows : List Vec}, Red p n rows → (∀ r ∈ rs, IsV p n r) →
    (∀ t, Span p n (extend p n rows rs) t → Span p n rs t) ∧ (∀ r ∈ extend p n rows rs, IsV p n r) ∧ (∀ t, SumS p (Span p n rows) (Span p n (extend p n rows rs)) t ↔ SumS p (Span p n rows) (Span p n rs) t) ∧
    dim n (SumS p (Span p n rows) (Span p n rs)) = rows.length + (extend p n rows rs).length
  | [], rows, h, _ => ⟨fun _ z => z, fun _ z => (by cases z), fun _ => Iff.rfl, by
    have e : ∀ t, SumS p (Span p n rows) (Span p n []) t ↔ Span p n rows t := fun t => ⟨fun ⟨u, w, hu, hw, e⟩ => by
      rw [show w = zeros n from hw, comb_zeros ((h.sub hp.pos).vec u hu)] at e
      exact e ▸ hu, fun z => sum_left (h.sub hp.pos) (zero_sub hp.pos) z⟩
    rw [dim_congr e, h.dim hp]
    rfl⟩
  | r :: rs, rows, h, hr => by
    have rV := hr r List.mem_cons_self
    have hr' : ∀ x ∈ rs, IsV p n x := fun x hx => hr x (List.mem_cons_of_mem _ hx)
    have S := h.sub hp.pos
    have A := span_sub hp.pos hr'
    have B := span_sub hp.pos hr
    by_cases c : Span p n rows r
    · have e : extend p n rows (r :: rs) = extend p n rows rs := by
        show (if _ then _ else _) = _
        rw [if_neg]
        rw [(h.iff_lead hp.pos rV).mp c]
        omega
      obtain ⟨i1, i2, i3, i4⟩ := extend_ok hp h hr'
      have eS : ∀ t, SumS p (Span p n rows) (Span p n (r :: rs)) t ↔ SumS p (Span p n rows) (Span p n rs) t := fun t => by
        constructor
        · exact sum_least (sum_sub hp.pos S A) (fun u hu => sum_left S A hu) (add_least hp.pos A (sum_sub hp.pos S A) (sum_left S A c) fun s hs => sum_right S A hs) t
        · exact sum_least (sum_sub hp.pos S B) (fun u hu => sum_left S B hu) (fun w hw => sum_right S B (add_in A rV hw)) t
      rw [e]
      exact ⟨fun t z => add_in A rV (i1 t z), i2, fun t => (i3 t).trans (eS t).symm, by rw [dim_congr eS]; exact i4⟩
    · have hl : leading (reduce p rows r) < n := by
        have h1 := leading_le (reduce p rows r)
        rw [(reduce_isV hp.pos h.vec rV).len] at h1
        rcases Nat.lt_or_ge (leading (reduce p rows r)) n with h2 | h2
        · exact h2
        · exact absurd ((h.iff_lead hp.pos rV).mpr (by omega)) c
      have e : extend p n rows (r :: rs) = r :: extend p n (echelon p (rows ++ [r])) rs := by
        show (if _ then _ else _) = _
        rw [if_pos hl]
      have hv : ∀ x ∈ rows ++ [r], IsV p n x := fun x hx => (List.mem_append.mp hx).elim (h.vec x) fun q => by rw [List.mem_singleton.mp q]; exact rV
      have N := echelon_red hp hv
      obtain ⟨i1, i2, i3, i4⟩ := extend_ok hp N hr'
      have NS := N.sub hp.pos
      -- the new rows span the old ones and r
      have eN : ∀ t, Span p n (echelon p (rows ++ [r])) t ↔ Add p n (Span p n rows) r t := fun t => by
        refine (echelon_span hp hv t).trans ⟨span_least hp.pos (add_sub hp.pos S rV) (fun x hx => (List.mem_append.mp hx).elim (fun q => add_in S rV (h.mem hp.pos x q)) fun q => by rw [List.mem_singleton.mp q]; exact add_self S rV) t, ?_⟩
        exact add_least hp.pos S (span_sub hp.pos hv) (span_mem hp.pos hv r (List.mem_append.mpr (.inr List.mem_cons_self))) (span_mono hp.pos hv fun x hx => span_mem hp.pos hv x (List.mem_append.mpr (.inl hx))) t
      have rN : Span p n (echelon p (rows ++ [r])) r := (eN r).mpr (add_self S rV)
      have sN : ∀ t, Span p n rows t → Span p n (echelon p (rows ++ [r])) t := fun t q => (eN t).mpr (add_in S rV q)
      have nL : (echelon p (rows ++ [r])).length = rows.length + 1 := by
        rw [← N.dim hp, dim_congr eN, dim_add_out hp S rV c, h.dim hp]
      -- with any list behind: rows and r :: l, or the new rows and l
      have move : ∀ l : List Vec, (∀ x ∈ l, IsV p n x) → ∀ t, SumS p (Span p n rows) (Span p n (r :: l)) t ↔ SumS p (Span p n (echelon p (rows ++ [r]))) (Span p n l) t := fun l hl t => by
        have L := span_sub hp.pos hl
        have L1 := span_sub hp.pos (rs := r :: l) fun x hx => (List.mem_cons.mp hx).elim (fun q => q ▸ rV) (hl x)
        constructor
        · exact sum_least (sum_sub hp.pos NS L) (fun u hu => sum_left NS L (sN u hu)) (add_least hp.pos L (sum_sub hp.pos NS L) (sum_left NS L rN) fun s hs => sum_right NS L hs) t
        · refine sum_least (sum_sub hp.pos S L1) (fun u hu => ?_) (fun w hw => sum_right S L1 (add_in L rV hw)) t
          exact add_least hp.pos S (sum_sub hp.pos S L1) (sum_right S L1 (add_self L rV)) (fun s hs => sum_left S L1 hs) u ((eN u).mp hu)
      rw [e]
      refine ⟨?_, fun x hx => (List.mem_cons.mp hx).elim (fun q => q ▸ rV) (i2 x), fun t => ?_, ?_⟩
      · exact add_least hp.pos (span_sub hp.pos i2) B (add_self A rV) fun s hs => add_in A rV (i1 s hs)
      · exact (move _ i2 t).trans ((i3 t).trans (move _ hr' t).symm)
      · rw [dim_congr (move _ hr'), i4, nL]
        show rows.length + 1 + _ = rows.length + (_ + 1)
        omega
end
end HM
/-! part Ma5 -/
/-! Two chains: the cells of a common basis, and chain words. -/
namespace HM
open Classical

def allCells (P Q : Nat) : List (Nat × Nat) := (List.range (P + 1)).flatMap fun i => (List.range (Q + 1)).map fun j => (i + 1, j + 1)
/-- the vectors of a cell, as common_basis finds them -/
def cellV (p : Int) (n : Nat) (A B : Nat → List Vec) (c : Nat × Nat) : List Vec :=
  let here := meetRows p n (A c.1) (B c.2)
  extend p n (addRows p (meetRows p n (A (c.1 - 1)) here) (meetRows p n (B (c.2 - 1)) here)) here

structure Ch (p : Int) (n : Nat) (A B : Nat → List Vec) (P Q : Nat) : Prop where
  ra : ∀ i, Red p n (A i)
  rb : ∀ i, Red p n (B i)
  a0 : A 0 = []
  b0 : B 0 = []
  a1 : ∀ t, IsV p n t → Span p n (A (P + 1)) t
  b1 : ∀ t, IsV p n t → Span p n (B (Q + 1)) t
  ma : ∀ i, i ≤ P → ∀ t, Span p n (A i) t → Span p n (A (i + 1)) t
  mb : ∀ i, i ≤ Q → ∀ t, Span p n (B i) t → Span p n (B (i + 1)) t

inductive CW where
  | zero | one | a (k : Nat) | b (k : Nat) | plus (x y : CW) | cut (x y : CW)
  deriving DecidableEq
def CW.has : CW → Nat × Nat → Bool
  | .zero, _ => false
  | .one, _ => true
  | .a k, c => decide (c.1 ≤ k)
  | .b k, c => decide (c.2 ≤ k)
  | .plus x y, c => x.has c || y.has c
  | .cut x y, c => x.has c && y.has c
def CW.ok (P Q : Nat) : CW → Prop
  | .zero => True
  | .one => True
  | .a k => 1 ≤ k ∧ k ≤ P
  | .b k => 1 ≤ k ∧ k ≤ Q
  | .plus x y => x.ok P Q ∧ y.ok P Q
  | .cut x y => x.ok P Q ∧ y.ok P Q
def CW.val (p : Int) (n : Nat) (A B : Nat → List Vec) : CW → List Vec
  | .zero => []
  | .one => wholeRows p n
  | .a k => A k
  | .b k => B k
  | .plus x y => addRows p (x.val p n A B) (y.val p n A B)
  | .cut x y => meetRows p n (x.val p n A B) (y.val p n A B)

section
variable {p : Int} {n P Q : Nat} {A B : Nat → List Vec}

def gen (V : Nat × Nat → List Vec) (l : List (Nat × Nat)) (c : Nat × Nat → Bool) : List Vec := (l.filter c).flatMap V
def cnt (V : Nat × Nat → List Vec) (l : List (Nat × Nat)) (c : Nat × Nat → Bool) : Nat := ((l.filter c).map fun x => (V x).length).sum

theorem gen_len (V : Nat × Nat → List Vec) (l : List (Nat × Nat)) (c : Nat × Nat → Bool) : (gen V l c).length = cnt V l c := by
  unfold gen cnt
  rw [List.length_flatMap]
theorem mem_gen {V : Nat × Nat → List Vec} {l : List (Nat × Nat)} {c : Nat × Nat → Bool} {v : Vec} : v ∈ gen V l c ↔ ∃ x ∈ l, c x = true ∧ v ∈ V x := by
  unfold gen
  rw [List.mem_flatMap]
  constructor
  · rintro ⟨x, h1, h2⟩
    obtain ⟨h3, h4⟩ := List.mem_filter.mp h1
    exact ⟨x, h3, h4, h2⟩
  · rintro ⟨x, h3, h4, h2⟩
    exact ⟨x, List.mem_filter.mpr ⟨h3, h4⟩, h2⟩
theorem cnt_two (V : Nat × Nat → List Vec) (c d : Nat × Nat → Bool) : ∀ l : List (Nat × Nat), cnt V l (fun x => c x || d x) + cnt V l (fun x => c x && d x) = cnt V l c + cnt V l d
  | [] => rfl
  | x :: l => by
    have ih := cnt_two V c d l
    unfold cnt at *
    simp only [List.filter_cons]
    cases c x <;> cases d x <;> simp <;> omega
theorem cnt_not (V : Nat × Nat → List Vec) (c : Nat × Nat → Bool) : ∀ l : List (Nat × Nat), cnt V l c + cnt V l (fun x => !c x) = cnt V l fun _ => true
  | [] => rfl
  | x :: l => by
    have ih := cnt_not V c l
    unfold cnt at *
    simp only [List.filter_cons]
    cases c x <;> simp <;> omega
theorem cnt_congr {V : Nat × Nat → List Vec} {c d : Nat × Nat → Bool} {l : List (Nat × Nat)} (h : ∀ x ∈ l, c x = d x) : cnt V l c = cnt V l d := by
  unfold cnt
  rw [List.filter_congr h]
theorem gen_congr {V : Nat × Nat → List Vec} {c d : Nat × Nat → Bool} {l : List (Nat × Nat)} (h : ∀ x ∈ l, c x = d x) : gen V l c = gen V l d := by
  unfold gen
  rw [List.filter_congr h]

theorem mem_cells {c : Nat × Nat} : c ∈ allCells P Q ↔ 1 ≤ c.1 ∧ c.1 ≤ P + 1 ∧ 1 ≤ c.2 ∧ c.2 ≤ Q + 1 := by
  unfold allCells
  rw [List.mem_flatMap]
  constructor
  · rintro ⟨i, hi, h⟩
    obtain ⟨j, hj, rfl⟩ := List.mem_map.mp h
    have := List.mem_range.mp hi
    have := List.mem_range.mp hj
    exact ⟨by show 1 ≤ i + 1; omega, by show i + 1 ≤ P + 1; omega, by show 1 ≤ j + 1; omega, by show j + 1 ≤ Q + 1; omega⟩
  · rintro ⟨h1, h2, h3, h4⟩
    exact ⟨c.1 - 1, List.mem_range.mpr (by omega), List.mem_map.mpr ⟨c.2 - 1, List.mem_range.mpr (by omega), Prod.ext (by show c.1 - 1 + 1 = c.1; omega) (by show c.2 - 1 + 1 = c.2; omega)⟩⟩

/-- the spaces of a cell's lower left -/
def Dij (p : Int) (n : Nat) (A B : Nat → List Vec) (i j : Nat) : Vec → Prop := Both (Span p n (A i)) (Span p n (B j))

namespace Ch
variable (hp : IsP p) (h : Ch p n A B P Q)
include hp h
theorem sa (i : Nat) : Sub p n (Span p n (A i)) := (h.ra i).sub hp.pos
theorem sb (i : Nat) : Sub p n (Span p n (B i)) := (h.rb i).sub hp.pos
theorem sd (i j : Nat) : Sub p n (Dij p n A B i j) := both_sub (h.sa hp i) (h.sb hp j)
theorem up_a {i k : Nat} (hik : i ≤ k) (hk : k ≤ P + 1) : ∀ t, Span p n (A i) t → Span p n (A k) t := by
  induction k with
  | zero => intro t ht; rw [show i = 0 by omega] at ht; exact ht
  | succ k ih =>
    intro t ht
    rcases Nat.lt_or_ge k i with c | c
    · rw [show i = k + 1 by omega] at ht; exact ht
    · exact h.ma k (by omega) t (ih c (by omega) t ht)
theorem up_b {i k : Nat} (hik : i ≤ k) (hk : k ≤ Q + 1) : ∀ t, Span p n (B i) t → Span p n (B k) t := by
  induction k with
  | zero => intro t ht; rw [show i = 0 by omega] at ht; exact ht
  | succ k ih =>
    intro t ht
    rcases Nat.lt_or_ge k i with c | c
    · rw [show i = k + 1 by omega] at ht; exact ht
    · exact h.mb k (by omega) t (ih c (by omega) t ht)
theorem up_d {i j k l : Nat} (hik : i ≤ k) (hk : k ≤ P + 1) (hjl : j ≤ l) (hl : l ≤ Q + 1) (t : Vec) (ht : Dij p n A B i j t) : Dij p n A B k l t := ⟨h.up_a hp hik hk t ht.1, h.up_b hp hjl hl t ht.2⟩

structure Cell (p : Int) (n : Nat) (A B : Nat → List Vec) (i j : Nat) : Prop where
  vec : ∀ r ∈ cellV p n A B (i, j), IsV p n r
  inn : ∀ t, Span p n (cellV p n A B (i, j)) t → Dij p n A B i j t
  all : ∀ t, Dij p n A B i j t ↔ SumS p (SumS p (Dij p n A B (i - 1) j) (Dij p n A B i (j - 1))) (Span p n (cellV p n A B (i, j))) t
  num : (cellV p n A B (i, j)).length + dim n (Dij p n A B (i - 1) j) + dim n (Dij p n A B i (j - 1)) = dim n (Dij p n A B i j) + dim n (Dij p n A B (i - 1) (j - 1))
  /-- the program's inner space lies within its outer one -/
  le : leRows p n (addRows p (meetRows p n (A (i - 1)) (meetRows p n (A i) (B j))) (meetRows p n (B (j - 1)) (meetRows p n (A i) (B j)))) (meetRows p n (A i) (B j)) = true
theorem cell {i j : Nat} (hi : 1 ≤ i) (hi2 : i ≤ P + 1) (hj : 1 ≤ j) (hj2 : j ≤ Q + 1) : Cell p n A B i j := by
  have HR := meetRows_red hp (h.ra i) (h.rb j)
  have HS : ∀ t, Span p n (meetRows p n (A i) (B j)) t ↔ Dij p n A B i j t := meetRows_span hp (h.ra i) (h.rb j)
  have LR := meetRows_red hp (h.ra (i - 1)) HR
  have LS : ∀ t, Span p n (meetRows p n (A (i - 1)) (meetRows p n (A i) (B j))) t ↔ Dij p n A B (i - 1) j t := fun t => (meetRows_span hp (h.ra (i - 1)) HR t).trans
    ⟨fun z => ⟨z.1, ((HS t).mp z.2).2⟩, fun z => ⟨z.1, (HS t).mpr ⟨h.up_a hp (by omega) hi2 t z.1, z.2⟩⟩⟩
  have BR := meetRows_red hp (h.rb (j - 1)) HR
  have BS : ∀ t, Span p n (meetRows p n (B (j - 1)) (meetRows p n (A i) (B j))) t ↔ Dij p n A B i (j - 1) t := fun t => (meetRows_span hp (h.rb (j - 1)) HR t).trans
    ⟨fun z => ⟨((HS t).mp z.2).1, z.1⟩, fun z => ⟨z.2, (HS t).mpr ⟨z.1, h.up_b hp (by omega) hj2 t z.2⟩⟩⟩
  have IR := addRows_red hp LR BR
  have IS : ∀ t, Span p n (addRows p (meetRows p n (A (i - 1)) (meetRows p n (A i) (B j))) (meetRows p n (B (j - 1)) (meetRows p n (A i) (B j)))) t ↔ SumS p (Dij p n A B (i - 1) j) (Dij p n A B i (j - 1)) t := fun t =>
    (addRows_span hp LR BR t).trans ⟨fun ⟨u, w, a, b, e⟩ => ⟨u, w, (LS u).mp a, (BS w).mp b, e⟩, fun ⟨u, w, a, b, e⟩ => ⟨u, w, (LS u).mpr a, (BS w).mpr b, e⟩⟩
  have IH : ∀ t, SumS p (Dij p n A B (i - 1) j) (Dij p n A B i (j - 1)) t → Dij p n A B i j t := sum_least (h.sd hp i j) (h.up_d hp (by omega) hi2 (Nat.le_refl _) hj2) (h.up_d hp (Nat.le_refl _) hi2 (by omega) hj2)
  obtain ⟨e1, e2, e3, e4⟩ := extend_ok hp IR HR.vec
  have hV : extend p n (addRows p (meetRows p n (A (i - 1)) (meetRows p n (A i) (B j))) (meetRows p n (B (j - 1)) (meetRows p n (A i) (B j)))) (meetRows p n (A i) (B j)) = cellV p n A B (i, j) := rfl
  rw [hV] at e1 e2 e3 e4
  have SH : ∀ t, SumS p (Span p n (addRows p (meetRows p n (A (i - 1)) (meetRows p n (A i) (B j))) (meetRows p n (B (j - 1)) (meetRows p n (A i) (B j))))) (Span p n (meetRows p n (A i) (B j))) t ↔ Dij p n A B i j t := fun t =>
    ⟨sum_least (h.sd hp i j) (fun u hu => IH u ((IS u).mp hu)) (fun w hw => (HS w).mp hw) t, fun z => sum_right (IR.sub hp.pos) (HR.sub hp.pos) ((HS t).mpr z)⟩
  refine ⟨e2, fun t z => (HS t).mp (e1 t z), fun t => ?_, ?_, ?_⟩
  · refine ((SH t).symm.trans (e3 t).symm).trans ⟨fun ⟨u, w, a, b, e⟩ => ⟨u, w, (IS u).mp a, b, e⟩, fun ⟨u, w, a, b, e⟩ => ⟨u, w, (IS u).mpr a, b, e⟩⟩
  · rw [dim_congr SH, ← IR.dim hp, dim_congr IS] at e4
    have f := dim_sum_span hp (h.sd hp (i - 1) j) BR.vec
    have f1 : dim n (SumS p (Dij p n A B (i - 1) j) (Span p n (meetRows p n (B (j - 1)) (meetRows p n (A i) (B j))))) = dim n (SumS p (Dij p n A B (i - 1) j) (Dij p n A B i (j - 1))) :=
      dim_congr fun t => ⟨fun ⟨u, w, a, b, e⟩ => ⟨u, w, a, (BS w).mp b, e⟩, fun ⟨u, w, a, b, e⟩ => ⟨u, w, a, (BS w).mpr b, e⟩⟩
    have f2 : dim n (Both (Dij p n A B (i - 1) j) (Span p n (meetRows p n (B (j - 1)) (meetRows p n (A i) (B j))))) = dim n (Dij p n A B (i - 1) (j - 1)) :=
      dim_congr fun t => ⟨fun z => ⟨z.1.1, ((BS t).mp z.2).2⟩, fun z => ⟨⟨z.1, h.up_b hp (by omega) hj2 t z.2⟩, (BS t).mpr ⟨h.up_a hp (by omega) hi2 t z.1, z.2⟩⟩⟩
    rw [f1, f2, dim_congr BS] at f
    omega
  · exact (leRows_iff hp IR HR).mpr fun t z => (HS t).mpr (IH t ((IS t).mp z))

theorem d0a (j : Nat) : dim n (Dij p n A B 0 j) = 0 := by
  have e : ∀ t, Dij p n A B 0 j t ↔ t = zeros n := fun t => ⟨fun z => by
    have := z.1
    rw [h.a0] at this
    exact this, fun z => by rw [z]; exact (h.sd hp 0 j).zero⟩
  rw [dim_congr e, dim_zero]
theorem d0b (i : Nat) : dim n (Dij p n A B i 0) = 0 := by
  have e : ∀ t, Dij p n A B i 0 t ↔ t = zeros n := fun t => ⟨fun z => by
    have := z.2
    rw [h.b0] at this
    exact this, fun z => by rw [z]; exact (h.sd hp i 0).zero⟩
  rw [dim_congr e, dim_zero]
theorem row_sum {i : Nat} (hi : i ≤ P) : ∀ m, m ≤ Q + 1 → (((List.range m).map fun j => (i + 1, j + 1)).map fun x => (cellV p n A B x).length).sum + dim n (Dij p n A B i m) = dim n (Dij p n A B (i + 1) m)
  | 0, _ => by rw [h.d0b hp, h.d0b hp]; rfl
  | m + 1, hm => by
    have ih := row_sum hi m (by omega)
    have c := (h.cell hp (i := i + 1) (j := m + 1) (by omega) (by omega) (by omega) hm).num
    rw [List.range_succ, List.map_append, List.map_append, List.sum_append]
    simp only [List.map_cons, List.map_nil, List.sum_cons, List.sum_nil]
    simp only [Nat.add_sub_cancel] at c
    omega
theorem all_sum : ∀ k, k ≤ P + 1 → (((List.range k).flatMap fun i => (List.range (Q + 1)).map fun j => (i + 1, j + 1)).map fun x => (cellV p n A B x).length).sum = dim n (Dij p n A B k (Q + 1))
  | 0, _ => by rw [h.d0a hp]; rfl
  | k + 1, hk => by
    have ih := all_sum k (by omega)
    have r := h.row_sum hp (i := k) (by omega) (Q + 1) (Nat.le_refl _)
    rw [List.range_succ (n := k), List.flatMap_append, List.map_append, List.sum_append]
    simp only [List.flatMap_cons, List.flatMap_nil, List.append_nil]
    omega
theorem dim_top : dim n (Dij p n A B (P + 1) (Q + 1)) = n := by
  refine Eq.trans (dim_congr (T := IsV p n) fun t => ⟨fun z => ?_, fun z => ⟨h.a1 t z, h.b1 t z⟩⟩) (dim_whole hp)
  exact (h.sa hp _).vec t z.1
theorem total : cnt (cellV p n A B) (allCells P Q) (fun _ => true) = n := by
  have := h.all_sum hp (P + 1) (Nat.le_refl _)
  rw [h.dim_top hp] at this
  unfold cnt allCells
  rw [List.filter_eq_self.mpr fun _ _ => rfl]
  exact this
theorem gen_vec (c : Nat × Nat → Bool) : ∀ r ∈ gen (cellV p n A B) (allCells P Q) c, IsV p n r := fun r hr => by
  obtain ⟨x, h1, _, h2⟩ := mem_gen.mp hr
  obtain ⟨m1, m2, m3, m4⟩ := mem_cells.mp h1
  exact (h.cell hp m1 m2 m3 m4).vec r h2
theorem gen_sub (c : Nat × Nat → Bool) : Sub p n (Span p n (gen (cellV p n A B) (allCells P Q) c)) := span_sub hp.pos (h.gen_vec hp c)
theorem gen_mem (c : Nat × Nat → Bool) {x : Nat × Nat} (hx : x ∈ allCells P Q) (hc : c x = true) : ∀ t, Span p n (cellV p n A B x) t → Span p n (gen (cellV p n A B) (allCells P Q) c) t :=
  span_least hp.pos (h.gen_sub hp c) fun r hr => span_mem hp.pos (h.gen_vec hp c) r (mem_gen.mpr ⟨x, hx, hc, hr⟩)
theorem gen_mono {c d : Nat × Nat → Bool} (hcd : ∀ x ∈ allCells P Q, c x = true → d x = true) : ∀ t, Span p n (gen (cellV p n A B) (allCells P Q) c) t → Span p n (gen (cellV p n A B) (allCells P Q) d) t :=
  span_least hp.pos (h.gen_sub hp d) fun r hr => by
    obtain ⟨x, h1, h2, h3⟩ := mem_gen.mp hr
    exact span_mem hp.pos (h.gen_vec hp d) r (mem_gen.mpr ⟨x, h1, hcd x h1 h2, h3⟩)
theorem rect : ∀ i j, i ≤ P + 1 → j ≤ Q + 1 → ∀ t, Span p n (gen (cellV p n A B) (allCells P Q) fun x => decide (x.1 ≤ i) && decide (x.2 ≤ j)) t ↔ Dij p n A B i j t := by
  have low : ∀ i j, i ≤ P + 1 → j ≤ Q + 1 → ∀ t, Span p n (gen (cellV p n A B) (allCells P Q) fun x => decide (x.1 ≤ i) && decide (x.2 ≤ j)) t → Dij p n A B i j t := fun i j hi hj =>
    span_least hp.pos (h.sd hp i j) fun r hr => by
      obtain ⟨x, h1, h2, h3⟩ := mem_gen.mp hr
      obtain ⟨m1, m2, m3, m4⟩ := mem_cells.mp h1
      obtain ⟨k1, k2⟩ := Bool.and_eq_true_iff.mp h2
      have C := h.cell hp m1 m2 m3 m4
      exact h.up_d hp (of_decide_eq_true k1) hi (of_decide_eq_true k2) hj r (C.inn r (span_mem hp.pos C.vec r h3))
  have high : ∀ m i j, i + j ≤ m → i ≤ P + 1 → j ≤ Q + 1 → ∀ t, Dij p n A B i j t → Span p n (gen (cellV p n A B) (allCells P Q) fun x => decide (x.1 ≤ i) && decide (x.2 ≤ j)) t := by
    intro m
    induction m with
    | zero =>
      intro i j hm hi hj t ht
      have := ht.1
      rw [show i = 0 by omega, h.a0] at this
      rw [show t = zeros n from this]
      exact (h.gen_sub hp _).zero
    | succ m ih =>
      intro i j hm hi hj t ht
      cases i with
      | zero =>
        have := ht.1
        rw [h.a0] at this
        rw [show t = zeros n from this]
        exact (h.gen_sub hp _).zero
      | succ i =>
        cases j with
        | zero =>
          have := ht.2
          rw [h.b0] at this
          rw [show t = zeros n from this]
          exact (h.gen_sub hp _).zero
        | succ j =>
          have C := h.cell hp (i := i + 1) (j := j + 1) (by omega) hi (by omega) hj
          have z := (C.all t).mp ht
          simp only [Nat.add_sub_cancel] at z
          refine sum_least (h.gen_sub hp _) (sum_least (h.gen_sub hp _) (fun u hu => ?_) (fun w hw => ?_)) (fun w hw => ?_) t z
          · refine h.gen_mono hp (fun x _ hx => ?_) u (ih i (j + 1) (by omega) (by omega) hj u hu)
            obtain ⟨k1, k2⟩ := Bool.and_eq_true_iff.mp hx
            have := of_decide_eq_true k1
            exact Bool.and_eq_true_iff.mpr ⟨decide_eq_true (by omega), k2⟩
          · refine h.gen_mono hp (fun x _ hx => ?_) w (ih (i + 1) j (by omega) hi (by omega) w hw)
            obtain ⟨k1, k2⟩ := Bool.and_eq_true_iff.mp hx
            have := of_decide_eq_true k2
            exact Bool.and_eq_true_iff.mpr ⟨k1, decide_eq_true (by omega)⟩
          · exact h.gen_mem hp _ (mem_cells.mpr ⟨by show 1 ≤ i + 1; omega, hi, by show 1 ≤ j + 1; omega, hj⟩) (by simp) w hw
  exact fun i j hi hj t => ⟨low i j hi hj t, high _ i j (Nat.le_refl _) hi hj t⟩
theorem gen_all (t : Vec) (ht : IsV p n t) : Span p n (gen (cellV p n A B) (allCells P Q) fun _ => true) t :=
  h.gen_mono hp (fun _ _ _ => rfl) t ((h.rect hp (P + 1) (Q + 1) (Nat.le_refl _) (Nat.le_refl _) t).mpr ⟨h.a1 t ht, h.b1 t ht⟩)
theorem gen_or (c d : Nat × Nat → Bool) (t : Vec) : Span p n (gen (cellV p n A B) (allCells P Q) fun x => c x || d x) t ↔ SumS p (Span p n (gen (cellV p n A B) (allCells P Q) c)) (Span p n (gen (cellV p n A B) (allCells P Q) d)) t := by
  constructor
  · refine span_least hp.pos (sum_sub hp.pos (h.gen_sub hp c) (h.gen_sub hp d)) (fun r hr => ?_) t
    obtain ⟨x, h1, h2, h3⟩ := mem_gen.mp hr
    rcases Bool.or_eq_true_iff.mp h2 with k | k
    · exact sum_left (h.gen_sub hp c) (h.gen_sub hp d) (span_mem hp.pos (h.gen_vec hp c) r (mem_gen.mpr ⟨x, h1, k, h3⟩))
    · exact sum_right (h.gen_sub hp c) (h.gen_sub hp d) (span_mem hp.pos (h.gen_vec hp d) r (mem_gen.mpr ⟨x, h1, k, h3⟩))
  · exact sum_least (h.gen_sub hp _) (h.gen_mono hp fun x _ k => by rw [k]; rfl) (h.gen_mono hp fun x _ k => by rw [k]; simp) t
/-- the vectors of the cells are independent: so many span so much -/
theorem gen_dim (c : Nat × Nat → Bool) : dim n (Span p n (gen (cellV p n A B) (allCells P Q) c)) = cnt (cellV p n A B) (allCells P Q) c := by
  have l1 := dim_span_le hp (h.gen_vec hp c)
  have l2 := dim_span_le hp (h.gen_vec hp fun x => !c x)
  rw [gen_len] at l1 l2
  have e := cnt_not (cellV p n A B) c (allCells P Q)
  rw [h.total hp] at e
  have s := dim_sum_span hp (h.gen_sub hp c) (h.gen_vec hp fun x => !c x)
  have a : n ≤ dim n (SumS p (Span p n (gen (cellV p n A B) (allCells P Q) c)) (Span p n (gen (cellV p n A B) (allCells P Q) fun x => !c x))) := by
    refine Nat.le_trans (Nat.le_of_eq (dim_whole (p := p) hp (n := n)).symm) (dim_mono fun t ht => (h.gen_or hp _ _ t).mp ?_)
    have := h.gen_all hp t ht
    rwa [gen_congr (d := fun x => c x || !c x) fun x _ => by cases c x <;> rfl] at this
  omega
theorem gen_and (c d : Nat × Nat → Bool) (t : Vec) : Span p n (gen (cellV p n A B) (allCells P Q) fun x => c x && d x) t ↔ Both (Span p n (gen (cellV p n A B) (allCells P Q) c)) (Span p n (gen (cellV p n A B) (allCells P Q) d)) t := by
  have low : ∀ t, Span p n (gen (cellV p n A B) (allCells P Q) fun x => c x && d x) t → Both (Span p n (gen (cellV p n A B) (allCells P Q) c)) (Span p n (gen (cellV p n A B) (allCells P Q) d)) t := fun t z =>
    ⟨h.gen_mono hp (fun x _ k => (Bool.and_eq_true_iff.mp k).1) t z, h.gen_mono hp (fun x _ k => (Bool.and_eq_true_iff.mp k).2) t z⟩
  refine ⟨low t, sub_eq hp (h.gen_sub hp _) (both_sub (h.gen_sub hp c) (h.gen_sub hp d)) low ?_ t⟩
  have s := dim_sum_span hp (h.gen_sub hp c) (h.gen_vec hp d)
  have o := h.gen_dim hp fun x => c x || d x
  rw [dim_congr (h.gen_or hp c d)] at o
  have e1 := h.gen_dim hp c
  have e2 := h.gen_dim hp d
  have e3 := h.gen_dim hp fun x => c x && d x
  have t2 := cnt_two (cellV p n A B) c d (allCells P Q)
  omega

theorem val_red : ∀ {w : CW}, Red p n (w.val p n A B)
  | .zero => Red.nil
  | .one => wholeRows_red hp
  | .a k => h.ra k
  | .b k => h.rb k
  | .plus x y => addRows_red hp val_red val_red
  | .cut x y => meetRows_red hp val_red val_red
theorem val_span : ∀ {w : CW}, w.ok P Q → ∀ t, Span p n (w.val p n A B) t ↔ Span p n (gen (cellV p n A B) (allCells P Q) w.has) t
  | .zero, _, t => by
    show t = zeros n ↔ Span p n (gen (cellV p n A B) (allCells P Q) fun _ => false) t
    have e : gen (cellV p n A B) (allCells P Q) (fun _ => false) = [] := by unfold gen; rw [List.filter_eq_nil_iff.mpr fun _ _ => by decide]; rfl
    rw [e]
    exact Iff.rfl
  | .one, _, t => (wholeRows_span hp t).trans ⟨h.gen_all hp t, (h.gen_sub hp _).vec t⟩
  | .a k, ok, t => by
    have hk : 1 ≤ k ∧ k ≤ P := ok
    have r := h.rect hp k (Q + 1) (by omega) (Nat.le_refl _) t
    rw [gen_congr (d := CW.has (.a k)) fun x hx => by
      have := mem_cells.mp hx
      show (decide (x.1 ≤ k) && decide (x.2 ≤ Q + 1)) = decide (x.1 ≤ k)
      rw [decide_eq_true this.2.2.2, Bool.and_true]] at r
    exact (r.trans ⟨fun z => z.1, fun z => ⟨z, h.b1 t ((h.sa hp k).vec t z)⟩⟩).symm
  | .b k, ok, t => by
    have hk : 1 ≤ k ∧ k ≤ Q := ok
    have r := h.rect hp (P + 1) k (Nat.le_refl _) (by omega) t
    rw [gen_congr (d := CW.has (.b k)) fun x hx => by
      have := mem_cells.mp hx
      show (decide (x.1 ≤ P + 1) && decide (x.2 ≤ k)) = decide (x.2 ≤ k)
      rw [decide_eq_true this.2.1, Bool.true_and]] at r
    exact (r.trans ⟨fun z => z.2, fun z => ⟨h.a1 t ((h.sb hp k).vec t z), z⟩⟩).symm
  | .plus x y, ok, t => by
    have o : x.ok P Q ∧ y.ok P Q := ok
    refine (addRows_span hp (h.val_red hp) (h.val_red hp) t).trans (Iff.trans ⟨fun ⟨u, w, a, b, e⟩ => ⟨u, w, (val_span o.1 u).mp a, (val_span o.2 w).mp b, e⟩, fun ⟨u, w, a, b, e⟩ => ⟨u, w, (val_span o.1 u).mpr a, (val_span o.2 w).mpr b, e⟩⟩ (h.gen_or hp x.has y.has t).symm)
  | .cut x y, ok, t => by
    have o : x.ok P Q ∧ y.ok P Q := ok
    refine (meetRows_span hp (h.val_red hp) (h.val_red hp) t).trans (Iff.trans ⟨fun z => ⟨(val_span o.1 t).mp z.1, (val_span o.2 t).mp z.2⟩, fun z => ⟨(val_span o.1 t).mpr z.1, (val_span o.2 t).mpr z.2⟩⟩ (h.gen_and hp x.has y.has t).symm)
/-- the cells of a word make up its dimension -/
theorem sized {w : CW} (ok : w.ok P Q) : (w.val p n A B).length = cnt (cellV p n A B) (allCells P Q) w.has := by
  rw [← (h.val_red hp (w := w)).dim hp, dim_congr (h.val_span hp ok), h.gen_dim hp]
/-- no cell parts them: the same value -/
theorem held_eq {x y : CW} (ox : x.ok P Q) (oy : y.ok P Q) (hxy : ∀ c ∈ allCells P Q, x.has c = y.has c) : x.val p n A B = y.val p n A B :=
  Red.unique hp (h.val_red hp) (h.val_red hp) fun t => (h.val_span hp ox t).trans (by rw [gen_congr hxy]; exact (h.val_span hp oy t).symm)
theorem held_le {x y : CW} (ox : x.ok P Q) (oy : y.ok P Q) (hxy : ∀ c ∈ allCells P Q, x.has c = true → y.has c = true) : leRows p n (x.val p n A B) (y.val p n A B) = true :=
  (leRows_iff hp (h.val_red hp) (h.val_red hp)).mpr fun t z => (h.val_span hp oy t).mpr (h.gen_mono hp hxy t ((h.val_span hp ox t).mp z))
end Ch
end
end HM
/-! part Ma6 -/
/-! Spaces counted: lists of all vectors. -/
namespace HM
open Classical

def putV (l : List Vec) (v : Vec) : List Vec := if v ∈ l then l else l ++ [v]
def timesL (p : Int) (row old : Vec) (m : List Vec) : List Vec := (List.range p.toNat).foldl (fun m (t : Nat) => putV m (comb p old (t : Int) row)) m
def spanStep (p : Int) (found : List Vec) (row : Vec) : List Vec := found.foldl (fun m old => timesL p row old m) []
def spanL (p : Int) (n : Nat) (rows : List Vec) : List Vec := rows.foldl (spanStep p) [zeros n]
def cutL (a b : List Vec) : List Vec := a.filter fun v => decide (v ∈ b)

section
variable {p : Int} {n : Nat}
theorem mem_putV {l : List Vec} {v w : Vec} : w ∈ putV l v ↔ w ∈ l ∨ w = v := by
  unfold putV
  split
  · rename_i h
    exact ⟨.inl, fun z => z.elim id fun e => e ▸ h⟩
  · simp
theorem nodup_putV {l : List Vec} {v : Vec} (h : l.Nodup) : (putV l v).Nodup := by
  unfold putV
  split
  · exact h
  · rename_i hn
    rw [List.nodup_append]
    exact ⟨h, by simp, fun a ha b hb => by rw [List.mem_singleton.mp hb]; rintro rfl; exact hn ha⟩
theorem mem_foldl {α : Type} {f : List Vec → α → List Vec} {G : α → Vec → Prop} (hf : ∀ m x w, w ∈ f m x ↔ w ∈ m ∨ G x w) : ∀ (l : List α) (m : List Vec) (w : Vec), w ∈ l.foldl f m ↔ w ∈ m ∨ ∃ x ∈ l, G x w
  | [], m, w => by simp
  | x :: l, m, w => by
    rw [List.foldl_cons, mem_foldl hf l, hf]
    simp only [List.mem_cons, exists_eq_or_imp, or_assoc]
theorem nodup_foldl {α : Type} {f : List Vec → α → List Vec} (hf : ∀ m x, m.Nodup → (f m x).Nodup) : ∀ (l : List α) (m : List Vec), m.Nodup → (l.foldl f m).Nodup
  | [], _, h => h
  | x :: l, m, h => nodup_foldl hf l _ (hf m x h)
theorem mem_timesL {row old : Vec} {m : List Vec} {w : Vec} : w ∈ timesL p row old m ↔ w ∈ m ∨ ∃ t ∈ List.range p.toNat, w = comb p old ((t : Nat) : Int) row :=
  mem_foldl (G := fun t w => w = comb p old ((t : Nat) : Int) row) (fun _ _ _ => mem_putV) _ m w
theorem mem_spanStep {found : List Vec} {row w : Vec} : w ∈ spanStep p found row ↔ ∃ old ∈ found, ∃ t ∈ List.range p.toNat, w = comb p old ((t : Nat) : Int) row := by
  unfold spanStep
  rw [mem_foldl (G := fun old w => ∃ t ∈ List.range p.toNat, w = comb p old ((t : Nat) : Int) row) (fun _ _ _ => mem_timesL)]
  simp
theorem nodup_timesL {row old : Vec} {m : List Vec} (h : m.Nodup) : (timesL p row old m).Nodup := nodup_foldl (fun _ _ h => nodup_putV h) _ m h
theorem nodup_spanStep {found : List Vec} {row : Vec} : (spanStep p found row).Nodup := nodup_foldl (fun _ _ h => nodup_timesL h) _ [] (by simp)
/-- the factor brought below p -/
theorem factor (hp : 0 < p) (c : Int) : ∃ t ∈ List.range p.toNat, ((t : Nat) : Int) = c % p := by
  have h1 := Int.emod_nonneg c (show p ≠ 0 by omega)
  have h2 := Int.emod_lt_of_pos c hp
  exact ⟨(c % p).toNat, List.mem_range.mpr (by omega), by omega⟩
theorem spanStep_iff (hp : 0 < p) {found : List Vec} {S : Vec → Prop} (hS : Sub p n S) (hf : ∀ v, v ∈ found ↔ S v) {row : Vec} (hr : IsV p n row) (w : Vec) : w ∈ spanStep p found row ↔ Add p n S row w := by
  rw [mem_spanStep, add_iff hp hS hr]
  constructor
  · rintro ⟨old, ho, t, _, e⟩
    exact ⟨old, t, (hf old).mp ho, e⟩
  · rintro ⟨s, c, hs, e⟩
    obtain ⟨t, ht, et⟩ := factor hp c
    refine ⟨s, (hf s).mpr hs, t, ht, ?_⟩
    rw [e, et, comb_mod (hS.vec s hs).len hr.len]
theorem spanL_go (hp : 0 < p) : ∀ (rows found done : List Vec), (∀ r ∈ rows, IsV p n r) → (∀ r ∈ done, IsV p n r) → (∀ v, v ∈ found ↔ Span p n done v) → ∀ v, v ∈ rows.foldl (spanStep p) found ↔ Span p n (rows.reverse ++ done) v
  | [], _, _, _, _, hf, v => by simpa using hf v
  | r :: rows, found, done, hr, hd, hf, v => by
    rw [List.foldl_cons, spanL_go hp rows (spanStep p found r) (r :: done) (fun x hx => hr x (List.mem_cons_of_mem _ hx))
      (fun x hx => (List.mem_cons.mp hx).elim (fun e => e ▸ hr r List.mem_cons_self) (hd x)) (spanStep_iff hp (span_sub hp hd) hf (hr r List.mem_cons_self)) v]
    simp
theorem spanL_iff (hp : 0 < p) {rows : List Vec} (h : ∀ r ∈ rows, IsV p n r) (v : Vec) : v ∈ spanL p n rows ↔ Span p n rows v := by
  unfold spanL
  rw [spanL_go hp rows _ [] h (fun _ z => by cases z) (fun v => by rw [List.mem_singleton]; exact Iff.rfl) v, List.append_nil]
  have h2 : ∀ r ∈ rows.reverse, IsV p n r := fun r hr => h r (List.mem_reverse.mp hr)
  exact ⟨span_mono hp h (fun r hr => span_mem hp h r (List.mem_reverse.mp hr)) v, span_mono hp h2 (fun r hr => span_mem hp h2 r (List.mem_reverse.mpr hr)) v⟩
theorem spanL_nodup (rows : List Vec) : (spanL p n rows).Nodup := by
  unfold spanL
  cases rows.eq_nil_or_concat with
  | inl h => rw [h]; simp
  | inr h =>
    obtain ⟨l, r, rfl⟩ := h
    rw [List.concat_eq_append, List.foldl_append]
    exact nodup_spanStep
/-- a list of all vectors of a span -/
theorem card_ex (hp : IsP p) : ∀ {rows : List Vec}, (∀ r ∈ rows, IsV p n r) → ∃ L : List Vec, L.Nodup ∧ (∀ v, v ∈ L ↔ Span p n rows v) ∧ L.length = p.toNat ^ dim n (Span p n rows)
  | [], _ => ⟨[zeros n], by simp, fun v => by rw [List.mem_singleton]; exact Iff.rfl, by
    show 1 = p.toNat ^ dim n (fun t => t = zeros n)
    rw [dim_zero]; rfl⟩
  | r :: rs, h => by
    have hr := h r List.mem_cons_self
    have h' : ∀ x ∈ rs, IsV p n x := fun x hx => h x (List.mem_cons_of_mem _ hx)
    have S := span_sub hp.pos h'
    obtain ⟨L, l1, l2, l3⟩ := card_ex hp h'
    by_cases c : Span p n rs r
    · exact ⟨L, l1, fun v => (l2 v).trans (add_of_mem S c v).symm, by
        show L.length = p.toNat ^ dim n (Add p n (Span p n rs) r)
        rw [dim_add_in S c]; exact l3⟩
    · refine ⟨L.flatMap fun s => (List.range p.toNat).map fun (t : Nat) => comb p s (t : Int) r, ?_, fun v => ?_, ?_⟩
      · -- two sums are the same only of the same parts
        have key : ∀ s ∈ L, ∀ t ∈ List.range p.toNat, ∀ s' ∈ L, ∀ t' ∈ List.range p.toNat, comb p s ((t : Nat) : Int) r = comb p s' ((t' : Nat) : Int) r → s = s' ∧ t = t' := by
          intro s hs t ht s' hs' t' ht' e
          have sV := S.vec s ((l2 s).mp hs)
          have sV' := S.vec s' ((l2 s').mp hs')
          have ht := List.mem_range.mp ht
          have ht' := List.mem_range.mp ht'
          have hpp := hp.pos
          -- s = s' + (t' - t) r
          have e1 : s = comb p s' ((t' : Int) - t) r := by
            have := congrArg (fun x => comb p x (-(t : Int)) r) e
            rw [comb_off sV hr.len, comb_twice sV'.len hr.len] at this
            exact this
          have e2 : ((t' : Int) - t) % p = 0 := by
            refine Classical.byContradiction fun hne => c ?_
            -- r from s and s'
            have A : Span p n rs (comb p (zeros n) ((t' : Int) - t) r) := by
              have z := S.comb _ (-1) _ ((l2 s).mp hs) ((l2 s').mp hs')
              have e3 : comb p (comb p s' ((t' : Int) - t) r) (-1) s' = comb p (zeros n) ((t' : Int) - t) r := by
                rw [comb_comm sV'.len hr.len sV'.len, comb_self sV'.len]
              rw [e1, e3] at z
              exact z
            have hcr : 0 ≤ ((t' : Int) - t) % p ∧ ((t' : Int) - t) % p < p := ⟨Int.emod_nonneg _ (by omega), Int.emod_lt_of_pos _ hpp⟩
            have hi := inv_mul hp (a := ((t' : Int) - t) % p) (by omega) hcr.2
            have z := S.comb _ (inv p (((t' : Int) - t) % p)) _ S.zero A
            have e4 : comb p (zeros n) (inv p (((t' : Int) - t) % p)) (comb p (zeros n) ((t' : Int) - t) r) = r := by
              rw [comb_assoc (by simp [zeros]) (by simp [zeros]) hr.len, comb_zeros (zeros_isV hpp), ← comb_mod (by simp [zeros]) hr.len]
              have e5 : inv p (((t' : Int) - t) % p) * ((t' : Int) - t) % p = 1 := by
                rw [← hi, Int.mul_emod, Int.mul_emod (inv p _) (((t' : Int) - t) % p), Int.emod_emod]
              rw [e5, zeros_comb hr]
            rwa [e4] at z
          have e3 : t = t' := by
            have := Int.emod_add_mul_ediv ((t' : Int) - t) p
            rw [e2] at this
            have hb : -p < (t' : Int) - t ∧ (t' : Int) - t < p := by omega
            have hk : ((t' : Int) - t) / p = 0 := by
              have g : ∀ k : Int, -p < p * k → p * k < p → k = 0 := fun k h1 h2 => by
                rcases Int.lt_trichotomy k 0 with h | h | h
                · have := Int.mul_le_mul_of_nonneg_left (show k ≤ -1 by omega) (show 0 ≤ p by omega)
                  omega
                · exact h
                · have := Int.mul_le_mul_of_nonneg_left (show 1 ≤ k by omega) (show 0 ≤ p by omega)
                  omega
              exact g _ (by omega) (by omega)
            rw [hk] at this
            omega
          refine ⟨?_, e3⟩
          rw [e1, e3, Int.sub_self, comb_zero sV' hr.len]
        rw [List.Nodup, List.pairwise_flatMap]
        refine ⟨fun s hs => ?_, l1.imp_of_mem fun {s s'} hs hs' hne x hx y hy => ?_⟩
        · rw [List.pairwise_map]
          refine List.Pairwise.imp_of_mem (fun {t t'} ht ht' hne e => hne (key s hs t ht s hs t' ht' e).2) (List.nodup_range (n := p.toNat))
        · obtain ⟨t, ht, rfl⟩ := List.mem_map.mp hx
          obtain ⟨t', ht', rfl⟩ := List.mem_map.mp hy
          exact fun e => hne (key s hs t ht s' hs' t' ht' e).1
      · rw [List.mem_flatMap]
        refine Iff.trans ?_ (add_iff hp.pos S hr v).symm
        constructor
        · rintro ⟨s, hs, hv⟩
          obtain ⟨t, _, rfl⟩ := List.mem_map.mp hv
          exact ⟨s, t, (l2 s).mp hs, rfl⟩
        · rintro ⟨s, k, hs, e⟩
          obtain ⟨t, ht, et⟩ := factor hp.pos k
          refine ⟨s, (l2 s).mpr hs, List.mem_map.mpr ⟨t, ht, ?_⟩⟩
          rw [e, et, comb_mod (S.vec s hs).len hr.len]
      · show _ = p.toNat ^ dim n (Add p n (Span p n rs) r)
        rw [dim_add_out hp S hr c, List.length_flatMap, Nat.pow_succ, ← l3]
        have e : (L.map fun s => ((List.range p.toNat).map fun (t : Nat) => comb p s (t : Int) r).length) = L.map fun _ => p.toNat := List.map_congr_left fun s _ => by simp
        rw [e]
        clear e l1 l2 l3
        induction L with
        | nil => simp
        | cons a L ih => simp only [List.map_cons, List.sum_cons, List.length_cons, ih]; rw [Nat.succ_mul]; omega
theorem card (hp : IsP p) {rows : List Vec} (h : ∀ r ∈ rows, IsV p n r) {L : List Vec} (h1 : L.Nodup) (h2 : ∀ v, v ∈ L ↔ Span p n rows v) : L.length = p.toNat ^ dim n (Span p n rows) := by
  obtain ⟨M, m1, m2, m3⟩ := card_ex hp h
  rw [← m3]
  exact ((List.perm_ext_iff_of_nodup h1 m1).mpr fun v => (h2 v).trans (m2 v).symm).length_eq
/-- the common vectors of two lists -/
theorem cut_card (hp : IsP p) {a b : List Vec} (ha : Red p n a) (hb : Red p n b) {K L : List Vec} (k1 : K.Nodup) (k2 : ∀ v, v ∈ K ↔ Span p n a v) (l2 : ∀ v, v ∈ L ↔ Span p n b v) :
    (cutL K L).length = p.toNat ^ dim n (Both (Span p n a) (Span p n b)) := by
  have M := meetRows_red hp ha hb
  rw [← dim_congr (meetRows_span hp ha hb)]
  refine card hp M.vec (k1.filter _) fun v => ?_
  refine Iff.trans ?_ (meetRows_span hp ha hb v).symm
  unfold cutL
  rw [List.mem_filter, k2, decide_eq_true_iff, l2]
  exact Iff.rfl
end
end HM
/-! part R1 -/
set_option maxHeartbeats 4000000
/-! Rules of our own: operators of own classes, enumerate of a tuple, dicts with tuple keys made and compared. -/
namespace HR
open PySem PySem.Spec PyProof.Rows L2

/-! ### a callee run at any place below the body -/
section
variable {X : Cx} {CX : CXT} {k : Nat} {f C : Addr} {fd : FuncData} {ps : List Str} {sp : Sp} {E : XK}
theorem run_fnA {A : Around} {pins : List (Addr × Obj)} {σ : L2.St} {H : Hp} {s : Shared} {Q : VK} {us : List Value} {vs : List V} (F : FnOk X.prog X.w X.K X.mg X.base CX k f fd ps sp) (sb : Sub X k A) (hb : Binds X.K fd ps []) (hx : Passes CX X E)
    (I : Inv X pins σ H s) (r : Vals vs us) (h : sp vs H Q E) : wpAny (model X.prog X.w) A (call (.ref f) us) (EP X pins σ Q) X.xe s := by
  have e0 : Env0 X.prog X.w X.K X.mg X.base A X.stack s H := by
    have e := I.env0
    exact ⟨by rw [sb.fr]; exact e.frames, e.mod, e.bs, e.bsz, e.funs, e.frf, e.hok, e.bare⟩
  have hl := F.len _ _ _ _ h
  refine wpAny_call (codeAny_mono (F.run A X.stack s H ⟨us, []⟩ us vs Q E sb.room e0 (by
    have := hb s us I.kIn (by rw [List.append_nil, ← r.length]; exact hl)
    simpa using this) r h) fun r s' hq => ?_)
  cases r with
  | error e => exact hx pins σ H s e s' I hq
  | ok fl =>
    cases fl with
    | ret u => exact I.after hq
    | next => exact False.elim hq
    | brk => exact False.elim hq
    | cont => exact False.elim hq

/-- what is known of an operator's method of the class at C -/
structure Own (K : PySem.W.Frag) (C : Addr) (m : Str) (f : Addr) : Prop where
  at_ : PySem.W.findIn K (.ref C) m = some (some (.ref f))
  fn : PySem.W.isFn K (.ref f) = true
def rOwn2 (C : Addr) (sp : Sp) (E : XK) : R2 := fun x y H Q => ∃ a b dx dy fs gs, x = .ref a ∧ y = .ref b ∧ H a = some (.ins C dx fs) ∧ H b = some (.ins C dy gs) ∧ sp [.ref a, .ref b] H Q E
theorem cmpBack_of {Q : Value → Shared → Prop} {v : V} {u : Value} {s' : Shared} (r : RelV v u) (h : Q u s') : PySem.W.CmpBack Q u s' := by
  cases u <;> first | exact h | skip
  cases v <;> first | (obtain ⟨_, e⟩ := r; cases e; done) | (cases r; done)
theorem op_ownB {op : Operator} (hc : PySem.W.selfFirst X.K C = true) (o : Own X.K C (PySem.dunder op.info.2) f) (F : FnOk X.prog X.w X.K X.mg X.base CX k f fd ps sp) (hr : Room k X.A) (hb : Binds X.K fd ps []) (hx : Passes CX X E) :
    OpR X (binaryOp op) (rOwn2 C sp E) := by
  intro pins s σ H x y v u Q I rx ry h
  obtain ⟨a, b, dx, dy, fs, gs, rfl, rfl, ha, hb', hsp⟩ := h
  cases rx
  cases ry
  obtain ⟨mA, J, _⟩ := ins_get I.hok ha
  obtain ⟨mB, J', _⟩ := ins_get I.hok hb'
  obtain ⟨od, J, _⟩ := J.look
  obtain ⟨od', J', _⟩ := J'.look
  obtain ⟨m, hF⟩ := I.fr
  refine PySem.W.binop_K (op := op) hF I.ok.mod.kin J J'.type hc o.at_ o.fn ?_
  refine thn (run_fnA (us := [.ref a, .ref b]) (vs := [.ref a, .ref b]) F ⟨hr, rfl⟩ hb hx I (.cons rfl (.cons rfl .nil)) hsp) fun w s' h => ?_
  obtain ⟨z, H', I', rz, q⟩ := h
  exact cmpBack_of rz ⟨z, H', I', rz, q⟩
theorem op_ownC {op : CmpOp} (hop : ∀ a b, compareOp op a b = richCompare op a b) (o : Own X.K C (cmpInfo op).2.1 f) (F : FnOk X.prog X.w X.K X.mg X.base CX k f fd ps sp) (hr : Room k X.A) (hb : Binds X.K fd ps []) (hx : Passes CX X E) :
    OpR X (compareOp op) (rOwn2 C sp E) := by
  intro pins s σ H x y v u Q I rx ry h
  obtain ⟨a, b, dx, dy, fs, gs, rfl, rfl, ha, hb', hsp⟩ := h
  cases rx
  cases ry
  obtain ⟨mA, J, _⟩ := ins_get I.hok ha
  obtain ⟨mB, J', _⟩ := ins_get I.hok hb'
  obtain ⟨od, J, _⟩ := J.look
  obtain ⟨od', J', _⟩ := J'.look
  obtain ⟨m, hF⟩ := I.fr
  rw [hop]
  refine PySem.W.cmp_K (op := op) (tb := .ref C) hr.units0 hF I.ok.mod.kin J J'.type (by simp [PySem.W.notFirst]) o.at_ o.fn ?_
  refine thn (run_fnA (us := [.ref a, .ref b]) (vs := [.ref a, .ref b]) F ⟨hr, rfl⟩ hb hx I (.cons rfl (.cons rfl .nil)) hsp) fun w s' h => ?_
  obtain ⟨z, H', I', rz, q⟩ := h
  exact cmpBack_of rz ⟨z, H', I', rz, q⟩
/-- len of an own instance -/
def rOwnLen (C : Addr) (sp : Sp) (E : XK) : List V → Hp → VK → Prop := fun xs H Q => ∃ a dx fs, xs = [.ref a] ∧ H a = some (.ins C dx fs) ∧ sp [.ref a] H (fun v H' => ∃ n : Int, v = .int n ∧ 0 ≤ n ∧ n < 2 ^ 63 ∧ Q (.int n) H') E
theorem call_ownLen (o : Own X.K C "__len__" f) (F : FnOk X.prog X.w X.K X.mg X.base CX k f fd ps sp) (hr : Room (k + 1) X.A) (hb : Binds X.K fd ps []) (hx : Passes CX X E) : CallR X (.builtin "len") (rOwnLen C sp E) := by
  intro pins s σ H xs us Q I r h
  obtain ⟨a, dx, fs, rfl, ha, hsp⟩ := h
  obtain ⟨u, rfl, rx⟩ := vals1 r
  obtain rfl : u = .ref a := rx
  obtain ⟨mA, J, _⟩ := ins_get I.hok ha
  obtain ⟨od, J, _⟩ := J.look
  obtain ⟨m, hF⟩ := I.fr
  refine PySem.W.len_K hF I.ok.mod.kin J o.at_ o.fn ?_
  refine thn (run_fnA (us := [.ref a]) (vs := [.ref a]) F (Sub.in1 ⟨hr, rfl⟩) hb hx I (.cons rfl .nil) hsp) fun w s' h => ?_
  obtain ⟨z, H', I', rz, n, rfl, h0, h1, q⟩ := h
  obtain ⟨t, rfl⟩ := rz
  exact ⟨⟨h0, h1⟩, .int n, H', I'.tok _, ⟨_, rfl⟩, q⟩
/-- o[i] of an own instance -/
def rOwnIx (C : Addr) (sp : Sp) (E : XK) : R2 := fun x y H Q => ∃ a dx fs, x = .ref a ∧ H a = some (.ins C dx fs) ∧ sp [.ref a, y] H Q E
theorem pe_ownIx {a b : Expr} {ta tb : TE} {pos : Pos} (o : Own X.K C "__getitem__" f) (hfi : PySem.W.fnIn X.K f = true) (F : FnOk X.prog X.w X.K X.mg X.base CX k f fd ps sp) (hr : Room (k + 1) X.A) (hb : Binds X.K fd ps []) (hx : Passes CX X E)
    (ha : PE X a ta) (hb' : PE X b tb) (hsl : ∀ x i, subscripted b true (.ref x) i = runValue (.builtin "lifetime.subscript" ⟨[.ref x, i], []⟩) := by intro _ _; with_unfolding_all rfl) :
    PE X (.Subscript a b pos) (tOp (rOwnIx C sp E) ta tb) := by
  refine ⟨fun pins s σ H Q I h => ?_⟩
  refine Subscript_ (binT ha hb' I h fun v u s2 x y H2 I2 rx ry q => ?_)
  obtain ⟨p, dx, fs, rfl, hp, hsp⟩ := q
  obtain rfl : v = .ref p := rx
  obtain ⟨mA, J, _⟩ := ins_get I2.hok hp
  obtain ⟨od, J, _⟩ := J.look
  obtain ⟨m, hF⟩ := I2.fr
  refine PySem.W.sub_K hF I2.ok.mod.kin J o.at_ hfi o.fn ?_ (hsl p u)
  exact run_fnA (us := [.ref p, u]) (vs := [.ref p, y]) F (Sub.in1 ⟨hr, rfl⟩) hb hx I2 (.cons rfl (.cons ry .nil)) hsp
end

/-! ### a local name that holds a class, called -/
def tMakeL (i : Nat) (C : Addr) (sp : Sp) (dvs : List V) (E : XK) (t : TA) : TE := fun σ H Q => σ[i]? = some (some (.ref C)) ∧ t σ H fun vs H1 => ∀ x dx, H1 x = none → H1 dx = none → dx ≠ x →
  sp (.ref x :: (vs ++ dvs)) (upd (upd H1 dx (.own x)) x (.ins C dx [])) (fun v H2 => v = .non ∧ Q (.ref x) H2) E
section
variable {X : Cx} {CX : CXT} {k i : Nat} {f C : Addr} {fd : FuncData} {ps : List Str} {sp : Sp} {dvs : List V} {ds : List Value} {E : XK} {x : Str} {p pos : Pos} {e : Expr} {es : List Expr} {t : TA}
theorem pe_makeL (M : Mk X.K C f) (F : FnOk X.prog X.w X.K X.mg X.base CX k f fd ps sp) (hr : Room (k + 1) X.A) (hN : X.N[i]? = some x) (hv : Vis X.env.scope x) (hb : Binds X.K fd ps ds) (hd : Vals dvs ds) (hx : Passes CX X E) (ha : PA X (e :: es) t)
    (hdb : (x == ("__debug__" : Str)) = false := by decide) (hcd : (x == ("__classdict__" : Str)) = false := by decide)
    (he : starEach (e :: es) X.env = (false, eval e X.env) :: starEach es X.env := by rfl) (hpl : (backTo pos (starEach es X.env)).any (·.1) = false := by rfl) : PE X (.Call (.Name x p) (e :: es) [] pos) (tMakeL i C sp dvs E t) := by
  refine ⟨fun pins s σ H Q I h => ?_⟩
  obtain ⟨hs, ht⟩ := h
  refine wpAny_Call_Name_kw (thn ((pe_var (pos := p) hN hv hdb hcd).run pins s σ H (fun v H1 => v = .ref C ∧ H1 = H) I ⟨.ref C, hs, rfl, rfl⟩) fun u s1 ⟨v, H1, I1, r1, q1⟩ => ?_)
  obtain ⟨rfl, rfl⟩ := q1
  cases r1
  refine PySem.W.callWith_K (h₀ := X.base) I.ok.mod.kin M.kp (thn (ha.run pos pins s1 σ _ _ I1 ht) fun us s2 ⟨vs, H2, I2, r, q⟩ => ⟨I2.kIn, ?_⟩) he hpl
  exact run_make M F hr hb hd hx I2 r q
end
end HR
/-! part R2 -/
set_option maxHeartbeats 4000000
/-! == of two dicts with tuple keys; a display and a comprehension that make one. -/
namespace HR
open PySem PySem.Spec PyProof.Rows L2
section
variable {prog : Program} {w : World} {K : Type} [DecidableEq K] {knd : HeapKind prog w K} {A : Around} {E : Value → Shared → Prop} {s : Shared}
theorem samePairsH {nm : String} {a b : Addr} {xa xb : List (K × Addr × Value)} {Q : Bool → Shared → Prop} (hu : knd.room A) (ha : (a == sysModules) = false) (hb : (b == sysModules) = false)
    (da : s.heap.DictOfH knd a xa) (db : s.heap.DictOfH knd b xb) (hl : xa.length = xb.length)
    (hits : ∀ (i : Nat) (k : K) (p : Addr × Value), xa[i]? = some (k, p) → ∃ (j : Nat) (q : Addr × Value), xb[j]? = some (k, q) ∧ SeqAt.EqAt A s p.2 q.2 true) (h : Q true s) :
    wpAny (model prog w) A (Builtin.Dict.samePairs nm a b) Q E s := by
  obtain ⟨oa, es, ep, hoa, _, hda, hea, hisa, hna⟩ := da
  obtain ⟨ob, es', ep', hob, _, hdb, heb, hisb, hnb⟩ := db
  have hla : xa.length = es.size := (size_of_entries hea).symm
  have hlb : xb.length = es'.size := (size_of_entries heb).symm
  unfold Builtin.Dict.samePairs Builtin.Dict.showsAll
  rw [if_neg (show ¬ (a == sysModules) = true by rw [ha]; exact Bool.false_ne_true), if_neg (show ¬ (b == sysModules) = true by rw [hb]; exact Bool.false_ne_true)]
  refine wpAny_bind (wpAny_pure (wpAny_bind (wpAny_pure ?_)))
  refine wpAny_bind (wpAny_dictEntries hoa hda ?_)
  dsimp only
  refine wpAny_bind (wpAny_dictEntries hob hdb ?_)
  have hsz : es.size = es'.size := by omega
  rw [if_neg (by rw [hsz]; simp)]
  refine wpAny_bind (wpAny_dictEpoch hoa hda ?_)
  refine wpAny_bind ?_
  rw [Std.Legacy.Range.forIn_eq_forIn_range']
  simp only [Std.Legacy.Range.size, Nat.sub_zero, Nat.add_sub_cancel, Nat.div_one]
  refine wpAny_forIn_list _
    (fun rest q s' => s' = s ∧ q = (none, ()) ∧ ∃ i, rest = List.range' i (es.size - i) ∧ i ≤ es.size)
    _ ?_ ?_ _ _ ⟨rfl, rfl, 0, by simp, Nat.zero_le _⟩
  · rintro x rest q s' ⟨rfl, rfl, i, hr, hi⟩
    have hlt : i < es.size := by
      rcases Nat.lt_or_ge i es.size with h | h
      · exact h
      · rw [Nat.sub_eq_zero_of_le h] at hr; simp at hr
    obtain ⟨rfl, hrest⟩ : x = i ∧ rest = List.range' (i + 1) (es.size - (i + 1)) := by
      have e : es.size - i = (es.size - (i + 1)) + 1 := by omega
      rw [e, List.range'_succ] at hr
      injection hr with h1 h2
      exact ⟨h1, h2⟩
    refine wpAny_bind (wpAny_dictEntries hoa hda ?_)
    have hlt' : x < xa.length := by rw [hla]; exact hlt
    obtain ⟨k, p, hkv⟩ : ∃ k p, xa[x]? = some (k, p) := ⟨_, _, List.getElem?_eq_getElem hlt'⟩
    have hex : es[x]? = some (entryOfKey knd (k, p)) := by rw [entry_at hea x, hkv]; rfl
    rw [hex]
    obtain ⟨j, q, hj, he⟩ := hits x k p hkv
    have hkey : knd.is s'.heap k p.1 := hisa (k, p) (List.mem_of_getElem? hkv)
    show wpAny _ _ (holding [Value.ref p.1, p.2] _ >>= _) _ _ _
    refine wpAny_bind (wpAny_holding (wpAny_bind (wpAny_dictFind_heap (a := p.1) hu hkey hob hdb heb hisb hnb (fun hno => absurd hj (hno j q)) (fun j2 q2 hj2 => ?_))))
    have ejj : j2 = j := by
      have h1 : (xb.map (·.1))[j2]? = some k := by rw [List.getElem?_map, hj2]; rfl
      have h2 : (xb.map (·.1))[j]? = some k := by rw [List.getElem?_map, hj]; rfl
      obtain ⟨l1, e1⟩ := List.getElem?_eq_some_iff.mp h1
      obtain ⟨l2, e2⟩ := List.getElem?_eq_some_iff.mp h2
      exact (List.getElem_inj hnb).mp (e1.trans e2.symm)
    subst ejj
    refine wpAny_bind (wpAny_dictEntries hob hdb ?_)
    have hej : es'[j2]? = some (entryOfKey knd (k, q)) := by rw [entry_at heb j2, hj]; rfl
    rw [hej]
    refine wpAny_holding (he prog w _ _ ?_)
    show wpAny _ _ (if (!true) = true then _ else _) _ _ _
    rw [if_neg (by decide)]
    refine wpAny_bind (wpAny_dictEpoch hoa hda ?_)
    rw [if_neg (by simp)]
    exact wpAny_pure ⟨rfl, rfl, x + 1, hrest, hlt⟩
  · rintro q s' ⟨rfl, rfl, i, hr, hi⟩
    exact wpAny_pure h
theorem eq_dictH {a b : Addr} {xa xb : List (K × Addr × Value)} {Q : Value → Shared → Prop} (hr : knd.room A.in1) (ha : (a == sysModules) = false) (hb : (b == sysModules) = false)
    (da : s.heap.DictOfH knd a xa) (db : s.heap.DictOfH knd b xb) (hu : A.units < cLine) (hl : xa.length = xb.length)
    (hits : ∀ (i : Nat) (k : K) (p : Addr × Value), xa[i]? = some (k, p) → ∃ (j : Nat) (q : Addr × Value), xb[j]? = some (k, q) ∧ SeqAt.EqAt A.in1 s p.2 q.2 true) (h : Q (.bool true) s) :
    wpAny (model prog w) A (compareOp .Eq (.ref a) (.ref b)) Q E s := by
  refine wpAny_richCompare_same_room (op := .Eq) da.typeIs db.typeIs PySem.F.slot_dict_eq (wpAny_call_entry PySem.F.slot_dict_eq da.typeIs PySem.F.entry_dict_eq ?_ (PySem.F.args_dict_eq_2 _ _)) hu
  show wpAny _ _ (Builtin.Dict.dictSlotArgs "__eq__" ⟨[.ref a, .ref b], []⟩ >>= _) _ _ s
  refine wpAny_bind ?_
  unfold Builtin.Dict.dictSlotArgs
  refine wpAny_bind (wpAny_notOrdered_dict da.typeIs ?_)
  show wpAny _ _ (pure (Value.ref a, Value.ref b)) _ _ s
  refine wpAny_pure ?_
  refine wpAny_bind (wpAny_isInstance (T := "dict") db.typeIs PySem.F.sub_dict_dict ?_)
  simp only [Bool.not_true, Bool.false_eq_true, if_false]
  refine wpAny_bind (wpAny_pure (wpAny_bind (wpAny_pure ?_)))
  refine wpAny_bind (samePairsH hr ha hb da db hl hits ?_)
  exact wpAny_pure ⟨_, rfl, (fun x => nomatch x), h⟩
end
/-- dicts with tuple keys that hold the same at the same keys, numbers alone -/
def rEqT : R2 := fun x y H Q => ∃ a b, ∃ ks ls : List (List Key × Int), x = .ref a ∧ y = .ref b ∧ H a = some (.dT (ks.map fun p => (p.1, V.int p.2))) ∧ H b = some (.dT (ls.map fun p => (p.1, V.int p.2))) ∧ ks.length = ls.length ∧ (∀ p ∈ ks, p ∈ ls) ∧ Q (.bl true) H
theorem op_eqT {X : Cx} (hu : X.A.units + 1 < cLine) : OpR X (compareOp .Eq) rEqT := by
  intro pins s σ H x y v u Q I rx ry h
  obtain ⟨a, b, ks, ls, rfl, rfl, ea, eb, hlen, hp, q⟩ := h
  cases rx
  cases ry
  obtain ⟨_, ha, xa, ra, da⟩ := dt_of I.hok ea
  obtain ⟨_, hb, xb, rb, db⟩ := dt_of I.hok eb
  have la : xa.length = ks.length := by rw [← Paired.length ra, List.length_map]
  have lb : xb.length = ls.length := by rw [← Paired.length rb, List.length_map]
  refine eq_dictH (knd := tupleKind (mixKind X.prog X.w)) (tupleKind_room_in1 hu) ha hb da db (by omega) (by omega) (fun i k p hi => ?_) ⟨.bl true, H, I, rfl, q⟩
  have hik : i < ks.length := by rw [← la]; exact (List.getElem?_eq_some_iff.mp hi).1
  have e1 : (ks.map fun p => (p.1, V.int p.2))[i]? = some (ks[i].1, V.int ks[i].2) := by rw [List.getElem?_map, List.getElem?_eq_getElem hik]; rfl
  obtain ⟨q1, h1, k1, k2, k3⟩ := paired_get ra e1
  rw [hi] at h1
  have h1' := Option.some.inj h1
  subst h1'
  obtain ⟨j, hj, ej⟩ := List.getElem_of_mem (hp ks[i] (List.getElem_mem hik))
  have e2 : (ls.map fun p => (p.1, V.int p.2))[j]? = some (ks[i].1, V.int ks[i].2) := by rw [List.getElem?_map, List.getElem?_eq_getElem hj, ej]; rfl
  obtain ⟨q2, h2, m1, m2, m3⟩ := paired_get rb e2
  obtain ⟨t1, f1⟩ := k3
  obtain ⟨t2, f2⟩ := m3
  refine ⟨j, q2.2, ?_, ?_⟩
  · rw [h2]
    have : q2.1 = k := m1.symm.trans k1
    rw [← this]
  · have f1' : p.2 = .int ks[i].2 t1 := f1
    rw [f1', f2]
    have := SeqAt.EqAt.int_int (A := X.A.in1) (s := s) ks[i].2 t1 ks[i].2 t2
    simpa using this

/-! ### {k: v}, the key a tuple -/
def tDispT (tk tv : TE) : TE := fun σ H Q => ∀ p, H p = none → tk σ (upd H p (.dT [])) fun x H1 => tv σ H1 fun y H2 => ∃ ks b, x = .ref b ∧ H2 b = some (.tup (ks.map kV)) ∧ H2 p = some (.dT []) ∧ Q (.ref p) (upd H2 p (.dT [(ks, y)]))
theorem pe_dispT {X : Cx} {pos : Pos} {ke ve : Expr} {tk tv : TE} (hu : X.A.units < cLine) (hk : PE X ke tk) (hv : PE X ve tv) : PE X (.Dict [some ke] [ve] pos) (tDispT tk tv) := by
  refine ⟨fun pins s σ H Q I q => ?_⟩
  have hn := I.hok.fresh (Nat.le_refl s.heap.objs.size)
  have I1 := I.laid (a := s.heap.objs.size) (o := .dT []) (h' := s.heap.push { cls := .type "dict", data := .dict #[] }) (t' := s.toks) (fun _ _ z => Heap.get?_push_of_some _ z) (Nat.le_refl _) (dt_empty s.heap I.big)
  rw [arm_eval_Dict, zip_pairTrees [some ke] [ve] X.env pos rfl rfl, dictDisplay_pairs (pairTrees [some ke] [ve] X.env pos) (by intro z; cases z) (by show (1 : Nat) < 17; decide)]
  refine wpAny_bind (wpAny_standAt (wpAny_bind (wpAny_subDictH (knd := tupleKind (mixKind X.prog X.w)) hu (by show (1 : Nat) ≤ 15; decide) (pairTrees_cons_walk (thn (hk.run pins _ σ _ _ I1 (q _ hn)) fun u s1 ⟨x, H1, I2, rx, q1⟩ => thn (hv.run pins s1 σ H1 _ I2 q1) fun v s2 ⟨y, H2, I3, ry, ks, b, ex, eb, ep, q2⟩ => pairTrees_nil_walk ?_)))))
  subst ex
  cases rx
  obtain ⟨z, hd, xs, r0, dd⟩ := dt_of I3.hok ep
  cases r0
  refine ⟨[(ks, b, v)], ⟨rfl, rfl, key_of I3.hok eb, trivial⟩, dd, fun h' tk' dd' hs => wpAny_pure ⟨.ref s.heap.objs.size, _, ?_, rfl, q2⟩⟩
  obtain ⟨o, es, epo, ho, h2, h3, h4, _, h5⟩ := dd'
  refine d_write I3 (by rw [ep]; exact True.intro) hs ⟨o, ho⟩ ⟨by show 1 ≤ sizeLine; decide, hd, [(ks, b, v)], .cons ⟨rfl, ?_, ry⟩ .nil, o, es, epo, ho, h2, h3, h4, h5⟩
  rw [upd_ne (ne_of eb ep (fun z => nomatch z))]
  exact eb
end HR
/-! part R3 -/
set_option maxHeartbeats 4000000
/-! A dict comprehension whose keys are tuples; enumerate of a tuple. -/
namespace HR
open PySem PySem.Spec PyProof.Rows L2
theorem d_dictSetT {X : Cx} {pins : List (Addr × Obj)} {σ : L2.St} {H : Hp} {s : Shared} {E : Value → Shared → Prop} {D b : Addr} {kvs : List (List Key × V)} {k : List Key} {v : V} {r : Value} {Q : Unit → Shared → Prop} (hu : X.A.units < cLine)
    (I : Inv X pins σ H s) (hD : H D = some (.dT kvs)) (hb : H b = some (.tup (k.map kV))) (hz : kvs.length < sizeLine) (rv : RelV v r) (h : ∀ s', Inv X pins σ (upd H D (.dT (putK kvs k v))) s' → Q () s') :
    wpAny (model X.prog X.w) X.A (dictSet D (.ref b) r) Q E s := by
  obtain ⟨z, hd, xs, rel, dd⟩ := dt_of I.hok hD
  have hzx : xs.length ≤ sizeLine := by rw [← Paired.length rel]; exact z
  have hl : (putK kvs k v).length ≤ sizeLine := by have := length_putK kvs k v; omega
  refine wpAny_dictSet_heap (knd := tupleKind (mixKind X.prog X.w)) (hsz := hzx) hu (key_of I.hok hb) dd fun h' dd' hs => h _ ?_
  obtain ⟨q, es, ep, hq, h2, h3, h4, _, h5⟩ := dd'
  refine d_write I (by rw [hD]; exact True.intro) hs ⟨q, hq⟩ ⟨hl, hd, _, (rel.put k hb rv).keeps fun c ys ec => ?_, q, es, ep, hq, h2, h3, h4, h5⟩
  rw [upd_ne (ne_of ec hD (fun z => nomatch z))]
  exact ec
section
variable {X : Cx}
/-- {k: v for target in iter if ..}, keys ints or texts: D the new dict -/
def tDcT (wi : TI) (g : TG) (tt : TT) (tk tv : TE) (vs : List Nat) : TE := fun σ H Q => wi σ H fun J H1 => ∀ D, H1 D = none → ∃ W : Nat → Nat → Hp → Prop, (∃ m, W 0 m (upd H1 D (.dT []))) ∧ ∀ i m H, W i m H →
  (J.stop i H ∧ Q (.ref D) H) ∨ (J.go i H ∧ ∃ Nx : Hp → Prop, (∀ H', Nx H' → ∃ m', m' < m ∧ W (i + 1) m' H') ∧ ∀ x H', J.yld i H x H' → g x (wipe σ vs) H' fun σ2 H2 => wipe σ2 vs = wipe σ vs ∧ tt σ2 H2 fun b H3 =>
    if b = true then tk σ2 H3 fun y H4 => tv σ2 H4 fun z H5 => ∃ kvs k b, y = .ref b ∧ H5 b = some (.tup (k.map kV)) ∧ H5 D = some (.dT kvs) ∧ kvs.length < sizeLine ∧ Nx (upd H5 D (.dT (putK kvs k z))) else Nx H3)
theorem dcT_core (hu : X.A.units < cLine) {pins : List (Addr × Obj)} {s : Shared} {σ : L2.St} {H : Hp} {Q : VK} {kx vx tg iter : Expr} {ifs : List Expr} {scope : Scope} {own : List (Str × Nat)} {pos pos' : Pos} {wi : TI} {g : TG} {tt : TT} {tk tv : TE} {use : Option (Value → Sem Unit)} {Qf : Value → Shared → Prop}
    (hc : X.calm = true) (hN : X.N.Nodup) (I : Inv X pins σ H s) (hi : PI X tg iter wi) (ok : BlkOk X.N X.env.scope scope own)
    (hg : ∀ (s : Shared) (H : Hp) (C : Addr) (cl : List (Str × Addr)) (fp : List Addr), PG (X.blk s H scope (compEnvC scope cl C X.env) fp) tg g) (ht : ∀ (s : Shared) (H : Hp) (C : Addr) (cl : List (Str × Addr)) (fp : List Addr), PTs (X.blk s H scope (compEnvC scope cl C X.env) fp) ifs tt)
    (hk : ∀ (s : Shared) (H : Hp) (C : Addr) (cl : List (Str × Addr)) (fp : List Addr), PE (X.blk s H scope (compEnvC scope cl C X.env) fp) kx tk)
    (he : ∀ (s : Shared) (H : Hp) (C : Addr) (cl : List (Str × Addr)) (fp : List Addr), PE (X.blk s H scope (compEnvC scope cl C X.env) fp) vx tv) (hs : ∀ x, foldedSetIterable iter X.env x = pure x)
    (h : tDcT wi g tt tk tv (own.map (·.2)) σ H Q)
    (hRR : ∀ D C s' m H', Inv X pins σ H' s' → Q (.ref D) H' → s'.heap.Ns C m → FpOk X pins H' C → compPost (model X.prog X.w) X.A X.xe use Qf (.ref D) C (.ok .next) s') :
    wpAny (model X.prog X.w) X.A (comprehension (.DictComp kx vx [⟨tg, iter, ifs, 0⟩] scope pos) scope X.env pos' newDict false (eval iter X.env) use) Qf X.xe s := by
  have hfree : ∀ y ∈ scope.names, y.2 = .free → ∃ c, X.env.cells.lookup y.1 = some c := fun y hy e => by
    rcases ok.free y hy e with k | k
    · exact I.ok.has _ (.inl k)
    · exact I.ok.has _ (.inr k)
  refine wpAny_comprehension_free (use := use) rfl hs (closure_ok hfree) ok.kind (fun y hy e => by rw [ok.uniq y hy, e])
    (thn (hi.run pins s σ H _ I h) fun xv s1 hx => thn hx fun itv s2 h2 => ?_)
  obtain ⟨it, fp, tn, J, H2, e, I2, T, st2, f2, q⟩ := h2
  subst e
  refine wpAny_newObj_type (newEnv_comp ?_)
  generalize hD : s2.heap.objs.size = D
  have hDn : H2 D = none := I2.hok.fresh (Nat.le_of_eq hD)
  obtain ⟨W, ⟨m0, w0⟩, turn⟩ := q D hDn
  -- the new list
  generalize hs3 : ({ s2 with heap := s2.heap.push { cls := .type "dict", data := .dict #[] } } : Shared) = s3
  have I3 : Inv X pins σ (upd H2 D (.dT [])) s3 := by
    rw [← hs3]
    refine I2.laid (t' := s2.toks) (fun b o e => Heap.get?_push_of_some _ e) (Nat.le_of_eq hD) ?_
    rw [← hD]
    exact dt_empty s2.heap I2.big
  have h3 : s3.heap = s2.heap.push { cls := .type "dict", data := .dict #[] } := by rw [← hs3]
  have sz : ∀ b ∈ fp, b < s2.heap.objs.size := fun b hb => by
    obtain ⟨o, e, _⟩ := T.obj _ _ st2 b hb
    exact Heap.lt_size e
  have f3 : ∀ b ∈ fp, FpOk X pins (upd H2 D (.dT [])) b ∧ b < s3.heap.objs.size := fun b hb => by
    have hlt := sz b hb
    refine ⟨⟨?_, (f2 b hb).2⟩, by rw [h3, Heap.size_push]; exact Nat.lt_succ_of_lt hlt⟩
    rw [upd_ne (by rw [← hD]; exact Nat.ne_of_lt hlt)]
    exact (f2 b hb).1
  have st3 : tn 0 s3.heap := T.keep _ _ _ st2 fun b _ o e => by rw [h3]; exact Heap.get?_push_of_some _ e
  have I4 := block_start I3 ok hN f3
  have pg := hg s3 (upd H2 D (.dT [])) s3.heap.objs.size (cellsFrom (s3.heap.objs.size + 1) scope.names (cloFrom X.env.cells scope.names [])) fp
  have pt := ht s3 (upd H2 D (.dT [])) s3.heap.objs.size (cellsFrom (s3.heap.objs.size + 1) scope.names (cloFrom X.env.cells scope.names [])) fp
  have pk := hk s3 (upd H2 D (.dT [])) s3.heap.objs.size (cellsFrom (s3.heap.objs.size + 1) scope.names (cloFrom X.env.cells scope.names [])) fp
  have pe := he s3 (upd H2 D (.dT [])) s3.heap.objs.size (cellsFrom (s3.heap.objs.size + 1) scope.names (cloFrom X.env.cells scope.names [])) fp
  show codeAny _ _ (.compStart (.DictComp kx vx [⟨tg, iter, ifs, 0⟩] scope pos) 0 (.ref it) (.ref D) (compEnvC scope (cellsFrom (s3.heap.objs.size + 1) scope.names (cloFrom X.env.cells scope.names [])) s3.heap.objs.size X.env)) (compPost (model X.prog X.w) X.A X.xe use Qf (.ref D) s3.heap.objs.size) { s3 with heap := pushCells (s3.heap.push { cls := .type "dict", data := .dict #[] }) scope.names }
  have nfp : ∀ b ∈ fp, (upd H2 D (.dT [])) b = none := fun b hb => (f3 b hb).1.1
  generalize hce : compEnvC scope (cellsFrom (s3.heap.objs.size + 1) scope.names (cloFrom X.env.cells scope.names [])) s3.heap.objs.size X.env = ce at I4 pg pt pk pe ⊢
  have cL : ce.locals = s3.heap.objs.size := by subst hce; rfl
  generalize hH3 : upd H2 D (.dT []) = H3 at I3 I4 pg pt pk pe w0 nfp f3
  generalize hs4 : ({ s3 with heap := pushCells (s3.heap.push { cls := .type "dict", data := .dict #[] }) scope.names } : Shared) = s4 at I4 ⊢
  have st4 : tn 0 s4.heap := T.keep _ _ _ st3 fun b _ o e => by rw [← hs4]; exact pushCells_keeps _ _ _ _ (Heap.get?_push_of_some _ e)
  have stat : ∀ {σ' : L2.St} {H' : Hp} {s' : Shared}, Inv (X.blk s3 H3 scope ce fp) [] σ' H' s' → (∀ b ∈ fp, H' b = none) → ∀ b ∈ fp, FpOk (X.blk s3 H3 scope ce fp) [] H' b := fun {σ' H' s'} I' hn b hb =>
    ⟨hn b hb, (I'.ok.exf b hb).1, I'.ok.exfs b hb, .inl hb, fun x c e => (I'.ok.exf b hb).2 x c e, fun p hp => absurd (show p ∈ ([] : List (Addr × Obj)) ++ [] from hp) (by simp)⟩
  have loop : codeAny (model X.prog X.w) X.A (.compLoop (.DictComp kx vx [⟨tg, iter, ifs, 0⟩] scope pos) 0 (.ref it) (.ref D) ce) (compPost (model X.prog X.w) X.A X.xe use Qf (.ref D) s3.heap.objs.size) s4 := by
    refine compLoop_anyD (fun n s' => ∃ i H', Inv (X.blk s3 H3 scope ce fp) [] (wipe σ (own.map (·.2))) H' s' ∧ tn i s'.heap ∧ (∀ b ∈ fp, H' b = none) ∧ W i n H') ?_ m0 ⟨0, H3, I4, st4, nfp, w0⟩
    rintro n s5 ⟨i, H5, I5, st5, n5, w5⟩
    rcases turn i n H5 w5 with ⟨stop, qq⟩ | ⟨go, Nx, hNx, step⟩
    · have td := T.done (X.blk s3 H3 scope ce fp) rfl rfl rfl hc i [] s5 _ H5 (fun _ _ => False) I5 (stat I5 n5) st5 stop
      refine thnF td fun r s6 ⟨hr, I6⟩ => ?_
      subst hr
      -- back in the def's context
      have I7 : Inv X pins σ H5 s6 := I3.call' (ch := fp) I6.os I6.base I6.hok I6.bare fun b hb => ⟨(f3 b hb).1.2.2.2.1, (f3 b hb).1.2.1, (f3 b hb).1.2.2.2.2.1, (f3 b hb).1.2.2.2.2.2⟩
      have nC : H5 s3.heap.objs.size = none := by
        have z : H5 ce.locals = none := I6.free
        rw [cL] at z
        exact z
      obtain ⟨m, hn, _⟩ := I6.loc
      have hn : s6.heap.Ns ce.locals m := hn
      rw [cL] at hn
      exact hRR D s3.heap.objs.size s6 m H5 I7 qq hn (I3.fpOk (Nat.le_refl _) nC)
    · have ti := T.item (X.blk s3 H3 scope ce fp) rfl rfl rfl hc i [] s5 _ H5 (fun _ _ => False) I5 (stat I5 n5) st5 go
      refine thnF ti fun r s6 ⟨u, hr, h6⟩ => ?_
      subst hr
      refine thnF h6 fun _ s7 ⟨x, H7, I7, r7, y7, st7, n7⟩ => ?_
      have I7' := I7.pinned (stat I7 n7) (T.obj _ _ st7)
      refine thnF (pg.run _ s7 _ H7 x u _ I7' r7 (step x H7 y7)) fun _ s8 ⟨σ8, H8, I8, hw8, q8⟩ => ?_
      refine thnF (pt.run _ s8 σ8 H8 _ I8 q8) fun b s9 ⟨H9, I9, q9⟩ => ?_
      -- the turn's end
      have fin : ∀ {s' : Shared} {H' : Hp}, Inv (X.blk s3 H3 scope ce fp) ([] ++ pinsAt fp s7.heap) σ8 H' s' → Nx H' → ∃ m, m < n ∧ ∃ i H', Inv (X.blk s3 H3 scope ce fp) [] (wipe σ (own.map (·.2))) H' s' ∧ tn i s'.heap ∧ (∀ b ∈ fp, H' b = none) ∧ W i m H' := fun {s' H'} I' nx => by
        obtain ⟨m', hm, w'⟩ := hNx H' nx
        have pin' : ∀ b ∈ fp, ∀ o, s7.heap.get? b = some o → s'.heap.get? b = some o ∧ H' b = none := fun b hb o e =>
          let z := I'.pin (b, o) (List.mem_append_right _ (List.mem_append_right _ (mem_pinsAt hb e)))
          ⟨z.1, z.2.1⟩
        have hl : (wipe σ (own.map (·.2))).length = σ8.length := by rw [← hw8, wipe_length]
        refine ⟨m', hm, i + 1, H', (I'.unpinned (pins := [])).weak hl (fun j v e => ?_), T.keep _ _ _ st7 fun b hb o e => (pin' b hb o e).1, fun b hb => ?_, w'⟩
        · rw [← hw8] at e
          exact (wipe_some e).1
        · obtain ⟨o, e, _⟩ := T.obj _ _ st7 b hb
          exact (pin' b hb o e).2
      cases b with
      | false =>
        simp only [Bool.false_eq_true, if_false] at q9 ⊢
        exact fin I9 q9
      | true =>
        simp only [if_true] at q9 ⊢
        refine thnF (pk.run _ s9 σ8 H9 _ I9 q9) fun z s10 ⟨yk, H10, I10, r10, q10⟩ => ?_
        refine thnF (pe.run _ s10 σ8 H10 _ I10 q10) fun z2 s11 ⟨yv, H11, I11, r11, kvs, k, bk, ek, hbk, hD11, hz11, nx⟩ => ?_
        subst ek
        cases r10
        exact d_dictSetT (X := X.blk s3 H3 scope ce fp) hu I11 hD11 hbk hz11 r11 fun s12 I12 => fin I12 nx
  exact codeAny_compStart_dict loop (T.self X.A 0 _ _ _ st4 loop)
/-- as a value -/
theorem pe_dcT (hu : X.A.units < cLine) {kx vx tg iter : Expr} {ifs : List Expr} {scope : Scope} {own : List (Str × Nat)} {pos : Pos} {wi : TI} {g : TG} {tt : TT} {tk tv : TE} (hc : X.calm = true) (hN : X.N.Nodup) (hi : PI X tg iter wi) (ok : BlkOk X.N X.env.scope scope own)
    (hg : ∀ (s : Shared) (H : Hp) (C : Addr) (cl : List (Str × Addr)) (fp : List Addr), PG (X.blk s H scope (compEnvC scope cl C X.env) fp) tg g) (ht : ∀ (s : Shared) (H : Hp) (C : Addr) (cl : List (Str × Addr)) (fp : List Addr), PTs (X.blk s H scope (compEnvC scope cl C X.env) fp) ifs tt)
    (hk : ∀ (s : Shared) (H : Hp) (C : Addr) (cl : List (Str × Addr)) (fp : List Addr), PE (X.blk s H scope (compEnvC scope cl C X.env) fp) kx tk)
    (he : ∀ (s : Shared) (H : Hp) (C : Addr) (cl : List (Str × Addr)) (fp : List Addr), PE (X.blk s H scope (compEnvC scope cl C X.env) fp) vx tv) (hs : ∀ x, foldedSetIterable iter X.env x = pure x := by intro _; rfl) :
    PE X (.DictComp kx vx [⟨tg, iter, ifs, 0⟩] scope pos) (tDcT wi g tt tk tv (own.map (·.2))) := by
  refine ⟨fun pins s σ H Q I h => ?_⟩
  rw [arm_eval_DictComp]
  refine dcT_core hu hc hN I hi ok hg ht hk he hs h fun D C s' m H' I' q hn f => ⟨m, hn, fun h'' sb => ?_⟩
  obtain ⟨f0, f1, f2, f3, f4, f5⟩ := f
  exact ⟨.ref D, H', I'.turned (t' := s'.toks) (fun b o hb e => (sb.2 b hb).trans e) f0 f1 f3 f4 f5, rfl, q⟩
end
end HR
/-! part R4 -/
set_option maxHeartbeats 4000000
/-! enumerate of a tuple; zip of tuples as a walk. -/
namespace HR
open PySem PySem.Spec PyProof.Rows L2

theorem enum_newB {v : Value} {o : Obj} {Hh : Heap → Prop} (B : Begins v o Hh) :
    Meets (Builtin.«enumerate.__new__» ⟨[.type "enumerate", v], []⟩) (fun _ R s => Hh s.heap ∧
      R (.ok (.ret (.ref (s.heap.push o).objs.size))) { s with heap := (s.heap.push o).push { cls := .type "enumerate", data := .fields #[.none, .bool false, .ref s.heap.objs.size, rawInt 0, .none, .none] } }) :=
  .of_wp fun prog w A R s h => by
    obtain ⟨hp, g, d, tk, os⟩ := s; obtain ⟨h1, h⟩ := h
    have hsub := sub_enumerate
    have q1 : ∀ {A' : Around} {E : Value → Shared → Prop} {Q : Value → Shared → Prop}, Q (.ref hp.objs.size) ⟨hp.push o, g, d, tk, os⟩ → wpAny (model prog w) A' (pyIter v) Q E ⟨hp, g, d, tk, os⟩ :=
      fun q => B.iter prog w _ _ ⟨hp, g, d, tk, os⟩ _ h1 q
    wp_walk using q1
    refine wpAny_stack_any fun st => wpAny_pure ?_
    split
    · rename_i c _ _ _ _ _
      cases (c == Value.type "enumerate")
      · wp_walk using q1
        exact ⟨_, rfl, h⟩
      · wp_walk using q1
        exact ⟨_, rfl, h⟩
    · wp_walk using q1
      exact ⟨_, rfl, h⟩
section
variable {prog : Program} {w : World} {A : Around} {E : Value → Shared → Prop} {s : Shared}
theorem call_enumB {v : Value} {o : Obj} {Hh : Heap → Prop} {Q : Value → Shared → Prop} (B : Begins v o Hh) (h1 : Hh s.heap)
    (h : ∀ h', IsEnum h' (s.heap.objs.size + 1) s.heap.objs.size 0 .none → h'.get? s.heap.objs.size = some o → h'.objs.size = s.heap.objs.size + 2 →
      (∀ b o, s.heap.get? b = some o → h'.get? b = some o) → Q (.ref (s.heap.objs.size + 1)) { s with heap := h' }) :
    wpAny (model prog w) A (call (.type "enumerate") [v]) Q E s := by
  refine callType_new F.called_enumerate (by decide) (F.typeCall_enumerate_1 _) (F.newCall_enumerate_1 _) (fun obj => F.args_object_init_2 obj _) F.entry_enumerate_new
    (enum_newB B) ⟨h1, ?_⟩
  have hz : (s.heap.push o).objs.size = s.heap.objs.size + 1 := Heap.size_push ..
  show _ ∧ _
  rw [hz]
  have he : IsEnum ((s.heap.push o).push { cls := .type "enumerate", data := .fields #[.none, .bool false, .ref s.heap.objs.size, rawInt 0, .none, .none] }) (s.heap.objs.size + 1) s.heap.objs.size 0 .none := by
    have e := Heap.get?_push_size (s.heap.push o) (o := { cls := .type "enumerate", data := .fields #[.none, .bool false, .ref s.heap.objs.size, rawInt 0, .none, .none] }) rfl
    rw [hz] at e; exact e
  refine ⟨⟨_, he, rfl⟩, h _ he (Heap.get?_push_of_some _ (Heap.get?_push_size _ B.free)) (by rw [Heap.size_push, hz]) fun b o x => Heap.get?_push_of_some _ (Heap.get?_push_of_some _ x)⟩
end
/-- the tuple at a as it stands at each turn, the items counted -/
def IteT (K : PySem.W.Frag) (a : Addr) : It :=
  ⟨fun i H => ∃ (xs : List V) (x : V), SqT K H a xs ∧ xs[i]? = some x, fun i H v H' => ∃ T x, v = .ref T ∧ H T = none ∧ H' = upd H T (.tup [.int (i : Nat), x]) ∧ ∀ xs, SqT K H a xs → xs[i]? = some x, fun i H => ∃ xs : List V, SqT K H a xs ∧ xs.length = i⟩
theorem turn_enumT {P : Program} {w : World} {K : PySem.W.Frag} {elts : List Expr} {kk : Nat} {tpos : Pos} (a e it : Addr) :
    Turn P w K (.Tuple elts kk tpos) (IteT K a) [e, it] e (fun i h => (∃ old, IsEnum h e it ((i : Nat) : Int) old) ∧ h.IsTupleIter it a i ∧ e ≠ it ∧ a ≠ it ∧ a ≠ e) where
  mem := by simp
  obj := fun i h st b hb => by
    obtain ⟨⟨old, he⟩, ⟨o, ho, hc, hd⟩, _⟩ := st
    have e' : b = e ∨ b = it := by simpa using hb
    rcases e' with z | z
    · rw [z]; exact ⟨_, he, fun v q => nomatch q⟩
    · rw [z]; exact ⟨o, ho, fun v q => by rw [hd] at q; cases q⟩
  keep := fun i h h' st k => let ⟨⟨old, he⟩, hi, hne⟩ := st; ⟨⟨old, k e (by simp) _ he⟩, hi.at fun o q => k it (by simp) o q, hne⟩
  item := by
    intro X hP hw hK hc i pins s σ H E I hf st hg
    subst hP hw hK
    obtain ⟨⟨old, he⟩, hit, hne, hai, hae⟩ := st
    obtain ⟨xs, x, hq, hx⟩ := hg
    obtain ⟨its, rv, p, hz⟩ := I.tuple hq
    obtain ⟨u, hu, ru⟩ := rv.get hx
    have hel : e < s.heap.objs.size := Heap.lt_size he
    have hil : it < s.heap.objs.size := by obtain ⟨_, q, _⟩ := hit; exact Heap.lt_size q
    have hlt : i < its.toArray.size := by
      have := (List.getElem?_eq_some_iff.mp hu).1
      simpa using this
    have D := Draws.tuple (prog := X.prog) (w := X.w) (A := X.A.in1) (by have := I.ok.hd hc; exact this) it a hai its.toArray
    refine wpAny_pyNext_enum_itemD D he ⟨hit, p⟩ hlt hne (by simp; exact ⟨hne, fun z => hae z.symm⟩) fun x' h' tk hP ho hst' hT hsz hk => ?_
    have hux : x' = u := by
      have h1 : its[i]? = some x' := by simpa using hP
      rw [hu] at h1
      exact (Option.some.inj h1).symm
    subst hux
    refine ⟨_, rfl, wpAny_letOwnedTupleGo_enum (s := { s with heap := h', toks := tk + 1 }) ho fun h'' he' sb => ?_⟩
    have hT2 : h''.get? s.heap.objs.size = some { cls := .type "tuple", data := .seq #[.int i tk, x'] } := (sb.2 _ (Nat.ne_of_gt hel)).trans hT
    have new : ObjOk X.prog X.w (upd H s.heap.objs.size (.tup [.int (i : Nat), x])) h'' s.heap.objs.size (.tup [.int (i : Nat), x]) :=
      ⟨by show 2 ≤ sizeLine; decide, [.int i tk, x'], .cons ⟨_, rfl⟩ (.cons ru .nil), ⟨_, hT2, rfl, _, rfl⟩⟩
    have I1 : Inv X pins σ (upd H s.heap.objs.size (.tup [.int (i : Nat), x])) { s with heap := h'', toks := tk + 1 } :=
      I.turnedNew (ch := [e, it]) (fun b ob hb q => (sb.2 b (fun z => hb (by simp [z]))).trans (hk b ob (fun z => hb (by simp [z])) (fun z => hb (by simp [z])) q)) hf (Nat.le_refl _) new
    refine ⟨.ref s.heap.objs.size, _, I1, rfl, ⟨_, x, rfl, I.hok.fresh (Nat.le_refl _), rfl, fun ys hy => by rw [I.tuple_inj hy hq]; exact hx⟩, ⟨⟨x', ?_⟩, hst'.1.at fun o q => (sb.2 it (Ne.symm hne)).trans q, hne, hai, hae⟩, fun b hb => ?_⟩
    · have e1 : ((i + 1 : Nat) : Int) = (i : Int) + 1 := by omega
      rw [e1]; exact he'
    · have hb' : b < s.heap.objs.size := by
        have e' : b = e ∨ b = it := by simpa using hb
        rcases e' with z | z
        · rw [z]; exact hel
        · rw [z]; exact hil
      rw [upd_ne (Nat.ne_of_lt hb')]
      exact (hf b hb).1
  done := by
    intro X hP hw hK hc i pins s σ H E I hf st hg
    subst hP hw hK
    obtain ⟨⟨old, he⟩, hit, hne, hai, hae⟩ := st
    obtain ⟨xs, hq, hx⟩ := hg
    obtain ⟨its, rv, p, hz⟩ := I.tuple hq
    obtain ⟨f0, f1, f2, f3, f4, f5⟩ := hf it (by simp)
    have hl := rv.length
    have D := Draws.tuple (prog := X.prog) (w := X.w) (A := X.A.in1) (by have := I.ok.hd hc; exact this) it a hai its.toArray
    have ei : i = its.toArray.size := by simp; omega
    subst ei
    exact wpAny_pyNext_enum_endD D he ⟨hit, p⟩ fun h' eb => ⟨rfl, I.turned (t' := s.toks) (fun b o hb q => eb b o hb q) f0 f1 f3 f4 f5⟩
  self := fun A i s Q E st h => let ⟨⟨_, he⟩, _⟩ := st; wpAny_pyIter_enum he h
def iEnumT (K : PySem.W.Frag) (ta : TA) : TI := fun σ H R => ta σ H fun vs H1 => ∃ a xs, vs = [.ref a] ∧ SqT K H1 a xs ∧ R (IteT K a) H1
theorem pi_enumT {X : Cx} {e : Expr} {ta : TA} {p pos tpos : Pos} {elts : List Expr} {kk : Nat} (hg : Gl X "enumerate") (hm : X.mg "enumerate" = none) (ha : PA X [e] ta) (hs : starEach [e] X.env = [(false, eval e X.env)] := by rfl) :
    PI X (.Tuple elts kk tpos) (.Call (.Name "enumerate" p) [e] [] pos) (iEnumT X.K ta) := by
  refine ⟨fun pins s σ H R I h => ?_⟩
  refine Call_ (ld_blt I hg hm boot_enumerate (PyProof.Rows.callWith_type1 (thn (ha.run pos pins s σ H _ I h) fun us s1 ⟨vs, H1, I1, r1, q1⟩ => ?_) hs rfl))
  obtain ⟨a, xs, ex, hq, q⟩ := q1
  subst ex
  cases r1 with
  | cons r rr =>
    cases rr
    cases r
    obtain ⟨its, rv, p', hz⟩ := I1.tuple hq
    have hal : a < s1.heap.objs.size := by obtain ⟨o, ho, _⟩ := p'; exact Heap.lt_size ho
    refine call_enumB (begins_tuple a its.toArray) p' fun h' he hit hsz hk => wpAny_pyIter_enum he ?_
    have I2 : Inv X pins σ H1 { s1 with heap := h' } := I1.kept (t' := s1.toks) hk
    refine ⟨s1.heap.objs.size + 1, [s1.heap.objs.size + 1, s1.heap.objs.size], _, _, H1, rfl, I2, turn_enumT a (s1.heap.objs.size + 1) s1.heap.objs.size, ⟨⟨.none, he⟩, ⟨_, hit, rfl, rfl⟩, Nat.succ_ne_self _, Nat.ne_of_lt hal, Nat.ne_of_lt (Nat.lt_succ_of_lt hal)⟩, fun b hb => ?_, q⟩
    have e' : b = s1.heap.objs.size + 1 ∨ b = s1.heap.objs.size := by simpa using hb
    have hle : s1.heap.objs.size ≤ b := by
      rcases e' with z | z
      · rw [z]; exact Nat.le_add_right _ _
      · rw [z]; exact Nat.le_refl _
    exact I1.fpOk hle (I1.hok.fresh hle)
section
variable {K : PySem.W.Frag} {a b : Addr} {xs ys : List V}
theorem walk_enumT : Walk (IteT K a) xs.length (fun H => SqT K H a xs) (YPair (fun i => some (.int (i : Nat))) (fun i => xs[i]?)) := by
  refine ⟨fun i _ hi q => ⟨xs, xs[i], q, by simp [hi]⟩, fun _ q => ⟨xs, q, rfl⟩, fun i H v H' _ q y => ?_⟩
  obtain ⟨T, x, h1, h2, h3, h4⟩ := y
  exact ⟨T, .int (i : Nat), x, h1, h2, h3, rfl, h4 xs q⟩
theorem walk_zipT {n : Nat} (hn : n = min xs.length ys.length) : Walk (RZ.ItzT K a b) n (fun H => SqT K H a xs ∧ SqT K H b ys) (YPair (fun i => xs[i]?) (fun i => ys[i]?)) := by
  subst hn
  refine ⟨fun i _ hi q => ?_, fun _ q => ⟨xs, ys, q.1, q.2, by omega⟩, fun i H v H' _ q y => ?_⟩
  · have h1 : i < xs.length := by omega
    have h2 : i < ys.length := by omega
    exact ⟨xs, ys, xs[i], ys[i], q.1, q.2, by simp [h1], by simp [h2]⟩
  · obtain ⟨T, x, z, h1, h2, h3, h4, h5⟩ := y
    exact ⟨T, x, z, h1, h2, h3, h4 xs q.1, h5 ys q.2⟩
end
end HR
/-! part R5 -/
set_option maxHeartbeats 4000000
/-! name = {k: v for ..}, the keys tuples. -/
namespace HR
open PySem PySem.Spec PyProof.Rows L2
section
variable {X : Cx}
theorem ps_setDcT (hu : X.A.units < cLine) {i : Nat} {y : Str} {py : Pos} {kx vx tg iter : Expr} {ifs : List Expr} {scope : Scope} {own : List (Str × Nat)} {pos spos : Pos} {wi : TI} {g : TG} {tt : TT} {tk tv : TE} (hc : X.calm = true) (hN : X.N.Nodup) (hy : X.N[i]? = some y) (hyl : X.env.scope.names.lookup y = some .local)
    (hsw : swapsWith (.DictComp kx vx [⟨tg, iter, ifs, 0⟩] scope pos) (some (.Name y py)) spos.line X.env = pure true) (hi : PI X tg iter wi) (ok : BlkOk X.N X.env.scope scope own)
    (hg : ∀ (s : Shared) (H : Hp) (C : Addr) (cl : List (Str × Addr)) (fp : List Addr), PG (X.blk s H scope (compEnvC scope cl C X.env) fp) tg g) (ht : ∀ (s : Shared) (H : Hp) (C : Addr) (cl : List (Str × Addr)) (fp : List Addr), PTs (X.blk s H scope (compEnvC scope cl C X.env) fp) ifs tt)
    (hk : ∀ (s : Shared) (H : Hp) (C : Addr) (cl : List (Str × Addr)) (fp : List Addr), PE (X.blk s H scope (compEnvC scope cl C X.env) fp) kx tk)
    (he : ∀ (s : Shared) (H : Hp) (C : Addr) (cl : List (Str × Addr)) (fp : List Addr), PE (X.blk s H scope (compEnvC scope cl C X.env) fp) vx tv) (hs : ∀ x, foldedSetIterable iter X.env x = pure x := by intro _; rfl) :
    PS X (.Assign [.Name y py] (.DictComp kx vx [⟨tg, iter, ifs, 0⟩] scope pos) spos) (tAsg (tDcT wi g tt tk tv (own.map (·.2))) (gName i)) := by
  refine ⟨fun pins s σ H D I h => ?_⟩
  rw [exec_Assign_Name_used _ _ _ _ hsw]
  refine wpAny_bind (wpAny_standAt (wpAny_bind ?_))
  show wpAny _ X.A (do let _ ← comprehension (.DictComp kx vx [⟨tg, iter, ifs, 0⟩] scope pos) scope X.env (firstIterPos [⟨tg, iter, ifs, 0⟩] pos) newDict false (eval iter X.env) (some (assign (.Name y py) X.env))) _ _ s
  have h : tDcT wi g tt tk tv (own.map (·.2)) σ H (fun x H1 => gName i x σ H1 D.nx) := h
  refine wpAny_bind (thn (dcT_core hu (Qf := fun _ s' => SP X pins D .next s') hc hN I hi ok hg ht hk he hs h fun L C s' m H' I' q hn f => ?_) fun _ s' hq => wpAny_pure (wpAny_pure hq))
  show wpAny _ _ (assign (.Name y py) X.env (.ref L)) _ _ _
  refine wpAny_assign_Name (store_ok2 (v := V.ref L) I' hN hy (.inl hyl) rfl (fun s2 I2 ⟨a, sb, ha⟩ => ?_) (.inr hyl))
  obtain ⟨f0, f1, f2, f3, f4, f5⟩ := f
  have haC : C ≠ a := by
    rcases ha with z | z
    · rw [z]; exact f1
    · exact fun e => f4 y a z e.symm
  refine ⟨m, hn.sameBut sb haC, fun h3 sb3 => ?_⟩
  exact ⟨_, H', I2.turned (t' := s2.toks) (fun b o hb e => (sb3.2 b hb).trans e) f0 f1 f3 f4 f5, q⟩
theorem sw_trueD {kx vx : Expr} {gs : List Comprehension} {scope : Scope} {pos py : Pos} {y : Str} {l : Nat} {env : Env} (hk : env.scope.kind = .function) (hy : env.scope.names.lookup y = some .local) (hl : (py.line == pos.line) = true)
    (ha : (scope.names.any fun (n, k) => n == y && (k == .local || k == .cell)) = false) : swapsWith (.DictComp kx vx gs scope pos) (some (.Name y py)) l env = pure true := by
  have ky : env.kindOf y = some .local := hy
  have hb : env.blockKind = .function := by unfold Env.blockKind; rw [hk]; rfl
  unfold swapsWith
  simp only [hb, ky, ha, Expr.pos, hl]
  rfl
end
end HR
/-! part V1 -/
set_option maxHeartbeats 4000000
/-! What an expression gives, told by a relation over a part L of the heap: what is told stands in L, and nobody but the body itself changes what is not in L; T: the tapes, which may be drawn from. -/
namespace HV
open PySem PySem.Spec PyProof.Rows L2 HR
open Evl (Ex)

abbrev Rep := V → Hp → Prop
abbrev RepA := List V → Hp → Prop
abbrev Tap := Addr → Prop
/-- no tape -/
def T0 : Tap := fun _ => False
def T1 (p : Addr) : Tap := fun a => a = p
/-- a tape: its own store is big, two small ones -/
def Tp (H : Hp) (a : Addr) : Prop := ∃ i j k : Int, H a = some (.lst [.int i, .int j, .int k]) ∧ 0 ≤ i ∧ (0 ≤ j ∧ j < 2147483648) ∧ (0 ≤ k ∧ k < 2147483648)
class Gr {α : Type} (R : α → Hp → Prop) : Prop where
  up : ∀ v H H', Ex H H' → R v H → R v H'
def Ok (T : Tap) (L H : Hp) : Prop := Ex L H ∧ ∀ a, T a → Tp H a ∧ L a = none
/-- no tuple: what may be of one's own -/
def Mutb (o : HO) : Prop := ∀ xs, o ≠ .tup xs
theorem tp_mutb {H : Hp} {a : Addr} {o : HO} (h : Tp H a) (e : H a = some o) : Mutb o := fun xs z => by
  obtain ⟨i, j, k, e2, _⟩ := h
  rw [e, z] at e2; cases e2
/-- from (L, H) to (L', H'): both grow, L stays within H, what is new in L is new in H; tapes may change -/
structure Stp (T : Tap) (L H L' H' : Hp) : Prop where
  ll : Ex L L'
  lh : Ex L' H'
  hh : ∀ a o, H a = some o → ¬ T a → H' a = some o
  nw : ∀ a o, H a = some o → Mutb o → L a = none → L' a = none
  tp : ∀ a, T a → Tp H' a
theorem tp_some {H : Hp} {a : Addr} (h : Tp H a) : (H a).isSome = true := by
  obtain ⟨i, j, k, e, _⟩ := h
  rw [e]; rfl
theorem Stp.refl {T : Tap} {L H : Hp} (h : Ok T L H) : Stp T L H L H := ⟨Evl.Ex.refl L, h.1, fun _ _ h _ => h, fun _ _ _ _ h => h, fun a t => (h.2 a t).1⟩
theorem Stp.ok {T : Tap} {L H L' H' : Hp} (h : Ok T L H) (s : Stp T L H L' H') : Ok T L' H' := ⟨s.lh, fun a t => ⟨s.tp a t, by
  obtain ⟨o, ho⟩ := Option.isSome_iff_exists.mp (tp_some (h.2 a t).1)
  exact s.nw a o ho (tp_mutb (h.2 a t).1 ho) (h.2 a t).2⟩⟩
theorem isSome_hh {T : Tap} {L H L' H' : Hp} {a : Addr} (s : Stp T L H L' H') (h : (H a).isSome = true) : (H' a).isSome = true := by
  obtain ⟨o, ho⟩ := Option.isSome_iff_exists.mp h
  by_cases t : T a
  · exact tp_some (s.tp a t)
  · rw [s.hh a o ho t]; rfl
theorem Stp.trans {T : Tap} {L H L1 H1 L2 H2 : Hp} (a : Stp T L H L1 H1) (b : Stp T L1 H1 L2 H2) : Stp T L H L2 H2 :=
  ⟨a.ll.trans b.ll, b.lh, fun x o h t => b.hh x o (a.hh x o h t) t, fun x o h m n => by
    by_cases t : T x
    · obtain ⟨u, hu⟩ := Option.isSome_iff_exists.mp (tp_some (a.tp x t))
      exact b.nw x u hu (tp_mutb (a.tp x t) hu) (a.nw x o h m n)
    · exact b.nw x o (a.hh x o h t) m (a.nw x o h m n), b.tp⟩
theorem ok0 {L H : Hp} (h : Ex L H) : Ok T0 L H := ⟨h, fun _ t => t.elim⟩
theorem none_of {L H : Hp} {a : Addr} (e : Ex L H) (h : H a = none) : L a = none := Evl.fresh_back e h
/-- what is done with fewer tapes -/
theorem Stp.sub {T T' : Tap} {L H L' H' : Hp} (ok : Ok T L H) (s : Stp T' L H L' H') (h : ∀ a, T' a → T a) : Stp T L H L' H' :=
  ⟨s.ll, s.lh, fun a o e t => s.hh a o e fun t' => t (h a t'), s.nw, fun a t => by
    by_cases t' : T' a
    · exact s.tp a t'
    · obtain ⟨i, j, k, e, r⟩ := (ok.2 a t).1
      exact ⟨i, j, k, s.hh a _ e t', r⟩⟩
theorem Stp.of0 {T : Tap} {L H L' H' : Hp} (ok : Ok T L H) (s : Stp T0 L H L' H') : Stp T L H L' H' := s.sub ok fun _ t => t.elim
/-- the heap alone grows -/
theorem Stp.grow {T : Tap} {L H H' : Hp} (h : Ok T L H) (e : Ex H H') : Stp T L H L H' :=
  ⟨Evl.Ex.refl L, h.1.trans e, fun a o q _ => e a o q, fun _ _ _ _ h => h, fun a t => by
    obtain ⟨i, j, k, q, r⟩ := (h.2 a t).1
    exact ⟨i, j, k, e a _ q, r⟩⟩
/-- a new object, told -/
theorem Stp.new {T : Tap} {L H : Hp} {p : Addr} {o : HO} (h : Ok T L H) (hp : H p = none) : Stp T L H (upd L p o) (upd H p o) :=
  ⟨Evl.Ex.new (none_of h.1 hp), fun a u e => by
    by_cases ea : a = p
    · subst ea; rw [upd_same] at e ⊢; exact e
    · rw [upd_ne ea] at e ⊢; exact h.1 a u e, fun a u e _ => Evl.Ex.new hp a u e, fun a o ha _ hn => by
    have ea : a ≠ p := fun z => by rw [z, hp] at ha; cases ha
    rw [upd_ne ea]; exact hn, fun a t => by
    obtain ⟨i, j, k, q, r⟩ := (h.2 a t).1
    exact ⟨i, j, k, Evl.Ex.new hp a _ q, r⟩⟩
/-- an object that is there and was not at the start, told now -/
theorem Stp.tell {T : Tap} {L H L1 H1 : Hp} {p : Addr} {o : HO} (a : Stp T L H L1 H1) (hp : H p = none) (h0 : L1 p = none) (h1 : H1 p = some o) : Stp T L H (upd L1 p o) H1 :=
  ⟨a.ll.trans (Evl.Ex.new h0), fun x u e => by
    by_cases ex : x = p
    · subst ex; rw [upd_same] at e; rw [h1]; exact e
    · rw [upd_ne ex] at e; exact a.lh x u e, a.hh, fun x o hx m hn => by
    have ex : x ≠ p := fun z => by rw [z, hp] at hx; cases hx
    rw [upd_ne ex]; exact a.nw x o hx m hn, a.tp⟩
/-- a tuple may be told at any time -/
theorem Stp.tup {T : Tap} {L H L1 H1 : Hp} {p : Addr} {vs : List V} (a : Stp T L H L1 H1) (h1 : H1 p = some (.tup vs)) : Stp T L H (upd L1 p (.tup vs)) H1 := by
  have e1 : Ex L1 (upd L1 p (.tup vs)) := fun x u e => by
    by_cases ex : x = p
    · subst ex
      have := a.lh x u e
      rw [h1] at this
      rw [upd_same]; exact this
    · rw [upd_ne ex]; exact e
  refine ⟨a.ll.trans e1, fun x u e => ?_, a.hh, fun x o hx m hn => ?_, a.tp⟩
  · by_cases ex : x = p
    · subst ex; rw [upd_same] at e; rw [h1]; exact e
    · rw [upd_ne ex] at e; exact a.lh x u e
  · by_cases ex : x = p
    · subst ex
      by_cases t : T x
      · exact absurd rfl (tp_mutb (a.tp x t) h1 vs)
      · have := a.hh x o hx t
        rw [h1] at this
        exact absurd (Option.some.inj this).symm (m vs)
    · rw [upd_ne ex]; exact a.nw x o hx m hn
/-- an object of our own that was not there at the start, changed; it is no tape -/
theorem Stp.mut {T : Tap} {L H L1 H1 : Hp} {p : Addr} {o : HO} (a : Stp T L H L1 H1) (hp : H p = none) (h0 : L1 p = none) (ok : Ok T L H) : Stp T L H L1 (upd H1 p o) := by
  have nt : ∀ x, T x → x ≠ p := fun x t z => by
    have := tp_some (ok.2 x t).1
    rw [z, hp] at this; cases this
  refine ⟨a.ll, fun x u e => ?_, fun x u e t => ?_, a.nw, fun x t => ?_⟩
  · have ex : x ≠ p := fun z => by rw [z, h0] at e; cases e
    rw [upd_ne ex]; exact a.lh x u e
  · have ex : x ≠ p := fun z => by rw [z, hp] at e; cases e
    rw [upd_ne ex]; exact a.hh x u e t
  · obtain ⟨i, j, k, q, r⟩ := a.tp x t
    exact ⟨i, j, k, by rw [upd_ne (nt x t)]; exact q, r⟩

/-! ### what a question goes to -/
def Go {α : Type} (T : Tap) (L : Hp) (F : Hp → (α → Hp → Prop) → Prop) (R : α → Hp → Prop) : Prop :=
  ∀ H, Ok T L H → ∀ Q : α → Hp → Prop, (∀ x L' H', Stp T L H L' H' → R x L' → Q x H') → F H Q
section
variable {α β : Type} {T : Tap} {L L0 H0 H : Hp}
theorem Go.pure {R : α → Hp → Prop} {x : α} (h : R x L) : Go T L (fun H Q => Q x H) R := fun H ok Q q => q x L H (Stp.refl ok) h
theorem Go.bind {F1 : Hp → (α → Hp → Prop) → Prop} {R1 : α → Hp → Prop} {F2 : α → Hp → (β → Hp → Prop) → Prop} {R2 : β → Hp → Prop} (h1 : Go T L F1 R1)
    (h2 : ∀ x L', Ex L L' → R1 x L' → Go T L' (F2 x) R2) : Go T L (fun H Q => F1 H fun x H1 => F2 x H1 Q) R2 := fun H ok Q q =>
  h1 H ok _ fun x L1 H1 s1 r1 => h2 x L1 s1.ll r1 H1 (s1.ok ok) Q fun y L2 H2 s2 r2 => q y L2 H2 (s1.trans s2) r2
theorem Go.bindE {F1 : Hp → (α → Hp → Prop) → Prop} {R1 : α → Hp → Prop} {F2 : α → Hp → (β → Hp → Prop) → Prop} {R2 : β → Hp → Prop} {F : Hp → (β → Hp → Prop) → Prop} (h1 : Go T L F1 R1)
    (e : ∀ H Q, F1 H (fun x H1 => F2 x H1 Q) → F H Q) (h2 : ∀ x L', Ex L L' → R1 x L' → Go T L' (F2 x) R2) : Go T L F R2 := fun H ok Q q =>
  e H Q (h1 H ok _ fun x L1 H1 s1 r1 => h2 x L1 s1.ll r1 H1 (s1.ok ok) Q fun y L2 H2 s2 r2 => q y L2 H2 (s1.trans s2) r2)
theorem Go.imp {F : Hp → (α → Hp → Prop) → Prop} {R R' : α → Hp → Prop} (h : Go T L F R) (i : ∀ x L', Ex L L' → R x L' → R' x L') : Go T L F R' := fun H ok Q q =>
  h H ok Q fun x L' H' s r => q x L' H' s (i x L' s.ll r)
theorem Go.mono {F : Hp → (α → Hp → Prop) → Prop} {R : α → Hp → Prop} [g : Gr R] {L1 : Hp} (e : Ex L L1) (h : Go T L F R) : Go T L1 F R := fun H ok Q q =>
  h H ⟨e.trans ok.1, fun a t => ⟨(ok.2 a t).1, none_of e (ok.2 a t).2⟩⟩ Q fun x L' H' s r => by
    have key : ∀ a o o1, L' a = some o → L1 a = some o1 → o1 = o := fun a o o1 h' h1 => by
      have e1 := s.lh a o h'
      have nt : ¬ T a := fun t => by rw [(ok.2 a t).2] at h1; cases h1
      rw [s.hh a o1 (ok.1 a o1 h1) nt] at e1
      exact Option.some.inj e1
    let L2 : Hp := fun a => match L1 a with
      | some o => some o
      | none => L' a
    have hL2 : ∀ a, L2 a = match L1 a with
      | some o => some o
      | none => L' a := fun _ => rfl
    have x1 : Ex L' L2 := fun a o h' => by
      rw [hL2]
      cases h1 : L1 a with
      | none => exact h'
      | some o1 => rw [key a o o1 h' h1]
    have x2 : Ex L1 L2 := fun a o h1 => by rw [hL2, h1]
    refine q x L2 H' ⟨x2, fun a o h2 => ?_, s.hh, fun a o hs m hn => ?_, s.tp⟩ (g.up x L' L2 x1 r)
    · rw [hL2] at h2
      cases h1 : L1 a with
      | none => rw [h1] at h2; exact s.lh a o h2
      | some o1 =>
        rw [h1] at h2
        have : o1 = o := Option.some.inj h2
        subst this
        refine s.hh a o1 (ok.1 a o1 h1) fun t => ?_
        rw [(ok.2 a t).2] at h1; cases h1
    · rw [hL2, hn]
      exact s.nw a o hs m (none_of e hn)
/-- a statement's use of it -/
theorem Go.at {F : Hp → (α → Hp → Prop) → Prop} {R : α → Hp → Prop} {Q : α → Hp → Prop} (ok : Ok T L0 H0) (S : Stp T L0 H0 L H) (h : Go T L F R)
    (k : ∀ x L1 H1, Stp T L0 H0 L1 H1 → Stp T L H L1 H1 → R x L1 → Q x H1) : F H Q := h H (S.ok ok) Q fun x L1 H1 s r => k x L1 H1 (S.trans s) s r
end

/-! ### what values stand for -/
abbrev rV (v : V) : Rep := fun x _ => x = v
def rAnd (P : Prop) (R : Rep) : Rep := fun x L => P ∧ R x L
def rEx {ι : Type} (R : ι → Rep) : Rep := fun x L => ∃ i, R i x L
def Pd {ι : Type} (R : ι → Rep) : List ι → List V → Hp → Prop
  | [], [], _ => True
  | a :: r, v :: w, L => R a v L ∧ Pd R r w L
  | _, _, _ => False
def rLst (P : RepA) : Rep := fun v L => ∃ p vs, v = .ref p ∧ L p = some (.lst vs) ∧ P vs L
def rTup (P : RepA) : Rep := fun v L => ∃ p vs, v = .ref p ∧ L p = some (.tup vs) ∧ P vs L
def aLs {ι : Type} (R : ι → Rep) (xs : List ι) : RepA := fun vs L => Pd R xs vs L
abbrev rLs {ι : Type} (R : ι → Rep) (xs : List ι) : Rep := rLst (aLs R xs)
abbrev rTs {ι : Type} (R : ι → Rep) (xs : List ι) : Rep := rTup (aLs R xs)
abbrev rInt (i : Int) : Rep := rV (.int i)
def rVec (ns : List Int) : Rep := fun v L => ∃ p, v = .ref p ∧ L p = some (.tup (ns.map V.int))
/-- several values -/
def aNil : RepA := fun vs _ => vs = []
def aCons (R : Rep) (P : RepA) : RepA := fun vs L => ∃ v r, vs = v :: r ∧ R v L ∧ P r L
def aApp (P P' : RepA) : RepA := fun vs L => ∃ v r, vs = v ++ r ∧ P v L ∧ P' r L

instance {v : V} : Gr (rV v) := ⟨fun _ _ _ _ h => h⟩
instance {P : Prop} {R : Rep} [g : Gr R] : Gr (rAnd P R) := ⟨fun v H H' e h => ⟨h.1, g.up v H H' e h.2⟩⟩
instance {ι : Type} {R : ι → Rep} [g : ∀ i, Gr (R i)] : Gr (rEx R) := ⟨fun v H H' e ⟨i, h⟩ => ⟨i, (g i).up v H H' e h⟩⟩
instance {ns : List Int} : Gr (rVec ns) := ⟨fun v H H' e ⟨p, h1, h2⟩ => ⟨p, h1, e p _ h2⟩⟩
section
variable {ι κ : Type} {R : ι → Rep} {H H' L : Hp}
theorem Pd.up [g : ∀ i, Gr (R i)] (e : Ex H H') : ∀ {xs : List ι} {vs : List V}, Pd R xs vs H → Pd R xs vs H'
  | [], [], _ => trivial
  | a :: r, v :: w, h => ⟨(g a).up v H H' e h.1, Pd.up e h.2⟩
  | [], _ :: _, h => h.elim
  | _ :: _, [], h => h.elim
theorem Pd.length : ∀ {xs : List ι} {vs : List V}, Pd R xs vs H → vs.length = xs.length
  | [], [], _ => rfl
  | a :: r, v :: w, h => congrArg (· + 1) (Pd.length h.2)
  | [], _ :: _, h => h.elim
  | _ :: _, [], h => h.elim
theorem Pd.at : ∀ {xs : List ι} {vs : List V} {i : Nat} {a : ι}, Pd R xs vs H → xs[i]? = some a → ∃ v, vs[i]? = some v ∧ R a v H
  | a :: r, v :: w, 0, b, h, e => by
    have : a = b := Option.some.inj e
    subst this
    exact ⟨v, rfl, h.1⟩
  | a :: r, v :: w, i + 1, b, h, e => by
    obtain ⟨x, h1, h2⟩ := Pd.at (i := i) (a := b) h.2 e
    exact ⟨x, h1, h2⟩
  | [], _, _, _, _, e => nomatch e
  | _ :: _, [], _, _, h, _ => h.elim
theorem Pd.atV : ∀ {xs : List ι} {vs : List V} {i : Nat} {v : V}, Pd R xs vs H → vs[i]? = some v → ∃ a, xs[i]? = some a ∧ R a v H
  | a :: r, v :: w, 0, b, h, e => by
    have : v = b := Option.some.inj e
    subst this
    exact ⟨a, rfl, h.1⟩
  | a :: r, v :: w, i + 1, b, h, e => by
    obtain ⟨x, h1, h2⟩ := Pd.atV (i := i) (v := b) h.2 e
    exact ⟨x, h1, h2⟩
  | _, [], _, _, _, e => nomatch e
  | [], _ :: _, _, _, h, _ => h.elim
theorem Pd.app : ∀ {xs ys : List ι} {vs ws : List V}, Pd R xs vs H → Pd R ys ws H → Pd R (xs ++ ys) (vs ++ ws) H
  | [], _, [], _, _, h => h
  | _ :: _, _, _ :: _, _, h, h' => ⟨h.1, Pd.app h.2 h'⟩
  | [], _, _ :: _, _, h, _ => h.elim
  | _ :: _, _, [], _, h, _ => h.elim
theorem Pd.drop : ∀ {xs : List ι} {vs : List V} {n : Nat}, Pd R xs vs H → Pd R (xs.drop n) (vs.drop n) H
  | _, _, 0, h => h
  | [], [], _ + 1, _ => trivial
  | a :: r, v :: w, n + 1, h => Pd.drop (n := n) h.2
  | [], _ :: _, _ + 1, h => h.elim
  | _ :: _, [], _ + 1, h => h.elim
theorem Pd.map {S : κ → Rep} {f : ι → κ} (hf : ∀ a v, R a v H → S (f a) v H) : ∀ {xs : List ι} {vs : List V}, Pd R xs vs H → Pd S (xs.map f) vs H
  | [], [], _ => trivial
  | a :: r, v :: w, h => ⟨hf a v h.1, Pd.map hf h.2⟩
  | [], _ :: _, h => h.elim
  | _ :: _, [], h => h.elim
theorem Pd.imp {S : ι → Rep} : ∀ {xs : List ι} {vs : List V}, (∀ a ∈ xs, ∀ v, R a v H → S a v H) → Pd R xs vs H → Pd S xs vs H
  | [], [], _, _ => trivial
  | a :: r, v :: w, hf, h => ⟨hf a List.mem_cons_self v h.1, Pd.imp (fun b hb => hf b (List.mem_cons_of_mem _ hb)) h.2⟩
  | [], _ :: _, _, h => h.elim
  | _ :: _, [], _, h => h.elim
theorem Pd.unmap {S : κ → Rep} {f : ι → κ} (hf : ∀ a v, S (f a) v H → R a v H) : ∀ {xs : List ι} {vs : List V}, Pd S (xs.map f) vs H → Pd R xs vs H
  | [], [], _ => trivial
  | a :: r, v :: w, h => ⟨hf a v h.1, Pd.unmap hf h.2⟩
  | [], _ :: _, h => h.elim
  | _ :: _, [], h => h.elim
theorem Pd.ints : ∀ {ns : List Int} {vs : List V}, Pd rInt ns vs H → vs = ns.map V.int
  | [], [], _ => rfl
  | a :: r, v :: w, h => by
    have e : v = V.int a := h.1
    rw [e, Pd.ints h.2]; rfl
  | [], _ :: _, h => h.elim
  | _ :: _, [], h => h.elim
theorem Pd.ofInts : ∀ {ns : List Int}, Pd rInt ns (ns.map V.int) H
  | [] => trivial
  | a :: r => ⟨rfl, Pd.ofInts⟩
instance {P : RepA} [g : Gr P] : Gr (rLst P) := ⟨fun v H H' e ⟨p, vs, h1, h2, h3⟩ => ⟨p, vs, h1, e p _ h2, g.up vs H H' e h3⟩⟩
instance {P : RepA} [g : Gr P] : Gr (rTup P) := ⟨fun v H H' e ⟨p, vs, h1, h2, h3⟩ => ⟨p, vs, h1, e p _ h2, g.up vs H H' e h3⟩⟩
instance : Gr aNil := ⟨fun _ _ _ _ h => h⟩
instance {R : Rep} {P : RepA} [g : Gr R] [g' : Gr P] : Gr (aCons R P) := ⟨fun vs H H' e ⟨v, r, h1, h2, h3⟩ => ⟨v, r, h1, g.up v H H' e h2, g'.up r H H' e h3⟩⟩
instance [g : ∀ i, Gr (R i)] {xs : List ι} : Gr (aLs R xs) := ⟨fun vs H H' e h => Pd.up e h⟩
instance {P P' : RepA} [g : Gr P] [g' : Gr P'] : Gr (aApp P P') := ⟨fun vs H H' e ⟨v, r, h1, h2, h3⟩ => ⟨v, r, h1, g.up v H H' e h2, g'.up r H H' e h3⟩⟩
end
instance {α : Type} {P : α → Prop} : Gr (fun (x : α) (_ : Hp) => P x) := ⟨fun _ _ _ _ h => h⟩
end HV
/-! part V2 -/
set_option maxHeartbeats 4000000
/-! What each kind of expression gives. -/
namespace HV
open PySem PySem.Spec PyProof.Rows L2 HR
open Evl (Ex)
section
variable {K : PySem.W.Frag} {T : Tap} {L L0 H0 H : Hp} {σ : L2.St} {ta tb tc te : TE} {R Ra Rb Rc : Rep} {P P' : RepA} {x y v : V}
theorem up [g : Gr R] (e : Ex L H) (h : R x L) : R x H := g.up x L H e h
theorem gv {i : Nat} (h : σ[i]? = some (some v)) (r : R v L) : Go T L (tVar i σ) R := fun H ok Q q => ⟨v, h, q v L H (Stp.refl ok) r⟩
theorem gc (r : R v L) : Go T L (tC v σ) R := Go.pure r
theorem gop {r : R2} [gb : Gr Rb] [ga : Gr Ra] (ha : Go T L (ta σ) Ra) (hb : Go T L (tb σ) Rb) (hr : ∀ x y L', Ex L L' → Ra x L' → Rb y L' → Go T L' (r x y) R) : Go T L (tOp r ta tb σ) R :=
  Go.bindE ha (fun _ _ h => h) fun x L1 e1 r1 => Go.bindE (Go.mono e1 hb) (fun _ _ h => h) fun y L2 e2 r2 => hr x y L2 (e1.trans e2) (ga.up x _ _ e2 r1) r2
theorem gun {r : V → Hp → VK → Prop} (ha : Go T L (ta σ) Ra) (hr : ∀ x L', Ex L L' → Ra x L' → Go T L' (r x) R) : Go T L (tUn r ta σ) R := Go.bindE ha (fun _ _ h => h) hr
/-! ints -/
theorem gI0 {g : Int → Int → V} {i j : Int} (ha : Go T L (ta σ) (rInt i)) (hb : Go T L (tb σ) (rInt j)) (hr : R (g i j) L) [gr : Gr R] : Go T L (tOp (rI0 g) ta tb σ) R :=
  gop ha hb fun x y L' e e1 e2 => by
    have e1 : x = V.int i := e1
    have e2 : y = V.int j := e2
    subst e1 e2
    exact fun H ok Q q => ⟨i, j, rfl, rfl, q _ L' H (Stp.refl ok) (gr.up _ _ _ e hr)⟩
theorem gI {C : Int → Int → Prop} {g : Int → Int → V} {i j : Int} (ha : Go T L (ta σ) (rInt i)) (hb : Go T L (tb σ) (rInt j)) (hc : C i j) (hr : R (g i j) L) [gr : Gr R] : Go T L (tOp (rI C g) ta tb σ) R :=
  gop ha hb fun x y L' e e1 e2 => by
    have e1 : x = V.int i := e1
    have e2 : y = V.int j := e2
    subst e1 e2
    exact fun H ok Q q => ⟨i, j, rfl, rfl, hc, q _ L' H (Stp.refl ok) (gr.up _ _ _ e hr)⟩
theorem gneg {i : Int} (ha : Go T L (ta σ) (rInt i)) : Go T L (tUn (rU fun i => .int (-i)) ta σ) (rInt (-i)) := gun ha fun x L' e e1 => by
  have e1 : x = V.int i := e1
  subst e1
  exact fun H ok Q q => ⟨i, rfl, q _ L' H (Stp.refl ok) rfl⟩
theorem geq {b : Bool} (ha : Go T L (ta σ) (rV x)) (hb : Go T L (tb σ) (rV y)) (h : scal x y = true) (hd : decide (x = y) = b) : Go T L (tOp rEq ta tb σ) (rV (.bl b)) := gop ha hb fun x' y' L' e e1 e2 => by
  have e1 : x' = x := e1
  have e2 : y' = y := e2
  subst e1 e2
  exact fun H ok Q q => ⟨h, q _ L' H (Stp.refl ok) (by rw [hd])⟩
theorem gne {b : Bool} (ha : Go T L (ta σ) (rV x)) (hb : Go T L (tb σ) (rV y)) (h : scal x y = true) (hd : (!decide (x = y)) = b) : Go T L (tOp rNe ta tb σ) (rV (.bl b)) := gop ha hb fun x' y' L' e e1 e2 => by
  have e1 : x' = x := e1
  have e2 : y' = y := e2
  subst e1 e2
  exact fun H ok Q q => ⟨h, q _ L' H (Stp.refl ok) (by rw [hd])⟩
/-! items -/
theorem gixT {i : Int} [gr : Gr R] [gp : Gr P] (ha : Go T L (ta σ) (rTup P)) (hb : Go T L (tb σ) (rInt i)) (h : ∀ vs L', Ex L L' → P vs L' → ∃ v, atI vs i = some v ∧ R v L') : Go T L (tOp (rIxT K) ta tb σ) R :=
  gop ha hb fun x y L' e ⟨p, vs, e1, e2, e3⟩ e4 => by
    have e4 : y = V.int i := e4
    subst e1 e4
    obtain ⟨v, h1, h2⟩ := h vs L' e e3
    exact fun H ok Q q => ⟨p, vs, i, v, rfl, rfl, SqT.of (ok.1 p _ e2), h1, q _ L' H (Stp.refl ok) h2⟩
theorem gixL {i : Int} [gr : Gr R] [gp : Gr P] (ha : Go T L (ta σ) (rLst P)) (hb : Go T L (tb σ) (rInt i)) (h : ∀ vs L', Ex L L' → P vs L' → ∃ v, atI vs i = some v ∧ R v L') : Go T L (tOp (rIxL K) ta tb σ) R :=
  gop ha hb fun x y L' e ⟨p, vs, e1, e2, e3⟩ e4 => by
    have e4 : y = V.int i := e4
    subst e1 e4
    obtain ⟨v, h1, h2⟩ := h vs L' e e3
    exact fun H ok Q q => ⟨p, vs, i, v, rfl, rfl, SqL.of (ok.1 p _ e2), h1, q _ L' H (Stp.refl ok) h2⟩
theorem gixV {i : Int} {ns : List Int} {c : Int} (ha : Go T L (ta σ) (rVec ns)) (hb : Go T L (tb σ) (rInt i)) (h : atI (ns.map V.int) i = some (.int c)) : Go T L (tOp (rIxT K) ta tb σ) (rInt c) :=
  gop ha hb fun x y L' e ⟨p, e1, e2⟩ e4 => by
    have e4 : y = V.int i := e4
    subst e1 e4
    exact fun H ok Q q => ⟨p, _, i, _, rfl, rfl, SqT.of (ok.1 p _ e2), h, q _ L' H (Stp.refl ok) rfl⟩
/-! argument lists, displays -/
theorem ga0 : Go T L (tNil σ) aNil := Go.pure rfl
theorem gaC {tr : TA} [g : Gr Ra] [g' : Gr P] (ha : Go T L (ta σ) Ra) (hr : Go T L (tr σ) P) : Go T L (tCons ta tr σ) (aCons Ra P) :=
  Go.bindE ha (fun _ _ h => h) fun x L1 e1 r1 => Go.bindE (Go.mono e1 hr) (fun _ _ h => h) fun ys L2 e2 r2 => Go.pure ⟨x, ys, rfl, g.up x _ _ e2 r1, r2⟩
theorem gtup {ta : TA} [g : Gr P] (ha : Go T L (ta σ) P) (hl : ∀ vs L', P vs L' → vs.length ≤ 100000) : Go T L (tTup ta σ) (rTup P) :=
  Go.bindE ha (fun _ _ h => h) fun xs L1 e1 r1 => fun H ok Q q => ⟨Evl.sz_of (hl xs L1 r1), fun p hp => q _ _ _ (Stp.new ok hp) ⟨p, xs, rfl, upd_same, g.up _ _ _ (Evl.Ex.new (none_of ok.1 hp)) r1⟩⟩
theorem glst {ta : TA} [g : Gr P] (ha : Go T L (ta σ) P) (hl : ∀ vs L', P vs L' → vs.length ≤ 100000) : Go T L (tLst ta σ) (rLst P) :=
  Go.bindE ha (fun _ _ h => h) fun xs L1 e1 r1 => fun H ok Q q => ⟨Evl.sz_of (hl xs L1 r1), fun p hp => q _ _ _ (Stp.new ok hp) ⟨p, xs, rfl, upd_same, g.up _ _ _ (Evl.Ex.new (none_of ok.1 hp)) r1⟩⟩
theorem aC_len {vs : List V} {n : Nat} (h : aCons Ra P vs L) (hp : ∀ ws, P ws L → ws.length ≤ n) : vs.length ≤ n + 1 := by
  obtain ⟨v, r, e, _, h2⟩ := h
  have := hp r h2
  rw [e, List.length_cons]; omega
theorem a0_len {vs : List V} (h : aNil vs L) : vs.length ≤ 0 := by
  have : vs = [] := h
  rw [this]; exact Nat.le_refl _
/-! calls -/
def spR {ι : Type} (A : ι → RepA) (R : ι → Rep) : Sp := fun vs H Q _ => ∃ i L, Ex L H ∧ A i vs L ∧ ∀ v L' H', Stp T0 L H L' H' → R i v L' → Q v H'
/-- a call of a def whose first argument is a tape -/
def spT {ι : Type} (A : ι → RepA) (R : ι → Rep) : Sp := fun vs H Q _ => ∃ i L p ws, vs = .ref p :: ws ∧ Ok (T1 p) L H ∧ A i ws L ∧ ∀ v L' H', Stp (T1 p) L H L' H' → R i v L' → Q v H'
/-- an __init__ -/
def spN {ι : Type} (C : Addr) (A : ι → RepA) (R : ι → Rep) : Sp := fun vs H2 Q _ => ∃ i L H1 x dx ws, vs = .ref x :: ws ∧ H1 x = none ∧ H1 dx = none ∧ dx ≠ x ∧ H2 = upd (upd H1 dx (.own x)) x (.ins C dx []) ∧ Ex L H1 ∧ A i ws L ∧
  ∀ L' H', Stp T0 L H1 L' H' → R i (.ref x) L' → Q .non H'
theorem gsp {ι : Type} {A : ι → RepA} {R : ι → Rep} {E : XK} {vs : List V} (i : ι) (h : A i vs L) : Go T L (fun H Q => spR A R vs H Q E) (R i) := fun H ok Q q =>
  ⟨i, L, ok.1, h, fun v L' H' s r => q v L' H' (s.of0 ok) r⟩
theorem gcall {ι : Type} {A : ι → RepA} {R : ι → Rep} {dvs : List V} {E : XK} {ta : TA} (i : ι) (ha : Go T L (ta σ) P) (h : ∀ vs L', Ex L L' → P vs L' → A i (vs ++ dvs) L') : Go T L (tCall (spR A R) dvs E ta σ) (R i) :=
  Go.bindE ha (fun _ _ h => h) fun vs L1 e1 r1 => gsp i (h vs L1 e1 r1)
theorem gcallT {ι : Type} {A : ι → RepA} {R : ι → Rep} {dvs : List V} {E : XK} {ta : TA} {p : Addr} {j : Nat} (i : ι) (hj : σ[j]? = some (some (.ref p))) (hT : T p) (ha : Go T L (ta σ) P) (h : ∀ vs L', Ex L L' → P vs L' → A i (vs ++ dvs) L') :
    Go T L (tCall (spT A R) dvs E (tCons (tVar j) ta) σ) (R i) := fun H ok Q q =>
  ⟨.ref p, hj, ha H ok _ fun vs L1 H1 s1 r1 => ⟨i, L1, p, vs ++ dvs, rfl, ⟨(s1.ok ok).1, fun a t => by
      have t : a = p := t
      subst t; exact (s1.ok ok).2 a hT⟩, h vs L1 s1.ll r1, fun v L2 H2 s2 r2 => q v L2 H2 (s1.trans (s2.sub (s1.ok ok) fun a t => by
      have t : a = p := t
      subst t; exact hT)) r2⟩⟩
theorem gmake {ι : Type} {C : Addr} {A : ι → RepA} {R : ι → Rep} {dvs : List V} {E : XK} {ta : TA} (i : ι) (ha : Go T L (ta σ) P) (h : ∀ vs L', Ex L L' → P vs L' → A i (vs ++ dvs) L') : Go T L (tMake C (spN C A R) dvs E ta σ) (R i) :=
  Go.bindE ha (fun _ _ h => h) fun vs L1 e1 r1 => fun H ok Q q x dx hx hd hn => ⟨i, L1, H, x, dx, vs ++ dvs, rfl, hx, hd, hn, rfl, ok.1, h vs L1 e1 r1, fun L' H' s r => ⟨rfl, q _ L' H' (s.of0 ok) r⟩⟩
theorem gmakeL {ι : Type} {C : Addr} {A : ι → RepA} {R : ι → Rep} {dvs : List V} {E : XK} {ta : TA} {j : Nat} (i : ι) (hj : σ[j]? = some (some (.ref C))) (ha : Go T L (ta σ) P) (h : ∀ vs L', Ex L L' → P vs L' → A i (vs ++ dvs) L') : Go T L (tMakeL j C (spN C A R) dvs E ta σ) (R i) := fun H ok Q q =>
  ⟨hj, gmake (E := E) (C := C) i ha h H ok Q q⟩
theorem gmeth {ι : Type} {C : Addr} {m : Str} {A : ι → RepA} {R : ι → Rep} {dvs : List V} {E : XK} {t : TA} (i : ι) [go' : Gr Ra] [gp : Gr P] (ho : Go T L (ta σ) Ra) (hi : ∀ x L', Ex L L' → Ra x L' → ∃ a dx fs, x = .ref a ∧ L' a = some (.ins C dx fs) ∧ fs.lookup m = none)
    (ha : Go T L (t σ) P) (h : ∀ x vs L', Ex L L' → Ra x L' → P vs L' → A i (x :: (vs ++ dvs)) L') : Go T L (tMeth C m (spR A R) dvs E ta t σ) (R i) := fun H ok Q q =>
  ho H ok _ fun x L1 H1 s1 r1 => by
    obtain ⟨a, dx, fs, e1, e2, e3⟩ := hi x L1 s1.ll r1
    refine ⟨a, dx, fs, e1, s1.lh a _ e2, e3, Go.mono s1.ll ha H1 (s1.ok ok) _ fun vs L2 H2 s2 r2 => ?_⟩
    exact gsp (T := T) i (h x vs L2 (s1.ll.trans s2.ll) (go'.up x _ _ s2.ll r1) r2) H2 (s2.ok (s1.ok ok)) Q fun v L3 H3 s3 r3 => q v L3 H3 ((s1.trans s2).trans s3) r3
theorem gown {ι : Type} {C : Addr} {A : ι → RepA} {R : ι → Rep} {E : XK} (i : ι) [ga : Gr Ra] [gb : Gr Rb] (ha : Go T L (ta σ) Ra) (hb : Go T L (tb σ) Rb) (h1 : ∀ x L', Ra x L' → ∃ a dx fs, x = .ref a ∧ L' a = some (.ins C dx fs)) (h2 : ∀ x L', Rb x L' → ∃ a dx fs, x = .ref a ∧ L' a = some (.ins C dx fs))
    (h : ∀ x y L', Ex L L' → Ra x L' → Rb y L' → A i [x, y] L') : Go T L (tOp (rOwn2 C (spR A R) E) ta tb σ) (R i) := gop ha hb fun x y L' e rx ry => by
  obtain ⟨a, dx, fs, e1, e2⟩ := h1 x L' rx
  obtain ⟨b, dy, gs, e3, e4⟩ := h2 y L' ry
  subst e1 e3
  exact fun H ok Q q => ⟨a, b, dx, dy, fs, gs, rfl, rfl, ok.1 a _ e2, ok.1 b _ e4, gsp (T := T) (E := E) i (h _ _ L' e rx ry) H ok Q q⟩
theorem gcb {r : List V → Hp → VK → Prop} {ta : TA} (ha : Go T L (ta σ) P) (hr : ∀ vs L', Ex L L' → P vs L' → Go T L' (r vs) R) : Go T L (tCB r ta σ) R := Go.bindE ha (fun _ _ h => h) hr
/-! fields -/
theorem gfld {f : Str} (ha : Go T L (ta σ) Ra) (h : ∀ x L', Ex L L' → Ra x L' → ∃ a C dx fs v, x = .ref a ∧ L' a = some (.ins C dx fs) ∧ Cls K C ∧ NoAttr K C f ∧ fs.lookup f = some v ∧ R v L') : Go T L (tFld K ta f σ) R :=
  Go.bindE ha (fun _ _ h => h) fun x L1 e1 r1 => fun H ok Q q => by
    obtain ⟨a, C, dx, fs, v, h1, h2, h3, h4, h5, h6⟩ := h x L1 e1 r1
    exact ⟨a, C, dx, fs, v, h1, ok.1 a _ h2, h3, h4, h5, q v L1 H (Stp.refl ok) h6⟩
/-! tests -/
def rB (b : Bool) : Bool → Hp → Prop := fun x _ => x = b
instance {b : Bool} : Gr (rB b) := ⟨fun _ _ _ _ h => h⟩
variable {t u : TT} {a b : Bool}
theorem gtest (h : Go T L (te σ) (rV (.bl b))) : Go T L (tTest te σ) (rB b) := Go.bindE h (fun _ _ h => h) fun x L1 e1 r1 => fun H ok Q q => ⟨b, r1, q b L1 H (Stp.refl ok) rfl⟩
theorem gB (h : Go T L (te σ) (rV (.bl b))) : Go T L (tB te σ) (rB b) := Go.bindE h (fun _ _ h => h) fun x L1 e1 r1 => fun H ok Q q => ⟨b, r1, q b L1 H (Stp.refl ok) rfl⟩
theorem gnot (h : Go T L (t σ) (rB b)) : Go T L (tNot t σ) (rB (!b)) := Go.bindE h (fun _ _ h => h) fun x L1 e1 r1 => by
  have r1 : x = b := r1
  subst r1
  exact Go.pure (x := !x) rfl
theorem gand (h1 : Go T L (t σ) (rB a)) (h2 : a = true → Go T L (u σ) (rB b)) : Go T L (tAnd t u σ) (rB (a && b)) := Go.bindE h1 (fun _ _ h => h) fun x L1 e1 r1 => by
  have r1 : x = a := r1
  subst r1
  cases x with
  | true => exact Go.mono e1 (h2 rfl)
  | false => exact Go.pure (x := false) rfl
theorem gor (h1 : Go T L (t σ) (rB a)) (h2 : a = false → Go T L (u σ) (rB b)) : Go T L (tOr t u σ) (rB (a || b)) := Go.bindE h1 (fun _ _ h => h) fun x L1 e1 r1 => by
  have r1 : x = a := r1
  subst r1
  cases x with
  | true => exact Go.pure (x := true) rfl
  | false => exact Go.mono e1 (h2 rfl)
theorem gandV (h1 : Go T L (ta σ) (rV (.bl a))) (h2 : a = true → Go T L (tb σ) (rV (.bl b))) : Go T L (tAndV ta tb σ) (rV (.bl (a && b))) := Go.bindE h1 (fun _ _ h => h) fun x L1 e1 r1 => fun H ok Q q => ⟨a, r1, by
  cases a with
  | true => exact Go.mono e1 (h2 rfl) H ok Q q
  | false => exact q _ L1 H (Stp.refl ok) rfl⟩
theorem gorV (h1 : Go T L (ta σ) (rV (.bl a))) (h2 : a = false → Go T L (tb σ) (rV (.bl b))) : Go T L (tOrV ta tb σ) (rV (.bl (a || b))) := Go.bindE h1 (fun _ _ h => h) fun x L1 e1 r1 => fun H ok Q q => ⟨a, r1, by
  cases a with
  | true => exact q _ L1 H (Stp.refl ok) rfl
  | false => exact Go.mono e1 (h2 rfl) H ok Q q⟩
theorem gnotV (h : Go T L (ta σ) (rV (.bl b))) : Go T L (tNotV ta σ) (rV (.bl (!b))) := Go.bindE h (fun _ _ h => h) fun x L1 e1 r1 => fun H ok Q q => ⟨b, r1, q _ L1 H (Stp.refl ok) rfl⟩
theorem gif [g : Gr R] (h : Go T L (t σ) (rB b)) (h1 : b = true → Go T L (ta σ) R) (h2 : b = false → Go T L (tb σ) R) : Go T L (tIf t ta tb σ) R := Go.bindE h (fun _ _ h => h) fun x L1 e1 r1 => by
  have r1 : x = b := r1
  subst r1
  cases x with
  | true => exact Go.mono e1 (h1 rfl)
  | false => exact Go.mono e1 (h2 rfl)
theorem gchain {i j k : Int} {g g' : Int → Int → Bool} (ha : Go T L (ta σ) (rInt i)) (hb : Go T L (tb σ) (rInt j)) (hc : Go T L (tc σ) (rInt k)) :
    Go T L (tChain (rI0 fun a b => .bl (g a b)) (rI0 fun a b => .bl (g' a b)) ta tb tc σ) (rV (.bl (g i j && g' j k))) :=
  Go.bindE ha (fun _ _ h => h) fun x L1 e1 r1 => Go.bindE (Go.mono e1 hb) (fun _ _ h => h) fun y L2 e2 r2 => fun H ok Q q => by
    have r1 : x = V.int i := r1
    have r2 : y = V.int j := r2
    subst r1 r2
    refine ⟨i, j, rfl, rfl, g i j, rfl, ?_⟩
    cases hg : g i j with
    | false => exact q _ L2 H (Stp.refl ok) (by simp [rV, hg])
    | true =>
      refine Go.mono (e1.trans e2) hc H ok _ fun z L3 H3 s3 r3 => ?_
      have r3 : z = V.int k := r3
      subst r3
      exact ⟨j, k, rfl, rfl, q _ L3 H3 s3 (by simp [rV, hg])⟩
/-! built-in calls -/
def rSq (P : RepA) : Rep := fun v L => ∃ p vs, v = .ref p ∧ (L p = some (.lst vs) ∨ L p = some (.tup vs)) ∧ P vs L
instance [g : Gr P] : Gr (rSq P) := ⟨fun v H H' e ⟨p, vs, h1, h2, h3⟩ => ⟨p, vs, h1, h2.imp (e p _) (e p _), g.up vs H H' e h3⟩⟩
theorem sqL {v : V} (h : rLst P v L) : rSq P v L := let ⟨p, vs, h1, h2, h3⟩ := h; ⟨p, vs, h1, Or.inl h2, h3⟩
theorem sqT {v : V} (h : rTup P v L) : rSq P v L := let ⟨p, vs, h1, h2, h3⟩ := h; ⟨p, vs, h1, Or.inr h2, h3⟩
theorem sqV {v : V} {ns : List Int} (h : rVec ns v L) : rTup (aLs rInt ns) v L := let ⟨p, h1, h2⟩ := h; ⟨p, _, h1, h2, Pd.ofInts⟩
theorem vecT {v : V} {ns : List Int} (h : rTup (aLs rInt ns) v L) : rVec ns v L := by
  obtain ⟨p, vs, h1, h2, h3⟩ := h
  have : vs = ns.map V.int := Pd.ints h3
  subst this
  exact ⟨p, h1, h2⟩
theorem a1 {vs : List V} (h : aCons R aNil vs L) : ∃ v, vs = [v] ∧ R v L := by
  obtain ⟨v, r, e, h1, h2⟩ := h
  have h2 : r = [] := h2
  subst h2
  exact ⟨v, e, h1⟩
theorem a2 {vs : List V} (h : aCons Ra (aCons Rb aNil) vs L) : ∃ v w, vs = [v, w] ∧ Ra v L ∧ Rb w L := by
  obtain ⟨v, r, e, h1, h2⟩ := h
  obtain ⟨w, rfl, h3⟩ := a1 h2
  exact ⟨v, w, e, h1, h3⟩
theorem glen {n : Nat} (ha : Go T L (ta σ) (rSq P)) (hl : ∀ vs L', P vs L' → vs.length = n) : Go T L (tCB (fun xs H Q => ∃ p ys, xs = [V.ref p] ∧ (SqL K H p ys ∨ SqT K H p ys) ∧ Q (V.int ys.length) H) (tCons ta tNil) σ) (rInt n) :=
  Go.bindE ha (fun _ _ h => h) fun x L1 e1 ⟨p, vs, h1, h2, h3⟩ => fun H ok Q q => ⟨p, vs, by rw [h1], h2.imp (fun h => SqL.of (ok.1 p _ h)) (fun h => SqT.of (ok.1 p _ h)), by
    rw [hl vs L1 h3]
    exact q _ L1 H (Stp.refl ok) rfl⟩
theorem gtupof [g : Gr P] (ha : Go T L (ta σ) (rLst P)) :
    Go T L (tCB (fun xs H Q => ∃ p ys, xs = [V.ref p] ∧ ((SqL K H p ys ∧ ∀ l, H l = none → Q (V.ref l) (upd H l (.tup ys))) ∨ (SqT K H p ys ∧ Q (V.ref p) H))) (tCons ta tNil) σ) (rTup P) :=
  Go.bindE ha (fun _ _ h => h) fun x L1 e1 ⟨p, vs, h1, h2, h3⟩ => fun H ok Q q => ⟨p, vs, by rw [h1], Or.inl ⟨SqL.of (ok.1 p _ h2), fun l hl => q _ _ _ (Stp.new ok hl) ⟨l, vs, rfl, upd_same, g.up _ _ _ (Evl.Ex.new (none_of ok.1 hl)) h3⟩⟩⟩
theorem gtupof' [g : Gr P] (ha : Go T L (ta σ) (rTup P)) :
    Go T L (tCB (fun xs H Q => ∃ p ys, xs = [V.ref p] ∧ ((SqL K H p ys ∧ ∀ l, H l = none → Q (V.ref l) (upd H l (.tup ys))) ∨ (SqT K H p ys ∧ Q (V.ref p) H))) (tCons ta tNil) σ) (rTup P) :=
  Go.bindE ha (fun _ _ h => h) fun x L1 e1 ⟨p, vs, h1, h2, h3⟩ => fun H ok Q q => ⟨p, vs, by rw [h1], Or.inr ⟨SqT.of (ok.1 p _ h2), by rw [← h1]; exact q _ _ _ (Stp.refl ok) ⟨p, vs, h1, h2, h3⟩⟩⟩
theorem glistof [g : Gr P] (ha : Go T L (ta σ) (rSq P)) :
    Go T L (tCB (fun xs H Q => ∃ p ys, xs = [V.ref p] ∧ (SqL K H p ys ∨ SqT K H p ys) ∧ ∀ l, H l = none → Q (V.ref l) (upd H l (.lst ys))) (tCons ta tNil) σ) (rLst P) :=
  Go.bindE ha (fun _ _ h => h) fun x L1 e1 ⟨p, vs, h1, h2, h3⟩ => fun H ok Q q => ⟨p, vs, by rw [h1], h2.imp (fun h => SqL.of (ok.1 p _ h)) (fun h => SqT.of (ok.1 p _ h)), fun l hl => q _ _ _ (Stp.new ok hl) ⟨l, vs, rfl, upd_same, g.up _ _ _ (Evl.Ex.new (none_of ok.1 hl)) h3⟩⟩
theorem gsum {ns : List Int} (ha : Go T L (ta σ) (rLs rInt ns)) : Go T L (tCB (rSum K) (tCons ta tNil) σ) (rInt ns.sum) :=
  Go.bindE ha (fun _ _ h => h) fun x L1 e1 ⟨p, vs, h1, h2, h3⟩ => fun H ok Q q => ⟨p, ns, by rw [h1], SqL.of (by rw [← Pd.ints h3]; exact ok.1 p _ h2), q _ L1 H (Stp.refl ok) rfl⟩
theorem Pd.bls : ∀ {ns : List Bool} {vs : List V}, Pd (fun b => rV (.bl b)) ns vs H → vs = ns.map V.bl
  | [], [], _ => rfl
  | a :: r, v :: w, h => by
    have e : v = V.bl a := h.1
    rw [e, Pd.bls h.2]; rfl
  | [], _ :: _, h => h.elim
  | _ :: _, [], h => h.elim
theorem gall {bs : List Bool} (ha : Go T L (ta σ) (rLs (fun b => rV (.bl b)) bs)) : Go T L (tCB (rAll K) (tCons ta tNil) σ) (rV (.bl (bs.all id))) :=
  Go.bindE ha (fun _ _ h => h) fun x L1 e1 ⟨p, vs, h1, h2, h3⟩ => fun H ok Q q => ⟨p, bs, by rw [h1], SqL.of (by rw [← Pd.bls h3]; exact ok.1 p _ h2), q _ L1 H (Stp.refl ok) rfl⟩
theorem gint {i : Int} (ha : Go T L (ta σ) (rInt i)) : Go T L (tCB (fun xs H Q => (∃ i, xs = [V.int i] ∧ Q (V.int i) H) ∨ ∃ k, xs = [V.bl k] ∧ Q (V.int (if k = true then 1 else 0)) H) (tCons ta tNil) σ) (rInt i) :=
  Go.bindE ha (fun _ _ h => h) fun x L1 e1 r1 => fun H ok Q q => Or.inl ⟨i, by rw [show x = V.int i from r1], q _ L1 H (Stp.refl ok) rfl⟩
theorem gintB {b : Bool} (ha : Go T L (ta σ) (rV (.bl b))) : Go T L (tCB (fun xs H Q => (∃ i, xs = [V.int i] ∧ Q (V.int i) H) ∨ ∃ k, xs = [V.bl k] ∧ Q (V.int (if k = true then 1 else 0)) H) (tCons ta tNil) σ) (rInt (if b then 1 else 0)) :=
  Go.bindE ha (fun _ _ h => h) fun x L1 e1 r1 => fun H ok Q q => Or.inr ⟨b, by rw [show x = V.bl b from r1], q _ L1 H (Stp.refl ok) rfl⟩
theorem gabs {i : Int} (ha : Go T L (ta σ) (rInt i)) : Go T L (tCB (fun xs H Q => ∃ i, xs = [V.int i] ∧ Q (V.int (if i < 0 then -i else i)) H) (tCons ta tNil) σ) (rInt (if i < 0 then -i else i)) :=
  Go.bindE ha (fun _ _ h => h) fun x L1 e1 r1 => fun H ok Q q => ⟨i, by rw [show x = V.int i from r1], q _ L1 H (Stp.refl ok) rfl⟩
/-! concatenation, repetition, slices -/
theorem gcat [g : Gr P] [g' : Gr P'] (ha : Go T L (ta σ) (rLst P)) (hb : Go T L (tb σ) (rLst P')) (hl : ∀ vs ws L', P vs L' → P' ws L' → vs.length + ws.length ≤ 100000) : Go T L (tOp rCat ta tb σ) (rLst (aApp P P')) :=
  gop ha hb fun x y L' e ⟨p, vs, h1, h2, h3⟩ ⟨p', ws, h1', h2', h3'⟩ => fun H ok Q q => ⟨p, p', vs, ws, h1, h1', ok.1 p _ h2, ok.1 p' _ h2', Evl.sz_of (hl vs ws L' h3 h3'), fun l hl' => by
    have ex := Evl.Ex.new (o := HO.lst (vs ++ ws)) (none_of ok.1 hl')
    exact q _ _ _ (Stp.new ok hl') ⟨l, vs ++ ws, rfl, upd_same, vs, ws, rfl, g.up _ _ _ ex h3, g'.up _ _ _ ex h3'⟩⟩
theorem gcatT [g : Gr P] [g' : Gr P'] (ha : Go T L (ta σ) (rTup P)) (hb : Go T L (tb σ) (rTup P')) (hl : ∀ vs ws L', P vs L' → P' ws L' → vs.length + ws.length ≤ 100000) : Go T L (tOp (rCatA K) ta tb σ) (rTup (aApp P P')) :=
  gop ha hb fun x y L' e ⟨p, vs, h1, h2, h3⟩ ⟨p', ws, h1', h2', h3'⟩ => fun H ok Q q => ⟨p, p', vs, ws, h1, h1', SqT.of (ok.1 p _ h2), SqT.of (ok.1 p' _ h2'), Evl.sz_of (hl vs ws L' h3 h3'), fun e0 => q _ L' H (Stp.refl ok) ⟨p', ws, rfl, h2', vs, ws, by rw [e0]; rfl, h3, h3'⟩,
    fun _ e0 => q _ L' H (Stp.refl ok) ⟨p, vs, rfl, h2, vs, ws, by rw [e0, List.append_nil], h3, h3'⟩, fun _ _ l hl' => by
    have ex := Evl.Ex.new (o := HO.tup (vs ++ ws)) (none_of ok.1 hl')
    exact q _ _ _ (Stp.new ok hl') ⟨l, vs ++ ws, rfl, upd_same, vs, ws, rfl, g.up _ _ _ ex h3, g'.up _ _ _ ex h3'⟩⟩
theorem grep {n : Int} [g : Gr P] (ha : Go T L (ta σ) (rLst P)) (hb : Go T L (tb σ) (rInt n)) (hn : 0 ≤ n ∧ n ≤ 1000) (hl : ∀ vs L', P vs L' → vs.length = 1) {P'' : RepA} (h : ∀ vs L', P vs L' → P'' (List.replicate n.toNat vs).flatten L') [g'' : Gr P''] : Go T L (tOp rRep ta tb σ) (rLst P'') :=
  gop ha hb fun x y L' e ⟨p, vs, h1, h2, h3⟩ e2 => fun H ok Q q => ⟨p, n, vs, h1, e2, ok.1 p _ h2, by omega, by omega, Evl.sz_of (by rw [hl vs L' h3]; omega), fun l hl' => q _ _ _ (Stp.new ok hl') ⟨l, _, rfl, upd_same, g''.up _ _ _ (Evl.Ex.new (none_of ok.1 hl')) (h vs L' h3)⟩⟩
def rO (o : Option Int) : Option Int → Hp → Prop := fun x _ => x = o
instance {o : Option Int} : Gr (rO o) := ⟨fun _ _ _ _ h => h⟩
theorem go0 : Go T L (tNoPart σ) (rO none) := Go.pure rfl
theorem go1 {i : Int} (h : Go T L (te σ) (rInt i)) : Go T L (tPart te σ) (rO (some i)) := Go.bindE h (fun _ _ h => h) fun x L1 e1 r1 => fun H ok Q q => ⟨i, r1, q _ L1 H (Stp.refl ok) rfl⟩
theorem gslA {tl th : TO} {lo hi : Option Int} {P'' : RepA} [g : Gr P] [g'' : Gr P''] (ha : Go T L (ta σ) (rTup P)) (h1 : Go T L (tl σ) (rO lo)) (h2 : Go T L (th σ) (rO hi)) (h : ∀ vs L', P vs L' → P'' (cutV vs lo hi) L')
    (h' : ∀ vs L', P vs L' → HT.sIx vs.length 0 lo = 0 ∧ HT.sIx vs.length vs.length hi = vs.length → cutV vs lo hi = vs) : Go T L (tSl (rSlA K) ta tl th σ) (rTup P'') :=
  Go.bindE ha (fun _ _ h => h) fun x L1 e1 r1 => Go.bindE (Go.mono e1 h1) (fun _ _ h => h) fun o L2 e2 r2 => Go.bindE (Go.mono (e1.trans e2) h2) (fun _ _ h => h) fun o' L3 e3 r3 => fun H ok Q q => by
    have r2 : o = lo := r2
    have r3 : o' = hi := r3
    subst r2 r3
    obtain ⟨p, vs, k1, k2, k3⟩ := r1
    have k2' := (e2.trans e3) p _ k2
    have k3' := g.up vs _ _ (e2.trans e3) k3
    refine ⟨p, vs, k1, SqT.of (ok.1 p _ k2'), fun z => q _ _ _ (Stp.refl ok) ⟨p, vs, rfl, k2', ?_⟩, fun _ l hl' => q _ _ _ (Stp.new ok hl') ⟨l, _, rfl, upd_same, g''.up _ _ _ (Evl.Ex.new (none_of ok.1 hl')) (h vs L3 k3')⟩⟩
    have := h vs L3 k3'
    rw [h' vs L3 k3' z] at this
    exact this
theorem gslL {tl th : TO} {lo hi : Option Int} {P'' : RepA} [g : Gr P] [g'' : Gr P''] (ha : Go T L (ta σ) (rLst P)) (h1 : Go T L (tl σ) (rO lo)) (h2 : Go T L (th σ) (rO hi)) (h : ∀ vs L', P vs L' → P'' (cutV vs lo hi) L') : Go T L (tSl (rSlL K) ta tl th σ) (rLst P'') :=
  Go.bindE ha (fun _ _ h => h) fun x L1 e1 r1 => Go.bindE (Go.mono e1 h1) (fun _ _ h => h) fun o L2 e2 r2 => Go.bindE (Go.mono (e1.trans e2) h2) (fun _ _ h => h) fun o' L3 e3 r3 => fun H ok Q q => by
    have r2 : o = lo := r2
    have r3 : o' = hi := r3
    subst r2 r3
    obtain ⟨p, vs, k1, k2, k3⟩ := r1
    have k2' := (e2.trans e3) p _ k2
    have k3' := g.up vs _ _ (e2.trans e3) k3
    exact ⟨p, vs, k1, SqL.of (ok.1 p _ k2'), fun l hl' => q _ _ _ (Stp.new ok hl') ⟨l, _, rfl, upd_same, g''.up _ _ _ (Evl.Ex.new (none_of ok.1 hl')) (h vs L3 k3')⟩⟩
theorem gstar {t : TA} [g : Gr P] [g' : Gr P'] (ha : Go T L (ta σ) (rSq P)) (hr : Go T L (t σ) P') : Go T L (StX.tStar K ta t σ) (aApp P P') :=
  Go.bindE ha (fun _ _ h => h) fun x L1 e1 ⟨p, vs, h1, h2, h3⟩ => fun H ok Q q => ⟨p, vs, h1, (h2.imp (fun h => SqL.of (ok.1 p _ h)) (fun h => SqT.of (ok.1 p _ h))).symm, Go.mono e1 hr H ok _ fun ys L2 H2 s2 r2 => q _ L2 H2 s2 ⟨vs, ys, rfl, g.up _ _ _ s2.ll h3, r2⟩⟩
end
end HV
/-! part V3 -/
set_option maxHeartbeats 4000000
/-! Iterators, comprehensions, loops; objects of our own. -/
namespace HV
open PySem PySem.Spec PyProof.Rows L2 HR
open Evl (Ex)
/-- an object that the body has made and has not yet told -/
structure Prv (H0 L H : Hp) (p : Addr) (o : HO) : Prop where
  st : H0 p = none
  nl : L p = none
  at_ : H p = some o
section
variable {K : PySem.W.Frag} {T : Tap} {L L0 H0 H L1 H1 : Hp} {σ : L2.St} {ta tb tc te : TE} {R Ra Rb Rc : Rep} {P P' : RepA} {x y v : V} {p : Addr} {o : HO}
theorem notT (ok : Ok T L0 H0) (h : H0 p = none) : ¬ T p := fun t => by
  have := tp_some (ok.2 p t).1
  rw [h] at this; cases this
theorem Prv.step (ok : Ok T L0 H0) (h : Prv H0 L H p o) (s : Stp T L H L1 H1) (hm : Mutb o := by intro _ z; cases z) : Prv H0 L1 H1 p o :=
  ⟨h.st, s.nw p o h.at_ hm h.nl, s.hh p o h.at_ (notT ok h.st)⟩
theorem Prv.grow (h : Prv H0 L H p o) (e : Ex H H1) : Prv H0 L H1 p o := ⟨h.st, h.nl, e p o h.at_⟩
theorem Prv.set (h : Prv H0 L H p o) {o' : HO} : Prv H0 L (upd H p o') p o' := ⟨h.st, h.nl, upd_same⟩
theorem Prv.other {q : Addr} {o' : HO} (h : Prv H0 L H p o) (n : p ≠ q) : Prv H0 L (upd H q o') p o := ⟨h.st, h.nl, by rw [upd_ne n]; exact h.at_⟩
/-- a new object of our own -/
theorem Prv.new (ok : Ok T L0 H0) (S : Stp T L0 H0 L H) (h : H p = none) : Prv H0 L (upd H p o) p o :=
  ⟨(by
    cases e : H0 p with
    | none => rfl
    | some u =>
      have := isSome_hh S (a := p) (by rw [e]; rfl)
      rw [h] at this
      cases this), none_of S.lh h, upd_same⟩
theorem Stp.add (ok : Ok T L0 H0) (S : Stp T L0 H0 L H) (h : H p = none) : Stp T L0 H0 L (upd H p o) := S.trans (Stp.grow (S.ok ok) (Evl.Ex.new h))
theorem Stp.chg (ok : Ok T L0 H0) (S : Stp T L0 H0 L H) {o' : HO} (h : Prv H0 L H p o) : Stp T L0 H0 L (upd H p o') := S.mut h.st h.nl ok
theorem Stp.pub (S : Stp T L0 H0 L H) (h : Prv H0 L H p o) : Stp T L0 H0 (upd L p o) H := S.tell h.st h.nl h.at_
theorem Prv.ex (h : Prv H0 L H p o) : Ex L (upd L p o) := Evl.Ex.new h.nl

/-! iterators -/
def Wk {ι : Type} (T : Tap) (J : It) (L : Hp) (ys : List ι) (Y : ι → Rep) : Prop :=
  Walk J ys.length (fun H => Ex L H) (fun i H x H' => ∀ L1, Ex L L1 → Ok T L1 H → ∃ L2 a, Stp T L1 H L2 H' ∧ ys[i]? = some a ∧ Y a x L2)
def rIt {ι : Type} (T : Tap) (ys : List ι) (Y : ι → Rep) : It → Hp → Prop := fun J L => Wk T J L ys Y
variable {ι κ : Type} {ys : List ι} {Y : ι → Rep}
theorem gi_list {tl : TE} [gy : ∀ i, Gr (Y i)] (h : Go T L (tl σ) (rLs Y ys)) : Go T L (iList K tl σ) (rIt T ys Y) := fun H ok Q q => h H ok _ fun x L1 H1 s1 ⟨p, vs, e, e1, e2⟩ =>
  ⟨p, e, ⟨vs, SqL.of (s1.lh p _ e1)⟩, q _ L1 H1 s1 (by
    have hl : vs.length = ys.length := Pd.length e2
    have w := walk_list (K := K) (a := p) (xs := vs)
    rw [hl] at w
    exact w.mono (fun H hE => SqL.of (hE p _ e1)) fun i H x H' hi hE ⟨y1, y2⟩ L2 e3 ok2 => by
      obtain ⟨a, h1, h2⟩ := Pd.atV e2 y2
      subst y1
      exact ⟨L2, a, Stp.refl ok2, h1, (gy a).up _ _ _ e3 h2⟩)⟩
theorem gi_tup {tl : TE} [gy : ∀ i, Gr (Y i)] (h : Go T L (tl σ) (rTs Y ys)) : Go T L (iTup K tl σ) (rIt T ys Y) := fun H ok Q q => h H ok _ fun x L1 H1 s1 ⟨p, vs, e, e1, e2⟩ =>
  ⟨p, e, ⟨vs, SqT.of (s1.lh p _ e1)⟩, q _ L1 H1 s1 (by
    have hl : vs.length = ys.length := Pd.length e2
    have w := walk_tup (K := K) (a := p) (xs := vs)
    rw [hl] at w
    exact w.mono (fun H hE => SqT.of (hE p _ e1)) fun i H x H' hi hE ⟨y1, y2⟩ L2 e3 ok2 => by
      obtain ⟨a, h1, h2⟩ := Pd.atV e2 y2
      subst y1
      exact ⟨L2, a, Stp.refl ok2, h1, (gy a).up _ _ _ e3 h2⟩)⟩
def upto (lo : Int) (n : Nat) : List Int := (List.range n).map fun (i : Nat) => lo + (i : Int)
theorem upto_len {lo : Int} {n : Nat} : (upto lo n).length = n := by simp [upto]
theorem upto_at {lo : Int} {n i : Nat} (h : i < n) : (upto lo n)[i]? = some (lo + (i : Int)) := by simp [upto, h]
theorem wk_range {lo : Int} {n : Nat} : Wk T (Itr lo n) L (upto lo n) rInt := by
  unfold Wk
  rw [upto_len]
  exact walk_range.mono (fun _ _ => trivial) fun i H x H' hi hE ⟨y1, y2⟩ L2 e3 ok2 => by
    subst y1
    exact ⟨L2, _, Stp.refl ok2, upto_at hi, y2⟩
theorem gi_rng1 {ta : TA} {n : Int} (h : Go T L (ta σ) (aCons (rInt n) aNil)) (hn : -100000 ≤ n ∧ n ≤ 100000) : Go T L (iRng1 ta σ) (rIt T (upto 0 n.toNat) rInt) := fun H ok Q q => h H ok _ fun vs L1 H1 s1 r1 => by
  obtain ⟨v, e, h1⟩ := a1 r1
  have h1 : v = V.int n := h1
  subst h1
  exact ⟨n, e, by omega, by omega, q _ L1 H1 s1 wk_range⟩
theorem gi_rng2 {ta : TA} {lo n : Int} (h : Go T L (ta σ) (aCons (rInt lo) (aCons (rInt n) aNil))) (hn : -100000 ≤ lo ∧ lo ≤ 100000 ∧ -100000 ≤ n ∧ n ≤ 100000) : Go T L (iRng2 ta σ) (rIt T (upto lo (n - lo).toNat) rInt) := fun H ok Q q => h H ok _ fun vs L1 H1 s1 r1 => by
  obtain ⟨v, w, e, h1, h2⟩ := a2 r1
  have h1 : v = V.int lo := h1
  have h2 : w = V.int n := h2
  subst h1 h2
  exact ⟨lo, n, e, ⟨by omega, by omega, by omega, by omega⟩, q _ L1 H1 s1 wk_range⟩
/-- pairs of a place and an item -/
def placed (ys : List ι) : List (Nat × ι) := (List.range ys.length).zip ys
def rPr (Ra Rb : Rep) : Rep := rTup (aCons Ra (aCons Rb aNil))
instance [g : Gr Ra] [g' : Gr Rb] : Gr (rPr Ra Rb) := inferInstanceAs (Gr (rTup _))
theorem gi_enumT {ta : TA} [gy : ∀ i, Gr (Y i)] (h : Go T L (ta σ) (aCons (rTs Y ys) aNil)) : Go T L (iEnumT K ta σ) (rIt T (placed ys) fun p => rPr (rInt p.1) (Y p.2)) := fun H ok Q q => h H ok _ fun vs L1 H1 s1 r1 => by
  obtain ⟨v, e, p, ws, h1, h2, h3⟩ := a1 r1
  subst h1
  refine ⟨p, ws, e, SqT.of (s1.lh p _ h2), q _ L1 H1 s1 ?_⟩
  have hl : ws.length = (placed ys).length := by
    have : ws.length = ys.length := Pd.length h3
    simp [placed, this]
  have w := walk_enumT (K := K) (a := p) (xs := ws)
  rw [hl] at w
  exact w.mono (fun H hE => SqT.of (hE p _ h2)) fun i H x H' hi hE ⟨Tt, u, z, k1, k2, k3, k4, k5⟩ L2 e3 ok2 => by
    obtain ⟨a, m1, m2⟩ := Pd.atV h3 k5
    have hi' : i < ys.length := (List.getElem?_eq_some_iff.mp m1).1
    subst k3 k1
    refine ⟨_, (i, a), Stp.new ok2 k2, ?_, Tt, _, rfl, upd_same, u, [z], rfl, (Option.some.inj k4).symm, z, [], rfl, (gy a).up _ _ _ (e3.trans (Evl.Ex.new (none_of ok2.1 k2))) m2, rfl⟩
    simp only [placed, List.getElem?_zip_eq_some]
    exact ⟨by simp [hi'], m1⟩
theorem gi_zipT {ta : TA} {zs : List κ} {Z : κ → Rep} [gy : ∀ i, Gr (Y i)] [gz : ∀ i, Gr (Z i)] (h : Go T L (ta σ) (aCons (rTs Y ys) (aCons (rTs Z zs) aNil))) : Go T L (RZ.iZipA K ta σ) (rIt T (ys.zip zs) fun p => rPr (Y p.1) (Z p.2)) := fun H ok Q q => h H ok _ fun vs L1 H1 s1 r1 => by
  obtain ⟨v, w, e, ⟨p, ws, h1, h2, h3⟩, ⟨p', us, h1', h2', h3'⟩⟩ := a2 r1
  subst h1 h1'
  refine ⟨p, p', ws, us, e, Or.inr ⟨SqT.of (s1.lh p _ h2), SqT.of (s1.lh p' _ h2'), q _ L1 H1 s1 ?_⟩⟩
  have hl : min ws.length us.length = (ys.zip zs).length := by
    have e1 : ws.length = ys.length := Pd.length h3
    have e2 : us.length = zs.length := Pd.length h3'
    rw [List.length_zip, e1, e2]
  have wk := walk_zipT (K := K) (a := p) (b := p') (xs := ws) (ys := us) rfl
  rw [hl] at wk
  exact wk.mono (fun H hE => ⟨SqT.of (hE p _ h2), SqT.of (hE p' _ h2')⟩) fun i H x H' hi hE ⟨Tt, u, z, k1, k2, k3, k4, k5⟩ L2 e3 ok2 => by
    obtain ⟨a, m1, m2⟩ := Pd.atV h3 k4
    obtain ⟨b, n1, n2⟩ := Pd.atV h3' k5
    subst k3 k1
    have ex := e3.trans (Evl.Ex.new (o := HO.tup [u, z]) (none_of ok2.1 k2))
    exact ⟨_, (a, b), Stp.new ok2 k2, List.getElem?_zip_eq_some.mpr ⟨m1, n1⟩, Tt, _, rfl, upd_same, u, [z], rfl, (gy a).up _ _ _ ex m2, z, [], rfl, (gz b).up _ _ _ ex n2, rfl⟩
theorem gi_zipL {ta : TA} {zs : List κ} {Z : κ → Rep} [gy : ∀ i, Gr (Y i)] [gz : ∀ i, Gr (Z i)] (h : Go T L (ta σ) (aCons (rLs Y ys) (aCons (rLs Z zs) aNil))) : Go T L (RZ.iZipA K ta σ) (rIt T (ys.zip zs) fun p => rPr (Y p.1) (Z p.2)) := fun H ok Q q => h H ok _ fun vs L1 H1 s1 r1 => by
  obtain ⟨v, w, e, ⟨p, ws, h1, h2, h3⟩, ⟨p', us, h1', h2', h3'⟩⟩ := a2 r1
  subst h1 h1'
  refine ⟨p, p', ws, us, e, Or.inl ⟨SqL.of (s1.lh p _ h2), SqL.of (s1.lh p' _ h2'), q _ L1 H1 s1 ?_⟩⟩
  have hl : min ws.length us.length = (ys.zip zs).length := by
    have e1 : ws.length = ys.length := Pd.length h3
    have e2 : us.length = zs.length := Pd.length h3'
    rw [List.length_zip, e1, e2]
  have wk := walk_zip (K := K) (a := p) (b := p') (xs := ws) (ys := us) rfl
  rw [hl] at wk
  exact wk.mono (fun H hE => ⟨SqL.of (hE p _ h2), SqL.of (hE p' _ h2')⟩) fun i H x H' hi hE ⟨Tt, u, z, k1, k2, k3, k4, k5⟩ L2 e3 ok2 => by
    obtain ⟨a, m1, m2⟩ := Pd.atV h3 k4
    obtain ⟨b, n1, n2⟩ := Pd.atV h3' k5
    subst k3 k1
    have ex := e3.trans (Evl.Ex.new (o := HO.tup [u, z]) (none_of ok2.1 k2))
    exact ⟨_, (a, b), Stp.new ok2 k2, List.getElem?_zip_eq_some.mpr ⟨m1, n1⟩, Tt, _, rfl, upd_same, u, [z], rfl, (gy a).up _ _ _ ex m2, z, [], rfl, (gz b).up _ _ _ ex n2, rfl⟩
theorem gi_str {te : TE} {z : Str} (h : Go T L (te σ) (rV (.str z))) : Go T L (iStr te σ) (rIt T z.cps.toList fun c => rV (.str ⟨#[c]⟩)) := fun H ok Q q => h H ok _ fun v L1 H1 s1 r1 => ⟨z, r1, q _ L1 H1 s1 (by
  have hl : z.cps.size = z.cps.toList.length := by simp
  have w := walk_str (z := z)
  rw [hl] at w
  exact w.mono (fun _ _ => trivial) fun i H x H' hi hE ⟨y1, c, y2, y3⟩ L2 e3 ok2 => by
    subst y1
    exact ⟨L2, c, Stp.refl ok2, by simpa using y2, y3⟩)⟩
/-! two iterators for one place: a list or a tuple -/
def iOr (a b : TI) : TI := fun σ H R => a σ H R ∨ b σ H R
theorem pi_or {X : Cx} {tg l : Expr} {a b : TI} (ha : PI X tg l a) (hb : PI X tg l b) : PI X tg l (iOr a b) := ⟨fun pins s σ H R I h => h.elim (fun h => ha.run pins s σ H R I h) fun h => hb.run pins s σ H R I h⟩
theorem gi_seq {tl : TE} [gy : ∀ i, Gr (Y i)] (h : Go T L (tl σ) (rSq (aLs Y ys))) : Go T L (fun H Q => tl σ H fun x H1 => iOr (iList K (tC x)) (iTup K (tC x)) σ H1 Q) (rIt T ys Y) := fun H ok Q q => h H ok _ fun x L1 H1 s1 ⟨p, vs, e, e1, e2⟩ => by
  rcases e1 with e1 | e1
  · exact Or.inl (gi_list (K := K) (tl := tC x) (Go.pure (⟨p, vs, e, e1, e2⟩ : rLs Y ys x L1)) H1 (s1.ok ok) Q fun y L2 H2 s2 r2 => q y L2 H2 (s1.trans s2) r2)
  · exact Or.inr (gi_tup (K := K) (tl := tC x) (Go.pure (⟨p, vs, e, e1, e2⟩ : rTs Y ys x L1)) H1 (s1.ok ok) Q fun y L2 H2 s2 r2 => q y L2 H2 (s1.trans s2) r2)

/-! comprehensions -/
theorem take_at {i : Nat} {a : ι} (h : ys[i]? = some a) : ys.take (i + 1) = ys.take i ++ [a] := by
  rw [List.take_add_one, h]; rfl
theorem glc {wi : TI} {g : TG} {tt : TT} {te : TE} {vs : List Nat} {Z : κ → Rep} [gz : ∀ k, Gr (Z k)] (keep : ι → Bool) (f : ι → κ) (hi : Go T L (wi σ) (rIt T ys Y)) (hz : ys.length ≤ 40000)
    (hs : ∀ a x L1, a ∈ ys → Ex L L1 → Y a x L1 → ∃ σ2, wipe σ2 vs = wipe σ vs ∧ (∀ H (Q : L2.St → Hp → Prop), Ex L1 H → Q σ2 H → g x (wipe σ vs) H Q) ∧ Go T L1 (tt σ2) (rB (keep a)) ∧ (keep a = true → Go T L1 (te σ2) (Z (f a)))) :
    Go T L (tLc wi g tt te vs σ) (rLs Z ((ys.filter keep).map f)) := fun H ok Q q => hi H ok _ fun J L1 H1 s1 w D hD => by
  have ok1 := s1.ok ok
  refine lc_it w (fun i H' => ∃ L' acc, Stp T L1 H1 L' H' ∧ Prv H1 L' H' D (.lst acc) ∧ Pd Z (((ys.take i).filter keep).map f) acc L') ?_ ?_ ?_ ?_
  · exact ⟨L1, [], Stp.add ok1 (Stp.refl ok1) hD, Prv.new ok1 (Stp.refl ok1) hD, by simp [Pd]⟩
  · rintro i H' _ ⟨L', acc, S, p, d⟩
    exact S.ll.trans S.lh
  · rintro i x Ha Hb hi' ⟨La, acc, S, p, d⟩ y
    obtain ⟨Lb, a, s2, ha, hY⟩ := y La S.ll (S.ok ok1)
    obtain ⟨σ2, w1, w2, w3, w4⟩ := hs a x Lb (List.mem_of_getElem? ha) ((s1.ll.trans S.ll).trans s2.ll) hY
    refine w2 Hb _ s2.lh ⟨w1, w3 Hb (s2.ok (S.ok ok1)) _ fun b Lc Hc s3 r3 => ?_⟩
    have r3 : b = keep a := r3
    subst r3
    have S3 := (S.trans s2).trans s3
    have p3 := (p.step ok1 s2).step ok1 s3
    have d3 : Pd Z (((ys.take i).filter keep).map f) acc Lc := d.up (s2.ll.trans s3.ll)
    cases hk : keep a with
    | true =>
      refine Go.mono s3.ll (w4 hk) Hc (S3.ok ok1) _ fun v Ld Hd s4 r4 => ⟨acc, (p3.step ok1 s4).at_, ?_, Ld, acc ++ [v], Stp.chg ok1 (S3.trans s4) (p3.step ok1 s4), (p3.step ok1 s4).set, ?_⟩
      · have hl : acc.length = (((ys.take i).filter keep).map f).length := Pd.length d3
        have h1 : ((ys.take i).filter keep).length ≤ (ys.take i).length := List.length_filter_le _ _
        have h2 : (ys.take i).length ≤ ys.length := by simp; omega
        rw [List.length_map] at hl
        exact Evl.sz_lt (by omega)
      · rw [take_at ha, List.filter_append, List.map_append]
        have : List.map f (List.filter keep [a]) = [f a] := by simp [hk]
        rw [this]
        exact Pd.app (d3.up s4.ll) ⟨r4, trivial⟩
    | false =>
      refine ⟨Lc, acc, S3, p3, ?_⟩
      rw [take_at ha, List.filter_append, List.map_append]
      have : List.map f (List.filter keep [a]) = [] := by simp [hk]
      rw [this, List.append_nil]
      exact d3
  · rintro H' ⟨L', acc, S, p, d⟩
    rw [List.take_length] at d
    exact q _ _ _ (s1.trans (S.pub p)) ⟨D, acc, rfl, upd_same, Pd.up p.ex d⟩
/-- every item, the target one name -/
theorem glc1 {wi : TI} {te : TE} {vs : List Nat} {j : Nat} {Z : κ → Rep} [gz : ∀ k, Gr (Z k)] (f : ι → κ) (hi : Go T L (wi σ) (rIt T ys Y)) (hz : ys.length ≤ 40000) (hw : ∀ x, wipe ((wipe σ vs).set j (some x)) vs = wipe σ vs)
    (hs : ∀ a x L1, a ∈ ys → Ex L L1 → Y a x L1 → Go T L1 (te ((wipe σ vs).set j (some x))) (Z (f a))) : Go T L (tLc wi (gName j) tYes te vs σ) (rLs Z (ys.map f)) := by
  have := glc (T := T) (L := L) (σ := σ) (wi := wi) (g := gName j) (tt := tYes) (te := te) (vs := vs) (Y := Y) (Z := Z) (fun _ => true) f hi hz fun a x L1 ha e r => ⟨_, hw x, fun _ _ _ q => q, Go.pure (x := true) rfl, fun _ => hs a x L1 ha e r⟩
  rw [List.filter_eq_self.mpr (fun _ _ => rfl)] at this
  exact this
/-- .. with a test -/
theorem glcF {wi : TI} {tt : TT} {te : TE} {vs : List Nat} {j : Nat} {Z : κ → Rep} [gz : ∀ k, Gr (Z k)] (keep : ι → Bool) (f : ι → κ) (hi : Go T L (wi σ) (rIt T ys Y)) (hz : ys.length ≤ 40000) (hw : ∀ x, wipe ((wipe σ vs).set j (some x)) vs = wipe σ vs)
    (ht : ∀ a x L1, a ∈ ys → Ex L L1 → Y a x L1 → Go T L1 (tt ((wipe σ vs).set j (some x))) (rB (keep a)))
    (hs : ∀ a x L1, a ∈ ys → Ex L L1 → Y a x L1 → keep a = true → Go T L1 (te ((wipe σ vs).set j (some x))) (Z (f a))) : Go T L (tLc wi (gName j) tt te vs σ) (rLs Z ((ys.filter keep).map f)) :=
  glc keep f hi hz fun a x L1 ha e r => ⟨_, hw x, fun _ _ _ q => q, ht a x L1 ha e r, hs a x L1 ha e r⟩

/-! loops -/
def Nxt (T : Tap) (L0 H0 L : Hp) (Pv : Nat → L2.St → Hp → Hp → Prop) (i : Nat) : L2.St → Hp → Prop := fun σ' H' => ∃ La, Stp T L0 H0 La H' ∧ Ex L La ∧ Pv i σ' La H'
theorem gfor {wi : TI} {g : TG} {tb : TS} {D : Ends} (ok : Ok T L0 H0) (S : Stp T L0 H0 L H) (hi : Go T L (wi σ) (rIt T ys Y)) (Pv : Nat → L2.St → Hp → Hp → Prop)
    (h0 : ∀ L1 H1, Stp T L0 H0 L1 H1 → Stp T L H L1 H1 → Pv 0 σ L1 H1)
    (hs : ∀ Lm, Ex L Lm → ∀ i a x σ' La Ha Lb Hb, ys[i]? = some a → Stp T L0 H0 La Ha → Ex Lm La → Pv i σ' La Ha → Stp T La Ha Lb Hb → Y a x Lb → g x σ' Hb fun σ2 H2 => tb { D with nx := Nxt T L0 H0 Lm Pv (i + 1), ct := Nxt T L0 H0 Lm Pv (i + 1), bk := D.nx } σ2 H2)
    (hd : ∀ σ' La Ha, Stp T L0 H0 La Ha → Ex L La → Pv ys.length σ' La Ha → D.nx σ' Ha) : tFor wi g tb D σ H :=
  hi H (S.ok ok) _ fun J L1 H1 s1 w => for_it w (fun i σ' H' => ∃ La, Stp T L0 H0 La H' ∧ Ex L1 La ∧ Pv i σ' La H') ⟨L1, S.trans s1, Evl.Ex.refl L1, h0 L1 H1 (S.trans s1) s1⟩
    (fun i σ' H' _ ⟨La, S', e, _⟩ => e.trans S'.lh)
    (fun i x σ' Ha Hb hi' ⟨La, S', e, pv⟩ y => by
      obtain ⟨Lb, a, s2, ha, hY⟩ := y La e (S'.ok ok)
      exact hs L1 s1.ll i a x σ' La Ha Lb Hb ha S' e pv s2 hY)
    (fun σ' H' ⟨La, S', e, pv⟩ => hd σ' La H' S' (s1.ll.trans e) pv)
end
end HV
/-! part V4 -/
set_option maxHeartbeats 4000000
/-! Statements; a def from its body. -/
namespace HV
open PySem PySem.Spec PyProof.Rows L2 HR
open Evl (Ex)
section
variable {K : PySem.W.Frag} {T : Tap} {L L0 H0 H : Hp} {σ : L2.St} {ta tb tc te : TE} {R Ra Rb Rc : Rep} {P P' : RepA} {x y v : V} {t : TT} {tu tw tz : TS} {D : Ends} {b : Bool}
theorem geqI {i j : Int} (h : Go T L (te σ) (rInt i)) (e : i = j) : Go T L (te σ) (rInt j) := e ▸ h
theorem geqV {u v : List Int} (h : Go T L (te σ) (rVec u)) (e : u = v) : Go T L (te σ) (rVec v) := e ▸ h
theorem geqB {b c : Bool} (h : Go T L (te σ) (rV (.bl b))) (e : b = c) : Go T L (te σ) (rV (.bl c)) := e ▸ h
theorem geqT {b c : Bool} (h : Go T L (t σ) (rB b)) (e : b = c) : Go T L (t σ) (rB c) := e ▸ h
theorem gSet {i : Nat} (ok : Ok T L0 H0) (S : Stp T L0 H0 L H) (h : Go T L (te σ) R) (k : ∀ v L1 H1, Stp T L0 H0 L1 H1 → Stp T L H L1 H1 → R v L1 → tz D (σ.set i (some v)) H1) : tSeq (tAsg te (gName i)) tz D σ H :=
  Go.at ok S h fun v L1 H1 S1 s1 r1 => k v L1 H1 S1 s1 r1
theorem gSet1 {i : Nat} (ok : Ok T L0 H0) (S : Stp T L0 H0 L H) (h : Go T L (te σ) R) (k : ∀ v L1 H1, Stp T L0 H0 L1 H1 → Stp T L H L1 H1 → R v L1 → D.nx (σ.set i (some v)) H1) : tAsg te (gName i) D σ H :=
  Go.at ok S h fun v L1 H1 S1 s1 r1 => k v L1 H1 S1 s1 r1
theorem gRet (ok : Ok T L0 H0) (S : Stp T L0 H0 L H) (h : Go T L (te σ) R) (k : ∀ v L1 H1, Stp T L0 H0 L1 H1 → R v L1 → D.rt v H1) : tRet te D σ H :=
  Go.at ok S h fun v L1 H1 S1 s1 r1 => k v L1 H1 S1 r1
theorem gEnd (ok : Ok T L0 H0) (S : Stp T L0 H0 L H) (k : ∀ v L1 H1, Stp T L0 H0 L1 H1 → R v L1 → D.rt v H1) (h : Go T L (te σ) R) : tRet te D σ H := gRet ok S h k
theorem gIfS (ok : Ok T L0 H0) (S : Stp T L0 H0 L H) (h : Go T L (t σ) (rB b)) (h1 : b = true → ∀ L1 H1, Stp T L0 H0 L1 H1 → Stp T L H L1 H1 → tu D σ H1) (h2 : b = false → ∀ L1 H1, Stp T L0 H0 L1 H1 → Stp T L H L1 H1 → tw D σ H1) : tIfS t tu tw D σ H :=
  Go.at ok S h fun v L1 H1 S1 s1 r1 => by
    have r1 : v = b := r1
    subst r1
    cases v with
    | true => exact h1 rfl L1 H1 S1 s1
    | false => exact h2 rfl L1 H1 S1 s1
theorem gIf {b : Bool} (ok : Ok T L0 H0) (S : Stp T L0 H0 L H) (h : Go T L (t σ) (rB b)) (h1 : b = true → ∀ L1 H1, Stp T L0 H0 L1 H1 → Stp T L H L1 H1 → tu { D with nx := tz D } σ H1) (h2 : b = false → ∀ L1 H1, Stp T L0 H0 L1 H1 → Stp T L H L1 H1 → tw { D with nx := tz D } σ H1) : tSeq (tIfS t tu tw) tz D σ H :=
  gIfS (D := { D with nx := tz D }) ok S h h1 h2
/-- an if whose suite is never come to -/
theorem gNot {b : Bool} (ok : Ok T L0 H0) (S : Stp T L0 H0 L H) (h : Go T L (t σ) (rB b)) (hb : b = false) (k : ∀ L1 H1, Stp T L0 H0 L1 H1 → Stp T L H L1 H1 → tz D σ H1) : tSeq (tIfS t tu tNext) tz D σ H :=
  gIf ok S h (fun e => by rw [hb] at e; cases e) fun _ L1 H1 S1 s1 => k L1 H1 S1 s1
theorem gDrop (ok : Ok T L0 H0) (S : Stp T L0 H0 L H) (h : Go T L (te σ) R) (k : ∀ v L1 H1, Stp T L0 H0 L1 H1 → Stp T L H L1 H1 → R v L1 → tz D σ H1) : tSeq (tDrop te) tz D σ H :=
  Go.at ok S h fun v L1 H1 S1 s1 r1 => k v L1 H1 S1 s1 r1
theorem gDrop1 (ok : Ok T L0 H0) (S : Stp T L0 H0 L H) (h : Go T L (te σ) R) (k : ∀ v L1 H1, Stp T L0 H0 L1 H1 → Stp T L H L1 H1 → R v L1 → D.nx σ H1) : tDrop te D σ H :=
  Go.at ok S h fun v L1 H1 S1 s1 r1 => k v L1 H1 S1 s1 r1
theorem gPar {i j : Nat} {ta tb : TE} [ga : Gr Ra] [gb : Gr Rb] (ok : Ok T L0 H0) (S : Stp T L0 H0 L H) (ha : Go T L (ta σ) Ra) (hb : Go T L (tb σ) Rb) (k : ∀ v w L1 H1, Stp T L0 H0 L1 H1 → Stp T L H L1 H1 → Ra v L1 → Rb w L1 → tz D ((σ.set i (some v)).set j (some w)) H1) :
    tSeq (tPar i j (tCons ta (tCons tb tNil))) tz D σ H :=
  Go.at ok S (gaC ha (gaC hb ga0)) fun vs L1 H1 S1 s1 r1 => by
    obtain ⟨v, w, e, h1, h2⟩ := a2 r1
    exact ⟨v, w, e, k v w L1 H1 S1 s1 h1 h2⟩
theorem gForS {ι : Type} {ys : List ι} {Y : ι → Rep} {wi : TI} {g : TG} {tb : TS} (ok : Ok T L0 H0) (S : Stp T L0 H0 L H) (hi : Go T L (wi σ) (rIt T ys Y)) (Pv : Nat → L2.St → Hp → Hp → Prop)
    (h0 : ∀ L1 H1, Stp T L0 H0 L1 H1 → Stp T L H L1 H1 → Pv 0 σ L1 H1)
    (hs : ∀ Lm, Ex L Lm → ∀ i a x σ' La Ha Lb Hb, ys[i]? = some a → Stp T L0 H0 La Ha → Ex Lm La → Pv i σ' La Ha → Stp T La Ha Lb Hb → Y a x Lb → g x σ' Hb fun σ2 H2 => tb { D with nx := Nxt T L0 H0 Lm Pv (i + 1), ct := Nxt T L0 H0 Lm Pv (i + 1), bk := tz D } σ2 H2)
    (hd : ∀ σ' La Ha, Stp T L0 H0 La Ha → Ex L La → Pv ys.length σ' La Ha → tz D σ' Ha) : tSeq (tFor wi g tb) tz D σ H :=
  gfor (D := { D with nx := tz D }) ok S hi Pv h0 hs hd
/-- the target i, j = a pair -/
theorem g_pair {i j : Nat} {Q : L2.St → Hp → Prop} (e : Ex L H) (h : rPr Ra Rb x L) (k : ∀ u w, Ra u L → Rb w L → Q ((σ.set i (some u)).set j (some w)) H) : gTup K 2 (gCons (gName i) (gCons (gName j) gNil)) x σ H Q := by
  obtain ⟨p, vs, h1, h2, h3⟩ := h
  obtain ⟨u, w, rfl, r1, r2⟩ := a2 h3
  exact ⟨p, _, h1, SqT.of (e p _ h2), rfl, u, [w], rfl, w, [], rfl, rfl, k u w r1 r2⟩
theorem g_triple {i j l : Nat} {Q : L2.St → Hp → Prop} (e : Ex L H) (h : rTup (aCons Ra (aCons Rb (aCons Rc aNil))) x L) (k : ∀ u w z, Ra u L → Rb w L → Rc z L → Q (((σ.set i (some u)).set j (some w)).set l (some z)) H) : gTup K 3 (gCons (gName i) (gCons (gName j) (gCons (gName l) gNil))) x σ H Q := by
  obtain ⟨p, vs, h1, h2, u, r, e1, r1, h4⟩ := h
  obtain ⟨w, z, e2, r2, r3⟩ := a2 h4
  subst e1 e2
  exact ⟨p, _, h1, SqT.of (e p _ h2), rfl, u, [w, z], rfl, w, [z], rfl, z, [], rfl, rfl, k u w z r1 r2 r3⟩
/-- l.append(e), l our own -/
theorem gApp {i : Nat} {p : Addr} {xs : List V} (ok : Ok T L0 H0) (S : Stp T L0 H0 L H) (hi : σ[i]? = some (some (.ref p))) (hp : Prv H0 L H p (.lst xs)) (hz : xs.length < 100000) (h : Go T L (te σ) R)
    (k : ∀ v L1 H1, Stp T L0 H0 L1 H1 → Stp T L H L1 (upd H1 p (.lst xs)) → R v L1 → Prv H0 L1 H1 p (.lst (xs ++ [v])) → tz D σ H1) : tSeq (tDrop (tBM K "list" rAppend (tVar i) (tCons te tNil))) tz D σ H :=
  ⟨.ref p, hi, Or.inl ⟨rfl, xs, SqL.of hp.at_⟩, h H (S.ok ok) _ fun v L1 H1 s1 r1 => by
    have hp1 := hp.step ok s1
    refine ⟨p, xs, v, rfl, rfl, hp1.at_, Evl.sz_lt hz, k v L1 _ (Stp.chg ok (S.trans s1) hp1) ?_ r1 hp1.set⟩
    have e : upd (upd H1 p (.lst (xs ++ [v]))) p (.lst xs) = H1 := by
      funext a
      by_cases ea : a = p
      · subst ea; rw [upd_same]; exact hp1.at_.symm
      · rw [upd_ne ea, upd_ne ea]
    rw [e]
    exact s1⟩
end
section
variable {P : Program} {w : World} {K : PySem.W.Frag} {mg : Str → Option Value} {base : Heap}
open C8
/-- a def of the module -/
theorem calD {x : Str} {st : Stmt} {f : Addr} {fd : FuncData} {N ps : List Str} {ds : List Value} {dvs : List V} {k : Nat} {sp : Sp} (F : FunD K x x (fnArgs st) (fnBody st) (fnScope st) dvs [] f fd) (hm : mg x = some (.ref f)) (b : Binds K fd ps ds) (d : Vals dvs ds)
    (sc : scC N ps (fnScope st) = true) (len : ∀ vs H Q E, sp vs H Q E → vs.length = ps.length)
    (hbody : ∀ (cdv : Value) (A : Around) (outer : List Env) (s : Shared) (H : Hp) (vs : List V) (Q : VK) (E : XK), Room k (A.deeper (envOfC x (fnScope st) s.heap.objs.size f cdv)) → sp vs H Q E →
      ∃ t, PSs (cxOf C8.CX0 P w K mg base N x (fnScope st) f cdv A outer s H E).nox (fnBody st) t ∧ t { nx := fun _ H' => Q .non H', rt := Q } (start N vs) H) : Cal P w K mg base (k + 1) x sp dvs :=
  ⟨f, fd, ps, ds, F.ok (fnScope_by sc) len fun cdv A outer s H vs Q E hr hsp => by
    obtain ⟨t, h, q⟩ := hbody cdv A outer s H vs Q E hr hsp
    exact ⟨t, h.nox, q⟩, hm, F.kp, b, d⟩
theorem len1 {ι : Type} {A : ι → RepA} {R : ι → Rep} {n : Nat} (h : ∀ i vs L, A i vs L → vs.length = n) : ∀ vs H Q E, spR A R vs H Q E → vs.length = n := fun vs H Q E ⟨i, L, _, a, _⟩ => h i vs L a
theorem lC {R : Rep} {P : RepA} {n : Nat} {vs : List V} {L : Hp} (h : aCons R P vs L) (hp : ∀ ws, P ws L → ws.length = n) : vs.length = n + 1 := by
  obtain ⟨v, r, e, _, h2⟩ := h
  rw [e, List.length_cons, hp r h2]
theorem l0 {vs : List V} {L : Hp} (h : aNil vs L) : vs.length = 0 := by
  have : vs = [] := h
  rw [this]; rfl
end
end HV
/-! part W0 -/
set_option maxHeartbeats 4000000
/-! The text: where each def stands, what is asked of the module. -/
namespace HW
open PySem PySem.Spec PyProof.Rows L2 HR HV C8
def topS (i : Nat) : Stmt := PySem.Challenge.pw_handspaces_k96_whole_chains_of_a_triple.main.body.getD i (.Pass ⟨0, 0, 0, 0⟩)
def metS (i k : Nat) : Stmt := (clsBody (topS i)).getD k (.Pass ⟨0, 0, 0, 0⟩)

theorem bt_len : bootBuiltins "len" = some (.builtin "len") := by decide +kernel
theorem bt_all : bootBuiltins "all" = some (.builtin "all") := by decide +kernel
theorem bt_sum : bootBuiltins "sum" = some (.builtin "sum") := by decide +kernel
theorem bt_abs : bootBuiltins "abs" = some (.builtin "abs") := by decide +kernel
theorem bt_isinstance : bootBuiltins "isinstance" = some (.builtin "isinstance") := by decide +kernel
theorem bt_tuple : bootBuiltins "tuple" = some (.type "tuple") := by decide +kernel
theorem bt_list : bootBuiltins "list" = some (.type "list") := by decide +kernel
theorem bt_int : bootBuiltins "int" = some (.type "int") := by decide +kernel
theorem bt_bool : bootBuiltins "bool" = some (.type "bool") := by decide +kernel
theorem bt_str : bootBuiltins "str" = some (.type "str") := by decide +kernel
/-- what is asked ahead -/
def aAnd (P : Prop) (A : RepA) : RepA := fun vs L => P ∧ A vs L
instance {P : Prop} {A : RepA} [g : Gr A] : Gr (aAnd P A) := ⟨fun v H H' e h => ⟨h.1, g.up v H H' e h.2⟩⟩
theorem lenT {ι : Type} {A : ι → RepA} {R : ι → Rep} {n : Nat} (h : ∀ i vs L, A i vs L → vs.length = n) : ∀ vs H Q E, spT A R vs H Q E → vs.length = n + 1 := fun vs H Q E ⟨i, L, p, ws, e, _, a, _⟩ => by
  rw [e, List.length_cons, h i ws L a]
section
variable {K : PySem.W.Frag} {T : Tap} {L L0 H0 H : Hp} {σ : L2.St} {ta tb tc te : TE} {R Ra Rb Rc : Rep} {A A' : RepA} {x y v : V}
/-- isinstance of a number -/
theorem gisiI {i : Int} {n : String} {b : Bool} (ha : Go T L (ta σ) (rInt i)) (hb : Go T L (tb σ) (rV (.ty n))) (h : kitB "int" n = some b) : Go T L (tCB (rIsi K) (tCons ta (tCons tb tNil)) σ) (rV (.bl b)) :=
  gcb (gaC ha (gaC hb ga0)) fun vs L' e r => by
    obtain ⟨v, w, rfl, rfl, rfl⟩ := a2 r
    exact fun H ok Q q => ⟨_, _, .type "int", .type n, b, rfl, .ty n, .base (.int i), kit_ty h, q _ L' H (Stp.refl ok) rfl⟩
theorem gin {p : Addr} {xs : List V} {neg : Bool} (h : ∀ H, SqT K H p xs) (ha : Go T L (ta σ) (rV x)) (hb : Go T L (tb σ) (rV (.ref p))) (hx : flatV x = true) (hs : xs.all flatV = true) : Go T L (tOp (rIn K neg) ta tb σ) (rV (.bl (if neg = true then !inV x xs else inV x xs))) :=
  gop ha hb fun x' y' L' e e1 e2 => by
    obtain rfl : x' = x := e1
    obtain rfl : y' = .ref p := e2
    exact fun H ok Q q => ⟨p, xs, rfl, Or.inr (h H), hx, hs, q _ L' H (Stp.refl ok) rfl⟩
end
/-- a def of the module without defaults -/
structure Gd (K : PySem.W.Frag) (mg : Str → Option Value) (x : Str) (st : Stmt) : Prop where
  fn : ∃ fd, FunD K x x (fnArgs st) (fnBody st) (fnScope st) [] [] (He.ga K x) fd
  mg : mg x = some (.ref (He.ga K x))
/-- a tuple of the module's -/
structure Gt (K : PySem.W.Frag) (mg : Str → Option Value) (x : Str) (xs : List V) : Prop where
  ex : ∃ a, mg x = some (.ref a) ∧ ∀ H, SqT K H a xs
structure Fs (K : PySem.W.Frag) (mg : Str → Option Value) : Prop where
  d_is_integer : Gd K mg "is_integer" (topS 16)
  d_is_prime : Gd K mg "is_prime" (topS 17)
  d_inverse : Gd K mg "inverse" (topS 18)
  d_is_vector : Gd K mg "is_vector" (topS 22)
  d_leading : Gd K mg "leading" (topS 23)
  d_combined : Gd K mg "combined" (topS 24)
  d_reduced : Gd K mg "reduced" (topS 25)
  d_echelon : Gd K mg "echelon" (topS 26)
  d_cut_rows : Gd K mg "cut_rows" (topS 27)
  d_check_frame : Gd K mg "check_frame" (topS 28)
  d_check_alike : Gd K mg "check_alike" (topS 29)
  d_unit : Gd K mg "unit" (topS 30)
  d_extension : Gd K mg "extension" (topS 33)
  d_space_at : Gd K mg "space_at" (topS 36)
  d_all_cells : Gd K mg "all_cells" (topS 37)
  d_common_basis : Gd K mg "common_basis" (topS 38)
  d_cell_table : Gd K mg "cell_table" (topS 39)
  d_check_word : Gd K mg "check_word" (topS 40)
  d_space_of : Gd K mg "space_of" (topS 41)
  d_chain_value : Gd K mg "chain_value" (topS 42)
  d_is_in : Gd K mg "is_in" (topS 43)
  d_chain_cells : Gd K mg "chain_cells" (topS 44)
  d_chain_parting : Gd K mg "chain_parting" (topS 45)
  d_chain_breach : Gd K mg "chain_breach" (topS 46)
  d_value : Gd K mg "value" (topS 57)
  d__law_tape : Gd K mg "_law_tape" (topS 59)
  d__law_pick : Gd K mg "_law_pick" (topS 60)
  d__law_added : Gd K mg "_law_added" (topS 61)
  d__law_span : Gd K mg "_law_span" (topS 62)
  d__law_cut : Gd K mg "_law_cut" (topS 63)
  d__law_size : Gd K mg "_law_size" (topS 64)
  d__law_unit : Gd K mg "_law_unit" (topS 65)
  d__law_kinds : Gd K mg "_law_kinds" (topS 66)
  d__law_amounts : Gd K mg "_law_amounts" (topS 67)
  d__law_length : Gd K mg "_law_length" (topS 68)
  d__law_rows : Gd K mg "_law_rows" (topS 69)
  d__law_mixed : Gd K mg "_law_mixed" (topS 70)
  d__law_moved : Gd K mg "_law_moved" (topS 71)
  d__law_drawn : Gd K mg "_law_drawn" (topS 72)
  d__law_vector : Gd K mg "_law_vector" (topS 73)
  d__law_chain : Gd K mg "_law_chain" (topS 74)
  d__law_pair : Gd K mg "_law_pair" (topS 75)
  d__law_chains : Gd K mg "_law_chains" (topS 76)
  d__law_levels : Gd K mg "_law_levels" (topS 77)
  d__law_grid : Gd K mg "_law_grid" (topS 78)
  d__law_table : Gd K mg "_law_table" (topS 79)
  d__law_term : Gd K mg "_law_term" (topS 80)
  d__law_object : Gd K mg "_law_object" (topS 81)
  d__law_spaces : Gd K mg "_law_spaces" (topS 82)
  d__law_read : Gd K mg "_law_read" (topS 83)
  d__law_sized : Gd K mg "_law_sized" (topS 84)
  d__law_held : Gd K mg "_law_held" (topS 85)
  d_law : Gd K mg "law" (topS 86)
  range : mg "range" = none
  enumerate : mg "enumerate" = none
  zip : mg "zip" = none
  tuple : mg "tuple" = none
  list : mg "list" = none
  int : mg "int" = none
  bool : mg "bool" = none
  str : mg "str" = none
  len : mg "len" = none
  all : mg "all" = none
  sum : mg "sum" = none
  abs : mg "abs" = none
  isinstance : mg "isinstance" = none
  PRIMES : Gt K mg "PRIMES" [.int 2, .int 3, .int 5, .int 7, .int 11, .int 13]
  HANDS : Gt K mg "HANDS" [.str "a", .str "b", .str "c"]
  PLAIN_SIGNS : Gt K mg "PLAIN_SIGNS" [.str "a", .str "b", .str "c", .str "0", .str "1"]
  MOST : ∃ u, mg "MOST" = some u ∧ RelV (.int 12) u
  MOST_OPEN : ∃ u, mg "MOST_OPEN" = some u ∧ RelV (.int 9) u
section
variable {K : PySem.W.Frag} {mg : Str → Option Value}
end
section
variable {P : Program} {w : World} {K : PySem.W.Frag} {mg : Str → Option Value} {base : Heap}
/-- a def of the module, by its body -/
theorem calG {x : Str} {st : Stmt} {N ps : List Str} {k : Nat} {sp : Sp} (G : Gd K mg x st) (b : ∀ (kV doc pm : Value) (an : Option Addr) (cdv ct : Value) (us : List Value), us.length = ps.length → bindArgs (PySem.W.fnOf x x (fnArgs st) (fnBody st) (fnScope st) .none kV doc pm an cdv ct) ⟨us, []⟩ = pure (ps.zip us))
    (sc : scC N ps (fnScope st) = true) (len : ∀ vs H Q E, sp vs H Q E → vs.length = ps.length)
    (hbody : ∀ (f : Addr) (cdv : Value) (A : Around) (outer : List Env) (s : Shared) (H : Hp) (vs : List V) (Q : VK) (E : XK), Room k (A.deeper (envOfC x (fnScope st) s.heap.objs.size f cdv)) → sp vs H Q E →
      ∃ t, PSs (cxOf C8.CX0 P w K mg base N x (fnScope st) f cdv A outer s H E).nox (fnBody st) t ∧ t { nx := fun _ H' => Q .non H', rt := Q } (start N vs) H) : Cal P w K mg base (k + 1) x sp [] := by
  obtain ⟨fd, F⟩ := G.fn
  exact calD F G.mg (F.bindsN b) .nil sc len (hbody _)
end
end HW
/-! part V5 -/
set_option maxHeartbeats 4000000
/-! Combinators in the forms that the defs need. -/
namespace HV
open PySem PySem.Spec PyProof.Rows L2 HR HW
open Evl (Ex)
section
variable {K : PySem.W.Frag} {T : Tap} {L L0 H0 H : Hp} {σ : L2.St} {ta tb tc te : TE} {R Ra Rb Rc : Rep} {A A' : RepA} {x y v : V} {ι κ μ : Type}
theorem gcp {pre : ι → Prop} {B : ι → RepA} {R : ι → Rep} {E : XK} {ta : TA} (i : ι) (hp : pre i) (ha : Go T L (ta σ) (B i)) : Go T L (tCall (spR (fun i => aAnd (pre i) (B i)) R) [] E ta σ) (R i) :=
  gcall i ha fun vs L' e r => ⟨hp, by rw [List.append_nil]; exact r⟩
theorem gcpT {pre : ι → Prop} {B : ι → RepA} {R : ι → Rep} {E : XK} {ta : TA} {p : Addr} {j : Nat} (i : ι) (hj : σ[j]? = some (some (.ref p))) (hT : T p) (hp : pre i) (ha : Go T L (ta σ) (B i)) : Go T L (tCall (spT (fun i => aAnd (pre i) (B i)) R) [] E (tCons (tVar j) ta) σ) (R i) :=
  gcallT i hj hT ha fun vs L' e r => ⟨hp, by rw [List.append_nil]; exact r⟩
theorem gmk {C : Addr} {pre : ι → Prop} {B : ι → RepA} {R : ι → Rep} {dvs : List V} {E : XK} {ta : TA} (i : ι) (hp : pre i) (ha : Go T L (ta σ) A) (h : ∀ vs L', Ex L L' → A vs L' → B i (vs ++ dvs) L') : Go T L (tMake C (spN C (fun i => aAnd (pre i) (B i)) R) dvs E ta σ) (R i) :=
  gmake i ha fun vs L' e r => ⟨hp, h vs L' e r⟩
/-! lists by their items -/
theorem ga0L {R : ι → Rep} : Go T L (tNil σ) (aLs R []) := Go.pure (x := []) trivial
theorem gaL {R : ι → Rep} [g : ∀ i, Gr (R i)] {tr : TA} {a : ι} {xs : List ι} (ha : Go T L (ta σ) (R a)) (hr : Go T L (tr σ) (aLs R xs)) : Go T L (tCons ta tr σ) (aLs R (a :: xs)) :=
  (gaC ha hr).imp fun vs L' e ⟨v, r, e1, h1, h2⟩ => by
    subst e1
    exact ⟨h1, h2⟩
theorem gstarL {R : ι → Rep} [g : ∀ i, Gr (R i)] {tr : TA} {ys xs : List ι} (ha : Go T L (ta σ) (rSq (aLs R ys))) (hr : Go T L (tr σ) (aLs R xs)) : Go T L (StX.tStar K ta tr σ) (aLs R (ys ++ xs)) :=
  (gstar ha hr).imp fun vs L' e ⟨v, r, e1, h1, h2⟩ => by
    subst e1
    exact Pd.app h1 h2
theorem sqOfL {R : Rep} (h : Go T L (ta σ) (rLst A)) : Go T L (ta σ) (rSq A) := h.imp fun _ _ _ h => sqL h
theorem sqOfT {R : Rep} (h : Go T L (ta σ) (rTup A)) : Go T L (ta σ) (rSq A) := h.imp fun _ _ _ h => sqT h
theorem glst0 {R : ι → Rep} : Go T L (tLst tNil σ) (rLs R []) := glst (P := aNil) ga0 (fun vs L' h => by rw [show vs = [] from h]; decide) |>.imp fun x L' e ⟨p, vs, h1, h2, h3⟩ => ⟨p, vs, h1, h2, by
  rw [show vs = [] from h3]; trivial⟩
theorem gcatL {R : ι → Rep} [g : ∀ i, Gr (R i)] {xs ys : List ι} (ha : Go T L (ta σ) (rLs R xs)) (hb : Go T L (tb σ) (rLs R ys)) (hl : xs.length + ys.length ≤ 100000) : Go T L (tOp rCat ta tb σ) (rLs R (xs ++ ys)) :=
  (gcat ha hb fun vs ws L' h1 h2 => by rw [Pd.length h1, Pd.length h2]; exact hl).imp fun x L' e ⟨p, vs, h1, h2, u, z, e1, h3, h4⟩ => ⟨p, vs, h1, h2, by
    rw [e1]; exact Pd.app h3 h4⟩
theorem gvec {ns : List Int} (h : Go T L (ta σ) (rTup (aLs rInt ns))) : Go T L (ta σ) (rVec ns) := h.imp fun _ _ _ h => vecT h
theorem gtupl {ns : List Int} (h : Go T L (ta σ) (rVec ns)) : Go T L (ta σ) (rTup (aLs rInt ns)) := h.imp fun _ _ _ h => sqV h
theorem gcatV {u v : List Int} (ha : Go T L (ta σ) (rVec u)) (hb : Go T L (tb σ) (rVec v)) (hl : u.length + v.length ≤ 100000) : Go T L (tOp (rCatA K) ta tb σ) (rVec (u ++ v)) :=
  gvec ((gcatT (gtupl ha) (gtupl hb) fun vs ws L' h1 h2 => by rw [Pd.length h1, Pd.length h2]; exact hl).imp fun x L' e ⟨p, vs, h1, h2, u, z, e1, h3, h4⟩ => ⟨p, vs, h1, h2, by
    rw [e1]; exact Pd.app h3 h4⟩)
theorem cutV_from {xs : List V} {n : Nat} : cutV xs (some (n : Int)) none = xs.drop n := by
  unfold cutV
  rw [HT.sIx_nat, HT.sIx_none]
  rcases Nat.le_total n xs.length with h | h
  · rw [Nat.min_eq_left h, List.take_of_length_le (by rw [List.length_drop]; omega)]
  · rw [Nat.min_eq_right h, List.drop_eq_nil_of_le (by omega), List.drop_eq_nil_of_le h, List.take_nil]
theorem gslV {th : TO} {tl : TO} {ns : List Int} {n : Nat} (ha : Go T L (ta σ) (rVec ns)) (h1 : Go T L (tl σ) (rO (some (n : Int)))) (h2 : Go T L (th σ) (rO none)) : Go T L (tSl (rSlA K) ta tl th σ) (rVec (ns.drop n)) :=
  gvec (gslA (P := aLs rInt ns) (P'' := aLs rInt (ns.drop n)) (gtupl ha) h1 h2 (fun vs L' h => by
    rw [cutV_from, Pd.ints h, ← List.map_drop]; exact Pd.ofInts) fun vs L' h e => by
    rw [cutV_from]
    have : HT.sIx vs.length 0 (some (n : Int)) = min n vs.length := HT.sIx_nat _ _ _
    rcases Nat.eq_zero_or_pos n with hn | hn
    · rw [hn]; rfl
    · have h0 : vs.length = 0 := by omega
      rw [List.length_eq_zero_iff.mp h0]; simp)
theorem gslL1 {R : ι → Rep} [g : ∀ i, Gr (R i)] {th tl : TO} {xs : List ι} {n : Nat} (ha : Go T L (ta σ) (rLs R xs)) (h1 : Go T L (tl σ) (rO (some (n : Int)))) (h2 : Go T L (th σ) (rO none)) : Go T L (tSl (rSlL K) ta tl th σ) (rLs R (xs.drop n)) :=
  gslL ha h1 h2 fun vs L' h => by
    rw [cutV_from]
    exact Pd.drop h
theorem isV_mem {p : Int} {n : Nat} {v : List Int} (h : HM.IsV p n v) {a : Int} (ha : a ∈ v) : 0 ≤ a ∧ a < p := by
  obtain ⟨i, hi, rfl⟩ := List.getElem_of_mem ha
  have := h.rng i (by rw [← h.len]; exact hi)
  rwa [HM.gz_lt hi] at this
theorem pd_len {R : ι → Rep} {xs : List ι} {m : Nat} (hm : xs.length ≤ m) : ∀ vs L', aLs R xs vs L' → vs.length ≤ m := fun vs L' h => by rw [Pd.length h]; exact hm
/-! items -/
theorem at_pd {R : ι → Rep} {xs : List ι} {vs : List V} {i : Nat} {a : ι} (h : Pd R xs vs L) (e : xs[i]? = some a) : ∃ v, atI vs (i : Int) = some v ∧ R a v L := by
  obtain ⟨v, h1, h2⟩ := Pd.at h e
  exact ⟨v, atI_nat h1, h2⟩
theorem gixLs {R : ι → Rep} [g : ∀ i, Gr (R i)] {xs : List ι} {i : Nat} {a : ι} (ha : Go T L (ta σ) (rLs R xs)) (hb : Go T L (tb σ) (rInt (i : Int))) (e : xs[i]? = some a) : Go T L (tOp (rIxL K) ta tb σ) (R a) :=
  gixL ha hb fun vs L' _ h => at_pd h e
theorem gixTs {R : ι → Rep} [g : ∀ i, Gr (R i)] {xs : List ι} {i : Nat} {a : ι} (ha : Go T L (ta σ) (rTs R xs)) (hb : Go T L (tb σ) (rInt (i : Int))) (e : xs[i]? = some a) : Go T L (tOp (rIxT K) ta tb σ) (R a) :=
  gixT ha hb fun vs L' _ h => at_pd h e
theorem at_gz {ns : List Int} {i : Nat} (h : i < ns.length) : atI (ns.map V.int) (i : Int) = some (.int (HM.gz ns i)) := atI_nat (by
  rw [List.getElem?_map, List.getElem?_eq_getElem h, HM.gz_lt h]; rfl)
theorem gixG {ns : List Int} {i : Nat} (ha : Go T L (ta σ) (rVec ns)) (hb : Go T L (tb σ) (rInt (i : Int))) (h : i < ns.length) : Go T L (tOp (rIxT K) ta tb σ) (rInt (HM.gz ns i)) := gixV ha hb (at_gz h)
/-! places in a pair -/
theorem gfst [ga : Gr Ra] [gb : Gr Rb] (ha : Go T L (ta σ) (rPr Ra Rb)) (hb : Go T L (tb σ) (rInt 0)) : Go T L (tOp (rIxT K) ta tb σ) Ra := gixT ha hb fun vs L' _ h => by
  obtain ⟨v, w, rfl, h1, h2⟩ := a2 h
  exact ⟨v, atI_nat (j := 0) rfl, h1⟩
theorem gsnd [ga : Gr Ra] [gb : Gr Rb] (ha : Go T L (ta σ) (rPr Ra Rb)) (hb : Go T L (tb σ) (rInt 1)) : Go T L (tOp (rIxT K) ta tb σ) Rb := gixT ha hb fun vs L' _ h => by
  obtain ⟨v, w, rfl, h1, h2⟩ := a2 h
  exact ⟨w, atI_nat (j := 1) rfl, h2⟩
theorem gpair [ga : Gr Ra] [gb : Gr Rb] (ha : Go T L (ta σ) Ra) (hb : Go T L (tb σ) Rb) : Go T L (tTup (tCons ta (tCons tb tNil)) σ) (rPr Ra Rb) := gtup (gaC ha (gaC hb ga0)) fun vs L' h => by
  obtain ⟨v, w, rfl, _⟩ := a2 h
  show 2 ≤ 100000
  decide
/-! a list or a tuple walked -/
theorem gi_seqV {Y : ι → Rep} [gy : ∀ i, Gr (Y i)] {ys : List ι} {j : Nat} (hj : σ[j]? = some (some v)) (h : rSq (aLs Y ys) v L) : Go T L (iOr (iList K (tVar j)) (iTup K (tVar j)) σ) (rIt T ys Y) := fun H ok Q q => by
  obtain ⟨p, vs, e, e1 | e1, e2⟩ := h
  · exact Or.inl (gi_list (gv hj ⟨p, vs, e, e1, e2⟩) H ok Q q)
  · exact Or.inr (gi_tup (gv hj ⟨p, vs, e, e1, e2⟩) H ok Q q)
/-- a comprehension whose target is a pair -/
theorem glcP {Yl Yr : ι → Rep} {ys : List ι} {wi : TI} {te : TE} {vs : List Nat} {i j : Nat} {Z : κ → Rep} [gz : ∀ k, Gr (Z k)] (f : ι → κ) (hi : Go T L (wi σ) (rIt T ys fun a => rPr (Yl a) (Yr a))) (hz : ys.length ≤ 40000)
    (hw : ∀ u w, wipe (((wipe σ vs).set i (some u)).set j (some w)) vs = wipe σ vs)
    (hs : ∀ a u w L1, a ∈ ys → Ex L L1 → Yl a u L1 → Yr a w L1 → Go T L1 (te (((wipe σ vs).set i (some u)).set j (some w))) (Z (f a))) : Go T L (tLc wi (gTup K 2 (gCons (gName i) (gCons (gName j) gNil))) tYes te vs σ) (rLs Z (ys.map f)) := by
  have := glc (T := T) (L := L) (σ := σ) (wi := wi) (g := gTup K 2 (gCons (gName i) (gCons (gName j) gNil))) (tt := tYes) (te := te) (vs := vs) (Z := Z) (fun _ => true) f hi hz fun a x L1 ha e r => by
    obtain ⟨p, xs, e1, e2, e3⟩ := r
    obtain ⟨u, w, rfl, h1, h2⟩ := a2 e3
    exact ⟨_, hw u w, fun H Q e4 q => ⟨p, _, e1, SqT.of (e4 p _ e2), rfl, u, [w], rfl, w, [], rfl, rfl, q⟩, Go.pure (x := true) rfl, fun _ => hs a u w L1 ha e h1 h2⟩
  rw [List.filter_eq_self.mpr (fun _ _ => rfl)] at this
  exact this
/-! isinstance of a vector -/
theorem gisiV {ns : List Int} (ha : Go T L (ta σ) (rVec ns)) (hb : Go T L (tb σ) (rPr (rV (.ty "list")) (rV (.ty "tuple")))) : Go T L (tCB (rIsiT K) (tCons ta (tCons tb tNil)) σ) (rV (.bl true)) :=
  gcb (gaC ha (gaC hb ga0)) fun vs L' e r => by
    obtain ⟨v, w, rfl, ⟨p, rfl, h1⟩, ⟨t, us, rfl, h2, h3⟩⟩ := a2 r
    obtain ⟨a, b, rfl, rfl, rfl⟩ := a2 h3
    exact fun H ok Q q => ⟨_, t, _, .type "tuple", [.type "list", .type "tuple"], true, rfl, ok.1 t _ h2, .cons (.ty _) (.cons (.ty _) .nil), .base (.tup (ok.1 p _ h1)),
      kitAny_cons (b := false) (kit_ty (by decide +kernel)) (fun _ => kitAny_cons (b := true) (kit_ty (by decide +kernel)) (fun z => nomatch z) fun _ => rfl) (fun z => nomatch z), q _ L' H (Stp.refl ok) rfl⟩
/-- tuple([0] * n) -/
theorem gzeros {n : Nat} (hb : Go T L (tb σ) (rInt (n : Int))) (hn : n ≤ 1000) :
    Go T L (tCB (fun xs H Q => ∃ p ys, xs = [V.ref p] ∧ ((SqL K H p ys ∧ ∀ l, H l = none → Q (V.ref l) (upd H l (.tup ys))) ∨ (SqT K H p ys ∧ Q (V.ref p) H))) (tCons (tOp rRep (tLst (tCons (tC (.int 0)) tNil)) tb) tNil) σ) (rVec (HM.zeros n)) :=
  gvec (gtupof (grep (P := aLs rInt [0]) (P'' := aLs rInt (HM.zeros n)) (glst (gaL (gc rfl) ga0L) fun vs L' h => by rw [Pd.length h]; decide) hb (by omega) (fun vs L' h => Pd.length h) fun vs L' h => by
    have e : vs = [V.int 0] := Pd.ints h
    rw [e, Int.toNat_natCast]
    have : (List.replicate n [V.int 0]).flatten = (HM.zeros n).map V.int := by
      unfold HM.zeros
      rw [List.map_replicate]
      induction n with
      | zero => rfl
      | succ n ih => rw [List.replicate_succ, List.replicate_succ, List.flatten_cons]; simp_all
    rw [this]
    exact Pd.ofInts))
/-! the same, K by name (within a comprehension the context's K is read through the block) -/
section
variable {X : Cx} (K : PySem.W.Frag)
theorem kix_tup (h : X.K = K) : IxR X (rIxT K) := h ▸ ix_tup
theorem kix_list (h : X.K = K) : IxR X (rIxL K) := h ▸ ix_list
theorem kop_catA (h : X.K = K) : OpR X (binaryOp .Add) (rCatA K) := h ▸ op_catA
theorem ksl_tupA (h : X.K = K) : SlR X (rSlA K) := h ▸ sl_tupA
theorem ksl_list (h : X.K = K) : SlR X (rSlL K) := h ▸ sl_list
theorem kop_in (h : X.K = K) : OpR X (compareOp .In) (rIn K false) := h ▸ op_in_seq
theorem kop_notIn (h : X.K = K) : OpR X (compareOp .NotIn) (rIn K true) := h ▸ op_notIn_seq
theorem kop_eqD (h : X.K = K) (hu : X.A.units + 64 < cLine) : OpR X (compareOp .Eq) (rEqD K) := h ▸ op_eqD hu
theorem ksum (h : X.K = K) (hc : X.calm = true) : CallR X (.builtin "sum") (rSum K) := h ▸ cr_sum hc
theorem kall (h : X.K = K) (hc : X.calm = true) : CallR X (.builtin "all") (rAll K) := h ▸ cr_all hc
theorem kisi (h : X.K = K) : CallR X (.builtin "isinstance") (rIsi K) := h ▸ call_isi
theorem kisiT (h : X.K = K) : CallR X (.builtin "isinstance") (rIsiT K) := h ▸ call_isiT
theorem klen (h : X.K = K) : CallR X (.builtin "len") (fun xs H Q => ∃ p ys, xs = [V.ref p] ∧ (SqL K H p ys ∨ SqT K H p ys) ∧ Q (V.int ys.length) H) := h ▸ call_len_seq
theorem ktuple (h : X.K = K) : CallR X (.type "tuple") (fun xs H Q => ∃ p ys, xs = [V.ref p] ∧ ((SqL K H p ys ∧ ∀ l, H l = none → Q (V.ref l) (upd H l (.tup ys))) ∨ (SqT K H p ys ∧ Q (V.ref p) H))) := h ▸ call_tuple_of
theorem klistof (h : X.K = K) : CallR X (.type "list") (fun xs H Q => ∃ p ys, xs = [V.ref p] ∧ (SqL K H p ys ∨ SqT K H p ys) ∧ ∀ l, H l = none → Q (V.ref l) (upd H l (.lst ys))) := h ▸ call_list_of
theorem kpi_list {tg l : Expr} {tl : TE} (h : X.K = K) (hl : PE X l tl) : PI X tg l (iList K tl) := h ▸ pi_list hl
theorem kpi_tup {tg l : Expr} {tl : TE} (h : X.K = K) (hl : PE X l tl) : PI X tg l (iTup K tl) := h ▸ pi_tup hl
theorem kfld {f : Str} {e : Expr} {te : TE} {pos : Pos} (h : X.K = K) (he : PE X e te) (hb : attributeBase e f X.env (eval e X.env) = eval e X.env) : PE X (.Attribute e f pos) (tFld K te f) := h ▸ pe_fld he hb
theorem kpa_star {e : Expr} {es : List Expr} {te : TE} {t : TA} {p : Pos} (h : X.K = K) (he : PE X e te) (hr : PA X es t) (hs : starEach (.Starred e p :: es) X.env = (true, eval e X.env) :: starEach es X.env := by rfl) : PA X (.Starred e p :: es) (StX.tStar K te t) := h ▸ StX.pa_star he hr hs
end
/-- targets of two, three local names -/
theorem pg_pair {X : Cx} (K : PySem.W.Frag) {i j k : Nat} {a b : Str} {pa pb pos : Pos} (hK : X.K = K) (hc : X.calm = true) (hN : X.N.Nodup) (hi : X.N[i]? = some a) (hj : X.N[j]? = some b) (ha : X.env.scope.names.lookup a = some .local) (hb : X.env.scope.names.lookup b = some .local) :
    PG X (.Tuple [.Name a pa, .Name b pb] k pos) (gTup K 2 (gCons (gName i) (gCons (gName j) gNil))) := hK ▸
  pg_tup hc (pgs_cons (pg_name hN hi (Or.inl ha) (Or.inr ha)) (pgs_cons (pg_name hN hj (Or.inl hb) (Or.inr hb)) pgs_nil))
theorem pg_trip {X : Cx} (K : PySem.W.Frag) {i j l k : Nat} {a b c : Str} {pa pb pc pos : Pos} (hK : X.K = K) (hc : X.calm = true) (hN : X.N.Nodup) (hi : X.N[i]? = some a) (hj : X.N[j]? = some b) (hl : X.N[l]? = some c) (ha : X.env.scope.names.lookup a = some .local) (hb : X.env.scope.names.lookup b = some .local) (hd : X.env.scope.names.lookup c = some .local) :
    PG X (.Tuple [.Name a pa, .Name b pb, .Name c pc] k pos) (gTup K 3 (gCons (gName i) (gCons (gName j) (gCons (gName l) gNil)))) := hK ▸
  pg_tup hc (pgs_cons (pg_name hN hi (Or.inl ha) (Or.inr ha)) (pgs_cons (pg_name hN hj (Or.inl hb) (Or.inr hb)) (pgs_cons (pg_name hN hl (Or.inl hd) (Or.inr hd)) pgs_nil)))
/-- the last statement is an if whose suite is never come to -/
theorem gNot1 {t : TT} {tu : TS} {D : Ends} {b : Bool} (ok : Ok T L0 H0) (S : Stp T L0 H0 L H) (h : Go T L (t σ) (rB b)) (hb : b = false) (k : ∀ L1 H1, Stp T L0 H0 L1 H1 → Stp T L H L1 H1 → D.nx σ H1) : tIfS t tu tNext D σ H :=
  gIfS ok S h (fun e => by rw [hb] at e; cases e) fun _ L1 H1 S1 s1 => k L1 H1 S1 s1
end
end HV
/-! part W1 -/
set_option maxHeartbeats 4000000
/-! The vectors' defs. -/
namespace HW
open PySem PySem.Spec PyProof.Rows L2 HR HV C8
open Evl (Ex)
section
variable {P : Program} {w : World} {K : PySem.W.Frag} {mg : Str → Option Value} {base : Heap}
def spIsInt : Sp := spR (fun i : Int => aAnd True (aCons (rInt i) aNil)) (fun _ => rV (.bl true))
theorem c_is_integer (F : Fs K mg) : Cal P w K mg base 1 "is_integer" (spIsInt) [] := by
  refine calG (N := ["value"]) (ps := ["value"]) F.d_is_integer (fun _ _ _ _ _ _ us hl => match us, hl with | [_], _ => rfl) (by decide +kernel) (len1 fun _ _ _ h => lC h.2 (fun _ => l0)) ?_
  rintro f cdv A outer s H vs Q E hr ⟨x, L, e, ⟨pre, ha⟩, k⟩
  have nd := (fnScope_by (N := ["value"]) (P := ["value"]) (sc := fnScope (topS 16)) (by decide +kernel)).nd
  have ok := ok0 e
  have hu := hu_of hr
  have hu0 := hr.units0
  have hu64 := hr.units
  refine ⟨_, (pss_one (ps_ret (pe_and (pe_callB (kisi K rfl) rfl F.isinstance bt_isinstance (pa_cons (pv 0) (pa_cons (pe_bltn (v := .ty "int") rfl F.int bt_int rfl) pa_nil))) (pe_one (pe_not (pe_callB (kisi K rfl) rfl F.isinstance bt_isinstance (pa_cons (pv 0) (pa_cons (pe_bltn (v := .ty "bool") rfl F.bool bt_bool rfl) pa_nil)))))))), ?_⟩
  obtain ⟨v, rfl, rfl⟩ := a1 ha
  exact gEnd ok (Stp.refl ok) k (geqB (gandV (gisiI (gv rfl rfl) (gc rfl) (b := true) (by decide +kernel)) fun _ => gnotV (gisiI (gv rfl rfl) (gc rfl) (b := false) (by decide +kernel))) rfl)
def spIsPrime : Sp := spR (fun p : Int => aAnd (HM.IsP p) (aCons (rInt p) aNil)) (fun _ => rV (.bl true))
theorem c_is_prime (F : Fs K mg) : Cal P w K mg base 2 "is_prime" (spIsPrime) [] := by
  refine calG (N := ["value"]) (ps := ["value"]) F.d_is_prime (fun _ _ _ _ _ _ us hl => match us, hl with | [_], _ => rfl) (by decide +kernel) (len1 fun _ _ _ h => lC h.2 (fun _ => l0)) ?_
  rintro f cdv A outer s H vs Q E hr ⟨x, L, e, ⟨pre, ha⟩, k⟩
  have nd := (fnScope_by (N := ["value"]) (P := ["value"]) (sc := fnScope (topS 17)) (by decide +kernel)).nd
  have ok := ok0 e
  have hu := hu_of hr
  have hu0 := hr.units0
  have hu64 := hr.units
  obtain ⟨pr, gp, hp⟩ := F.PRIMES.ex
  refine ⟨_, (pss_one (ps_ret (pe_and (pe_c (c_is_integer F) hr (by decide) rfl (pa_cons (pv 0) pa_nil)) (pe_one (pe_cmpR (kop_in K rfl) (pv 0) (pe_gc (v := .ref pr) rfl ⟨_, gp, rfl⟩) (by with_unfolding_all rfl)))))), ?_⟩
  obtain ⟨v, rfl, rfl⟩ := a1 ha
  refine gEnd ok (Stp.refl ok) k (geqB (gandV (gcp (R := fun _ => rV (.bl true)) x trivial (gaC (gv (R := rInt x) rfl rfl) ga0)) fun _ => gin hp (gv (R := rInt x) rfl rfl) (gc rfl) rfl rfl) ?_)
  rcases pre with h | h | h | h | h | h <;> subst h <;> rfl
def spInverse : Sp := spR (fun q : Int × Int => aAnd (HM.IsP q.2 ∧ 0 < q.1 ∧ q.1 < q.2) (aCons (rInt q.1) (aCons (rInt q.2) aNil))) (fun q => rInt (HM.inv q.2 q.1))
theorem c_inverse (F : Fs K mg) : Cal P w K mg base 3 "inverse" (spInverse) [] := by
  refine calG (N := ["number", "prime", "other"]) (ps := ["number", "prime"]) F.d_inverse (fun _ _ _ _ _ _ us hl => match us, hl with | [_, _], _ => rfl) (by decide +kernel) (len1 fun _ _ _ h => lC h.2 (fun _ h => lC h (fun _ => l0))) ?_
  rintro f cdv A outer s H vs Q E hr ⟨x, L, e, ⟨pre, ha⟩, k⟩
  have nd := (fnScope_by (N := ["number", "prime", "other"]) (P := ["number", "prime"]) (sc := fnScope (topS 18)) (by decide +kernel)).nd
  have ok := ok0 e
  have hu := hu_of hr
  have hu0 := hr.units0
  have hu64 := hr.units
  refine ⟨_, (pss_cons (ps_if (pt_not (pt_val (pe_c (c_is_prime F) hr (by decide) rfl (pa_cons (pv 1) pa_nil)))) pss_never pss_nil)
  (pss_cons (ps_if (pt_cmpR op_eq (pe_op op_mod (pv 0) (pv 1)) pe_int (nomark _)) pss_never pss_nil)
  (pss_one (ps_ret (pe_ix (kix_list K rfl) (pe_lc (own := [("other", 2)]) rfl nd (pi_range2 rfl F.range (pa_cons pe_int (pa_cons (pv 1) pa_nil))) (blkOk_by (N := ["number", "prime", "other"]) (sc := fnScope (topS 18)) (by decide +kernel)) (fun _ _ _ _ _ => (pg_name (i := 2) nd rfl (Or.inl rfl))) (fun _ _ _ _ _ => pts_one (pt_cmpR op_eq (pe_op op_mod (pe_op op_mul (pv 0) (pv 2)) (pv 1)) pe_int (nomark _))) (fun _ _ _ _ _ => (pv 2))) pe_int (fun _ _ => rfl)))))), ?_⟩
  obtain ⟨v, v', rfl, rfl, rfl⟩ := a2 ha
  obtain ⟨a, p⟩ := x
  obtain ⟨hp, h0, h1⟩ := pre
  have p0 := hp.pos
  have p13 : p ≤ 13 := by rcases hp with h | h | h | h | h | h <;> omega
  refine gNot ok (Stp.refl ok) (gnot (gB (gcp (R := fun _ => rV (.bl true)) p hp (gaC (gv rfl rfl) ga0)))) rfl fun L1 H1 S1 s1 => ?_
  have hm : a % p = a := HM.small ⟨Int.le_of_lt h0, h1⟩
  refine gNot ok S1 (b := false) (gtest (geq (gI (i := a) (j := p) (R := rInt (a % p)) (gv rfl rfl) (gv rfl rfl) p0 rfl) (gc rfl) rfl (by rw [hm]; exact decide_eq_false fun h => by injection h; omega))) rfl fun L2 H2 S2 s2 => ?_
  obtain ⟨b, r, e1, e2⟩ := HM.inv_some hp h0 h1
  refine gEnd ok S2 k (gixLs (i := 0) (R := rInt) (xs := ((upto 1 (p - 1).toNat).filter fun b => decide (a * b % p = 1)).map id) (glcF (Z := rInt) (fun b => decide (a * b % p = 1)) id (gi_rng2 (gaC (gc rfl) (gaC (gv rfl rfl) ga0)) (by omega)) (by rw [upto_len]; omega) (fun _ => rfl) (fun b x' L3 hb e3 hx => ?_) fun b x' L3 hb e3 hx _ => gv rfl hx) (gc rfl) ?_)
  · obtain rfl : x' = .int b := hx
    have hb' : 1 ≤ b ∧ b ≤ 13 := by
      obtain ⟨i, hi, rfl⟩ := List.mem_map.mp hb
      have := List.mem_range.mp hi
      omega
    refine gtest (geq (gI (i := a * b) (j := p) (R := rInt (a * b % p)) (gI (i := a) (j := b) (gv rfl rfl) (gv rfl rfl) (Or.inr (by omega)) rfl) (gv rfl rfl) p0 rfl) (gc rfl) rfl ?_)
    simp
  · show ((List.filter (fun b => decide (a * b % p = 1)) (List.map (fun (i : Nat) => (1 : Int) + (i : Int)) (List.range (p - 1).toNat))).map id)[0]? = some (HM.inv p a)
    rw [e1, e2]; rfl
def spIsVector : Sp := spR (fun q : List Int => aAnd (q.length ≤ 1000) (aCons (rVec q) (aCons (rInt q.length) aNil))) (fun _ => rV (.bl true))
theorem c_is_vector (F : Fs K mg) : Cal P w K mg base 2 "is_vector" (spIsVector) [] := by
  refine calG (N := ["value", "length", "item"]) (ps := ["value", "length"]) F.d_is_vector (fun _ _ _ _ _ _ us hl => match us, hl with | [_, _], _ => rfl) (by decide +kernel) (len1 fun _ _ _ h => lC h.2 (fun _ h => lC h (fun _ => l0))) ?_
  rintro f cdv A outer s H vs Q E hr ⟨x, L, e, ⟨pre, ha⟩, k⟩
  have nd := (fnScope_by (N := ["value", "length", "item"]) (P := ["value", "length"]) (sc := fnScope (topS 22)) (by decide +kernel)).nd
  have ok := ok0 e
  have hu := hu_of hr
  have hu0 := hr.units0
  have hu64 := hr.units
  refine ⟨_, (pss_cons (ps_if (PW.pt (pw_or (pt_not (pt_val (pe_callB (kisiT K rfl) rfl F.isinstance bt_isinstance (pa_cons (pv 0) (pa_cons (pe_tup (pa_cons (pe_bltn (v := .ty "list") rfl F.list bt_list rfl) (pa_cons (pe_bltn (v := .ty "tuple") rfl F.tuple bt_tuple rfl) pa_nil))) pa_nil))))) (pw_or1 (pt_cmpR op_ne (pe_callB (klen K rfl) rfl F.len bt_len (pa_cons (pv 0) pa_nil)) (pv 1) (nomark _))))) (pss_one (ps_ret pe_bl)) pss_nil)
  (pss_one (ps_ret (pe_callB (kall K rfl rfl) rfl F.all bt_all (pa_cons (pe_lc (own := [("item", 2)]) rfl nd (kpi_tup K rfl (pv 0)) (blkOk_by (N := ["value", "length", "item"]) (sc := fnScope (topS 22)) (by decide +kernel)) (fun _ _ _ _ _ => (pg_name (i := 2) nd rfl (Or.inl rfl))) (fun _ _ _ _ _ => pts_nil) (fun _ _ _ _ _ => (pe_c (c_is_integer F) hr (by decide) rfl (pa_cons (pv 2) pa_nil)))) pa_nil))))), ?_⟩
  obtain ⟨v, v', rfl, hv, rfl⟩ := a2 ha
  refine gNot ok (Stp.refl ok) (b := false) (geqT (gor (a := false) (geqT (gnot (gB (gisiV (gv rfl hv) (gpair (gc rfl) (gc rfl))))) rfl) fun _ => gtest (gne (glen (gv rfl (sqT (sqV hv))) fun vs L' h => Pd.length h) (gv rfl rfl) rfl (b := false) (by simp))) rfl) rfl fun L1 H1 S1 s1 => ?_
  refine gEnd ok S1 k (geqB (gall (bs := x.map fun _ => true) (glc1 (Z := fun b => rV (.bl b)) (fun _ => true) (gi_tup (gv rfl (sqV (up s1.ll hv)))) (by omega) (fun _ => rfl) fun a x' L2 ha' e2 hx => gcp (R := fun _ => rV (.bl true)) a trivial (gaC (gv rfl hx) ga0))) (by simp))
def spLeading : Sp := spR (fun ns : List Int => aAnd True (aCons (rVec ns) aNil)) (fun ns => rInt (HM.leading ns : Int))
theorem c_leading (F : Fs K mg) : Cal P w K mg base 1 "leading" (spLeading) [] := by
  refine calG (N := ["row", "index", "item"]) (ps := ["row"]) F.d_leading (fun _ _ _ _ _ _ us hl => match us, hl with | [_], _ => rfl) (by decide +kernel) (len1 fun _ _ _ h => lC h.2 (fun _ => l0)) ?_
  rintro f cdv A outer s H vs Q E hr ⟨x, L, e, ⟨pre, ha⟩, k⟩
  have nd := (fnScope_by (N := ["row", "index", "item"]) (P := ["row"]) (sc := fnScope (topS 23)) (by decide +kernel)).nd
  have ok := ok0 e
  have hu := hu_of hr
  have hu0 := hr.units0
  have hu64 := hr.units
  refine ⟨_, (pss_cons (ps_for PassesOwn.never rfl (pi_enumT rfl F.enumerate (pa_cons (pv 0) pa_nil)) (pg_tup rfl (pgs_cons (pg_name (i := 1) nd rfl (by first | exact Or.inl rfl | exact Or.inr rfl)) (pgs_cons (pg_name (i := 2) nd rfl (by first | exact Or.inl rfl | exact Or.inr rfl)) pgs_nil))) (pss_one (ps_if (pt_cmpR op_ne (pv 2) pe_int (nomark _)) (pss_one (ps_ret (pv 1))) pss_nil)))
  (pss_one (ps_ret (pe_callB (klen K rfl) rfl F.len bt_len (pa_cons (pv 0) pa_nil))))), ?_⟩
  obtain ⟨v, rfl, hv⟩ := a1 ha
  refine gForS ok (Stp.refl ok) (gi_enumT (gaC (gv rfl (sqV hv)) ga0)) (fun i σ' La Ha => (∃ a b, σ' = [some v, a, b]) ∧ HM.leading x = i + HM.leading (x.drop i)) ?_ ?_ ?_
  · intro L1 H1 _ _; exact ⟨⟨_, _, rfl⟩, by simp⟩
  · rintro Lm em i a x' σ' La Ha Lb Hb ha' Sa ea ⟨⟨_, _, rfl⟩, hl⟩ sb y
    refine g_pair sb.lh y fun u z hu hz => ?_
    have Sb := Sa.trans sb
    obtain ⟨h1, h2⟩ := List.getElem?_zip_eq_some.mp ha'
    have h3 : x.drop i = a.2 :: x.drop (i + 1) := by
      obtain ⟨hlt, hh⟩ := List.getElem?_eq_some_iff.mp h2
      rw [List.drop_eq_getElem_cons hlt, hh]
    obtain rfl : u = .int a.1 := hu
    obtain rfl : z = .int a.2 := hz
    have h4 : (a.1 : Nat) = i := by
      obtain ⟨hlt, hh⟩ := List.getElem?_eq_some_iff.mp h1
      simpa using hh.symm
    refine gIfS ok Sb (gtest (gne (gv rfl rfl) (gc rfl) rfl rfl)) (fun hb L1 H1 S1 s1 => ?_) fun hb L1 H1 S1 s1 => ?_
    · refine gEnd ok S1 k (gv rfl (congrArg V.int ?_))
      have : a.2 ≠ 0 := by simpa using hb
      rw [hl, h3, h4]; simp [HM.leading, this]
    · refine ⟨L1, S1, ea.trans (sb.ll.trans s1.ll), ⟨_, _, rfl⟩, ?_⟩
      have : a.2 = 0 := by simpa using hb
      rw [hl, h3]; simp [HM.leading, this]; omega
  · rintro σ' La Ha Sa ea ⟨⟨_, _, rfl⟩, hl⟩
    have h0 : (HM.leading x : Int) = (x.length : Nat) := by rw [hl]; simp [HV.placed, HM.leading]
    exact gEnd ok Sa k (geqI (glen (gv rfl (sqT (sqV (up ea hv)))) fun vs L' h => Pd.length h) h0.symm)
def spCombined : Sp := spR (fun q : Int × List Int × Int × List Int => aAnd (0 < q.1 ∧ (-(2 ^ 64) < q.2.2.1 ∧ q.2.2.1 < 2 ^ 64) ∧ q.2.1.length ≤ 1000) (aCons (rInt q.1) (aCons (rVec q.2.1) (aCons (rInt q.2.2.1) (aCons (rVec q.2.2.2) aNil))))) (fun q => rVec (HM.comb q.1 q.2.1 q.2.2.1 q.2.2.2))
theorem c_combined (F : Fs K mg) : Cal P w K mg base 1 "combined" (spCombined) [] := by
  refine calG (N := ["prime", "row", "factor", "other", "one", "two"]) (ps := ["prime", "row", "factor", "other"]) F.d_combined (fun _ _ _ _ _ _ us hl => match us, hl with | [_, _, _, _], _ => rfl) (by decide +kernel) (len1 fun _ _ _ h => lC h.2 (fun _ h => lC h (fun _ h => lC h (fun _ h => lC h (fun _ => l0))))) ?_
  rintro f cdv A outer s H vs Q E hr ⟨x, L, e, ⟨pre, ha⟩, k⟩
  have nd := (fnScope_by (N := ["prime", "row", "factor", "other", "one", "two"]) (P := ["prime", "row", "factor", "other"]) (sc := fnScope (topS 24)) (by decide +kernel)).nd
  have ok := ok0 e
  have hu := hu_of hr
  have hu0 := hr.units0
  have hu64 := hr.units
  refine ⟨_, (pss_one (ps_ret (pe_callTy (ktuple K rfl) rfl F.tuple bt_tuple (pa_cons (pe_lc (own := [("one", 4), ("two", 5)]) rfl nd (RZ.pi_zipA rfl F.zip (pa_cons (pv 1) (pa_cons (pv 3) pa_nil))) (blkOk_by (N := ["prime", "row", "factor", "other", "one", "two"]) (sc := fnScope (topS 24)) (by decide +kernel)) (fun _ _ _ _ _ => (pg_pair K (i := 4) (j := 5) rfl rfl nd rfl rfl rfl rfl)) (fun _ _ _ _ _ => pts_nil) (fun _ _ _ _ _ => (pe_op op_mod (pe_op op_add (pv 4) (pe_op op_mul (pv 2) (pv 5))) (pv 0)))) pa_nil)))), ?_⟩
  obtain ⟨p, u, c, v⟩ := x
  obtain ⟨h0, hc, hn⟩ := pre
  obtain ⟨_, _, rfl, rfl, _, _, rfl, h2, h3⟩ := ha
  obtain ⟨_, _, rfl, rfl, h4⟩ := a2 h3
  have hz : (List.zip u v).length ≤ 40000 := by
    have hu' : u.length ≤ 1000 := hn
    rw [List.length_zip]; omega
  refine gEnd ok (Stp.refl ok) k (geqV (gvec (gtupof (glcP (Z := rInt) (fun q : Int × Int => (q.1 + c * q.2) % p) (gi_zipT (gaC (gv rfl (sqV h2)) (gaC (gv rfl (sqV h4)) ga0))) hz (fun _ _ => rfl) fun a z z' L1 _ e1 k1 k2 => ?_))) ?_)
  · obtain rfl : z = .int a.1 := k1
    obtain rfl : z' = .int a.2 := k2
    exact gI (i := a.1 + c * a.2) (j := p) (gI0 (i := a.1) (j := c * a.2) (gv rfl rfl) (gI (i := c) (j := a.2) (gv rfl rfl) (gv rfl rfl) (Or.inl hc) rfl) rfl) (gv rfl rfl) h0 rfl
  · unfold HM.comb
    rw [List.zip, List.map_zipWith]
theorem reduce_app {p : Int} {rs : List HM.Vec} {r v : HM.Vec} : True := trivial
def spReduced : Sp := spR (fun q : Int × Nat × List (List Int) × List Int => aAnd (HM.IsP q.1 ∧ q.2.1 ≤ 1000 ∧ (∀ r ∈ q.2.2.1, HM.IsV q.1 q.2.1 r ∧ HM.leading r < q.2.1) ∧ HM.IsV q.1 q.2.1 q.2.2.2) (aCons (rInt q.1) (aCons (rSq (aLs rVec q.2.2.1)) (aCons (rVec q.2.2.2) aNil)))) (fun q => rVec (HM.reduce q.1 q.2.2.1 q.2.2.2))
theorem c_reduced (F : Fs K mg) : Cal P w K mg base 2 "reduced" (spReduced) [] := by
  refine calG (N := ["prime", "rows", "row", "other"]) (ps := ["prime", "rows", "row"]) F.d_reduced (fun _ _ _ _ _ _ us hl => match us, hl with | [_, _, _], _ => rfl) (by decide +kernel) (len1 fun _ _ _ h => lC h.2 (fun _ h => lC h (fun _ h => lC h (fun _ => l0)))) ?_
  rintro f cdv A outer s H vs Q E hr ⟨x, L, e, ⟨pre, ha⟩, k⟩
  have nd := (fnScope_by (N := ["prime", "rows", "row", "other"]) (P := ["prime", "rows", "row"]) (sc := fnScope (topS 25)) (by decide +kernel)).nd
  have ok := ok0 e
  have hu := hu_of hr
  have hu0 := hr.units0
  have hu64 := hr.units
  refine ⟨_, (pss_cons (ps_for PassesOwn.never rfl (pi_or (kpi_list K rfl (pv 1)) (kpi_tup K rfl (pv 1))) (pg_name (i := 3) nd rfl (by first | exact Or.inl rfl | exact Or.inr rfl)) (pss_one (ps_set (i := 2) nd rfl (by first | exact Or.inl rfl | exact Or.inr rfl) (pe_c (c_combined F) hr (by decide) rfl (pa_cons (pv 0) (pa_cons (pv 2) (pa_cons (pe_un un_neg (pe_ix (kix_tup K rfl) (pv 2) (pe_c (c_leading F) hr (by decide) rfl (pa_cons (pv 3) pa_nil)) (fun _ _ => rfl))) (pa_cons (pv 3) pa_nil))))))))
  (pss_one (ps_ret (pv 2)))), ?_⟩
  obtain ⟨p, n, rs, v⟩ := x
  obtain ⟨hp, hn, hr', hv⟩ := pre
  obtain ⟨_, _, rfl, rfl, v1, _, rfl, h2, h3⟩ := ha
  obtain ⟨v2, rfl, h4⟩ := a1 h3
  have hn' : n ≤ 1000 := hn
  have hp' : (HM.IsP p) := hp
  have p0 := hp'.pos
  have p13 : p ≤ 13 := by rcases hp' with h | h | h | h | h | h <;> omega
  refine gForS ok (Stp.refl ok) (gi_seqV rfl h2) (fun i σ' La Ha => ∃ z y u, σ' = [some (.int p), some v1, some z, y] ∧ rVec u z La ∧ HM.IsV p n u ∧ HM.reduce p rs v = HM.reduce p (rs.drop i) u) ?_ ?_ ?_
  · intro L1 H1 _ s1
    exact ⟨_, _, v, rfl, up s1.ll h4, hv, rfl⟩
  · rintro Lm em i a x' σ' La Ha Lb Hb ha' Sa ea ⟨z, y, u, rfl, hz, hu', hl⟩ sb hx
    have Sb := Sa.trans sb
    have h3 : rs.drop i = a :: rs.drop (i + 1) := by
      obtain ⟨hlt, hh⟩ := List.getElem?_eq_some_iff.mp ha'
      rw [List.drop_eq_getElem_cons hlt, hh]
    obtain ⟨ha1, ha2⟩ := hr' a (List.mem_of_getElem? ha')
    have hlt : HM.leading a < u.length := by rw [hu'.len]; exact ha2
    have hrng := hu'.rng _ ha2
    have hlu : u.length = n := hu'.len
    refine gSet1 ok Sb (gcp (R := fun q : Int × List Int × Int × List Int => rVec (HM.comb q.1 q.2.1 q.2.2.1 q.2.2.2)) (p, u, -(HM.gz u (HM.leading a)), a) ⟨p0, ⟨by show -(2 ^ 64) < -(HM.gz u (HM.leading a)); omega, by show -(HM.gz u (HM.leading a)) < 2 ^ 64; omega⟩, by show u.length ≤ 1000; omega⟩
      (gaC (gv rfl rfl) (gaC (gv rfl (up sb.ll hz)) (gaC (gneg (gixG (gv rfl (up sb.ll hz)) (gcp (R := fun ns : List Int => rInt (HM.leading ns : Int)) a trivial (gaC (gv rfl hx) ga0)) hlt)) (gaC (gv rfl hx) ga0))))) fun v' L1 H1 S1 s1 r => ?_
    exact ⟨L1, S1, ea.trans (sb.ll.trans s1.ll), v', _, _, rfl, r, HM.comb_isV p0 hu'.len ha1.len, by rw [hl, h3]; rfl⟩
  · rintro σ' La Ha Sa ea ⟨z, y, u, rfl, hz, hu', hl⟩
    refine gEnd ok Sa k (geqV (gv rfl hz) ?_)
    show u = HM.reduce p rs v
    rw [hl]; simp [HM.reduce]
def spUnit : Sp := spR (fun q : Nat × Nat => aAnd (q.1 ≤ 1000) (aCons (rInt q.1) (aCons (rInt q.2) aNil))) (fun q => rVec (HM.unitV q.1 q.2))
theorem c_unit (F : Fs K mg) : Cal P w K mg base 1 "unit" (spUnit) [] := by
  refine calG (N := ["length", "index", "place"]) (ps := ["length", "index"]) F.d_unit (fun _ _ _ _ _ _ us hl => match us, hl with | [_, _], _ => rfl) (by decide +kernel) (len1 fun _ _ _ h => lC h.2 (fun _ h => lC h (fun _ => l0))) ?_
  rintro f cdv A outer s H vs Q E hr ⟨x, L, e, ⟨pre, ha⟩, k⟩
  have nd := (fnScope_by (N := ["length", "index", "place"]) (P := ["length", "index"]) (sc := fnScope (topS 30)) (by decide +kernel)).nd
  have ok := ok0 e
  have hu := hu_of hr
  have hu0 := hr.units0
  have hu64 := hr.units
  refine ⟨_, (pss_one (ps_ret (pe_callTy (ktuple K rfl) rfl F.tuple bt_tuple (pa_cons (pe_lc (own := [("place", 2)]) rfl nd (pi_range1 rfl F.range (pa_cons (pv 0) pa_nil)) (blkOk_by (N := ["length", "index", "place"]) (sc := fnScope (topS 30)) (by decide +kernel)) (fun _ _ _ _ _ => (pg_name (i := 2) nd rfl (Or.inl rfl))) (fun _ _ _ _ _ => pts_nil) (fun _ _ _ _ _ => (pe_callTy call_int1 rfl F.int bt_int (pa_cons (pe_cmpR op_eq (pv 2) (pv 1) (nomark _)) pa_nil)))) pa_nil)))), ?_⟩
  obtain ⟨n, i⟩ := x
  obtain ⟨_, _, rfl, rfl, rfl⟩ := a2 ha
  have hn : n ≤ 1000 := pre
  refine gEnd ok (Stp.refl ok) k (geqV (gvec (gtupof (glc1 (Z := rInt) (fun q : Int => if decide (V.int q = V.int i) then 1 else 0) (gi_rng1 (n := (n : Int)) (gaC (gv rfl rfl) ga0) (by omega)) (by rw [upto_len]; omega) (fun _ => rfl) fun a x' L1 _ e1 hx => ?_))) ?_)
  · obtain rfl : x' = .int a := hx
    exact gintB (geq (gv rfl rfl) (gv rfl rfl) rfl rfl)
  · simp [upto, HM.unitV]
    intro a _
    by_cases h : a = i
    · simp [h]
    · rw [if_neg h, if_neg (by omega)]
def spFrame : Sp := spR (fun q : Int × Nat => aAnd (HM.IsP q.1 ∧ q.2 ≤ 12) (aCons (rInt q.1) (aCons (rInt q.2) aNil))) (fun _ => rV .non)
theorem c_check_frame (F : Fs K mg) : Cal P w K mg base 3 "check_frame" (spFrame) [] := by
  refine calG (N := ["prime", "length"]) (ps := ["prime", "length"]) F.d_check_frame (fun _ _ _ _ _ _ us hl => match us, hl with | [_, _], _ => rfl) (by decide +kernel) (len1 fun _ _ _ h => lC h.2 (fun _ h => lC h (fun _ => l0))) ?_
  rintro f cdv A outer s H vs Q E hr ⟨x, L, e, ⟨pre, ha⟩, k⟩
  have nd := (fnScope_by (N := ["prime", "length"]) (P := ["prime", "length"]) (sc := fnScope (topS 28)) (by decide +kernel)).nd
  have ok := ok0 e
  have hu := hu_of hr
  have hu0 := hr.units0
  have hu64 := hr.units
  refine ⟨_, (pss_cons (ps_if (pt_not (pt_val (pe_c (c_is_prime F) hr (by decide) rfl (pa_cons (pv 0) pa_nil)))) pss_never pss_nil)
  (pss_one (ps_if (PW.pt (pw_or (pt_not (pt_val (pe_c (c_is_integer F) hr (by decide) rfl (pa_cons (pv 1) pa_nil)))) (pw_or1 (pt_not (pt_chain op_le op_le pe_int (pv 1) (pe_gc rfl F.MOST)))))) pss_never pss_nil))), ?_⟩
  obtain ⟨p, n⟩ := x
  obtain ⟨hp, hn⟩ := pre
  have hn : n ≤ 12 := hn
  obtain ⟨_, _, rfl, rfl, rfl⟩ := a2 ha
  refine gNot ok (Stp.refl ok) (gnot (gB (gcp (R := fun _ => rV (.bl true)) p hp (gaC (gv rfl rfl) ga0)))) rfl fun L1 H1 S1 s1 => ?_
  refine gNot1 ok S1 (b := false) (geqT (gor (a := false) (gnot (gB (gcp (R := fun _ => rV (.bl true)) (n : Int) trivial (gaC (gv rfl rfl) ga0)))) fun _ => gnot (b := true) (gtest (geqB (gchain (i := 0) (j := (n : Int)) (k := 12) (gc rfl) (gv rfl rfl) (gc rfl)) ?_))) rfl) rfl fun L2 H2 S2 s2 => k _ L2 H2 S2 rfl
  simp; omega
end
end HW
/-! part W2 -/
set_option maxHeartbeats 4000000
/-! Echelon form, intersections. -/
namespace HW
open PySem PySem.Spec PyProof.Rows L2 HR HV C8
open Evl (Ex)
theorem red_len {p : Int} {n : Nat} (hp : HM.IsP p) {rs : List HM.Vec} (h : HM.Red p n rs) : rs.length ≤ n := by
  rw [← HM.Red.dim hp h]; exact HM.dim_le
section
variable {P : Program} {w : World} {K : PySem.W.Frag} {mg : Str → Option Value} {base : Heap}
def spEchelon : Sp := spR (fun q : Int × Nat × List (List Int) => aAnd (HM.IsP q.1 ∧ q.2.1 ≤ 1000 ∧ (∀ r ∈ q.2.2, HM.IsV q.1 q.2.1 r) ∧ q.2.2.length ≤ 10000) (aCons (rInt q.1) (aCons (rLs rVec q.2.2) aNil))) (fun q => rTs rVec (HM.echelon q.1 q.2.2))
theorem c_echelon (F : Fs K mg) : Cal P w K mg base 4 "echelon" (spEchelon) [] := by
  refine calG (N := ["prime", "rows", "found", "row", "rest", "lead", "cleared", "ahead", "item", "other"]) (ps := ["prime", "rows"]) F.d_echelon (fun _ _ _ _ _ _ us hl => match us, hl with | [_, _], _ => rfl) (by decide +kernel) (len1 fun _ _ _ h => lC h.2 (fun _ h => lC h (fun _ => l0))) ?_
  rintro f cdv A outer s H vs Q E hr ⟨x, L, e, ⟨pre, ha⟩, k⟩
  have nd := (fnScope_by (N := ["prime", "rows", "found", "row", "rest", "lead", "cleared", "ahead", "item", "other"]) (P := ["prime", "rows"]) (sc := fnScope (topS 26)) (by decide +kernel)).nd
  have ok := ok0 e
  have hu := hu_of hr
  have hu0 := hr.units0
  have hu64 := hr.units
  refine ⟨_, (pss_cons (ps_set (i := 2) nd rfl (by first | exact Or.inl rfl | exact Or.inr rfl) (pe_lst pa_nil))
  (pss_cons (ps_for PassesOwn.never rfl (kpi_list K rfl (pv 1)) (pg_name (i := 3) nd rfl (by first | exact Or.inl rfl | exact Or.inr rfl)) (pss_cons (ps_set (i := 4) nd rfl (by first | exact Or.inl rfl | exact Or.inr rfl) (pe_c (c_reduced F) hr (by decide) rfl (pa_cons (pv 0) (pa_cons (pv 2) (pa_cons (pv 3) pa_nil)))))
  (pss_cons (ps_set (i := 5) nd rfl (by first | exact Or.inl rfl | exact Or.inr rfl) (pe_c (c_leading F) hr (by decide) rfl (pa_cons (pv 4) pa_nil)))
  (pss_one (ps_if (pt_cmpR op_lt (pv 5) (pe_callB (klen K rfl) rfl F.len bt_len (pa_cons (pv 4) pa_nil)) (nomark _)) (pss_cons (ps_set (i := 4) nd rfl (by first | exact Or.inl rfl | exact Or.inr rfl) (pe_callTy (ktuple K rfl) rfl F.tuple bt_tuple (pa_cons (pe_lc (own := [("item", 8)]) rfl nd (kpi_tup K rfl (pv 4)) (blkOk_by (N := ["prime", "rows", "found", "row", "rest", "lead", "cleared", "ahead", "item", "other"]) (sc := fnScope (topS 26)) (by decide +kernel)) (fun _ _ _ _ _ => (pg_name (i := 8) nd rfl (Or.inl rfl))) (fun _ _ _ _ _ => pts_nil) (fun _ _ _ _ _ => (pe_op op_mod (pe_op op_mul (pe_c (c_inverse F) hr (by decide) rfl (pa_cons (pe_ix (kix_tup K rfl) (pv 4) (pv 5) (fun _ _ => rfl)) (pa_cons (pv 0) pa_nil))) (pv 8)) (pv 0)))) pa_nil)))
  (pss_cons (ps_setLc (i := 6) (own := [("other", 9)]) rfl nd rfl rfl (sw_true rfl rfl rfl (by decide +kernel)) (kpi_list K rfl (pv 2)) (blkOk_by (N := ["prime", "rows", "found", "row", "rest", "lead", "cleared", "ahead", "item", "other"]) (sc := fnScope (topS 26)) (by decide +kernel)) (fun _ _ _ _ _ => (pg_name (i := 9) nd rfl (Or.inl rfl))) (fun _ _ _ _ _ => pts_nil) (fun _ _ _ _ _ => (pe_c (c_combined F) hr (by decide) rfl (pa_cons (pv 0) (pa_cons (pv 9) (pa_cons (pe_un un_neg (pe_ix (kix_tup K rfl) (pv 9) (pv 5) (fun _ _ => rfl))) (pa_cons (pv 4) pa_nil)))))))
  (pss_cons (ps_setLc (i := 7) (own := [("other", 9)]) rfl nd rfl rfl (sw_true rfl rfl rfl (by decide +kernel)) (kpi_list K rfl (pv 6)) (blkOk_by (N := ["prime", "rows", "found", "row", "rest", "lead", "cleared", "ahead", "item", "other"]) (sc := fnScope (topS 26)) (by decide +kernel)) (fun _ _ _ _ _ => (pg_name (i := 9) nd rfl (Or.inl rfl))) (fun _ _ _ _ _ => pts_one (pt_cmpR op_lt (pe_c (c_leading F) hr (by decide) rfl (pa_cons (pv 9) pa_nil)) (pv 5) (nomark _))) (fun _ _ _ _ _ => (pv 9)))
  (pss_one (ps_set (i := 2) nd rfl (by first | exact Or.inl rfl | exact Or.inr rfl) (pe_lst (kpa_star K rfl (pv 7) (pa_cons (pv 4) (kpa_star K rfl (pe_lc (own := [("other", 9)]) rfl nd (kpi_list K rfl (pv 6)) (blkOk_by (N := ["prime", "rows", "found", "row", "rest", "lead", "cleared", "ahead", "item", "other"]) (sc := fnScope (topS 26)) (by decide +kernel)) (fun _ _ _ _ _ => (pg_name (i := 9) nd rfl (Or.inl rfl))) (fun _ _ _ _ _ => pts_one (pt_cmpR op_gt (pe_c (c_leading F) hr (by decide) rfl (pa_cons (pv 9) pa_nil)) (pv 5) (nomark _))) (fun _ _ _ _ _ => (pv 9))) pa_nil))))))))) pss_nil)))))
  (pss_one (ps_ret (pe_callTy (ktuple K rfl) rfl F.tuple bt_tuple (pa_cons (pv 2) pa_nil)))))), ?_⟩
  obtain ⟨p, n, rs⟩ := x
  obtain ⟨hp, hn, hrs, hlen⟩ := pre
  obtain ⟨_, v1, rfl, rfl, h2⟩ := a2 ha
  have hn' : n ≤ 1000 := hn
  have hp' : (HM.IsP p) := hp
  have p0 := hp'.pos
  have p13 : p ≤ 13 := by rcases hp' with h | h | h | h | h | h <;> omega
  refine gSet ok (Stp.refl ok) (glst0 (R := rVec)) fun vf L1 H1 S1 s1 rf => ?_
  refine gForS ok S1 (gi_list (gv rfl (up s1.ll h2))) (fun i σ' La Ha => ∃ z a b c d g, σ' = [some (.int p), some v1, some z, a, b, c, d, g, none, none] ∧ rLs rVec ((rs.take i).foldl (HM.ech1 p) []) z La ∧ HM.Red p n ((rs.take i).foldl (HM.ech1 p) [])) ?_ ?_ ?_
  · intro L2 H2 _ s2
    exact ⟨_, _, _, _, _, _, rfl, up s2.ll rf, HM.Red.nil⟩
  · rintro Lm em i a x' σ' La Ha Lb Hb ha' Sa ea ⟨z, _, _, _, _, _, rfl, hz, hred⟩ sb hx
    have Sb := Sa.trans sb
    have hav := hrs a (List.mem_of_getElem? ha')
    have hav : HM.IsV p n a := hav
    have e1 : (rs.take (i + 1)).foldl (HM.ech1 p) [] = HM.ech1 p ((rs.take i).foldl (HM.ech1 p) []) a := by rw [take_at ha', List.foldl_append]; rfl
    have red1 := (HM.ech1_ok hp' hred hav).red
    rw [← e1] at red1
    generalize hf : (rs.take i).foldl (HM.ech1 p) [] = fo at *
    have lf : fo.length ≤ n := red_len hp' hred
    have hvec : HM.IsV p n (HM.reduce p fo a) := HM.reduce_isV p0 hred.vec hav
    refine gSet ok Sb (gcp (R := fun q : Int × Nat × List (List Int) × List Int => rVec (HM.reduce q.1 q.2.2.1 q.2.2.2)) (p, n, fo, a) ⟨hp', hn', fun r hr => ⟨hred.vec r hr, (hred.lead r hr).1⟩, hav⟩ (gaC (gv rfl rfl) (gaC (gv rfl (sqL (up sb.ll hz))) (gaC (gv rfl hx) ga0)))) fun vr L2 H2 S2 s2 rr => ?_
    have rr : rVec (HM.reduce p fo a) vr L2 := rr
    refine gSet ok S2 (gcp (R := fun ns : List Int => rInt (HM.leading ns : Int)) (HM.reduce p fo a) trivial (gaC (gv rfl rr) ga0)) fun vl L3 H3 S3 s3 rl => ?_
    obtain rfl : vl = .int (HM.leading (HM.reduce p fo a) : Int) := rl
    have hz3 := up ((sb.ll.trans s2.ll).trans s3.ll) hz
    have rr3 := up s3.ll rr
    have ex3 := ea.trans ((sb.ll.trans s2.ll).trans s3.ll)
    generalize hv : HM.reduce p fo a = v at *
    refine gIfS ok S3 (gtest (gI0 (i := (HM.leading v : Int)) (j := (v.length : Nat)) (R := rV (.bl (decide ((HM.leading v : Int) < (v.length : Nat))))) (gv rfl rfl) (glen (gv rfl (sqT (sqV rr3))) fun vs L' h => Pd.length h) rfl)) (fun hb L4 H4 S4 s4 => ?_) fun hb L4 H4 S4 s4 => ?_
    · have hlt : HM.leading v < v.length := by have := of_decide_eq_true hb; omega
      have hln : HM.leading v < n := by rw [← hvec.len]; exact hlt
      have hgz : 0 < HM.gz v (HM.leading v) ∧ HM.gz v (HM.leading v) < p := by
        have h1 := hvec.rng _ hln
        have h2 := HM.leading_at hlt
        omega
      have lv : v.length ≤ 1000 := by rw [hvec.len]; exact hn'
      refine gSet ok S4 (gvec (gtupof (glc1 (Z := rInt) (fun q : Int => HM.inv p (HM.gz v (HM.leading v)) * q % p) (gi_tup (gv rfl (sqV (up s4.ll rr3)))) (by omega) (fun _ => rfl) fun q xq L5 hq e5 hxq => ?_))) fun vs L5 H5 S5 s5 rs5 => ?_
      · obtain rfl : xq = .int q := hxq
        have hq' := isV_mem hvec hq
        refine gI (i := HM.inv p (HM.gz v (HM.leading v)) * q) (j := p) (gI (i := HM.inv p (HM.gz v (HM.leading v))) (j := q) (gcp (R := fun q : Int × Int => rInt (HM.inv q.2 q.1)) (HM.gz v (HM.leading v), p) ⟨hp', hgz⟩ (gaC (gixG (gv rfl (up (s4.ll.trans e5) rr3)) (gv rfl rfl) hlt) (gaC (gv rfl rfl) ga0))) (gv rfl rfl) (Or.inr (by omega)) rfl) (gv rfl rfl) p0 rfl
      · have rs5 : rVec (HM.scaled p v) vs L5 := rs5
        have hs : HM.IsV p n (HM.scaled p v) := HM.scaled_isV p0 hvec
        have hz5 := up (s4.ll.trans s5.ll) hz3
        refine gSet ok S5 (glc1 (Z := rVec) (fun o : List Int => HM.comb p o (-(HM.gz o (HM.leading v))) (HM.scaled p v)) (gi_list (gv rfl hz5)) (by omega) (fun _ => rfl) fun o xo L6 ho e6 hxo => ?_) fun vc L6 H6 S6 s6 rc => ?_
        · have hov := hred.vec o ho
          have hlo : HM.leading v < o.length := by rw [hov.len]; exact hln
          have hrng := hov.rng _ hln
          have llo : o.length ≤ 1000 := by rw [hov.len]; exact hn'
          exact gcp (R := fun q : Int × List Int × Int × List Int => rVec (HM.comb q.1 q.2.1 q.2.2.1 q.2.2.2)) (p, o, -(HM.gz o (HM.leading v)), HM.scaled p v) ⟨p0, ⟨by show -(2 ^ 64) < -(HM.gz o (HM.leading v)); omega, by show -(HM.gz o (HM.leading v)) < 2 ^ 64; omega⟩, llo⟩
            (gaC (gv rfl rfl) (gaC (gv rfl hxo) (gaC (gneg (gixG (gv rfl hxo) (gv rfl rfl) hlo)) (gaC (gv rfl (up e6 rs5)) ga0))))
        · have rc : rLs rVec (HM.cleared p (HM.leading v) (HM.scaled p v) fo) vc L6 := rc
          have lc : (HM.cleared p (HM.leading v) (HM.scaled p v) fo).length ≤ 1000 := by unfold HM.cleared; rw [List.length_map]; omega
          generalize hcl : HM.cleared p (HM.leading v) (HM.scaled p v) fo = cl at *
          refine gSet ok S6 (glcF (Z := rVec) (fun o : List Int => decide ((HM.leading o : Int) < (HM.leading v : Int))) id (gi_list (gv rfl rc)) (by omega) (fun _ => rfl) (fun o xo L7 ho e7 hxo => gtest (gI0 (i := (HM.leading o : Int)) (j := (HM.leading v : Int)) (gcp (R := fun ns : List Int => rInt (HM.leading ns : Int)) o trivial (gaC (gv rfl hxo) ga0)) (gv rfl rfl) rfl)) fun o xo L7 ho e7 hxo _ => gv rfl hxo) fun va L7 H7 S7 s7 ra => ?_
          refine gSet1 ok S7 (glst (gstarL (gv rfl (sqL ra)) (gaL (gv rfl (up (s6.ll.trans s7.ll) rs5)) (gstarL (sqOfL (R := rV v1) (glcF (Z := rVec) (fun o : List Int => decide ((HM.leading v : Int) < (HM.leading o : Int))) id (gi_list (gv rfl (up s7.ll rc))) (by omega) (fun _ => rfl) (fun o xo L8 ho e8 hxo => gtest (gI0 (i := (HM.leading o : Int)) (j := (HM.leading v : Int)) (gcp (R := fun ns : List Int => rInt (HM.leading ns : Int)) o trivial (gaC (gv rfl hxo) ga0)) (gv rfl rfl) rfl)) fun o xo L8 ho e8 hxo _ => gv rfl hxo)) ga0L)))
            (pd_len (m := 100000) ?_)) fun vz L8 H8 S8 s8 rz => ?_
          · have h1 := List.length_filter_le (fun o : List Int => decide ((HM.leading o : Int) < (HM.leading v : Int))) cl
            have h2 := List.length_filter_le (fun o : List Int => decide ((HM.leading v : Int) < (HM.leading o : Int))) cl
            simp only [List.length_append, List.length_cons, List.length_map, List.length_nil]
            omega
          · refine ⟨L8, S8, ex3.trans (((((s4.ll.trans s5.ll).trans s6.ll).trans s7.ll).trans s8.ll)), vz, _, _, _, _, _, rfl, ?_, red1⟩
            have e2 : HM.ech1 p fo a = cl.filter (fun o => decide (HM.leading o < HM.leading v)) ++ HM.scaled p v :: cl.filter (fun o => decide (HM.leading v < HM.leading o)) := by
              unfold HM.ech1
              rw [hv, if_pos hlt]
              show (HM.cleared p (HM.leading v) (HM.scaled p v) fo).filter _ ++ HM.scaled p v :: (HM.cleared p (HM.leading v) (HM.scaled p v) fo).filter _ = _
              rw [hcl]
            rw [e1, e2]
            have rz' := rz
            simp only [List.map_id, List.append_nil, Int.ofNat_lt] at rz'
            exact rz'
    · have hlt : ¬ HM.leading v < v.length := by have := of_decide_eq_false hb; omega
      refine ⟨L4, S4, ex3.trans s4.ll, z, _, _, _, _, _, rfl, ?_, red1⟩
      have e2 : HM.ech1 p fo a = fo := by
        unfold HM.ech1
        rw [hv, if_neg hlt]
      rw [e1, e2]
      exact up s4.ll hz3
  · rintro σ' La Ha Sa ea ⟨z, _, _, _, _, _, rfl, hz, _⟩
    have e0 : (rs.take rs.length).foldl (HM.ech1 p) [] = HM.echelon p rs := by rw [List.take_length]; rfl
    rw [e0] at hz
    exact gEnd ok Sa k (gtupof (gv rfl hz))
end
end HW
/-! part V6 -/
set_option maxHeartbeats 4000000
/-! What is asked of the classes; methods, classmethods, operators from their bodies. -/
namespace HW
open PySem PySem.Spec PyProof.Rows L2 HR HV C8
open Evl (Ex)
abbrev cA (K : PySem.W.Frag) (x : Str) : Addr := He.ga K x
abbrev mA (K : PySem.W.Frag) (x m : Str) : Addr := He.ma K (He.ga K x) m
structure Cf (K : PySem.W.Frag) (mg : Str → Option Value) (x : Str) : Prop where
  cls : Cls K (cA K x)
  mkr : Mk K (cA K x) (mA K x "__init__")
  mg : mg x = some (.ref (cA K x))
/-- a method -/
structure Gm (K : PySem.W.Frag) (x m qual : Str) (st : Stmt) (dvs : List V) : Prop where
  fn : ∃ fd, FunD K m qual (fnArgs st) (fnBody st) (fnScope st) dvs [] (mA K x m) fd
  me : Meth K (cA K x) m (mA K x m)
/-- a classmethod -/
structure Gk (K : PySem.W.Frag) (x m qual : Str) (st : Stmt) : Prop where
  ex : ∃ p g fd mc, ClX.CRead K (cA K x) mc ∧ ClX.CMet K (cA K x) mc m p g ∧ FunD K m qual (fnArgs st) (fnBody st) (fnScope st) [] [] g fd
structure Cs (K : PySem.W.Frag) (mg : Str → Option Value) : Prop extends Fs K mg where
  Space : Cf K mg "Space"
  Chains : Cf K mg "Chains"
  Word : Cf K mg "Word"
  Reader : Cf K mg "Reader"
  Triple : Cf K mg "Triple"
  na : ∀ p ∈ ([("Space", "prime"), ("Space", "length"), ("Space", "rows"), ("Chains", "first"), ("Chains", "second"), ("Chains", "prime"), ("Chains", "length"), ("Word", "sign"), ("Word", "parts"), ("Reader", "source"), ("Reader", "spot"), ("Reader", "opened"),
    ("Triple", "a"), ("Triple", "b"), ("Triple", "c"), ("Triple", "prime"), ("Triple", "length")] : List (Str × Str)), NoAttr K (cA K p.1) p.2
  sfS : PySem.W.selfFirst K (cA K "Space") = true
  insS : InsC K (cA K "Space")
  fiT : PySem.W.fnIn K (mA K "Triple" "__getitem__") = true
  iSpace : ∃ e0, Gm K "Space" "__init__" "Space.__init__" (metS 31 0) [.ref e0] ∧ ∀ H, SqT K H e0 []
  sLen : Gm K "Space" "__len__" "Space.__len__" (metS 31 4) []
  sEq : Gm K "Space" "__eq__" "Space.__eq__" (metS 31 5) []
  sLe : Gm K "Space" "__le__" "Space.__le__" (metS 31 6) []
  sAdd : Gm K "Space" "__add__" "Space.__add__" (metS 31 7) []
  sAnd : Gm K "Space" "__and__" "Space.__and__" (metS 31 8) []
  nothing : Gk K "Space" "nothing" "Space.nothing" (metS 31 1)
  whole : Gk K "Space" "whole" "Space.whole" (metS 31 2)
  iChains : Gm K "Chains" "__init__" "Chains.__init__" (metS 35 0) []
  iWord : ∃ e0, Gm K "Word" "__init__" "Word.__init__" (metS 51 0) [.ref e0] ∧ ∀ H, SqT K H e0 []
  read : Gk K "Word" "read" "Word.read" (metS 51 1)
  iReader : Gm K "Reader" "__init__" "Reader.__init__" (metS 54 0) []
  peek : Gm K "Reader" "peek" "Reader.peek" (metS 54 1) []
  rsum : Gm K "Reader" "read_sum" "Reader.read_sum" (metS 54 3) []
  rcut : Gm K "Reader" "read_cut" "Reader.read_cut" (metS 54 4) []
  rpart : Gm K "Reader" "read_part" "Reader.read_part" (metS 54 5) []
  iTriple : Gm K "Triple" "__init__" "Triple.__init__" (metS 56 0) []
  item : Gm K "Triple" "__getitem__" "Triple.__getitem__" (metS 56 2) []
section
variable (P : Program) (w : World) (K : PySem.W.Frag) (mg : Str → Option Value) (base : Heap)
/-- a function at f that keeps sp, its defaults dvs -/
structure FnB (k : Nat) (f : Addr) (sp : Sp) (dvs : List V) : Prop where
  ex : ∃ (fd : FuncData) (ps : List Str) (ds : List Value), FnOk P w K mg base C8.CX0 k f fd ps sp ∧ Binds K fd ps ds ∧ Vals dvs ds
end
section
variable {P : Program} {w : World} {K : PySem.W.Frag} {mg : Str → Option Value} {base : Heap}
theorem fnM {x qual : Str} {st : Stmt} {f : Addr} {fd : FuncData} {N ps : List Str} {ds : List Value} {dvs dv : List V} {k : Nat} {sp : Sp} (F : FunD K x qual (fnArgs st) (fnBody st) (fnScope st) dv [] f fd) (b : Binds K fd ps ds) (d : Vals dvs ds)
    (sc : scC N ps (fnScope st) = true) (len : ∀ vs H Q E, sp vs H Q E → vs.length = ps.length)
    (hbody : ∀ (cdv : Value) (A : Around) (outer : List Env) (s : Shared) (H : Hp) (vs : List V) (Q : VK) (E : XK), Room k (A.deeper (envOfC qual (fnScope st) s.heap.objs.size f cdv)) → sp vs H Q E →
      ∃ t, PSs (cxOf C8.CX0 P w K mg base N qual (fnScope st) f cdv A outer s H E).nox (fnBody st) t ∧ t { nx := fun _ H' => Q .non H', rt := Q } (start N vs) H) : FnB P w K mg base (k + 1) f sp dvs :=
  ⟨fd, ps, ds, F.ok (fnScope_by sc) len fun cdv A outer s H vs Q E hr hsp => by
    obtain ⟨t, h, q⟩ := hbody cdv A outer s H vs Q E hr hsp
    exact ⟨t, h.nox, q⟩, b, d⟩
/-- a method, all parameters given, no defaults -/
theorem fnG {x m qual : Str} {st : Stmt} {N ps : List Str} {k : Nat} {sp : Sp} (G : Gm K x m qual st []) (b : ∀ (kV doc pm : Value) (an : Option Addr) (cdv ct : Value) (us : List Value), us.length = ps.length → bindArgs (PySem.W.fnOf m qual (fnArgs st) (fnBody st) (fnScope st) .none kV doc pm an cdv ct) ⟨us, []⟩ = pure (ps.zip us))
    (sc : scC N ps (fnScope st) = true) (len : ∀ vs H Q E, sp vs H Q E → vs.length = ps.length)
    (hbody : ∀ (f : Addr) (cdv : Value) (A : Around) (outer : List Env) (s : Shared) (H : Hp) (vs : List V) (Q : VK) (E : XK), Room k (A.deeper (envOfC qual (fnScope st) s.heap.objs.size f cdv)) → sp vs H Q E →
      ∃ t, PSs (cxOf C8.CX0 P w K mg base N qual (fnScope st) f cdv A outer s H E).nox (fnBody st) t ∧ t { nx := fun _ H' => Q .non H', rt := Q } (start N vs) H) : FnB P w K mg base (k + 1) (mA K x m) sp [] := by
  obtain ⟨fd, F⟩ := G.fn
  exact fnM F (F.bindsN b) .nil sc len (hbody _)
/-- a classmethod -/
structure CmB (P : Program) (w : World) (K : PySem.W.Frag) (mg : Str → Option Value) (base : Heap) (k : Nat) (x m : Str) (sp : Sp) : Prop where
  ex : ∃ p g mc, ClX.CRead K (cA K x) mc ∧ ClX.CMet K (cA K x) mc m p g ∧ FnR P w K mg base C8.CX0 k g sp
theorem cmG {x m qual : Str} {st : Stmt} {N ps : List Str} {k : Nat} {sp : Sp} (G : Gk K x m qual st) (b : ∀ (kV doc pm : Value) (an : Option Addr) (cdv ct : Value) (us : List Value), us.length = ps.length → bindArgs (PySem.W.fnOf m qual (fnArgs st) (fnBody st) (fnScope st) .none kV doc pm an cdv ct) ⟨us, []⟩ = pure (ps.zip us))
    (sc : scC N ps (fnScope st) = true) (len : ∀ vs H Q E, sp vs H Q E → vs.length = ps.length)
    (hbody : ∀ (f : Addr) (cdv : Value) (A : Around) (outer : List Env) (s : Shared) (H : Hp) (vs : List V) (Q : VK) (E : XK), Room k (A.deeper (envOfC qual (fnScope st) s.heap.objs.size f cdv)) → sp vs H Q E →
      ∃ t, PSs (cxOf C8.CX0 P w K mg base N qual (fnScope st) f cdv A outer s H E).nox (fnBody st) t ∧ t { nx := fun _ H' => Q .non H', rt := Q } (start N vs) H) : CmB P w K mg base (k + 1) x m sp := by
  obtain ⟨p, g, fd, mc, h1, h2, F⟩ := G.ex
  obtain ⟨fd, ps, ds, F1, b1, d1⟩ := (fnM F (F.bindsN b) .nil sc len (hbody _)).ex
  have := F1.raw b1 d1
  exact ⟨p, g, mc, h1, h2, this.imp fun vs H Q E h => by rw [List.append_nil]; exact h⟩
section
variable {X : Cx} (K : PySem.W.Frag) {k j : Nat} {x m : Str} {sp : Sp} {dvs : List V} {p pos apos : Pos} {e o : Expr} {es : List Expr} {ta : TE} {t : TA}
theorem pe_cm {pl : Sem Bool} (hK : X.K = K) (c : CmB X.prog X.w K X.mg X.base k x m sp) (hr : Room j X.A) (hk : k ≤ j) (he : PE X o ta) (ha : PA X (e :: es) t)
    (hst : starEach (e :: es) X.env = (false, eval e X.env) :: starEach es X.env := by rfl) (hpl : (backTo pos (starEach es X.env)).any (·.1) = false := by rfl)
    (ht : eval (.Call (.Attribute o m apos) (e :: es) [] pos) X.env = (do
      let ov ← eval o X.env
      standAt apos.atName
      let (f, first) ← holding [ov] (getMethod ov m pl)
      callWith pos f first (backTo pos (starEach (e :: es) X.env)) (backToKw pos (keywordEach [] X.env))) := by rfl) : PE X (.Call (.Attribute o m apos) (e :: es) [] pos) (ClX.tCMeth (cA K x) sp C8.E0 ta t) := by
  subst hK
  obtain ⟨p, g, mc, h1, h2, F⟩ := c.ex
  exact ClX.pe_cmeth (pl := pl) he h1 h2 F (hr.mono hk) C8.pass0 ha hst hpl ht
/-- C(..) by the class's name -/
theorem pe_mkB {f : Addr} {C : Addr} (hK : X.K = K) (M : Mk K C f) (hm : X.mg x = some (.ref C)) (c : FnB X.prog X.w K X.mg X.base k f sp dvs) (hr : Room j X.A) (hk : k + 1 ≤ j) (hg : Gl X x) (ha : PA X (e :: es) t)
    (hdb : (x == ("__debug__" : Str)) = false := by decide) (he : starEach (e :: es) X.env = (false, eval e X.env) :: starEach es X.env := by rfl) (hpl : (backTo pos (starEach es X.env)).any (·.1) = false := by rfl) :
    PE X (.Call (.Name x p) (e :: es) [] pos) (tMake C sp dvs C8.E0 t) := by
  subst hK
  obtain ⟨fd, ps, ds, F, b, d⟩ := c.ex
  exact pe_make M F (hr.mono hk) hg hm b d C8.pass0 ha hdb he hpl
/-- cls(..) -/
theorem pe_mkL {f : Addr} {C : Addr} {i : Nat} (hK : X.K = K) (M : Mk K C f) (c : FnB X.prog X.w K X.mg X.base k f sp dvs) (hr : Room j X.A) (hk : k + 1 ≤ j) (hN : X.N[i]? = some x) (hv : Vis X.env.scope x) (ha : PA X (e :: es) t)
    (hdb : (x == ("__debug__" : Str)) = false := by decide) (hcd : (x == ("__classdict__" : Str)) = false := by decide)
    (he : starEach (e :: es) X.env = (false, eval e X.env) :: starEach es X.env := by rfl) (hpl : (backTo pos (starEach es X.env)).any (·.1) = false := by rfl) :
    PE X (.Call (.Name x p) (e :: es) [] pos) (tMakeL i C sp dvs C8.E0 t) := by
  subst hK
  obtain ⟨fd, ps, ds, F, b, d⟩ := c.ex
  exact pe_makeL M F (hr.mono hk) hN hv b d C8.pass0 ha hdb hcd he hpl
/-- o.m(..) -/
theorem pe_mB {pl : Sem Bool} (hK : X.K = K) (hc : Cls K (cA K x)) (hm : Meth K (cA K x) m (mA K x m)) (c : FnB X.prog X.w K X.mg X.base k (mA K x m) sp []) (hr : Room j X.A) (hk : k ≤ j) (he : PE X o ta) (ha : PA X (e :: es) t)
    (hst : starEach (e :: es) X.env = (false, eval e X.env) :: starEach es X.env := by rfl) (hpl : (backTo pos (starEach es X.env)).any (·.1) = false := by rfl)
    (ht : eval (.Call (.Attribute o m apos) (e :: es) [] pos) X.env = (do
      let ov ← eval o X.env
      standAt apos.atName
      let (f, first) ← holding [ov] (getMethod ov m pl)
      callWith pos f first (backTo pos (starEach (e :: es) X.env)) (backToKw pos (keywordEach [] X.env))) := by rfl) :
    PE X (.Call (.Attribute o m apos) (e :: es) [] pos) (tMeth (cA K x) m sp [] C8.E0 ta t) := by
  subst hK
  obtain ⟨fd, ps, ds, F, b, d⟩ := c.ex
  exact pe_meth (pl := pl) he hc hm F (hr.mono hk) b d C8.pass0 ha hst hpl ht
theorem pe_mB0 {pl : Sem Bool} (hK : X.K = K) (hc : Cls K (cA K x)) (hm : Meth K (cA K x) m (mA K x m)) (c : FnB X.prog X.w K X.mg X.base k (mA K x m) sp []) (hr : Room j X.A) (hk : k ≤ j) (he : PE X o ta)
    (ht : eval (.Call (.Attribute o m apos) [] [] pos) X.env = (do
      let ov ← eval o X.env
      standAt apos.atName
      let (f, first) ← holding [ov] (getMethod ov m pl)
      callWith pos f first (backTo pos (starEach [] X.env)) (backToKw pos (keywordEach [] X.env))) := by rfl) :
    PE X (.Call (.Attribute o m apos) [] [] pos) (tMeth (cA K x) m sp [] C8.E0 ta tNil) := by
  subst hK
  obtain ⟨fd, ps, ds, F, b, d⟩ := c.ex
  exact pe_meth0 (pl := pl) he hc hm F (hr.mono hk) b d C8.pass0 ht
theorem vals_nil {ds : List Value} (d : Vals [] ds) : ds = [] := by cases d; rfl
theorem oB {op : Operator} (hK : X.K = K) (hc : PySem.W.selfFirst K (cA K x) = true) (hm : Meth K (cA K x) (PySem.dunder op.info.2) (mA K x (PySem.dunder op.info.2))) (c : FnB X.prog X.w K X.mg X.base k (mA K x (PySem.dunder op.info.2)) sp []) (hr : Room j X.A) (hk : k ≤ j) :
    OpR X (binaryOp op) (rOwn2 (cA K x) sp C8.E0) := by
  subst hK
  obtain ⟨fd, ps, ds, F, b, d⟩ := c.ex
  obtain rfl := vals_nil d
  exact op_ownB hc ⟨hm.at_, hm.fn⟩ F (hr.mono hk) b C8.pass0
theorem oC {op : CmpOp} (hK : X.K = K) (hop : ∀ a b, compareOp op a b = richCompare op a b) (hm : Meth K (cA K x) (cmpInfo op).2.1 (mA K x (cmpInfo op).2.1)) (c : FnB X.prog X.w K X.mg X.base k (mA K x (cmpInfo op).2.1) sp []) (hr : Room j X.A) (hk : k ≤ j) :
    OpR X (compareOp op) (rOwn2 (cA K x) sp C8.E0) := by
  subst hK
  obtain ⟨fd, ps, ds, F, b, d⟩ := c.ex
  obtain rfl := vals_nil d
  exact op_ownC hop ⟨hm.at_, hm.fn⟩ F (hr.mono hk) b C8.pass0
theorem oLen (hK : X.K = K) (hm : Meth K (cA K x) "__len__" (mA K x "__len__")) (c : FnB X.prog X.w K X.mg X.base k (mA K x "__len__") sp []) (hr : Room j X.A) (hk : k + 1 ≤ j) : CallR X (.builtin "len") (rOwnLen (cA K x) sp C8.E0) := by
  subst hK
  obtain ⟨fd, ps, ds, F, b, d⟩ := c.ex
  obtain rfl := vals_nil d
  exact call_ownLen ⟨hm.at_, hm.fn⟩ F (hr.mono hk) b C8.pass0
theorem oIx {a b : Expr} {ta tb : TE} (hK : X.K = K) (hm : Meth K (cA K x) "__getitem__" (mA K x "__getitem__")) (hfi : PySem.W.fnIn K (mA K x "__getitem__") = true) (c : FnB X.prog X.w K X.mg X.base k (mA K x "__getitem__") sp []) (hr : Room j X.A) (hk : k + 1 ≤ j)
    (ha : PE X a ta) (hb' : PE X b tb) (hsl : ∀ x i, subscripted b true (.ref x) i = runValue (.builtin "lifetime.subscript" ⟨[.ref x, i], []⟩) := by intro _ _; with_unfolding_all rfl) : PE X (.Subscript a b pos) (tOp (rOwnIx (cA K x) sp C8.E0) ta tb) := by
  subst hK
  obtain ⟨fd, ps, ds, F, bb, d⟩ := c.ex
  obtain rfl := vals_nil d
  exact pe_ownIx ⟨hm.at_, hm.fn⟩ hfi F (hr.mono hk) bb C8.pass0 ha hb' hsl
end
end
end HW
/-! part E1 -/
set_option maxHeartbeats 4000000
/-! What the head's look finds in the heap: the facts asked of the module and of its classes. -/
namespace HW
open PySem PySem.Spec PyProof.Rows L2 HR HV C8
/-- the addresses that an object leads to: no code object's fields, no class's bases -/
def refsM (o : Obj) : List Addr := match o.data with
  | .dict es _ => es.toList.flatMap fun e => He.refV e.val
  | .func fd => He.refV fd.code ++ He.refV fd.defaults
  | .cls cd => [cd.ns]
  | .seq its _ => its.toList.flatMap He.refV
  | .fields vs => (match o.cls with
    | .type "classmethod" => vs.toList.flatMap He.refV
    | _ => [])
  | _ => []
def nxtM (g : Addr → Option Obj) (as : List Addr) : List Addr := as.flatMap fun a => match g a with
  | some o => refsM o
  | none => []
def levM (g : Addr → Option Obj) : Nat → List Addr → List Addr
  | 0, as => as
  | n + 1, as => as ++ levM g n (nxtM g as)
def frM (g : Addr → Option Obj) : PySem.W.Frag := He.frG g (PySem.cStatics :: levM g 5 [mainGlobals])
/-! ### more that is asked -/
def emT (K : PySem.W.Frag) (a : Addr) : Bool := match K.lookup a with
  | some ⟨.type c, _, .seq its _, _⟩ => decide (c = "tuple") && decide (its = #[])
  | _ => false
theorem emT_ok {K : PySem.W.Frag} {a : Addr} (h : emT K a = true) (H : Hp) : SqT K H a [] := by
  unfold emT at h
  split at h
  · rename_i c od its n sl q
    obtain ⟨h1, h2⟩ := He.ba h
    obtain rfl := of_decide_eq_true h1
    obtain rfl := of_decide_eq_true h2
    exact .inr ⟨_, #[], n, q, rfl, rfl, Nat.zero_le _, .nil⟩
  · cases h
def insB (K : PySem.W.Frag) (C : Addr) : Bool := He.eqO (PySem.W.findIn K (.ref C) "__class__") (some (some (.builtin "object.__class__"))) && (He.eqO (PySem.W.specialIn K (.builtin "object.__class__") "__get__") (some (some (.builtin "getset_descriptor.__get__"))) &&
  (decide (PySem.W.takesIn K (.builtin "object.__class__") = some true) && (decide (PySem.W.mroIn K C (.type "object") = some true) && decide (PySem.W.kitOne K (.ref C) (.ref C) = some true))))
theorem insC_of {K : PySem.W.Frag} {C : Addr} (cl : Cls K C) (h : insB K C = true) : InsC K C := by
  obtain ⟨h1, h⟩ := He.ba h
  obtain ⟨h2, h⟩ := He.ba h
  obtain ⟨h3, h⟩ := He.ba h
  obtain ⟨h4, h5⟩ := He.ba h
  exact ⟨cl, He.eqO_ok h1, He.eqO_ok h2, of_decide_eq_true h3, of_decide_eq_true h4, of_decide_eq_true h5⟩
def crB (K : PySem.W.Frag) (C : Addr) : Bool := PySem.W.readsIn K C (.type "type") && He.eqO (PySem.W.specialIn K (.ref C) "__getattribute__") (some (some (.builtin "type.__getattribute__")))
theorem cr_of {K : PySem.W.Frag} {C : Addr} (h : crB K C = true) : ClX.CRead K C (.type "type") := ⟨(He.ba h).1, He.eqO_ok (He.ba h).2⟩
/-! ### the defs -/
def dG (x : Str) (st : Stmt) : He5.DefA := ⟨fun K => He.ga K x, x, x, fnArgs st, fnBody st, fnScope st, [], []⟩
def dM (x m qual : Str) (st : Stmt) : He5.DefA := ⟨fun K => mA K x m, m, qual, fnArgs st, fnBody st, fnScope st, [], []⟩
def dMD (x m qual : Str) (st : Stmt) : He5.DefA := ⟨fun K => mA K x m, m, qual, fnArgs st, fnBody st, fnScope st, [.adr (He.dflAt (x, some m) 0)], []⟩
def dK (x m qual : Str) (st : Stmt) : He5.DefA := ⟨fun K => He5.wf K (cA K x) "classmethod" m, m, qual, fnArgs st, fnBody st, fnScope st, [], []⟩
def naL : List (Str × Str) := [("Space", "prime"), ("Space", "length"), ("Space", "rows"), ("Chains", "first"), ("Chains", "second"), ("Chains", "prime"), ("Chains", "length"), ("Word", "sign"), ("Word", "parts"), ("Reader", "source"), ("Reader", "spot"), ("Reader", "opened"), ("Triple", "a"), ("Triple", "b"), ("Triple", "c"), ("Triple", "prime"), ("Triple", "length")]
def faL0 : List (He.Fa) := [.glo "is_integer",
  .glo "is_prime",
  .glo "inverse",
  .glo "is_vector",
  .glo "leading",
  .glo "combined",
  .glo "reduced",
  .glo "echelon",
  .glo "cut_rows",
  .glo "check_frame",
  .glo "check_alike",
  .glo "unit",
  .glo "extension",
  .glo "space_at",
  .glo "all_cells",
  .glo "common_basis",
  .glo "cell_table",
  .glo "check_word",
  .glo "space_of",
  .glo "chain_value",
  .glo "is_in",
  .glo "chain_cells",
  .glo "chain_parting",
  .glo "chain_breach",
  .glo "value",
  .glo "_law_tape",
  .glo "_law_pick",
  .glo "_law_added",
  .glo "_law_span",
  .glo "_law_cut"]
def faL1 : List (He.Fa) := [.glo "_law_size",
  .glo "_law_unit",
  .glo "_law_kinds",
  .glo "_law_amounts",
  .glo "_law_length",
  .glo "_law_rows",
  .glo "_law_mixed",
  .glo "_law_moved",
  .glo "_law_drawn",
  .glo "_law_vector",
  .glo "_law_chain",
  .glo "_law_pair",
  .glo "_law_chains",
  .glo "_law_levels",
  .glo "_law_grid",
  .glo "_law_table",
  .glo "_law_term",
  .glo "_law_object",
  .glo "_law_spaces",
  .glo "_law_read",
  .glo "_law_sized",
  .glo "_law_held",
  .glo "law",
  .free "range",
  .free "enumerate",
  .free "zip",
  .free "tuple",
  .free "list",
  .free "int",
  .free "bool"]
def faL2 : List (He.Fa) := [.free "str",
  .free "len",
  .free "all",
  .free "sum",
  .free "abs",
  .free "isinstance",
  .glo "PRIMES",
  .glo "HANDS",
  .glo "PLAIN_SIGNS",
  .int "MOST" 12,
  .int "MOST_OPEN" 9,
  .cls "Space",
  .mkr "Space",
  .glo "Space",
  .cls "Chains",
  .mkr "Chains",
  .glo "Chains",
  .cls "Word",
  .mkr "Word",
  .glo "Word",
  .cls "Reader",
  .mkr "Reader",
  .glo "Reader",
  .cls "Triple",
  .mkr "Triple",
  .glo "Triple",
  .meth "Space" "__init__",
  .meth "Word" "__init__",
  .meth "Space" "__len__",
  .meth "Space" "__eq__"]
def faL3 : List (He.Fa) := [.meth "Space" "__le__",
  .meth "Space" "__add__",
  .meth "Space" "__and__",
  .meth "Chains" "__init__",
  .meth "Reader" "__init__",
  .meth "Reader" "peek",
  .meth "Reader" "read_sum",
  .meth "Reader" "read_cut",
  .meth "Reader" "read_part",
  .meth "Triple" "__init__",
  .meth "Triple" "__getitem__"]
def faL : List (He.Fa) := faL0 ++ (faL1 ++ (faL2 ++ faL3))
def fnL0 : List (He5.DefA) := [dG "is_integer" (topS 16),
  dG "is_prime" (topS 17),
  dG "inverse" (topS 18),
  dG "is_vector" (topS 22),
  dG "leading" (topS 23),
  dG "combined" (topS 24),
  dG "reduced" (topS 25),
  dG "echelon" (topS 26),
  dG "cut_rows" (topS 27),
  dG "check_frame" (topS 28),
  dG "check_alike" (topS 29),
  dG "unit" (topS 30),
  dG "extension" (topS 33),
  dG "space_at" (topS 36),
  dG "all_cells" (topS 37),
  dG "common_basis" (topS 38),
  dG "cell_table" (topS 39),
  dG "check_word" (topS 40),
  dG "space_of" (topS 41),
  dG "chain_value" (topS 42),
  dG "is_in" (topS 43),
  dG "chain_cells" (topS 44),
  dG "chain_parting" (topS 45),
  dG "chain_breach" (topS 46),
  dG "value" (topS 57),
  dG "_law_tape" (topS 59),
  dG "_law_pick" (topS 60),
  dG "_law_added" (topS 61),
  dG "_law_span" (topS 62),
  dG "_law_cut" (topS 63)]
def fnL1 : List (He5.DefA) := [dG "_law_size" (topS 64),
  dG "_law_unit" (topS 65),
  dG "_law_kinds" (topS 66),
  dG "_law_amounts" (topS 67),
  dG "_law_length" (topS 68),
  dG "_law_rows" (topS 69),
  dG "_law_mixed" (topS 70),
  dG "_law_moved" (topS 71),
  dG "_law_drawn" (topS 72),
  dG "_law_vector" (topS 73),
  dG "_law_chain" (topS 74),
  dG "_law_pair" (topS 75),
  dG "_law_chains" (topS 76),
  dG "_law_levels" (topS 77),
  dG "_law_grid" (topS 78),
  dG "_law_table" (topS 79),
  dG "_law_term" (topS 80),
  dG "_law_object" (topS 81),
  dG "_law_spaces" (topS 82),
  dG "_law_read" (topS 83),
  dG "_law_sized" (topS 84),
  dG "_law_held" (topS 85),
  dG "law" (topS 86),
  dMD "Space" "__init__" "Space.__init__" (metS 31 0),
  dMD "Word" "__init__" "Word.__init__" (metS 51 0),
  dM "Space" "__len__" "Space.__len__" (metS 31 4),
  dM "Space" "__eq__" "Space.__eq__" (metS 31 5),
  dM "Space" "__le__" "Space.__le__" (metS 31 6),
  dM "Space" "__add__" "Space.__add__" (metS 31 7),
  dM "Space" "__and__" "Space.__and__" (metS 31 8)]
def fnL2 : List (He5.DefA) := [dM "Chains" "__init__" "Chains.__init__" (metS 35 0),
  dM "Reader" "__init__" "Reader.__init__" (metS 54 0),
  dM "Reader" "peek" "Reader.peek" (metS 54 1),
  dM "Reader" "read_sum" "Reader.read_sum" (metS 54 3),
  dM "Reader" "read_cut" "Reader.read_cut" (metS 54 4),
  dM "Reader" "read_part" "Reader.read_part" (metS 54 5),
  dM "Triple" "__init__" "Triple.__init__" (metS 56 0),
  dM "Triple" "__getitem__" "Triple.__getitem__" (metS 56 2),
  dK "Space" "nothing" "Space.nothing" (metS 31 1),
  dK "Space" "whole" "Space.whole" (metS 31 2),
  dK "Word" "read" "Word.read" (metS 51 1)]
def fnL : List (He5.DefA) := fnL0 ++ (fnL1 ++ fnL2)
def exL0 : List (PySem.W.Frag → Bool) := [fun K => He.tupB K "PRIMES" [.int 2, .int 3, .int 5, .int 7, .int 11, .int 13],
  fun K => He.tupB K "HANDS" [.str "a", .str "b", .str "c"],
  fun K => He.tupB K "PLAIN_SIGNS" [.str "a", .str "b", .str "c", .str "0", .str "1"],
  fun K => naL.all fun p => He.eqO (PySem.W.findIn K (.ref (cA K p.1)) p.2) (some none),
  fun K => PySem.W.selfFirst K (cA K "Space"),
  fun K => insB K (cA K "Space"),
  fun K => PySem.W.fnIn K (mA K "Triple" "__getitem__"),
  fun K => emT K (He.dflAt ("Space", some "__init__") 0 K),
  fun K => emT K (He.dflAt ("Word", some "__init__") 0 K),
  fun K => crB K (cA K "Space"),
  fun K => He5.wrapB K (cA K "Space") "classmethod" "classmethod.__get__" "nothing" && PySem.W.fnIn K (He5.wf K (cA K "Space") "classmethod" "nothing"),
  fun K => crB K (cA K "Space"),
  fun K => He5.wrapB K (cA K "Space") "classmethod" "classmethod.__get__" "whole" && PySem.W.fnIn K (He5.wf K (cA K "Space") "classmethod" "whole"),
  fun K => crB K (cA K "Word"),
  fun K => He5.wrapB K (cA K "Word") "classmethod" "classmethod.__get__" "read" && PySem.W.fnIn K (He5.wf K (cA K "Word") "classmethod" "read")]
def exL : List (PySem.W.Frag → Bool) := exL0
/-! ### the Hook -/
abbrev AlM : Type := He.AlD × Bool
def obsM (K : PySem.W.Frag) : AlM := (He5.obsA faL fnL K, exL.all fun f => f K)
def valM : AlM := (He5.valA fnL, true)
structure SaysM (K : PySem.W.Frag) : Prop where
  e : obsM K = valM
theorem SaysM.a {K : PySem.W.Frag} (c : SaysM K) : He5.SaysA faL fnL K := congrArg (fun z : AlM => z.1) c.e
theorem SaysM.ex {K : PySem.W.Frag} (c : SaysM K) (i : Nat) {f : PySem.W.Frag → Bool} (h : exL[i]? = some f := by rfl) : f K = true :=
  List.all_eq_true.mp (show (exL.all fun f => f K) = true from congrArg (fun z : AlM => z.2) c.e) f (List.mem_of_getElem? h)
def hookM : PySem.W.Hook where
  α := AlM
  obs := fun s => obsM (frM s.heap.get?)
  val := fun _ => valM
  says := fun _ h => ∃ K : PySem.W.Frag, K.In h ∧ SaysM K
  of := fun _ _ e => ⟨_, He.frG_in, ⟨e⟩⟩
  keeps := fun _ _ _ ⟨K, hK, c⟩ k => ⟨K, PySem.W.Frag.In.keeps hK k, c⟩
theorem obsM_eq {g : Addr → Option Obj} {s : Shared} (h : ∀ a, g a = s.heap.get? a) : obsM (frM g) = hookM.obs s := by
  have e : g = s.heap.get? := funext h
  rw [e]
  rfl
section
variable {K : PySem.W.Frag} {h : Heap} {mg : Str → Option Value}
theorem gd_of {x : Str} {st : Stmt} (c : SaysM K) (X : K.In h) (G : h.Ns mainGlobals mg) (i j : Nat) (hd : fnL[i]? = some (dG x st)) (hf : faL[j]? = some (.glo x)) : Gd K mg x st := ⟨c.a.def_ i hd, He.glo_ok X G (c.a.fact j hf)⟩
theorem int_of {x : Str} {n : Int} (c : SaysM K) (X : K.In h) (G : h.Ns mainGlobals mg) (j : Nat) (hf : faL[j]? = some (.int x n)) : ∃ u, mg x = some u ∧ RelV (.int n) u := by
  obtain ⟨t, e⟩ := He.int_ok X G (c.a.fact j hf)
  exact ⟨_, e, t, rfl⟩
theorem gm_of {x m qual : Str} {st : Stmt} (c : SaysM K) (i j : Nat) (hd : fnL[i]? = some (dM x m qual st)) (hf : faL[j]? = some (.meth x m)) : Gm K x m qual st [] := ⟨c.a.def_ i hd, He.meth_ok (c.a.fact j hf)⟩
theorem gk_of {x m qual : Str} {st : Stmt} (c : SaysM K) (i j k : Nat) (hd : fnL[i]? = some (dK x m qual st)) (hr : exL[j]? = some fun K => crB K (cA K x)) (hw : exL[k]? = some fun K => He5.wrapB K (cA K x) "classmethod" "classmethod.__get__" m && PySem.W.fnIn K (He5.wf K (cA K x) "classmethod" m)) : Gk K x m qual st := by
  obtain ⟨fd, F⟩ := c.a.def_ i hd
  obtain ⟨h1, h2⟩ := He.ba (c.ex k hw)
  exact ⟨_, _, fd, _, cr_of (c.ex j hr), He5.cmet_of h1 h2, F⟩
theorem fs_of (c : SaysM K) (X : K.In h) (G : h.Ns mainGlobals mg) : Fs K mg where
  d_is_integer := gd_of c X G 0 0 rfl rfl
  d_is_prime := gd_of c X G 1 1 rfl rfl
  d_inverse := gd_of c X G 2 2 rfl rfl
  d_is_vector := gd_of c X G 3 3 rfl rfl
  d_leading := gd_of c X G 4 4 rfl rfl
  d_combined := gd_of c X G 5 5 rfl rfl
  d_reduced := gd_of c X G 6 6 rfl rfl
  d_echelon := gd_of c X G 7 7 rfl rfl
  d_cut_rows := gd_of c X G 8 8 rfl rfl
  d_check_frame := gd_of c X G 9 9 rfl rfl
  d_check_alike := gd_of c X G 10 10 rfl rfl
  d_unit := gd_of c X G 11 11 rfl rfl
  d_extension := gd_of c X G 12 12 rfl rfl
  d_space_at := gd_of c X G 13 13 rfl rfl
  d_all_cells := gd_of c X G 14 14 rfl rfl
  d_common_basis := gd_of c X G 15 15 rfl rfl
  d_cell_table := gd_of c X G 16 16 rfl rfl
  d_check_word := gd_of c X G 17 17 rfl rfl
  d_space_of := gd_of c X G 18 18 rfl rfl
  d_chain_value := gd_of c X G 19 19 rfl rfl
  d_is_in := gd_of c X G 20 20 rfl rfl
  d_chain_cells := gd_of c X G 21 21 rfl rfl
  d_chain_parting := gd_of c X G 22 22 rfl rfl
  d_chain_breach := gd_of c X G 23 23 rfl rfl
  d_value := gd_of c X G 24 24 rfl rfl
  d__law_tape := gd_of c X G 25 25 rfl rfl
  d__law_pick := gd_of c X G 26 26 rfl rfl
  d__law_added := gd_of c X G 27 27 rfl rfl
  d__law_span := gd_of c X G 28 28 rfl rfl
  d__law_cut := gd_of c X G 29 29 rfl rfl
  d__law_size := gd_of c X G 30 30 rfl rfl
  d__law_unit := gd_of c X G 31 31 rfl rfl
  d__law_kinds := gd_of c X G 32 32 rfl rfl
  d__law_amounts := gd_of c X G 33 33 rfl rfl
  d__law_length := gd_of c X G 34 34 rfl rfl
  d__law_rows := gd_of c X G 35 35 rfl rfl
  d__law_mixed := gd_of c X G 36 36 rfl rfl
  d__law_moved := gd_of c X G 37 37 rfl rfl
  d__law_drawn := gd_of c X G 38 38 rfl rfl
  d__law_vector := gd_of c X G 39 39 rfl rfl
  d__law_chain := gd_of c X G 40 40 rfl rfl
  d__law_pair := gd_of c X G 41 41 rfl rfl
  d__law_chains := gd_of c X G 42 42 rfl rfl
  d__law_levels := gd_of c X G 43 43 rfl rfl
  d__law_grid := gd_of c X G 44 44 rfl rfl
  d__law_table := gd_of c X G 45 45 rfl rfl
  d__law_term := gd_of c X G 46 46 rfl rfl
  d__law_object := gd_of c X G 47 47 rfl rfl
  d__law_spaces := gd_of c X G 48 48 rfl rfl
  d__law_read := gd_of c X G 49 49 rfl rfl
  d__law_sized := gd_of c X G 50 50 rfl rfl
  d__law_held := gd_of c X G 51 51 rfl rfl
  d_law := gd_of c X G 52 52 rfl rfl
  range := He.free_ok X G (c.a.fact 53 rfl)
  enumerate := He.free_ok X G (c.a.fact 54 rfl)
  zip := He.free_ok X G (c.a.fact 55 rfl)
  tuple := He.free_ok X G (c.a.fact 56 rfl)
  list := He.free_ok X G (c.a.fact 57 rfl)
  int := He.free_ok X G (c.a.fact 58 rfl)
  bool := He.free_ok X G (c.a.fact 59 rfl)
  str := He.free_ok X G (c.a.fact 60 rfl)
  len := He.free_ok X G (c.a.fact 61 rfl)
  all := He.free_ok X G (c.a.fact 62 rfl)
  sum := He.free_ok X G (c.a.fact 63 rfl)
  abs := He.free_ok X G (c.a.fact 64 rfl)
  isinstance := He.free_ok X G (c.a.fact 65 rfl)
  PRIMES := ⟨⟨_, He.glo_ok X G (c.a.fact 66 rfl), fun H => He.tupB_ok (c.ex 0 rfl) H⟩⟩
  HANDS := ⟨⟨_, He.glo_ok X G (c.a.fact 67 rfl), fun H => He.tupB_ok (c.ex 1 rfl) H⟩⟩
  PLAIN_SIGNS := ⟨⟨_, He.glo_ok X G (c.a.fact 68 rfl), fun H => He.tupB_ok (c.ex 2 rfl) H⟩⟩
  MOST := int_of c X G 69 rfl
  MOST_OPEN := int_of c X G 70 rfl
theorem cs_of (c : SaysM K) (X : K.In h) (G : h.Ns mainGlobals mg) : Cs K mg where
  toFs := fs_of c X G
  Space := ⟨He.cls_ok (c.a.fact 71 rfl), He.mkr_ok (c.a.fact 72 rfl), He.glo_ok X G (c.a.fact 73 rfl)⟩
  Chains := ⟨He.cls_ok (c.a.fact 74 rfl), He.mkr_ok (c.a.fact 75 rfl), He.glo_ok X G (c.a.fact 76 rfl)⟩
  Word := ⟨He.cls_ok (c.a.fact 77 rfl), He.mkr_ok (c.a.fact 78 rfl), He.glo_ok X G (c.a.fact 79 rfl)⟩
  Reader := ⟨He.cls_ok (c.a.fact 80 rfl), He.mkr_ok (c.a.fact 81 rfl), He.glo_ok X G (c.a.fact 82 rfl)⟩
  Triple := ⟨He.cls_ok (c.a.fact 83 rfl), He.mkr_ok (c.a.fact 84 rfl), He.glo_ok X G (c.a.fact 85 rfl)⟩
  na := fun p hp => He.eqO_ok (List.all_eq_true.mp (c.ex 3 (f := fun K => naL.all fun p => He.eqO (PySem.W.findIn K (.ref (cA K p.1)) p.2) (some none)) rfl) p hp)
  sfS := c.ex 4 (f := fun K => PySem.W.selfFirst K (cA K "Space")) rfl
  insS := insC_of (He.cls_ok (c.a.fact 71 rfl)) (c.ex 5 (f := fun K => insB K (cA K "Space")) rfl)
  fiT := c.ex 6 (f := fun K => PySem.W.fnIn K (mA K "Triple" "__getitem__")) rfl
  iSpace := ⟨_, ⟨c.a.def_ 53 (d := dMD "Space" "__init__" "Space.__init__" (metS 31 0)) rfl, He.meth_ok (c.a.fact 86 rfl)⟩, emT_ok (c.ex 7 (f := fun K => emT K (He.dflAt ("Space", some "__init__") 0 K)) rfl)⟩
  iWord := ⟨_, ⟨c.a.def_ 54 (d := dMD "Word" "__init__" "Word.__init__" (metS 51 0)) rfl, He.meth_ok (c.a.fact 87 rfl)⟩, emT_ok (c.ex 8 (f := fun K => emT K (He.dflAt ("Word", some "__init__") 0 K)) rfl)⟩
  sLen := gm_of c 55 88 rfl rfl
  sEq := gm_of c 56 89 rfl rfl
  sLe := gm_of c 57 90 rfl rfl
  sAdd := gm_of c 58 91 rfl rfl
  sAnd := gm_of c 59 92 rfl rfl
  iChains := gm_of c 60 93 rfl rfl
  iReader := gm_of c 61 94 rfl rfl
  peek := gm_of c 62 95 rfl rfl
  rsum := gm_of c 63 96 rfl rfl
  rcut := gm_of c 64 97 rfl rfl
  rpart := gm_of c 65 98 rfl rfl
  iTriple := gm_of c 66 99 rfl rfl
  item := gm_of c 67 100 rfl rfl
  nothing := gk_of c 68 9 10 rfl rfl rfl
  whole := gk_of c 69 11 12 rfl rfl rfl
  read := gk_of c 70 13 14 rfl rfl rfl
end
end HW
/-! part E2 -/
set_option maxHeartbeats 0
/-! The run of the top, and what is seen behind it. -/
namespace HW
open PySem PySem.Spec PyProof.Rows L2 HR HV C8
def nmL0 : List (Str) := ["_wall",
  "__name__",
  "HandError",
  "BadPrime",
  "NoInverse",
  "BadLength",
  "BadVector",
  "UnlikeSpaces",
  "NotWithin",
  "BadText",
  "BadSign",
  "BadColumn",
  "NoHand",
  "NoSpace",
  "PRIMES",
  "is_integer",
  "is_prime",
  "inverse",
  "power",
  "MOST",
  "is_vector",
  "leading",
  "combined",
  "reduced",
  "echelon",
  "cut_rows",
  "check_frame",
  "check_alike",
  "unit",
  "Space"]
def nmL1 : List (Str) := ["read_number",
  "extension",
  "Chains",
  "space_at",
  "all_cells",
  "common_basis",
  "cell_table",
  "check_word",
  "space_of",
  "chain_value",
  "is_in",
  "chain_cells",
  "chain_parting",
  "chain_breach",
  "HANDS",
  "PLAIN_SIGNS",
  "MOST_OPEN",
  "Word",
  "leaves",
  "enclosed",
  "Reader",
  "Triple",
  "value",
  "_law_tape",
  "_law_pick",
  "_law_added",
  "_law_span",
  "_law_cut",
  "_law_size",
  "_law_unit"]
def nmL2 : List (Str) := ["_law_kinds",
  "_law_amounts",
  "_law_length",
  "_law_rows",
  "_law_mixed",
  "_law_moved",
  "_law_drawn",
  "_law_vector",
  "_law_chain",
  "_law_pair",
  "_law_chains",
  "_law_levels",
  "_law_grid",
  "_law_table",
  "_law_term",
  "_law_object",
  "_law_spaces",
  "_law_read",
  "_law_sized",
  "_law_held"]
def nmL : List (Str) := nmL0 ++ (nmL1 ++ nmL2)
abbrev R : PySem.W.OpenRow := PySem.W.OpenLaw.row PySem.Challenge.rw_handspaces_k96_whole_chains_of_a_triple
abbrev qv : Program := PySem.W.view R.prog [86]
def ob (s : PySem.W.SharedT) : AlM := obsM (frM (HandSHeadRun.getT s))
theorem ob_eq (s : PySem.W.SharedT) : ob s = hookM.obs s.abs := obsM_eq (HandSHeadRun.getT_eq s)
theorem run (w : World) : HandSHeadRun.RunEq R qv hookM ob 20000 nmL w := by
  intro os
  kernel_rfl
end HW
/-! part W3 -/
set_option maxHeartbeats 4000000
/-! Spaces. -/
namespace HW
open PySem PySem.Spec PyProof.Rows L2 HR HV C8
open Evl (Ex)
structure Spc where
  p : Int
  n : Nat
  rows : List (List Int)
def Spc.ok (s : Spc) : Prop := HM.IsP s.p ∧ s.n ≤ 12 ∧ HM.Red s.p s.n s.rows
def rSp (K : PySem.W.Frag) (s : Spc) : Rep := fun v L => ∃ a dx r, v = .ref a ∧ L a = some (.ins (cA K "Space") dx [("prime", .int s.p), ("length", .int (s.n : Int)), ("rows", r)]) ∧ rTs rVec s.rows r L
instance {K : PySem.W.Frag} {s : Spc} : Gr (rSp K s) := ⟨fun v H H' e ⟨a, dx, r, h1, h2, h3⟩ => ⟨a, dx, r, h1, e a _ h2, Gr.up r H H' e h3⟩⟩
/-- vectors: a list, a tuple, the empty tuple of a def's defaults -/
def rVs (K : PySem.W.Frag) (xs : List (List Int)) : Rep := fun v L => rSq (aLs rVec xs) v L ∨ (xs = [] ∧ ∃ a, v = .ref a ∧ ∀ H, SqT K H a [])
instance {K : PySem.W.Frag} {xs : List (List Int)} : Gr (rVs K xs) := ⟨fun v H H' e h => h.imp (fun h => Gr.up v H H' e h) fun h => h⟩
theorem lenN {ι : Type} {C : Addr} {A : ι → RepA} {R : ι → Rep} {n : Nat} (h : ∀ i vs L, A i vs L → vs.length = n) : ∀ vs H Q E, spN C A R vs H Q E → vs.length = n + 1 := fun vs H Q E ⟨i, L, H1, x, dx, ws, e, _, _, _, _, _, a, _⟩ => by
  rw [e, List.length_cons, h i ws L a]
section
variable {K : PySem.W.Frag} {mg : Str → Option Value} {T : Tap} {L L0 H0 H : Hp} {σ : L2.St} {ta tb tc te : TE} {R Ra Rb Rc : Rep} {A A' : RepA} {x y v : V} {s s' : Spc}
theorem rSp_ins (h : rSp K s v L) : ∃ a dx fs, v = .ref a ∧ L a = some (.ins (cA K "Space") dx fs) := let ⟨a, dx, r, h1, h2, _⟩ := h; ⟨a, dx, _, h1, h2⟩
theorem gprime (F : Cs K mg) (h : Go T L (ta σ) (rSp K s)) : Go T L (tFld K ta "prime" σ) (rInt s.p) := gfld h fun x L' _ ⟨a, dx, r, h1, h2, h3⟩ => ⟨a, _, dx, _, _, h1, h2, F.Space.cls, F.na ("Space", "prime") (by decide), rfl, rfl⟩
theorem glength (F : Cs K mg) (h : Go T L (ta σ) (rSp K s)) : Go T L (tFld K ta "length" σ) (rInt (s.n : Int)) := gfld h fun x L' _ ⟨a, dx, r, h1, h2, h3⟩ => ⟨a, _, dx, _, _, h1, h2, F.Space.cls, F.na ("Space", "length") (by decide), rfl, rfl⟩
theorem grows (F : Cs K mg) (h : Go T L (ta σ) (rSp K s)) : Go T L (tFld K ta "rows" σ) (rTs rVec s.rows) := gfld h fun x L' _ ⟨a, dx, r, h1, h2, h3⟩ => ⟨a, _, dx, _, r, h1, h2, F.Space.cls, F.na ("Space", "rows") (by decide), rfl, h3⟩
theorem gi_vs {xs : List (List Int)} {j : Nat} (hj : σ[j]? = some (some v)) (h : rVs K xs v L) : Go T L (iOr (iList K (tVar j)) (iTup K (tVar j)) σ) (rIt T xs rVec) := by
  rcases h with h | ⟨rfl, a, rfl, h⟩
  · exact gi_seqV hj h
  · exact fun H ok Q q => Or.inr ⟨_, hj, a, rfl, ⟨[], h H⟩, q _ L H (Stp.refl ok) (Walk.mono (walk_tup (K := K) (a := a) (xs := [])) (fun H _ => h H) fun i H x H' hi _ _ => absurd hi (Nat.not_lt_zero _))⟩
theorem geqLs {ι : Type} {R : ι → Rep} {xs ys : List ι} (h : Go T L (te σ) (rLs R xs)) (e : xs = ys) : Go T L (te σ) (rLs R ys) := e ▸ h
theorem geqTs {ι : Type} {R : ι → Rep} {xs ys : List ι} (h : Go T L (te σ) (rTs R xs)) (e : xs = ys) : Go T L (te σ) (rTs R ys) := e ▸ h
theorem geqSp {s t : Spc} (h : Go T L (te σ) (rSp K s)) (e : s = t) : Go T L (te σ) (rSp K t) := e ▸ h
/-- a field of our own object set -/
theorem gFld1 {f : Str} {p dx : Addr} {fs : List (Str × V)} {C : Addr} {D : Ends} {i : Nat} (hc : Cls K C) (hn : NoAttr K C f) (ok : Ok T L0 H0) (S : Stp T L0 H0 L H) (hi : σ[i]? = some (some (.ref p))) (hp : Prv H0 L H p (.ins C dx fs)) (hz : fs.length < 1000) (h : Go T L (te σ) R)
    (k : ∀ v L1 H1, Stp T L0 H0 L1 H1 → Ex L L1 → R v L1 → Prv H0 L1 H1 p (.ins C dx (putF f v fs)) → D.nx σ H1) : sFld K (tVar i) te f D σ H := h H (S.ok ok) _ fun v L1 H1 s1 r1 => by
  have hp1 := hp.step ok s1
  exact ⟨_, hi, p, C, dx, fs, rfl, hp1.at_, hc, hn, hz, k v L1 _ (Stp.chg ok (S.trans s1) hp1) s1.ll r1 hp1.set⟩
/-- a field of our own object set -/
theorem gFld {f : Str} {p dx : Addr} {fs : List (Str × V)} {C : Addr} {tz : TS} {D : Ends} {i : Nat} (hc : Cls K C) (hn : NoAttr K C f) (ok : Ok T L0 H0) (S : Stp T L0 H0 L H) (hi : σ[i]? = some (some (.ref p))) (hp : Prv H0 L H p (.ins C dx fs)) (hz : fs.length < 1000) (h : Go T L (te σ) R)
    (k : ∀ v L1 H1, Stp T L0 H0 L1 H1 → Ex L L1 → R v L1 → Prv H0 L1 H1 p (.ins C dx (putF f v fs)) → tz D σ H1) : tSeq (sFld K (tVar i) te f) tz D σ H := h H (S.ok ok) _ fun v L1 H1 s1 r1 => by
  have hp1 := hp.step ok s1
  exact ⟨_, hi, p, C, dx, fs, rfl, hp1.at_, hc, hn, hz, k v L1 _ (Stp.chg ok (S.trans s1) hp1) s1.ll r1 hp1.set⟩
/-! rows as data -/
def dVec (r : List Int) : PyData := .tuple (r.map PyData.int)
def dRows (rs : List (List Int)) : PyData := .tuple (rs.map dVec)
theorem dp_ints : ∀ (r : List Int), DpAll K H (r.map V.int) (r.map PyData.int)
  | [] => .nil
  | i :: r => .cons (.int i) (dp_ints r)
theorem dp_vec {r : List Int} (h : rVec r v L) (e : Ex L H) : Dp K H v (dVec r) := by
  obtain ⟨p, rfl, h1⟩ := h
  exact .tup (SqT.of (e p _ h1)) (dp_ints r)
theorem dp_all (e : Ex L H) : ∀ {rs : List (List Int)} {vs : List V}, Pd rVec rs vs L → DpAll K H vs (rs.map dVec)
  | [], [], _ => .nil
  | _ :: _, _ :: _, h => .cons (dp_vec h.1 e) (dp_all e h.2)
  | [], _ :: _, h => h.elim
  | _ :: _, [], h => h.elim
theorem dp_rows {rs : List (List Int)} (h : rTs rVec rs v L) (e : Ex L H) : Dp K H v (dRows rs) := by
  obtain ⟨p, vs, rfl, h1, h2⟩ := h
  exact .tup (SqT.of (e p _ h1)) (dp_all e h2)
theorem lay_ints : ∀ r : List Int, PyData.canLayAll0 (r.map PyData.int) = true ∧ PyData.depthAll (r.map PyData.int) = 0
  | [] => by simp [PyData.canLayAll0, PyData.depthAll]
  | i :: r => by
    have := lay_ints r
    simp [PyData.canLayAll0, PyData.canLay0, PyData.depthAll, PyData.depth, this.1, this.2]
theorem lay_rows : ∀ rs : List (List Int), PyData.canLayAll0 (rs.map dVec) = true ∧ PyData.depthAll (rs.map dVec) ≤ 1
  | [] => by simp [PyData.canLayAll0, PyData.depthAll]
  | r :: rs => by
    have h := lay_rows rs
    have h2 := lay_ints r
    simp only [List.map_cons, PyData.canLayAll0, PyData.depthAll, dVec, PyData.canLay0, PyData.depth, h.1, h2.1, h2.2, Bool.and_self, true_and]
    have := h.2
    omega
theorem shaped_rows (rs : List (List Int)) : SeqAt.shaped (dRows rs) = true := by
  have h := lay_rows rs
  unfold SeqAt.shaped dRows
  rw [Bool.and_eq_true]
  exact ⟨by simp only [PyData.canLay0]; exact h.1, decide_eq_true (by simp only [PyData.depth]; have := h.2; omega)⟩
theorem geqRows {rs : List (List Int)} (ha : Go T L (ta σ) (rTs rVec rs)) (hb : Go T L (tb σ) (rTs rVec rs)) : Go T L (tOp (rEqD K) ta tb σ) (rV (.bl true)) := gop ha hb fun x y L' e e1 e2 => fun H ok Q q =>
  ⟨dRows rs, dRows rs, dp_rows e1 ok.1, dp_rows e2 ok.1, shaped_rows rs, shaped_rows rs, q _ L' H (Stp.refl ok) (by
    rw [SeqAt.eqv_refl _ (SeqAt.canLay_of_shaped (shaped_rows rs))])⟩
/-- isinstance of a space -/
theorem gisiS (F : Cs K mg) (ha : Go T L (ta σ) (rSp K s)) (hb : Go T L (tb σ) (rV (.ref (cA K "Space")))) : Go T L (tCB (rIsi K) (tCons ta (tCons tb tNil)) σ) (rV (.bl true)) :=
  gcb (gaC ha (gaC hb ga0)) fun vs L' e r => by
    obtain ⟨v, w, rfl, ⟨a, dx, r', rfl, h2, h3⟩, rfl⟩ := a2 r
    exact fun H ok Q q => ⟨_, _, .ref (cA K "Space"), .ref (cA K "Space"), true, rfl, .own _, .base (.ins (ok.1 a _ h2) F.insS.cl F.insS.ha F.insS.hn F.insS.htk F.insS.hm), F.insS.me, q _ L' H (Stp.refl ok) rfl⟩
end
section
variable {P : Program} {w : World} {K : PySem.W.Frag} {mg : Str → Option Value} {base : Heap}
def spCut : Sp := spR (fun q : Int × Nat × List (List Int) × List (List Int) => aAnd (HM.IsP q.1 ∧ q.2.1 ≤ 12 ∧ HM.Red q.1 q.2.1 q.2.2.1 ∧ HM.Red q.1 q.2.1 q.2.2.2) (aCons (rInt q.1) (aCons (rInt q.2.1) (aCons (rTs rVec q.2.2.1) (aCons (rTs rVec q.2.2.2) aNil))))) (fun q => rLs rVec (HM.cutRows q.1 q.2.1 q.2.2.1 q.2.2.2))
theorem c_cut_rows (F : Fs K mg) : Cal P w K mg base 5 "cut_rows" (spCut) [] := by
  refine calG (N := ["prime", "length", "first", "second", "nothing", "doubled", "row"]) (ps := ["prime", "length", "first", "second"]) F.d_cut_rows (fun _ _ _ _ _ _ us hl => match us, hl with | [_, _, _, _], _ => rfl) (by decide +kernel) (len1 fun _ _ _ h => lC h.2 (fun _ h => lC h (fun _ h => lC h (fun _ h => lC h (fun _ => l0))))) ?_
  rintro f cdv A outer s H vs Q E hr ⟨x, L, e, ⟨pre, ha⟩, k⟩
  have nd := (fnScope_by (N := ["prime", "length", "first", "second", "nothing", "doubled", "row"]) (P := ["prime", "length", "first", "second"]) (sc := fnScope (topS 27)) (by decide +kernel)).nd
  have ok := ok0 e
  have hu := hu_of hr
  have hu0 := hr.units0
  have hu64 := hr.units
  refine ⟨_, (pss_cons (ps_set (i := 4) nd rfl (by first | exact Or.inl rfl | exact Or.inr rfl) (pe_callTy (ktuple K rfl) rfl F.tuple bt_tuple (pa_cons (pe_op op_rep (pe_lst (pa_cons pe_int pa_nil)) (pv 1)) pa_nil)))
  (pss_cons (ps_set (i := 5) nd rfl (by first | exact Or.inl rfl | exact Or.inr rfl) (pe_op op_cat (pe_lc (own := [("row", 6)]) rfl nd (kpi_tup K rfl (pv 2)) (blkOk_by (N := ["prime", "length", "first", "second", "nothing", "doubled", "row"]) (sc := fnScope (topS 27)) (by decide +kernel)) (fun _ _ _ _ _ => (pg_name (i := 6) nd rfl (Or.inl rfl))) (fun _ _ _ _ _ => pts_nil) (fun _ _ _ _ _ => (pe_op (kop_catA K rfl) (pv 6) (pv 6)))) (pe_lc (own := [("row", 6)]) rfl nd (kpi_tup K rfl (pv 3)) (blkOk_by (N := ["prime", "length", "first", "second", "nothing", "doubled", "row"]) (sc := fnScope (topS 27)) (by decide +kernel)) (fun _ _ _ _ _ => (pg_name (i := 6) nd rfl (Or.inl rfl))) (fun _ _ _ _ _ => pts_nil) (fun _ _ _ _ _ => (pe_op (kop_catA K rfl) (pv 6) (pv 4))))))
  (pss_one (ps_ret (pe_lc (own := [("row", 6)]) rfl nd (kpi_tup K rfl (pe_c (c_echelon F) hr (by decide) rfl (pa_cons (pv 0) (pa_cons (pv 5) pa_nil)))) (blkOk_by (N := ["prime", "length", "first", "second", "nothing", "doubled", "row"]) (sc := fnScope (topS 27)) (by decide +kernel)) (fun _ _ _ _ _ => (pg_name (i := 6) nd rfl (Or.inl rfl))) (fun _ _ _ _ _ => pts_one (pt_cmpR op_ge (pe_c (c_leading F) hr (by decide) rfl (pa_cons (pv 6) pa_nil)) (pv 1) (nomark _))) (fun _ _ _ _ _ => (pe_slice (ksl_tupA K rfl) (pv 6) (po_some (pv 1)) po_none))))))), ?_⟩
  obtain ⟨p, n, ra, rb⟩ := x
  obtain ⟨hp, hn, hra, hrb⟩ := pre
  have hn : n ≤ 12 := hn
  have hp : HM.IsP p := hp
  have hra : HM.Red p n ra := hra
  have hrb : HM.Red p n rb := hrb
  have p0 := hp.pos
  obtain ⟨_, _, rfl, rfl, _, _, rfl, rfl, h3⟩ := ha
  obtain ⟨v1, v2, rfl, h4, h5⟩ := a2 h3
  have la := red_len hp hra
  have lb := red_len hp hrb
  refine gSet ok (Stp.refl ok) (gzeros (n := n) (gv rfl rfl) (by omega)) fun vz L1 H1 S1 s1 rz => ?_
  refine gSet ok S1 (gcatL (R := rVec) (xs := ra.map fun r => r ++ r) (ys := rb.map fun r => r ++ HM.zeros n)
    (glc1 (Z := rVec) (fun r : List Int => r ++ r) (gi_tup (gv rfl (up s1.ll h4))) (by omega) (fun _ => rfl) fun a x' L2 ha' e2 hx => gcatV (gv rfl hx) (gv rfl hx) (by have := (hra.vec a ha').len; omega))
    (glc1 (Z := rVec) (fun r : List Int => r ++ HM.zeros n) (gi_tup (gv rfl (up s1.ll h5))) (by omega) (fun _ => rfl) fun a x' L2 ha' e2 hx => gcatV (gv rfl hx) (gv rfl (up e2 rz)) (by have := (hrb.vec a ha').len; have : (HM.zeros n).length = n := List.length_replicate; omega))
    (by simp only [List.length_map]; omega)) fun vd L2 H2 S2 s2 rd => ?_
  have hrows : ∀ r ∈ (ra.map fun r => r ++ r) ++ rb.map fun r => r ++ HM.zeros n, HM.IsV p (n + n) r := (HM.dbl_rows p0 hra.vec hrb.vec).1
  have red2 : HM.Red p (n + n) (HM.echelon p ((ra.map fun r => r ++ r) ++ rb.map fun r => r ++ HM.zeros n)) := HM.echelon_red hp hrows
  have l2 := red_len hp red2
  have e3 : ((HM.echelon p ((ra.map fun r => r ++ r) ++ rb.map fun r => r ++ HM.zeros n)).filter fun r : List Int => decide ((n : Int) ≤ (HM.leading r : Int))).map (fun r : List Int => r.drop n) = HM.cutRows p n ra rb := by
    unfold HM.cutRows
    simp only [Int.ofNat_le]
  refine gEnd ok S2 k (geqLs (glcF (Z := rVec) (ys := HM.echelon p ((ra.map fun r => r ++ r) ++ rb.map fun r => r ++ HM.zeros n)) (fun r : List Int => decide ((n : Int) ≤ (HM.leading r : Int))) (fun r : List Int => r.drop n) (gi_tup (gcp (R := fun q : Int × Nat × List (List Int) => rTs rVec (HM.echelon q.1 q.2.2)) (p, n + n, (ra.map fun r => r ++ r) ++ rb.map fun r => r ++ HM.zeros n) ⟨hp, by show n + n ≤ 1000; omega, hrows, by simp only [List.length_append, List.length_map]; omega⟩ (gaC (gv rfl rfl) (gaC (gv rfl rd) ga0)))) (by omega) (fun _ => rfl) (fun r x' L3 hr e3 hx => ?_) fun r x' L3 hr e3 hx _ => ?_) e3)
  · exact gtest (gI0 (i := (HM.leading r : Int)) (j := (n : Int)) (gcp (R := fun ns : List Int => rInt (HM.leading ns : Int)) r trivial (gaC (gv rfl hx) ga0)) (gv rfl rfl) rfl)
  · exact gslV (gv rfl hx) (go1 (gv rfl rfl)) go0
def spAlike (K : PySem.W.Frag) : Sp := spR (fun q : Spc × Spc => aAnd (q.1.p = q.2.p ∧ q.1.n = q.2.n) (aCons (rSp K q.1) (aCons (rSp K q.2) aNil))) (fun _ => rV .non)
theorem c_check_alike (F : Cs K mg) : Cal P w K mg base 1 "check_alike" (spAlike K) [] := by
  refine calG (N := ["one", "other"]) (ps := ["one", "other"]) F.d_check_alike (fun _ _ _ _ _ _ us hl => match us, hl with | [_, _], _ => rfl) (by decide +kernel) (len1 fun _ _ _ h => lC h.2 (fun _ h => lC h (fun _ => l0))) ?_
  rintro f cdv A outer s H vs Q E hr ⟨x, L, e, ⟨pre, ha⟩, k⟩
  have nd := (fnScope_by (N := ["one", "other"]) (P := ["one", "other"]) (sc := fnScope (topS 29)) (by decide +kernel)).nd
  have ok := ok0 e
  have hu := hu_of hr
  have hu0 := hr.units0
  have hu64 := hr.units
  refine ⟨_, (pss_one (ps_if (PW.pt (pw_or (pt_cmpR op_ne (kfld K rfl (pv 0) rfl) (kfld K rfl (pv 1) rfl) (nomark _)) (pw_or1 (pt_cmpR op_ne (kfld K rfl (pv 0) rfl) (kfld K rfl (pv 1) rfl) (nomark _))))) pss_never pss_nil)), ?_⟩
  obtain ⟨a, b⟩ := x
  obtain ⟨hp, hn⟩ := pre
  have hp : a.p = b.p := hp
  have hn : a.n = b.n := hn
  obtain ⟨v1, v2, rfl, h1, h2⟩ := a2 ha
  refine gNot1 ok (Stp.refl ok) (b := false) (geqT (gor (a := false) (gtest (gne (gprime F (gv rfl h1)) (gprime F (gv rfl h2)) rfl (by rw [hp]; simp))) fun _ => gtest (gne (b := false) (glength F (gv rfl h1)) (glength F (gv rfl h2)) rfl (by rw [hn]; simp))) rfl) rfl fun L2 H2 S2 s2 => k _ L2 H2 S2 rfl
def spInitS (K : PySem.W.Frag) : Sp := spN (cA K "Space") (fun q : Int × Nat × List (List Int) => aAnd (HM.IsP q.1 ∧ q.2.1 ≤ 12 ∧ (∀ r ∈ q.2.2, r.length = q.2.1) ∧ q.2.2.length ≤ 10000) (aCons (rInt q.1) (aCons (rInt q.2.1) (aCons (rVs K q.2.2) aNil)))) (fun q => rSp K ⟨q.1, q.2.1, HM.mkRows q.1 q.2.2⟩)
theorem n_Space_init (F : Cs K mg) {f : Addr} {fd : FuncData} {ds : List Value} {dvs dv : List V} (G : FunD K "__init__" "Space.__init__" (fnArgs (metS 31 0)) (fnBody (metS 31 0)) (fnScope (metS 31 0)) dv [] f fd) (b : Binds K fd ["self", "prime", "length", "vectors"] ds) (d : Vals dvs ds) : FnB P w K mg base 5 f (spInitS K) dvs := by
  refine fnM (N := ["self", "prime", "length", "vectors", "vector", "item"]) (ps := ["self", "prime", "length", "vectors"]) G b d (by decide +kernel) (lenN fun _ _ _ h => lC h.2 (fun _ h => lC h (fun _ h => lC h (fun _ => l0)))) ?_
  rintro cdv A outer s H vs Q E hr ⟨x, L, H1, ob, dx, ws, rfl, nx, ndx, ne, rfl, e, ⟨pre, ha⟩, k⟩
  have nd := (fnScope_by (N := ["self", "prime", "length", "vectors", "vector", "item"]) (P := ["self", "prime", "length", "vectors"]) (sc := fnScope (metS 31 0)) (by decide +kernel)).nd
  have ok := ok0 e
  have hu := hu_of hr
  have hu0 := hr.units0
  have hu64 := hr.units
  refine ⟨_, (pss_cons (ps_expr (pe_c (c_check_frame F.toFs) hr (by decide) rfl (pa_cons (pv 1) (pa_cons (pv 2) pa_nil))))
  (pss_cons (ps_for PassesOwn.never rfl (pi_or (kpi_list K rfl (pv 3)) (kpi_tup K rfl (pv 3))) (pg_name (i := 4) nd rfl (by first | exact Or.inl rfl | exact Or.inr rfl)) (pss_one (ps_if (pt_not (pt_val (pe_c (c_is_vector F.toFs) hr (by decide) rfl (pa_cons (pv 4) (pa_cons (pv 2) pa_nil))))) pss_never pss_nil)))
  (pss_cons (ps_fld (pv 0) (pv 1) rfl)
  (pss_cons (ps_fld (pv 0) (pv 2) rfl)
  (pss_one (ps_fld (pv 0) (pe_c (c_echelon F.toFs) hr (by decide) rfl (pa_cons (pv 1) (pa_cons (pe_lc (own := [("vector", 4)]) rfl nd (pi_or (kpi_list K rfl (pv 3)) (kpi_tup K rfl (pv 3))) (blkOk_by (N := ["self", "prime", "length", "vectors", "vector", "item"]) (sc := fnScope (metS 31 0)) (by decide +kernel)) (fun _ _ _ _ _ => (pg_name (i := 4) nd rfl (Or.inl rfl))) (fun _ _ _ _ _ => pts_nil) (fun _ _ _ _ _ => (pe_callTy (ktuple K rfl) rfl F.tuple bt_tuple (pa_cons (pe_lc (own := [("item", 5)]) rfl nd (kpi_tup K rfl (pv 4)) (blkOk_by (N := ["self", "prime", "length", "vectors", "vector", "item"]) (sc := ⟨.function, [(".0", .local), ("vector", .local), ("tuple", .globalImplicit), ("prime", .cell)], false, false, []⟩) (by decide +kernel)) (fun _ _ _ _ _ => (pg_name (i := 5) nd rfl (Or.inl rfl))) (fun _ _ _ _ _ => pts_nil) (fun _ _ _ _ _ => (pe_op op_mod (pv 5) (pv 1)))) pa_nil)))) pa_nil))) rfl)))))), ?_⟩
  obtain ⟨p, n, vs'⟩ := x
  obtain ⟨hp, hn, hv, hl⟩ := pre
  have hp : HM.IsP p := hp
  have hn : n ≤ 12 := hn
  have hv : ∀ r ∈ vs', r.length = n := hv
  have hl : vs'.length ≤ 10000 := hl
  have p0 := hp.pos
  obtain ⟨_, _, rfl, rfl, _, _, rfl, rfl, h3⟩ := ha
  obtain ⟨v1, rfl, h4⟩ := a1 h3
  have h4 : rVs K vs' v1 L := h4
  have Sa : Stp T0 L H1 L (upd (upd H1 dx (.own ob)) ob (.ins (cA K "Space") dx [])) := (Stp.refl ok).trans (Stp.grow ok ((Evl.Ex.new ndx).trans (Evl.Ex.new (by rw [upd_ne (Ne.symm ne)]; exact nx))))
  have pv0 : Prv H1 L (upd (upd H1 dx (.own ob)) ob (.ins (cA K "Space") dx [])) ob (.ins (cA K "Space") dx []) := ⟨nx, none_of e nx, upd_same⟩
  refine gDrop ok Sa (gcp (R := fun _ : Int × Nat => rV .non) (p, n) ⟨hp, hn⟩ (gaC (gv rfl rfl) (gaC (gv rfl rfl) ga0))) fun _ L2 H2 S2 s2 _ => ?_
  have pv2 := pv0.step ok s2
  refine gForS ok S2 (gi_vs (xs := vs') rfl (up s2.ll h4)) (fun i σ' La Ha => ∃ u, σ' = [some (.ref ob), some (.int p), some (.int (n : Int)), some v1, u, none] ∧ Prv H1 La Ha ob (.ins (cA K "Space") dx [])) ?_ ?_ ?_
  · intro L3 H3 _ s3
    exact ⟨_, rfl, pv2.step ok s3⟩
  · rintro Lm em i a x' σ' La Ha Lb Hb ha' Sa ea ⟨u, rfl, pva⟩ sb hx
    have hla : a.length = n := hv a (List.mem_of_getElem? ha')
    refine gNot1 ok (Sa.trans sb) (b := false) (gnot (gB (gcp (R := fun _ : List Int => rV (.bl true)) a (by show a.length ≤ 1000; omega) (gaC (gv rfl hx) (gaC (gv rfl (by rw [hla])) ga0))))) rfl fun L3 H3 S3 s3 => ⟨L3, S3, ea.trans (sb.ll.trans s3.ll), _, rfl, (pva.step ok sb).step ok s3⟩
  · rintro σ' La Ha Sa ea ⟨u, rfl, pva⟩
    refine gFld F.Space.cls (F.na ("Space", "prime") (by decide)) ok Sa rfl pva (by decide) (gv (R := rInt p) rfl rfl) fun w1 L3 H3 S3 e3 r3 pv3 => ?_
    refine gFld F.Space.cls (F.na ("Space", "length") (by decide)) ok S3 rfl pv3 (by show 1 < 1000; decide) (gv (R := rInt (n : Int)) rfl rfl) fun w2 L4 H4 S4 e4 r4 pv4 => ?_
    have h4' := up (s2.ll.trans (ea.trans (e3.trans e4))) h4
    refine gFld1 F.Space.cls (F.na ("Space", "rows") (by decide)) ok S4 rfl pv4 (by show 2 < 1000; decide) (gcp (R := fun q : Int × Nat × List (List Int) => rTs rVec (HM.echelon q.1 q.2.2)) (p, n, vs'.map (HM.norm p)) ⟨hp, by show n ≤ 1000; omega, HM.norm_mem p0 hv, by simp only [List.length_map]; omega⟩ (gaC (gv rfl rfl) (gaC (glc1 (Z := rVec) (HM.norm p) (gi_vs (xs := vs') rfl h4') (by omega) (fun _ => rfl) fun a x' L5 ha' e5 hx => ?_) ga0))) fun w3 L5 H5 S5 e5 r5 pv5 => ?_
    · have hla : a.length = n := hv a ha'
      refine gvec (gtupof (glc1 (Z := rInt) (fun q : Int => q % p) (gi_tup (gv rfl (sqV hx))) (by omega) (fun _ => rfl) fun b xb L6 hb e6 hxb => gI (i := b) (j := p) (gv rfl hxb) (gv rfl rfl) p0 rfl))
    · obtain rfl : w1 = .int p := r3
      obtain rfl : w2 = .int (n : Int) := r4
      exact k _ _ (S5.pub pv5) ⟨ob, dx, w3, rfl, upd_same, up pv5.ex r5⟩
theorem i_Space_3 (F : Cs K mg) : FnB P w K mg base 5 (mA K "Space" "__init__") (spInitS K) [] := by
  obtain ⟨e0, G, _⟩ := F.iSpace
  obtain ⟨fd, FD⟩ := G.fn
  obtain ⟨ds, d, b⟩ := FD.binds1 (ps := ["self", "prime", "length", "vectors"]) 4 1 (by simp) rfl (fun T kV doc pm an cdv ct us its hu hi => match us, its, hu, hi with | [_, _, _, _], [_], _, _ => ⟨_, rfl, rfl⟩)
  obtain rfl := vals_nil d
  exact n_Space_init F FD b .nil
theorem i_Space_2 (F : Cs K mg) : ∃ e0, FnB P w K mg base 5 (mA K "Space" "__init__") (spInitS K) [.ref e0] ∧ ∀ H, SqT K H e0 [] := by
  obtain ⟨e0, G, h⟩ := F.iSpace
  obtain ⟨fd, FD⟩ := G.fn
  obtain ⟨ds, d, b⟩ := FD.binds1 (ps := ["self", "prime", "length", "vectors"]) 3 0 (by simp) rfl (fun T kV doc pm an cdv ct us its hu hi => match us, its, hu, hi with | [_, _, _], [_], _, _ => ⟨_, rfl, rfl⟩)
  exact ⟨e0, n_Space_init F FD b d, h⟩
end
end HW
/-! part W4 -/
set_option maxHeartbeats 4000000
/-! What spaces do. -/
namespace HW
open PySem PySem.Spec PyProof.Rows L2 HR HV C8
open Evl (Ex)
section
variable {K : PySem.W.Frag} {mg : Str → Option Value} {T : Tap} {L L0 H0 H : Hp} {σ : L2.St} {ta tb tc te : TE} {R Ra Rb Rc : Rep} {A A' : RepA} {x y v : V} {s s' : Spc} {ι : Type}
theorem gcm {C : Addr} {pre : ι → Prop} {B : ι → RepA} [g : ∀ i, Gr (B i)] {R : ι → Rep} {E : XK} {t : TA} (i : ι) (hp : pre i) (ho : Go T L (ta σ) (rV (.ref C))) (ha : Go T L (t σ) (B i)) : Go T L (ClX.tCMeth C (spR (fun i => aAnd (pre i) (aCons (rV (.ref C)) (B i))) R) E ta t σ) (R i) := fun H ok Q q =>
  ho H ok _ fun x L1 H1 s1 r1 => by
    obtain rfl : x = .ref C := r1
    exact ⟨rfl, Go.mono s1.ll ha H1 (s1.ok ok) _ fun vs L2 H2 s2 r2 => gsp (T := T) (A := fun i => aAnd (pre i) (aCons (rV (.ref C)) (B i))) (E := E) i ⟨hp, _, vs, rfl, rfl, r2⟩ H2 (s2.ok (s1.ok ok)) Q fun v L3 H3 s3 r3 => q v L3 H3 ((s1.trans s2).trans s3) r3⟩
theorem gmkS {C : Addr} {pre : ι → Prop} {B : ι → RepA} {R : ι → Rep} {E : XK} {ta : TA} (i : ι) (hp : pre i) (ha : Go T L (ta σ) (B i)) : Go T L (tMake C (spN C (fun i => aAnd (pre i) (B i)) R) [] E ta σ) (R i) :=
  gmake i ha fun vs L' e r => ⟨hp, by rw [List.append_nil]; exact r⟩
theorem gown2 {C : Addr} {pre : ι → Prop} {Rl Rr : ι → Rep} {R : ι → Rep} {E : XK} (i : ι) [ga : Gr (Rl i)] [gb : Gr (Rr i)] (hp : pre i) (ha : Go T L (ta σ) (Rl i)) (hb : Go T L (tb σ) (Rr i)) (h1 : ∀ x L', Rl i x L' → ∃ a dx fs, x = .ref a ∧ L' a = some (.ins C dx fs)) (h2 : ∀ x L', Rr i x L' → ∃ a dx fs, x = .ref a ∧ L' a = some (.ins C dx fs)) :
    Go T L (tOp (rOwn2 C (spR (fun i => aAnd (pre i) (aCons (Rl i) (aCons (Rr i) aNil))) R) E) ta tb σ) (R i) := gown i ha hb h1 h2 fun x y L' e rx ry => ⟨hp, x, [y], rfl, rx, y, [], rfl, ry, rfl⟩
theorem glenS {E : XK} (hs : s.rows.length ≤ 1000) (ha : Go T L (ta σ) (rSp K s)) : Go T L (tCB (rOwnLen (cA K "Space") (spR (fun s : Spc => aAnd True (aCons (rSp K s) aNil)) (fun s => rInt (s.rows.length : Int))) E) (tCons ta tNil) σ) (rInt (s.rows.length : Int)) :=
  gcb (gaC ha ga0) fun vs L' e r => by
    obtain ⟨v, rfl, h⟩ := a1 r
    obtain ⟨a, dx, fs, h1, h2⟩ := rSp_ins h
    subst h1
    exact fun H ok Q q => ⟨a, dx, fs, rfl, ok.1 a _ h2, gsp (T := T) (A := fun s : Spc => aAnd True (aCons (rSp K s) aNil)) (R := fun s : Spc => rInt (s.rows.length : Int)) (E := E) s ⟨trivial, _, [], rfl, h, rfl⟩ H ok _ fun v L2 H2 s2 r2 => ⟨(s.rows.length : Int), r2, by omega, by omega, q _ L2 H2 s2 rfl⟩⟩
end
section
variable {P : Program} {w : World} {K : PySem.W.Frag} {mg : Str → Option Value} {base : Heap}
theorem cut_len {p : Int} {n : Nat} {a b : List HM.Vec} (hp : HM.IsP p) (hn : n ≤ 12) (ha : HM.Red p n a) (hb : HM.Red p n b) : (HM.cutRows p n a b).length ≤ 10000 := by
  have hrows := (HM.dbl_rows hp.pos ha.vec hb.vec).1
  have l2 := red_len hp (HM.echelon_red hp hrows)
  unfold HM.cutRows
  rw [List.length_map]
  exact Nat.le_trans (List.length_filter_le _ _) (by omega)
def spLenS (K : PySem.W.Frag) : Sp := spR (fun s : Spc => aAnd True (aCons (rSp K s) aNil)) (fun s => rInt (s.rows.length : Int))
theorem n_Space_len (F : Cs K mg) : FnB P w K mg base 1 (mA K "Space" "__len__") (spLenS K) [] := by
  refine fnG (N := ["self"]) (ps := ["self"]) F.sLen (fun _ _ _ _ _ _ us hl => match us, hl with | [_], _ => rfl) (by decide +kernel) (len1 fun _ _ _ h => lC h.2 (fun _ => l0)) ?_
  rintro f cdv A outer s H vs Q E hr ⟨x, L, e, ⟨pre, ha⟩, k⟩
  have nd := (fnScope_by (N := ["self"]) (P := ["self"]) (sc := fnScope (metS 31 4)) (by decide +kernel)).nd
  have ok := ok0 e
  have hu := hu_of hr
  have hu0 := hr.units0
  have hu64 := hr.units
  refine ⟨_, (pss_one (ps_ret (pe_callB (klen K rfl) rfl F.len bt_len (pa_cons (kfld K rfl (pv 0) rfl) pa_nil)))), ?_⟩
  obtain ⟨v, rfl, h⟩ := a1 ha
  exact gEnd ok (Stp.refl ok) k (glen (sqOfT (R := rV v) (grows F (gv rfl h))) fun vs L' h => Pd.length h)
def spEqS (K : PySem.W.Frag) : Sp := spR (fun s : Spc => aAnd True (aCons (rSp K s) (aCons (rSp K s) aNil))) (fun _ => rV (.bl true))
theorem n_Space_eq (F : Cs K mg) : FnB P w K mg base 1 (mA K "Space" "__eq__") (spEqS K) [] := by
  refine fnG (N := ["self", "other"]) (ps := ["self", "other"]) F.sEq (fun _ _ _ _ _ _ us hl => match us, hl with | [_, _], _ => rfl) (by decide +kernel) (len1 fun _ _ _ h => lC h.2 (fun _ h => lC h (fun _ => l0))) ?_
  rintro f cdv A outer s H vs Q E hr ⟨x, L, e, ⟨pre, ha⟩, k⟩
  have nd := (fnScope_by (N := ["self", "other"]) (P := ["self", "other"]) (sc := fnScope (metS 31 5)) (by decide +kernel)).nd
  have ok := ok0 e
  have hu := hu_of hr
  have hu0 := hr.units0
  have hu64 := hr.units
  refine ⟨_, (pss_cons (ps_if (pt_not (pt_val (pe_callB (kisi K rfl) rfl F.isinstance bt_isinstance (pa_cons (pv 1) (pa_cons (pe_gc (v := .ref (cA K "Space")) rfl ⟨_, F.Space.mg, rfl⟩) pa_nil))))) (pss_one (ps_ret pe_bl)) pss_nil)
  (pss_one (ps_ret (pe_and (pe_cmpR op_eq (kfld K rfl (pv 0) rfl) (kfld K rfl (pv 1) rfl) (nomark _)) (pe_and (pe_cmpR op_eq (kfld K rfl (pv 0) rfl) (kfld K rfl (pv 1) rfl) (nomark _)) (pe_one (pe_cmpR (kop_eqD K rfl hu64) (kfld K rfl (pv 0) rfl) (kfld K rfl (pv 1) rfl) (nomark _)))))))), ?_⟩
  obtain ⟨v1, v2, rfl, h1, h2⟩ := a2 ha
  refine gNot ok (Stp.refl ok) (b := false) (gnot (b := true) (gB (gisiS F (gv rfl h2) (gc rfl)))) rfl fun L1 H1 S1 s1 => ?_
  refine gEnd ok S1 k (geqB (gandV (a := true) (geq (gprime F (gv rfl (up s1.ll h1))) (gprime F (gv rfl (up s1.ll h2))) rfl (by simp)) fun _ => gandV (a := true) (geq (glength F (gv rfl (up s1.ll h1))) (glength F (gv rfl (up s1.ll h2))) rfl (by simp)) fun _ => geqRows (grows F (gv rfl (up s1.ll h1))) (grows F (gv rfl (up s1.ll h2)))) rfl)
def spLeS (K : PySem.W.Frag) : Sp := spR (fun q : Spc × Spc => aAnd (q.1.ok ∧ q.2.ok ∧ q.1.p = q.2.p ∧ q.1.n = q.2.n ∧ HM.leRows q.1.p q.1.n q.1.rows q.2.rows = true) (aCons (rSp K q.1) (aCons (rSp K q.2) aNil))) (fun _ => rV (.bl true))
theorem n_Space_le (F : Cs K mg) : FnB P w K mg base 3 (mA K "Space" "__le__") (spLeS K) [] := by
  refine fnG (N := ["self", "other", "row"]) (ps := ["self", "other"]) F.sLe (fun _ _ _ _ _ _ us hl => match us, hl with | [_, _], _ => rfl) (by decide +kernel) (len1 fun _ _ _ h => lC h.2 (fun _ h => lC h (fun _ => l0))) ?_
  rintro f cdv A outer s H vs Q E hr ⟨x, L, e, ⟨pre, ha⟩, k⟩
  have nd := (fnScope_by (N := ["self", "other", "row"]) (P := ["self", "other"]) (sc := fnScope (metS 31 6)) (by decide +kernel)).nd
  have ok := ok0 e
  have hu := hu_of hr
  have hu0 := hr.units0
  have hu64 := hr.units
  refine ⟨_, (pss_cons (ps_expr (pe_c (c_check_alike F) hr (by decide) rfl (pa_cons (pv 0) (pa_cons (pv 1) pa_nil))))
  (pss_one (ps_ret (pe_callB (kall K rfl rfl) rfl F.all bt_all (pa_cons (pe_lc (own := [("row", 2)]) rfl nd (kpi_tup K rfl (kfld K rfl (pv 0) rfl)) (blkOk_by (N := ["self", "other", "row"]) (sc := fnScope (metS 31 6)) (by decide +kernel)) (fun _ _ _ _ _ => (pg_name (i := 2) nd rfl (Or.inl rfl))) (fun _ _ _ _ _ => pts_nil) (fun _ _ _ _ _ => (pe_cmpR op_eq (pe_c (c_leading F.toFs) hr (by decide) rfl (pa_cons (pe_c (c_reduced F.toFs) hr (by decide) rfl (pa_cons (kfld K rfl (pv 0) rfl) (pa_cons (kfld K rfl (pv 1) rfl) (pa_cons (pv 2) pa_nil)))) pa_nil)) (kfld K rfl (pv 0) rfl) (nomark _)))) pa_nil))))), ?_⟩
  obtain ⟨v1, v2, rfl, h1, h2⟩ := a2 ha
  obtain ⟨⟨p, n, ra⟩, ⟨p', n', rb⟩⟩ := x
  obtain ⟨oa, ob, e1, e2, hle⟩ := pre
  obtain rfl : p = p' := e1
  obtain rfl : n = n' := e2
  have hle : HM.leRows p n ra rb = true := hle
  obtain ⟨hp, hn, hra⟩ := oa
  obtain ⟨_, _, hrb⟩ := ob
  have hp : HM.IsP p := hp
  have hn : n ≤ 12 := hn
  have hra : HM.Red p n ra := hra
  have hrb : HM.Red p n rb := hrb
  have la := red_len hp hra
  refine gDrop ok (Stp.refl ok) (gcp (R := fun _ : Spc × Spc => rV .non) (⟨p, n, ra⟩, ⟨p, n, rb⟩) ⟨rfl, rfl⟩ (gaC (gv rfl h1) (gaC (gv rfl h2) ga0))) fun _ L1 H1 S1 s1 _ => ?_
  refine gEnd ok S1 k (geqB (gall (bs := ra.map fun r => decide (V.int (HM.leading (HM.reduce p rb r) : Int) = V.int (n : Int))) (glc1 (Z := fun b => rV (.bl b)) _ (gi_tup (grows F (gv rfl (up s1.ll h1)))) (by show ra.length ≤ 40000; omega) (fun _ => rfl) fun r xr L2 hr' e2 hx => geq (x := .int (HM.leading (HM.reduce p rb r) : Int)) (y := .int (n : Int)) (gcp (R := fun ns : List Int => rInt (HM.leading ns : Int)) (HM.reduce p rb r) trivial (gaC
    (gcp (R := fun q : Int × Nat × List (List Int) × List Int => rVec (HM.reduce q.1 q.2.2.1 q.2.2.2)) (p, n, rb, r) ⟨hp, by show n ≤ 1000; omega, fun q hq => ⟨hrb.vec q hq, (hrb.lead q hq).1⟩, hra.vec r hr'⟩ (gaC (gprime F (gv rfl (up (s1.ll.trans e2) h1))) (gaC (sqOfT (R := rV v1) (grows F (gv rfl (up (s1.ll.trans e2) h2)))) (gaC (gv rfl hx) ga0)))) ga0))
    (glength F (gv rfl (up (s1.ll.trans e2) h1))) rfl rfl)) ?_)
  rw [List.all_map, List.all_eq_true]
  intro r hr'
  have h0 := of_decide_eq_true (List.all_eq_true.mp hle r hr')
  simp [h0]
def spAddS (K : PySem.W.Frag) : Sp := spR (fun q : Spc × Spc => aAnd (q.1.ok ∧ q.2.ok ∧ q.1.p = q.2.p ∧ q.1.n = q.2.n) (aCons (rSp K q.1) (aCons (rSp K q.2) aNil))) (fun q => rSp K ⟨q.1.p, q.1.n, HM.addRows q.1.p q.1.rows q.2.rows⟩)
theorem n_Space_add (F : Cs K mg) : FnB P w K mg base 7 (mA K "Space" "__add__") (spAddS K) [] := by
  refine fnG (N := ["self", "other"]) (ps := ["self", "other"]) F.sAdd (fun _ _ _ _ _ _ us hl => match us, hl with | [_, _], _ => rfl) (by decide +kernel) (len1 fun _ _ _ h => lC h.2 (fun _ h => lC h (fun _ => l0))) ?_
  rintro f cdv A outer s H vs Q E hr ⟨x, L, e, ⟨pre, ha⟩, k⟩
  have nd := (fnScope_by (N := ["self", "other"]) (P := ["self", "other"]) (sc := fnScope (metS 31 7)) (by decide +kernel)).nd
  have ok := ok0 e
  have hu := hu_of hr
  have hu0 := hr.units0
  have hu64 := hr.units
  refine ⟨_, (pss_cons (ps_expr (pe_c (c_check_alike F) hr (by decide) rfl (pa_cons (pv 0) (pa_cons (pv 1) pa_nil))))
  (pss_one (ps_ret (pe_mkB K rfl F.Space.mkr F.Space.mg (i_Space_3 F) hr (by decide) rfl (pa_cons (kfld K rfl (pv 0) rfl) (pa_cons (kfld K rfl (pv 0) rfl) (pa_cons (pe_lst (kpa_star K rfl (kfld K rfl (pv 0) rfl) (kpa_star K rfl (kfld K rfl (pv 1) rfl) pa_nil))) pa_nil))))))), ?_⟩
  obtain ⟨v1, v2, rfl, h1, h2⟩ := a2 ha
  obtain ⟨⟨p, n, ra⟩, ⟨p', n', rb⟩⟩ := x
  obtain ⟨oa, ob, e1, e2⟩ := pre
  obtain rfl : p = p' := e1
  obtain rfl : n = n' := e2
  obtain ⟨hp, hn, hra⟩ := oa
  obtain ⟨_, _, hrb⟩ := ob
  have hp : HM.IsP p := hp
  have hn : n ≤ 12 := hn
  have hra : HM.Red p n ra := hra
  have hrb : HM.Red p n rb := hrb
  have la := red_len hp hra
  have lb := red_len hp hrb
  refine gDrop ok (Stp.refl ok) (gcp (R := fun _ : Spc × Spc => rV .non) (⟨p, n, ra⟩, ⟨p, n, rb⟩) ⟨rfl, rfl⟩ (gaC (gv rfl h1) (gaC (gv rfl h2) ga0))) fun _ L1 H1 S1 s1 _ => ?_
  refine gEnd ok S1 k (gmkS (R := fun q : Int × Nat × List (List Int) => rSp K ⟨q.1, q.2.1, HM.mkRows q.1 q.2.2⟩) (p, n, ra ++ rb) ⟨hp, hn, fun r hr => ?_, by simp only [List.length_append]; omega⟩ (gaC (gprime F (gv rfl (up s1.ll h1))) (gaC (glength F (gv rfl (up s1.ll h1))) (gaC ((glst (gstarL (sqOfT (R := rV v1) (grows F (gv rfl (up s1.ll h1)))) (gstarL (sqOfT (R := rV v1) (grows F (gv rfl (up s1.ll h2)))) ga0L)) (pd_len (m := 100000) (by simp only [List.length_append, List.length_nil]; omega))).imp fun x L' e h => Or.inl (by rw [List.append_nil] at h; exact sqL h)) ga0))))
  rcases List.mem_append.mp hr with h | h
  · exact (hra.vec r h).len
  · exact (hrb.vec r h).len
def spAndS (K : PySem.W.Frag) : Sp := spR (fun q : Spc × Spc => aAnd (q.1.ok ∧ q.2.ok ∧ q.1.p = q.2.p ∧ q.1.n = q.2.n) (aCons (rSp K q.1) (aCons (rSp K q.2) aNil))) (fun q => rSp K ⟨q.1.p, q.1.n, HM.meetRows q.1.p q.1.n q.1.rows q.2.rows⟩)
theorem n_Space_and (F : Cs K mg) : FnB P w K mg base 7 (mA K "Space" "__and__") (spAndS K) [] := by
  refine fnG (N := ["self", "other"]) (ps := ["self", "other"]) F.sAnd (fun _ _ _ _ _ _ us hl => match us, hl with | [_, _], _ => rfl) (by decide +kernel) (len1 fun _ _ _ h => lC h.2 (fun _ h => lC h (fun _ => l0))) ?_
  rintro f cdv A outer s H vs Q E hr ⟨x, L, e, ⟨pre, ha⟩, k⟩
  have nd := (fnScope_by (N := ["self", "other"]) (P := ["self", "other"]) (sc := fnScope (metS 31 8)) (by decide +kernel)).nd
  have ok := ok0 e
  have hu := hu_of hr
  have hu0 := hr.units0
  have hu64 := hr.units
  refine ⟨_, (pss_cons (ps_expr (pe_c (c_check_alike F) hr (by decide) rfl (pa_cons (pv 0) (pa_cons (pv 1) pa_nil))))
  (pss_one (ps_ret (pe_mkB K rfl F.Space.mkr F.Space.mg (i_Space_3 F) hr (by decide) rfl (pa_cons (kfld K rfl (pv 0) rfl) (pa_cons (kfld K rfl (pv 0) rfl) (pa_cons (pe_c (c_cut_rows F.toFs) hr (by decide) rfl (pa_cons (kfld K rfl (pv 0) rfl) (pa_cons (kfld K rfl (pv 0) rfl) (pa_cons (kfld K rfl (pv 0) rfl) (pa_cons (kfld K rfl (pv 1) rfl) pa_nil))))) pa_nil))))))), ?_⟩
  obtain ⟨v1, v2, rfl, h1, h2⟩ := a2 ha
  obtain ⟨⟨p, n, ra⟩, ⟨p', n', rb⟩⟩ := x
  obtain ⟨oa, ob, e1, e2⟩ := pre
  obtain rfl : p = p' := e1
  obtain rfl : n = n' := e2
  obtain ⟨hp, hn, hra⟩ := oa
  obtain ⟨_, _, hrb⟩ := ob
  have hp : HM.IsP p := hp
  have hn : n ≤ 12 := hn
  have hra : HM.Red p n ra := hra
  have hrb : HM.Red p n rb := hrb
  have la := red_len hp hra
  have lb := red_len hp hrb
  refine gDrop ok (Stp.refl ok) (gcp (R := fun _ : Spc × Spc => rV .non) (⟨p, n, ra⟩, ⟨p, n, rb⟩) ⟨rfl, rfl⟩ (gaC (gv rfl h1) (gaC (gv rfl h2) ga0))) fun _ L1 H1 S1 s1 _ => ?_
  refine gEnd ok S1 k (gmkS (R := fun q : Int × Nat × List (List Int) => rSp K ⟨q.1, q.2.1, HM.mkRows q.1 q.2.2⟩) (p, n, HM.cutRows p n ra rb) ⟨hp, hn, fun r hr => (HM.cut_vec hp hra.vec hrb.vec r hr).len, cut_len hp hn hra hrb⟩ (gaC (gprime F (gv rfl (up s1.ll h1))) (gaC (glength F (gv rfl (up s1.ll h1))) (gaC
    ((gcp (R := fun q : Int × Nat × List (List Int) × List (List Int) => rLs rVec (HM.cutRows q.1 q.2.1 q.2.2.1 q.2.2.2)) (p, n, ra, rb) ⟨hp, hn, hra, hrb⟩ (gaC (gprime F (gv rfl (up s1.ll h1))) (gaC (glength F (gv rfl (up s1.ll h1))) (gaC (grows F (gv rfl (up s1.ll h1))) (gaC (grows F (gv rfl (up s1.ll h2))) ga0))))).imp fun x L' e h => Or.inl (sqL h)) ga0))))
def spNothing (K : PySem.W.Frag) : Sp := spR (fun q : Int × Nat => aAnd (HM.IsP q.1 ∧ q.2 ≤ 12) (aCons (rV (.ref (cA K "Space"))) (aCons (rInt q.1) (aCons (rInt q.2) aNil)))) (fun q => rSp K ⟨q.1, q.2, []⟩)
theorem k_Space_nothing (F : Cs K mg) : CmB P w K mg base 7 "Space" "nothing" (spNothing K) := by
  refine cmG (N := ["cls", "prime", "length"]) (ps := ["cls", "prime", "length"]) F.nothing (fun _ _ _ _ _ _ us hl => match us, hl with | [_, _, _], _ => rfl) (by decide +kernel) (len1 fun _ _ _ h => lC h.2 (fun _ h => lC h (fun _ h => lC h (fun _ => l0)))) ?_
  rintro f cdv A outer s H vs Q E hr ⟨x, L, e, ⟨pre, ha⟩, k⟩
  have nd := (fnScope_by (N := ["cls", "prime", "length"]) (P := ["cls", "prime", "length"]) (sc := fnScope (metS 31 1)) (by decide +kernel)).nd
  have ok := ok0 e
  have hu := hu_of hr
  have hu0 := hr.units0
  have hu64 := hr.units
  obtain ⟨e0, ie, he0⟩ := i_Space_2 (P := P) (w := w) (base := base) F
  refine ⟨_, (pss_one (ps_ret (pe_mkL K rfl (i := 0) F.Space.mkr ie hr (by decide) rfl (by first | exact Or.inl rfl | exact Or.inr (Or.inl rfl)) (pa_cons (pv 1) (pa_cons (pv 2) pa_nil))))), ?_⟩
  obtain ⟨p, n⟩ := x
  obtain ⟨hp, hn⟩ := pre
  obtain ⟨_, _, rfl, rfl, h⟩ := ha
  obtain ⟨_, _, rfl, rfl, rfl⟩ := a2 h
  refine gEnd ok (Stp.refl ok) k (gmakeL (R := fun q : Int × Nat × List (List Int) => rSp K ⟨q.1, q.2.1, HM.mkRows q.1 q.2.2⟩) (p, n, []) rfl (gaC (gv (R := rInt p) rfl rfl) (gaC (gv (R := rInt (n : Int)) rfl rfl) ga0)) fun vs L' e r => ⟨⟨hp, hn, (fun r h => (by cases h)), (by show ([] : List (List Int)).length ≤ 10000; decide)⟩, ?_⟩)
  obtain ⟨_, _, rfl, rfl, rfl⟩ := a2 r
  exact ⟨_, _, rfl, rfl, _, _, rfl, rfl, _, [], rfl, Or.inr ⟨rfl, e0, rfl, he0⟩, rfl⟩
def spWhole (K : PySem.W.Frag) : Sp := spR (fun q : Int × Nat => aAnd (HM.IsP q.1 ∧ q.2 ≤ 12) (aCons (rV (.ref (cA K "Space"))) (aCons (rInt q.1) (aCons (rInt q.2) aNil)))) (fun q => rSp K ⟨q.1, q.2, HM.wholeRows q.1 q.2⟩)
theorem k_Space_whole (F : Cs K mg) : CmB P w K mg base 7 "Space" "whole" (spWhole K) := by
  refine cmG (N := ["cls", "prime", "length", "index"]) (ps := ["cls", "prime", "length"]) F.whole (fun _ _ _ _ _ _ us hl => match us, hl with | [_, _, _], _ => rfl) (by decide +kernel) (len1 fun _ _ _ h => lC h.2 (fun _ h => lC h (fun _ h => lC h (fun _ => l0)))) ?_
  rintro f cdv A outer s H vs Q E hr ⟨x, L, e, ⟨pre, ha⟩, k⟩
  have nd := (fnScope_by (N := ["cls", "prime", "length", "index"]) (P := ["cls", "prime", "length"]) (sc := fnScope (metS 31 2)) (by decide +kernel)).nd
  have ok := ok0 e
  have hu := hu_of hr
  have hu0 := hr.units0
  have hu64 := hr.units
  refine ⟨_, (pss_cons (ps_expr (pe_c (c_check_frame F.toFs) hr (by decide) rfl (pa_cons (pv 1) (pa_cons (pv 2) pa_nil))))
  (pss_one (ps_ret (pe_mkL K rfl (i := 0) F.Space.mkr (i_Space_3 F) hr (by decide) rfl (by first | exact Or.inl rfl | exact Or.inr (Or.inl rfl)) (pa_cons (pv 1) (pa_cons (pv 2) (pa_cons (pe_lc (own := [("index", 3)]) rfl nd (pi_range1 rfl F.range (pa_cons (pv 2) pa_nil)) (blkOk_by (N := ["cls", "prime", "length", "index"]) (sc := fnScope (metS 31 2)) (by decide +kernel)) (fun _ _ _ _ _ => (pg_name (i := 3) nd rfl (Or.inl rfl))) (fun _ _ _ _ _ => pts_nil) (fun _ _ _ _ _ => (pe_c (c_unit F.toFs) hr (by decide) rfl (pa_cons (pv 2) (pa_cons (pv 3) pa_nil))))) pa_nil))))))), ?_⟩
  obtain ⟨p, n⟩ := x
  obtain ⟨hp, hn⟩ := pre
  have hp : HM.IsP p := hp
  have hn : n ≤ 12 := hn
  obtain ⟨_, _, rfl, rfl, h⟩ := ha
  obtain ⟨_, _, rfl, rfl, rfl⟩ := a2 h
  refine gDrop ok (Stp.refl ok) (gcp (R := fun _ : Int × Nat => rV .non) (p, n) ⟨hp, hn⟩ (gaC (gv rfl rfl) (gaC (gv rfl rfl) ga0))) fun _ L1 H1 S1 s1 _ => ?_
  have hu' : (upto 0 (n : Int).toNat).map (fun a : Int => HM.unitV n a.toNat) = HM.units n := by simp [upto, HM.units]
  refine gEnd ok S1 k (gmakeL (P := aCons (rInt p) (aCons (rInt (n : Int)) (aCons (rLs rVec (HM.units n)) aNil))) (R := fun q : Int × Nat × List (List Int) => rSp K ⟨q.1, q.2.1, HM.mkRows q.1 q.2.2⟩) (p, n, HM.units n) rfl (gaC (gv (R := rInt p) rfl rfl) (gaC (gv (R := rInt (n : Int)) rfl rfl) (gaC (geqLs (glc1 (Z := rVec) (fun a : Int => HM.unitV n a.toNat) (gi_rng1 (n := (n : Int)) (gaC (gv rfl rfl) ga0) (by omega)) (by rw [upto_len]; omega) (fun _ => rfl) fun a xa L2 ha' e2 hx => ?_) hu') ga0))) fun vs L' e r => ⟨⟨hp, hn, fun r hr => (HM.units_isV hp r hr).len, (by simp only [HM.units, List.length_map, List.length_range]; omega)⟩, ?_⟩)
  · obtain ⟨i, hi, rfl⟩ := List.mem_map.mp ha'
    have e0 : (0 : Int) + (i : Int) = ((0 + (i : Int)).toNat : Nat) := by omega
    have hx' : rInt (((0 + (i : Int)).toNat : Nat) : Int) xa L2 := by rw [← e0]; exact hx
    have hn' : n ≤ 1000 := by omega
    have g0 : Go T0 L2 ((tCall spUnit [] C8.E0 (tCons (tVar 2) (tCons (tVar 3) tNil))) [some (V.ref (cA K "Space")), some (V.int p), some (V.int (n : Int)), some xa]) ((fun q : Nat × Nat => rVec (HM.unitV q.1 q.2)) (n, (0 + (i : Int)).toNat)) := gcp (n, (0 + (i : Int)).toNat) hn' (gaC (gv rfl rfl) (gaC (gv rfl hx') ga0))
    exact g0
  · obtain ⟨_, _, rfl, rfl, _, _, rfl, rfl, h3⟩ := r
    obtain ⟨v3, rfl, h4⟩ := a1 h3
    exact ⟨_, _, rfl, rfl, _, _, rfl, rfl, _, [], rfl, Or.inl (sqL h4), rfl⟩
end
end HW
/-! part W5 -/
set_option maxHeartbeats 4000000
/-! Extensions, chains. -/
namespace HW
open PySem PySem.Spec PyProof.Rows L2 HR HV C8
open Evl (Ex)
structure Chs where
  p : Int
  n : Nat
  a : List (List (List Int))
  b : List (List (List Int))
def Chs.sp (c : Chs) (r : List (List Int)) : Spc := ⟨c.p, c.n, r⟩
/-- each within the next -/
def upw (p : Int) (n : Nat) (xs : List (List (List Int))) : Prop := ∀ i a b, xs[i]? = some a → xs[i + 1]? = some b → HM.leRows p n a b = true
structure Chs.ok (c : Chs) : Prop where
  hp : HM.IsP c.p
  hn : c.n ≤ 12
  ra : ∀ r ∈ c.a, HM.Red c.p c.n r
  rb : ∀ r ∈ c.b, HM.Red c.p c.n r
  la : 0 < c.a.length ∧ c.a.length ≤ 20
  lb : c.b.length ≤ 20
  ua : upw c.p c.n c.a
  ub : upw c.p c.n c.b
def rCh (K : PySem.W.Frag) (c : Chs) : Rep := fun v L => ∃ o dx f g, v = .ref o ∧ L o = some (.ins (cA K "Chains") dx [("first", f), ("second", g), ("prime", .int c.p), ("length", .int (c.n : Int))]) ∧ rTs (fun r => rSp K (c.sp r)) c.a f L ∧ rTs (fun r => rSp K (c.sp r)) c.b g L
instance {K : PySem.W.Frag} {c : Chs} : Gr (rCh K c) := ⟨fun v H H' e ⟨o, dx, f, g, h1, h2, h3, h4⟩ => ⟨o, dx, f, g, h1, e o _ h2, Gr.up f H H' e h3, Gr.up g H H' e h4⟩⟩
section
variable {K : PySem.W.Frag} {mg : Str → Option Value} {T : Tap} {L L0 H0 H : Hp} {σ : L2.St} {ta tb tc te : TE} {R Ra Rb Rc : Rep} {A A' : RepA} {x y v : V} {c : Chs} {D : Ends} {tz : TS} {ι : Type}
/-- name = [], a list of our own -/
theorem gSetP {i : Nat} (ok : Ok T L0 H0) (S : Stp T L0 H0 L H) (k : ∀ p H1, Stp T L0 H0 L H1 → Stp T L H L H1 → Prv H0 L H1 p (.lst []) → tz D (σ.set i (some (.ref p))) H1) : tSeq (tAsg (tLst tNil) (gName i)) tz D σ H :=
  ⟨Evl.sz_of (by decide), fun p hp => k p _ (S.add ok hp) (Stp.grow (S.ok ok) (Evl.Ex.new hp)) (Prv.new ok S hp)⟩
/-- return our own list -/
theorem gEndP {i : Nat} {p : Addr} {vs : List V} {xs : List ι} {R : ι → Rep} [g : ∀ i, Gr (R i)] (ok : Ok T L0 H0) (S : Stp T L0 H0 L H) (k : ∀ v L1 H1, Stp T L0 H0 L1 H1 → rLs R xs v L1 → D.rt v H1) (hi : σ[i]? = some (some (.ref p))) (hp : Prv H0 L H p (.lst vs)) (hd : Pd R xs vs L) : tRet (tVar i) D σ H :=
  ⟨_, hi, k _ _ _ (S.pub hp) ⟨p, vs, rfl, upd_same, Pd.up hp.ex hd⟩⟩
/-- l.append(e), the last statement -/
theorem gApp1 {i : Nat} {p : Addr} {xs : List V} (ok : Ok T L0 H0) (S : Stp T L0 H0 L H) (hi : σ[i]? = some (some (.ref p))) (hp : Prv H0 L H p (.lst xs)) (hz : xs.length < 100000) (h : Go T L (te σ) R)
    (k : ∀ v L1 H1, Stp T L0 H0 L1 H1 → Ex L L1 → R v L1 → Prv H0 L1 H1 p (.lst (xs ++ [v])) → D.nx σ H1) : tDrop (tBM K "list" rAppend (tVar i) (tCons te tNil)) D σ H :=
  ⟨.ref p, hi, Or.inl ⟨rfl, xs, SqL.of hp.at_⟩, h H (S.ok ok) _ fun v L1 H1 s1 r1 => by
    have hp1 := hp.step ok s1
    exact ⟨p, xs, v, rfl, rfl, hp1.at_, Evl.sz_lt hz, k v L1 _ (Stp.chg ok (S.trans s1) hp1) s1.ll r1 hp1.set⟩⟩
theorem gfirst (F : Cs K mg) (h : Go T L (ta σ) (rCh K c)) : Go T L (tFld K ta "first" σ) (rTs (fun r => rSp K (c.sp r)) c.a) := gfld h fun x L' _ ⟨a, dx, f, g, h1, h2, h3, h4⟩ => ⟨a, _, dx, _, _, h1, h2, F.Chains.cls, F.na ("Chains", "first") (by decide), rfl, h3⟩
theorem gsecond (F : Cs K mg) (h : Go T L (ta σ) (rCh K c)) : Go T L (tFld K ta "second" σ) (rTs (fun r => rSp K (c.sp r)) c.b) := gfld h fun x L' _ ⟨a, dx, f, g, h1, h2, h3, h4⟩ => ⟨a, _, dx, _, _, h1, h2, F.Chains.cls, F.na ("Chains", "second") (by decide), rfl, h4⟩
theorem gcprime (F : Cs K mg) (h : Go T L (ta σ) (rCh K c)) : Go T L (tFld K ta "prime" σ) (rInt c.p) := gfld h fun x L' _ ⟨a, dx, f, g, h1, h2, h3, h4⟩ => ⟨a, _, dx, _, _, h1, h2, F.Chains.cls, F.na ("Chains", "prime") (by decide), rfl, rfl⟩
theorem gclength (F : Cs K mg) (h : Go T L (ta σ) (rCh K c)) : Go T L (tFld K ta "length" σ) (rInt (c.n : Int)) := gfld h fun x L' _ ⟨a, dx, f, g, h1, h2, h3, h4⟩ => ⟨a, _, dx, _, _, h1, h2, F.Chains.cls, F.na ("Chains", "length") (by decide), rfl, rfl⟩
end
section
variable {P : Program} {w : World} {K : PySem.W.Frag} {mg : Str → Option Value} {base : Heap}
def spExt (K : PySem.W.Frag) : Sp := spR (fun q : Spc × Spc => aAnd (q.1.ok ∧ q.2.ok ∧ q.1.p = q.2.p ∧ q.1.n = q.2.n ∧ HM.leRows q.1.p q.1.n q.1.rows q.2.rows = true) (aCons (rSp K q.1) (aCons (rSp K q.2) aNil))) (fun q => rLs rVec (HM.extend q.1.p q.1.n q.1.rows q.2.rows))
theorem c_extension (F : Cs K mg) : Cal P w K mg base 5 "extension" (spExt K) [] := by
  refine calG (N := ["inner", "outer", "rows", "found", "row"]) (ps := ["inner", "outer"]) F.d_extension (fun _ _ _ _ _ _ us hl => match us, hl with | [_, _], _ => rfl) (by decide +kernel) (len1 fun _ _ _ h => lC h.2 (fun _ h => lC h (fun _ => l0))) ?_
  rintro f cdv A outer s H vs Q E hr ⟨x, L, e, ⟨pre, ha⟩, k⟩
  have nd := (fnScope_by (N := ["inner", "outer", "rows", "found", "row"]) (P := ["inner", "outer"]) (sc := fnScope (topS 33)) (by decide +kernel)).nd
  have ok := ok0 e
  have hu := hu_of hr
  have hu0 := hr.units0
  have hu64 := hr.units
  refine ⟨_, (pss_cons (ps_if (pt_not (pt_cmpR (oC K rfl (fun _ _ => rfl) F.sLe.me (n_Space_le F) hr (by decide)) (pv 0) (pv 1) (nomark _))) pss_never pss_nil)
  (pss_cons (ps_set (i := 2) nd rfl (by first | exact Or.inl rfl | exact Or.inr rfl) (kfld K rfl (pv 0) rfl))
  (pss_cons (ps_set (i := 3) nd rfl (by first | exact Or.inl rfl | exact Or.inr rfl) (pe_lst pa_nil))
  (pss_cons (ps_for PassesOwn.never rfl (kpi_tup K rfl (kfld K rfl (pv 1) rfl)) (pg_name (i := 4) nd rfl (by first | exact Or.inl rfl | exact Or.inr rfl)) (pss_one (ps_if (pt_cmpR op_lt (pe_c (c_leading F.toFs) hr (by decide) rfl (pa_cons (pe_c (c_reduced F.toFs) hr (by decide) rfl (pa_cons (kfld K rfl (pv 0) rfl) (pa_cons (pv 2) (pa_cons (pv 4) pa_nil)))) pa_nil)) (kfld K rfl (pv 0) rfl) (nomark _)) (pss_cons (ps_expr (pe_bm PySem.F.plainAttrs_list PySem.F.slot_list_append PySem.F.type_list_append mt_append (pv 3) (pa_cons (pv 4) pa_nil)))
  (pss_one (ps_set (i := 2) nd rfl (by first | exact Or.inl rfl | exact Or.inr rfl) (pe_c (c_echelon F.toFs) hr (by decide) rfl (pa_cons (kfld K rfl (pv 0) rfl) (pa_cons (pe_lst (kpa_star K rfl (pv 2) (pa_cons (pv 4) pa_nil))) pa_nil)))))) pss_nil)))
  (pss_one (ps_ret (pv 3))))))), ?_⟩
  obtain ⟨v1, v2, rfl, h1, h2⟩ := a2 ha
  obtain ⟨⟨p, n, ra⟩, ⟨p', n', rb⟩⟩ := x
  obtain ⟨oa, ob, e1, e2, hle⟩ := pre
  obtain rfl : p = p' := e1
  obtain rfl : n = n' := e2
  obtain ⟨hp, hn, hra⟩ := id oa
  obtain ⟨_, _, hrb⟩ := id ob
  have hp : HM.IsP p := hp
  have hn : n ≤ 12 := hn
  have hra : HM.Red p n ra := hra
  have hrb : HM.Red p n rb := hrb
  have la := red_len hp hra
  have lb := red_len hp hrb
  refine gNot ok (Stp.refl ok) (gnot (b := true) (gtest (gown2 (R := fun _ : Spc × Spc => rV (.bl true)) (⟨p, n, ra⟩, ⟨p, n, rb⟩) ⟨oa, ob, rfl, rfl, hle⟩ (gv rfl h1) (gv rfl h2) (fun _ _ => rSp_ins) (fun _ _ => rSp_ins)))) rfl fun L1 H1 S1 s1 => ?_
  refine gSet ok S1 (grows F (gv rfl (up s1.ll h1))) fun vr L2 H2 S2 s2 rr => ?_
  have rr : rTs rVec ra vr L2 := rr
  refine gSetP ok S2 fun pf H3 S3 s3 pv3 => ?_
  refine gForS ok S3 (gi_tup (grows F (gv rfl (up (s1.ll.trans (s2.ll.trans s3.ll)) h2)))) (fun i σ' La Ha => ∃ z u rows taken acc, σ' = [some v1, some v2, some z, some (.ref pf), u] ∧ rTs rVec rows z La ∧ HM.Red p n rows ∧ Prv H La Ha pf (.lst acc) ∧ Pd rVec taken acc La ∧ taken.length ≤ i ∧ HM.extend p n ra rb = taken ++ HM.extend p n rows (rb.drop i)) ?_ ?_ ?_
  · intro L4 H4 _ s4
    exact ⟨_, _, ra, [], [], rfl, up (s3.ll.trans s4.ll) rr, hra, pv3.step ok s4, trivial, Nat.le_refl _, rfl⟩
  · rintro Lm em i a x' σ' La Ha Lb Hb ha' Sa ea ⟨z, u, rows, taken, acc, rfl, hz, hred, pva, hd, hl, hex⟩ sb hx
    have Sb := Sa.trans sb
    have hlt : i < rb.length := (List.getElem?_eq_some_iff.mp ha').1
    have h3 : rb.drop i = a :: rb.drop (i + 1) := by
      obtain ⟨hlt, hh⟩ := List.getElem?_eq_some_iff.mp ha'
      rw [List.drop_eq_getElem_cons hlt, hh]
    have hav : HM.IsV p n a := hrb.vec a (List.mem_of_getElem? ha')
    have exb := s1.ll.trans (s2.ll.trans (s3.ll.trans (em.trans (ea.trans sb.ll))))
    have lr := red_len hp hred
    refine gIfS ok Sb (gtest (gI0 (i := (HM.leading (HM.reduce p rows a) : Int)) (j := (n : Int)) (R := rV (.bl (decide ((HM.leading (HM.reduce p rows a) : Int) < (n : Int))))) (gcp (R := fun ns : List Int => rInt (HM.leading ns : Int)) (HM.reduce p rows a) trivial (gaC (gcp (R := fun q : Int × Nat × List (List Int) × List Int => rVec (HM.reduce q.1 q.2.2.1 q.2.2.2)) (p, n, rows, a) ⟨hp, by show n ≤ 1000; omega, fun q hq => ⟨hred.vec q hq, (hred.lead q hq).1⟩, hav⟩ (gaC (gprime F (gv rfl (up exb h1))) (gaC (gv rfl (sqT (up sb.ll hz))) (gaC (gv rfl hx) ga0)))) ga0)) (glength F (gv rfl (up exb h1))) rfl)) (fun hb L5 H5 S5 s5 => ?_) fun hb L5 H5 S5 s5 => ?_
    · have hlt2 : HM.leading (HM.reduce p rows a) < n := by have := of_decide_eq_true hb; omega
      have pv5 := (pva.step ok sb).step ok s5
      have hrows : ∀ r ∈ rows ++ [a], HM.IsV p n r := fun r hr => by
        rcases List.mem_append.mp hr with h | h
        · exact hred.vec r h
        · rw [List.mem_singleton.mp h]; exact hav
      have lacc : acc.length = taken.length := Pd.length hd
      refine gApp ok S5 rfl pv5 (by omega) (gv rfl (up s5.ll hx)) fun v' L6 H6 S6 s6 r6 pv6 => ?_
      have ex6 := sb.ll.trans (s5.ll.trans s6.ll)
      refine gSet1 ok S6 (gcp (R := fun q : Int × Nat × List (List Int) => rTs rVec (HM.echelon q.1 q.2.2)) (p, n, rows ++ [a]) ⟨hp, by show n ≤ 1000; omega, hrows, by simp only [List.length_append, List.length_singleton]; omega⟩ (gaC (gprime F (gv rfl (up (exb.trans (s5.ll.trans s6.ll)) h1))) (gaC (glst (gstarL (gv rfl (sqT (up ex6 hz))) (gaL (gv rfl (up (s5.ll.trans s6.ll) hx)) ga0L)) (pd_len (m := 100000) (by simp only [List.length_append, List.length_singleton]; omega))) ga0))) fun v7 L7 H7 S7 s7 r7 => ?_
      refine ⟨L7, S7, ea.trans (ex6.trans s7.ll), v7, _, HM.echelon p (rows ++ [a]), taken ++ [a], acc ++ [v'], rfl, r7, HM.echelon_red hp hrows, pv6.step ok s7, Pd.app (hd.up (ex6.trans s7.ll)) ⟨up s7.ll r6, trivial⟩, by simp only [List.length_append, List.length_singleton]; omega, ?_⟩
      rw [hex, h3]
      show taken ++ HM.extend p n rows (a :: rb.drop (i + 1)) = _
      rw [HM.extend, if_pos hlt2, List.append_assoc]
      rfl
    · have hlt2 : ¬ HM.leading (HM.reduce p rows a) < n := by have := of_decide_eq_false hb; omega
      refine ⟨L5, S5, ea.trans (sb.ll.trans s5.ll), z, _, rows, taken, acc, rfl, up (sb.ll.trans s5.ll) hz, hred, (pva.step ok sb).step ok s5, hd.up (sb.ll.trans s5.ll), by omega, ?_⟩
      rw [hex, h3, HM.extend, if_neg hlt2]
  · rintro σ' La Ha Sa ea ⟨z, u, rows, taken, acc, rfl, hz, hred, pva, hd, hl, hex⟩
    have e0 : HM.extend p n ra rb = taken := by
      rw [hex]
      show taken ++ HM.extend p n rows (rb.drop rb.length) = taken
      rw [List.drop_length, HM.extend, List.append_nil]
    refine gEndP ok Sa k rfl pva (by rw [e0]; exact hd)
def spInitC (K : PySem.W.Frag) : Sp := spN (cA K "Chains") (fun c : Chs => aAnd c.ok (aCons (rLs (fun r => rSp K (c.sp r)) c.a) (aCons (rLs (fun r => rSp K (c.sp r)) c.b) aNil))) (fun c => rCh K c)
theorem n_Chains_init (F : Cs K mg) : FnB P w K mg base 4 (mA K "Chains" "__init__") (spInitC K) [] := by
  refine fnG (N := ["self", "first", "second", "space", "chain", "inner", "outer"]) (ps := ["self", "first", "second"]) F.iChains (fun _ _ _ _ _ _ us hl => match us, hl with | [_, _, _], _ => rfl) (by decide +kernel) (lenN fun _ _ _ h => lC h.2 (fun _ h => lC h (fun _ => l0))) ?_
  intro f
  rintro cdv A outer s H vs Q E hr ⟨x, L, H1, ob, dx, ws, rfl, nx, ndx, ne, rfl, e, ⟨pre, ha⟩, k⟩
  have nd := (fnScope_by (N := ["self", "first", "second", "space", "chain", "inner", "outer"]) (P := ["self", "first", "second"]) (sc := fnScope (metS 35 0)) (by decide +kernel)).nd
  have ok := ok0 e
  have hu := hu_of hr
  have hu0 := hr.units0
  have hu64 := hr.units
  refine ⟨_, (pss_cons (ps_for PassesOwn.never rfl (kpi_tup K rfl (pe_tup (kpa_star K rfl (pv 1) (kpa_star K rfl (pv 2) pa_nil)))) (pg_name (i := 3) nd rfl (by first | exact Or.inl rfl | exact Or.inr rfl)) (pss_one (ps_expr (pe_c (c_check_alike F) hr (by decide) rfl (pa_cons (pe_ix (kix_list K rfl) (pv 1) pe_int (fun _ _ => rfl)) (pa_cons (pv 3) pa_nil))))))
  (pss_cons (ps_for PassesOwn.never rfl (kpi_tup K rfl (pe_tup (pa_cons (pv 1) (pa_cons (pv 2) pa_nil)))) (pg_name (i := 4) nd rfl (by first | exact Or.inl rfl | exact Or.inr rfl)) (pss_one (ps_for PassesOwn.never rfl (RZ.pi_zipA rfl F.zip (pa_cons (pv 4) (pa_cons (pe_slice (ksl_list K rfl) (pv 4) (po_some pe_int) po_none) pa_nil))) (pg_tup rfl (pgs_cons (pg_name (i := 5) nd rfl (by first | exact Or.inl rfl | exact Or.inr rfl)) (pgs_cons (pg_name (i := 6) nd rfl (by first | exact Or.inl rfl | exact Or.inr rfl)) pgs_nil))) (pss_one (ps_if (pt_not (pt_cmpR (oC K rfl (fun _ _ => rfl) F.sLe.me (n_Space_le F) hr (by decide)) (pv 5) (pv 6) (nomark _))) pss_never pss_nil)))))
  (pss_cons (ps_fld (pv 0) (pe_callTy (ktuple K rfl) rfl F.tuple bt_tuple (pa_cons (pv 1) pa_nil)) rfl)
  (pss_cons (ps_fld (pv 0) (pe_callTy (ktuple K rfl) rfl F.tuple bt_tuple (pa_cons (pv 2) pa_nil)) rfl)
  (pss_cons (ps_fld (pv 0) (kfld K rfl (pe_ix (kix_list K rfl) (pv 1) pe_int (fun _ _ => rfl)) rfl) rfl)
  (pss_one (ps_fld (pv 0) (kfld K rfl (pe_ix (kix_list K rfl) (pv 1) pe_int (fun _ _ => rfl)) rfl) rfl))))))), ?_⟩
  obtain ⟨v1, v2, rfl, h1, h2⟩ := a2 ha
  have Sa : Stp T0 L H1 L (upd (upd H1 dx (.own ob)) ob (.ins (cA K "Chains") dx [])) := (Stp.refl ok).trans (Stp.grow ok ((Evl.Ex.new ndx).trans (Evl.Ex.new (by rw [upd_ne (Ne.symm ne)]; exact nx))))
  have pv0 : Prv H1 L (upd (upd H1 dx (.own ob)) ob (.ins (cA K "Chains") dx [])) ob (.ins (cA K "Chains") dx []) := ⟨nx, none_of e nx, upd_same⟩
  have la := pre.la
  have lb := pre.lb
  obtain ⟨r0, e0⟩ : ∃ r0, x.a[0]? = some r0 := ⟨_, List.getElem?_eq_getElem la.1⟩
  refine gForS ok Sa (gi_tup (gtup (gstarL (gv rfl (sqL h1)) (gstarL (gv rfl (sqL h2)) ga0L)) (pd_len (m := 100000) (by simp only [List.length_append, List.length_nil]; omega)))) (fun i σ' La Ha => ∃ u, σ' = [some (.ref ob), some v1, some v2, u, none, none, none] ∧ Prv H1 La Ha ob (.ins (cA K "Chains") dx [])) ?_ ?_ ?_
  · intro L3 H3 _ s3
    exact ⟨_, rfl, pv0.step ok s3⟩
  · rintro Lm em i a x' σ' La Ha Lb Hb ha' Sa ea ⟨u, rfl, pva⟩ sb hx
    refine gDrop1 ok (Sa.trans sb) (gcp (R := fun _ : Spc × Spc => rV .non) (x.sp r0, x.sp a) ⟨rfl, rfl⟩ (gaC (gixLs (R := fun r => rSp K (x.sp r)) (i := 0) (gv rfl (up (em.trans (ea.trans sb.ll)) h1)) (gc rfl) e0) (gaC (gv rfl hx) ga0))) fun v3 L3 H3 S3 s3 _ => ⟨L3, S3, ea.trans (sb.ll.trans s3.ll), _, rfl, (pva.step ok sb).step ok s3⟩
  · rintro σ' La Ha Sa ea ⟨u, rfl, pva⟩
    refine gForS ok Sa (gi_tup (Y := fun xs => rLs (fun r => rSp K (x.sp r)) xs) (ys := [x.a, x.b]) (gtup (gaL (R := fun xs => rLs (fun r => rSp K (x.sp r)) xs) (gv rfl (up ea h1)) (gaL (R := fun xs => rLs (fun r => rSp K (x.sp r)) xs) (gv rfl (up ea h2)) ga0L)) (pd_len (m := 100000) (by show 2 ≤ 100000; decide)))) (fun i σ' La Ha => ∃ u1 u2 u3, σ' = [some (.ref ob), some v1, some v2, u, u1, u2, u3] ∧ Prv H1 La Ha ob (.ins (cA K "Chains") dx [])) ?_ ?_ ?_
    · intro L3 H3 _ s3
      exact ⟨_, _, _, rfl, pva.step ok s3⟩
    · rintro Lm em i a x' σ' Lc Hc Lb Hb ha' Sc ec ⟨u1, u2, u3, rfl, pvc⟩ sb hx
      have hup : upw x.p x.n a ∧ (∀ r ∈ a, HM.Red x.p x.n r) ∧ a.length ≤ 20 := by
        have := List.mem_of_getElem? ha'
        rcases List.mem_cons.mp this with h | h
        · rw [h]; exact ⟨pre.ua, pre.ra, la.2⟩
        · rw [List.mem_singleton.mp h]; exact ⟨pre.ub, pre.rb, lb⟩
      refine gfor (D := { nx := Nxt T0 L H1 Lm _ (i + 1), rt := _, bk := _, ct := Nxt T0 L H1 Lm _ (i + 1) }) ok (Sc.trans sb) (gi_zipL (Y := fun r => rSp K (x.sp r)) (Z := fun r => rSp K (x.sp r)) (gaC (gv rfl hx) (gaC (gslL1 (n := 1) (gv rfl hx) (go1 (gc rfl)) go0) ga0))) (fun i σ' La Ha => ∃ u2 u3, σ' = [some (.ref ob), some v1, some v2, u, some x', u2, u3] ∧ Prv H1 La Ha ob (.ins (cA K "Chains") dx [])) ?_ ?_ ?_
      · intro L3 H3 _ s3
        exact ⟨_, _, rfl, (pvc.step ok sb).step ok s3⟩
      · rintro Ln en i2 q y' σ' Ld Hd Le He hq Sd ed ⟨w2, w3, rfl, pvd⟩ se hy
        obtain ⟨hq1, hq2⟩ := List.getElem?_zip_eq_some.mp hq
        have hq3 : a[i2 + 1]? = some q.2 := by rw [← hq2, List.getElem?_drop, Nat.add_comm]
        refine g_pair se.lh hy fun z1 z2 hz1 hz2 => ?_
        refine gNot1 ok (Sd.trans se) (gnot (b := true) (gtest (gown2 (R := fun _ : Spc × Spc => rV (.bl true)) (x.sp q.1, x.sp q.2) ⟨⟨pre.hp, pre.hn, hup.2.1 _ (List.mem_of_getElem? hq1)⟩, ⟨pre.hp, pre.hn, hup.2.1 _ (List.mem_of_getElem? hq3)⟩, rfl, rfl, hup.1 i2 q.1 q.2 hq1 hq3⟩ (gv rfl hz1) (gv rfl hz2) (fun _ _ => rSp_ins) (fun _ _ => rSp_ins)))) rfl fun L3 H3 S3 s3 => ⟨L3, S3, ed.trans (se.ll.trans s3.ll), _, _, rfl, (pvd.step ok se).step ok s3⟩
      · rintro σ' Ld Hd Sd ed ⟨w2, w3, rfl, pvd⟩
        exact ⟨Ld, Sd, ec.trans (sb.ll.trans ed), _, _, _, rfl, pvd⟩
    · rintro σ' Lc Hc Sc ec ⟨u1, u2, u3, rfl, pvc⟩
      have h1' := up (ea.trans ec) h1
      have h2' := up (ea.trans ec) h2
      refine gFld F.Chains.cls (F.na ("Chains", "first") (by decide)) ok Sc rfl pvc (by decide) (gtupof (gv rfl h1')) fun w1 L3 H3 S3 e3 r3 pv3 => ?_
      refine gFld F.Chains.cls (F.na ("Chains", "second") (by decide)) ok S3 rfl pv3 (by show 1 < 1000; decide) (gtupof (gv rfl (up e3 h2'))) fun w2 L4 H4 S4 e4 r4 pv4 => ?_
      refine gFld F.Chains.cls (F.na ("Chains", "prime") (by decide)) ok S4 rfl pv4 (by show 2 < 1000; decide) (gprime F (gixLs (R := fun r => rSp K (x.sp r)) (i := 0) (gv rfl (up (e3.trans e4) h1')) (gc rfl) e0)) fun w3 L5 H5 S5 e5 r5 pv5 => ?_
      refine gFld1 F.Chains.cls (F.na ("Chains", "length") (by decide)) ok S5 rfl pv5 (by show 3 < 1000; decide) (glength F (gixLs (R := fun r => rSp K (x.sp r)) (i := 0) (gv rfl (up (e3.trans (e4.trans e5)) h1')) (gc rfl) e0)) fun w4 L6 H6 S6 e6 r6 pv6 => ?_
      obtain rfl : w3 = .int x.p := r5
      obtain rfl : w4 = .int (x.n : Int) := r6
      exact k _ _ (S6.pub pv6) ⟨ob, dx, w1, w2, rfl, upd_same, up pv6.ex (up (e4.trans (e5.trans e6)) r3), up pv6.ex (up (e5.trans e6) r4)⟩
end
end HW
/-! part W6 -/
set_option maxHeartbeats 4000000
/-! Cells, the common basis, the table. -/
namespace HW
open PySem PySem.Spec PyProof.Rows L2 HR HV C8
open Evl (Ex)
section
variable {K : PySem.W.Frag} {mg : Str → Option Value} {T : Tap} {L L0 H0 H : Hp} {σ : L2.St} {ta tb tc te : TE} {ι κ μ : Type}
/-- two clauses, both targets names -/
theorem glc2 {ys : List ι} {Y : ι → Rep} {zs : ι → List κ} {Z : κ → Rep} {W : μ → Rep} [gw : ∀ i, Gr (W i)] {wi wi1 : TI} {te : TE} {vs vs1 : List Nat} {j j1 : Nat} (f : ι → κ → μ) (hi : Go T L (wi σ) (rIt T ys Y)) (hz : ∀ l, l ≤ ys.length → ((ys.take l).flatMap fun a => (zs a).map (f a)).length ≤ 30000) (hz1 : ∀ a, (zs a).length ≤ 10000)
    (hw : ∀ x, wipe ((wipe σ vs).set j (some x)) vs = wipe σ vs) (hw1 : ∀ x, wipe ((wipe σ vs).set j (some x)) vs1 = (wipe σ vs).set j (some x)) (hw2 : ∀ x y, wipe (((wipe σ vs).set j (some x)).set j1 (some y)) vs1 = (wipe σ vs).set j (some x))
    (hi1 : ∀ a x L1, a ∈ ys → Ex L L1 → Y a x L1 → Go T L1 (wi1 ((wipe σ vs).set j (some x))) (rIt T (zs a) Z))
    (hY : ∀ a x L1 L2, Ex L1 L2 → Y a x L1 → Y a x L2)
    (hs : ∀ a x b y L1, a ∈ ys → Ex L L1 → Y a x L1 → b ∈ zs a → Z b y L1 → Go T L1 (te (((wipe σ vs).set j (some x)).set j1 (some y))) (W (f a b))) :
    Go T L (tLc2 wi (gName j) tYes wi1 (gName j1) tYes te vs vs1 σ) (rLs W (ys.flatMap fun a => (zs a).map (f a))) := fun H ok Q q => hi H ok _ fun J L1 H1 s1 w D hD => by
  have ok1 := s1.ok ok
  let Pd' : Nat → Hp → Prop := fun i H' => ∃ L' acc, Stp T L1 H1 L' H' ∧ Prv H1 L' H' D (.lst acc) ∧ Pd W ((ys.take i).flatMap fun a => (zs a).map (f a)) acc L'
  refine ⟨fun i m H' => m = ys.length - i ∧ i ≤ ys.length ∧ Pd' i H', ⟨_, rfl, Nat.zero_le _, L1, [], Stp.add ok1 (Stp.refl ok1) hD, Prv.new ok1 (Stp.refl ok1) hD, by simp [Pd]⟩, ?_⟩
  rintro i m Ha ⟨rfl, hi', La, acc, S, p, d⟩
  by_cases hlt : i < ys.length
  · refine Or.inr ⟨w.goes i Ha hlt (S.ll.trans S.lh), Pd' (i + 1), fun H' h => ⟨ys.length - (i + 1), by omega, rfl, hlt, h⟩, fun x Hb y => ?_⟩
    obtain ⟨Lb, a, s2, ha, hYa⟩ := w.yields i Ha x Hb hlt (S.ll.trans S.lh) y La S.ll (S.ok ok1)
    have hmem := List.mem_of_getElem? ha
    refine ⟨hw x, ?_⟩
    show wi1 ((wipe σ vs).set j (some x)) Hb _
    have S2 := S.trans s2
    have p2 := p.step ok1 s2
    refine hi1 a x Lb hmem ((s1.ll.trans S.ll).trans s2.ll) hYa Hb (S2.ok ok1) _ fun J1 Lc Hc s3 w1 => ?_
    have S3 := S2.trans s3
    have p3 := p2.step ok1 s3
    have d3 := Pd.up (s2.ll.trans s3.ll) d
    have ta' := take_at ha
    refine ⟨fun i1 m1 H' => m1 = (zs a).length - i1 ∧ i1 ≤ (zs a).length ∧ ∃ L' acc, Ex Lc L' ∧ Stp T L1 H1 L' H' ∧ Prv H1 L' H' D (.lst acc) ∧ Pd W (((ys.take i).flatMap fun a => (zs a).map (f a)) ++ ((zs a).take i1).map (f a)) acc L', ⟨_, rfl, Nat.zero_le _, Lc, acc, Evl.Ex.refl _, S3, p3, by simpa using d3⟩, ?_⟩
    rintro i1 m1 Hd ⟨rfl, hi1', Ld, acc1, ed, S4, p4, d4⟩
    by_cases hlt1 : i1 < (zs a).length
    · refine Or.inr ⟨w1.goes i1 Hd hlt1 (ed.trans S4.lh), fun H' => i1 + 1 ≤ (zs a).length ∧ ∃ L' acc, Ex Lc L' ∧ Stp T L1 H1 L' H' ∧ Prv H1 L' H' D (.lst acc) ∧ Pd W (((ys.take i).flatMap fun a => (zs a).map (f a)) ++ ((zs a).take (i1 + 1)).map (f a)) acc L', fun H' h => ⟨(zs a).length - (i1 + 1), by omega, rfl, h⟩, fun y' He yy => ?_⟩
      obtain ⟨Le, b, s5, hb, hZ⟩ := w1.yields i1 Hd y' He hlt1 (ed.trans S4.lh) yy Ld ed (S4.ok ok1)
      rw [hw1 x]
      refine ⟨(hw2 x y').trans rfl, ?_⟩
      have S5 := S4.trans s5
      have p5 := p4.step ok1 s5
      show te (((wipe σ vs).set j (some x)).set j1 (some y')) He _
      refine hs a x b y' Le hmem ((s1.ll.trans S3.ll).trans (by exact (Evl.Ex.refl Lc)) |>.trans (ed.trans s5.ll)) (hY a x Lb Le (s3.ll.trans (ed.trans s5.ll)) hYa) (List.mem_of_getElem? hb) hZ He (S5.ok ok1) _ fun v Lf Hf s6 r6 => ?_
      have p6 := p5.step ok1 s6
      refine ⟨acc1, p6.at_, ?_, hlt1, Lf, acc1 ++ [v], ed.trans (s5.ll.trans s6.ll), Stp.chg ok1 (S5.trans s6) p6, p6.set, ?_⟩
      · have h1 : acc1.length = _ := Pd.length d4
        have h2 := hz i (by omega)
        have h3 := hz1 a
        rw [List.length_append, List.length_map, List.length_take] at h1
        exact Evl.sz_lt (by omega)
      · rw [take_at hb, List.map_append, ← List.append_assoc]
        exact Pd.app (d4.up (s5.ll.trans s6.ll)) ⟨r6, trivial⟩
    · have e1 : i1 = (zs a).length := by omega
      subst e1
      refine Or.inl ⟨w1.stops Hd (ed.trans S4.lh), Ld, acc1, S4, p4, ?_⟩
      rw [ta', List.flatMap_append]
      rw [List.take_length] at d4
      simpa using d4
  · have e1 : i = ys.length := by omega
    subst e1
    rw [List.take_length] at d
    exact Or.inl ⟨w.stops Ha (S.ll.trans S.lh), q _ _ _ (s1.trans (S.pub p)) ⟨D, acc, rfl, upd_same, Pd.up p.ex d⟩⟩
end
def lev (p : Int) (n : Nat) (xs : List (List (List Int))) (k : Nat) : List (List Int) := if k = 0 then [] else if k ≤ xs.length then xs.getD (k - 1) [] else HM.wholeRows p n
theorem Chs.lev_red {c : Chs} (h : c.ok) {xs : List (List (List Int))} (hx : ∀ r ∈ xs, HM.Red c.p c.n r) (k : Nat) : HM.Red c.p c.n (lev c.p c.n xs k) := by
  unfold lev
  split
  · exact HM.Red.nil
  · split
    · rename_i h1 h2
      have hk : k - 1 < xs.length := by omega
      rw [List.getD_eq_getElem?_getD, List.getElem?_eq_getElem hk]
      exact hx _ (List.getElem_mem hk)
    · exact HM.wholeRows_red h.hp
theorem lev_up {c : Chs} (h : c.ok) {xs : List (List (List Int))} (hx : ∀ r ∈ xs, HM.Red c.p c.n r) (hu : upw c.p c.n xs) (i : Nat) (hi : i ≤ xs.length) (t : HM.Vec) (ht : HM.Span c.p c.n (lev c.p c.n xs i) t) : HM.Span c.p c.n (lev c.p c.n xs (i + 1)) t := by
  by_cases h1 : i + 1 ≤ xs.length
  · by_cases h0 : i = 0
    · subst h0
      have e0 : lev c.p c.n xs 0 = [] := by simp [lev]
      rw [e0] at ht
      have e3 : t = HM.zeros c.n := ht
      rw [e3]
      exact ((Chs.lev_red h hx 1).sub h.hp.pos).zero
    · have e1 : lev c.p c.n xs i = xs.getD (i - 1) [] := by simp [lev, h0, hi]
      have e2 : lev c.p c.n xs (i + 1) = xs.getD i [] := by simp [lev, h1]
      have k1 : i - 1 < xs.length := by omega
      have k2 : i < xs.length := by omega
      rw [List.getD_eq_getElem?_getD, List.getElem?_eq_getElem k1] at e1
      rw [List.getD_eq_getElem?_getD, List.getElem?_eq_getElem k2] at e2
      have e1 : lev c.p c.n xs i = xs[i - 1] := e1
      have e2 : lev c.p c.n xs (i + 1) = xs[i] := e2
      have := hu (i - 1) xs[i - 1] xs[i] (List.getElem?_eq_getElem k1) (by rw [show i - 1 + 1 = i by omega]; exact List.getElem?_eq_getElem k2)
      rw [e1] at ht
      rw [e2]
      exact (HM.leRows_iff h.hp (hx _ (List.getElem_mem k1)) (hx _ (List.getElem_mem k2))).mp this t ht
  · have e2 : lev c.p c.n xs (i + 1) = HM.wholeRows c.p c.n := by simp [lev, h1]
    rw [e2]
    exact (HM.wholeRows_span h.hp t).mpr (((Chs.lev_red h hx i).sub h.hp.pos).vec t ht)
/-- the chains as the mathematics has them -/
theorem Chs.ch {c : Chs} (h : c.ok) : HM.Ch c.p c.n (lev c.p c.n c.a) (lev c.p c.n c.b) c.a.length c.b.length where
  ra := Chs.lev_red h h.ra
  rb := Chs.lev_red h h.rb
  a0 := by simp [lev]
  b0 := by simp [lev]
  a1 := fun t ht => by
    have : lev c.p c.n c.a (c.a.length + 1) = HM.wholeRows c.p c.n := by unfold lev; rw [if_neg (by omega), if_neg (by omega)]
    rw [this]; exact (HM.wholeRows_span h.hp t).mpr ht
  b1 := fun t ht => by
    have : lev c.p c.n c.b (c.b.length + 1) = HM.wholeRows c.p c.n := by unfold lev; rw [if_neg (by omega), if_neg (by omega)]
    rw [this]; exact (HM.wholeRows_span h.hp t).mpr ht
  ma := fun i hi t ht => lev_up h h.ra h.ua i hi t ht
  mb := fun i hi t ht => lev_up h h.rb h.ub i hi t ht
def sgn (a : Bool) : Str := if a then "a" else "b"
def Chs.side (c : Chs) (a : Bool) : List (List (List Int)) := if a then c.a else c.b
theorem side_red {c : Chs} (h : c.ok) (a : Bool) : ∀ r ∈ c.side a, HM.Red c.p c.n r := by
  cases a
  · exact h.rb
  · exact h.ra
theorem side_len {c : Chs} (h : c.ok) (a : Bool) : (c.side a).length ≤ 20 := by
  cases a
  · exact h.lb
  · exact h.la.2
section
variable {P : Program} {w : World} {K : PySem.W.Frag} {mg : Str → Option Value} {base : Heap}
def spAt (K : PySem.W.Frag) : Sp := spR (fun q : Chs × Bool × Nat => aAnd (q.1.ok ∧ q.2.2 ≤ 100) (aCons (rCh K q.1) (aCons (rV (.str (sgn q.2.1))) (aCons (rInt (q.2.2 : Int)) aNil)))) (fun q => rSp K (q.1.sp (lev q.1.p q.1.n (q.1.side q.2.1) q.2.2)))
theorem c_space_at (F : Cs K mg) : Cal P w K mg base 8 "space_at" (spAt K) [] := by
  refine calG (N := ["chains", "sign", "number", "spaces"]) (ps := ["chains", "sign", "number"]) F.d_space_at (fun _ _ _ _ _ _ us hl => match us, hl with | [_, _, _], _ => rfl) (by decide +kernel) (len1 fun _ _ _ h => lC h.2 (fun _ h => lC h (fun _ h => lC h (fun _ => l0)))) ?_
  rintro f cdv A outer s H vs Q E hr ⟨x, L, e, ⟨pre, ha⟩, k⟩
  have nd := (fnScope_by (N := ["chains", "sign", "number", "spaces"]) (P := ["chains", "sign", "number"]) (sc := fnScope (topS 36)) (by decide +kernel)).nd
  have ok := ok0 e
  have hu := hu_of hr
  have hu0 := hr.units0
  have hu64 := hr.units
  refine ⟨_, (pss_cons (ps_set (i := 3) nd rfl (by first | exact Or.inl rfl | exact Or.inr rfl) (pe_ifExp (pt_cmpR op_eq (pv 1) pe_str (nomark _)) (kfld K rfl (pv 0) rfl) (kfld K rfl (pv 0) rfl)))
  (pss_cons (ps_if (pt_cmpR op_eq (pv 2) pe_int (nomark _)) (pss_one (ps_ret (pe_cm K rfl (k_Space_nothing F) hr (by decide) (pe_gc (v := .ref (cA K "Space")) rfl ⟨_, F.Space.mg, rfl⟩) (pa_cons (kfld K rfl (pv 0) rfl) (pa_cons (kfld K rfl (pv 0) rfl) pa_nil))))) pss_nil)
  (pss_one (ps_ret (pe_ifExp (pt_cmpR op_le (pv 2) (pe_callB (klen K rfl) rfl F.len bt_len (pa_cons (pv 3) pa_nil)) (nomark _)) (pe_ix (kix_tup K rfl) (pv 3) (pe_op op_sub (pv 2) pe_int) (fun _ _ => rfl)) (pe_cm K rfl (k_Space_whole F) hr (by decide) (pe_gc (v := .ref (cA K "Space")) rfl ⟨_, F.Space.mg, rfl⟩) (pa_cons (kfld K rfl (pv 0) rfl) (pa_cons (kfld K rfl (pv 0) rfl) pa_nil)))))))), ?_⟩
  obtain ⟨c, a, n⟩ := x
  obtain ⟨hc, hn⟩ := pre
  have hc : c.ok := hc
  have hn : n ≤ 100 := hn
  obtain ⟨v1, _, rfl, h1, h⟩ := ha
  obtain ⟨_, _, rfl, rfl, rfl⟩ := a2 h
  have h1 : rCh K c v1 L := h1
  refine gSet ok (Stp.refl ok) (R := rTs (fun r => rSp K (c.sp r)) (c.side a)) (gif (b := a) (gtest (geq (gv rfl rfl) (gc rfl) rfl (by cases a <;> rfl))) (fun e => by subst e; exact gfirst F (gv rfl h1)) (fun e => by subst e; exact gsecond F (gv rfl h1))) fun vs L1 H1 S1 s1 rs => ?_
  have h1' := up s1.ll h1
  refine gIf ok S1 (b := decide (n = 0)) (gtest (geq (gv rfl rfl) (gc rfl) rfl (by simp))) (fun hb L2 H2 S2 s2 => ?_) fun hb L2 H2 S2 s2 => ?_
  · have e0 : n = 0 := of_decide_eq_true hb
    subst e0
    refine gEnd ok S2 k (geqSp (gcm (R := fun q : Int × Nat => rSp K ⟨q.1, q.2, []⟩) (c.p, c.n) ⟨hc.hp, hc.hn⟩ (gc rfl) (gaC (gcprime F (gv rfl (up s2.ll h1'))) (gaC (gclength F (gv rfl (up s2.ll h1'))) ga0))) (by simp [Chs.sp, lev]))
  · have e0 : n ≠ 0 := of_decide_eq_false hb
    refine gEnd ok S2 k (gif (b := decide ((n : Int) ≤ ((c.side a).length : Nat))) (gtest (gI0 (i := (n : Int)) (j := ((c.side a).length : Nat)) (gv rfl rfl) (glen (gv rfl (sqT (up s2.ll rs))) fun vs L' h => Pd.length h) rfl)) (fun hb2 => ?_) fun hb2 => ?_)
    · have hle : n ≤ (c.side a).length := by have := of_decide_eq_true hb2; omega
      have hk : n - 1 < (c.side a).length := by omega
      have el : lev c.p c.n (c.side a) n = (c.side a)[n - 1] := by
        unfold lev
        rw [if_neg e0, if_pos hle, List.getD_eq_getElem?_getD, List.getElem?_eq_getElem hk]; rfl
      refine geqSp (gixTs (R := fun r => rSp K (c.sp r)) (i := n - 1) (gv rfl (up s2.ll rs)) (geqI (gI0 (i := (n : Int)) (j := 1) (R := rInt ((n : Int) - 1)) (gv rfl rfl) (gc rfl) rfl) (by omega)) (List.getElem?_eq_getElem hk)) (by rw [el])
    · have hle : ¬ n ≤ (c.side a).length := by have := of_decide_eq_false hb2; omega
      have el : lev c.p c.n (c.side a) n = HM.wholeRows c.p c.n := by
        unfold lev
        rw [if_neg e0, if_neg hle]
      exact geqSp (gcm (R := fun q : Int × Nat => rSp K ⟨q.1, q.2, HM.wholeRows q.1 q.2⟩) (c.p, c.n) ⟨hc.hp, hc.hn⟩ (gc rfl) (gaC (gcprime F (gv rfl (up s2.ll h1'))) (gaC (gclength F (gv rfl (up s2.ll h1'))) ga0))) (by rw [el]; rfl)
def rCell : Nat × Nat → Rep := fun c => rPr (rInt (c.1 : Int)) (rInt (c.2 : Int))
instance {c : Nat × Nat} : Gr (rCell c) := inferInstanceAs (Gr (rPr _ _))
def spCells : Sp := spR (fun q : Nat × Nat => aAnd (q.1 ≤ 20 ∧ q.2 ≤ 20) (aCons (rInt (q.1 : Int)) (aCons (rInt (q.2 : Int)) aNil))) (fun q => rLs rCell (HM.allCells q.1 q.2))
theorem c_all_cells (F : Cs K mg) : Cal P w K mg base 1 "all_cells" (spCells) [] := by
  refine calG (N := ["first", "second", "i", "j"]) (ps := ["first", "second"]) F.d_all_cells (fun _ _ _ _ _ _ us hl => match us, hl with | [_, _], _ => rfl) (by decide +kernel) (len1 fun _ _ _ h => lC h.2 (fun _ h => lC h (fun _ => l0))) ?_
  rintro f cdv A outer s H vs Q E hr ⟨x, L, e, ⟨pre, ha⟩, k⟩
  have nd := (fnScope_by (N := ["first", "second", "i", "j"]) (P := ["first", "second"]) (sc := fnScope (topS 37)) (by decide +kernel)).nd
  have ok := ok0 e
  have hu := hu_of hr
  have hu0 := hr.units0
  have hu64 := hr.units
  refine ⟨_, (pss_one (ps_ret (pe_lc2 (own := [("i", 2), ("j", 3)]) (vs1 := [3]) rfl nd (pi_range2 rfl F.range (pa_cons pe_int (pa_cons (pe_op op_add (pv 0) pe_int) pa_nil))) (blkOk_by (N := ["first", "second", "i", "j"]) (sc := fnScope (topS 37)) (by decide +kernel)) (by decide) (fun _ _ _ _ _ => (pg_name (i := 2) nd rfl (Or.inl rfl))) (fun _ _ _ _ _ => pts_nil) (fun _ _ _ _ _ => (pi_range2 rfl F.range (pa_cons pe_int (pa_cons (pe_op op_add (pv 1) pe_int) pa_nil)))) (fun _ _ _ _ _ => (pg_name (i := 3) nd rfl (Or.inl rfl))) (fun _ _ _ _ _ => pts_nil) (fun _ _ _ _ _ => (pe_tup (pa_cons (pv 2) (pa_cons (pv 3) pa_nil))))))), ?_⟩
  obtain ⟨m, n⟩ := x
  obtain ⟨hm, hn⟩ := pre
  have hm : m ≤ 20 := hm
  have hn : n ≤ 20 := hn
  obtain ⟨_, _, rfl, rfl, rfl⟩ := a2 ha
  have e3 : (upto 1 (((m : Int) + 2) - 1).toNat).flatMap (fun a : Int => (upto 1 (((n : Int) + 2) - 1).toNat).map fun b : Int => (a.toNat, b.toNat)) = HM.allCells m n := by
    have e1 : (((m : Int) + 2) - 1).toNat = m + 1 := by omega
    have e2 : (((n : Int) + 2) - 1).toNat = n + 1 := by omega
    rw [e1, e2]
    unfold upto HM.allCells
    rw [List.flatMap_map]
    congr 1
    funext i
    rw [List.map_map]
    apply List.map_congr_left
    intro j _
    show ((1 + (i : Int)).toNat, (1 + (j : Int)).toNat) = (i + 1, j + 1)
    have e4 : (1 + (i : Int)).toNat = i + 1 := by omega
    have e5 : (1 + (j : Int)).toNat = j + 1 := by omega
    rw [e4, e5]
  refine gEnd ok (Stp.refl ok) k (geqLs (glc2 (W := rCell) (Y := rInt) (Z := rInt) (zs := fun _ => upto 1 (((n : Int) + 2) - 1).toNat) (fun a b : Int => (a.toNat, b.toNat)) (gi_rng2 (lo := 1) (n := (m : Int) + 2) (gaC (gc rfl) (gaC (gI0 (i := (m : Int)) (j := 2) (gv rfl rfl) (gc rfl) rfl) ga0)) (by omega)) (fun l hl => ?_) (fun a => by rw [upto_len]; omega) (fun _ => rfl) (fun _ => rfl) (fun _ _ => rfl)
    (fun a x' L1 ha' e1 hx => gi_rng2 (lo := 1) (n := (n : Int) + 2) (gaC (gc rfl) (gaC (gI0 (i := (n : Int)) (j := 2) (gv rfl rfl) (gc rfl) rfl) ga0)) (by omega)) (fun _ _ _ _ _ h => h) fun a x' b y' L1 ha' e1 hx hb hy => ?_) e3)
  · have h1 : ((upto 1 (((m : Int) + 2) - 1).toNat).take l).length ≤ 21 := by rw [List.length_take, upto_len]; omega
    simp only [List.length_flatMap, List.length_map, upto_len, List.map_const', List.sum_replicate_nat]
    have : (((n : Int) + 2) - 1).toNat ≤ 21 := by omega
    exact Nat.le_trans (Nat.mul_le_mul h1 this) (by decide)
  · obtain ⟨i, hi, rfl⟩ := List.mem_map.mp ha'
    obtain ⟨j, hj, rfl⟩ := List.mem_map.mp hb
    have e4 : (1 : Int) + (i : Int) = ((1 + (i : Int)).toNat : Nat) := by omega
    have e5 : (1 : Int) + (j : Int) = ((1 + (j : Int)).toNat : Nat) := by omega
    exact gpair (gv rfl (by rw [← e4]; exact hx)) (gv rfl (by rw [← e5]; exact hy))
end
end HW
/-! part W7 -/
set_option maxHeartbeats 4000000
/-! The common basis, the table. -/
namespace HW
open PySem PySem.Spec PyProof.Rows L2 HR HV C8
open Evl (Ex)
def ck (c : Nat × Nat) : List Key := [.inl (c.1 : Int), .inl (c.2 : Int)]
theorem ck_inj {c d : Nat × Nat} (h : ck c = ck d) : c = d := by
  unfold ck at h
  simp only [List.cons.injEq, Sum.inl.injEq, and_true] at h
  exact Prod.ext (by omega) (by omega)
/-- a table of numbers by cells -/
def tabK (l : List (Nat × Nat)) (f : Nat × Nat → Int) : List (List Key × V) := l.map fun c => (ck c, V.int (f c))
theorem tab_val {f : Nat × Nat → Int} : ∀ {l : List (Nat × Nat)} {c : Nat × Nat}, c ∈ l → valV (tabK l f) (ck c) = some (V.int (f c))
  | d :: l, c, h => by
    by_cases e : d = c
    · subst e; exact valV_pos rfl
    · have hm : c ∈ l := by
        rcases List.mem_cons.mp h with h | h
        · exact absurd h.symm e
        · exact h
      exact (valV_neg (p := (ck d, V.int (f d))) (r := tabK l f) (fun z => e (ck_inj z))).trans (tab_val hm)
theorem tab_none {f : Nat × Nat → Int} : ∀ {l : List (Nat × Nat)} {c : Nat × Nat}, c ∉ l → valV (tabK l f) (ck c) = none
  | [], _, _ => rfl
  | d :: l, c, h => (valV_neg (p := (ck d, V.int (f d))) (r := tabK l f) (fun z => h (by rw [ck_inj z]; exact List.mem_cons_self))).trans (tab_none fun hm => h (List.mem_cons_of_mem _ hm))
theorem tab_put {f : Nat × Nat → Int} {l : List (Nat × Nat)} {c : Nat × Nat} (h : c ∈ l) (i : Int) : putK (tabK l f) (ck c) (V.int i) = tabK l fun d => if d = c then i else f d := by
  have ha : ((tabK l f).any fun kv => decide (kv.1 = ck c)) = true := by
    rw [valV_any, tab_val h]; rfl
  unfold putK
  rw [if_pos ha]
  unfold tabK
  rw [List.map_map]
  apply List.map_congr_left
  intro d _
  show (if ck d = ck c then (ck d, V.int i) else (ck d, V.int (f d))) = (ck d, V.int (if d = c then i else f d))
  by_cases e : d = c
  · rw [if_pos (by rw [e]), if_pos e]
  · rw [if_neg (fun z => e (ck_inj z)), if_neg e]
theorem tab_new {f : Nat × Nat → Int} {l : List (Nat × Nat)} {c : Nat × Nat} (h : c ∉ l) : putK (tabK l f) (ck c) (V.int (f c)) = tabK (l ++ [c]) f := by
  rw [putK_new _ (tab_none h)]
  unfold tabK
  rw [List.map_append]; rfl
theorem tab_congr {f g : Nat × Nat → Int} {l : List (Nat × Nat)} (h : ∀ c ∈ l, f c = g c) : tabK l f = tabK l g := by
  unfold tabK
  apply List.map_congr_left
  intro c hc
  rw [h c hc]
theorem cells_nodup (m n : Nat) : (HM.allCells m n).Nodup := by
  unfold HM.allCells
  unfold List.Nodup
  rw [List.pairwise_flatMap]
  refine ⟨fun i _ => ?_, ?_⟩
  · rw [List.pairwise_map]
    exact List.nodup_range.imp fun h e => h (by injection e with _ h2; omega)
  · refine List.nodup_range.imp fun {a b} h x hx y hy e => h ?_
    obtain ⟨i, _, rfl⟩ := List.mem_map.mp hx
    obtain ⟨j, _, rfl⟩ := List.mem_map.mp hy
    injection e with h1 _
    omega
/-- how many of the list stand at the cell -/
def cn (l : List ((Nat × Nat) × List Int)) (c : Nat × Nat) : Int := ((l.filter fun q => decide (q.1 = c)).length : Nat)
theorem cn_snoc (l : List ((Nat × Nat) × List Int)) (q : (Nat × Nat) × List Int) (c : Nat × Nat) : cn (l ++ [q]) c = if c = q.1 then cn l q.1 + 1 else cn l c := by
  unfold cn
  rw [List.filter_append, List.length_append]
  by_cases e : c = q.1
  · subst e; simp
  · have e' : ¬ q.1 = c := fun z => e z.symm
    simp [e, e']
theorem cn_out {V' : Nat × Nat → List (List Int)} : ∀ {l : List (Nat × Nat)} {c : Nat × Nat}, c ∉ l → cn (l.flatMap fun d => (V' d).map fun v => (d, v)) c = 0
  | [], _, _ => rfl
  | d :: l, c, h => by
    have e : d ≠ c := fun z => h (by rw [z]; exact List.mem_cons_self)
    have ih := cn_out (V' := V') (l := l) (c := c) fun hm => h (List.mem_cons_of_mem _ hm)
    unfold cn at ih ⊢
    rw [List.flatMap_cons, List.filter_append, List.length_append, List.filter_eq_nil_iff.mpr (by
      intro q hq
      obtain ⟨v, _, rfl⟩ := List.mem_map.mp hq
      simpa using e)]
    simpa using ih
theorem cn_in {V' : Nat × Nat → List (List Int)} : ∀ {l : List (Nat × Nat)} {c : Nat × Nat}, l.Nodup → c ∈ l → cn (l.flatMap fun d => (V' d).map fun v => (d, v)) c = ((V' c).length : Nat)
  | d :: l, c, hn, h => by
    have hn' := List.nodup_cons.mp hn
    by_cases e : d = c
    · subst e
      have h0 := cn_out (V' := V') hn'.1
      unfold cn at h0 ⊢
      rw [List.flatMap_cons, List.filter_append, List.length_append, List.filter_eq_self.mpr (by
        intro q hq
        obtain ⟨v, _, rfl⟩ := List.mem_map.mp hq
        simp), List.length_map]
      omega
    · have hm : c ∈ l := by
        rcases List.mem_cons.mp h with h | h
        · exact absurd h.symm e
        · exact h
      have ih := cn_in (V' := V') hn'.2 hm
      unfold cn at ih ⊢
      rw [List.flatMap_cons, List.filter_append, List.length_append, List.filter_eq_nil_iff.mpr (by
        intro q hq
        obtain ⟨v, _, rfl⟩ := List.mem_map.mp hq
        simpa using e)]
      simpa using ih
def rTr : (Nat × Nat) × List Int → Rep := fun q => rTup (aCons (rInt (q.1.1 : Int)) (aCons (rInt (q.1.2 : Int)) (aCons (rVec q.2) aNil)))
instance {q : (Nat × Nat) × List Int} : Gr (rTr q) := inferInstanceAs (Gr (rTup _))
def rTab (l : List (Nat × Nat)) (f : Nat × Nat → Int) : Rep := fun v L => ∃ d, v = .ref d ∧ L d = some (.dT (tabK l f))
instance {l : List (Nat × Nat)} {f : Nat × Nat → Int} : Gr (rTab l f) := ⟨fun v H H' e ⟨d, h1, h2⟩ => ⟨d, h1, e d _ h2⟩⟩
def Chs.A (c : Chs) : Nat → List (List Int) := lev c.p c.n c.a
def Chs.B (c : Chs) : Nat → List (List Int) := lev c.p c.n c.b
def Chs.cells (c : Chs) : List (Nat × Nat) := HM.allCells c.a.length c.b.length
def Chs.cellV (c : Chs) : Nat × Nat → List (List Int) := HM.cellV c.p c.n c.A c.B
def Chs.basis (c : Chs) : List ((Nat × Nat) × List Int) := c.cells.flatMap fun d => (c.cellV d).map fun v => (d, v)
theorem Chs.cells_len {c : Chs} (h : c.ok) : c.cells.length ≤ 441 := by
  unfold Chs.cells HM.allCells
  have h1 := h.la.2
  have h2 := h.lb
  simp only [List.length_flatMap, List.length_map, List.length_range, List.map_const', List.sum_replicate_nat]
  exact Nat.le_trans (Nat.mul_le_mul (show c.a.length + 1 ≤ 21 by omega) (show c.b.length + 1 ≤ 21 by omega)) (by decide)
theorem ext_len {p : Int} {n : Nat} : ∀ {rs rows : List (List Int)}, (HM.extend p n rows rs).length ≤ rs.length
  | [], _ => Nat.le_refl _
  | r :: rs, rows => by
    unfold HM.extend
    split
    · rw [List.length_cons, List.length_cons]; exact Nat.succ_le_succ ext_len
    · rw [List.length_cons]; exact Nat.le_succ_of_le ext_len
theorem Chs.cellV_len {c : Chs} (h : c.ok) (d : Nat × Nat) : (c.cellV d).length ≤ 12 := by
  have hr : HM.Red c.p c.n (HM.meetRows c.p c.n (c.A d.1) (c.B d.2)) := HM.meetRows_red h.hp (Chs.lev_red h h.ra _) (Chs.lev_red h h.rb _)
  have := red_len h.hp hr
  have h2 := h.hn
  have : (c.cellV d).length ≤ (HM.meetRows c.p c.n (c.A d.1) (c.B d.2)).length := ext_len
  omega
theorem flat_len {V' : Nat × Nat → List (List Int)} {m : Nat} (hV : ∀ d, (V' d).length ≤ m) : ∀ l : List (Nat × Nat), (l.flatMap fun d => (V' d).map fun v => (d, v)).length ≤ l.length * m
  | [] => by simp
  | d :: l => by
    have := flat_len hV l
    have h2 := hV d
    rw [List.flatMap_cons, List.length_append, List.length_map, List.length_cons, Nat.succ_mul]
    omega
section
variable {K : PySem.W.Frag} {mg : Str → Option Value} {T : Tap} {L L0 H0 H : Hp} {σ : L2.St} {ta tb tc te : TE} {R Ra Rb Rc : Rep} {A A' : RepA} {x y v : V} {c : Chs} {D : Ends} {tz : TS} {ι : Type}
/-- l += e, l our own -/
theorem gExt {i : Nat} {p : Addr} {xs : List V} {ys : List ι} {R : ι → Rep} (ok : Ok T L0 H0) (S : Stp T L0 H0 L H) (hi : σ[i]? = some (some (.ref p))) (hp : Prv H0 L H p (.lst xs)) (hz : xs.length + ys.length ≤ 100000) (h : Go T L (te σ) (rLs R ys))
    (k : ∀ vs L1 H1, Stp T L0 H0 L1 H1 → Ex L L1 → Pd R ys vs L1 → Prv H0 L1 H1 p (.lst (xs ++ vs)) → D.nx (σ.set i (some (.ref p))) H1) : tAug i te rExt2 D σ H :=
  ⟨_, hi, h H (S.ok ok) _ fun v L1 H1 s1 ⟨b, vs, e, h1, h2⟩ => by
    have hp1 := hp.step ok s1
    exact ⟨p, b, xs, vs, rfl, e, hp1.at_, s1.lh b _ h1, Evl.sz_of (by rw [Pd.length h2]; exact hz), k vs L1 _ (Stp.chg ok (S.trans s1) hp1) s1.ll h2 hp1.set⟩⟩
/-- {c: 0 for c in cells} -/
theorem gdc0 {wi : TI} {tk tv : TE} {vs : List Nat} {j : Nat} {i : Nat} {l : List (Nat × Nat)} (ok : Ok T L0 H0) (S : Stp T L0 H0 L H) (hi : Go T L (wi σ) (rIt T l rCell)) (hl : l.length ≤ 1000) (hn : l.Nodup) (hw : ∀ x, wipe ((wipe σ vs).set j (some x)) vs = wipe σ vs)
    (hk : ∀ (a : Nat × Nat) x L1, rCell a x L1 → Go T L1 (tk ((wipe σ vs).set j (some x))) (rCell a)) (hv : ∀ x L1, Go T L1 (tv ((wipe σ vs).set j (some x))) (rInt 0))
    (k : ∀ d L1 H1, Stp T L0 H0 L1 H1 → Ex L L1 → Prv H0 L1 H1 d (.dT (tabK l fun _ => 0)) → tz D (σ.set i (some (.ref d))) H1) : tSeq (tAsg (tDcT wi (gName j) tYes tk tv vs) (gName i)) tz D σ H := hi H (S.ok ok) _ fun J L1 H1 s1 w D' hD => by
  have ok1 := s1.ok (S.ok ok)
  have S1 := S.trans s1
  refine ⟨fun i m H' => m = l.length - i ∧ i ≤ l.length ∧ ∃ L', Stp T L0 H0 L' H' ∧ Ex L1 L' ∧ Prv H0 L' H' D' (.dT (tabK (l.take i) fun _ => 0)), ⟨_, rfl, Nat.zero_le _, L1, Stp.add ok S1 hD, Evl.Ex.refl _, Prv.new ok S1 hD⟩, ?_⟩
  rintro i m Ha ⟨rfl, hi', La, Sa, ea, pa⟩
  by_cases hlt : i < l.length
  · refine Or.inr ⟨w.goes i Ha hlt (ea.trans Sa.lh), fun H' => i + 1 ≤ l.length ∧ ∃ L', Stp T L0 H0 L' H' ∧ Ex L1 L' ∧ Prv H0 L' H' D' (.dT (tabK (l.take (i + 1)) fun _ => 0)), fun H' h => ⟨l.length - (i + 1), by omega, rfl, h⟩, fun x Hb y => ?_⟩
    obtain ⟨Lb, a, s2, ha, hY⟩ := w.yields i Ha x Hb hlt (ea.trans Sa.lh) y La ea (Sa.ok ok)
    have Sb := Sa.trans s2
    refine ⟨hw x, ?_⟩
    refine hk a x Lb hY Hb (Sb.ok ok) _ fun u Lc Hc s3 ru => ?_
    refine hv x Lc Hc ((Sb.trans s3).ok ok) _ fun z Ld Hd s4 rz => ?_
    obtain rfl : z = .int 0 := rz
    have pd := ((pa.step ok s2).step ok s3).step ok s4
    obtain ⟨b, us, rfl, hb, hus⟩ := up s4.ll ru
    obtain ⟨u1, u2, rfl, rfl, rfl⟩ := a2 hus
    have hnew : a ∉ l.take i := fun hm => by
      obtain ⟨j, hj, hje⟩ := List.getElem_of_mem hm
      rw [List.length_take] at hj
      rw [List.getElem_take] at hje
      obtain ⟨h3, h4⟩ := List.getElem?_eq_some_iff.mp ha
      have : j = i := (List.getElem_inj hn).mp (hje.trans h4.symm)
      omega
    refine ⟨_, ck a, b, rfl, s4.lh b _ hb, pd.at_, ?_, hlt, Ld, Stp.chg ok ((Sb.trans s3).trans s4) pd, ea.trans (s2.ll.trans (s3.ll.trans s4.ll)), ?_⟩
    · unfold tabK
      rw [List.length_map, List.length_take]
      exact Evl.sz_lt (by omega)
    · rw [take_at ha, ← tab_new (f := fun _ => 0) hnew]
      exact pd.set
  · have e1 : i = l.length := by omega
    subst e1
    rw [List.take_length] at pa
    exact Or.inl ⟨w.stops Ha (ea.trans Sa.lh), k D' La Ha Sa (s1.ll.trans ea) pa⟩
end
section
variable {P : Program} {w : World} {K : PySem.W.Frag} {mg : Str → Option Value} {base : Heap}
def spBasis (K : PySem.W.Frag) : Sp := spR (fun c : Chs => aAnd c.ok (aCons (rCh K c) aNil)) (fun c => rLs rTr c.basis)
theorem c_common_basis (F : Cs K mg) : Cal P w K mg base 9 "common_basis" (spBasis K) [] := by
  refine calG (N := ["chains", "found", "i", "j", "here", "left", "below", "vector"]) (ps := ["chains"]) F.d_common_basis (fun _ _ _ _ _ _ us hl => match us, hl with | [_], _ => rfl) (by decide +kernel) (len1 fun _ _ _ h => lC h.2 (fun _ => l0)) ?_
  rintro f cdv A outer s H vs Q E hr ⟨x, L, e, ⟨pre, ha⟩, k⟩
  have nd := (fnScope_by (N := ["chains", "found", "i", "j", "here", "left", "below", "vector"]) (P := ["chains"]) (sc := fnScope (topS 38)) (by decide +kernel)).nd
  have ok := ok0 e
  have hu := hu_of hr
  have hu0 := hr.units0
  have hu64 := hr.units
  refine ⟨_, (pss_cons (ps_set (i := 1) nd rfl (by first | exact Or.inl rfl | exact Or.inr rfl) (pe_lst pa_nil))
  (pss_cons (ps_for PassesOwn.never rfl (kpi_list K rfl (pe_c (c_all_cells F) hr (by decide) rfl (pa_cons (pe_callB (klen K rfl) rfl F.len bt_len (pa_cons (kfld K rfl (pv 0) rfl) pa_nil)) (pa_cons (pe_callB (klen K rfl) rfl F.len bt_len (pa_cons (kfld K rfl (pv 0) rfl) pa_nil)) pa_nil)))) (pg_tup rfl (pgs_cons (pg_name (i := 2) nd rfl (by first | exact Or.inl rfl | exact Or.inr rfl)) (pgs_cons (pg_name (i := 3) nd rfl (by first | exact Or.inl rfl | exact Or.inr rfl)) pgs_nil))) (pss_cons (ps_set (i := 4) nd rfl (by first | exact Or.inl rfl | exact Or.inr rfl) (pe_op (oB K rfl F.sfS F.sAnd.me (n_Space_and F) hr (by decide)) (pe_c (c_space_at F) hr (by decide) rfl (pa_cons (pv 0) (pa_cons pe_str (pa_cons (pv 2) pa_nil)))) (pe_c (c_space_at F) hr (by decide) rfl (pa_cons (pv 0) (pa_cons pe_str (pa_cons (pv 3) pa_nil))))))
  (pss_cons (ps_set (i := 5) nd rfl (by first | exact Or.inl rfl | exact Or.inr rfl) (pe_op (oB K rfl F.sfS F.sAnd.me (n_Space_and F) hr (by decide)) (pe_c (c_space_at F) hr (by decide) rfl (pa_cons (pv 0) (pa_cons pe_str (pa_cons (pe_op op_sub (pv 2) pe_int) pa_nil)))) (pv 4)))
  (pss_cons (ps_set (i := 6) nd rfl (by first | exact Or.inl rfl | exact Or.inr rfl) (pe_op (oB K rfl F.sfS F.sAnd.me (n_Space_and F) hr (by decide)) (pe_c (c_space_at F) hr (by decide) rfl (pa_cons (pv 0) (pa_cons pe_str (pa_cons (pe_op op_sub (pv 3) pe_int) pa_nil)))) (pv 4)))
  (pss_one (ps_aug (i := 1) nd rfl (by first | exact Or.inl rfl | exact Or.inr rfl) (pe_lc (own := [("vector", 7)]) rfl nd (kpi_list K rfl (pe_c (c_extension F) hr (by decide) rfl (pa_cons (pe_op (oB K rfl F.sfS F.sAdd.me (n_Space_add F) hr (by decide)) (pv 5) (pv 6)) (pa_cons (pv 4) pa_nil)))) (blkOk_by (N := ["chains", "found", "i", "j", "here", "left", "below", "vector"]) (sc := fnScope (topS 38)) (by decide +kernel)) (fun _ _ _ _ _ => (pg_name (i := 7) nd rfl (Or.inl rfl))) (fun _ _ _ _ _ => pts_nil) (fun _ _ _ _ _ => (pe_tup (pa_cons (pv 2) (pa_cons (pv 3) (pa_cons (pv 7) pa_nil)))))) iop_ext))))))
  (pss_one (ps_ret (pv 1))))), ?_⟩
  have hc : x.ok := pre
  obtain ⟨v1, rfl, h1⟩ := a1 ha
  refine gSetP ok (Stp.refl ok) fun pf H1 S1 s1 pv1 => ?_
  have hcl := Chs.cells_len hc
  refine gForS ok S1 (gi_list (gcp (R := fun q : Nat × Nat => rLs rCell (HM.allCells q.1 q.2)) (x.a.length, x.b.length) ⟨hc.la.2, hc.lb⟩ (gaC (glen (sqOfT (R := rV v1) (gfirst F (gv rfl h1))) fun vs L' h => Pd.length h) (gaC (glen (sqOfT (R := rV v1) (gsecond F (gv rfl h1))) fun vs L' h => Pd.length h) ga0)))) (fun i σ' La Ha => ∃ u1 u2 u3 u4 u5 acc, σ' = [some v1, some (.ref pf), u1, u2, u3, u4, u5, none] ∧ Prv H La Ha pf (.lst acc) ∧ Pd rTr ((x.cells.take i).flatMap fun d => (x.cellV d).map fun v => (d, v)) acc La) ?_ ?_ ?_
  · intro L2 H2 _ s2
    exact ⟨_, _, _, _, _, [], rfl, pv1.step ok s2, trivial⟩
  · rintro Lm em i d x' σ' La Ha Lb Hb hd' Sa ea ⟨u1, u2, u3, u4, u5, acc, rfl, pva, hd⟩ sb hx
    have hmem : d ∈ HM.allCells x.a.length x.b.length := List.mem_of_getElem? hd'
    obtain ⟨i1, i2, j1, j2⟩ := HM.mem_cells.mp hmem
    have l1 := hc.la.2
    have l2 := hc.lb
    refine g_pair sb.lh hx fun w1 w2 hw1 hw2 => ?_
    obtain rfl : w1 = .int (d.1 : Int) := hw1
    obtain rfl : w2 = .int (d.2 : Int) := hw2
    have Sb := Sa.trans sb
    have h1b := up (em.trans (ea.trans sb.ll)) h1
    have okA : ∀ k, (x.sp (x.A k)).ok := fun k => ⟨hc.hp, hc.hn, Chs.lev_red hc hc.ra k⟩
    have okB : ∀ k, (x.sp (x.B k)).ok := fun k => ⟨hc.hp, hc.hn, Chs.lev_red hc hc.rb k⟩
    have cell := (Chs.ch hc).cell hc.hp i1 i2 j1 j2
    have okM : ∀ a b, (x.sp a).ok → (x.sp b).ok → (x.sp (HM.meetRows x.p x.n a b)).ok := fun a b oa ob => ⟨hc.hp, hc.hn, HM.meetRows_red hc.hp oa.2.2 ob.2.2⟩
    refine gSet ok Sb (gown2 (R := fun q : Spc × Spc => rSp K ⟨q.1.p, q.1.n, HM.meetRows q.1.p q.1.n q.1.rows q.2.rows⟩) (x.sp (x.A d.1), x.sp (x.B d.2)) ⟨okA _, okB _, rfl, rfl⟩
      (gcp (R := fun q : Chs × Bool × Nat => rSp K (q.1.sp (lev q.1.p q.1.n (q.1.side q.2.1) q.2.2))) (x, true, d.1) ⟨hc, by show d.1 ≤ 100; omega⟩ (gaC (gv rfl h1b) (gaC (gc rfl) (gaC (gv rfl rfl) ga0))))
      (gcp (R := fun q : Chs × Bool × Nat => rSp K (q.1.sp (lev q.1.p q.1.n (q.1.side q.2.1) q.2.2))) (x, false, d.2) ⟨hc, by show d.2 ≤ 100; omega⟩ (gaC (gv rfl h1b) (gaC (gc rfl) (gaC (gv rfl rfl) ga0)))) (fun _ _ => rSp_ins) (fun _ _ => rSp_ins)) fun vh L3 H3 S3 s3 r3 => ?_
    have r3 : rSp K (x.sp (HM.meetRows x.p x.n (x.A d.1) (x.B d.2))) vh L3 := r3
    have okH := okM _ _ (okA d.1) (okB d.2)
    have e8 : (d.1 : Int) - 1 = ((d.1 - 1 : Nat) : Int) := by omega
    have e9 : (d.2 : Int) - 1 = ((d.2 - 1 : Nat) : Int) := by omega
    refine gSet ok S3 (gown2 (R := fun q : Spc × Spc => rSp K ⟨q.1.p, q.1.n, HM.meetRows q.1.p q.1.n q.1.rows q.2.rows⟩) (x.sp (x.A (d.1 - 1)), x.sp (HM.meetRows x.p x.n (x.A d.1) (x.B d.2))) ⟨okA _, okH, rfl, rfl⟩
      (gcp (R := fun q : Chs × Bool × Nat => rSp K (q.1.sp (lev q.1.p q.1.n (q.1.side q.2.1) q.2.2))) (x, true, d.1 - 1) ⟨hc, by show d.1 - 1 ≤ 100; omega⟩ (gaC (gv rfl (up s3.ll h1b)) (gaC (gc rfl) (gaC (geqI (gI0 (i := (d.1 : Int)) (j := 1) (R := rInt ((d.1 : Int) - 1)) (gv rfl rfl) (gc rfl) rfl) e8) ga0))))
      (gv rfl r3) (fun _ _ => rSp_ins) (fun _ _ => rSp_ins)) fun vl L4 H4 S4 s4 r4 => ?_
    refine gSet ok S4 (gown2 (R := fun q : Spc × Spc => rSp K ⟨q.1.p, q.1.n, HM.meetRows q.1.p q.1.n q.1.rows q.2.rows⟩) (x.sp (x.B (d.2 - 1)), x.sp (HM.meetRows x.p x.n (x.A d.1) (x.B d.2))) ⟨okB _, okH, rfl, rfl⟩
      (gcp (R := fun q : Chs × Bool × Nat => rSp K (q.1.sp (lev q.1.p q.1.n (q.1.side q.2.1) q.2.2))) (x, false, d.2 - 1) ⟨hc, by show d.2 - 1 ≤ 100; omega⟩ (gaC (gv rfl (up (s3.ll.trans s4.ll) h1b)) (gaC (gc rfl) (gaC (geqI (gI0 (i := (d.2 : Int)) (j := 1) (R := rInt ((d.2 : Int) - 1)) (gv rfl rfl) (gc rfl) rfl) e9) ga0))))
      (gv rfl (up s4.ll r3)) (fun _ _ => rSp_ins) (fun _ _ => rSp_ins)) fun vb L5 H5 S5 s5 r5 => ?_
    have pv5 := (((pva.step ok sb).step ok s3).step ok s4).step ok s5
    have ex5 := sb.ll.trans (s3.ll.trans (s4.ll.trans s5.ll))
    have r3' := up (s4.ll.trans s5.ll) r3
    have r4' := up s5.ll r4
    have hacc : acc.length ≤ 441 * 12 := by
      have e1 : acc.length = _ := Pd.length hd
      have e2 := flat_len (V' := x.cellV) (Chs.cellV_len hc) (x.cells.take i)
      have e3 : (x.cells.take i).length ≤ 441 := by rw [List.length_take]; omega
      rw [e1]
      exact Nat.le_trans e2 (Nat.mul_le_mul_right 12 e3)
    have hcv := Chs.cellV_len hc d
    refine gExt ok S5 rfl pv5 (ys := (x.cellV d).map fun v => (d, v)) (R := rTr) (by simp only [List.length_map]; omega) (glc1 (Z := rTr) (fun v : List Int => (d, v)) (gi_list (gcp (R := fun q : Spc × Spc => rLs rVec (HM.extend q.1.p q.1.n q.1.rows q.2.rows)) (x.sp (HM.addRows x.p (HM.meetRows x.p x.n (x.A (d.1 - 1)) (HM.meetRows x.p x.n (x.A d.1) (x.B d.2))) (HM.meetRows x.p x.n (x.B (d.2 - 1)) (HM.meetRows x.p x.n (x.A d.1) (x.B d.2)))), x.sp (HM.meetRows x.p x.n (x.A d.1) (x.B d.2)))
      ⟨⟨hc.hp, hc.hn, HM.addRows_red hc.hp (okM _ _ (okA _) okH).2.2 (okM _ _ (okB _) okH).2.2⟩, okH, rfl, rfl, cell.le⟩ (gaC (gown2 (R := fun q : Spc × Spc => rSp K ⟨q.1.p, q.1.n, HM.addRows q.1.p q.1.rows q.2.rows⟩) (x.sp (HM.meetRows x.p x.n (x.A (d.1 - 1)) (HM.meetRows x.p x.n (x.A d.1) (x.B d.2))), x.sp (HM.meetRows x.p x.n (x.B (d.2 - 1)) (HM.meetRows x.p x.n (x.A d.1) (x.B d.2)))) ⟨okM _ _ (okA _) okH, okM _ _ (okB _) okH, rfl, rfl⟩ (gv rfl r4') (gv rfl r5) (fun _ _ => rSp_ins) (fun _ _ => rSp_ins)) (gaC (gv rfl r3') ga0))))
      (by show (x.cellV d).length ≤ 40000; omega) (fun _ => rfl) fun v xv L6 hv e6 hxv => gtup (gaC (gv rfl rfl) (gaC (gv rfl rfl) (gaC (gv rfl hxv) ga0))) fun vs L' h => by
        have := lC h (fun _ h => lC h (fun _ h => lC h (fun _ => l0)))
        omega) fun vs L6 H6 S6 e6 hvs pv6 => ?_
    refine ⟨L6, S6, ea.trans (ex5.trans e6), _, _, _, _, _, acc ++ vs, rfl, pv6, ?_⟩
    have e7 : (x.cells.take (i + 1)).flatMap (fun d => (x.cellV d).map fun v => (d, v)) = (x.cells.take i).flatMap (fun d => (x.cellV d).map fun v => (d, v)) ++ (x.cellV d).map fun v => (d, v) := by
      rw [take_at (ys := x.cells) hd', List.flatMap_append]; simp
    rw [e7]
    exact Pd.app (hd.up (ex5.trans e6)) hvs
  · rintro σ' La Ha Sa ea ⟨u1, u2, u3, u4, u5, acc, rfl, pva, hd⟩
    have e0 : (x.cells.take (HM.allCells x.a.length x.b.length).length).flatMap (fun d => (x.cellV d).map fun v => (d, v)) = x.basis := by
      show (x.cells.take x.cells.length).flatMap _ = _
      rw [List.take_length]; rfl
    exact gEndP ok Sa k rfl pva (by rw [← e0]; exact hd)
def spTable (K : PySem.W.Frag) : Sp := spR (fun c : Chs => aAnd c.ok (aCons (rCh K c) aNil)) (fun c => rTab c.cells fun d => ((c.cellV d).length : Nat))
theorem c_cell_table (F : Cs K mg) : Cal P w K mg base 10 "cell_table" (spTable K) [] := by
  refine calG (N := ["chains", "found", "i", "j", "vector", "cell"]) (ps := ["chains"]) F.d_cell_table (fun _ _ _ _ _ _ us hl => match us, hl with | [_], _ => rfl) (by decide +kernel) (len1 fun _ _ _ h => lC h.2 (fun _ => l0)) ?_
  rintro f cdv A outer s H vs Q E hr ⟨x, L, e, ⟨pre, ha⟩, k⟩
  have nd := (fnScope_by (N := ["chains", "found", "i", "j", "vector", "cell"]) (P := ["chains"]) (sc := fnScope (topS 39)) (by decide +kernel)).nd
  have ok := ok0 e
  have hu := hu_of hr
  have hu0 := hr.units0
  have hu64 := hr.units
  refine ⟨_, (pss_cons (ps_setDcT hu0 (i := 1) (own := [("cell", 5)]) rfl nd rfl rfl (sw_trueD rfl rfl rfl (by decide +kernel)) (kpi_list K rfl (pe_c (c_all_cells F) hr (by decide) rfl (pa_cons (pe_callB (klen K rfl) rfl F.len bt_len (pa_cons (kfld K rfl (pv 0) rfl) pa_nil)) (pa_cons (pe_callB (klen K rfl) rfl F.len bt_len (pa_cons (kfld K rfl (pv 0) rfl) pa_nil)) pa_nil)))) (blkOk_by (N := ["chains", "found", "i", "j", "vector", "cell"]) (sc := fnScope (topS 39)) (by decide +kernel)) (fun _ _ _ _ _ => (pg_name (i := 5) nd rfl (Or.inl rfl))) (fun _ _ _ _ _ => pts_nil) (fun _ _ _ _ _ => (pv 5)) (fun _ _ _ _ _ => pe_int))
  (pss_cons (ps_for PassesOwn.never rfl (kpi_list K rfl (pe_c (c_common_basis F) hr (by decide) rfl (pa_cons (pv 0) pa_nil))) (pg_tup rfl (pgs_cons (pg_name (i := 2) nd rfl (by first | exact Or.inl rfl | exact Or.inr rfl)) (pgs_cons (pg_name (i := 3) nd rfl (by first | exact Or.inl rfl | exact Or.inr rfl)) (pgs_cons (pg_name (i := 4) nd rfl (by first | exact Or.inl rfl | exact Or.inr rfl)) pgs_nil)))) (pss_one (ps_daug hu (pv 1) (pe_tup (pa_cons (pv 2) (pa_cons (pv 3) pa_nil))) pe_int in_add (by intros; rfl))))
  (pss_one (ps_ret (pv 1))))), ?_⟩
  have hc : x.ok := pre
  obtain ⟨v1, rfl, h1⟩ := a1 ha
  have hcl := Chs.cells_len hc
  refine gdc0 (l := x.cells) ok (Stp.refl ok) (gi_list (gcp (R := fun q : Nat × Nat => rLs rCell (HM.allCells q.1 q.2)) (x.a.length, x.b.length) ⟨hc.la.2, hc.lb⟩ (gaC (glen (sqOfT (R := rV v1) (gfirst F (gv rfl h1))) fun vs L' h => Pd.length h) (gaC (glen (sqOfT (R := rV v1) (gsecond F (gv rfl h1))) fun vs L' h => Pd.length h) ga0)))) (by omega) (cells_nodup _ _) (fun _ => rfl) (fun a xa L1 h => gv rfl h) (fun xa L1 => gc rfl) fun d L1 H1 S1 e1 pv1 => ?_
  refine gForS ok S1 (gi_list (gcp (R := fun c : Chs => rLs rTr c.basis) x hc (gaC (gv rfl (up e1 h1)) ga0))) (fun i σ' La Ha => ∃ u1 u2 u3, σ' = [some v1, some (.ref d), u1, u2, u3, none] ∧ Prv H La Ha d (.dT (tabK x.cells (cn (x.basis.take i))))) ?_ ?_ ?_
  · intro L2 H2 _ s2
    exact ⟨_, _, _, rfl, (pv1.step ok s2)⟩
  · rintro Lm em i q x' σ' La Ha Lb Hb hq' Sa ea ⟨u1, u2, u3, rfl, pva⟩ sb hx
    refine g_triple sb.lh hx fun w1 w2 w3 hw1 hw2 hw3 => ?_
    obtain rfl : w1 = .int (q.1.1 : Int) := hw1
    obtain rfl : w2 = .int (q.1.2 : Int) := hw2
    have Sb := Sa.trans sb
    have hmem : q.1 ∈ x.cells := by
      obtain ⟨c', hc', hq2⟩ := List.mem_flatMap.mp (List.mem_of_getElem? hq')
      obtain ⟨v', _, rfl⟩ := List.mem_map.mp hq2
      exact hc'
    refine ⟨_, rfl, ?_⟩
    refine gpair (Ra := rInt (q.1.1 : Int)) (Rb := rInt (q.1.2 : Int)) (L := Lb) (gv rfl rfl) (gv rfl rfl) Hb (Sb.ok ok) _ fun vk L3 H3 s3 r3 => ?_
    have pv3 := (pva.step ok sb).step ok s3
    obtain ⟨b, us, rfl, hb, hus⟩ := r3
    obtain ⟨z1, z2, rfl, rfl, rfl⟩ := a2 hus
    have hb3 := s3.lh b _ hb
    refine ⟨d, V.int (cn (x.basis.take i) q.1), rfl, ?_, ?_⟩
    · have := DGet.t (H := H3) (a := d) (b := b) (k := ck q.1) pv3.at_ hb3
      rwa [tab_val hmem] at this
    · refine ⟨_, _, rfl, rfl, ?_⟩
      refine ⟨_, DPut.t (k := ck q.1) pv3.at_ hb3 (by unfold tabK; rw [List.length_map]; exact Evl.sz_lt (by omega)), ?_⟩
      refine ⟨L3, Stp.chg ok (Sb.trans s3) pv3, ea.trans (sb.ll.trans s3.ll), _, _, _, rfl, ?_⟩
      rw [tab_put hmem]
      have e2 : tabK x.cells (fun c => if c = q.1 then cn (x.basis.take i) q.1 + 1 else cn (x.basis.take i) c) = tabK x.cells (cn (x.basis.take (i + 1))) := tab_congr fun c _ => by rw [take_at hq', cn_snoc]
      rw [e2]
      exact pv3.set
  · rintro σ' La Ha Sa ea ⟨u1, u2, u3, rfl, pva⟩
    have e2 : tabK x.cells (cn (x.basis.take x.basis.length)) = tabK x.cells fun d => ((x.cellV d).length : Nat) := tab_congr fun c hc' => by
      rw [List.take_length]
      exact cn_in (cells_nodup _ _) hc'
    rw [e2] at pva
    exact ⟨_, rfl, k _ _ _ (Sa.pub pva) ⟨d, rfl, upd_same⟩⟩
end
end HW
/-! part W8 -/
set_option maxHeartbeats 4000000
/-! Words over the chains. -/
namespace HW
open PySem PySem.Spec PyProof.Rows L2 HR HV C8
open Evl (Ex)
open HM (CW)
def dep : CW → Nat
  | .plus x y => max (dep x) (dep y) + 1
  | .cut x y => max (dep x) (dep y) + 1
  | _ => 0
def wsg : CW → Str
  | .zero => "0"
  | .one => "1"
  | .a _ => "a"
  | .b _ => "b"
  | .plus _ _ => "+"
  | .cut _ _ => "&"
def rW : CW → Rep
  | .zero => rTup (aCons (rV (.str "0")) aNil)
  | .one => rTup (aCons (rV (.str "1")) aNil)
  | .a k => rPr (rV (.str "a")) (rInt (k : Int))
  | .b k => rPr (rV (.str "b")) (rInt (k : Int))
  | .plus x y => rTup (aCons (rV (.str "+")) (aCons (rW x) (aCons (rW y) aNil)))
  | .cut x y => rTup (aCons (rV (.str "&")) (aCons (rW x) (aCons (rW y) aNil)))
theorem rW_up {H H' : Hp} (e : Ex H H') : ∀ (w : CW) (v : V), rW w v H → rW w v H'
  | .zero, v, h => Gr.up (R := rTup (aCons (rV (.str "0")) aNil)) v H H' e h
  | .one, v, h => Gr.up (R := rTup (aCons (rV (.str "1")) aNil)) v H H' e h
  | .a k, v, h => Gr.up (R := rPr (rV (.str "a")) (rInt (k : Int))) v H H' e h
  | .b k, v, h => Gr.up (R := rPr (rV (.str "b")) (rInt (k : Int))) v H H' e h
  | .plus x y, v, h => by
    obtain ⟨p, vs, h1, h2, a, r, e1, h3, b, r2, e2, h4, c, r3, e3, h5, h6⟩ := h
    exact ⟨p, vs, h1, e p _ h2, a, r, e1, h3, b, r2, e2, rW_up e x b h4, c, r3, e3, rW_up e y c h5, h6⟩
  | .cut x y, v, h => by
    obtain ⟨p, vs, h1, h2, a, r, e1, h3, b, r2, e2, h4, c, r3, e3, h5, h6⟩ := h
    exact ⟨p, vs, h1, e p _ h2, a, r, e1, h3, b, r2, e2, rW_up e x b h4, c, r3, e3, rW_up e y c h5, h6⟩
instance {w : CW} : Gr (rW w) := ⟨fun v H H' e h => rW_up e w v h⟩
section
variable {K : PySem.W.Frag} {mg : Str → Option Value} {T : Tap} {L L0 H0 H : Hp} {σ : L2.St} {ta tb tc te : TE} {R Ra Rb Rc : Rep} {A A' : RepA} {x y v : V} {c : Chs} {D : Ends} {tz : TS} {ι : Type} {w u : CW}
/-- if c: .., no else -/
theorem gWhen {t : TT} {tu : TS} {b : Bool} (ok : Ok T L0 H0) (S : Stp T L0 H0 L H) (h : Go T L (t σ) (rB b)) (h1 : b = true → ∀ L1 H1, Stp T L0 H0 L1 H1 → Stp T L H L1 H1 → tu { D with nx := tz D } σ H1) (h2 : b = false → ∀ L1 H1, Stp T L0 H0 L1 H1 → Stp T L H L1 H1 → tz D σ H1) : tSeq (tIfS t tu tNext) tz D σ H := gIf ok S h h1 h2
theorem gix0 {P : RepA} [g : Gr R] [g' : Gr P] (ha : Go T L (ta σ) (rTup (aCons R P))) (hb : Go T L (tb σ) (rInt 0)) : Go T L (tOp (rIxT K) ta tb σ) R := gixT ha hb fun vs L' _ ⟨v, r, e, h1, _⟩ => ⟨v, by rw [e]; exact atI_nat (j := 0) rfl, h1⟩
theorem gix1 {P : RepA} [g : Gr R] [g' : Gr P] [g2 : Gr Ra] (ha : Go T L (ta σ) (rTup (aCons Ra (aCons R P)))) (hb : Go T L (tb σ) (rInt 1)) : Go T L (tOp (rIxT K) ta tb σ) R := gixT ha hb fun vs L' _ ⟨v, r, e, h1, v2, r2, e2, h2, _⟩ => ⟨v2, by rw [e, e2]; exact atI_nat (j := 1) rfl, h2⟩
theorem gix2 {P : RepA} [g : Gr R] [g' : Gr P] [g2 : Gr Ra] [g3 : Gr Rb] (ha : Go T L (ta σ) (rTup (aCons Ra (aCons Rb (aCons R P))))) (hb : Go T L (tb σ) (rInt 2)) : Go T L (tOp (rIxT K) ta tb σ) R := gixT ha hb fun vs L' _ ⟨v, r, e, h1, v2, r2, e2, h2, v3, r3, e3, h3, _⟩ => ⟨v3, by rw [e, e2, e3]; exact atI_nat (j := 2) rfl, h3⟩
theorem gsg (ha : Go T L (ta σ) (rW w)) : Go T L (tOp (rIxT K) ta (tC (.int 0)) σ) (rV (.str (wsg w))) := by
  cases w
  · exact gix0 (P := aNil) ha (gc rfl)
  · exact gix0 (P := aNil) ha (gc rfl)
  · exact gfst ha (gc rfl)
  · exact gfst ha (gc rfl)
  · exact gix0 ha (gc rfl)
  · exact gix0 ha (gc rfl)
theorem Pd.vals : ∀ {xs vs : List V}, Pd rV xs vs H → vs = xs
  | [], [], _ => rfl
  | a :: r, v :: w, h => by
    have e : v = a := h.1
    rw [e, Pd.vals h.2]
  | [], _ :: _, h => h.elim
  | _ :: _, [], h => h.elim
/-- in a tuple of values just made -/
theorem ginD {xs : List V} {neg b : Bool} (ha : Go T L (ta σ) (rV x)) (hb : Go T L (tb σ) (rTs rV xs)) (hx : flatV x = true) (hs : xs.all flatV = true) (e : (if neg = true then !inV x xs else inV x xs) = b) : Go T L (tOp (rIn K neg) ta tb σ) (rV (.bl b)) :=
  gop ha hb fun x' y' L' _ e1 ⟨p, vs, e2, e3, e4⟩ => by
    obtain rfl : x' = x := e1
    subst e2
    obtain rfl := Pd.vals e4
    exact fun H ok Q q => ⟨p, _, rfl, Or.inr (SqT.of (ok.1 p _ e3)), hx, hs, q _ L' H (Stp.refl ok) (by rw [e])⟩
theorem ginL {xs : List V} {neg b : Bool} (ha : Go T L (ta σ) (rV x)) (hb : Go T L (tb σ) (rLs rV xs)) (hx : flatV x = true) (hs : xs.all flatV = true) (e : (if neg = true then !inV x xs else inV x xs) = b) : Go T L (tOp (rIn K neg) ta tb σ) (rV (.bl b)) :=
  gop ha hb fun x' y' L' _ e1 ⟨p, vs, e2, e3, e4⟩ => by
    obtain rfl : x' = x := e1
    subst e2
    obtain rfl := Pd.vals e4
    exact fun H ok Q q => ⟨p, _, rfl, Or.inl (SqL.of (ok.1 p _ e3)), hx, hs, q _ L' H (Stp.refl ok) (by rw [e])⟩
theorem gtwo {a b : V} : Go T L (tTup (tCons (tC a) (tCons (tC b) tNil)) σ) (rTs rV [a, b]) := gtup (gaL (R := rV) (gc rfl) (gaL (R := rV) (gc rfl) ga0L)) (pd_len (m := 100000) (by show 2 ≤ 100000; decide))
theorem gtwoL {a b : V} : Go T L (tLst (tCons (tC a) (tCons (tC b) tNil)) σ) (rLs rV [a, b]) := glst (gaL (R := rV) (gc rfl) (gaL (R := rV) (gc rfl) ga0L)) (pd_len (m := 100000) (by show 2 ≤ 100000; decide))
end
section
variable {P : Program} {w : World} {K : PySem.W.Frag} {mg : Str → Option Value} {base : Heap}
def spCheck (d : Nat) : Sp := spR (fun q : CW × Nat × Nat => aAnd (q.1.ok q.2.1 q.2.2 ∧ dep q.1 < d) (aCons (rW q.1) (aCons (rInt (q.2.1 : Int)) (aCons (rInt (q.2.2 : Int)) aNil)))) (fun _ => rV .non)
theorem c_check_word_0 (F : Cs K mg) : Cal P w K mg base 1 "check_word" (spCheck 0) [] := by
  refine calG (k := 0) (N := ["word", "first", "second"]) (ps := ["word", "first", "second"]) F.d_check_word (fun _ _ _ _ _ _ us hl => match us, hl with | [_, _, _], _ => rfl) (by decide +kernel) (len1 fun _ _ _ h => lC h.2 (fun _ h => lC h (fun _ h => lC h (fun _ => l0)))) ?_
  rintro f cdv A outer s H vs Q E hr ⟨x, L, e, ⟨pre, ha⟩, k⟩
  exact absurd pre.2 (Nat.not_lt_zero _)
theorem c_check_word_s (F : Cs K mg) (d : Nat) (ih : Cal P w K mg base (1 + d) "check_word" (spCheck d) []) : Cal P w K mg base (1 + (d + 1)) "check_word" (spCheck (d + 1)) [] := by
  refine calG (k := 1 + d) (N := ["word", "first", "second"]) (ps := ["word", "first", "second"]) F.d_check_word (fun _ _ _ _ _ _ us hl => match us, hl with | [_, _, _], _ => rfl) (by decide +kernel) (len1 fun _ _ _ h => lC h.2 (fun _ h => lC h (fun _ h => lC h (fun _ => l0)))) ?_
  rintro f cdv A outer s H vs Q E hr ⟨x, L, e, ⟨pre, ha⟩, k⟩
  have nd := (fnScope_by (N := ["word", "first", "second"]) (P := ["word", "first", "second"]) (sc := fnScope (topS 40)) (by decide +kernel)).nd
  have ok := ok0 e
  have hu := hu_of hr
  have hu0 := hr.units0
  have hu64 := hr.units
  refine ⟨_, (pss_one (ps_if (pt_cmpR (kop_in K rfl) (pe_ix (kix_tup K rfl) (pv 0) pe_int (fun _ _ => rfl)) (pe_tup (pa_cons pe_str (pa_cons pe_str pa_nil))) (by with_unfolding_all rfl)) (pss_cons (ps_expr (pe_c ih hr (Nat.le_refl _) rfl (pa_cons (pe_ix (kix_tup K rfl) (pv 0) pe_int (fun _ _ => rfl)) (pa_cons (pv 1) (pa_cons (pv 2) pa_nil)))))
  (pss_one (ps_expr (pe_c ih hr (Nat.le_refl _) rfl (pa_cons (pe_ix (kix_tup K rfl) (pv 0) pe_int (fun _ _ => rfl)) (pa_cons (pv 1) (pa_cons (pv 2) pa_nil))))))) (pss_one (ps_if (PW.pt (pw_and (pt_cmpR (kop_in K rfl) (pe_ix (kix_tup K rfl) (pv 0) pe_int (fun _ _ => rfl)) (pe_tup (pa_cons pe_str (pa_cons pe_str pa_nil))) (by with_unfolding_all rfl)) (pw_and1 (pt_not (pt_chain op_le op_le pe_int (pe_ix (kix_tup K rfl) (pv 0) pe_int (fun _ _ => rfl)) (pe_ifExp (pt_cmpR op_eq (pe_ix (kix_tup K rfl) (pv 0) pe_int (fun _ _ => rfl)) pe_str (nomark _)) (pv 1) (pv 2))))))) pss_never pss_nil)))), ?_⟩
  obtain ⟨u, m, n⟩ := x
  obtain ⟨hok, hd⟩ := pre
  obtain ⟨v1, _, rfl, h1, h⟩ := ha
  obtain ⟨_, _, rfl, rfl, rfl⟩ := a2 h
  have h1 : rW u v1 L := h1
  refine gIfS ok (Stp.refl ok) (gtest (ginD (neg := false) (b := inV (.str (wsg u)) [.str "+", .str "&"]) (gsg (gv rfl h1)) gtwo rfl rfl rfl)) (fun hb L1 H1 S1 s1 => ?_) fun hb L1 H1 S1 s1 => ?_
  · have h1' := up s1.ll h1
    cases u with
    | plus a b =>
      have hdm : dep a < d ∧ dep b < d := by
        have : max (dep a) (dep b) + 1 < d + 1 := hd
        omega
      refine gDrop ok S1 (gcp (R := fun _ : CW × Nat × Nat => rV .non) (a, m, n) ⟨hok.1, hdm.1⟩ (gaC (gix1 (P := aCons (rW b) aNil) (Ra := rV (.str "+")) (gv rfl h1') (gc rfl)) (gaC (gv rfl rfl) (gaC (gv rfl rfl) ga0)))) fun _ L2 H2 S2 s2 _ => ?_
      exact gDrop1 ok S2 (gcp (R := fun _ : CW × Nat × Nat => rV .non) (b, m, n) ⟨hok.2, hdm.2⟩ (gaC (gix2 (P := aNil) (Rb := rW a) (Ra := rV (.str "+")) (gv rfl (up s2.ll h1')) (gc rfl)) (gaC (gv rfl rfl) (gaC (gv rfl rfl) ga0)))) fun _ L3 H3 S3 s3 _ => k _ L3 H3 S3 rfl
    | cut a b =>
      have hdm : dep a < d ∧ dep b < d := by
        have : max (dep a) (dep b) + 1 < d + 1 := hd
        omega
      refine gDrop ok S1 (gcp (R := fun _ : CW × Nat × Nat => rV .non) (a, m, n) ⟨hok.1, hdm.1⟩ (gaC (gix1 (P := aCons (rW b) aNil) (Ra := rV (.str "&")) (gv rfl h1') (gc rfl)) (gaC (gv rfl rfl) (gaC (gv rfl rfl) ga0)))) fun _ L2 H2 S2 s2 _ => ?_
      exact gDrop1 ok S2 (gcp (R := fun _ : CW × Nat × Nat => rV .non) (b, m, n) ⟨hok.2, hdm.2⟩ (gaC (gix2 (P := aNil) (Rb := rW a) (Ra := rV (.str "&")) (gv rfl (up s2.ll h1')) (gc rfl)) (gaC (gv rfl rfl) (gaC (gv rfl rfl) ga0)))) fun _ L3 H3 S3 s3 _ => k _ L3 H3 S3 rfl
    | zero => exact absurd hb (by decide +kernel)
    | one => exact absurd hb (by decide +kernel)
    | a i => exact absurd hb (show ¬ inV (.str "a") [.str "+", .str "&"] = true by decide +kernel)
    | b i => exact absurd hb (show ¬ inV (.str "b") [.str "+", .str "&"] = true by decide +kernel)
  · have h1' := up s1.ll h1
    refine gNot1 ok S1 (b := false) (geqT (gand (a := inV (.str (wsg u)) [.str "a", .str "b"]) (b := false) (gtest (ginD (neg := false) (gsg (gv rfl h1')) gtwo rfl rfl rfl)) fun hb2 => gnot (b := true) ?_) (by simp)) rfl fun L2 H2 S2 s2 => k _ L2 H2 S2 rfl
    cases u with
    | a i =>
      have hk : 1 ≤ i ∧ i ≤ m := hok
      exact gtest (geqB (gchain (i := 1) (j := (i : Int)) (k := (m : Int)) (gc rfl) (gsnd (Ra := rV (.str "a")) (gv rfl h1') (gc rfl)) (gif (b := true) (gtest (geq (gsg (w := CW.a i) (gv rfl h1')) (gc rfl) rfl (show decide (V.str "a" = V.str "a") = true by decide +kernel))) (fun _ => gv rfl rfl) (fun z => nomatch z))) (by simp; omega))
    | b i =>
      have hk : 1 ≤ i ∧ i ≤ n := hok
      exact gtest (geqB (gchain (i := 1) (j := (i : Int)) (k := (n : Int)) (gc rfl) (gsnd (Ra := rV (.str "b")) (gv rfl h1') (gc rfl)) (gif (b := false) (gtest (geq (gsg (w := CW.b i) (gv rfl h1')) (gc rfl) rfl (show decide (V.str "b" = V.str "a") = false by decide +kernel))) (fun z => nomatch z) (fun _ => gv rfl rfl))) (by simp; omega))
    | zero => exact absurd hb2 (by decide +kernel)
    | one => exact absurd hb2 (by decide +kernel)
    | plus a b => exact absurd hb2 (show ¬ inV (.str "+") [.str "a", .str "b"] = true by decide +kernel)
    | cut a b => exact absurd hb2 (show ¬ inV (.str "&") [.str "a", .str "b"] = true by decide +kernel)
theorem c_check_word (F : Cs K mg) : ∀ d : Nat, Cal P w K mg base (1 + d) "check_word" (spCheck d) []
  | 0 => c_check_word_0 F
  | d + 1 => c_check_word_s F d (c_check_word F d)
def spIn (d : Nat) : Sp := spR (fun q : (Nat × Nat) × CW => aAnd (True ∧ dep q.2 < d) (aCons (rCell q.1) (aCons (rW q.2) aNil))) (fun q => rV (.bl (q.2.has q.1)))
theorem c_is_in_0 (F : Cs K mg) : Cal P w K mg base 1 "is_in" (spIn 0) [] := by
  refine calG (k := 0) (N := ["cell", "word", "sign", "one", "other"]) (ps := ["cell", "word"]) F.d_is_in (fun _ _ _ _ _ _ us hl => match us, hl with | [_, _], _ => rfl) (by decide +kernel) (len1 fun _ _ _ h => lC h.2 (fun _ h => lC h (fun _ => l0))) ?_
  rintro f cdv A outer s H vs Q E hr ⟨x, L, e, ⟨pre, ha⟩, k⟩
  exact absurd pre.2 (Nat.not_lt_zero _)
theorem c_is_in_s (F : Cs K mg) (d : Nat) (ih : Cal P w K mg base (1 + d) "is_in" (spIn d) []) : Cal P w K mg base (1 + (d + 1)) "is_in" (spIn (d + 1)) [] := by
  refine calG (k := 1 + d) (N := ["cell", "word", "sign", "one", "other"]) (ps := ["cell", "word"]) F.d_is_in (fun _ _ _ _ _ _ us hl => match us, hl with | [_, _], _ => rfl) (by decide +kernel) (len1 fun _ _ _ h => lC h.2 (fun _ h => lC h (fun _ => l0))) ?_
  rintro f cdv A outer s H vs Q E hr ⟨x, L, e, ⟨pre, ha⟩, k⟩
  have nd := (fnScope_by (N := ["cell", "word", "sign", "one", "other"]) (P := ["cell", "word"]) (sc := fnScope (topS 43)) (by decide +kernel)).nd
  have ok := ok0 e
  have hu := hu_of hr
  have hu0 := hr.units0
  have hu64 := hr.units
  refine ⟨_, (pss_cons (ps_set (i := 2) nd rfl (by first | exact Or.inl rfl | exact Or.inr rfl) (pe_ix (kix_tup K rfl) (pv 1) pe_int (fun _ _ => rfl)))
  (pss_cons (ps_if (pt_cmpR (kop_in K rfl) (pv 2) (pe_tup (pa_cons pe_str (pa_cons pe_str pa_nil))) (by with_unfolding_all rfl)) (pss_one (ps_ret (pe_cmpR op_eq (pv 2) pe_str (nomark _)))) pss_nil)
  (pss_cons (ps_if (pt_cmpR (kop_in K rfl) (pv 2) (pe_tup (pa_cons pe_str (pa_cons pe_str pa_nil))) (by with_unfolding_all rfl)) (pss_one (ps_ret (pe_cmpR op_le (pe_ix (kix_tup K rfl) (pv 0) (pe_ifExp (pt_cmpR op_eq (pv 2) pe_str (nomark _)) pe_int pe_int) (fun _ _ => rfl)) (pe_ix (kix_tup K rfl) (pv 1) pe_int (fun _ _ => rfl)) (nomark _)))) pss_nil)
  (pss_cons (ps_par (i := 3) (j := 4) rfl nd rfl rfl (by decide) rfl rfl (pa_cons (pe_c ih hr (Nat.le_refl _) rfl (pa_cons (pv 0) (pa_cons (pe_ix (kix_tup K rfl) (pv 1) pe_int (fun _ _ => rfl)) pa_nil))) (pa_cons (pe_c ih hr (Nat.le_refl _) rfl (pa_cons (pv 0) (pa_cons (pe_ix (kix_tup K rfl) (pv 1) pe_int (fun _ _ => rfl)) pa_nil))) pa_nil)) rfl)
  (pss_one (ps_ret (pe_ifExp (pt_cmpR op_eq (pv 2) pe_str (nomark _)) (pe_or (pv 3) (pe_one (pv 4))) (pe_and (pv 3) (pe_one (pv 4)))))))))), ?_⟩
  obtain ⟨c, u⟩ := x
  obtain ⟨_, hd⟩ := pre
  obtain ⟨v0, v1, rfl, h0, h1⟩ := a2 ha
  have h1 : rW u v1 L := h1
  have h0 : rCell c v0 L := h0
  refine gSet ok (Stp.refl ok) (gsg (gv rfl h1)) fun vg L1 H1 S1 s1 rg => ?_
  obtain rfl : vg = .str (wsg u) := rg
  have h0' := up s1.ll h0
  have h1' := up s1.ll h1
  refine gWhen ok S1 (gtest (ginD (neg := false) (b := inV (.str (wsg u)) [.str "0", .str "1"]) (gv rfl rfl) gtwo rfl rfl rfl)) (fun hb L2 H2 S2 s2 => ?_) fun hb L2 H2 S2 s2 => ?_
  · cases u with
    | zero => exact gEnd ok S2 k (geq (gv rfl rfl) (gc rfl) rfl (show decide (V.str "0" = V.str "1") = false by decide +kernel))
    | one => exact gEnd ok S2 k (geq (gv rfl rfl) (gc rfl) rfl (show decide (V.str "1" = V.str "1") = true by decide +kernel))
    | a i => exact absurd hb (show ¬ inV (.str "a") [.str "0", .str "1"] = true by decide +kernel)
    | b i => exact absurd hb (show ¬ inV (.str "b") [.str "0", .str "1"] = true by decide +kernel)
    | plus a b => exact absurd hb (show ¬ inV (.str "+") [.str "0", .str "1"] = true by decide +kernel)
    | cut a b => exact absurd hb (show ¬ inV (.str "&") [.str "0", .str "1"] = true by decide +kernel)
  · have h0' := up s2.ll h0'
    have h1' := up s2.ll h1'
    refine gWhen ok S2 (gtest (ginD (neg := false) (b := inV (.str (wsg u)) [.str "a", .str "b"]) (gv rfl rfl) gtwo rfl rfl rfl)) (fun hb2 L3 H3 S3 s3 => ?_) fun hb2 L3 H3 S3 s3 => ?_
    · have h0' := up s3.ll h0'
      have h1' := up s3.ll h1'
      cases u with
      | a i => exact gEnd ok S3 k (geqB (gI0 (i := (c.1 : Int)) (j := (i : Int)) (R := rV (.bl (decide ((c.1 : Int) ≤ (i : Int))))) (gfst (Rb := rInt (c.2 : Int)) (gv rfl h0') (gif (b := true) (gtest (geq (gv rfl rfl) (gc rfl) rfl (show decide (V.str "a" = V.str "a") = true by decide +kernel))) (fun _ => gc rfl) fun z => nomatch z)) (gsnd (Ra := rV (.str "a")) (gv rfl h1') (gc rfl)) rfl) (by simp [CW.has, HM.CW.has]))
      | b i => exact gEnd ok S3 k (geqB (gI0 (i := (c.2 : Int)) (j := (i : Int)) (R := rV (.bl (decide ((c.2 : Int) ≤ (i : Int))))) (gsnd (Ra := rInt (c.1 : Int)) (gv rfl h0') (gif (b := false) (gtest (geq (gv rfl rfl) (gc rfl) rfl (show decide (V.str "b" = V.str "a") = false by decide +kernel))) (fun z => nomatch z) fun _ => gc rfl)) (gsnd (Ra := rV (.str "b")) (gv rfl h1') (gc rfl)) rfl) (by simp [CW.has, HM.CW.has]))
      | zero => exact absurd hb2 (by decide +kernel)
      | one => exact absurd hb2 (by decide +kernel)
      | plus a b => exact absurd hb2 (show ¬ inV (.str "+") [.str "a", .str "b"] = true by decide +kernel)
      | cut a b => exact absurd hb2 (show ¬ inV (.str "&") [.str "a", .str "b"] = true by decide +kernel)
    · have h0' := up s3.ll h0'
      have h1' := up s3.ll h1'
      cases u with
      | plus a b =>
        have hdm : dep a < d ∧ dep b < d := by
          have : max (dep a) (dep b) + 1 < d + 1 := hd
          omega
        refine gPar (Ra := rV (.bl (a.has c))) (Rb := rV (.bl (b.has c))) ok S3 (by exact gcp (R := fun q : (Nat × Nat) × CW => rV (.bl (q.2.has q.1))) (c, a) ⟨trivial, hdm.1⟩ (gaC (gv rfl h0') (gaC (gix1 (P := aCons (rW b) aNil) (Ra := rV (.str "+")) (gv rfl h1') (gc rfl)) ga0))) (by exact gcp (R := fun q : (Nat × Nat) × CW => rV (.bl (q.2.has q.1))) (c, b) ⟨trivial, hdm.2⟩ (gaC (gv rfl h0') (gaC (gix2 (P := aNil) (Rb := rW a) (Ra := rV (.str "+")) (gv rfl h1') (gc rfl)) ga0))) fun z1 z2 L4 H4 S4 s4 r1 r2 => ?_
        obtain rfl : z1 = .bl (a.has c) := r1
        obtain rfl : z2 = .bl (b.has c) := r2
        exact gEnd ok S4 k (gif (b := true) (gtest (geq (gv rfl rfl) (gc rfl) rfl (show decide (V.str "+" = V.str "+") = true by decide +kernel))) (fun _ => gorV (gv rfl rfl) fun _ => gv rfl rfl) fun z => nomatch z)
      | cut a b =>
        have hdm : dep a < d ∧ dep b < d := by
          have : max (dep a) (dep b) + 1 < d + 1 := hd
          omega
        refine gPar (Ra := rV (.bl (a.has c))) (Rb := rV (.bl (b.has c))) ok S3 (by exact gcp (R := fun q : (Nat × Nat) × CW => rV (.bl (q.2.has q.1))) (c, a) ⟨trivial, hdm.1⟩ (gaC (gv rfl h0') (gaC (gix1 (P := aCons (rW b) aNil) (Ra := rV (.str "&")) (gv rfl h1') (gc rfl)) ga0))) (by exact gcp (R := fun q : (Nat × Nat) × CW => rV (.bl (q.2.has q.1))) (c, b) ⟨trivial, hdm.2⟩ (gaC (gv rfl h0') (gaC (gix2 (P := aNil) (Rb := rW a) (Ra := rV (.str "&")) (gv rfl h1') (gc rfl)) ga0))) fun z1 z2 L4 H4 S4 s4 r1 r2 => ?_
        obtain rfl : z1 = .bl (a.has c) := r1
        obtain rfl : z2 = .bl (b.has c) := r2
        exact gEnd ok S4 k (gif (b := false) (gtest (geq (gv rfl rfl) (gc rfl) rfl (show decide (V.str "&" = V.str "+") = false by decide +kernel))) (fun z => nomatch z) fun _ => gandV (gv rfl rfl) fun _ => gv rfl rfl)
      | zero => exact absurd hb (by decide +kernel)
      | one => exact absurd hb (by decide +kernel)
      | a i => exact absurd hb2 (show ¬ inV (.str "a") [.str "a", .str "b"] = false by decide +kernel)
      | b i => exact absurd hb2 (show ¬ inV (.str "b") [.str "a", .str "b"] = false by decide +kernel)
theorem c_is_in (F : Cs K mg) : ∀ d : Nat, Cal P w K mg base (1 + d) "is_in" (spIn d) []
  | 0 => c_is_in_0 F
  | d + 1 => c_is_in_s F d (c_is_in F d)
def Chs.val (c : Chs) (u : CW) : List (List Int) := u.val c.p c.n c.A c.B
theorem Chs.val_ok {c : Chs} (h : c.ok) (u : CW) : (c.sp (c.val u)).ok := ⟨h.hp, h.hn, (Chs.ch h).val_red h.hp⟩
def spOf (K : PySem.W.Frag) (d : Nat) : Sp := spR (fun q : CW × Chs => aAnd ((q.2.ok ∧ q.1.ok q.2.a.length q.2.b.length) ∧ dep q.1 < d) (aCons (rW q.1) (aCons (rCh K q.2) aNil))) (fun q => rSp K (q.2.sp (q.2.val q.1)))
theorem c_space_of_0 (F : Cs K mg) : Cal P w K mg base 9 "space_of" (spOf K 0) [] := by
  refine calG (k := 8) (N := ["word", "chains", "sign", "one", "other"]) (ps := ["word", "chains"]) F.d_space_of (fun _ _ _ _ _ _ us hl => match us, hl with | [_, _], _ => rfl) (by decide +kernel) (len1 fun _ _ _ h => lC h.2 (fun _ h => lC h (fun _ => l0))) ?_
  rintro f cdv A outer s H vs Q E hr ⟨x, L, e, ⟨pre, ha⟩, k⟩
  exact absurd pre.2 (Nat.not_lt_zero _)
theorem c_space_of_s (F : Cs K mg) (d : Nat) (ih : Cal P w K mg base (9 + d) "space_of" (spOf K d) []) : Cal P w K mg base (9 + (d + 1)) "space_of" (spOf K (d + 1)) [] := by
  refine calG (k := 9 + d) (N := ["word", "chains", "sign", "one", "other"]) (ps := ["word", "chains"]) F.d_space_of (fun _ _ _ _ _ _ us hl => match us, hl with | [_, _], _ => rfl) (by decide +kernel) (len1 fun _ _ _ h => lC h.2 (fun _ h => lC h (fun _ => l0))) ?_
  rintro f cdv A outer s H vs Q E hr ⟨x, L, e, ⟨pre, ha⟩, k⟩
  have nd := (fnScope_by (N := ["word", "chains", "sign", "one", "other"]) (P := ["word", "chains"]) (sc := fnScope (topS 41)) (by decide +kernel)).nd
  have ok := ok0 e
  have hu := hu_of hr
  have hu0 := hr.units0
  have hu64 := hr.units
  refine ⟨_, (pss_cons (ps_set (i := 2) nd rfl (by first | exact Or.inl rfl | exact Or.inr rfl) (pe_ix (kix_tup K rfl) (pv 0) pe_int (fun _ _ => rfl)))
  (pss_cons (ps_if (pt_cmpR op_eq (pv 2) pe_str (nomark _)) (pss_one (ps_ret (pe_cm K rfl (k_Space_nothing F) hr (by omega) (pe_gc (v := .ref (cA K "Space")) rfl ⟨_, F.Space.mg, rfl⟩) (pa_cons (kfld K rfl (pv 1) rfl) (pa_cons (kfld K rfl (pv 1) rfl) pa_nil))))) pss_nil)
  (pss_cons (ps_if (pt_cmpR op_eq (pv 2) pe_str (nomark _)) (pss_one (ps_ret (pe_cm K rfl (k_Space_whole F) hr (by omega) (pe_gc (v := .ref (cA K "Space")) rfl ⟨_, F.Space.mg, rfl⟩) (pa_cons (kfld K rfl (pv 1) rfl) (pa_cons (kfld K rfl (pv 1) rfl) pa_nil))))) pss_nil)
  (pss_cons (ps_if (pt_cmpR (kop_in K rfl) (pv 2) (pe_tup (pa_cons pe_str (pa_cons pe_str pa_nil))) (by with_unfolding_all rfl)) (pss_one (ps_ret (pe_c (c_space_at F) hr (by omega) rfl (pa_cons (pv 1) (pa_cons (pv 2) (pa_cons (pe_ix (kix_tup K rfl) (pv 0) pe_int (fun _ _ => rfl)) pa_nil)))))) pss_nil)
  (pss_cons (ps_par (i := 3) (j := 4) rfl nd rfl rfl (by decide) rfl rfl (pa_cons (pe_c ih hr (Nat.le_refl _) rfl (pa_cons (pe_ix (kix_tup K rfl) (pv 0) pe_int (fun _ _ => rfl)) (pa_cons (pv 1) pa_nil))) (pa_cons (pe_c ih hr (Nat.le_refl _) rfl (pa_cons (pe_ix (kix_tup K rfl) (pv 0) pe_int (fun _ _ => rfl)) (pa_cons (pv 1) pa_nil))) pa_nil)) rfl)
  (pss_one (ps_ret (pe_ifExp (pt_cmpR op_eq (pv 2) pe_str (nomark _)) (pe_op (oB K rfl F.sfS F.sAdd.me (n_Space_add F) hr (by omega)) (pv 3) (pv 4)) (pe_op (oB K rfl F.sfS F.sAnd.me (n_Space_and F) hr (by omega)) (pv 3) (pv 4)))))))))), ?_⟩
  obtain ⟨u, c⟩ := x
  obtain ⟨⟨hc, hok⟩, hd⟩ := pre
  have hc : c.ok := hc
  obtain ⟨v1, v2, rfl, h1', h2'⟩ := a2 ha
  have h1 : rW u v1 L := h1'
  have h2 : rCh K c v2 L := h2'
  clear h1' h2' ha
  refine gSet ok (Stp.refl ok) (gsg (gv rfl h1)) fun vg L1 H1 S1 s1 rg => ?_
  obtain rfl : vg = .str (wsg u) := rg
  have h1 := up s1.ll h1
  have h2 := up s1.ll h2
  refine gWhen ok S1 (b := decide (V.str (wsg u) = V.str "0")) (gtest (geq (gv rfl rfl) (gc rfl) rfl rfl)) (fun hb L2 H2 S2 s2 => ?_) fun hb L2 H2 S2 s2 => ?_
  · have h2 := up s2.ll h2
    have hu0 : u = .zero := by
      cases u with
      | zero => rfl
      | one => exact absurd hb (show ¬ decide (V.str "1" = V.str "0") = true by decide +kernel)
      | a i => exact absurd hb (show ¬ decide (V.str "a" = V.str "0") = true by decide +kernel)
      | b i => exact absurd hb (show ¬ decide (V.str "b" = V.str "0") = true by decide +kernel)
      | plus a b => exact absurd hb (show ¬ decide (V.str "+" = V.str "0") = true by decide +kernel)
      | cut a b => exact absurd hb (show ¬ decide (V.str "&" = V.str "0") = true by decide +kernel)
    subst hu0
    exact gEnd ok S2 k (gcm (R := fun q : Int × Nat => rSp K ⟨q.1, q.2, []⟩) (c.p, c.n) ⟨hc.hp, hc.hn⟩ (gc rfl) (gaC (gcprime F (gv rfl h2)) (gaC (gclength F (gv rfl h2)) ga0)))
  · have h1 := up s2.ll h1
    have h2 := up s2.ll h2
    refine gWhen ok S2 (b := decide (V.str (wsg u) = V.str "1")) (gtest (geq (gv rfl rfl) (gc rfl) rfl rfl)) (fun hb2 L3 H3 S3 s3 => ?_) fun hb2 L3 H3 S3 s3 => ?_
    · have h2 := up s3.ll h2
      have hu0 : u = .one := by
        cases u with
        | one => rfl
        | zero => exact absurd hb2 (show ¬ decide (V.str "0" = V.str "1") = true by decide +kernel)
        | a i => exact absurd hb2 (show ¬ decide (V.str "a" = V.str "1") = true by decide +kernel)
        | b i => exact absurd hb2 (show ¬ decide (V.str "b" = V.str "1") = true by decide +kernel)
        | plus a b => exact absurd hb2 (show ¬ decide (V.str "+" = V.str "1") = true by decide +kernel)
        | cut a b => exact absurd hb2 (show ¬ decide (V.str "&" = V.str "1") = true by decide +kernel)
      subst hu0
      exact gEnd ok S3 k (gcm (R := fun q : Int × Nat => rSp K ⟨q.1, q.2, HM.wholeRows q.1 q.2⟩) (c.p, c.n) ⟨hc.hp, hc.hn⟩ (gc rfl) (gaC (gcprime F (gv rfl h2)) (gaC (gclength F (gv rfl h2)) ga0)))
    · have h1 := up s3.ll h1
      have h2 := up s3.ll h2
      have la := hc.la.2
      have lb := hc.lb
      refine gWhen ok S3 (gtest (ginD (neg := false) (b := inV (.str (wsg u)) [.str "a", .str "b"]) (gv rfl rfl) gtwo rfl rfl rfl)) (fun hb3 L4 H4 S4 s4 => ?_) fun hb3 L4 H4 S4 s4 => ?_
      · have h1 := up s4.ll h1
        have h2 := up s4.ll h2
        cases u with
        | a i =>
          have hk : 1 ≤ i ∧ i ≤ c.a.length := hok
          exact gEnd ok S4 k (gcp (R := fun q : Chs × Bool × Nat => rSp K (q.1.sp (lev q.1.p q.1.n (q.1.side q.2.1) q.2.2))) (c, true, i) ⟨hc, by show i ≤ 100; omega⟩ (gaC (gv rfl h2) (gaC (gv rfl rfl) (gaC (gsnd (Ra := rV (.str "a")) (gv rfl h1) (gc rfl)) ga0))))
        | b i =>
          have hk : 1 ≤ i ∧ i ≤ c.b.length := hok
          exact gEnd ok S4 k (gcp (R := fun q : Chs × Bool × Nat => rSp K (q.1.sp (lev q.1.p q.1.n (q.1.side q.2.1) q.2.2))) (c, false, i) ⟨hc, by show i ≤ 100; omega⟩ (gaC (gv rfl h2) (gaC (gv rfl rfl) (gaC (gsnd (Ra := rV (.str "b")) (gv rfl h1) (gc rfl)) ga0))))
        | zero => exact absurd hb3 (by decide +kernel)
        | one => exact absurd hb3 (by decide +kernel)
        | plus a b => exact absurd hb3 (show ¬ inV (.str "+") [.str "a", .str "b"] = true by decide +kernel)
        | cut a b => exact absurd hb3 (show ¬ inV (.str "&") [.str "a", .str "b"] = true by decide +kernel)
      · have h1 := up s4.ll h1
        have h2 := up s4.ll h2
        cases u with
        | plus a b =>
          have hdm : dep a < d ∧ dep b < d := by
            have : max (dep a) (dep b) + 1 < d + 1 := hd
            omega
          refine gPar (Ra := rSp K (c.sp (c.val a))) (Rb := rSp K (c.sp (c.val b))) ok S4 (by exact gcp (R := fun q : CW × Chs => rSp K (q.2.sp (q.2.val q.1))) (a, c) ⟨⟨hc, hok.1⟩, hdm.1⟩ (gaC (gix1 (P := aCons (rW b) aNil) (Ra := rV (.str "+")) (gv rfl h1) (gc rfl)) (gaC (gv rfl h2) ga0))) (by exact gcp (R := fun q : CW × Chs => rSp K (q.2.sp (q.2.val q.1))) (b, c) ⟨⟨hc, hok.2⟩, hdm.2⟩ (gaC (gix2 (P := aNil) (Rb := rW a) (Ra := rV (.str "+")) (gv rfl h1) (gc rfl)) (gaC (gv rfl h2) ga0))) fun z1 z2 L5 H5 S5 s5 r1 r2 => ?_
          exact gEnd ok S5 k (gif (b := true) (gtest (geq (gv rfl rfl) (gc rfl) rfl (show decide (V.str "+" = V.str "+") = true by decide +kernel))) (fun _ => gown2 (R := fun q : Spc × Spc => rSp K ⟨q.1.p, q.1.n, HM.addRows q.1.p q.1.rows q.2.rows⟩) (c.sp (c.val a), c.sp (c.val b)) ⟨Chs.val_ok hc a, Chs.val_ok hc b, rfl, rfl⟩ (gv rfl r1) (gv rfl r2) (fun _ _ => rSp_ins) (fun _ _ => rSp_ins)) fun z => nomatch z)
        | cut a b =>
          have hdm : dep a < d ∧ dep b < d := by
            have : max (dep a) (dep b) + 1 < d + 1 := hd
            omega
          refine gPar (Ra := rSp K (c.sp (c.val a))) (Rb := rSp K (c.sp (c.val b))) ok S4 (by exact gcp (R := fun q : CW × Chs => rSp K (q.2.sp (q.2.val q.1))) (a, c) ⟨⟨hc, hok.1⟩, hdm.1⟩ (gaC (gix1 (P := aCons (rW b) aNil) (Ra := rV (.str "&")) (gv rfl h1) (gc rfl)) (gaC (gv rfl h2) ga0))) (by exact gcp (R := fun q : CW × Chs => rSp K (q.2.sp (q.2.val q.1))) (b, c) ⟨⟨hc, hok.2⟩, hdm.2⟩ (gaC (gix2 (P := aNil) (Rb := rW a) (Ra := rV (.str "&")) (gv rfl h1) (gc rfl)) (gaC (gv rfl h2) ga0))) fun z1 z2 L5 H5 S5 s5 r1 r2 => ?_
          exact gEnd ok S5 k (gif (b := false) (gtest (geq (gv rfl rfl) (gc rfl) rfl (show decide (V.str "&" = V.str "+") = false by decide +kernel))) (fun z => nomatch z) fun _ => gown2 (R := fun q : Spc × Spc => rSp K ⟨q.1.p, q.1.n, HM.meetRows q.1.p q.1.n q.1.rows q.2.rows⟩) (c.sp (c.val a), c.sp (c.val b)) ⟨Chs.val_ok hc a, Chs.val_ok hc b, rfl, rfl⟩ (gv rfl r1) (gv rfl r2) (fun _ _ => rSp_ins) (fun _ _ => rSp_ins))
        | zero => exact absurd hb (by decide +kernel)
        | one => exact absurd hb2 (by decide +kernel)
        | a i => exact absurd hb3 (show ¬ inV (.str "a") [.str "a", .str "b"] = false by decide +kernel)
        | b i => exact absurd hb3 (show ¬ inV (.str "b") [.str "a", .str "b"] = false by decide +kernel)
theorem c_space_of (F : Cs K mg) : ∀ d : Nat, Cal P w K mg base (9 + d) "space_of" (spOf K d) []
  | 0 => c_space_of_0 F
  | d + 1 => c_space_of_s F d (c_space_of F d)
end
end HW
/-! part W9 -/
set_option maxHeartbeats 4000000
/-! What the law asks of words over chains. -/
namespace HW
open PySem PySem.Spec PyProof.Rows L2 HR HV C8
open Evl (Ex)
open HM (CW)
def rNone (b : Bool) : Rep := fun v _ => if b = true then v = .non else ∃ p, v = .ref p
instance {b : Bool} : Gr (rNone b) := ⟨fun _ _ _ _ h => h⟩
section
variable {K : PySem.W.Frag} {mg : Str → Option Value} {T : Tap} {L L0 H0 H : Hp} {σ : L2.St} {ta tb tc te : TE} {R Ra Rb Rc : Rep} {A A' : RepA} {x y v : V} {c : Chs} {D : Ends} {tz : TS} {ι : Type} {w u : CW} {b : Bool}
theorem gisN (h : Go T L (te σ) (rNone b)) : Go T L (tIsN te σ) (rV (.bl b)) := Go.bindE h (fun _ _ h => h) fun x L1 e1 r1 => fun H ok Q q => by
  refine q _ L1 H (Stp.refl ok) ?_
  cases b with
  | true => rw [show x = V.non from r1]; rfl
  | false =>
    obtain ⟨p, rfl⟩ := r1
    rfl
theorem gnotN (h : Go T L (te σ) (rNone b)) : Go T L (tNotN te σ) (rV (.bl (!b))) := Go.bindE h (fun _ _ h => h) fun x L1 e1 r1 => fun H ok Q q => by
  refine q _ L1 H (Stp.refl ok) ?_
  cases b with
  | true => rw [show x = V.non from r1]; rfl
  | false =>
    obtain ⟨p, rfl⟩ := r1
    rfl
/-- told[cell] -/
theorem gdget {l : List (Nat × Nat)} {f : Nat × Nat → Int} {d : Nat × Nat} (hd : d ∈ l) (ha : Go T L (ta σ) (rTab l f)) (hb : Go T L (tb σ) (rCell d)) : Go T L (tDGet ta tb σ) (rInt (f d)) :=
  fun H ok Q q => ha H ok _ fun x L1 H1 s1 ⟨a, e1, e2⟩ => Go.mono s1.ll hb H1 (s1.ok ok) _ fun y L2 H2 s2 ⟨p, vs, e3, e4, e5⟩ => by
    obtain ⟨z1, z2, rfl, rfl, rfl⟩ := a2 e5
    subst e1 e3
    refine ⟨a, V.int (f d), rfl, ?_, q _ L2 H2 (s1.trans s2) rfl⟩
    have := DGet.t (H := H2) (a := a) (b := p) (k := ck d) (s2.lh a _ (s2.ll a _ e2)) (s2.lh p _ e4)
    rwa [tab_val hd] at this
end
section
variable {P : Program} {w : World} {K : PySem.W.Frag} {mg : Str → Option Value} {base : Heap}
def spVal (K : PySem.W.Frag) : Sp := spR (fun q : CW × Chs => aAnd (q.2.ok ∧ q.1.ok q.2.a.length q.2.b.length ∧ dep q.1 < 10) (aCons (rW q.1) (aCons (rCh K q.2) aNil))) (fun q => rSp K (q.2.sp (q.2.val q.1)))
theorem c_chain_value (F : Cs K mg) : Cal P w K mg base 22 "chain_value" (spVal K) [] := by
  refine calG (N := ["word", "chains"]) (ps := ["word", "chains"]) F.d_chain_value (fun _ _ _ _ _ _ us hl => match us, hl with | [_, _], _ => rfl) (by decide +kernel) (len1 fun _ _ _ h => lC h.2 (fun _ h => lC h (fun _ => l0))) ?_
  rintro f cdv A outer s H vs Q E hr ⟨x, L, e, ⟨pre, ha⟩, k⟩
  have nd := (fnScope_by (N := ["word", "chains"]) (P := ["word", "chains"]) (sc := fnScope (topS 42)) (by decide +kernel)).nd
  have ok := ok0 e
  have hu := hu_of hr
  have hu0 := hr.units0
  have hu64 := hr.units
  refine ⟨_, (pss_cons (ps_expr (pe_c (c_check_word F 10) hr (by decide) rfl (pa_cons (pv 0) (pa_cons (pe_callB (klen K rfl) rfl F.len bt_len (pa_cons (kfld K rfl (pv 1) rfl) pa_nil)) (pa_cons (pe_callB (klen K rfl) rfl F.len bt_len (pa_cons (kfld K rfl (pv 1) rfl) pa_nil)) pa_nil)))))
  (pss_one (ps_ret (pe_c (c_space_of F 10) hr (by decide) rfl (pa_cons (pv 0) (pa_cons (pv 1) pa_nil)))))), ?_⟩
  obtain ⟨u, c⟩ := x
  obtain ⟨hc, hok, hd⟩ := pre
  obtain ⟨v1, v2, rfl, h1, h2⟩ := a2 ha
  have h1 : rW u v1 L := h1
  have h2 : rCh K c v2 L := h2
  refine gDrop ok (Stp.refl ok) (gcp (R := fun _ : CW × Nat × Nat => rV .non) (u, c.a.length, c.b.length) ⟨hok, hd⟩ (gaC (gv rfl h1) (gaC (glen (sqOfT (R := rV v1) (gfirst F (gv rfl h2))) fun vs L' h => Pd.length h) (gaC (glen (sqOfT (R := rV v1) (gsecond F (gv rfl h2))) fun vs L' h => Pd.length h) ga0)))) fun _ L1 H1 S1 s1 _ => ?_
  exact gEnd ok S1 k (gcp (R := fun q : CW × Chs => rSp K (q.2.sp (q.2.val q.1))) (u, c) ⟨⟨hc, hok⟩, hd⟩ (gaC (gv rfl (up s1.ll h1)) (gaC (gv rfl (up s1.ll h2)) ga0)))
def spCellsOf : Sp := spR (fun q : CW × Nat × Nat => aAnd (q.1.ok q.2.1 q.2.2 ∧ dep q.1 < 10 ∧ q.2.1 ≤ 20 ∧ q.2.2 ≤ 20) (aCons (rW q.1) (aCons (rInt (q.2.1 : Int)) (aCons (rInt (q.2.2 : Int)) aNil)))) (fun q => rLs rCell ((HM.allCells q.2.1 q.2.2).filter q.1.has))
theorem cells_le {m n : Nat} (hm : m ≤ 20) (hn : n ≤ 20) : (HM.allCells m n).length ≤ 441 := by
  unfold HM.allCells
  simp only [List.length_flatMap, List.length_map, List.length_range, List.map_const', List.sum_replicate_nat]
  exact Nat.le_trans (Nat.mul_le_mul (show m + 1 ≤ 21 by omega) (show n + 1 ≤ 21 by omega)) (by decide)
theorem c_chain_cells (F : Cs K mg) : Cal P w K mg base 14 "chain_cells" (spCellsOf) [] := by
  refine calG (N := ["word", "first", "second", "cell"]) (ps := ["word", "first", "second"]) F.d_chain_cells (fun _ _ _ _ _ _ us hl => match us, hl with | [_, _, _], _ => rfl) (by decide +kernel) (len1 fun _ _ _ h => lC h.2 (fun _ h => lC h (fun _ h => lC h (fun _ => l0)))) ?_
  rintro f cdv A outer s H vs Q E hr ⟨x, L, e, ⟨pre, ha⟩, k⟩
  have nd := (fnScope_by (N := ["word", "first", "second", "cell"]) (P := ["word", "first", "second"]) (sc := fnScope (topS 44)) (by decide +kernel)).nd
  have ok := ok0 e
  have hu := hu_of hr
  have hu0 := hr.units0
  have hu64 := hr.units
  refine ⟨_, (pss_cons (ps_expr (pe_c (c_check_word F 10) hr (by decide) rfl (pa_cons (pv 0) (pa_cons (pv 1) (pa_cons (pv 2) pa_nil)))))
  (pss_one (ps_ret (pe_lc (own := [("cell", 3)]) rfl nd (kpi_list K rfl (pe_c (c_all_cells F) hr (by decide) rfl (pa_cons (pv 1) (pa_cons (pv 2) pa_nil)))) (blkOk_by (N := ["word", "first", "second", "cell"]) (sc := fnScope (topS 44)) (by decide +kernel)) (fun _ _ _ _ _ => (pg_name (i := 3) nd rfl (Or.inl rfl))) (fun _ _ _ _ _ => pts_one (pt_val (pe_c (c_is_in F 10) hr (by decide) rfl (pa_cons (pv 3) (pa_cons (pv 0) pa_nil))))) (fun _ _ _ _ _ => (pv 3)))))), ?_⟩
  obtain ⟨u, m, n⟩ := x
  obtain ⟨hok, hd, hm, hn⟩ := pre
  obtain ⟨v1, _, rfl, h1', h⟩ := ha
  obtain ⟨_, _, rfl, rfl, rfl⟩ := a2 h
  have h1 : rW u v1 L := h1'
  have hl := cells_le hm hn
  refine gDrop ok (Stp.refl ok) (gcp (R := fun _ : CW × Nat × Nat => rV .non) (u, m, n) ⟨hok, hd⟩ (gaC (gv rfl h1) (gaC (gv rfl rfl) (gaC (gv rfl rfl) ga0)))) fun _ L1 H1 S1 s1 _ => ?_
  refine gEnd ok S1 k (geqLs (glcF (Z := rCell) u.has id (gi_list (gcp (R := fun q : Nat × Nat => rLs rCell (HM.allCells q.1 q.2)) (m, n) ⟨hm, hn⟩ (gaC (gv rfl rfl) (gaC (gv rfl rfl) ga0)))) (by show (HM.allCells m n).length ≤ 40000; exact Nat.le_trans hl (by decide)) (fun _ => rfl) (fun a xa L2 ha' e2 hx => gB (gcp (R := fun q : (Nat × Nat) × CW => rV (.bl (q.2.has q.1))) (a, u) ⟨trivial, hd⟩ (gaC (gv rfl hx) (gaC (gv rfl (up (s1.ll.trans e2) h1)) ga0)))) fun a xa L2 ha' e2 hx _ => gv rfl hx) (List.map_id _))
def spPart : Sp := spR (fun q : CW × CW × Nat × Nat => aAnd (q.1.ok q.2.2.1 q.2.2.2 ∧ q.2.1.ok q.2.2.1 q.2.2.2 ∧ dep q.1 < 10 ∧ dep q.2.1 < 10 ∧ q.2.2.1 ≤ 20 ∧ q.2.2.2 ≤ 20) (aCons (rW q.1) (aCons (rW q.2.1) (aCons (rInt (q.2.2.1 : Int)) (aCons (rInt (q.2.2.2 : Int)) aNil))))) (fun q => rNone ((HM.allCells q.2.2.1 q.2.2.2).all fun c => q.1.has c == q.2.1.has c))
theorem c_chain_parting (F : Cs K mg) : Cal P w K mg base 14 "chain_parting" (spPart) [] := by
  refine calG (N := ["one", "other", "first", "second", "cell"]) (ps := ["one", "other", "first", "second"]) F.d_chain_parting (fun _ _ _ _ _ _ us hl => match us, hl with | [_, _, _, _], _ => rfl) (by decide +kernel) (len1 fun _ _ _ h => lC h.2 (fun _ h => lC h (fun _ h => lC h (fun _ h => lC h (fun _ => l0))))) ?_
  rintro f cdv A outer s H vs Q E hr ⟨x, L, e, ⟨pre, ha⟩, k⟩
  have nd := (fnScope_by (N := ["one", "other", "first", "second", "cell"]) (P := ["one", "other", "first", "second"]) (sc := fnScope (topS 45)) (by decide +kernel)).nd
  have ok := ok0 e
  have hu := hu_of hr
  have hu0 := hr.units0
  have hu64 := hr.units
  refine ⟨_, (pss_cons (ps_expr (pe_c (c_check_word F 10) hr (by decide) rfl (pa_cons (pv 0) (pa_cons (pv 2) (pa_cons (pv 3) pa_nil)))))
  (pss_cons (ps_expr (pe_c (c_check_word F 10) hr (by decide) rfl (pa_cons (pv 1) (pa_cons (pv 2) (pa_cons (pv 3) pa_nil)))))
  (pss_cons (ps_for PassesOwn.never rfl (kpi_list K rfl (pe_c (c_all_cells F) hr (by decide) rfl (pa_cons (pv 2) (pa_cons (pv 3) pa_nil)))) (pg_name (i := 4) nd rfl (by first | exact Or.inl rfl | exact Or.inr rfl)) (pss_one (ps_if (pt_cmpR op_ne (pe_c (c_is_in F 10) hr (by decide) rfl (pa_cons (pv 4) (pa_cons (pv 0) pa_nil))) (pe_c (c_is_in F 10) hr (by decide) rfl (pa_cons (pv 4) (pa_cons (pv 1) pa_nil))) (nomark _)) (pss_one (ps_ret (pv 4))) pss_nil)))
  (pss_one (ps_ret pe_non))))), ?_⟩
  obtain ⟨u, z, m, n⟩ := x
  obtain ⟨hok, hok2, hd, hd2, hm, hn⟩ := pre
  obtain ⟨v1, _, rfl, h1', v2, _, rfl, h2', h⟩ := ha
  obtain ⟨_, _, rfl, rfl, rfl⟩ := a2 h
  have h1 : rW u v1 L := h1'
  have h2 : rW z v2 L := h2'
  refine gDrop ok (Stp.refl ok) (gcp (R := fun _ : CW × Nat × Nat => rV .non) (u, m, n) ⟨hok, hd⟩ (gaC (gv rfl h1) (gaC (gv rfl rfl) (gaC (gv rfl rfl) ga0)))) fun _ L1 H1 S1 s1 _ => ?_
  refine gDrop ok S1 (gcp (R := fun _ : CW × Nat × Nat => rV .non) (z, m, n) ⟨hok2, hd2⟩ (gaC (gv rfl (up s1.ll h2)) (gaC (gv rfl rfl) (gaC (gv rfl rfl) ga0)))) fun _ L2 H2 S2 s2 _ => ?_
  refine gForS ok S2 (gi_list (gcp (R := fun q : Nat × Nat => rLs rCell (HM.allCells q.1 q.2)) (m, n) ⟨hm, hn⟩ (gaC (gv rfl rfl) (gaC (gv rfl rfl) ga0)))) (fun i σ' La Ha => (∃ u1, σ' = [some v1, some v2, some (.int (m : Int)), some (.int (n : Int)), u1]) ∧ ((HM.allCells m n).take i).all (fun c => u.has c == z.has c) = true) ?_ ?_ ?_
  · intro L3 H3 _ _
    exact ⟨⟨_, rfl⟩, rfl⟩
  · rintro Lm em i a x' σ' La Ha Lb Hb ha' Sa ea ⟨⟨u1, rfl⟩, hall⟩ sb hx
    have ex := s1.ll.trans (s2.ll.trans (em.trans (ea.trans sb.ll)))
    refine gIfS ok (Sa.trans sb) (gtest (gne (b := !decide (V.bl (u.has a) = V.bl (z.has a))) (gcp (R := fun q : (Nat × Nat) × CW => rV (.bl (q.2.has q.1))) (a, u) ⟨trivial, hd⟩ (gaC (gv rfl hx) (gaC (gv rfl (up ex h1)) ga0))) (gcp (R := fun q : (Nat × Nat) × CW => rV (.bl (q.2.has q.1))) (a, z) ⟨trivial, hd2⟩ (gaC (gv rfl hx) (gaC (gv rfl (up ex h2)) ga0))) rfl rfl)) (fun hb L3 H3 S3 s3 => ?_) fun hb L3 H3 S3 s3 => ?_
    · have hne : u.has a ≠ z.has a := fun e => by rw [e] at hb; simp at hb
      have hf : (HM.allCells m n).all (fun c => u.has c == z.has c) = false := by
        rw [Bool.eq_false_iff]
        intro h
        exact hne (eq_of_beq (List.all_eq_true.mp h a (List.mem_of_getElem? ha')))
      refine gEnd ok S3 k (gv rfl ?_)
      show rNone ((HM.allCells m n).all fun c => u.has c == z.has c) x' L3
      rw [hf]
      obtain ⟨p, _, e1, _⟩ := hx
      exact ⟨p, e1⟩
    · have heq : u.has a = z.has a := by
        have h0 : decide (V.bl (u.has a) = V.bl (z.has a)) = true := by simpa using hb
        injection of_decide_eq_true h0
      refine ⟨L3, S3, ea.trans (sb.ll.trans s3.ll), ⟨_, rfl⟩, ?_⟩
      rw [take_at ha', List.all_append, hall]
      simp [heq]
  · rintro σ' La Ha Sa ea ⟨⟨u1, rfl⟩, hall⟩
    rw [List.take_length] at hall
    refine gEnd ok Sa k (gc ?_)
    show rNone ((HM.allCells m n).all fun c => u.has c == z.has c) .non La
    rw [hall]; rfl
def spBreach : Sp := spR (fun q : CW × CW × Nat × Nat => aAnd (q.1.ok q.2.2.1 q.2.2.2 ∧ q.2.1.ok q.2.2.1 q.2.2.2 ∧ dep q.1 < 10 ∧ dep q.2.1 < 10 ∧ q.2.2.1 ≤ 20 ∧ q.2.2.2 ≤ 20) (aCons (rW q.1) (aCons (rW q.2.1) (aCons (rInt (q.2.2.1 : Int)) (aCons (rInt (q.2.2.2 : Int)) aNil))))) (fun q => rNone ((HM.allCells q.2.2.1 q.2.2.2).all fun c => !(q.1.has c && !q.2.1.has c)))
theorem c_chain_breach (F : Cs K mg) : Cal P w K mg base 14 "chain_breach" (spBreach) [] := by
  refine calG (N := ["one", "other", "first", "second", "cell"]) (ps := ["one", "other", "first", "second"]) F.d_chain_breach (fun _ _ _ _ _ _ us hl => match us, hl with | [_, _, _, _], _ => rfl) (by decide +kernel) (len1 fun _ _ _ h => lC h.2 (fun _ h => lC h (fun _ h => lC h (fun _ h => lC h (fun _ => l0))))) ?_
  rintro f cdv A outer s H vs Q E hr ⟨x, L, e, ⟨pre, ha⟩, k⟩
  have nd := (fnScope_by (N := ["one", "other", "first", "second", "cell"]) (P := ["one", "other", "first", "second"]) (sc := fnScope (topS 46)) (by decide +kernel)).nd
  have ok := ok0 e
  have hu := hu_of hr
  have hu0 := hr.units0
  have hu64 := hr.units
  refine ⟨_, (pss_cons (ps_expr (pe_c (c_check_word F 10) hr (by decide) rfl (pa_cons (pv 0) (pa_cons (pv 2) (pa_cons (pv 3) pa_nil)))))
  (pss_cons (ps_expr (pe_c (c_check_word F 10) hr (by decide) rfl (pa_cons (pv 1) (pa_cons (pv 2) (pa_cons (pv 3) pa_nil)))))
  (pss_cons (ps_for PassesOwn.never rfl (kpi_list K rfl (pe_c (c_all_cells F) hr (by decide) rfl (pa_cons (pv 2) (pa_cons (pv 3) pa_nil)))) (pg_name (i := 4) nd rfl (by first | exact Or.inl rfl | exact Or.inr rfl)) (pss_one (ps_if (PW.pt (pw_and (pt_val (pe_c (c_is_in F 10) hr (by decide) rfl (pa_cons (pv 4) (pa_cons (pv 0) pa_nil)))) (pw_and1 (pt_not (pt_val (pe_c (c_is_in F 10) hr (by decide) rfl (pa_cons (pv 4) (pa_cons (pv 1) pa_nil)))))))) (pss_one (ps_ret (pv 4))) pss_nil)))
  (pss_one (ps_ret pe_non))))), ?_⟩
  obtain ⟨u, z, m, n⟩ := x
  obtain ⟨hok, hok2, hd, hd2, hm, hn⟩ := pre
  obtain ⟨v1, _, rfl, h1', v2, _, rfl, h2', h⟩ := ha
  obtain ⟨_, _, rfl, rfl, rfl⟩ := a2 h
  have h1 : rW u v1 L := h1'
  have h2 : rW z v2 L := h2'
  refine gDrop ok (Stp.refl ok) (gcp (R := fun _ : CW × Nat × Nat => rV .non) (u, m, n) ⟨hok, hd⟩ (gaC (gv rfl h1) (gaC (gv rfl rfl) (gaC (gv rfl rfl) ga0)))) fun _ L1 H1 S1 s1 _ => ?_
  refine gDrop ok S1 (gcp (R := fun _ : CW × Nat × Nat => rV .non) (z, m, n) ⟨hok2, hd2⟩ (gaC (gv rfl (up s1.ll h2)) (gaC (gv rfl rfl) (gaC (gv rfl rfl) ga0)))) fun _ L2 H2 S2 s2 _ => ?_
  refine gForS ok S2 (gi_list (gcp (R := fun q : Nat × Nat => rLs rCell (HM.allCells q.1 q.2)) (m, n) ⟨hm, hn⟩ (gaC (gv rfl rfl) (gaC (gv rfl rfl) ga0)))) (fun i σ' La Ha => (∃ u1, σ' = [some v1, some v2, some (.int (m : Int)), some (.int (n : Int)), u1]) ∧ ((HM.allCells m n).take i).all (fun c => !(u.has c && !z.has c)) = true) ?_ ?_ ?_
  · intro L3 H3 _ _
    exact ⟨⟨_, rfl⟩, rfl⟩
  · rintro Lm em i a x' σ' La Ha Lb Hb ha' Sa ea ⟨⟨u1, rfl⟩, hall⟩ sb hx
    have ex := s1.ll.trans (s2.ll.trans (em.trans (ea.trans sb.ll)))
    refine gIfS ok (Sa.trans sb) (gand (gB (gcp (R := fun q : (Nat × Nat) × CW => rV (.bl (q.2.has q.1))) (a, u) ⟨trivial, hd⟩ (gaC (gv rfl hx) (gaC (gv rfl (up ex h1)) ga0)))) fun _ => gnot (gB (gcp (R := fun q : (Nat × Nat) × CW => rV (.bl (q.2.has q.1))) (a, z) ⟨trivial, hd2⟩ (gaC (gv rfl hx) (gaC (gv rfl (up ex h2)) ga0))))) (fun hb L3 H3 S3 s3 => ?_) fun hb L3 H3 S3 s3 => ?_
    · have hf : (HM.allCells m n).all (fun c => !(u.has c && !z.has c)) = false := by
        rw [Bool.eq_false_iff]
        intro h
        have h2 := List.all_eq_true.mp h a (List.mem_of_getElem? ha')
        have hb : (u.has a && !z.has a) = true := hb
        rw [hb] at h2
        cases h2
      refine gEnd ok S3 k (gv rfl ?_)
      show rNone ((HM.allCells m n).all fun c => !(u.has c && !z.has c)) x' L3
      rw [hf]
      obtain ⟨p, _, e1, _⟩ := hx
      exact ⟨p, e1⟩
    · have hb : (u.has a && !z.has a) = false := hb
      refine ⟨L3, S3, ea.trans (sb.ll.trans s3.ll), ⟨_, rfl⟩, ?_⟩
      rw [take_at ha', List.all_append, hall]
      simp only [List.all_cons, List.all_nil, hb]
      rfl
  · rintro σ' La Ha Sa ea ⟨⟨u1, rfl⟩, hall⟩
    rw [List.take_length] at hall
    refine gEnd ok Sa k (gc ?_)
    show rNone ((HM.allCells m n).all fun c => !(u.has c && !z.has c)) .non La
    rw [hall]; rfl
def spSized (K : PySem.W.Frag) : Sp := spR (fun q : Chs × CW => aAnd (q.1.ok ∧ q.2.ok q.1.a.length q.1.b.length ∧ dep q.2 < 10) (aCons (rCh K q.1) (aCons (rW q.2) aNil))) (fun _ => rV (.bl true))
theorem c__law_sized (F : Cs K mg) : Cal P w K mg base 23 "_law_sized" (spSized K) [] := by
  refine calG (N := ["_law_chains_here", "_law_term_here", "_law_told", "_law_cells", "_law_cell"]) (ps := ["_law_chains_here", "_law_term_here"]) F.d__law_sized (fun _ _ _ _ _ _ us hl => match us, hl with | [_, _], _ => rfl) (by decide +kernel) (len1 fun _ _ _ h => lC h.2 (fun _ h => lC h (fun _ => l0))) ?_
  rintro f cdv A outer s H vs Q E hr ⟨x, L, e, ⟨pre, ha⟩, k⟩
  have nd := (fnScope_by (N := ["_law_chains_here", "_law_term_here", "_law_told", "_law_cells", "_law_cell"]) (P := ["_law_chains_here", "_law_term_here"]) (sc := fnScope (topS 84)) (by decide +kernel)).nd
  have ok := ok0 e
  have hu := hu_of hr
  have hu0 := hr.units0
  have hu64 := hr.units
  refine ⟨_, (pss_cons (ps_set (i := 2) nd rfl (by first | exact Or.inl rfl | exact Or.inr rfl) (pe_c (c_cell_table F) hr (by decide) rfl (pa_cons (pv 0) pa_nil)))
  (pss_cons (ps_set (i := 3) nd rfl (by first | exact Or.inl rfl | exact Or.inr rfl) (pe_c (c_chain_cells F) hr (by decide) rfl (pa_cons (pv 1) (pa_cons (pe_callB (klen K rfl) rfl F.len bt_len (pa_cons (kfld K rfl (pv 0) rfl) pa_nil)) (pa_cons (pe_callB (klen K rfl) rfl F.len bt_len (pa_cons (kfld K rfl (pv 0) rfl) pa_nil)) pa_nil)))))
  (pss_one (ps_ret (pe_cmpR op_eq (pe_callB (oLen K rfl F.sLen.me (n_Space_len F) hr (by decide)) rfl F.len bt_len (pa_cons (pe_c (c_chain_value F) hr (by decide) rfl (pa_cons (pv 1) (pa_cons (pv 0) pa_nil))) pa_nil)) (pe_callB (ksum K rfl rfl) rfl F.sum bt_sum (pa_cons (pe_lc (own := [("_law_cell", 4)]) rfl nd (kpi_list K rfl (pv 3)) (blkOk_by (N := ["_law_chains_here", "_law_term_here", "_law_told", "_law_cells", "_law_cell"]) (sc := fnScope (topS 84)) (by decide +kernel)) (fun _ _ _ _ _ => (pg_name (i := 4) nd rfl (Or.inl rfl))) (fun _ _ _ _ _ => pts_nil) (fun _ _ _ _ _ => (pe_dget hu (pv 2) (pv 4) (fun _ _ => rfl)))) pa_nil)) (nomark _)))))), ?_⟩
  obtain ⟨c, u⟩ := x
  obtain ⟨hc, hok, hd⟩ := pre
  have hc : c.ok := hc
  obtain ⟨v1, v2, rfl, h1', h2'⟩ := a2 ha
  have h1 : rCh K c v1 L := h1'
  have h2 : rW u v2 L := h2'
  have hvl := red_len hc.hp (Chs.val_ok hc u).2.2
  have hcl := Chs.cells_len hc
  refine gSet ok (Stp.refl ok) (gcp (R := fun c : Chs => rTab c.cells fun d => ((c.cellV d).length : Nat)) c hc (gaC (gv rfl h1) ga0)) fun vt L1 H1 S1 s1 rt => ?_
  refine gSet ok S1 (gcp (R := fun q : CW × Nat × Nat => rLs rCell ((HM.allCells q.2.1 q.2.2).filter q.1.has)) (u, c.a.length, c.b.length) ⟨hok, hd, hc.la.2, hc.lb⟩ (gaC (gv rfl (up s1.ll h2)) (gaC (glen (sqOfT (R := rV v1) (gfirst F (gv rfl (up s1.ll h1)))) fun vs L' h => Pd.length h) (gaC (glen (sqOfT (R := rV v1) (gsecond F (gv rfl (up s1.ll h1)))) fun vs L' h => Pd.length h) ga0)))) fun vc L2 H2 S2 s2 rc => ?_
  have rc : rLs rCell (c.cells.filter u.has) vc L2 := rc
  have hfl : (c.cells.filter u.has).length ≤ 441 := Nat.le_trans (List.length_filter_le _ _) hcl
  have hsum : ((c.cells.filter u.has).map fun d => (((c.cellV d).length : Nat) : Int)).sum = ((c.val u).length : Nat) := by
    have := (Chs.ch hc).sized hc.hp hok
    show _ = (((u.val c.p c.n c.A c.B).length : Nat) : Int)
    rw [show (u.val c.p c.n c.A c.B).length = HM.cnt c.cellV c.cells u.has from this]
    unfold HM.cnt
    generalize c.cells.filter u.has = l
    induction l with
    | nil => rfl
    | cons a l ih => simp only [List.map_cons, List.sum_cons, ih]; omega
  refine gEnd ok S2 k (geq (x := .int ((c.val u).length : Nat)) (y := .int ((c.val u).length : Nat)) (glenS (s := c.sp (c.val u)) (by show (c.val u).length ≤ 1000; have := hc.hn; have : (c.val u).length ≤ c.n := hvl; omega) (gcp (R := fun q : CW × Chs => rSp K (q.2.sp (q.2.val q.1))) (u, c) ⟨hc, hok, hd⟩ (gaC (gv rfl (up (s1.ll.trans s2.ll) h2)) (gaC (gv rfl (up (s1.ll.trans s2.ll) h1)) ga0))))
    (geqI (gsum (glc1 (Z := rInt) (fun d => (((c.cellV d).length : Nat) : Int)) (gi_list (gv rfl rc)) (by omega) (fun _ => rfl) fun d xd L3 hd' e3 hx => gdget (List.mem_filter.mp hd').1 (gv rfl (up (s2.ll.trans e3) rt)) (gv rfl hx))) hsum) rfl (by simp))
def spHeld (K : PySem.W.Frag) : Sp := spR (fun q : Chs × CW × CW => aAnd (q.1.ok ∧ q.2.1.ok q.1.a.length q.1.b.length ∧ q.2.2.ok q.1.a.length q.1.b.length ∧ dep q.2.1 < 9 ∧ dep q.2.2 < 9) (aCons (rCh K q.1) (aCons (rW q.2.1) (aCons (rW q.2.2) aNil)))) (fun _ => rV (.bl true))
theorem c__law_held (F : Cs K mg) : Cal P w K mg base 23 "_law_held" (spHeld K) [] := by
  refine calG (N := ["_law_chains_here", "_law_one", "_law_other", "_law_first", "_law_second", "_law_mine", "_law_yours", "_law_both"]) (ps := ["_law_chains_here", "_law_one", "_law_other"]) F.d__law_held (fun _ _ _ _ _ _ us hl => match us, hl with | [_, _, _], _ => rfl) (by decide +kernel) (len1 fun _ _ _ h => lC h.2 (fun _ h => lC h (fun _ h => lC h (fun _ => l0)))) ?_
  rintro f cdv A outer s H vs Q E hr ⟨x, L, e, ⟨pre, ha⟩, k⟩
  have nd := (fnScope_by (N := ["_law_chains_here", "_law_one", "_law_other", "_law_first", "_law_second", "_law_mine", "_law_yours", "_law_both"]) (P := ["_law_chains_here", "_law_one", "_law_other"]) (sc := fnScope (topS 85)) (by decide +kernel)).nd
  have ok := ok0 e
  have hu := hu_of hr
  have hu0 := hr.units0
  have hu64 := hr.units
  refine ⟨_, (pss_cons (ps_par (i := 3) (j := 4) rfl nd rfl rfl (by decide) rfl rfl (pa_cons (pe_callB (klen K rfl) rfl F.len bt_len (pa_cons (kfld K rfl (pv 0) rfl) pa_nil)) (pa_cons (pe_callB (klen K rfl) rfl F.len bt_len (pa_cons (kfld K rfl (pv 0) rfl) pa_nil)) pa_nil)) rfl)
  (pss_cons (ps_par (i := 5) (j := 6) rfl nd rfl rfl (by decide) rfl rfl (pa_cons (pe_c (c_chain_value F) hr (by decide) rfl (pa_cons (pv 1) (pa_cons (pv 0) pa_nil))) (pa_cons (pe_c (c_chain_value F) hr (by decide) rfl (pa_cons (pv 2) (pa_cons (pv 0) pa_nil))) pa_nil)) rfl)
  (pss_cons (ps_if (PW.pt (pw_and (pt_cmp (pc_isN (pe_c (c_chain_parting F) hr (by decide) rfl (pa_cons (pv 1) (pa_cons (pv 2) (pa_cons (pv 3) (pa_cons (pv 4) pa_nil))))))) (pw_and1 (pt_not (pt_cmpR (oC K rfl (fun _ _ => rfl) F.sEq.me (n_Space_eq F) hr (by decide)) (pv 5) (pv 6) (nomark _)))))) (pss_one (ps_ret pe_bl)) pss_nil)
  (pss_cons (ps_if (PW.pt (pw_and (pt_cmp (pc_isN (pe_c (c_chain_breach F) hr (by decide) rfl (pa_cons (pv 1) (pa_cons (pv 2) (pa_cons (pv 3) (pa_cons (pv 4) pa_nil))))))) (pw_and1 (pt_not (pt_cmpR (oC K rfl (fun _ _ => rfl) F.sLe.me (n_Space_le F) hr (by decide)) (pv 5) (pv 6) (nomark _)))))) (pss_one (ps_ret pe_bl)) pss_nil)
  (pss_cons (ps_set (i := 7) nd rfl (by first | exact Or.inl rfl | exact Or.inr rfl) (pe_tup (pa_cons pe_str (pa_cons (pv 1) (pa_cons (pv 2) pa_nil)))))
  (pss_cons (ps_if (pt_cmp (pc_notN (pe_c (c_chain_breach F) hr (by decide) rfl (pa_cons (pv 7) (pa_cons (pv 1) (pa_cons (pv 3) (pa_cons (pv 4) pa_nil))))))) (pss_one (ps_ret pe_bl)) pss_nil)
  (pss_one (ps_ret (pe_cmp (pc_isN (pe_c (c_chain_parting F) hr (by decide) rfl (pa_cons (pv 7) (pa_cons (pe_tup (pa_cons pe_str (pa_cons (pv 2) (pa_cons (pv 1) pa_nil)))) (pa_cons (pv 3) (pa_cons (pv 4) pa_nil))))))))))))))), ?_⟩
  obtain ⟨c, u, z⟩ := x
  obtain ⟨hc, hu1, hz1, hdu, hdz⟩ := pre
  have hc : c.ok := hc
  obtain ⟨v0, _, rfl, h0', h⟩ := ha
  obtain ⟨v1, v2, rfl, h1', h2'⟩ := a2 h
  have h0 : rCh K c v0 L := h0'
  have h1 : rW u v1 L := h1'
  have h2 : rW z v2 L := h2'
  have hdu : dep u < 9 := hdu
  have hdz : dep z < 9 := hdz
  have la := hc.la.2
  have lb := hc.lb
  have hok1 : u.ok c.a.length c.b.length := hu1
  have hok2 : z.ok c.a.length c.b.length := hz1
  refine gPar (Ra := rInt ((c.a.length : Nat) : Int)) (Rb := rInt ((c.b.length : Nat) : Int)) ok (Stp.refl ok) (by exact glen (sqOfT (R := rV v1) (gfirst F (gv rfl h0))) fun vs L' h => Pd.length h) (by exact glen (sqOfT (R := rV v1) (gsecond F (gv rfl h0))) fun vs L' h => Pd.length h) fun w1 w2 L1 H1 S1 s1 r1 r2 => ?_
  obtain rfl : w1 = .int ((c.a.length : Nat) : Int) := r1
  obtain rfl : w2 = .int ((c.b.length : Nat) : Int) := r2
  refine gPar (Ra := rSp K (c.sp (c.val u))) (Rb := rSp K (c.sp (c.val z))) ok S1 (by exact gcp (R := fun q : CW × Chs => rSp K (q.2.sp (q.2.val q.1))) (u, c) ⟨hc, hok1, by show dep u < 10; omega⟩ (gaC (gv rfl (up s1.ll h1)) (gaC (gv rfl (up s1.ll h0)) ga0))) (by exact gcp (R := fun q : CW × Chs => rSp K (q.2.sp (q.2.val q.1))) (z, c) ⟨hc, hok2, by show dep z < 10; omega⟩ (gaC (gv rfl (up s1.ll h2)) (gaC (gv rfl (up s1.ll h0)) ga0))) fun m1 m2 L2 H2 S2 s2 rm ry => ?_
  have h1b := up (s1.ll.trans s2.ll) h1
  have h2b := up (s1.ll.trans s2.ll) h2
  have hall : ∀ {f g : Nat × Nat → Bool}, (c.cells.all fun d => f d == g d) = true → ∀ d ∈ c.cells, f d = g d := fun h d hd => eq_of_beq (List.all_eq_true.mp h d hd)
  refine gNot ok S2 (b := false) (geqT (gand (a := c.cells.all fun d => u.has d == z.has d) (b := false) (gB (gisN (gcp (R := fun q : CW × CW × Nat × Nat => rNone ((HM.allCells q.2.2.1 q.2.2.2).all fun c => q.1.has c == q.2.1.has c)) (u, z, c.a.length, c.b.length) ⟨hok1, hok2, by show dep u < 10; omega, by show dep z < 10; omega, la, lb⟩ (gaC (gv rfl h1b) (gaC (gv rfl h2b) (gaC (gv rfl rfl) (gaC (gv rfl rfl) ga0))))))) fun hb => gnot (b := true) (gtest ?_)) (by simp)) rfl fun L3 H3 S3 s3 => ?_
  · have e : c.val u = c.val z := (Chs.ch hc).held_eq hc.hp hok1 hok2 (hall hb)
    rw [← e] at ry
    exact gown2 (Rl := fun s => rSp K s) (Rr := fun s => rSp K s) (R := fun _ : Spc => rV (.bl true)) (c.sp (c.val u)) trivial (gv rfl rm) (gv rfl ry) (fun _ _ => rSp_ins) (fun _ _ => rSp_ins)
  have h1c := up s3.ll h1b
  have h2c := up s3.ll h2b
  refine gNot ok S3 (b := false) (geqT (gand (a := c.cells.all fun d => !(u.has d && !z.has d)) (b := false) (gB (gisN (gcp (R := fun q : CW × CW × Nat × Nat => rNone ((HM.allCells q.2.2.1 q.2.2.2).all fun c => !(q.1.has c && !q.2.1.has c))) (u, z, c.a.length, c.b.length) ⟨hok1, hok2, by show dep u < 10; omega, by show dep z < 10; omega, la, lb⟩ (gaC (gv rfl h1c) (gaC (gv rfl h2c) (gaC (gv rfl rfl) (gaC (gv rfl rfl) ga0))))))) fun hb => gnot (b := true) (gtest ?_)) (by simp)) rfl fun L4 H4 S4 s4 => ?_
  · have e : HM.leRows c.p c.n (c.val u) (c.val z) = true := (Chs.ch hc).held_le hc.hp hok1 hok2 fun d hd hu => by
      have h5 := List.all_eq_true.mp hb d hd
      rw [hu] at h5
      simpa using h5
    exact gown2 (Rl := fun q : Spc × Spc => rSp K q.1) (Rr := fun q : Spc × Spc => rSp K q.2) (R := fun _ : Spc × Spc => rV (.bl true)) (c.sp (c.val u), c.sp (c.val z)) ⟨Chs.val_ok hc u, Chs.val_ok hc z, rfl, rfl, e⟩ (gv rfl (up s3.ll rm)) (gv rfl (up s3.ll ry)) (fun _ _ => rSp_ins) (fun _ _ => rSp_ins)
  have h1d := up s4.ll h1c
  have h2d := up s4.ll h2c
  have hdd : dep (CW.cut u z) < 10 := by
    show max (dep u) (dep z) + 1 < 10
    omega
  have hdd2 : dep (CW.cut z u) < 10 := by
    show max (dep z) (dep u) + 1 < 10
    omega
  refine gSet (R := rW (CW.cut u z)) ok S4 (gtup (gaC (gc rfl) (gaC (gv rfl h1d) (gaC (gv rfl h2d) ga0))) fun vs L' h => by
    have := lC h (fun _ h => lC h (fun _ h => lC h (fun _ => l0)))
    omega) fun vb L5 H5 S5 s5 rb => ?_
  have h1e := up s5.ll h1d
  have h2e := up s5.ll h2d
  refine gNot ok S5 (gB (gnotN (gcp (R := fun q : CW × CW × Nat × Nat => rNone ((HM.allCells q.2.2.1 q.2.2.2).all fun c => !(q.1.has c && !q.2.1.has c))) (CW.cut u z, u, c.a.length, c.b.length) ⟨⟨hok1, hok2⟩, hok1, hdd, by show dep u < 10; omega, la, lb⟩ (gaC (gv rfl rb) (gaC (gv rfl h1e) (gaC (gv rfl rfl) (gaC (gv rfl rfl) ga0))))))) (by
      have : (c.cells.all fun d => !((CW.cut u z).has d && !u.has d)) = true := List.all_eq_true.mpr fun d _ => by
        show (!((u.has d && z.has d) && !u.has d)) = true
        cases u.has d <;> cases z.has d <;> rfl
      show (!(c.cells.all fun d => !((CW.cut u z).has d && !u.has d))) = false
      rw [this]; rfl) fun L6 H6 S6 s6 => ?_
  refine gEnd ok S6 k (geqB (gisN (gcp (R := fun q : CW × CW × Nat × Nat => rNone ((HM.allCells q.2.2.1 q.2.2.2).all fun c => q.1.has c == q.2.1.has c)) (CW.cut u z, CW.cut z u, c.a.length, c.b.length) ⟨⟨hok1, hok2⟩, ⟨hok2, hok1⟩, hdd, hdd2, la, lb⟩ (gaC (gv rfl (up s6.ll rb)) (gaC (gtup (gaC (gc rfl) (gaC (gv rfl (up s6.ll h2e)) (gaC (gv rfl (up s6.ll h1e)) ga0))) fun vs L' h => by
    have := lC h (fun _ h => lC h (fun _ h => lC h (fun _ => l0)))
    omega) (gaC (gv rfl rfl) (gaC (gv rfl rfl) ga0)))))) ?_)
  show (c.cells.all fun d => (CW.cut u z).has d == (CW.cut z u).has d) = true
  exact List.all_eq_true.mpr fun d _ => by
    show ((u.has d && z.has d) == (z.has d && u.has d)) = true
    cases u.has d <;> cases z.has d <;> rfl
end
end HW
/-! part W10 -/
set_option maxHeartbeats 4000000
/-! Spaces as sets of vectors: the law's own way. -/
namespace HW
open PySem PySem.Spec PyProof.Rows L2 HR HV C8
open Evl (Ex)
def vk (r : List Int) : List Key := r.map Sum.inl
theorem vk_inj {r s : List Int} (h : vk r = vk s) : r = s := by
  unfold vk at h
  exact (List.map_inj_right (fun _ _ e => Sum.inl.inj e)).mp h
theorem vk_kV (r : List Int) : (vk r).map kV = r.map V.int := by
  unfold vk
  rw [List.map_map]; rfl
/-- a set of vectors, as a dict -/
def setD (l : List (List Int)) : List (List Key × V) := l.map fun r => (vk r, V.bl true)
theorem set_val : ∀ {l : List (List Int)} {r : List Int}, r ∈ l → valV (setD l) (vk r) = some (V.bl true)
  | d :: l, r, h => by
    by_cases e : d = r
    · subst e; exact valV_pos rfl
    · have hm : r ∈ l := by
        rcases List.mem_cons.mp h with h | h
        · exact absurd h.symm e
        · exact h
      exact (valV_neg (p := (vk d, V.bl true)) (r := setD l) (fun z => e (vk_inj z))).trans (set_val hm)
theorem set_none : ∀ {l : List (List Int)} {r : List Int}, r ∉ l → valV (setD l) (vk r) = none
  | [], _, _ => rfl
  | d :: l, r, h => (valV_neg (p := (vk d, V.bl true)) (r := setD l) (fun z => h (by rw [vk_inj z]; exact List.mem_cons_self))).trans (set_none fun hm => h (List.mem_cons_of_mem _ hm))
theorem set_put {l : List (List Int)} {r : List Int} : putK (setD l) (vk r) (V.bl true) = setD (HM.putV l r) := by
  unfold HM.putV
  by_cases h : r ∈ l
  · rw [if_pos h]
    have ha : ((setD l).any fun kv => decide (kv.1 = vk r)) = true := by rw [valV_any, set_val h]; rfl
    unfold putK
    rw [if_pos ha]
    unfold setD
    rw [List.map_map]
    apply List.map_congr_left
    intro d _
    show (if vk d = vk r then (vk d, V.bl true) else (vk d, V.bl true)) = (vk d, V.bl true)
    split <;> rfl
  · rw [if_neg h, putK_new _ (set_none h)]
    unfold setD
    rw [List.map_append]; rfl
theorem putV_len {l : List (List Int)} {r : List Int} : (HM.putV l r).length ≤ l.length + 1 := by
  unfold HM.putV
  split
  · omega
  · rw [List.length_append]; exact Nat.le_refl _
def rSet (l : List (List Int)) : Rep := fun v L => ∃ d, v = .ref d ∧ L d = some (.dT (setD l))
instance {l : List (List Int)} : Gr (rSet l) := ⟨fun v H H' e ⟨d, h1, h2⟩ => ⟨d, h1, e d _ h2⟩⟩
/-- a tuple as a dict's key -/
def rKey (k : List Key) : Rep := fun v L => ∃ b, v = .ref b ∧ L b = some (.tup (k.map kV))
instance {k : List Key} : Gr (rKey k) := ⟨fun v H H' e ⟨d, h1, h2⟩ => ⟨d, h1, e d _ h2⟩⟩
theorem key_vec {r : List Int} {v : V} {L : Hp} (h : rVec r v L) : rKey (vk r) v L := let ⟨p, h1, h2⟩ := h; ⟨p, h1, by rw [vk_kV]; exact h2⟩
theorem vec_key {r : List Int} {v : V} {L : Hp} (h : rKey (vk r) v L) : rVec r v L := let ⟨p, h1, h2⟩ := h; ⟨p, h1, by rw [vk_kV] at h2; exact h2⟩
theorem key_cell {c : Nat × Nat} {v : V} {L : Hp} (h : rCell c v L) : rKey (ck c) v L := by
  obtain ⟨p, vs, h1, h2, h3⟩ := h
  obtain ⟨a, b, rfl, rfl, rfl⟩ := a2 h3
  exact ⟨p, h1, h2⟩
section
variable {K : PySem.W.Frag} {mg : Str → Option Value} {T : Tap} {L L0 H0 H : Hp} {σ : L2.St} {ta tb tc te tv ty : TE} {R Ra Rb Rc : Rep} {A A' : RepA} {x y v : V} {D : Ends} {tz : TS} {ι : Type}
/-- d[k] = v, d our own -/
theorem gPut {j : Nat} {e : Addr} {kvs : List (List Key × V)} {k : List Key} (ok : Ok T L0 H0) (S : Stp T L0 H0 L H) (hj : σ[j]? = some (some (.ref e))) (hp : Prv H0 L H e (.dT kvs)) (hz : kvs.length < 100000) (hv : Go T L (tv σ) (rV v)) (hk : Go T L (ty σ) (rKey k))
    (kk : ∀ L1 H1, Stp T L0 H0 L1 H1 → Ex L L1 → Prv H0 L1 H1 e (.dT (putK kvs k v)) → (∀ q o, Mutb o → q ≠ e → Prv H0 L H q o → Prv H0 L1 H1 q o) → D.nx σ H1) : sDPut (tVar j) ty tv D σ H :=
  hv H (S.ok ok) _ fun v' L1 H1 s1 r1 => by
    obtain rfl : v' = v := r1
    refine ⟨_, hj, Go.mono s1.ll hk H1 ((S.trans s1).ok ok) _ fun y L2 H2 s2 ⟨b, e1, e2⟩ => ?_⟩
    subst e1
    have hp2 := (hp.step ok s1).step ok s2
    exact ⟨e, _, rfl, DPut.t hp2.at_ (s2.lh b _ e2) (Evl.sz_lt hz), kk L2 _ (Stp.chg ok ((S.trans s1).trans s2) hp2) (s1.ll.trans s2.ll) hp2.set fun q o hm hne hq => ((hq.step ok s1 hm).step ok s2 hm).other hne⟩
/-- name = {}, our own -/
theorem gDictP {i : Nat} (ok : Ok T L0 H0) (S : Stp T L0 H0 L H) (k : ∀ p H1, Stp T L0 H0 L H1 → (∀ q o, Prv H0 L H q o → Prv H0 L H1 q o ∧ q ≠ p) → Ex H H1 → Prv H0 L H1 p (.dT []) → tz D (σ.set i (some (.ref p))) H1) : tSeq (tAsg tDNewT (gName i)) tz D σ H :=
  fun p hp => k p _ (S.add ok hp) (fun q o hq => by
    have hne : q ≠ p := fun z => by
      have := hq.at_
      rw [z, hp] at this; cases this
    exact ⟨hq.other hne, hne⟩) (Evl.Ex.new hp) (Prv.new ok S hp)
/-- for k in d, d our own dict -/
def NxtK (T : Tap) (L0 H0 L : Hp) (d : Addr) (o : HO) (Pv : Nat → L2.St → Hp → Hp → Prop) (i : Nat) : L2.St → Hp → Prop := fun σ' H' => ∃ La, Stp T L0 H0 La H' ∧ Ex L La ∧ Prv H0 La H' d o ∧ Pv i σ' La H'
theorem gKeysP {j : Nat} {d : Addr} {kvs : List (List Key × V)} {g : TG} {tb : TS} (ok : Ok T L0 H0) (S : Stp T L0 H0 L H) (hj : σ[j]? = some (some (.ref d))) (hp : Prv H0 L H d (.dT kvs)) (Pv : Nat → L2.St → Hp → Hp → Prop)
    (h0 : Pv 0 σ L H) (hst : ∀ i σ' La Ha o, Pv i σ' La Ha → Prv H0 La Ha d o → ∀ o', Pv i σ' La (upd Ha d o'))
    (hs : ∀ (od : Obj) (D2 : Ends) (B : L2.St → Hp → Prop) i k v q σ' La Ha, kvs[i]? = some (k, v) → Stp T L0 H0 La Ha → Ex L La → Prv H0 La Ha d (.frz od (.dT kvs)) → Pv i σ' La Ha → La q = some (.tup (k.map kV)) →
      g (.ref q) σ' Ha fun σ2 H2 => tb { D2 with nx := NxtK T L0 H0 L d (.frz od (.dT kvs)) Pv (i + 1), ct := NxtK T L0 H0 L d (.frz od (.dT kvs)) Pv (i + 1), bk := B } σ2 H2)
    (hd : ∀ σ' La Ha, Stp T L0 H0 La Ha → Ex L La → Prv H0 La Ha d (.dT kvs) → Pv kvs.length σ' La Ha → tz D σ' Ha) (hpv : ∀ i σ' La Ha q vs, Pv i σ' La Ha → Stp T L0 H0 La Ha → Ha q = some (.tup vs) → Pv i σ' (upd La q (.tup vs)) Ha) : tSeq (tLock (tFor (iKeys (tVar j)) g tb)) tz D σ H := by
  refine ⟨d, .dT kvs, hp.at_, trivial, fun od => ?_⟩
  have S1 : Stp T L0 H0 L (upd H d (.frz od (.dT kvs))) := Stp.chg ok S hp
  have p1 : Prv H0 L (upd H d (.frz od (.dT kvs))) d (.frz od (.dT kvs)) := hp.set
  refine ⟨_, hj, d, od, rfl, Or.inr ⟨kvs, p1.at_, ?_⟩⟩
  refine for_it walk_keysT (fun i σ' H' => ∃ La, Stp T L0 H0 La H' ∧ Ex L La ∧ Prv H0 La H' d (.frz od (.dT kvs)) ∧ Pv i σ' La H') ⟨L, S1, Evl.Ex.refl _, p1, hst 0 σ L H _ h0 hp _⟩ (fun i σ' H' _ ⟨La, _, _, p, _⟩ => p.at_) ?_ ?_
  · rintro i x σ' Ha Hb hi ⟨La, Sa, ea, pa, pv⟩ ⟨rfl, k, v, q, h1, rfl, h2⟩
    have hnd : q ≠ d := fun z => by rw [z, pa.at_] at h2; cases h2
    have S2 := Sa.tup h2
    have e2 : Ex La (upd La q (.tup (k.map kV))) := fun a u e => by
      by_cases ea' : a = q
      · subst ea'
        have := Sa.lh a u e
        rw [h2] at this
        rw [upd_same]; exact this
      · rw [upd_ne ea']; exact e
    exact hs od _ _ i k v q σ' _ _ h1 S2 (ea.trans e2) ⟨pa.st, by rw [upd_ne (Ne.symm hnd)]; exact pa.nl, pa.at_⟩ (hpv i σ' La _ q _ pv Sa h2) upd_same
  · rintro σ' Ha ⟨La, Sa, ea, pa, pv⟩
    exact ⟨pa.at_, hd σ' La _ (Stp.chg ok Sa pa) ea pa.set (hst _ σ' La Ha _ pv pa _)⟩
/-- while -/
theorem gWhile {c : TT} {tb : TS} (ok : Ok T L0 H0) (S : Stp T L0 H0 L H) (Wv : Nat → L2.St → Hp → Hp → Prop) (m0 : Nat) (h0 : Wv m0 σ L H)
    (hs : ∀ m σ' La Ha, Stp T L0 H0 La Ha → Ex L La → Wv m σ' La Ha → ∃ b, Go T La (c σ') (rB b) ∧ (b = true → ∀ L1 H1, Stp T L0 H0 L1 H1 → Stp T La Ha L1 H1 → tb { D with nx := fun σ2 H2 => ∃ m', m' < m ∧ ∃ L2, Stp T L0 H0 L2 H2 ∧ Ex L L2 ∧ Wv m' σ2 L2 H2, ct := fun σ2 H2 => ∃ m', m' < m ∧ ∃ L2, Stp T L0 H0 L2 H2 ∧ Ex L L2 ∧ Wv m' σ2 L2 H2, bk := tz D } σ' H1) ∧
      (b = false → ∀ L1 H1, Stp T L0 H0 L1 H1 → Stp T La Ha L1 H1 → tz D σ' H1)) : tSeq (tWhile c tb) tz D σ H :=
  ⟨fun m σ' H' => ∃ La, Stp T L0 H0 La H' ∧ Ex L La ∧ Wv m σ' La H', ⟨m0, L, S, Evl.Ex.refl _, h0⟩, fun m σ' Ha ⟨La, Sa, ea, wv⟩ => by
    obtain ⟨b, hb, h1, h2⟩ := hs m σ' La Ha Sa ea wv
    refine hb Ha (Sa.ok ok) _ fun x L1 H1 s1 r1 => ?_
    obtain rfl : x = b := r1
    cases x with
    | true => exact ⟨_, fun σ2 H2 h => h, h1 rfl L1 H1 (Sa.trans s1) s1⟩
    | false => exact h2 rfl L1 H1 (Sa.trans s1) s1⟩
end
section
variable {P : Program} {w : World} {K : PySem.W.Frag} {mg : Str → Option Value} {base : Heap}
def spLAdded : Sp := spR (fun q : Int × List Int × List Int × Int => aAnd (0 < q.1 ∧ (-(2 ^ 64) < q.2.2.2 ∧ q.2.2.2 < 2 ^ 64) ∧ q.2.1.length ≤ 1000 ∧ q.2.2.1.length = q.2.1.length) (aCons (rInt q.1) (aCons (rVec q.2.1) (aCons (rVec q.2.2.1) (aCons (rInt q.2.2.2) aNil))))) (fun q => rVec (HM.comb q.1 q.2.1 q.2.2.2 q.2.2.1))
theorem c__law_added (F : Cs K mg) : Cal P w K mg base 1 "_law_added" (spLAdded) [] := by
  refine calG (N := ["_law_prime", "_law_one", "_law_other", "_law_times", "_law_k"]) (ps := ["_law_prime", "_law_one", "_law_other", "_law_times"]) F.d__law_added (fun _ _ _ _ _ _ us hl => match us, hl with | [_, _, _, _], _ => rfl) (by decide +kernel) (len1 fun _ _ _ h => lC h.2 (fun _ h => lC h (fun _ h => lC h (fun _ h => lC h (fun _ => l0))))) ?_
  rintro f cdv A outer s H vs Q E hr ⟨x, L, e, ⟨pre, ha⟩, k⟩
  have nd := (fnScope_by (N := ["_law_prime", "_law_one", "_law_other", "_law_times", "_law_k"]) (P := ["_law_prime", "_law_one", "_law_other", "_law_times"]) (sc := fnScope (topS 61)) (by decide +kernel)).nd
  have ok := ok0 e
  have hu := hu_of hr
  have hu0 := hr.units0
  have hu64 := hr.units
  refine ⟨_, (pss_one (ps_ret (pe_callTy (ktuple K rfl) rfl F.tuple bt_tuple (pa_cons (pe_lc (own := [("_law_k", 4)]) rfl nd (pi_range1 rfl F.range (pa_cons (pe_callB (klen K rfl) rfl F.len bt_len (pa_cons (pv 1) pa_nil)) pa_nil)) (blkOk_by (N := ["_law_prime", "_law_one", "_law_other", "_law_times", "_law_k"]) (sc := fnScope (topS 61)) (by decide +kernel)) (fun _ _ _ _ _ => (pg_name (i := 4) nd rfl (Or.inl rfl))) (fun _ _ _ _ _ => pts_nil) (fun _ _ _ _ _ => (pe_op op_mod (pe_callTy call_int1 rfl F.int bt_int (pa_cons (pe_op op_add (pe_ix (kix_tup K rfl) (pv 1) (pv 4) (fun _ _ => rfl)) (pe_op op_mul (pv 3) (pe_ix (kix_tup K rfl) (pv 2) (pv 4) (fun _ _ => rfl)))) pa_nil)) (pv 0)))) pa_nil)))), ?_⟩
  obtain ⟨p, u, v, c⟩ := x
  obtain ⟨h0, hc, hn, he⟩ := pre
  have hn : u.length ≤ 1000 := hn
  have he : v.length = u.length := he
  obtain ⟨_, _, rfl, rfl, v1, _, rfl, h1', h3⟩ := ha
  obtain ⟨v2, _, rfl, h2', rfl⟩ := a2 h3
  have h1 : rVec u v1 L := h1'
  have h2 : rVec v v2 L := h2'
  refine gEnd ok (Stp.refl ok) k (geqV (gvec (gtupof (glc1 (Z := rInt) (fun q : Int => (HM.gz u q.toNat + c * HM.gz v q.toNat) % p) (gi_rng1 (n := ((u.length : Nat) : Int)) (gaC (glen (gv rfl (sqT (sqV h1))) fun vs L' h => Pd.length h) ga0) (by omega)) (by rw [upto_len]; omega) (fun _ => rfl) fun a xa L1 ha' e1 hx => ?_))) ?_)
  · obtain ⟨i, hi, rfl⟩ := List.mem_map.mp ha'
    have hi := List.mem_range.mp hi
    have hi2 : i < u.length := by omega
    have e0 : (0 : Int) + (i : Int) = (i : Int) := Int.zero_add _
    rw [e0] at hx ⊢
    obtain rfl : xa = .int (i : Int) := hx
    have e4 : ((i : Int)).toNat = i := by omega
    show Go T0 L1 _ (rInt ((HM.gz u ((i : Int)).toNat + c * HM.gz v ((i : Int)).toNat) % p))
    rw [e4]
    exact gI (i := HM.gz u i + c * HM.gz v i) (j := p) (gint (gI0 (i := HM.gz u i) (j := c * HM.gz v i) (gixG (gv rfl (up e1 h1)) (gv rfl rfl) hi2) (gI (i := c) (j := HM.gz v i) (gv rfl rfl) (gixG (gv rfl (up e1 h2)) (gv rfl rfl) (by omega)) (Or.inl hc) rfl) rfl)) (gv rfl rfl) h0 rfl
  · refine List.ext_getElem (by simp [upto, HM.comb, he]) fun i hi1 hi2 => ?_
    simp only [List.length_map, upto_len] at hi1
    have hi3 : i < u.length := by omega
    simp only [upto, List.map_map, List.getElem_map, List.getElem_range, Function.comp, HM.comb, List.getElem_zipWith]
    have e4 : ((0 : Int) + (i : Int)).toNat = i := by omega
    rw [e4, HM.gz_lt hi3, HM.gz_lt (by omega : i < v.length)]
def spLUnit : Sp := spR (fun q : Nat × Nat => aAnd (q.1 ≤ 1000) (aCons (rInt q.1) (aCons (rInt q.2) aNil))) (fun q => rVec (HM.unitV q.1 q.2))
theorem c__law_unit (F : Cs K mg) : Cal P w K mg base 1 "_law_unit" (spLUnit) [] := by
  refine calG (N := ["_law_length_here", "_law_place", "_law_k"]) (ps := ["_law_length_here", "_law_place"]) F.d__law_unit (fun _ _ _ _ _ _ us hl => match us, hl with | [_, _], _ => rfl) (by decide +kernel) (len1 fun _ _ _ h => lC h.2 (fun _ h => lC h (fun _ => l0))) ?_
  rintro f cdv A outer s H vs Q E hr ⟨x, L, e, ⟨pre, ha⟩, k⟩
  have nd := (fnScope_by (N := ["_law_length_here", "_law_place", "_law_k"]) (P := ["_law_length_here", "_law_place"]) (sc := fnScope (topS 65)) (by decide +kernel)).nd
  have ok := ok0 e
  have hu := hu_of hr
  have hu0 := hr.units0
  have hu64 := hr.units
  refine ⟨_, (pss_one (ps_ret (pe_callTy (ktuple K rfl) rfl F.tuple bt_tuple (pa_cons (pe_lc (own := [("_law_k", 2)]) rfl nd (pi_range1 rfl F.range (pa_cons (pv 0) pa_nil)) (blkOk_by (N := ["_law_length_here", "_law_place", "_law_k"]) (sc := fnScope (topS 65)) (by decide +kernel)) (fun _ _ _ _ _ => (pg_name (i := 2) nd rfl (Or.inl rfl))) (fun _ _ _ _ _ => pts_nil) (fun _ _ _ _ _ => (pe_callTy call_int1 rfl F.int bt_int (pa_cons (pe_cmpR op_eq (pv 2) (pv 1) (nomark _)) pa_nil)))) pa_nil)))), ?_⟩
  obtain ⟨n, i⟩ := x
  obtain ⟨_, _, rfl, rfl, rfl⟩ := a2 ha
  have hn : n ≤ 1000 := pre
  refine gEnd ok (Stp.refl ok) k (geqV (gvec (gtupof (glc1 (Z := rInt) (fun q : Int => if decide (V.int q = V.int i) then 1 else 0) (gi_rng1 (n := (n : Int)) (gaC (gv rfl rfl) ga0) (by omega)) (by rw [upto_len]; omega) (fun _ => rfl) fun a x' L1 _ e1 hx => ?_))) ?_)
  · obtain rfl : x' = .int a := hx
    exact gintB (geq (gv rfl rfl) (gv rfl rfl) rfl rfl)
  · simp [upto, HM.unitV]
    intro a _
    by_cases h : a = i
    · simp [h]
    · rw [if_neg h, if_neg (by omega)]
/-- a set of vectors -/
structure Good (p : Int) (n : Nat) (l : List (List Int)) : Prop where
  nd : l.Nodup
  vec : ∀ v ∈ l, HM.IsV p n v
theorem Good.nil {p : Int} {n : Nat} : Good p n [] := ⟨List.nodup_nil, fun _ h => (by cases h)⟩
theorem Good.put {p : Int} {n : Nat} {l : List (List Int)} {v : List Int} (h : Good p n l) (hv : HM.IsV p n v) : Good p n (HM.putV l v) := ⟨HM.nodup_putV h.nd, fun w hw => by
  rcases HM.mem_putV.mp hw with h' | h'
  · exact h.vec w h'
  · rw [h']; exact hv⟩
theorem nodup_le {α : Type} [DecidableEq α] : ∀ {l m : List α}, l.Nodup → (∀ x ∈ l, x ∈ m) → l.length ≤ m.length
  | [], _, _, _ => Nat.zero_le _
  | a :: l, m, hn, h => by
    have hn' := List.nodup_cons.mp hn
    have ha := h a List.mem_cons_self
    have := nodup_le (m := m.erase a) hn'.2 fun x hx => (List.mem_erase_of_ne (fun e => hn'.1 (by rw [← e]; exact hx))).mpr (h x (List.mem_cons_of_mem _ hx))
    rw [List.length_erase_of_mem ha] at this
    have hp : 0 < m.length := List.length_pos_of_mem ha
    rw [List.length_cons]
    omega
theorem Good.le {p : Int} {n : Nat} {l : List (List Int)} (hp : HM.IsP p) (h : Good p n l) : l.length ≤ p.toNat ^ n := by
  obtain ⟨W, _, w2, w3⟩ := HM.card_ex hp (HM.units_isV (n := n) hp)
  have e : HM.dim n (HM.Span p n (HM.units n)) = n := (HM.dim_congr (HM.span_units hp)).trans (HM.dim_whole hp)
  rw [e] at w3
  rw [← w3]
  exact nodup_le h.nd fun x hx => (w2 x).mpr ((HM.span_units hp x).mpr (h.vec x hx))
section
variable {K : PySem.W.Frag} {mg : Str → Option Value} {T : Tap} {L L0 H0 H : Hp} {σ : L2.St} {tk tv : TE} {v : V} {D : Ends} {tz : TS}
/-- name = {k: v}, our own -/
theorem gDispP {i : Nat} {k : List Key} (ok : Ok T L0 H0) (S : Stp T L0 H0 L H) (hk : Go T L (tk σ) (rKey k)) (hv : Go T L (tv σ) (rV v)) (kk : ∀ p L1 H1, Stp T L0 H0 L1 H1 → Ex L L1 → Prv H0 L1 H1 p (.dT [(k, v)]) → tz D (σ.set i (some (.ref p))) H1) : tSeq (tAsg (tDispT tk tv) (gName i)) tz D σ H :=
  fun p hp => by
    have S1 := S.add ok hp (o := HO.dT [])
    have p1 := Prv.new ok S hp (o := HO.dT [])
    refine hk _ (S1.ok ok) _ fun x L1 H1 s1 ⟨b, e1, e2⟩ => Go.mono s1.ll hv H1 ((S1.trans s1).ok ok) _ fun y L2 H2 s2 r2 => ?_
    obtain rfl : y = v := r2
    have p2 := (p1.step ok s1).step ok s2
    exact ⟨k, b, e1, s2.lh b _ (s2.ll b _ e2), p2.at_, kk p L2 _ (Stp.chg ok ((S1.trans s1).trans s2) p2) (s1.ll.trans s2.ll) p2.set⟩
end
def spLSpan : Sp := spR (fun q : Int × Nat × List (List Int) => aAnd (HM.IsP q.1 ∧ q.2.1 ≤ 100 ∧ q.1.toNat ^ q.2.1 ≤ 1000 ∧ (∀ r ∈ q.2.2, HM.IsV q.1 q.2.1 r)) (aCons (rInt q.1) (aCons (rInt (q.2.1 : Int)) (aCons (rLs rVec q.2.2) aNil)))) (fun q => rSet (HM.spanL q.1 q.2.1 q.2.2))
theorem c__law_span (F : Cs K mg) : Cal P w K mg base 2 "_law_span" (spLSpan) [] := by
  refine calG (N := ["_law_prime", "_law_length_here", "_law_rows_here", "_law_found", "_law_row", "_law_more", "_law_old", "_law_times", "_law_k"]) (ps := ["_law_prime", "_law_length_here", "_law_rows_here"]) F.d__law_span (fun _ _ _ _ _ _ us hl => match us, hl with | [_, _, _], _ => rfl) (by decide +kernel) (len1 fun _ _ _ h => lC h.2 (fun _ h => lC h (fun _ h => lC h (fun _ => l0)))) ?_
  rintro f cdv A outer s H vs Q E hr ⟨x, L, e, ⟨pre, ha⟩, k⟩
  have nd := (fnScope_by (N := ["_law_prime", "_law_length_here", "_law_rows_here", "_law_found", "_law_row", "_law_more", "_law_old", "_law_times", "_law_k"]) (P := ["_law_prime", "_law_length_here", "_law_rows_here"]) (sc := fnScope (topS 62)) (by decide +kernel)).nd
  have ok := ok0 e
  have hu := hu_of hr
  have hu0 := hr.units0
  have hu64 := hr.units
  refine ⟨_, (pss_cons (ps_set (i := 3) nd rfl (by first | exact Or.inl rfl | exact Or.inr rfl) (pe_dispT hu0 (pe_callTy (ktuple K rfl) rfl F.tuple bt_tuple (pa_cons (pe_lc (own := [("_law_k", 8)]) rfl nd (pi_range1 rfl F.range (pa_cons (pv 1) pa_nil)) (blkOk_by (N := ["_law_prime", "_law_length_here", "_law_rows_here", "_law_found", "_law_row", "_law_more", "_law_old", "_law_times", "_law_k"]) (sc := fnScope (topS 62)) (by decide +kernel)) (fun _ _ _ _ _ => (pg_name (i := 8) nd rfl (Or.inl rfl))) (fun _ _ _ _ _ => pts_nil) (fun _ _ _ _ _ => pe_int)) pa_nil)) pe_bl))
  (pss_cons (ps_for PassesOwn.never rfl (kpi_list K rfl (pv 2)) (pg_name (i := 4) nd rfl (by first | exact Or.inl rfl | exact Or.inr rfl)) (pss_cons (ps_set (i := 5) nd rfl (by first | exact Or.inl rfl | exact Or.inr rfl) pe_dnewT)
  (pss_cons (ps_lock (ps_for PassesOwn.never rfl (pi_keys (pv 3)) (pg_name (i := 6) nd rfl (by first | exact Or.inl rfl | exact Or.inr rfl)) (pss_one (ps_for PassesOwn.never rfl (pi_range1 rfl F.range (pa_cons (pv 0) pa_nil)) (pg_name (i := 7) nd rfl (by first | exact Or.inl rfl | exact Or.inr rfl)) (pss_one (ps_dput hu (pv 5) (pe_c (c__law_added F) hr (by decide) rfl (pa_cons (pv 0) (pa_cons (pv 6) (pa_cons (pv 4) (pa_cons (pv 7) pa_nil))))) pe_bl rfl))))))
  (pss_one (ps_set (i := 3) nd rfl (by first | exact Or.inl rfl | exact Or.inr rfl) (pv 5))))))
  (pss_one (ps_ret (pv 3))))), ?_⟩
  obtain ⟨p, n, rs⟩ := x
  obtain ⟨hp, hn, hpn, hrs⟩ := pre
  have hp : HM.IsP p := hp
  have hn : n ≤ 100 := hn
  have hpn : p.toNat ^ n ≤ 1000 := hpn
  have p0 := hp.pos
  have p13 : p ≤ 13 := by rcases hp with h | h | h | h | h | h <;> omega
  obtain ⟨_, _, rfl, rfl, _, _, rfl, rfl, h3⟩ := ha
  obtain ⟨v1, rfl, h1'⟩ := a1 h3
  have h1 : rLs rVec rs v1 L := h1'
  have ez : (upto 0 (n : Int).toNat).map (fun _ : Int => (0 : Int)) = HM.zeros n := by
    unfold upto HM.zeros
    rw [List.map_map]
    refine List.eq_replicate_iff.mpr ⟨by simp, fun b hb => ?_⟩
    obtain ⟨_, _, rfl⟩ := List.mem_map.mp hb
    rfl
  refine gDispP (k := vk (HM.zeros n)) (v := .bl true) ok (Stp.refl ok) ((geqV (gvec (gtupof (glc1 (Z := rInt) (fun _ : Int => (0 : Int)) (gi_rng1 (n := (n : Int)) (gaC (gv rfl rfl) ga0) (by omega)) (by rw [upto_len]; omega) (fun _ => rfl) fun a xa L1 ha' e1 hx => gc rfl))) ez).imp fun _ _ _ h => key_vec h) (gc rfl) fun d L1 H1 S1 e1 pd => ?_
  refine gForS ok S1 (gi_list (gv rfl (up e1 h1))) (fun i σ' La Ha => ∃ d a b c e', σ' = [some (.int p), some (.int (n : Int)), some v1, some (.ref d), a, b, c, e', none] ∧ Prv H La Ha d (.dT (setD ((rs.take i).foldl (HM.spanStep p) [HM.zeros n]))) ∧ Good p n ((rs.take i).foldl (HM.spanStep p) [HM.zeros n])) ?_ ?_ ?_
  · intro L2 H2 _ s2
    exact ⟨d, _, _, _, _, rfl, pd.step ok s2, List.pairwise_singleton _ _, fun v hv => by rw [List.mem_singleton.mp hv]; exact HM.zeros_isV p0⟩
  · rintro Lm em i r xr σ' La Ha Lb Hb hr' Sa ea ⟨d, a, b, c, e', rfl, pa, hg⟩ sb hxr
    have hrv : HM.IsV p n r := hrs r (List.mem_of_getElem? hr')
    have e2 : (rs.take (i + 1)).foldl (HM.spanStep p) [HM.zeros n] = HM.spanStep p ((rs.take i).foldl (HM.spanStep p) [HM.zeros n]) r := by rw [take_at hr', List.foldl_append]; rfl
    generalize (rs.take i).foldl (HM.spanStep p) [HM.zeros n] = fo at *
    have pb := pa.step ok sb
    have Sb := Sa.trans sb
    refine gDictP ok Sb fun m H2 S2 others ex2 pm => ?_
    have pd2 := others d _ pb
    have hne := pd2.2
    refine gKeysP (d := d) (kvs := setD fo) ok S2 rfl pd2.1 (fun j σ' La Ha => (∃ c e', σ' = [some (.int p), some (.int (n : Int)), some v1, some (.ref d), some xr, some (.ref m), c, e', none]) ∧ Prv H La Ha m (.dT (setD ((fo.take j).foldl (fun m old => HM.timesL p r old m) []))) ∧ Good p n ((fo.take j).foldl (fun m old => HM.timesL p r old m) [])) ?_ ?_ ?_ ?_ ?_
    · exact ⟨⟨_, _, rfl⟩, pm, Good.nil⟩
    · rintro j σ' La Ha o ⟨h1, h2, h3⟩ hpd o'
      exact ⟨h1, h2.other (Ne.symm hne), h3⟩
    · rintro od D2 B j kq vq q σ' Lc Hc hkq Sc ec pdc ⟨⟨c, e', rfl⟩, pmc, hgc⟩ hq
      obtain ⟨old, hold, rfl⟩ : ∃ old, fo[j]? = some old ∧ kq = vk old := by
        unfold setD at hkq
        rw [List.getElem?_map] at hkq
        cases ho : fo[j]? with
        | none => rw [ho] at hkq; cases hkq
        | some old =>
          rw [ho] at hkq
          injection hkq with h
          injection h with h1 h2
          exact ⟨old, rfl, h1.symm⟩
      have hov : HM.IsV p n old := hg.vec old (List.mem_of_getElem? hold)
      have hqv : rVec old (.ref q) Lc := vec_key ⟨q, rfl, hq⟩
      have e5 : (fo.take (j + 1)).foldl (fun m old => HM.timesL p r old m) [] = HM.timesL p r old ((fo.take j).foldl (fun m old => HM.timesL p r old m) []) := by rw [take_at hold, List.foldl_append]; rfl
      generalize (fo.take j).foldl (fun m old => HM.timesL p r old m) [] = mo at *
      refine gfor ok Sc (gi_rng1 (n := p) (gaC (gv rfl rfl) ga0) (by omega)) (fun t σ' La Ha => (∃ e', σ' = [some (.int p), some (.int (n : Int)), some v1, some (.ref d), some xr, some (.ref m), some (.ref q), e', none]) ∧ Prv H La Ha d (.frz od (.dT (setD fo))) ∧ Prv H La Ha m (.dT (setD ((List.range t).foldl (fun m (t : Nat) => HM.putV m (HM.comb p old (t : Int) r)) mo))) ∧ Good p n ((List.range t).foldl (fun m (t : Nat) => HM.putV m (HM.comb p old (t : Int) r)) mo)) ?_ ?_ ?_
      · intro L3 H3 _ s3
        exact ⟨⟨_, rfl⟩, pdc.step ok s3, pmc.step ok s3, hgc⟩
      · rintro Ln en t a x' σ' Ld Hd Le He ha' Sd ed ⟨⟨e', rfl⟩, pdd, pmd, hgd⟩ se hx
        have hat : a = (t : Int) := by
          unfold upto at ha'
          rw [List.getElem?_map] at ha'
          cases ho : (List.range p.toNat)[t]? with
          | none => rw [ho] at ha'; cases ha'
          | some t' =>
            rw [ho] at ha'
            obtain ⟨h3, h4⟩ := List.getElem?_eq_some_iff.mp ho
            rw [List.getElem_range] at h4
            have h : (0 : Int) + (t' : Int) = a := Option.some.inj ha'
            omega
        have hlt : t < p.toNat := by
          have := (List.getElem?_eq_some_iff.mp ha').1
          rwa [upto_len] at this
        subst hat
        obtain rfl : x' = .int (t : Int) := hx
        have e6 : (List.range (t + 1)).foldl (fun m (t : Nat) => HM.putV m (HM.comb p old (t : Int) r)) mo = HM.putV ((List.range t).foldl (fun m (t : Nat) => HM.putV m (HM.comb p old (t : Int) r)) mo) (HM.comb p old (t : Int) r) := by rw [List.range_succ, List.foldl_append]; rfl
        generalize (List.range t).foldl (fun m (t : Nat) => HM.putV m (HM.comb p old (t : Int) r)) mo = me at *
        have hle := hgd.le hp
        have hxe := up (ec.trans (en.trans (ed.trans se.ll))) hxr
        refine gPut (e := m) (kvs := setD me) (k := vk (HM.comb p old (t : Int) r)) (v := .bl true) ok (Sd.trans se) rfl (pmd.step ok se) (by unfold setD; rw [List.length_map]; omega) (gc rfl)
          ((gcp (R := fun q : Int × List Int × List Int × Int => rVec (HM.comb q.1 q.2.1 q.2.2.2 q.2.2.1)) (p, old, r, (t : Int)) ⟨p0, ⟨by show -(2 ^ 64) < (t : Int); omega, by show (t : Int) < 2 ^ 64; omega⟩, by show old.length ≤ 1000; rw [hov.len]; omega, by show r.length = old.length; rw [hov.len, hrv.len]⟩ (gaC (gv rfl rfl) (gaC (gv rfl (up (en.trans (ed.trans se.ll)) hqv)) (gaC (gv rfl hxe) (gaC (gv rfl rfl) ga0))))).imp fun _ _ _ h => key_vec h) fun L4 H4 S4 e4 p4 oth => ?_
        refine ⟨L4, S4, ed.trans (se.ll.trans e4), ⟨_, rfl⟩, oth d _ (by intro _ z; cases z) hne (pdd.step ok se), ?_, ?_⟩
        · rw [e6, ← set_put]; exact p4
        · rw [e6]; exact hgd.put (HM.comb_isV p0 hov.len hrv.len)
      · rintro σ' Ld Hd Sd ed ⟨⟨e', rfl⟩, pdd, pmd, hgd⟩
        have e7 : (upto 0 p.toNat).length = p.toNat := upto_len
        rw [e7] at pmd hgd
        refine ⟨Ld, Sd, ec.trans ed, pdd, ⟨_, _, rfl⟩, ?_, ?_⟩
        · rw [e5]; exact pmd
        · rw [e5]; exact hgd
    · rintro σ' Lc Hc Sc ec pdc ⟨⟨c, e', rfl⟩, pmc, hgc⟩
      have e7 : (setD fo).length = fo.length := List.length_map _
      rw [e7, List.take_length] at pmc hgc
      refine gSet1 (R := rV (.ref m)) ok Sc (gv rfl rfl) fun vz L4 H4 S4 s4 r4 => ?_
      obtain rfl : vz = .ref m := r4
      exact ⟨L4, S4, ea.trans (sb.ll.trans (ec.trans s4.ll)), m, _, _, _, _, rfl, by rw [e2]; exact pmc.step ok s4, by rw [e2]; exact hgc⟩
    · rintro j σ' Lc Hc q vs ⟨h1, h2, h3⟩ Sc hq
      exact ⟨h1, ⟨h2.st, by
        have hqm : m ≠ q := fun z => by
          have := h2.at_
          rw [z, hq] at this; cases this
        rw [upd_ne hqm]; exact h2.nl, h2.at_⟩, h3⟩
  · rintro σ' La Ha Sa ea ⟨d, a, b, c, e', rfl, pa, hg⟩
    rw [List.take_length] at pa
    exact ⟨_, rfl, k _ _ _ (Sa.pub pa) ⟨d, rfl, upd_same⟩⟩
end
end HW
/-! part W11 -/
set_option maxHeartbeats 4000000
/-! Cuts, sizes, levels, the law's table. -/
namespace HW
open PySem PySem.Spec PyProof.Rows L2 HR HV C8
open Evl (Ex)
theorem upd_upd {H : Hp} {a : Addr} {o o' : HO} : upd (upd H a o) a o' = upd H a o' := by
  funext b
  by_cases e : b = a
  · subst e; rw [upd_same, upd_same]
  · rw [upd_ne e, upd_ne e, upd_ne e]
theorem upd_swap {H : Hp} {a b : Addr} {o o' : HO} (h : a ≠ b) : upd (upd H a o) b o' = upd (upd H b o') a o := by
  funext c
  by_cases e : c = a
  · subst e; rw [upd_ne h, upd_same, upd_same]
  · by_cases e2 : c = b
    · subst e2; rw [upd_same, upd_ne e, upd_same]
    · rw [upd_ne e2, upd_ne e, upd_ne e, upd_ne e2]
theorem upd_id {H : Hp} {a : Addr} {o : HO} (h : H a = some o) : upd H a o = H := by
  funext b
  by_cases e : b = a
  · subst e; rw [upd_same, h]
  · rw [upd_ne e]
section
variable {P : Program} {w : World} {K : PySem.W.Frag} {mg : Str → Option Value} {base : Heap}
def spLCut : Sp := spR (fun q : List (List Int) × List (List Int) => aAnd (q.1.Nodup ∧ q.1.length ≤ 10000) (aCons (rSet q.1) (aCons (rSet q.2) aNil))) (fun q => rSet (HM.cutL q.1 q.2))
theorem c__law_cut (F : Cs K mg) : Cal P w K mg base 1 "_law_cut" (spLCut) [] := by
  refine calG (N := ["_law_one", "_law_other", "_law_found", "_law_vector_here"]) (ps := ["_law_one", "_law_other"]) F.d__law_cut (fun _ _ _ _ _ _ us hl => match us, hl with | [_, _], _ => rfl) (by decide +kernel) (len1 fun _ _ _ h => lC h.2 (fun _ h => lC h (fun _ => l0))) ?_
  rintro f cdv A outer s H vs Q E hr ⟨x, L, e, ⟨pre, ha⟩, k⟩
  have nd := (fnScope_by (N := ["_law_one", "_law_other", "_law_found", "_law_vector_here"]) (P := ["_law_one", "_law_other"]) (sc := fnScope (topS 63)) (by decide +kernel)).nd
  have ok := ok0 e
  have hu := hu_of hr
  have hu0 := hr.units0
  have hu64 := hr.units
  refine ⟨_, (pss_cons (ps_set (i := 2) nd rfl (by first | exact Or.inl rfl | exact Or.inr rfl) pe_dnewT)
  (pss_cons (ps_lock (ps_for PassesOwn.never rfl (pi_keys (pv 0)) (pg_name (i := 3) nd rfl (by first | exact Or.inl rfl | exact Or.inr rfl)) (pss_one (ps_if (pt_cmp (pc_din hu (pv 3) (pv 1))) (pss_one (ps_dput hu (pv 2) (pv 3) pe_bl rfl)) pss_nil))))
  (pss_one (ps_ret (pv 2))))), ?_⟩
  obtain ⟨l1, l2⟩ := x
  obtain ⟨hn, hl⟩ := pre
  have hn : l1.Nodup := hn
  have hl : l1.length ≤ 10000 := hl
  obtain ⟨_, _, rfl, ⟨d1, rfl, hd1⟩, ⟨d2, rfl, hd2⟩⟩ := a2 ha
  have hd1 : L d1 = some (.dT (setD l1)) := hd1
  have hd2 : L d2 = some (.dT (setD l2)) := hd2
  have g1 := e d1 _ hd1
  have g2 := e d2 _ hd2
  intro f0 hf
  have n1 : d1 ≠ f0 := fun z => by rw [z, hf] at g1; cases g1
  have n2 : d2 ≠ f0 := fun z => by rw [z, hf] at g2; cases g2
  refine ⟨d1, .dT (setD l1), by rw [upd_ne n1]; exact g1, trivial, fun od => ?_⟩
  refine ⟨_, rfl, d1, od, rfl, Or.inr ⟨setD l1, upd_same, ?_⟩⟩
  refine for_it walk_keysT (fun i σ' H' => (∃ u, σ' = [some (.ref d1), some (.ref d2), some (.ref f0), u]) ∧ H' = upd (upd H f0 (.dT (setD (HM.cutL (l1.take i) l2)))) d1 (.frz od (.dT (setD l1)))) ⟨⟨_, rfl⟩, rfl⟩ (fun i σ' H' _ ⟨_, h⟩ => by rw [h]; exact upd_same) ?_ ?_
  · rintro i x σ' Ha Hb hi ⟨⟨u, rfl⟩, rfl⟩ ⟨rfl, kq, vq, q, h1, rfl, h2⟩
    obtain ⟨r, hr', rfl⟩ : ∃ r, l1[i]? = some r ∧ kq = vk r := by
      unfold setD at h1
      rw [List.getElem?_map] at h1
      cases ho : l1[i]? with
      | none => rw [ho] at h1; cases h1
      | some old =>
        rw [ho] at h1
        injection h1 with h
        injection h with h3 h4
        exact ⟨old, rfl, h3.symm⟩
    have hrd : Rd (upd (upd H f0 (.dT (setD (HM.cutL (l1.take i) l2)))) d1 (.frz od (.dT (setD l1)))) d2 (.dT (setD l2)) := by
      by_cases e12 : d2 = d1
      · subst e12
        have : setD l1 = setD l2 := by rw [hd1] at hd2; injection hd2 with h; injection h
        refine Or.inr ⟨od, ?_⟩
        rw [upd_same, this]
      · refine Or.inl ?_
        rw [upd_ne e12, upd_ne n2]; exact g2
    have hget : DGet (upd (upd H f0 (.dT (setD (HM.cutL (l1.take i) l2)))) d1 (.frz od (.dT (setD l1)))) d2 (.ref q) (valV (setD l2) (vk r)) := Or.inr ⟨_, vk r, q, hrd, rfl, h2, rfl⟩
    have htk : HM.cutL (l1.take (i + 1)) l2 = if r ∈ l2 then HM.cutL (l1.take i) l2 ++ [r] else HM.cutL (l1.take i) l2 := by
      unfold HM.cutL
      rw [take_at hr', List.filter_append]
      by_cases hm : r ∈ l2
      · rw [if_pos hm]; simp [hm]
      · rw [if_neg hm]; simp [hm]
    by_cases hm : r ∈ l2
    · have hv := set_val hm
      rw [hv] at hget
      refine ⟨_, rfl, _, rfl, d2, _, rfl, hget, true, rfl, ?_⟩
      show ∃ v, _
      refine ⟨_, rfl, _, rfl, f0, _, rfl, DPut.t (kvs := setD (HM.cutL (l1.take i) l2)) (k := vk r) (by rw [upd_ne (Ne.symm n1), upd_same]) h2 ?_, ⟨_, rfl⟩, ?_⟩
      · unfold setD HM.cutL
        rw [List.length_map]
        exact Evl.sz_lt (Nat.lt_of_le_of_lt (List.length_filter_le _ _) (by rw [List.length_take]; omega))
      · have hnew : r ∉ HM.cutL (l1.take i) l2 := fun hm2 => by
          have hm3 := (List.mem_filter.mp hm2).1
          obtain ⟨j, hj, hje⟩ := List.getElem_of_mem hm3
          rw [List.length_take] at hj
          rw [List.getElem_take] at hje
          obtain ⟨h3, h4⟩ := List.getElem?_eq_some_iff.mp hr'
          have : j = i := (List.getElem_inj hn).mp (hje.trans h4.symm)
          omega
        have e3 : HM.putV (HM.cutL (l1.take i) l2) r = HM.cutL (l1.take i) l2 ++ [r] := if_neg hnew
        rw [set_put, e3, htk, if_pos hm, upd_swap n1, upd_upd]
    · have hv := set_none hm
      rw [hv] at hget
      refine ⟨_, rfl, _, rfl, d2, _, rfl, hget, false, rfl, ⟨_, rfl⟩, ?_⟩
      rw [htk, if_neg hm]
  · rintro σ' Ha ⟨⟨u, rfl⟩, rfl⟩
    refine ⟨upd_same, _, rfl, ?_⟩
    have e7 : (setD l1).length = l1.length := List.length_map _
    rw [e7, List.take_length, upd_upd, upd_id (by rw [upd_ne n1]; exact g1)]
    exact k _ _ _ (Stp.new ok hf) ⟨f0, rfl, upd_same⟩
def spLSize : Sp := spR (fun q : Int × List (List Int) × Nat => aAnd (HM.IsP q.1 ∧ q.2.1.length = q.1.toNat ^ q.2.2) (aCons (rInt q.1) (aCons (rSet q.2.1) aNil))) (fun q => rInt (q.2.2 : Int))
theorem c__law_size (F : Cs K mg) : Cal P w K mg base 1 "_law_size" (spLSize) [] := by
  refine calG (N := ["_law_prime", "_law_space", "_law_left", "_law_found"]) (ps := ["_law_prime", "_law_space"]) F.d__law_size (fun _ _ _ _ _ _ us hl => match us, hl with | [_, _], _ => rfl) (by decide +kernel) (len1 fun _ _ _ h => lC h.2 (fun _ h => lC h (fun _ => l0))) ?_
  rintro f cdv A outer s H vs Q E hr ⟨x, L, e, ⟨pre, ha⟩, k⟩
  have nd := (fnScope_by (N := ["_law_prime", "_law_space", "_law_left", "_law_found"]) (P := ["_law_prime", "_law_space"]) (sc := fnScope (topS 64)) (by decide +kernel)).nd
  have ok := ok0 e
  have hu := hu_of hr
  have hu0 := hr.units0
  have hu64 := hr.units
  refine ⟨_, (pss_cons (ps_set (i := 2) nd rfl (by first | exact Or.inl rfl | exact Or.inr rfl) (pe_callB call_len_dT rfl F.len bt_len (pa_cons (pv 1) pa_nil)))
  (pss_cons (ps_set (i := 3) nd rfl (by first | exact Or.inl rfl | exact Or.inr rfl) pe_int)
  (pss_cons (ps_while PassesOwn.never (pt_cmpR op_gt (pv 2) pe_int (nomark _)) (pss_cons (ps_set (i := 2) nd rfl (by first | exact Or.inl rfl | exact Or.inr rfl) (pe_op op_fdiv (pv 2) (pv 0)))
  (pss_one (ps_set (i := 3) nd rfl (by first | exact Or.inl rfl | exact Or.inr rfl) (pe_op op_add (pv 3) pe_int)))))
  (pss_one (ps_ret (pv 3)))))), ?_⟩
  obtain ⟨p, l, d⟩ := x
  obtain ⟨hp, hl⟩ := pre
  have hp : HM.IsP p := hp
  have hl : l.length = p.toNat ^ d := hl
  have p0 := hp.pos
  have p1 := hp.one
  have p13 : p ≤ 13 := by rcases hp with h | h | h | h | h | h <;> omega
  obtain ⟨_, _, rfl, rfl, ⟨d1, rfl, hd1⟩⟩ := a2 ha
  have hpow : ∀ m, 1 ≤ p.toNat ^ m := fun m => Nat.one_le_pow _ _ (by omega)
  refine gSet (R := rInt ((p.toNat ^ d : Nat) : Int)) ok (Stp.refl ok) (gcb (gaC (gv (R := rSet l) rfl ⟨d1, rfl, hd1⟩) ga0) fun vs L' e r => by
    obtain ⟨v, rfl, d', rfl, hd'⟩ := a1 r
    exact fun H ok Q q => ⟨d', _, rfl, ok.1 d' _ hd', q _ L' H (Stp.refl ok) (by unfold setD; rw [List.length_map, hl])⟩) fun vl L1 H1 S1 s1 rl => ?_
  obtain rfl : vl = .int ((p.toNat ^ d : Nat) : Int) := rl
  refine gSet (R := rInt 0) ok S1 (gc rfl) fun vz L2 H2 S2 s2 rz => ?_
  obtain rfl : vz = .int 0 := rz
  refine gWhile ok S2 (fun m σ' La Ha => m ≤ d ∧ σ' = [some (.int p), some (.ref d1), some (.int ((p.toNat ^ m : Nat) : Int)), some (.int ((d : Int) - (m : Int)))]) d ⟨Nat.le_refl _, by
    have : (d : Int) - (d : Int) = 0 := by omega
    rw [this]; rfl⟩ fun m σ' La Ha Sa ea ⟨hm, hσ⟩ => ?_
  subst hσ
  refine ⟨decide ((1 : Int) < ((p.toNat ^ m : Nat) : Int)), gtest (gI0 (i := ((p.toNat ^ m : Nat) : Int)) (j := 1) (gv rfl rfl) (gc rfl) rfl), fun hb L3 H3 S3 s3 => ?_, fun hb L3 H3 S3 s3 => ?_⟩
  · have hb := of_decide_eq_true hb
    have hm0 : m ≠ 0 := fun z => by rw [z] at hb; simp at hb
    obtain ⟨m', rfl⟩ := Nat.exists_eq_succ_of_ne_zero hm0
    have hdiv : ((p.toNat ^ (m' + 1) : Nat) : Int) / p = ((p.toNat ^ m' : Nat) : Int) := by
      apply Int.ediv_eq_of_eq_mul_left (by omega)
      rw [Nat.pow_succ, Int.natCast_mul, Int.toNat_of_nonneg (by omega)]
    refine gSet (R := rInt ((p.toNat ^ m' : Nat) : Int)) ok S3 (geqI (gI (i := ((p.toNat ^ (m' + 1) : Nat) : Int)) (j := p) (R := rInt (((p.toNat ^ (m' + 1) : Nat) : Int) / p)) (gv rfl rfl) (gv rfl rfl) ⟨p0, by omega⟩ rfl) hdiv) fun v1 L4 H4 S4 s4 r4 => ?_
    obtain rfl : v1 = .int ((p.toNat ^ m' : Nat) : Int) := r4
    refine gSet1 (R := rInt ((d : Int) - ((m' + 1 : Nat) : Int) + 1)) ok S4 (gI0 (i := (d : Int) - ((m' + 1 : Nat) : Int)) (j := 1) (gv rfl rfl) (gc rfl) rfl) fun v2 L5 H5 S5 s5 r5 => ?_
    obtain rfl : v2 = .int ((d : Int) - ((m' + 1 : Nat) : Int) + 1) := r5
    refine ⟨m', by omega, L5, S5, ea.trans (s3.ll.trans (s4.ll.trans s5.ll)), by omega, ?_⟩
    have : (d : Int) - ((m' + 1 : Nat) : Int) + 1 = (d : Int) - (m' : Int) := by omega
    rw [this]; rfl
  · have hb := of_decide_eq_false hb
    have hm0 : m = 0 := by
      rcases Nat.eq_zero_or_pos m with h | h
      · exact h
      · obtain ⟨m', rfl⟩ := Nat.exists_eq_succ_of_ne_zero (Nat.ne_of_gt h)
        have h2 := hpow m'
        have h3 : 2 ≤ p.toNat := by omega
        have h4 : 2 * 1 ≤ p.toNat ^ m' * p.toNat := by rw [Nat.mul_comm]; exact Nat.mul_le_mul h2 h3
        rw [← Nat.pow_succ] at h4
        exact absurd (by omega) hb
    subst hm0
    exact gEnd ok S3 k (gv rfl (congrArg V.int (by show (d : Int) - ((0 : Nat) : Int) = (d : Int); omega)))
def spLGrid : Sp := spR (fun q : Nat × Nat => aAnd (q.1 ≤ 20 ∧ q.2 ≤ 20) (aCons (rInt (q.1 : Int)) (aCons (rInt (q.2 : Int)) aNil))) (fun q => rLs rCell (HM.allCells q.1 q.2))
theorem c__law_grid (F : Cs K mg) : Cal P w K mg base 1 "_law_grid" (spLGrid) [] := by
  refine calG (N := ["_law_first", "_law_second", "_law_found", "_law_i", "_law_j"]) (ps := ["_law_first", "_law_second"]) F.d__law_grid (fun _ _ _ _ _ _ us hl => match us, hl with | [_, _], _ => rfl) (by decide +kernel) (len1 fun _ _ _ h => lC h.2 (fun _ h => lC h (fun _ => l0))) ?_
  rintro f cdv A outer s H vs Q E hr ⟨x, L, e, ⟨pre, ha⟩, k⟩
  have nd := (fnScope_by (N := ["_law_first", "_law_second", "_law_found", "_law_i", "_law_j"]) (P := ["_law_first", "_law_second"]) (sc := fnScope (topS 78)) (by decide +kernel)).nd
  have ok := ok0 e
  have hu := hu_of hr
  have hu0 := hr.units0
  have hu64 := hr.units
  refine ⟨_, (pss_cons (ps_set (i := 2) nd rfl (by first | exact Or.inl rfl | exact Or.inr rfl) (pe_lst pa_nil))
  (pss_cons (ps_for PassesOwn.never rfl (pi_range2 rfl F.range (pa_cons pe_int (pa_cons (pe_op op_add (pv 0) pe_int) pa_nil))) (pg_name (i := 3) nd rfl (by first | exact Or.inl rfl | exact Or.inr rfl)) (pss_one (ps_set (i := 2) nd rfl (by first | exact Or.inl rfl | exact Or.inr rfl) (pe_op op_cat (pv 2) (pe_lc (own := [("_law_j", 4)]) rfl nd (pi_range2 rfl F.range (pa_cons pe_int (pa_cons (pe_op op_add (pv 1) pe_int) pa_nil))) (blkOk_by (N := ["_law_first", "_law_second", "_law_found", "_law_i", "_law_j"]) (sc := fnScope (topS 78)) (by decide +kernel)) (fun _ _ _ _ _ => (pg_name (i := 4) nd rfl (Or.inl rfl))) (fun _ _ _ _ _ => pts_nil) (fun _ _ _ _ _ => (pe_tup (pa_cons (pv 3) (pa_cons (pv 4) pa_nil)))))))))
  (pss_one (ps_ret (pv 2))))), ?_⟩
  obtain ⟨m, n⟩ := x
  obtain ⟨hm, hn⟩ := pre
  have hm : m ≤ 20 := hm
  have hn : n ≤ 20 := hn
  obtain ⟨_, _, rfl, rfl, rfl⟩ := a2 ha
  have em : (((m : Int) + 2) - 1).toNat = m + 1 := by omega
  have en' : (((n : Int) + 2) - 1).toNat = n + 1 := by omega
  refine gSet ok (Stp.refl ok) (glst0 (R := rCell)) fun vf L1 H1 S1 s1 rf => ?_
  refine gForS ok S1 (gi_rng2 (lo := 1) (n := (m : Int) + 2) (gaC (gc rfl) (gaC (gI0 (i := (m : Int)) (j := 2) (gv rfl rfl) (gc rfl) rfl) ga0)) (by omega)) (fun i σ' La Ha => ∃ z a b, σ' = [some (.int (m : Int)), some (.int (n : Int)), some z, a, b] ∧ rLs rCell ((List.range i).flatMap fun i => (List.range (n + 1)).map fun j => (i + 1, j + 1)) z La) ?_ ?_ ?_
  · intro L2 H2 _ s2
    exact ⟨_, _, _, rfl, up s2.ll rf⟩
  · rintro Lm en i a x' σ' La Ha Lb Hb ha' Sa ea ⟨z, u1, u2, rfl, hz⟩ sb hx
    have hlt : i < m + 1 := by
      have := (List.getElem?_eq_some_iff.mp ha').1
      rwa [upto_len, em] at this
    have hat : a = ((i + 1 : Nat) : Int) := by
      rw [upto_at (by rw [em]; exact hlt)] at ha'
      have := Option.some.inj ha'
      omega
    subst hat
    obtain rfl : x' = .int ((i + 1 : Nat) : Int) := hx
    have hlen : ((List.range i).flatMap fun i => (List.range (n + 1)).map fun j => (i + 1, j + 1)).length ≤ 441 := by
      simp only [List.length_flatMap, List.length_map, List.length_range, List.map_const', List.sum_replicate_nat]
      exact Nat.le_trans (Nat.mul_le_mul (show i ≤ 21 by omega) (show n + 1 ≤ 21 by omega)) (by decide)
    refine gSet1 ok (Sa.trans sb) (gcatL (R := rCell) (gv rfl (up sb.ll hz)) (glc1 (Z := rCell) (fun j : Int => (i + 1, j.toNat)) (gi_rng2 (lo := 1) (n := (n : Int) + 2) (gaC (gc rfl) (gaC (gI0 (i := (n : Int)) (j := 2) (gv rfl rfl) (gc rfl) rfl) ga0)) (by omega)) (by rw [upto_len]; omega) (fun _ => rfl) fun b xb L2 hb e2 hxb => ?_) (by rw [List.length_map, upto_len]; omega)) fun vz L3 H3 S3 s3 r3 => ?_
    · obtain ⟨j, hj, rfl⟩ := List.mem_map.mp hb
      have e5 : (1 : Int) + (j : Int) = ((1 + (j : Int)).toNat : Nat) := by omega
      exact gpair (gv rfl rfl) (gv rfl (by rw [← e5]; exact hxb))
    · refine ⟨L3, S3, ea.trans (sb.ll.trans s3.ll), vz, _, _, rfl, ?_⟩
      have e6 : (upto 1 (((n : Int) + 2) - 1).toNat).map (fun j : Int => (i + 1, j.toNat)) = (List.range (n + 1)).map fun j => (i + 1, j + 1) := by
        rw [en']
        unfold upto
        rw [List.map_map]
        apply List.map_congr_left
        intro j _
        show (i + 1, (1 + (j : Int)).toNat) = (i + 1, j + 1)
        rw [show (1 + (j : Int)).toNat = j + 1 by omega]
      rw [show List.range (i + 1) = List.range i ++ [i] from List.range_succ, List.flatMap_append]
      rw [e6] at r3
      simpa using r3
  · rintro σ' La Ha Sa ea ⟨z, u1, u2, rfl, hz⟩
    rw [upto_len, em] at hz
    exact gEnd ok Sa k (gv rfl hz)
/-- what a chain of row lists levels out at -/
def lvl (n : Nat) (xs : List (List (List Int))) : List (List (List Int)) := [] :: (xs ++ [HM.units n])
def spLLevels : Sp := spR (fun q : Int × Nat × List (List (List Int)) => aAnd (HM.IsP q.1 ∧ q.2.1 ≤ 100 ∧ q.1.toNat ^ q.2.1 ≤ 1000 ∧ (∀ rs ∈ q.2.2, ∀ r ∈ rs, HM.IsV q.1 q.2.1 r) ∧ q.2.2.length ≤ 1000) (aCons (rInt q.1) (aCons (rInt (q.2.1 : Int)) (aCons (rLs (fun rs => rLs rVec rs) q.2.2) aNil)))) (fun q => rLs (fun rs => rSet (HM.spanL q.1 q.2.1 rs)) (lvl q.2.1 q.2.2))
theorem c__law_levels (F : Cs K mg) : Cal P w K mg base 3 "_law_levels" (spLLevels) [] := by
  refine calG (N := ["_law_prime", "_law_length_here", "_law_chain_here", "_law_whole", "_law_k", "_law_rows_here"]) (ps := ["_law_prime", "_law_length_here", "_law_chain_here"]) F.d__law_levels (fun _ _ _ _ _ _ us hl => match us, hl with | [_, _, _], _ => rfl) (by decide +kernel) (len1 fun _ _ _ h => lC h.2 (fun _ h => lC h (fun _ h => lC h (fun _ => l0)))) ?_
  rintro f cdv A outer s H vs Q E hr ⟨x, L, e, ⟨pre, ha⟩, k⟩
  have nd := (fnScope_by (N := ["_law_prime", "_law_length_here", "_law_chain_here", "_law_whole", "_law_k", "_law_rows_here"]) (P := ["_law_prime", "_law_length_here", "_law_chain_here"]) (sc := fnScope (topS 77)) (by decide +kernel)).nd
  have ok := ok0 e
  have hu := hu_of hr
  have hu0 := hr.units0
  have hu64 := hr.units
  refine ⟨_, (pss_cons (ps_set (i := 3) nd rfl (by first | exact Or.inl rfl | exact Or.inr rfl) (pe_c (c__law_span F) hr (by decide) rfl (pa_cons (pv 0) (pa_cons (pv 1) (pa_cons (pe_lc (own := [("_law_k", 4)]) rfl nd (pi_range1 rfl F.range (pa_cons (pv 1) pa_nil)) (blkOk_by (N := ["_law_prime", "_law_length_here", "_law_chain_here", "_law_whole", "_law_k", "_law_rows_here"]) (sc := fnScope (topS 77)) (by decide +kernel)) (fun _ _ _ _ _ => (pg_name (i := 4) nd rfl (Or.inl rfl))) (fun _ _ _ _ _ => pts_nil) (fun _ _ _ _ _ => (pe_c (c__law_unit F) hr (by decide) rfl (pa_cons (pv 1) (pa_cons (pv 4) pa_nil))))) pa_nil)))))
  (pss_one (ps_ret (pe_op op_cat (pe_op op_cat (pe_lst (pa_cons (pe_c (c__law_span F) hr (by decide) rfl (pa_cons (pv 0) (pa_cons (pv 1) (pa_cons (pe_lst pa_nil) pa_nil)))) pa_nil)) (pe_lc (own := [("_law_rows_here", 5)]) rfl nd (kpi_list K rfl (pv 2)) (blkOk_by (N := ["_law_prime", "_law_length_here", "_law_chain_here", "_law_whole", "_law_k", "_law_rows_here"]) (sc := fnScope (topS 77)) (by decide +kernel)) (fun _ _ _ _ _ => (pg_name (i := 5) nd rfl (Or.inl rfl))) (fun _ _ _ _ _ => pts_nil) (fun _ _ _ _ _ => (pe_c (c__law_span F) hr (by decide) rfl (pa_cons (pv 0) (pa_cons (pv 1) (pa_cons (pv 5) pa_nil))))))) (pe_lst (pa_cons (pv 3) pa_nil)))))), ?_⟩
  obtain ⟨p, n, xs⟩ := x
  obtain ⟨hp, hn, hpn, hxs, hl⟩ := pre
  have hp : HM.IsP p := hp
  have hn : n ≤ 100 := hn
  have hl : xs.length ≤ 1000 := hl
  obtain ⟨_, _, rfl, rfl, _, _, rfl, rfl, h3⟩ := ha
  obtain ⟨v1, rfl, h1'⟩ := a1 h3
  have h1 : rLs (fun rs => rLs rVec rs) xs v1 L := h1'
  have hu' : (upto 0 (n : Int).toNat).map (fun a : Int => HM.unitV n a.toNat) = HM.units n := by simp [upto, HM.units]
  refine gSet (R := rSet (HM.spanL p n (HM.units n))) ok (Stp.refl ok) (gcp (R := fun q : Int × Nat × List (List Int) => rSet (HM.spanL q.1 q.2.1 q.2.2)) (p, n, HM.units n) ⟨hp, hn, hpn, HM.units_isV hp⟩ (gaC (gv rfl rfl) (gaC (gv rfl rfl) (gaC (geqLs (glc1 (Z := rVec) (fun a : Int => HM.unitV n a.toNat) (gi_rng1 (n := (n : Int)) (gaC (gv rfl rfl) ga0) (by omega)) (by rw [upto_len]; omega) (fun _ => rfl) fun a xa L2 ha' e2 hx => ?_) hu') ga0)))) fun vw L1 H1 S1 s1 rw' => ?_
  · obtain ⟨i, hi, rfl⟩ := List.mem_map.mp ha'
    have e0 : (0 : Int) + (i : Int) = ((0 + (i : Int)).toNat : Nat) := by omega
    have hx' : rInt (((0 + (i : Int)).toNat : Nat) : Int) xa L2 := by rw [← e0]; exact hx
    have hn' : n ≤ 1000 := by omega
    have g0 : Go T0 L2 ((tCall spLUnit [] C8.E0 (tCons (tVar 1) (tCons (tVar 4) tNil))) [some (V.int p), some (V.int (n : Int)), some v1, none, some xa, none]) ((fun q : Nat × Nat => rVec (HM.unitV q.1 q.2)) (n, (0 + (i : Int)).toNat)) := gcp (n, (0 + (i : Int)).toNat) hn' (gaC (gv rfl rfl) (gaC (gv rfl hx') ga0))
    exact g0
  · refine gEnd ok S1 k (geqLs (gcatL (R := fun rs => rSet (HM.spanL p n rs)) (xs := [[]] ++ xs) (ys := [HM.units n]) (gcatL (R := fun rs => rSet (HM.spanL p n rs)) (xs := [[]]) (ys := xs) (glst (gaL (R := fun rs => rSet (HM.spanL p n rs)) (gcp (R := fun q : Int × Nat × List (List Int) => rSet (HM.spanL q.1 q.2.1 q.2.2)) (p, n, []) ⟨hp, hn, hpn, fun r h => (by cases h)⟩ (gaC (gv rfl rfl) (gaC (gv rfl rfl) (gaC (glst0 (R := rVec)) ga0)))) ga0L) (pd_len (m := 100000) (by show 1 ≤ 100000; decide)))
      ((geqLs (glc1 (Z := fun rs => rSet (HM.spanL p n rs)) (fun rs : List (List Int) => rs) (gi_list (Y := fun rs => rLs rVec rs) (gv rfl (up s1.ll h1))) (by omega) (fun _ => rfl) fun rs xr L2 hr e2 hx => gcp (R := fun q : Int × Nat × List (List Int) => rSet (HM.spanL q.1 q.2.1 q.2.2)) (p, n, rs) ⟨hp, hn, hpn, hxs rs hr⟩ (gaC (gv rfl rfl) (gaC (gv rfl rfl) (gaC (gv rfl hx) ga0)))) (List.map_id' _))) (by show 1 + xs.length ≤ 100000; omega))
      (glst (gaL (R := fun rs => rSet (HM.spanL p n rs)) (gv rfl rw') ga0L) (pd_len (m := 100000) (by show 1 ≤ 100000; decide))) (by simp only [List.length_append, List.length_singleton]; omega)) (by simp [lvl]))
end
end HW
/-! part W12 -/
set_option maxHeartbeats 4000000
/-! The law's chains and its table. -/
namespace HW
open PySem PySem.Spec PyProof.Rows L2 HR HV C8
open Evl (Ex)
structure Prc where
  p : Int
  n : Nat
  a : List (List (List Int))
  b : List (List (List Int))
/-- each row list goes on in the next -/
def grw (xs : List (List (List Int))) : Prop := ∀ i a b, xs[i]? = some a → xs[i + 1]? = some b → ∀ r ∈ a, r ∈ b
structure Prc.ok (c : Prc) : Prop where
  hp : HM.IsP c.p
  hn : c.n ≤ 12
  pn : c.p.toNat ^ c.n ≤ 1000
  va : ∀ rs ∈ c.a, ∀ r ∈ rs, HM.IsV c.p c.n r
  vb : ∀ rs ∈ c.b, ∀ r ∈ rs, HM.IsV c.p c.n r
  na : ∀ rs ∈ c.a, rs.length ≤ 1000
  nb : ∀ rs ∈ c.b, rs.length ≤ 1000
  la : 0 < c.a.length ∧ c.a.length ≤ 20
  lb : c.b.length ≤ 20
  ua : grw c.a
  ub : grw c.b
def Prc.chs (c : Prc) : Chs := ⟨c.p, c.n, c.a.map (HM.mkRows c.p), c.b.map (HM.mkRows c.p)⟩
theorem mk_red {p : Int} {n : Nat} (hp : HM.IsP p) {xs : List (List (List Int))} (hv : ∀ rs ∈ xs, ∀ r ∈ rs, HM.IsV p n r) : ∀ r ∈ xs.map (HM.mkRows p), HM.Red p n r := fun r hr => by
  obtain ⟨rs, hrs, rfl⟩ := List.mem_map.mp hr
  exact HM.mkRows_red hp fun v hv' => (hv rs hrs v hv').len
theorem mk_up {p : Int} {n : Nat} (hp : HM.IsP p) {xs : List (List (List Int))} (hv : ∀ rs ∈ xs, ∀ r ∈ rs, HM.IsV p n r) (hg : grw xs) : upw p n (xs.map (HM.mkRows p)) := fun i a b h1 h2 => by
  rw [List.getElem?_map] at h1 h2
  cases e1 : xs[i]? with
  | none => rw [e1] at h1; cases h1
  | some r1 =>
    cases e2 : xs[i + 1]? with
    | none => rw [e2] at h2; cases h2
    | some r2 =>
      rw [e1] at h1; rw [e2] at h2
      injection h1 with h1; injection h2 with h2
      subst h1 h2
      have v1 := hv r1 (List.mem_of_getElem? e1)
      have v2 := hv r2 (List.mem_of_getElem? e2)
      refine (HM.leRows_iff hp (HM.mkRows_red hp fun v h => (v1 v h).len) (HM.mkRows_red hp fun v h => (v2 v h).len)).mpr fun t ht => ?_
      rw [HM.mkRows_span hp v2]
      rw [HM.mkRows_span hp v1] at ht
      exact HM.span_mono hp.pos v2 (fun r hr => HM.span_mem hp.pos v2 r (hg i r1 r2 e1 e2 r hr)) t ht
theorem Prc.chs_ok {c : Prc} (h : c.ok) : c.chs.ok where
  hp := h.hp
  hn := h.hn
  ra := mk_red h.hp h.va
  rb := mk_red h.hp h.vb
  la := by show 0 < (c.a.map _).length ∧ (c.a.map _).length ≤ 20; rw [List.length_map]; exact h.la
  lb := by show (c.b.map _).length ≤ 20; rw [List.length_map]; exact h.lb
  ua := mk_up h.hp h.va h.ua
  ub := mk_up h.hp h.vb h.ub
theorem lvl_at {n : Nat} {xs : List (List (List Int))} {i : Nat} (hi : i ≤ xs.length + 1) : ∃ rs, (lvl n xs)[i]? = some rs ∧ (i = 0 → rs = []) ∧ (∀ j, i = j + 1 → j < xs.length → xs[j]? = some rs) ∧ (i = xs.length + 1 → rs = HM.units n) := by
  have hl : (lvl n xs).length = xs.length + 2 := by simp [lvl]
  refine ⟨(lvl n xs)[i]'(by omega), List.getElem?_eq_getElem _, fun h => ?_, fun j h hj => ?_, fun h => ?_⟩
  · subst h; rfl
  · subst h
    simp only [lvl, List.getElem_cons_succ, List.getElem_append_left hj]
    exact List.getElem?_eq_getElem hj
  · subst h
    simp [lvl]
theorem Chs.ok.ch' {c : Chs} (h : c.ok) (a : Bool) (i : Nat) : HM.Red c.p c.n (lev c.p c.n (c.side a) i) := Chs.lev_red h (side_red h a) i
/-- what a level stands for -/
theorem lvl_span {p : Int} {n : Nat} (hp : HM.IsP p) {xs : List (List (List Int))} (hv : ∀ rs ∈ xs, ∀ r ∈ rs, HM.IsV p n r) {i : Nat} (hi : i ≤ xs.length + 1) : ∃ rs, (lvl n xs)[i]? = some rs ∧ (∀ r ∈ rs, HM.IsV p n r) ∧ ∀ v, v ∈ HM.spanL p n rs ↔ HM.Span p n (lev p n (xs.map (HM.mkRows p)) i) v := by
  obtain ⟨rs, h1, h2, h3, h4⟩ := lvl_at (n := n) hi
  by_cases e0 : i = 0
  · obtain rfl := h2 e0
    refine ⟨_, h1, (fun r h => (by cases h)), fun v => ?_⟩
    rw [HM.spanL_iff hp.pos (fun r h => (by cases h))]
    subst e0
    rfl
  · obtain ⟨j, rfl⟩ := Nat.exists_eq_succ_of_ne_zero e0
    by_cases hj : j < xs.length
    · have h5 := h3 j rfl hj
      have hm := List.mem_of_getElem? h5
      refine ⟨rs, h1, hv rs hm, fun v => ?_⟩
      rw [HM.spanL_iff hp.pos (hv rs hm)]
      have el : lev p n (xs.map (HM.mkRows p)) (j + 1) = HM.mkRows p rs := by
        unfold lev
        rw [if_neg (by omega), if_pos (by rw [List.length_map]; omega), List.getD_eq_getElem?_getD, Nat.add_sub_cancel, List.getElem?_map, h5]; rfl
      rw [el]
      exact (HM.mkRows_span hp (hv rs hm) v).symm
    · have h5 := h4 (by omega)
      subst h5
      refine ⟨_, h1, HM.units_isV hp, fun v => ?_⟩
      rw [HM.spanL_iff hp.pos (HM.units_isV hp)]
      have el : lev p n (xs.map (HM.mkRows p)) (j + 1) = HM.wholeRows p n := by
        unfold lev
        rw [if_neg (by omega), if_neg (by rw [List.length_map]; omega)]
      rw [el, HM.span_units hp, HM.wholeRows_span hp]
noncomputable def Prc.dim (c : Prc) (d : Nat × Nat) : Nat := HM.dim c.n (HM.Dij c.p c.n c.chs.A c.chs.B d.1 d.2)
def Prc.pairs (i m : Nat) : List (Nat × Nat) := (List.range i).flatMap fun i => (List.range m).map fun j => (i, j)
theorem mem_pairs {i m : Nat} {c : Nat × Nat} : c ∈ Prc.pairs i m ↔ c.1 < i ∧ c.2 < m := by
  unfold Prc.pairs
  simp only [List.mem_flatMap, List.mem_map, List.mem_range]
  constructor
  · rintro ⟨a, ha, b, hb, rfl⟩
    exact ⟨ha, hb⟩
  · intro h
    exact ⟨c.1, h.1, c.2, h.2, rfl⟩
theorem pairs_succ {i m : Nat} : Prc.pairs (i + 1) m = Prc.pairs i m ++ (List.range m).map fun j => (i, j) := by
  unfold Prc.pairs
  rw [List.range_succ, List.flatMap_append]
  simp
theorem pairs_len {i m : Nat} (hi : i ≤ 30) (hm : m ≤ 30) : (Prc.pairs i m).length ≤ 900 := by
  unfold Prc.pairs
  simp only [List.length_flatMap, List.length_map, List.length_range, List.map_const', List.sum_replicate_nat]
  exact Nat.le_trans (Nat.mul_le_mul hi hm) (by decide)
/-- what stands in the table, as the law reckons it -/
noncomputable def Prc.tab (c : Prc) (d : Nat × Nat) : Int := (c.dim d : Int) - (c.dim (d.1 - 1, d.2) : Int) - (c.dim (d.1, d.2 - 1) : Int) + (c.dim (d.1 - 1, d.2 - 1) : Int)
theorem tab_ok {c : Prc} (h : c.ok) {d : Nat × Nat} (hd : d ∈ c.chs.cells) : c.tab d = ((c.chs.cellV d).length : Nat) := by
  obtain ⟨i1, i2, j1, j2⟩ := HM.mem_cells.mp hd
  have := ((Chs.ch (Prc.chs_ok h)).cell h.hp i1 i2 j1 j2).num
  have e : (c.chs.cellV d).length + c.dim (d.1 - 1, d.2) + c.dim (d.1, d.2 - 1) = c.dim d + c.dim (d.1 - 1, d.2 - 1) := this
  unfold Prc.tab
  omega
def rPrc (c : Prc) : Rep := rTup (aCons (rInt c.p) (aCons (rInt (c.n : Int)) (aCons (rLs (fun rs => rLs rVec rs) c.a) (aCons (rLs (fun rs => rLs rVec rs) c.b) aNil))))
instance {c : Prc} : Gr (rPrc c) := inferInstanceAs (Gr (rTup _))
section
variable {K : PySem.W.Frag} {L H : Hp} {σ : L2.St} {x : V}
theorem gAsgG {T : Tap} {L0 H0 : Hp} {te : TE} {g : TG} {tz : TS} {D : Ends} {R : Rep} (ok : Ok T L0 H0) (S : Stp T L0 H0 L H) (h : Go T L (te σ) R) (k : ∀ v L1 H1, Stp T L0 H0 L1 H1 → Stp T L H L1 H1 → R v L1 → g v σ H1 (tz D)) : tSeq (tAsg te g) tz D σ H :=
  Go.at ok S h fun v L1 H1 S1 s1 r1 => k v L1 H1 S1 s1 r1
theorem g_quad {R1 R2 R3 R4 : Rep} {i j l m : Nat} {Q : L2.St → Hp → Prop} (e : Ex L H) (h : rTup (aCons R1 (aCons R2 (aCons R3 (aCons R4 aNil)))) x L) (k : ∀ u w z y, R1 u L → R2 w L → R3 z L → R4 y L → Q ((((σ.set i (some u)).set j (some w)).set l (some z)).set m (some y)) H) :
    gTup K 4 (gCons (gName i) (gCons (gName j) (gCons (gName l) (gCons (gName m) gNil)))) x σ H Q := by
  obtain ⟨p, vs, h1, h2, u, r, e1, r1, w, r', e2, r2, h4⟩ := h
  obtain ⟨z, y, e3, r3, r4⟩ := a2 h4
  subst e1 e2 e3
  exact ⟨p, _, h1, SqT.of (e p _ h2), rfl, u, [w, z, y], rfl, w, [z, y], rfl, z, [y], rfl, y, [], rfl, rfl, k u w z y r1 r2 r3 r4⟩
end
section
variable {P : Program} {w : World} {K : PySem.W.Frag} {mg : Str → Option Value} {base : Heap}
def spLTable : Sp := spR (fun c : Prc => aAnd c.ok (aCons (rPrc c) aNil)) (fun c => rTab c.chs.cells fun d => ((c.chs.cellV d).length : Nat))
theorem c__law_table (F : Cs K mg) : Cal P w K mg base 4 "_law_table" (spLTable) [] := by
  refine calG (N := ["_law_pair_here", "_law_prime", "_law_length_here", "_law_first", "_law_second", "_law_ones", "_law_others", "_law_sizes", "_law_i", "_law_j", "_law_found"]) (ps := ["_law_pair_here"]) F.d__law_table (fun _ _ _ _ _ _ us hl => match us, hl with | [_], _ => rfl) (by decide +kernel) (len1 fun _ _ _ h => lC h.2 (fun _ => l0)) ?_
  rintro f cdv A outer s H vs Q E hr ⟨x, L, e, ⟨pre, ha⟩, k⟩
  have nd := (fnScope_by (N := ["_law_pair_here", "_law_prime", "_law_length_here", "_law_first", "_law_second", "_law_ones", "_law_others", "_law_sizes", "_law_i", "_law_j", "_law_found"]) (P := ["_law_pair_here"]) (sc := fnScope (topS 79)) (by decide +kernel)).nd
  have ok := ok0 e
  have hu := hu_of hr
  have hu0 := hr.units0
  have hu64 := hr.units
  refine ⟨_, (pss_cons (ps_asg (pv 0) (pg_tup rfl (pgs_cons (pg_name (i := 1) nd rfl (by first | exact Or.inl rfl | exact Or.inr rfl)) (pgs_cons (pg_name (i := 2) nd rfl (by first | exact Or.inl rfl | exact Or.inr rfl)) (pgs_cons (pg_name (i := 3) nd rfl (by first | exact Or.inl rfl | exact Or.inr rfl)) (pgs_cons (pg_name (i := 4) nd rfl (by first | exact Or.inl rfl | exact Or.inr rfl)) pgs_nil))))))
  (pss_cons (ps_par (i := 5) (j := 6) rfl nd rfl rfl (by decide) rfl rfl (pa_cons (pe_c (c__law_levels F) hr (by decide) rfl (pa_cons (pv 1) (pa_cons (pv 2) (pa_cons (pv 3) pa_nil)))) (pa_cons (pe_c (c__law_levels F) hr (by decide) rfl (pa_cons (pv 1) (pa_cons (pv 2) (pa_cons (pv 4) pa_nil)))) pa_nil)) rfl)
  (pss_cons (ps_set (i := 7) nd rfl (by first | exact Or.inl rfl | exact Or.inr rfl) pe_dnewT)
  (pss_cons (ps_for PassesOwn.never rfl (pi_range1 rfl F.range (pa_cons (pe_callB (klen K rfl) rfl F.len bt_len (pa_cons (pv 5) pa_nil)) pa_nil)) (pg_name (i := 8) nd rfl (by first | exact Or.inl rfl | exact Or.inr rfl)) (pss_one (ps_for PassesOwn.never rfl (pi_range1 rfl F.range (pa_cons (pe_callB (klen K rfl) rfl F.len bt_len (pa_cons (pv 6) pa_nil)) pa_nil)) (pg_name (i := 9) nd rfl (by first | exact Or.inl rfl | exact Or.inr rfl)) (pss_one (ps_dput hu (pv 7) (pe_tup (pa_cons (pv 8) (pa_cons (pv 9) pa_nil))) (pe_c (c__law_size F) hr (by decide) rfl (pa_cons (pv 1) (pa_cons (pe_c (c__law_cut F) hr (by decide) rfl (pa_cons (pe_ix (kix_list K rfl) (pv 5) (pv 8) (fun _ _ => rfl)) (pa_cons (pe_ix (kix_list K rfl) (pv 6) (pv 9) (fun _ _ => rfl)) pa_nil))) pa_nil))) rfl)))))
  (pss_cons (ps_set (i := 10) nd rfl (by first | exact Or.inl rfl | exact Or.inr rfl) pe_dnewT)
  (pss_cons (ps_for PassesOwn.never rfl (kpi_list K rfl (pe_c (c__law_grid F) hr (by decide) rfl (pa_cons (pe_callB (klen K rfl) rfl F.len bt_len (pa_cons (pv 3) pa_nil)) (pa_cons (pe_callB (klen K rfl) rfl F.len bt_len (pa_cons (pv 4) pa_nil)) pa_nil)))) (pg_tup rfl (pgs_cons (pg_name (i := 8) nd rfl (by first | exact Or.inl rfl | exact Or.inr rfl)) (pgs_cons (pg_name (i := 9) nd rfl (by first | exact Or.inl rfl | exact Or.inr rfl)) pgs_nil))) (pss_one (ps_dput hu (pv 10) (pe_tup (pa_cons (pv 8) (pa_cons (pv 9) pa_nil))) (pe_op op_add (pe_op op_sub (pe_op op_sub (pe_dget hu (pv 7) (pe_tup (pa_cons (pv 8) (pa_cons (pv 9) pa_nil))) (fun _ _ => rfl)) (pe_dget hu (pv 7) (pe_tup (pa_cons (pe_op op_sub (pv 8) pe_int) (pa_cons (pv 9) pa_nil))) (fun _ _ => rfl))) (pe_dget hu (pv 7) (pe_tup (pa_cons (pv 8) (pa_cons (pe_op op_sub (pv 9) pe_int) pa_nil))) (fun _ _ => rfl))) (pe_dget hu (pv 7) (pe_tup (pa_cons (pe_op op_sub (pv 8) pe_int) (pa_cons (pe_op op_sub (pv 9) pe_int) pa_nil))) (fun _ _ => rfl))) rfl)))
  (pss_one (ps_ret (pv 10))))))))), ?_⟩
  have hc : x.ok := pre
  have hp := hc.hp
  have hn := hc.hn
  have la := hc.la.2
  have lb := hc.lb
  obtain ⟨v0, rfl, h0⟩ := a1 ha
  refine gAsgG ok (Stp.refl ok) (gv (R := rPrc x) rfl h0) fun v0' L1 H1 S1 s1 r0 => ?_
  refine g_quad (R1 := rInt x.p) (R2 := rInt (x.n : Int)) (R3 := rLs (fun rs => rLs rVec rs) x.a) (R4 := rLs (fun rs => rLs rVec rs) x.b) S1.lh r0 fun w1 w2 va vb hw1 hw2 hva hvb => ?_
  obtain rfl : w1 = .int x.p := hw1
  obtain rfl : w2 = .int (x.n : Int) := hw2
  refine gPar (Ra := rLs (fun rs => rSet (HM.spanL x.p x.n rs)) (lvl x.n x.a)) (Rb := rLs (fun rs => rSet (HM.spanL x.p x.n rs)) (lvl x.n x.b)) ok S1
    (by exact gcp (R := fun q : Int × Nat × List (List (List Int)) => rLs (fun rs => rSet (HM.spanL q.1 q.2.1 rs)) (lvl q.2.1 q.2.2)) (x.p, x.n, x.a) ⟨hp, by show x.n ≤ 100; omega, hc.pn, hc.va, by show x.a.length ≤ 1000; omega⟩ (gaC (gv rfl rfl) (gaC (gv rfl rfl) (gaC (gv rfl hva) ga0))))
    (by exact gcp (R := fun q : Int × Nat × List (List (List Int)) => rLs (fun rs => rSet (HM.spanL q.1 q.2.1 rs)) (lvl q.2.1 q.2.2)) (x.p, x.n, x.b) ⟨hp, by show x.n ≤ 100; omega, hc.pn, hc.vb, by show x.b.length ≤ 1000; omega⟩ (gaC (gv rfl rfl) (gaC (gv rfl rfl) (gaC (gv rfl hvb) ga0)))) fun z1 z2 L2 H2 S2 s2 r1 r2 => ?_
  have lA : (lvl x.n x.a).length = x.a.length + 2 := by simp [lvl]
  have lB : (lvl x.n x.b).length = x.b.length + 2 := by simp [lvl]
  refine gDictP ok S2 fun sz H3 S3 oth3 ex3 pz => ?_
  refine gForS ok S3 (gi_rng1 (n := (((lvl x.n x.a).length : Nat) : Int)) (gaC (glen (gv rfl (sqL r1)) fun vs L' h => Pd.length h) ga0) (by rw [lA]; omega)) (fun i σ' La Ha => (∃ a b, σ' = [some v0, some (.int x.p), some (.int (x.n : Int)), some va, some vb, some z1, some z2, some (.ref sz), a, b, none]) ∧ Prv H La Ha sz (.dT (tabK (Prc.pairs i (x.b.length + 2)) fun d => (x.dim d : Int)))) ?_ ?_ ?_
  · intro L4 H4 _ s4
    exact ⟨⟨_, _, rfl⟩, pz.step ok s4⟩
  · rintro Lm em i a x' σ' La Ha Lb Hb ha' Sa ea ⟨⟨u1, u2, rfl⟩, pa⟩ sb hx
    have hlt : i < x.a.length + 2 := by
      have := (List.getElem?_eq_some_iff.mp ha').1
      rw [upto_len, lA] at this
      omega
    have hat : a = (i : Int) := by
      rw [upto_at (by rw [lA]; omega)] at ha'
      have := Option.some.inj ha'
      omega
    subst hat
    obtain rfl : x' = .int (i : Int) := hx
    refine gfor ok (Sa.trans sb) (gi_rng1 (n := (((lvl x.n x.b).length : Nat) : Int)) (gaC (glen (gv rfl (sqL (up (em.trans (ea.trans sb.ll)) r2))) fun vs L' h => Pd.length h) ga0) (by rw [lB]; omega)) (fun j σ' La Ha => (∃ b, σ' = [some v0, some (.int x.p), some (.int (x.n : Int)), some va, some vb, some z1, some z2, some (.ref sz), some (.int (i : Int)), b, none]) ∧ Prv H La Ha sz (.dT (tabK (Prc.pairs i (x.b.length + 2) ++ (List.range j).map fun j => (i, j)) fun d => (x.dim d : Int)))) ?_ ?_ ?_
    · intro L5 H5 _ s5
      refine ⟨⟨_, rfl⟩, ?_⟩
      have := (pa.step ok sb).step ok s5
      simpa using this
    · rintro Ln en j a x' σ' Lc Hc Ld Hd ha'' Sc ec ⟨⟨u3, rfl⟩, pc⟩ sd hx'
      have hlt2 : j < x.b.length + 2 := by
        have := (List.getElem?_eq_some_iff.mp ha'').1
        rw [upto_len, lB] at this
        omega
      have hat : a = (j : Int) := by
        rw [upto_at (by rw [lB]; omega)] at ha''
        have := Option.some.inj ha''
        omega
      subst hat
      obtain rfl : x' = .int (j : Int) := hx'
      have ex := em.trans (ea.trans (sb.ll.trans (en.trans (ec.trans sd.ll))))
      obtain ⟨ra, e1, va', s1'⟩ := lvl_span (n := x.n) hp hc.va (i := i) (by omega)
      obtain ⟨rb, e2, vb', s2'⟩ := lvl_span (n := x.n) hp hc.vb (i := j) (by omega)
      have ga : Good x.p x.n (HM.spanL x.p x.n ra) := ⟨HM.spanL_nodup ra, fun v hv => (HM.span_sub hp.pos va').vec v ((HM.spanL_iff hp.pos va' v).mp hv)⟩
      have lga := ga.le hp
      have hcard : (HM.cutL (HM.spanL x.p x.n ra) (HM.spanL x.p x.n rb)).length = x.p.toNat ^ x.dim (i, j) := HM.cut_card hp ((Prc.chs_ok hc).ch' true i) ((Prc.chs_ok hc).ch' false j) (HM.spanL_nodup ra) s1' s2'
      have hpn := hc.pn
      have hl2 : (Prc.pairs i (x.b.length + 2) ++ (List.range j).map fun j => (i, j)).length < 100000 := by
        have := pairs_len (i := i) (m := x.b.length + 2) (by omega) (by omega)
        rw [List.length_append, List.length_map, List.length_range]
        omega
      refine gPut (e := sz) (k := ck (i, j)) (v := .int (x.dim (i, j) : Int)) ok (Sc.trans sd) rfl (pc.step ok sd) (by unfold tabK; rw [List.length_map]; exact hl2)
        (gcp (R := fun q : Int × List (List Int) × Nat => rInt (q.2.2 : Int)) (x.p, HM.cutL (HM.spanL x.p x.n ra) (HM.spanL x.p x.n rb), x.dim (i, j)) ⟨hp, hcard⟩ (gaC (gv rfl rfl) (gaC (gcp (R := fun q : List (List Int) × List (List Int) => rSet (HM.cutL q.1 q.2)) (HM.spanL x.p x.n ra, HM.spanL x.p x.n rb) ⟨HM.spanL_nodup ra, by show (HM.spanL x.p x.n ra).length ≤ 10000; omega⟩ (gaC (gixLs (R := fun rs => rSet (HM.spanL x.p x.n rs)) (i := i) (gv rfl (up ex r1)) (gv rfl rfl) e1) (gaC (gixLs (R := fun rs => rSet (HM.spanL x.p x.n rs)) (i := j) (gv rfl (up ex r2)) (gv rfl rfl) e2) ga0))) ga0)))
        ((gpair (Ra := rInt (i : Int)) (Rb := rInt (j : Int)) (gv rfl rfl) (gv rfl rfl)).imp fun _ _ _ h => key_cell (c := (i, j)) h) fun L6 H6 S6 e6 p6 _ => ?_
      refine ⟨L6, S6, ec.trans (sd.ll.trans e6), ⟨_, rfl⟩, ?_⟩
      have hnew : (i, j) ∉ Prc.pairs i (x.b.length + 2) ++ (List.range j).map fun j => (i, j) := fun hm => by
        rcases List.mem_append.mp hm with h | h
        · exact absurd (mem_pairs.mp h).1 (Nat.lt_irrefl _)
        · obtain ⟨j', hj', he⟩ := List.mem_map.mp h
          injection he with _ he
          subst he
          exact absurd (List.mem_range.mp hj') (Nat.lt_irrefl _)
      rw [tab_new (f := fun d => (x.dim d : Int)) hnew] at p6
      rw [List.range_succ, List.map_append, ← List.append_assoc]
      exact p6
    · rintro σ' Lc Hc Sc ec ⟨⟨u3, rfl⟩, pc⟩
      have e7 : (upto 0 ((((lvl x.n x.b).length : Nat) : Int)).toNat).length = x.b.length + 2 := by rw [upto_len, lB]; omega
      rw [e7, ← pairs_succ] at pc
      exact ⟨Lc, Sc, ea.trans (sb.ll.trans ec), ⟨_, _, rfl⟩, pc⟩
  · rintro σ' La Ha Sa ea ⟨⟨u1, u2, rfl⟩, pa⟩
    have e7 : (upto 0 ((((lvl x.n x.a).length : Nat) : Int)).toNat).length = x.a.length + 2 := by rw [upto_len, lA]; omega
    rw [e7] at pa
    have rs : rTab (Prc.pairs (x.a.length + 2) (x.b.length + 2)) (fun d => (x.dim d : Int)) (.ref sz) (upd La sz (.dT (tabK (Prc.pairs (x.a.length + 2) (x.b.length + 2)) fun d => (x.dim d : Int)))) := ⟨sz, rfl, upd_same⟩
    have Sp := Sa.pub pa
    have hva' := up (s2.ll.trans (ea.trans pa.ex)) hva
    have hvb' := up (s2.ll.trans (ea.trans pa.ex)) hvb
    generalize upd La sz (.dT (tabK (Prc.pairs (x.a.length + 2) (x.b.length + 2)) fun d => (x.dim d : Int))) = Lp at *
    refine gDictP ok Sp fun fd H5 S5 oth5 ex5 pf => ?_
    refine gForS ok S5 (gi_list (gcp (R := fun q : Nat × Nat => rLs rCell (HM.allCells q.1 q.2)) (x.a.length, x.b.length) ⟨la, lb⟩ (gaC (glen (gv rfl (sqL hva')) fun vs L' h => Pd.length h) (gaC (glen (gv rfl (sqL hvb')) fun vs L' h => Pd.length h) ga0)))) (fun i σ' La Ha => (∃ a b, σ' = [some v0, some (.int x.p), some (.int (x.n : Int)), some va, some vb, some z1, some z2, some (.ref sz), a, b, some (.ref fd)]) ∧ Prv H La Ha fd (.dT (tabK ((HM.allCells x.a.length x.b.length).take i) x.tab))) ?_ ?_ ?_
    · intro L6 H6 _ s6
      exact ⟨⟨_, _, rfl⟩, pf.step ok s6⟩
    · rintro Lm em i d x' σ' Lc Hc Ld Hd hd' Sc ec ⟨⟨u3, u4, rfl⟩, pc⟩ sd hx
      have hmem : d ∈ HM.allCells x.a.length x.b.length := List.mem_of_getElem? hd'
      obtain ⟨i1, i2, j1, j2⟩ := HM.mem_cells.mp hmem
      refine g_pair sd.lh hx fun w1 w2 hw1 hw2 => ?_
      obtain rfl : w1 = .int (d.1 : Int) := hw1
      obtain rfl : w2 = .int (d.2 : Int) := hw2
      have rs' := up (em.trans (ec.trans sd.ll)) rs
      have e8 : (d.1 : Int) - 1 = ((d.1 - 1 : Nat) : Int) := by omega
      have e9 : (d.2 : Int) - 1 = ((d.2 - 1 : Nat) : Int) := by omega
      have hl3 := cells_le la lb
      have gd1 : ∀ σ : List (Option V), σ[8]? = some (some (V.int (d.1 : Int))) → Go T0 Ld (tOp (rI0 fun i j => V.int (i - j)) (tVar 8) (tC (.int 1)) σ) (rInt ((d.1 - 1 : Nat) : Int)) := fun σ hσ => geqI (gI0 (i := (d.1 : Int)) (j := 1) (R := rInt ((d.1 : Int) - 1)) (gv hσ rfl) (gc rfl) rfl) e8
      have gd2 : ∀ σ : List (Option V), σ[9]? = some (some (V.int (d.2 : Int))) → Go T0 Ld (tOp (rI0 fun i j => V.int (i - j)) (tVar 9) (tC (.int 1)) σ) (rInt ((d.2 - 1 : Nat) : Int)) := fun σ hσ => geqI (gI0 (i := (d.2 : Int)) (j := 1) (R := rInt ((d.2 : Int) - 1)) (gv hσ rfl) (gc rfl) rfl) e9
      refine gPut (e := fd) (k := ck d) (v := .int (x.tab d)) ok (Sc.trans sd) rfl (pc.step ok sd) (by unfold tabK; rw [List.length_map, List.length_take]; omega)
        (gI0 (i := (x.dim d : Int) - (x.dim (d.1 - 1, d.2) : Int) - (x.dim (d.1, d.2 - 1) : Int)) (j := (x.dim (d.1 - 1, d.2 - 1) : Int))
          (gI0 (i := (x.dim d : Int) - (x.dim (d.1 - 1, d.2) : Int)) (j := (x.dim (d.1, d.2 - 1) : Int))
            (gI0 (i := (x.dim d : Int)) (j := (x.dim (d.1 - 1, d.2) : Int))
              (gdget (d := d) (mem_pairs.mpr ⟨by omega, by omega⟩) (gv rfl rs') (gpair (gv rfl rfl) (gv rfl rfl)))
              (gdget (d := (d.1 - 1, d.2)) (mem_pairs.mpr ⟨by show d.1 - 1 < _; omega, by show d.2 < _; omega⟩) (gv rfl rs') (gpair (gd1 _ rfl) (gv rfl rfl))) rfl)
            (gdget (d := (d.1, d.2 - 1)) (mem_pairs.mpr ⟨by show d.1 < _; omega, by show d.2 - 1 < _; omega⟩) (gv rfl rs') (gpair (gv rfl rfl) (gd2 _ rfl))) rfl)
          (gdget (d := (d.1 - 1, d.2 - 1)) (mem_pairs.mpr ⟨by show d.1 - 1 < _; omega, by show d.2 - 1 < _; omega⟩) (gv rfl rs') (gpair (gd1 _ rfl) (gd2 _ rfl))) rfl)
        ((gpair (Ra := rInt (d.1 : Int)) (Rb := rInt (d.2 : Int)) (gv rfl rfl) (gv rfl rfl)).imp fun _ _ _ h => key_cell (c := d) h) fun L6 H6 S6 e6 p6 _ => ?_
      refine ⟨L6, S6, ec.trans (sd.ll.trans e6), ⟨_, _, rfl⟩, ?_⟩
      have hnew : d ∉ (HM.allCells x.a.length x.b.length).take i := fun hm => by
        obtain ⟨j, hj, hje⟩ := List.getElem_of_mem hm
        rw [List.length_take] at hj
        rw [List.getElem_take] at hje
        obtain ⟨h3, h4⟩ := List.getElem?_eq_some_iff.mp hd'
        have : j = i := (List.getElem_inj (cells_nodup _ _)).mp (hje.trans h4.symm)
        omega
      rw [tab_new (f := x.tab) hnew] at p6
      rw [take_at hd']
      exact p6
    · rintro σ' Lc Hc Sc ec ⟨⟨u3, u4, rfl⟩, pc⟩
      have e8 : tabK ((HM.allCells x.a.length x.b.length).take (HM.allCells x.a.length x.b.length).length) x.tab = tabK x.chs.cells fun d => ((x.chs.cellV d).length : Nat) := by
        rw [List.take_length]
        have e9 : HM.allCells x.a.length x.b.length = x.chs.cells := by
          unfold Chs.cells Prc.chs
          simp
        rw [e9]
        exact tab_congr fun d hd => tab_ok hc hd
      rw [e8] at pc
      exact ⟨_, rfl, k _ _ _ (Sc.pub pc) ⟨fd, rfl, upd_same⟩⟩
end
end HW
/-! part W13 -/
set_option maxHeartbeats 4000000
/-! Draws. -/
namespace HV
open PySem PySem.Spec PyProof.Rows L2 HR HW
open Evl (Ex)
/-- one of those -/
def rE {ι : Type} (P : ι → Prop) (R : ι → Rep) : Rep := fun v L => ∃ i, P i ∧ R i v L
instance {ι : Type} {P : ι → Prop} {R : ι → Rep} [g : ∀ i, Gr (R i)] : Gr (rE P R) := ⟨fun v H H' e ⟨i, h, r⟩ => ⟨i, h, (g i).up v H H' e r⟩⟩
/-- a number of that kind -/
abbrev rPI (P : Int → Prop) : Rep := rE P rInt
abbrev rPick (m : Int) : Rep := rPI fun i => 0 ≤ i ∧ i < m
section
variable {K : PySem.W.Frag} {T : Tap} {L L0 H0 H : Hp} {σ : L2.St} {ta tb tc te : TE} {R Ra Rb Rc : Rep} {A A' : RepA} {x y v : V} {ι κ μ : Type} {tz : TS} {D : Ends}
theorem gE {P : ι → Prop} {R : ι → Rep} (i : ι) (h : P i) (r : Go T L (te σ) (R i)) : Go T L (te σ) (rE P R) := r.imp fun _ _ _ r => ⟨i, h, r⟩
theorem gopE {C : Int → Int → Prop} {f : Int → Int → Int} {P P' Q : Int → Prop} (ha : Go T L (ta σ) (rPI P)) (hb : Go T L (tb σ) (rPI P')) (hc : ∀ i j, P i → P' j → C i j ∧ Q (f i j)) : Go T L (tOp (rI C fun i j => .int (f i j)) ta tb σ) (rPI Q) :=
  gop ha hb fun x y L' e ⟨i, h1, e1⟩ ⟨j, h2, e2⟩ => by
    obtain rfl : x = .int i := e1
    obtain rfl : y = .int j := e2
    exact fun H ok Q' q => ⟨i, j, rfl, rfl, (hc i j h1 h2).1, q _ L' H (Stp.refl ok) ⟨_, (hc i j h1 h2).2, rfl⟩⟩
theorem gopE0 {f : Int → Int → Int} {P P' Q : Int → Prop} (ha : Go T L (ta σ) (rPI P)) (hb : Go T L (tb σ) (rPI P')) (hc : ∀ i j, P i → P' j → Q (f i j)) : Go T L (tOp (rI0 fun i j => .int (f i j)) ta tb σ) (rPI Q) :=
  gop ha hb fun x y L' e ⟨i, h1, e1⟩ ⟨j, h2, e2⟩ => by
    obtain rfl : x = .int i := e1
    obtain rfl : y = .int j := e2
    exact fun H ok Q' q => ⟨i, j, rfl, rfl, q _ L' H (Stp.refl ok) ⟨_, hc i j h1 h2, rfl⟩⟩
theorem gintE {P : Int → Prop} (ha : Go T L (ta σ) (rPI P)) : Go T L (tCB (fun xs H Q => (∃ i, xs = [V.int i] ∧ Q (V.int i) H) ∨ ∃ k, xs = [V.bl k] ∧ Q (V.int (if k = true then 1 else 0)) H) (tCons ta tNil) σ) (rPI P) :=
  gcb (gaC ha ga0) fun vs L' e r => by
    obtain ⟨v, rfl, i, h, rfl⟩ := a1 r
    exact fun H ok Q q => Or.inl ⟨i, rfl, q _ L' H (Stp.refl ok) ⟨i, h, rfl⟩⟩
theorem gcI {P : Int → Prop} {i : Int} (h : P i) : Go T L (tC (.int i) σ) (rPI P) := gc ⟨i, h, rfl⟩
theorem gvI {P : Int → Prop} {i : Int} {j : Nat} (hj : σ[j]? = some (some (.int i))) (h : P i) : Go T L (tVar j σ) (rPI P) := gv hj ⟨i, h, rfl⟩
/-- a test whose outcome is open -/
def rAny : Bool → Hp → Prop := fun _ _ => True
instance : Gr rAny := ⟨fun _ _ _ _ _ => trivial⟩
theorem gtestE {g : Int → Int → Bool} {P P' : Int → Prop} (ha : Go T L (ta σ) (rPI P)) (hb : Go T L (tb σ) (rPI P')) : Go T L (tTest (tOp (rI0 fun i j => .bl (g i j)) ta tb) σ) rAny :=
  Go.bindE ha (fun _ _ h => h) fun x L1 e1 ⟨i, h1, r1⟩ => Go.bindE (Go.mono e1 hb) (fun _ _ h => h) fun y L2 e2 ⟨j, h2, r2⟩ => fun H ok Q q => by
    obtain rfl : x = .int i := r1
    obtain rfl : y = .int j := r2
    exact ⟨i, j, rfl, rfl, g i j, rfl, q _ L2 H (Stp.refl ok) trivial⟩
theorem geqE {P P' : Int → Prop} (ha : Go T L (ta σ) (rPI P)) (hb : Go T L (tb σ) (rPI P')) : Go T L (tTest (tOp rEq ta tb) σ) rAny :=
  Go.bindE ha (fun _ _ h => h) fun x L1 e1 ⟨i, h1, r1⟩ => Go.bindE (Go.mono e1 hb) (fun _ _ h => h) fun y L2 e2 ⟨j, h2, r2⟩ => fun H ok Q q => by
    obtain rfl : x = .int i := r1
    obtain rfl : y = .int j := r2
    exact ⟨rfl, _, rfl, q _ L2 H (Stp.refl ok) trivial⟩
theorem gIfE {t : TT} {tu tw : TS} (ok : Ok T L0 H0) (S : Stp T L0 H0 L H) (h : Go T L (t σ) rAny) (h1 : ∀ L1 H1, Stp T L0 H0 L1 H1 → Stp T L H L1 H1 → tu D σ H1) (h2 : ∀ L1 H1, Stp T L0 H0 L1 H1 → Stp T L H L1 H1 → tw D σ H1) : tIfS t tu tw D σ H :=
  Go.at ok S h fun v L1 H1 S1 s1 _ => by
    cases v with
    | true => exact h1 L1 H1 S1 s1
    | false => exact h2 L1 H1 S1 s1
theorem gWhenE {t : TT} {tu : TS} (ok : Ok T L0 H0) (S : Stp T L0 H0 L H) (h : Go T L (t σ) rAny) (h1 : ∀ L1 H1, Stp T L0 H0 L1 H1 → Stp T L H L1 H1 → tu { D with nx := tz D } σ H1) (h2 : ∀ L1 H1, Stp T L0 H0 L1 H1 → Stp T L H L1 H1 → tz D σ H1) : tSeq (tIfS t tu tNext) tz D σ H :=
  gIfE (D := { D with nx := tz D }) ok S h h1 h2
/-- calls -/
theorem gcallE {A : ι → RepA} {R : ι → Rep} {dvs : List V} {E : XK} {ta : TA} {P : RepA} {C : ι → Prop} (ha : Go T L (ta σ) P) (h : ∀ vs L', Ex L L' → P vs L' → ∃ i, C i ∧ A i (vs ++ dvs) L') : Go T L (tCall (spR A R) dvs E ta σ) (rE C R) :=
  Go.bindE ha (fun _ _ h => h) fun vs L1 e1 r1 => by
    obtain ⟨i, hc, hA⟩ := h vs L1 e1 r1
    exact (gsp (T := T) (E := E) (R := R) i hA).imp fun v L' _ r => ⟨i, hc, r⟩
/-- an item drawn -/
theorem gixE {R : ι → Rep} [g : ∀ i, Gr (R i)] {xs : List ι} {m : Int} (hm : m ≤ (xs.length : Nat)) (ha : Go T L (ta σ) (rLs R xs)) (hb : Go T L (tb σ) (rPick m)) : Go T L (tOp (rIxL K) ta tb σ) (rE (fun a => a ∈ xs) R) :=
  gop ha hb fun x y L' e ⟨p, vs, e1, e2, e3⟩ ⟨i, h1, e4⟩ => by
    obtain rfl : y = .int i := e4
    subst e1
    have hlt : i.toNat < xs.length := by omega
    obtain ⟨v, h2, h3⟩ := Pd.at e3 (List.getElem?_eq_getElem hlt)
    have h4 : atI vs i = some v := by
      have := atI_nat h2
      rwa [Int.toNat_of_nonneg h1.1] at this
    exact fun H ok Q q => ⟨p, vs, i, v, rfl, rfl, SqL.of (ok.1 p _ e2), h4, q _ L' H (Stp.refl ok) ⟨_, List.getElem_mem hlt, h3⟩⟩
/-- lists of things drawn -/
theorem Pd.choose {P : ι → Prop} {R : ι → Rep} : ∀ {ys : List κ} {vs : List V}, Pd (fun _ => rE P R) ys vs L → ∃ xs : List ι, xs.length = ys.length ∧ (∀ x ∈ xs, P x) ∧ Pd R xs vs L
  | [], [], _ => ⟨[], rfl, (fun _ h => (by cases h)), trivial⟩
  | a :: ys, v :: vs, h => by
    obtain ⟨i, h1, h2⟩ := h.1
    obtain ⟨xs, e1, e2, e3⟩ := Pd.choose h.2
    exact ⟨i :: xs, congrArg (· + 1) e1, fun x hx => by
      rcases List.mem_cons.mp hx with h | h
      · rw [h]; exact h1
      · exact e2 x h, h2, e3⟩
  | [], _ :: _, h => h.elim
  | _ :: _, [], h => h.elim
theorem gchoose {P : ι → Prop} {R : ι → Rep} {ys : List κ} (h : Go T L (te σ) (rLs (fun _ => rE P R) ys)) : Go T L (te σ) (rE (fun xs : List ι => xs.length = ys.length ∧ ∀ x ∈ xs, P x) fun xs => rLs R xs) := h.imp fun v L' _ ⟨p, vs, h1, h2, h3⟩ => by
  obtain ⟨xs, e1, e2, e3⟩ := Pd.choose h3
  exact ⟨xs, ⟨e1, e2⟩, p, vs, h1, h2, e3⟩
/-! loops of a drawn length -/
theorem gi_rngE {ta : TA} {P : Int → Prop} (h : Go T L (ta σ) (aCons (rPI P) aNil)) (hn : ∀ n, P n → -100000 ≤ n ∧ n ≤ 100000) : Go T L (iRng1 ta σ) (fun J L' => ∃ n, P n ∧ rIt T (upto 0 n.toNat) rInt J L') := fun H ok Q q => h H ok _ fun vs L1 H1 s1 r1 => by
  obtain ⟨v, e, n, hP, rfl⟩ := a1 r1
  have := hn n hP
  exact ⟨n, e, by omega, by omega, q _ L1 H1 s1 ⟨n, hP, wk_range⟩⟩
theorem gforE {ys : μ → List ι} {C : μ → Prop} {Y : ι → Rep} {wi : TI} {g : TG} {tb : TS} (ok : Ok T L0 H0) (S : Stp T L0 H0 L H) (hi : Go T L (wi σ) (fun J L' => ∃ e, C e ∧ rIt T (ys e) Y J L')) (Pv : μ → Nat → L2.St → Hp → Hp → Prop)
    (h0 : ∀ e, C e → ∀ L1 H1, Stp T L0 H0 L1 H1 → Stp T L H L1 H1 → Pv e 0 σ L1 H1)
    (hs : ∀ e, C e → ∀ Lm, Ex L Lm → ∀ i a x σ' La Ha Lb Hb, (ys e)[i]? = some a → Stp T L0 H0 La Ha → Ex Lm La → Pv e i σ' La Ha → Stp T La Ha Lb Hb → Y a x Lb → g x σ' Hb fun σ2 H2 => tb { D with nx := Nxt T L0 H0 Lm (Pv e) (i + 1), ct := Nxt T L0 H0 Lm (Pv e) (i + 1), bk := D.nx } σ2 H2)
    (hd : ∀ e, C e → ∀ σ' La Ha, Stp T L0 H0 La Ha → Ex L La → Pv e (ys e).length σ' La Ha → D.nx σ' Ha) : tFor wi g tb D σ H :=
  hi H (S.ok ok) _ fun J L1 H1 s1 ⟨e, hc, w⟩ => by
    exact for_it w (fun i σ' H' => ∃ La, Stp T L0 H0 La H' ∧ Ex L1 La ∧ Pv e i σ' La H') ⟨L1, S.trans s1, Evl.Ex.refl L1, h0 e hc L1 H1 (S.trans s1) s1⟩
      (fun i σ' H' _ ⟨La, S', e', _⟩ => e'.trans S'.lh)
      (fun i x σ' Ha Hb hi' ⟨La, S', e', pv⟩ y => by
        obtain ⟨Lb, a, s2, ha, hY⟩ := y La e' (S'.ok ok)
        exact hs e hc L1 s1.ll i a x σ' La Ha Lb Hb ha S' e' pv s2 hY)
      (fun σ' H' ⟨La, S', e', pv⟩ => hd e hc σ' La H' S' (s1.ll.trans e') pv)
theorem gForE {ys : μ → List ι} {C : μ → Prop} {Y : ι → Rep} {wi : TI} {g : TG} {tb : TS} (ok : Ok T L0 H0) (S : Stp T L0 H0 L H) (hi : Go T L (wi σ) (fun J L' => ∃ e, C e ∧ rIt T (ys e) Y J L')) (Pv : μ → Nat → L2.St → Hp → Hp → Prop)
    (h0 : ∀ e, C e → ∀ L1 H1, Stp T L0 H0 L1 H1 → Stp T L H L1 H1 → Pv e 0 σ L1 H1)
    (hs : ∀ e, C e → ∀ Lm, Ex L Lm → ∀ i a x σ' La Ha Lb Hb, (ys e)[i]? = some a → Stp T L0 H0 La Ha → Ex Lm La → Pv e i σ' La Ha → Stp T La Ha Lb Hb → Y a x Lb → g x σ' Hb fun σ2 H2 => tb { D with nx := Nxt T L0 H0 Lm (Pv e) (i + 1), ct := Nxt T L0 H0 Lm (Pv e) (i + 1), bk := tz D } σ2 H2)
    (hd : ∀ e, C e → ∀ σ' La Ha, Stp T L0 H0 La Ha → Ex L La → Pv e (ys e).length σ' La Ha → tz D σ' Ha) : tSeq (tFor wi g tb) tz D σ H :=
  gforE (D := { D with nx := tz D }) ok S hi Pv h0 hs hd
theorem glcE {ys : μ → List ι} {C : μ → Prop} {Y : ι → Rep} {Z : Rep} [gz : Gr Z] {wi : TI} {te : TE} {vs : List Nat} {j : Nat} (hi : Go T L (wi σ) (fun J L' => ∃ e, C e ∧ rIt T (ys e) Y J L')) (hz : ∀ e, C e → (ys e).length ≤ 40000) (hw : ∀ x, wipe ((wipe σ vs).set j (some x)) vs = wipe σ vs)
    (hs : ∀ e, C e → ∀ a x L1, a ∈ ys e → Ex L L1 → Y a x L1 → Go T L1 (te ((wipe σ vs).set j (some x))) Z) : Go T L (tLc wi (gName j) tYes te vs σ) (rE C fun e => rLs (fun _ : ι => Z) (ys e)) := fun H ok Q q => hi H ok _ fun J L1 H1 s1 ⟨e, hc, w⟩ =>
  by
    have h := glc1 (T := T) (L := L1) (σ := σ) (wi := fun _ H Q => Q J H) (te := te) (vs := vs) (j := j) (Z := fun _ : ι => Z) (ys := ys e) (Y := Y) id (Go.pure w) (hz e hc) hw fun a x L2 ha e2 hx => hs e hc a x L2 ha (s1.ll.trans e2) hx
    rw [List.map_id] at h
    exact h H1 (s1.ok ok) Q fun v L2 H2 s2 r2 => q v L2 H2 (s1.trans s2) ⟨e, hc, r2⟩
/-! the tape -/
theorem Stp.tape {p : Addr} {o : HO} (ok : Ok T L0 H0) (S : Stp T L0 H0 L H) (t : T p) (h : Tp (upd H p o) p) : Stp T L0 H0 L (upd H p o) := by
  have hl := ((S.ok ok).2 p t).2
  refine ⟨S.ll, fun x u e => ?_, fun x u e nt => ?_, S.nw, fun a ta' => ?_⟩
  · have : x ≠ p := fun z => by rw [z, hl] at e; cases e
    rw [upd_ne this]; exact S.lh x u e
  · have : x ≠ p := fun z => nt (z ▸ t)
    rw [upd_ne this]; exact S.hh x u e nt
  · by_cases e : a = p
    · subst e; exact h
    · obtain ⟨i, j, k, q, r⟩ := S.tp a ta'
      exact ⟨i, j, k, by rw [upd_ne e]; exact q, r⟩
def sm (t : Int) : Prop := 0 ≤ t ∧ t < 2147483648
theorem gt0 {p : Addr} {j : Nat} (hj : σ[j]? = some (some (.ref p))) (t : T p) : Go T L (tOp (rIxL K) (tVar j) (tC (.int 0)) σ) (rPI fun i => 0 ≤ i) := fun H ok Q q => by
  obtain ⟨a, b, c, h, h0, h1, h2⟩ := (ok.2 p t).1
  exact ⟨_, hj, p, _, 0, _, rfl, rfl, SqL.of h, atI_nat (j := 0) rfl, q _ L H (Stp.refl ok) ⟨a, h0, rfl⟩⟩
theorem gt1 {p : Addr} {j : Nat} (hj : σ[j]? = some (some (.ref p))) (t : T p) : Go T L (tOp (rIxL K) (tVar j) (tC (.int 1)) σ) (rPI sm) := fun H ok Q q => by
  obtain ⟨a, b, c, h, h0, h1, h2⟩ := (ok.2 p t).1
  exact ⟨_, hj, p, _, 1, _, rfl, rfl, SqL.of h, atI_nat (j := 1) rfl, q _ L H (Stp.refl ok) ⟨b, h1, rfl⟩⟩
theorem gt2 {p : Addr} {j : Nat} (hj : σ[j]? = some (some (.ref p))) (t : T p) : Go T L (tOp (rIxL K) (tVar j) (tC (.int 2)) σ) (rPI sm) := fun H ok Q q => by
  obtain ⟨a, b, c, h, h0, h1, h2⟩ := (ok.2 p t).1
  exact ⟨_, hj, p, _, 2, _, rfl, rfl, SqL.of h, atI_nat (j := 2) rfl, q _ L H (Stp.refl ok) ⟨c, h2, rfl⟩⟩
theorem gts {P : Int → Prop} {p : Addr} {j n : Nat} (ok : Ok T L0 H0) (S : Stp T L0 H0 L H) (hj : σ[j]? = some (some (.ref p))) (t : T p) (hn : n < 3) (h : Go T L (te σ) (rPI P)) (hP : ∀ i, P i → 0 ≤ i ∧ (n ≠ 0 → sm i)) (k : ∀ L1 H1, Stp T L0 H0 L1 H1 → Ex L L1 → tz D σ H1) :
    tSeq (tAsg te (gSub (tVar j) (tC (.int (n : Int))) rSetL)) tz D σ H := h H (S.ok ok) _ fun v L1 H1 s1 ⟨i, h1, h2⟩ => by
  obtain rfl : v = .int i := h2
  have S1 := S.trans s1
  obtain ⟨a, b, c, e, h0, h1', h2'⟩ := S1.tp p t
  have hi := hP i h1
  refine ⟨_, hj, p, _, (n : Int), n, rfl, rfl, e, Evl.ixN_nat (by exact hn), k L1 _ (Stp.tape ok S1 t ?_) s1.ll⟩
  rcases n with _ | _ | _ | n
  · exact ⟨i, b, c, upd_same, hi.1, h1', h2'⟩
  · exact ⟨a, i, c, upd_same, h0, hi.2 (by decide), h2'⟩
  · exact ⟨a, b, i, upd_same, h0, h1', hi.2 (by decide)⟩
  · omega
end
end HV
namespace HW
open PySem PySem.Spec PyProof.Rows L2 HR HV C8
open Evl (Ex)
section
variable {P : Program} {w : World} {K : PySem.W.Frag} {mg : Str → Option Value} {base : Heap}
def spLChains (K : PySem.W.Frag) : Sp := spR (fun c : Prc => aAnd c.ok (aCons (rPrc c) aNil)) (fun c => rCh K c.chs)
def spPick : Sp := spT (fun m : Int => aAnd (0 < m ∧ m < 1073741824) (aCons (rInt m) aNil)) (fun m => rPick m)
theorem c__law_pick (F : Cs K mg) : Cal P w K mg base 1 "_law_pick" (spPick) [] := by
  refine calG (N := ["_law_tape_here", "_law_many", "_law_digit"]) (ps := ["_law_tape_here", "_law_many"]) F.d__law_pick (fun _ _ _ _ _ _ us hl => match us, hl with | [_, _], _ => rfl) (by decide +kernel) (lenT fun _ _ _ h => lC h.2 (fun _ => l0)) ?_
  rintro f cdv A outer s H vs Q E hr ⟨x, L, tp, ws, rfl, ok, ⟨pre, ha⟩, k⟩
  have nd := (fnScope_by (N := ["_law_tape_here", "_law_many", "_law_digit"]) (P := ["_law_tape_here", "_law_many"]) (sc := fnScope (topS 60)) (by decide +kernel)).nd
  have hu := hu_of hr
  have hu0 := hr.units0
  have hu64 := hr.units
  refine ⟨_, (pss_cons (ps_if (pt_cmpR op_ge (pe_ix (kix_list K rfl) (pv 0) pe_int (fun _ _ => rfl)) (pe_op op_pow pe_int pe_int) (nomark _)) (pss_cons (ps_set (i := 2) nd rfl (by first | exact Or.inl rfl | exact Or.inr rfl) (pe_op op_mod (pe_callTy call_int1 rfl F.int bt_int (pa_cons (pe_ix (kix_list K rfl) (pv 0) pe_int (fun _ _ => rfl)) pa_nil)) (pv 1)))
  (pss_cons (ps_asg (pe_op op_fdiv (pe_ix (kix_list K rfl) (pv 0) pe_int (fun _ _ => rfl)) (pv 1)) (pg_sub (pv 0) pe_int set_list))
  (pss_one (ps_ret (pv 2))))) pss_nil)
  (pss_cons (ps_asg (pe_op op_mod (pe_callTy call_int1 rfl F.int bt_int (pa_cons (pe_op op_add (pe_op op_add (pe_op op_mul (pe_ix (kix_list K rfl) (pv 0) pe_int (fun _ _ => rfl)) pe_int) (pe_op op_mul (pe_ix (kix_list K rfl) (pv 0) pe_int (fun _ _ => rfl)) pe_int)) pe_int) pa_nil)) pe_int) (pg_sub (pv 0) pe_int set_list))
  (pss_cons (ps_asg (pe_op op_mod (pe_callTy call_int1 rfl F.int bt_int (pa_cons (pe_op op_add (pe_op op_add (pe_op op_mul (pe_ix (kix_list K rfl) (pv 0) pe_int (fun _ _ => rfl)) pe_int) (pe_op op_mul (pe_ix (kix_list K rfl) (pv 0) pe_int (fun _ _ => rfl)) pe_int)) pe_int) pa_nil)) pe_int) (pg_sub (pv 0) pe_int set_list))
  (pss_one (ps_ret (pe_op op_mod (pe_callTy call_int1 rfl F.int bt_int (pa_cons (pe_op op_fdiv (pe_op op_mod (pe_callTy call_int1 rfl F.int bt_int (pa_cons (pe_op op_add (pe_op op_mul (pe_ix (kix_list K rfl) (pv 0) pe_int (fun _ _ => rfl)) (pe_ix (kix_list K rfl) (pv 0) pe_int (fun _ _ => rfl))) pe_int) pa_nil)) pe_int) pe_int) pa_nil)) (pv 1))))))), ?_⟩
  obtain ⟨v, rfl, rfl⟩ := a1 ha
  obtain ⟨h0, h1⟩ := pre
  have S0 := Stp.refl ok
  have t0 : T1 tp tp := rfl
  refine gWhenE ok S0 (gtestE (gt0 rfl t0) (gopE (Q := fun _ => True) (gcI (P := fun i => i = 10) rfl) (gcI (P := fun i => i = 18) rfl) fun i j e1 e2 => by subst e1 e2; exact ⟨⟨by decide, by decide, by decide⟩, trivial⟩)) (fun L1 H1 S1 s1 => ?_) fun L1 H1 S1 s1 => ?_
  · refine gSet ok S1 (gopE (Q := fun i => 0 ≤ i ∧ i < x) (gintE (gt0 rfl t0)) (gvI (P := fun i => i = x) rfl rfl) fun i j _ e2 => by subst e2; exact ⟨h0, Int.emod_nonneg _ (by omega), Int.emod_lt_of_pos _ h0⟩) fun v2 L2 H2 S2 s2 r2 => ?_
    refine gts (n := 0) ok S2 rfl t0 (by decide) (gopE (Q := fun i => 0 ≤ i) (gt0 rfl t0) (gvI (P := fun i => i = x) rfl rfl) fun i j e1 e2 => by subst e2; exact ⟨⟨h0, h1⟩, Int.ediv_nonneg e1 (by omega)⟩) (fun i hi => ⟨hi, fun z => absurd rfl z⟩) fun L3 H3 S3 e3 => ?_
    exact gEnd ok S3 k (gv rfl (up e3 r2))
  · refine gts (n := 1) ok S1 rfl t0 (by decide) (gopE (Q := sm) (gintE (gopE0 (Q := fun _ => True) (gopE0 (Q := fun _ => True) (gopE (Q := fun _ => True) (gt1 rfl t0) (gcI (P := fun i => i = 69069) rfl) fun i j _ e => ⟨Or.inr (by subst e; decide), trivial⟩) (gopE (Q := fun _ => True) (gt0 rfl t0) (gcI (P := fun i => i = 7177) rfl) fun i j _ e => ⟨Or.inr (by subst e; decide), trivial⟩) fun _ _ _ _ => trivial) (gcI (P := fun _ => True) trivial) fun _ _ _ _ => trivial)) (gcI (P := fun i => i = 2147483629) rfl) fun i j _ e => by subst e; exact ⟨by decide, Int.emod_nonneg _ (by decide), by have := Int.emod_lt_of_pos i (show (0 : Int) < 2147483629 by decide); omega⟩) (fun i hi => ⟨hi.1, fun _ => hi⟩) fun L2 H2 S2 e2 => ?_
    refine gts (n := 2) ok S2 rfl t0 (by decide) (gopE (Q := sm) (gintE (gopE0 (Q := fun _ => True) (gopE0 (Q := fun _ => True) (gopE (Q := fun _ => True) (gt2 rfl t0) (gcI (P := fun i => i = 40014) rfl) fun i j _ e => ⟨Or.inr (by subst e; decide), trivial⟩) (gopE (Q := fun _ => True) (gt0 rfl t0) (gcI (P := fun i => i = 3571) rfl) fun i j _ e => ⟨Or.inr (by subst e; decide), trivial⟩) fun _ _ _ _ => trivial) (gcI (P := fun _ => True) trivial) fun _ _ _ _ => trivial)) (gcI (P := fun i => i = 2147483563) rfl) fun i j _ e => by subst e; exact ⟨by decide, Int.emod_nonneg _ (by decide), by have := Int.emod_lt_of_pos i (show (0 : Int) < 2147483563 by decide); omega⟩) (fun i hi => ⟨hi.1, fun _ => hi⟩) fun L3 H3 S3 e3 => ?_
    refine gEnd ok S3 k (gopE (Q := fun i => 0 ≤ i ∧ i < x) (gintE (gopE (Q := fun _ => True) (gopE (Q := fun _ => True) (gintE (gopE0 (Q := fun _ => True) (gopE (Q := fun _ => True) (gt1 rfl t0) (gt2 rfl t0) fun i j e1 e2 => ⟨Or.inl ⟨by have := e1.1; omega, by have := e1.2; omega⟩, trivial⟩) (gcI (P := fun _ => True) trivial) fun _ _ _ _ => trivial)) (gcI (P := fun i => i = 2147483587) rfl) fun i j _ e => by subst e; exact ⟨by decide, trivial⟩) (gcI (P := fun i => i = 32) rfl) fun i j _ e => by subst e; exact ⟨⟨by decide, by decide⟩, trivial⟩)) (gvI (P := fun i => i = x) rfl rfl) fun i j _ e2 => by subst e2; exact ⟨h0, Int.emod_nonneg _ (by omega), Int.emod_lt_of_pos _ h0⟩)
end
end HW
/-! part W14 -/
set_option maxHeartbeats 4000000
/-! Tapes, vectors, chains and terms drawn. -/
namespace HV
open PySem PySem.Spec PyProof.Rows L2 HR HW
open Evl (Ex)
section
variable {K : PySem.W.Frag} {T : Tap} {L L0 H0 H : Hp} {σ : L2.St} {ta tb tc te : TE} {R Ra Rb Rc : Rep} {A A' : RepA} {x y v : V} {ι κ μ : Type} {tz : TS} {D : Ends} {t u : TT} {a b : Bool}
/-- return a new list, our own still -/
theorem gRetP {ta : TA} {P : RepA} (ok : Ok T L0 H0) (S : Stp T L0 H0 L H) (h : Go T L (ta σ) P) (hl : ∀ vs L', P vs L' → vs.length ≤ 100000) (k : ∀ p vs L1 H1, Stp T L0 H0 L1 H1 → H0 p = none → L1 p = none → P vs L1 → H1 p = some (.lst vs) → D.rt (.ref p) H1) : tRet (tLst ta) D σ H :=
  h H (S.ok ok) _ fun vs L1 H1 s1 r1 => ⟨Evl.sz_of (hl vs L1 r1), fun p hp => by
    have S1 := S.trans s1
    have p1 := Prv.new ok S1 hp (o := HO.lst vs)
    exact k p vs L1 _ (S1.add ok hp) p1.st p1.nl r1 upd_same⟩
/-- a test, a word about its outcome -/
theorem gIfR {P : Bool → Prop} {tu tw : TS} (ok : Ok T L0 H0) (S : Stp T L0 H0 L H) (h : Go T L (t σ) (fun b _ => P b)) (h1 : P true → ∀ L1 H1, Stp T L0 H0 L1 H1 → Stp T L H L1 H1 → tu D σ H1) (h2 : P false → ∀ L1 H1, Stp T L0 H0 L1 H1 → Stp T L H L1 H1 → tw D σ H1) : tIfS t tu tw D σ H :=
  Go.at ok S h fun v L1 H1 S1 s1 r => by
    cases v with
    | true => exact h1 r L1 H1 S1 s1
    | false => exact h2 r L1 H1 S1 s1
theorem gWhenR {P : Bool → Prop} {tu : TS} (ok : Ok T L0 H0) (S : Stp T L0 H0 L H) (h : Go T L (t σ) (fun b _ => P b)) (h1 : P true → ∀ L1 H1, Stp T L0 H0 L1 H1 → Stp T L H L1 H1 → tu { D with nx := tz D } σ H1) (h2 : P false → ∀ L1 H1, Stp T L0 H0 L1 H1 → Stp T L H L1 H1 → tz D σ H1) : tSeq (tIfS t tu tNext) tz D σ H :=
  gIfR (D := { D with nx := tz D }) ok S h h1 h2
theorem gorA (h1 : Go T L (t σ) (rB a)) (h2 : a = false → Go T L (u σ) rAny) : Go T L (tOr t u σ) (fun b _ => b = false → a = false) := Go.bindE h1 (fun _ _ h => h) fun x L1 e1 r1 => by
  obtain rfl : x = a := r1
  cases x with
  | true => exact Go.pure (x := true) fun z => nomatch z
  | false => exact (Go.mono e1 (h2 rfl)).imp fun _ _ _ _ _ => rfl
theorem gifE [g : Gr R] (h : Go T L (t σ) rAny) (h1 : Go T L (ta σ) R) (h2 : Go T L (tb σ) R) : Go T L (tIf t ta tb σ) R := Go.bindE h (fun _ _ h => h) fun x L1 e1 r1 => by
  cases x with
  | true => exact Go.mono e1 h1
  | false => exact Go.mono e1 h2
end
end HV
namespace HW
open PySem PySem.Spec PyProof.Rows L2 HR HV C8
open Evl (Ex)
open HM (CW)
def rScr (K : PySem.W.Frag) (ns : List Int) : Rep := fun v L => ∃ a, v = .ref a ∧ SqL K L a (ns.map V.int)
instance {K : PySem.W.Frag} {ns : List Int} : Gr (rScr K ns) := ⟨fun v H H' e ⟨a, h1, h2⟩ => ⟨a, h1, Evl.ex_l e h2⟩⟩
def spTape (K : PySem.W.Frag) : Sp := fun vs H Q _ => ∃ (x : List Int × Int) (L : Hp), Ex L H ∧ aAnd (0 ≤ x.2 ∧ x.2 ≤ 20) (aCons (rScr K x.1) (aCons (rInt x.2) aNil)) vs L ∧ ∀ p L' H', Stp T0 L H L' H' → H p = none → L' p = none → Tp H' p → Q (.ref p) H'
theorem lenTape {K : PySem.W.Frag} : ∀ vs H Q E, spTape K vs H Q E → vs.length = 2 := fun vs H Q E ⟨x, L, _, a, _⟩ => lC a.2 (fun _ h => lC h (fun _ => l0))
def rStr (s : Str) : Rep := rV (.str s)
instance {s : Str} : Gr (rStr s) := inferInstanceAs (Gr (rV _))
section
variable {P : Program} {w : World} {K : PySem.W.Frag} {mg : Str → Option Value} {base : Heap}
theorem c__law_tape (F : Cs K mg) : Cal P w K mg base 1 "_law_tape" (spTape K) [] := by
  refine calG (N := ["_law_script", "_law_k", "_law_cell"]) (ps := ["_law_script", "_law_k"]) F.d__law_tape (fun _ _ _ _ _ _ us hl => match us, hl with | [_, _], _ => rfl) (by decide +kernel) (lenTape) ?_
  rintro f cdv A outer s H vs Q E hr ⟨x, L, e, ⟨pre, ha⟩, k⟩
  have nd := (fnScope_by (N := ["_law_script", "_law_k", "_law_cell"]) (P := ["_law_script", "_law_k"]) (sc := fnScope (topS 59)) (by decide +kernel)).nd
  have ok := ok0 e
  have hu := hu_of hr
  have hu0 := hr.units0
  have hu64 := hr.units
  refine ⟨_, (pss_cons (ps_set (i := 2) nd rfl (by first | exact Or.inl rfl | exact Or.inr rfl) pe_int)
  (pss_cons (ps_if (pt_cmpR op_lt (pv 1) (pe_callB (klen K rfl) rfl F.len bt_len (pa_cons (pv 0) pa_nil)) (nomark _)) (pss_one (ps_set (i := 2) nd rfl (by first | exact Or.inl rfl | exact Or.inr rfl) (pe_ix (kix_list K rfl) (pv 0) (pv 1) (fun _ _ => rfl)))) pss_nil)
  (pss_one (ps_ret (pe_lst (pa_cons (pe_callB call_abs rfl F.abs bt_abs (pa_cons (pv 2) pa_nil)) (pa_cons (pe_op op_add pe_int (pe_op op_mul pe_int (pv 1))) (pa_cons (pe_op op_add pe_int (pe_op op_mul pe_int (pv 1))) pa_nil)))))))), ?_⟩
  obtain ⟨ns, n⟩ := x
  obtain ⟨h0, h1⟩ := pre
  have h0 : 0 ≤ n := h0
  have h1 : n ≤ 20 := h1
  obtain ⟨_, _, rfl, ⟨a, rfl, hs⟩, rfl⟩ := a2 ha
  have hs : SqL K L a (ns.map V.int) := hs
  refine gSet (R := rPI fun _ => True) ok (Stp.refl ok) (gcI trivial) fun v1 L1 H1 S1 s1 r1 => ?_
  have fin : ∀ v L2 H2, Stp T0 L H L2 H2 → (∃ i : Int, v = V.int i) → (tRet (tLst (tCons (tCB (fun xs H Q => ∃ i, xs = [V.int i] ∧ Q (V.int (if i < 0 then -i else i)) H) (tCons (tVar 2) tNil)) (tCons (tOp (rI0 fun i j => V.int (i + j)) (tC (V.int 104729)) (tOp (rI CMul fun i j => V.int (i * j)) (tC (V.int 7919)) (tVar 1))) (tCons (tOp (rI0 fun i j => V.int (i + j)) (tC (V.int 15485863)) (tOp (rI CMul fun i j => V.int (i * j)) (tC (V.int 1299709)) (tVar 1))) tNil))))) { nx := fun _ H' => Q .non H', rt := Q } [some (.ref a), some (.int n), some v] H2 := fun v L2 H2 S2 ⟨i, e⟩ => by
    subst e
    refine gRetP (P := aCons (rInt (if i < 0 then -i else i)) (aCons (rInt (104729 + 7919 * n)) (aCons (rInt (15485863 + 1299709 * n)) aNil))) ok S2 (gaC (gabs (gv rfl rfl)) (gaC (gI0 (i := 104729) (j := 7919 * n) (gc rfl) (gI (i := 7919) (j := n) (gc rfl) (gv rfl rfl) (Or.inl (by decide)) rfl) rfl) (gaC (gI0 (i := 15485863) (j := 1299709 * n) (gc rfl) (gI (i := 1299709) (j := n) (gc rfl) (gv rfl rfl) (Or.inl (by decide)) rfl) rfl) ga0))) (fun vs L' h => by
      have := lC h (fun _ h => lC h (fun _ h => lC h (fun _ => l0)))
      omega) fun p vs L3 H3 S3 hp0 hl3 r3 hp3 => ?_
    obtain ⟨_, _, rfl, rfl, h⟩ := r3
    obtain ⟨_, _, rfl, rfl, rfl⟩ := a2 h
    refine k p L3 _ S3 hp0 hl3 ⟨_, _, _, hp3, ?_, ⟨by omega, by omega⟩, ⟨by omega, by omega⟩⟩
    split <;> omega
  obtain ⟨i, _, rfl⟩ := r1
  refine gIf ok S1 (b := decide (n < ((ns.length : Nat) : Int))) (gtest (gI0 (i := n) (j := ((ns.length : Nat) : Int)) (gv rfl rfl) (gcb (gaC (gv (R := rScr K ns) rfl ⟨a, rfl, Evl.ex_l s1.ll hs⟩) ga0) fun vs L' e r => by
    obtain ⟨v, rfl, a', rfl, h'⟩ := a1 r
    exact fun H ok Q q => ⟨a', _, rfl, Or.inl (Evl.ex_l ok.1 h'), by
      rw [List.length_map]
      exact q _ L' H (Stp.refl ok) rfl⟩) rfl)) (fun hb L2 H2 S2 s2 => ?_) fun hb L2 H2 S2 s2 => fin _ L2 H2 S2 ⟨_, rfl⟩
  have hlt : n.toNat < ns.length := by have := of_decide_eq_true hb; omega
  refine gSet1 (R := rPI fun _ => True) ok S2 (gop (gv (R := rScr K ns) rfl ⟨a, rfl, Evl.ex_l (s1.ll.trans s2.ll) hs⟩) (gv (R := rInt n) rfl rfl) fun x y L' e ⟨a', e1, h'⟩ e2 => by
    obtain rfl : y = .int n := e2
    subst e1
    have e3 : atI (ns.map V.int) n = some (V.int ns[n.toNat]) := by
      have := atI_nat (xs := ns.map V.int) (j := n.toNat) (v := V.int ns[n.toNat]) (by rw [List.getElem?_map, List.getElem?_eq_getElem hlt]; rfl)
      rwa [Int.toNat_of_nonneg h0] at this
    exact fun H ok Q q => ⟨a', _, n, _, rfl, rfl, Evl.ex_l ok.1 h', e3, q _ L' H (Stp.refl ok) ⟨_, trivial, rfl⟩⟩) fun v3 L3 H3 S3 s3 r3 => ?_
  obtain ⟨i3, _, rfl⟩ := r3
  exact fin _ L3 H3 S3 ⟨_, rfl⟩
def spVector : Sp := spT (fun q : Int × Nat => aAnd (0 < q.1 ∧ q.1 < 1073741824 ∧ q.2 ≤ 1000) (aCons (rInt q.1) (aCons (rInt (q.2 : Int)) aNil))) (fun q => rE (fun ns => HM.IsV q.1 q.2 ns) rVec)
theorem picks_vec {p : Int} {n : Nat} {xs : List Int} (h1 : xs.length = n) (h2 : ∀ x ∈ xs, 0 ≤ x ∧ x < p) : HM.IsV p n xs := ⟨h1, fun i hi => by
  rw [HM.gz_lt (by omega)]
  exact h2 _ (List.getElem_mem _)⟩
theorem c__law_vector (F : Cs K mg) : Cal P w K mg base 2 "_law_vector" (spVector) [] := by
  refine calG (N := ["_law_tape_here", "_law_prime", "_law_length_here", "_law_k"]) (ps := ["_law_tape_here", "_law_prime", "_law_length_here"]) F.d__law_vector (fun _ _ _ _ _ _ us hl => match us, hl with | [_, _, _], _ => rfl) (by decide +kernel) (lenT fun _ _ _ h => lC h.2 (fun _ h => lC h (fun _ => l0))) ?_
  rintro f cdv A outer s H vs Q E hr ⟨x, L, tp, ws, rfl, ok, ⟨pre, ha⟩, k⟩
  have nd := (fnScope_by (N := ["_law_tape_here", "_law_prime", "_law_length_here", "_law_k"]) (P := ["_law_tape_here", "_law_prime", "_law_length_here"]) (sc := fnScope (topS 73)) (by decide +kernel)).nd
  have hu := hu_of hr
  have hu0 := hr.units0
  have hu64 := hr.units
  refine ⟨_, (pss_one (ps_ret (pe_callTy (ktuple K rfl) rfl F.tuple bt_tuple (pa_cons (pe_lc (own := [("_law_k", 3)]) rfl nd (pi_range1 rfl F.range (pa_cons (pv 2) pa_nil)) (blkOk_by (N := ["_law_tape_here", "_law_prime", "_law_length_here", "_law_k"]) (sc := fnScope (topS 73)) (by decide +kernel)) (fun _ _ _ _ _ => (pg_name (i := 3) nd rfl (Or.inl rfl))) (fun _ _ _ _ _ => pts_nil) (fun _ _ _ _ _ => (pe_c (c__law_pick F) hr (by decide) rfl (pa_cons (pv 0) (pa_cons (pv 1) pa_nil))))) pa_nil)))), ?_⟩
  obtain ⟨p, n⟩ := x
  obtain ⟨h0, h1, hn⟩ := pre
  have hn : n ≤ 1000 := hn
  obtain ⟨_, _, rfl, rfl, rfl⟩ := a2 ha
  have t0 : T1 tp tp := rfl
  refine gEnd ok (Stp.refl ok) k ((gtupof (glc1 (Z := fun _ : Int => rPick p) id (gi_rng1 (n := (n : Int)) (gaC (gv rfl rfl) ga0) (by omega)) (by rw [upto_len]; omega) (fun _ => rfl) fun a xa L1 ha' e1 hx => gcpT (R := fun m => rPick m) p rfl t0 ⟨h0, h1⟩ (gaC (gv rfl rfl) ga0))).imp fun v L' _ ⟨q, vs, e1, e2, e3⟩ => ?_)
  obtain ⟨xs, x1, x2, x3⟩ := Pd.choose e3
  refine ⟨xs, picks_vec (by rw [x1, List.length_map, upto_len]; exact Int.toNat_natCast n) x2, vecT ⟨q, vs, e1, e2, x3⟩⟩
theorem c__law_chains (F : Cs K mg) : Cal P w K mg base 7 "_law_chains" (spLChains K) [] := by
  refine calG (N := ["_law_pair_here", "_law_prime", "_law_length_here", "_law_first", "_law_second", "_law_rows_here"]) (ps := ["_law_pair_here"]) F.d__law_chains (fun _ _ _ _ _ _ us hl => match us, hl with | [_], _ => rfl) (by decide +kernel) (len1 fun _ _ _ h => lC h.2 (fun _ => l0)) ?_
  rintro f cdv A outer s H vs Q E hr ⟨x, L, e, ⟨pre, ha⟩, k⟩
  have nd := (fnScope_by (N := ["_law_pair_here", "_law_prime", "_law_length_here", "_law_first", "_law_second", "_law_rows_here"]) (P := ["_law_pair_here"]) (sc := fnScope (topS 76)) (by decide +kernel)).nd
  have ok := ok0 e
  have hu := hu_of hr
  have hu0 := hr.units0
  have hu64 := hr.units
  refine ⟨_, (pss_cons (ps_asg (pv 0) (pg_tup rfl (pgs_cons (pg_name (i := 1) nd rfl (by first | exact Or.inl rfl | exact Or.inr rfl)) (pgs_cons (pg_name (i := 2) nd rfl (by first | exact Or.inl rfl | exact Or.inr rfl)) (pgs_cons (pg_name (i := 3) nd rfl (by first | exact Or.inl rfl | exact Or.inr rfl)) (pgs_cons (pg_name (i := 4) nd rfl (by first | exact Or.inl rfl | exact Or.inr rfl)) pgs_nil))))))
  (pss_one (ps_ret (pe_mkB K rfl F.Chains.mkr F.Chains.mg (n_Chains_init F) hr (by decide) rfl (pa_cons (pe_lc (own := [("_law_rows_here", 5)]) rfl nd (kpi_list K rfl (pv 3)) (blkOk_by (N := ["_law_pair_here", "_law_prime", "_law_length_here", "_law_first", "_law_second", "_law_rows_here"]) (sc := fnScope (topS 76)) (by decide +kernel)) (fun _ _ _ _ _ => (pg_name (i := 5) nd rfl (Or.inl rfl))) (fun _ _ _ _ _ => pts_nil) (fun _ _ _ _ _ => (pe_mkB K rfl F.Space.mkr F.Space.mg (i_Space_3 F) hr (by decide) rfl (pa_cons (pv 1) (pa_cons (pv 2) (pa_cons (pv 5) pa_nil)))))) (pa_cons (pe_lc (own := [("_law_rows_here", 5)]) rfl nd (kpi_list K rfl (pv 4)) (blkOk_by (N := ["_law_pair_here", "_law_prime", "_law_length_here", "_law_first", "_law_second", "_law_rows_here"]) (sc := fnScope (topS 76)) (by decide +kernel)) (fun _ _ _ _ _ => (pg_name (i := 5) nd rfl (Or.inl rfl))) (fun _ _ _ _ _ => pts_nil) (fun _ _ _ _ _ => (pe_mkB K rfl F.Space.mkr F.Space.mg (i_Space_3 F) hr (by decide) rfl (pa_cons (pv 1) (pa_cons (pv 2) (pa_cons (pv 5) pa_nil)))))) pa_nil)))))), ?_⟩
  have hc : x.ok := pre
  have hp := hc.hp
  have hn := hc.hn
  have la := hc.la.2
  have lb := hc.lb
  obtain ⟨v0, rfl, h0⟩ := a1 ha
  refine gAsgG ok (Stp.refl ok) (gv (R := rPrc x) rfl h0) fun v0' L1 H1 S1 s1 r0 => ?_
  refine g_quad (R1 := rInt x.p) (R2 := rInt (x.n : Int)) (R3 := rLs (fun rs => rLs rVec rs) x.a) (R4 := rLs (fun rs => rLs rVec rs) x.b) S1.lh r0 fun w1 w2 va vb hw1 hw2 hva hvb => ?_
  obtain rfl : w1 = .int x.p := hw1
  obtain rfl : w2 = .int (x.n : Int) := hw2
  have sp : ∀ (rs : List (List Int)) L2 (σ : List (Option V)) xr, (∀ r ∈ rs, HM.IsV x.p x.n r) → rs.length ≤ 1000 → rLs rVec rs xr L2 → σ[1]? = some (some (V.int x.p)) → σ[2]? = some (some (V.int (x.n : Int))) → σ[5]? = some (some xr) →
      Go T0 L2 (tMake (cA K "Space") (spInitS K) [] C8.E0 (tCons (tVar 1) (tCons (tVar 2) (tCons (tVar 5) tNil))) σ) (rSp K (x.chs.sp (HM.mkRows x.p rs))) := fun rs L2 σ xr hv hl hx g1 g2 g5 =>
    gmkS (R := fun q : Int × Nat × List (List Int) => rSp K ⟨q.1, q.2.1, HM.mkRows q.1 q.2.2⟩) (x.p, x.n, rs) ⟨hp, hn, fun r hr => (hv r hr).len, by show rs.length ≤ 10000; omega⟩ (gaC (gv g1 rfl) (gaC (gv g2 rfl) (gaC (gv g5 (Or.inl (sqL hx))) ga0)))
  refine gEnd ok S1 k (gmkS (B := fun c : Chs => aCons (rLs (fun r => rSp K (c.sp r)) c.a) (aCons (rLs (fun r => rSp K (c.sp r)) c.b) aNil)) (pre := fun c : Chs => c.ok) (R := fun c : Chs => rCh K c) x.chs (Prc.chs_ok hc) (gaC (glc1 (Z := fun r => rSp K (x.chs.sp r)) (HM.mkRows x.p) (gi_list (Y := fun rs => rLs rVec rs) (gv rfl hva)) (by omega) (fun _ => rfl) fun rs xr L2 hr e2 hx => sp rs L2 _ xr (hc.va rs hr) (hc.na rs hr) hx rfl rfl rfl)
    (gaC (glc1 (Z := fun r => rSp K (x.chs.sp r)) (HM.mkRows x.p) (gi_list (Y := fun rs => rLs rVec rs) (gv rfl hvb)) (by omega) (fun _ => rfl) fun rs xr L2 hr e2 hx => sp rs L2 _ xr (hc.vb rs hr) (hc.nb rs hr) hx rfl rfl rfl) ga0)))
end
end HW
/-! part W15 -/
set_option maxHeartbeats 4000000
/-! Chains, pairs, terms drawn. -/
namespace HW
open PySem PySem.Spec PyProof.Rows L2 HR HV C8
open Evl (Ex)
open HM (CW)
abbrev rRows : List (List Int) → Rep := fun rs => rLs rVec rs
structure ChOk (p : Int) (n : Nat) (m : Nat) (ch : List (List (List Int))) : Prop where
  vec : ∀ rs ∈ ch, ∀ r ∈ rs, HM.IsV p n r
  len : ∀ rs ∈ ch, rs.length ≤ m
  grw : grw ch
theorem ChOk.add {p : Int} {n m : Nat} {ch : List (List (List Int))} {rows : List (List Int)} (h : ChOk p n m ch) (hv : ∀ r ∈ rows, HM.IsV p n r) (hl : rows.length ≤ m) (hs : ∀ rs ∈ ch, ∀ r ∈ rs, r ∈ rows) : ChOk p n m (ch ++ [rows]) where
  vec := fun rs hr => by
    rcases List.mem_append.mp hr with h' | h'
    · exact h.vec rs h'
    · rw [List.mem_singleton.mp h']; exact hv
  len := fun rs hr => by
    rcases List.mem_append.mp hr with h' | h'
    · exact h.len rs h'
    · rw [List.mem_singleton.mp h']; exact hl
  grw := fun i a b h1 h2 r hr => by
    have hi : i + 1 < (ch ++ [rows]).length := (List.getElem?_eq_some_iff.mp h2).1
    rw [List.length_append, List.length_singleton] at hi
    rw [List.getElem?_append_left (by omega)] at h1
    by_cases e : i + 1 < ch.length
    · rw [List.getElem?_append_left e] at h2
      exact h.grw i a b h1 h2 r hr
    · rw [List.getElem?_append_right (by omega), show i + 1 - ch.length = 0 by omega] at h2
      obtain rfl : rows = b := Option.some.inj h2
      exact hs a (List.mem_of_getElem? h1) r hr
section
variable {P : Program} {w : World} {K : PySem.W.Frag} {mg : Str → Option Value} {base : Heap}
def spChain : Sp := spT (fun q : Int × Nat × List (List Int) => aAnd (HM.IsP q.1 ∧ q.2.1 ≤ 12 ∧ 0 < q.2.2.length ∧ q.2.2.length ≤ 1000 ∧ ∀ r ∈ q.2.2, HM.IsV q.1 q.2.1 r) (aCons (rInt q.1) (aCons (rLs rVec q.2.2) aNil))) (fun q => rE (fun ch => (0 < ch.length ∧ ch.length ≤ 4) ∧ ChOk q.1 q.2.1 1000 ch) fun ch => rLs rRows ch)
theorem c__law_chain (F : Cs K mg) : Cal P w K mg base 2 "_law_chain" (spChain) [] := by
  refine calG (N := ["_law_tape_here", "_law_prime", "_law_pool", "_law_found", "_law_rows_here", "_law_k", "_law_turn", "_law_one", "_law_other"]) (ps := ["_law_tape_here", "_law_prime", "_law_pool"]) F.d__law_chain (fun _ _ _ _ _ _ us hl => match us, hl with | [_, _, _], _ => rfl) (by decide +kernel) (lenT fun _ _ _ h => lC h.2 (fun _ h => lC h (fun _ => l0))) ?_
  rintro f cdv A outer s H vs Q E hr ⟨x, L, tp, ws, rfl, ok, ⟨pre, ha⟩, k⟩
  have nd := (fnScope_by (N := ["_law_tape_here", "_law_prime", "_law_pool", "_law_found", "_law_rows_here", "_law_k", "_law_turn", "_law_one", "_law_other"]) (P := ["_law_tape_here", "_law_prime", "_law_pool"]) (sc := fnScope (topS 74)) (by decide +kernel)).nd
  have hu := hu_of hr
  have hu0 := hr.units0
  have hu64 := hr.units
  refine ⟨_, (pss_cons (ps_set (i := 3) nd rfl (by first | exact Or.inl rfl | exact Or.inr rfl) (pe_lst pa_nil))
  (pss_cons (ps_set (i := 4) nd rfl (by first | exact Or.inl rfl | exact Or.inr rfl) (pe_lst pa_nil))
  (pss_cons (ps_for PassesOwn.never rfl (pi_range1 rfl F.range (pa_cons (pe_op op_add pe_int (pe_c (c__law_pick F) hr (by decide) rfl (pa_cons (pv 0) (pa_cons pe_int pa_nil)))) pa_nil)) (pg_name (i := 5) nd rfl (by first | exact Or.inl rfl | exact Or.inr rfl)) (pss_cons (ps_for PassesOwn.never rfl (pi_range1 rfl F.range (pa_cons (pe_c (c__law_pick F) hr (by decide) rfl (pa_cons (pv 0) (pa_cons pe_int pa_nil))) pa_nil)) (pg_name (i := 6) nd rfl (by first | exact Or.inl rfl | exact Or.inr rfl)) (pss_cons (ps_par (i := 7) (j := 8) rfl nd rfl rfl (by decide) rfl rfl (pa_cons (pe_ix (kix_list K rfl) (pv 2) (pe_c (c__law_pick F) hr (by decide) rfl (pa_cons (pv 0) (pa_cons (pe_callB (klen K rfl) rfl F.len bt_len (pa_cons (pv 2) pa_nil)) pa_nil))) (fun _ _ => rfl)) (pa_cons (pe_ix (kix_list K rfl) (pv 2) (pe_c (c__law_pick F) hr (by decide) rfl (pa_cons (pv 0) (pa_cons (pe_callB (klen K rfl) rfl F.len bt_len (pa_cons (pv 2) pa_nil)) pa_nil))) (fun _ _ => rfl)) pa_nil)) rfl)
  (pss_one (ps_set (i := 4) nd rfl (by first | exact Or.inl rfl | exact Or.inr rfl) (pe_op op_cat (pv 4) (pe_lst (pa_cons (pe_c (c__law_added F) hr (by decide) rfl (pa_cons (pv 1) (pa_cons (pv 7) (pa_cons (pv 8) (pa_cons (pe_c (c__law_pick F) hr (by decide) rfl (pa_cons (pv 0) (pa_cons pe_int pa_nil))) pa_nil))))) pa_nil)))))))
  (pss_one (ps_expr (pe_bm PySem.F.plainAttrs_list PySem.F.slot_list_append PySem.F.type_list_append mt_append (pv 3) (pa_cons (pv 4) pa_nil))))))
  (pss_one (ps_ret (pv 3)))))), ?_⟩
  obtain ⟨p, n, pool⟩ := x
  obtain ⟨hp, hn, hp0, hp1, hpool⟩ := pre
  have hp : HM.IsP p := hp
  have hn : n ≤ 12 := hn
  have hp0 : 0 < pool.length := hp0
  have hp1 : pool.length ≤ 1000 := hp1
  have p0 := hp.pos
  have p13 : p ≤ 13 := by rcases hp with h | h | h | h | h | h <;> omega
  obtain ⟨_, v1, rfl, rfl, h1'⟩ := a2 ha
  have h1 : rLs rVec pool v1 L := h1'
  have t0 : T1 tp tp := rfl
  refine gSetP ok (Stp.refl ok) fun pf H1 S1 s1 pv1 => ?_
  refine gSet (R := rRows []) ok S1 glst0 fun vr L2 H2 S2 s2 r2 => ?_
  refine gForE (ys := fun n : Int => upto 0 n.toNat) (C := fun n : Int => 1 ≤ n ∧ n ≤ 4) ok S2 (gi_rngE (P := fun n : Int => 1 ≤ n ∧ n ≤ 4) (gaC (gopE0 (Q := fun n : Int => 1 ≤ n ∧ n ≤ 4) (gcI (P := fun i => i = 1) rfl) (gcpT (R := fun m => rPick m) 4 rfl t0 ⟨by decide, by decide⟩ (gaC (gc rfl) ga0)) fun i j e1 e2 => by subst e1; omega) ga0) fun n h => by omega)
    (fun _ i σ' La Ha => ∃ z u1 u2 u3 u4 rows ch acc, σ' = [some (.ref tp), some (.int p), some v1, some (.ref pf), some z, u1, u2, u3, u4] ∧ rRows rows z La ∧ rows.length ≤ 2 * i ∧ (∀ r ∈ rows, HM.IsV p n r) ∧ Prv H La Ha pf (.lst acc) ∧ Pd rRows ch acc La ∧ ch.length = i ∧ ChOk p n 1000 ch ∧ ∀ rs ∈ ch, ∀ r ∈ rs, r ∈ rows) ?_ ?_ ?_
  · intro m hm L3 H3 _ s3
    exact ⟨_, _, _, _, _, [], [], [], rfl, up s3.ll r2, Nat.le_refl _, (fun _ h => (by cases h)), (pv1.step ok s2).step ok s3, trivial, rfl, ⟨(fun _ h => (by cases h)), (fun _ h => (by cases h)), (fun i a b h => (by cases h))⟩, (fun _ h => (by cases h))⟩
  · rintro m hm Lm em i a x' σ' La Ha Lb Hb ha' Sa ea ⟨z, u1, u2, u3, u4, rows, ch, acc, rfl, hz, hl, hv, pva, hd, hcl, hok, hsub⟩ sb hx
    have hi4 : i < 4 := by
      have := (List.getElem?_eq_some_iff.mp ha').1
      rw [upto_len] at this
      omega
    have Sb := Sa.trans sb
    refine gForE (ys := fun n : Int => upto 0 n.toNat) (C := fun n : Int => 0 ≤ n ∧ n < 3) ok Sb (gi_rngE (P := fun n : Int => 0 ≤ n ∧ n < 3) (gaC (gcpT (R := fun m => rPick m) 3 rfl t0 ⟨by decide, by decide⟩ (gaC (gc rfl) ga0)) ga0) fun n h => by omega)
      (fun _ t σ' La Ha => ∃ z u2 u3 u4 rows', σ' = [some (.ref tp), some (.int p), some v1, some (.ref pf), some z, some x', u2, u3, u4] ∧ rRows rows' z La ∧ rows'.length ≤ rows.length + t ∧ (∀ r ∈ rows', HM.IsV p n r) ∧ (∀ r ∈ rows, r ∈ rows') ∧ Prv H La Ha pf (.lst acc)) ?_ ?_ ?_
    · intro m2 hm2 L3 H3 _ s3
      exact ⟨_, _, _, _, rows, rfl, up (sb.ll.trans s3.ll) hz, Nat.le_refl _, hv, fun _ h => h, (pva.step ok sb).step ok s3⟩
    · rintro m2 hm2 Ln en t a2' x2 σ' Lc Hc Ld Hd ha2 Sc ec ⟨z2, w2, w3, w4, rows2, rfl, hz2, hl2, hv2, hs2, pvc⟩ sd hx2
      have ht3 : t < 3 := by
        have := (List.getElem?_eq_some_iff.mp ha2).1
        rw [upto_len] at this
        omega
      have hpl := up (s1.ll.trans (s2.ll.trans (em.trans (ea.trans (sb.ll.trans (en.trans (ec.trans sd.ll))))))) h1
      have dr : ∀ (σ : List (Option V)), σ[0]? = some (some (V.ref tp)) → σ[2]? = some (some v1) → Go (T1 tp) Ld (tOp (rIxL K) (tVar 2) (tCall spPick [] C8.E0 (tCons (tVar 0) (tCons (tCB (fun xs H Q => ∃ p ys, xs = [V.ref p] ∧ (SqL K H p ys ∨ SqT K H p ys) ∧ Q (V.int ys.length) H) (tCons (tVar 2) tNil)) tNil))) σ) (rE (fun a => a ∈ pool) rVec) := fun σ g0 g2 =>
        gixE (m := ((pool.length : Nat) : Int)) (Int.le_refl _) (gv g2 hpl) (gcpT (R := fun m => rPick m) ((pool.length : Nat) : Int) g0 t0 ⟨by omega, by omega⟩ (gaC (glen (gv g2 (sqL hpl)) fun vs L' h => Pd.length h) ga0))
      refine gPar (Ra := rE (fun a => a ∈ pool) rVec) (Rb := rE (fun a => a ∈ pool) rVec) ok (Sc.trans sd) (by exact dr _ rfl rfl) (by exact dr _ rfl rfl) fun y1 y2 L5 H5 S5 s5 ry1 ry2 => ?_
      obtain ⟨o1, ho1, ry1⟩ := ry1
      obtain ⟨o2, ho2, ry2⟩ := ry2
      have ov1 := hpool o1 ho1
      have ov2 := hpool o2 ho2
      have ov1 : HM.IsV p n o1 := ov1
      have ov2 : HM.IsV p n o2 := ov2
      refine gSet1 (R := rLst (aApp (aLs rVec rows2) (aCons (rE (fun r => HM.IsV p n r) rVec) aNil))) ok S5 (gcat (P := aLs rVec rows2) (P' := aCons (rE (fun r => HM.IsV p n r) rVec) aNil) (gv rfl (up (sd.ll.trans s5.ll) hz2)) (glst (gaC ((gcallE (C := fun q : Int × List Int × List Int × Int => q.1 = p ∧ q.2.1 = o1 ∧ q.2.2.1 = o2) (R := fun q : Int × List Int × List Int × Int => rVec (HM.comb q.1 q.2.1 q.2.2.2 q.2.2.1)) (gaC (gv (R := rInt p) rfl rfl) (gaC (gv rfl ry1) (gaC (gv rfl ry2) (gaC (gcpT (R := fun m => rPick m) 2 rfl t0 ⟨by decide, by decide⟩ (gaC (gc rfl) ga0)) ga0)))) fun vs L' e r => by
          obtain ⟨_, _, rfl, rfl, z1, _, rfl, k1, r'⟩ := r
          obtain ⟨z3, _, rfl, k2, ⟨c, hc, rfl⟩⟩ := a2 r'
          exact ⟨(p, o1, o2, c), ⟨rfl, rfl, rfl⟩, ⟨p0, ⟨by show -(2 ^ 64) < c; omega, by show c < 2 ^ 64; omega⟩, by show o1.length ≤ 1000; rw [ov1.len]; omega, by show o2.length = o1.length; rw [ov1.len, ov2.len]⟩, _, _, rfl, rfl, _, _, rfl, k1, _, _, rfl, k2, _, _, rfl, rfl, rfl⟩).imp fun v L' _ ⟨q, ⟨e1, e2, e3⟩, r⟩ => by
            obtain ⟨q1, q2, q3, q4⟩ := q
            obtain rfl : q1 = p := e1
            obtain rfl : q2 = o1 := e2
            obtain rfl : q3 = o2 := e3
            exact ⟨_, HM.comb_isV p0 ov1.len ov2.len, r⟩) ga0) fun vs L' h => by
          have := lC h (fun _ => l0)
          omega) fun vs ws L' h1 h2 => by
            have e1 := Pd.length h1
            have e2 := lC h2 (fun _ => l0)
            omega) fun v6 L6 H6 S6 s6 r6 => ?_
      obtain ⟨q6, vs6, e61, e62, va6, vb6, e63, hva6, hvb6⟩ := r6
      obtain ⟨vn, rfl, rn, hrn, hrr⟩ := a1 hvb6
      subst e63
      refine ⟨L6, S6, ec.trans (sd.ll.trans (s5.ll.trans s6.ll)), v6, _, _, _, rows2 ++ [rn], rfl, ⟨q6, _, e61, e62, Pd.app hva6 ⟨hrr, trivial⟩⟩, by rw [List.length_append, List.length_singleton]; omega, fun r hr => ?_, fun r hr => List.mem_append_left _ (hs2 r hr), ((pvc.step ok sd).step ok s5).step ok s6⟩
      rcases List.mem_append.mp hr with h | h
      · exact hv2 r h
      · rw [List.mem_singleton.mp h]; exact hrn
    · rintro m2 hm2 σ' Lc Hc Sc ec ⟨z2, w2, w3, w4, rows2, rfl, hz2, hl2, hv2, hs2, pvc⟩
      rw [upto_len] at hl2
      have lacc : acc.length = ch.length := Pd.length hd
      refine gApp1 ok Sc rfl pvc (by omega) (gv (R := rRows rows2) rfl hz2) fun v7 L7 H7 S7 e7 r7 pv7 => ?_
      refine ⟨L7, S7, ea.trans (sb.ll.trans (ec.trans e7)), z2, _, _, _, _, rows2, ch ++ [rows2], acc ++ [v7], rfl, up e7 hz2, by omega, hv2, pv7, Pd.app (hd.up (sb.ll.trans (ec.trans e7))) ⟨r7, trivial⟩, by rw [List.length_append, hcl]; rfl, hok.add hv2 (by omega) fun rs hrs r hr => hs2 r (hsub rs hrs r hr), fun rs hrs r hr => ?_⟩
      rcases List.mem_append.mp hrs with h | h
      · exact hs2 r (hsub rs h r hr)
      · rw [List.mem_singleton.mp h] at hr; exact hr
  · rintro m hm σ' La Ha Sa ea ⟨z, u1, u2, u3, u4, rows, ch, acc, rfl, hz, hl, hv, pva, hd, hcl, hok, hsub⟩
    rw [upto_len] at hcl
    exact ⟨_, rfl, k _ _ _ (Sa.pub pva) ⟨ch, ⟨⟨by omega, by omega⟩, hok⟩, pf, acc, rfl, upd_same, Pd.up pva.ex hd⟩⟩
def frames10 : List (Int × Nat) := [(2, 4), (3, 3), (2, 3), (5, 2), (3, 2), (2, 5), (13, 2), (2, 0), (2, 1), (3, 1)]
theorem frames_ok : ∀ q ∈ frames10, (q.1 = 2 ∨ q.1 = 3 ∨ q.1 = 5 ∨ q.1 = 7 ∨ q.1 = 11 ∨ q.1 = 13) ∧ q.2 ≤ 12 ∧ q.1.toNat ^ q.2 ≤ 1000 := by decide
def rFr : Int × Nat → Rep := fun q => rPr (rInt q.1) (rInt (q.2 : Int))
instance {q : Int × Nat} : Gr (rFr q) := inferInstanceAs (Gr (rPr _ _))
section
variable {T : Tap} {L : Hp} {σ : L2.St} {tr : TA}
theorem gaFr {a : Int} {b : Nat} {xs : List (Int × Nat)} (h : Go T L (tr σ) (aLs rFr xs)) : Go T L (tCons (tTup (tCons (tC (.int a)) (tCons (tC (.int (b : Int))) tNil))) tr σ) (aLs rFr ((a, b) :: xs)) := gaL (R := rFr) (gpair (gc rfl) (gc rfl)) h
end
def spPair : Sp := spT (fun _ : Unit => aAnd True aNil) (fun _ => rE (fun c : Prc => c.ok ∧ 0 < c.b.length) rPrc)
theorem c__law_pair (F : Cs K mg) : Cal P w K mg base 3 "_law_pair" (spPair) [] := by
  refine calG (N := ["_law_tape_here", "_law_frames", "_law_prime", "_law_length_here", "_law_pool", "_law_k"]) (ps := ["_law_tape_here"]) F.d__law_pair (fun _ _ _ _ _ _ us hl => match us, hl with | [_], _ => rfl) (by decide +kernel) (lenT fun _ _ _ h => l0 h.2) ?_
  rintro f cdv A outer s H vs Q E hr ⟨x, L, tp, ws, rfl, ok, ⟨pre, ha⟩, k⟩
  have nd := (fnScope_by (N := ["_law_tape_here", "_law_frames", "_law_prime", "_law_length_here", "_law_pool", "_law_k"]) (P := ["_law_tape_here"]) (sc := fnScope (topS 75)) (by decide +kernel)).nd
  have hu := hu_of hr
  have hu0 := hr.units0
  have hu64 := hr.units
  refine ⟨_, (pss_cons (ps_set (i := 1) nd rfl (by first | exact Or.inl rfl | exact Or.inr rfl) (pe_lst (pa_cons (pe_tup (pa_cons pe_int (pa_cons pe_int pa_nil))) (pa_cons (pe_tup (pa_cons pe_int (pa_cons pe_int pa_nil))) (pa_cons (pe_tup (pa_cons pe_int (pa_cons pe_int pa_nil))) (pa_cons (pe_tup (pa_cons pe_int (pa_cons pe_int pa_nil))) (pa_cons (pe_tup (pa_cons pe_int (pa_cons pe_int pa_nil))) (pa_cons (pe_tup (pa_cons pe_int (pa_cons pe_int pa_nil))) (pa_cons (pe_tup (pa_cons pe_int (pa_cons pe_int pa_nil))) (pa_cons (pe_tup (pa_cons pe_int (pa_cons pe_int pa_nil))) (pa_cons (pe_tup (pa_cons pe_int (pa_cons pe_int pa_nil))) (pa_cons (pe_tup (pa_cons pe_int (pa_cons pe_int pa_nil))) pa_nil))))))))))))
  (pss_cons (ps_asg (pe_ix (kix_list K rfl) (pv 1) (pe_c (c__law_pick F) hr (by decide) rfl (pa_cons (pv 0) (pa_cons pe_int pa_nil))) (fun _ _ => rfl)) (pg_tup rfl (pgs_cons (pg_name (i := 2) nd rfl (by first | exact Or.inl rfl | exact Or.inr rfl)) (pgs_cons (pg_name (i := 3) nd rfl (by first | exact Or.inl rfl | exact Or.inr rfl)) pgs_nil))))
  (pss_cons (ps_setLc (i := 4) (own := [("_law_k", 5)]) rfl nd rfl rfl (sw_true rfl rfl rfl (by decide +kernel)) (pi_range1 rfl F.range (pa_cons pe_int pa_nil)) (blkOk_by (N := ["_law_tape_here", "_law_frames", "_law_prime", "_law_length_here", "_law_pool", "_law_k"]) (sc := fnScope (topS 75)) (by decide +kernel)) (fun _ _ _ _ _ => (pg_name (i := 5) nd rfl (Or.inl rfl))) (fun _ _ _ _ _ => pts_nil) (fun _ _ _ _ _ => (pe_c (c__law_vector F) hr (by decide) rfl (pa_cons (pv 0) (pa_cons (pv 2) (pa_cons (pv 3) pa_nil))))))
  (pss_one (ps_ret (pe_tup (pa_cons (pv 2) (pa_cons (pv 3) (pa_cons (pe_c (c__law_chain F) hr (by decide) rfl (pa_cons (pv 0) (pa_cons (pv 2) (pa_cons (pv 4) pa_nil)))) (pa_cons (pe_c (c__law_chain F) hr (by decide) rfl (pa_cons (pv 0) (pa_cons (pv 2) (pa_cons (pv 4) pa_nil)))) pa_nil)))))))))), ?_⟩
  have e0 : ws = [] := ha
  subst e0
  have t0 : T1 tp tp := rfl
  refine gSet (R := rLs rFr frames10) ok (Stp.refl ok) (glst (gaFr (gaFr (gaFr (gaFr (gaFr (gaFr (gaFr (gaFr (gaFr (gaFr ga0L)))))))))) (pd_len (m := 100000) (by decide))) fun v1 L1 H1 S1 s1 r1 => ?_
  refine gAsgG ok S1 (gixE (R := rFr) (xs := frames10) (m := 10) (by decide) (gv rfl r1) (gcpT (R := fun m => rPick m) 10 rfl t0 ⟨by decide, by decide⟩ (gaC (gc rfl) ga0))) fun v2 L2 H2 S2 s2 r2 => ?_
  obtain ⟨⟨p, n⟩, hq, r2⟩ := r2
  obtain ⟨hp, hn, hpn⟩ := frames_ok _ hq
  have hp : HM.IsP p := hp
  have hn : n ≤ 12 := hn
  have p0 := hp.pos
  have p13 : p ≤ 13 := by rcases hp with h | h | h | h | h | h <;> omega
  refine g_pair S2.lh r2 fun w1 w2 hw1 hw2 => ?_
  obtain rfl : w1 = .int p := hw1
  obtain rfl : w2 = .int (n : Int) := hw2
  refine gSet (R := rE (fun xs : List (List Int) => xs.length = 4 ∧ ∀ x ∈ xs, HM.IsV p n x) fun xs => rLs rVec xs) ok S2 ((gchoose (P := fun x : List Int => HM.IsV p n x) (R := rVec) (glc1 (Z := fun _ : Int => rE (fun x : List Int => HM.IsV p n x) rVec) id (gi_rng1 (n := 4) (gaC (gc rfl) ga0) (by decide)) (by decide) (fun _ => rfl) fun a xa L3 ha' e3 hx => gcpT (R := fun q : Int × Nat => rE (fun ns => HM.IsV q.1 q.2 ns) rVec) (p, n) rfl t0 ⟨p0, by show p < 1073741824; omega, by show n ≤ 1000; omega⟩ (gaC (gv rfl rfl) (gaC (gv rfl rfl) ga0)))).imp fun v L' _ ⟨xs, ⟨h1, h2⟩, r⟩ => ⟨xs, ⟨h1.trans (by decide), h2⟩, r⟩) fun v3 L3 H3 S3 s3 r3 => ?_
  obtain ⟨pool, ⟨hl, hv⟩, r3⟩ := r3
  have ch : ∀ {L4 : Hp} {σ : List (Option V)}, Ex L3 L4 → σ[0]? = some (some (V.ref tp)) → σ[2]? = some (some (V.int p)) → σ[4]? = some (some v3) → Go (T1 tp) L4 (tCall spChain [] C8.E0 (tCons (tVar 0) (tCons (tVar 2) (tCons (tVar 4) tNil))) σ) (rE (fun ch => (0 < ch.length ∧ ch.length ≤ 4) ∧ ChOk p n 1000 ch) fun ch => rLs rRows ch) := fun e g0 g2 g4 =>
    gcpT (R := fun q : Int × Nat × List (List Int) => rE (fun ch => (0 < ch.length ∧ ch.length ≤ 4) ∧ ChOk q.1 q.2.1 1000 ch) fun ch => rLs rRows ch) (p, n, pool) g0 t0 ⟨hp, hn, by show 0 < pool.length; omega, by show pool.length ≤ 1000; omega, hv⟩ (gaC (gv g2 rfl) (gaC (gv g4 (up e r3)) ga0))
  refine gEnd ok S3 k ((gtup (gaC (gv (R := rInt p) rfl rfl) (gaC (gv (R := rInt (n : Int)) rfl rfl) (gaC (ch (Evl.Ex.refl _) rfl rfl rfl) (gaC (ch (Evl.Ex.refl _) rfl rfl rfl) ga0)))) fun vs L' h => by
    have := lC h (fun _ h => lC h (fun _ h => lC h (fun _ h => lC h (fun _ => l0))))
    omega).imp fun v L' _ ⟨q, vs, e1, e2, y1, _, e3, k1, y2, _, e4, k2, h⟩ => ?_)
  obtain ⟨y3, y4, e5, ⟨ca, ⟨hca, oka⟩, ka⟩, ⟨cb, ⟨hcb, okb⟩, kb⟩⟩ := a2 h
  exact ⟨⟨p, n, ca, cb⟩, ⟨⟨hp, hn, hpn, oka.vec, okb.vec, oka.len, okb.len, ⟨hca.1, by show ca.length ≤ 20; omega⟩, by show cb.length ≤ 20; omega, oka.grw, okb.grw⟩, hcb.1⟩, q, vs, e1, e2, y1, _, e3, k1, y2, _, e4, k2, y3, _, e5, ka, y4, [], rfl, kb, rfl⟩
def spTerm (d : Nat) : Sp := spT (fun q : Nat × Nat × Nat => aAnd ((0 < q.1 ∧ q.1 ≤ 20 ∧ 0 < q.2.1 ∧ q.2.1 ≤ 20 ∧ 1 ≤ q.2.2 ∧ q.2.2 ≤ 100) ∧ q.2.2 < d) (aCons (rInt (q.1 : Int)) (aCons (rInt (q.2.1 : Int)) (aCons (rInt (q.2.2 : Int)) aNil)))) (fun q => rE (fun u : CW => u.ok q.1 q.2.1 ∧ dep u < q.2.2) rW)
section
variable {K : PySem.W.Frag} {T : Tap} {L : Hp} {σ : L2.St} {tb : TE} {m : Int}
theorem gdraw2 {a b : Str} (hm : m ≤ 2) (hb : Go T L (tb σ) (rPick m)) : Go T L (tOp (rIxL K) (tLst (tCons (tC (.str a)) (tCons (tC (.str b)) tNil))) tb σ) (rE (fun s : Str => s ∈ [a, b]) rStr) :=
  gixE (R := rStr) (xs := [a, b]) (by exact hm) (glst (gaL (R := rStr) (gc rfl) (gaL (R := rStr) (gc rfl) ga0L)) (pd_len (m := 100000) (by show 2 ≤ 100000; decide))) hb
end
theorem c__law_term_0 (F : Cs K mg) : Cal P w K mg base 2 "_law_term" (spTerm 0) [] := by
  refine calG (k := 1) (N := ["_law_tape_here", "_law_first", "_law_second", "_law_most", "_law_sort", "_law_part", "_law_sign"]) (ps := ["_law_tape_here", "_law_first", "_law_second", "_law_most"]) F.d__law_term (fun _ _ _ _ _ _ us hl => match us, hl with | [_, _, _, _], _ => rfl) (by decide +kernel) (lenT fun _ _ _ h => lC h.2 (fun _ h => lC h (fun _ h => lC h (fun _ => l0)))) ?_
  rintro f cdv A outer s H vs Q E hr ⟨x, L, tp, ws, rfl, ok, ⟨pre, ha⟩, k⟩
  exact absurd pre.2 (Nat.not_lt_zero _)
theorem c__law_term_s (F : Cs K mg) (d : Nat) (ih : Cal P w K mg base (2 + d) "_law_term" (spTerm d) []) : Cal P w K mg base (2 + (d + 1)) "_law_term" (spTerm (d + 1)) [] := by
  refine calG (k := 2 + d) (N := ["_law_tape_here", "_law_first", "_law_second", "_law_most", "_law_sort", "_law_part", "_law_sign"]) (ps := ["_law_tape_here", "_law_first", "_law_second", "_law_most"]) F.d__law_term (fun _ _ _ _ _ _ us hl => match us, hl with | [_, _, _, _], _ => rfl) (by decide +kernel) (lenT fun _ _ _ h => lC h.2 (fun _ h => lC h (fun _ h => lC h (fun _ => l0)))) ?_
  rintro f cdv A outer s H vs Q E hr ⟨x, L, tp, ws, rfl, ok, ⟨pre, ha⟩, k⟩
  have nd := (fnScope_by (N := ["_law_tape_here", "_law_first", "_law_second", "_law_most", "_law_sort", "_law_part", "_law_sign"]) (P := ["_law_tape_here", "_law_first", "_law_second", "_law_most"]) (sc := fnScope (topS 80)) (by decide +kernel)).nd
  have hu := hu_of hr
  have hu0 := hr.units0
  have hu64 := hr.units
  refine ⟨_, (pss_cons (ps_if (PW.pt (pw_or (pt_cmpR op_lt (pv 3) pe_int (nomark _)) (pw_or1 (pt_cmpR op_eq (pe_c (c__law_pick F) hr (by omega) rfl (pa_cons (pv 0) (pa_cons pe_int pa_nil))) pe_int (nomark _))))) (pss_cons (ps_set (i := 4) nd rfl (by first | exact Or.inl rfl | exact Or.inr rfl) (pe_c (c__law_pick F) hr (by omega) rfl (pa_cons (pv 0) (pa_cons pe_int pa_nil))))
  (pss_cons (ps_if (pt_cmpR op_gt (pv 4) pe_int (nomark _)) (pss_one (ps_ret (pe_tup (pa_cons (pe_ix (kix_list K rfl) (pe_lst (pa_cons pe_str (pa_cons pe_str pa_nil))) (pe_c (c__law_pick F) hr (by omega) rfl (pa_cons (pv 0) (pa_cons pe_int pa_nil))) (fun _ _ => rfl)) pa_nil)))) pss_nil)
  (pss_one (ps_ret (pe_ifExp (pt_cmpR op_lt (pv 4) pe_int (nomark _)) (pe_tup (pa_cons pe_str (pa_cons (pe_op op_add pe_int (pe_c (c__law_pick F) hr (by omega) rfl (pa_cons (pv 0) (pa_cons (pv 1) pa_nil)))) pa_nil))) (pe_tup (pa_cons pe_str (pa_cons (pe_op op_add pe_int (pe_c (c__law_pick F) hr (by omega) rfl (pa_cons (pv 0) (pa_cons (pv 2) pa_nil)))) pa_nil)))))))) pss_nil)
  (pss_cons (ps_set (i := 5) nd rfl (by first | exact Or.inl rfl | exact Or.inr rfl) (pe_op op_add pe_int (pe_c (c__law_pick F) hr (by omega) rfl (pa_cons (pv 0) (pa_cons (pe_op op_sub (pv 3) pe_int) pa_nil)))))
  (pss_cons (ps_set (i := 6) nd rfl (by first | exact Or.inl rfl | exact Or.inr rfl) (pe_ix (kix_list K rfl) (pe_lst (pa_cons pe_str (pa_cons pe_str pa_nil))) (pe_c (c__law_pick F) hr (by omega) rfl (pa_cons (pv 0) (pa_cons pe_int pa_nil))) (fun _ _ => rfl)))
  (pss_one (ps_ret (pe_tup (pa_cons (pv 6) (pa_cons (pe_c ih hr (Nat.le_refl _) rfl (pa_cons (pv 0) (pa_cons (pv 1) (pa_cons (pv 2) (pa_cons (pv 5) pa_nil))))) (pa_cons (pe_c ih hr (Nat.le_refl _) rfl (pa_cons (pv 0) (pa_cons (pv 1) (pa_cons (pv 2) (pa_cons (pe_op op_sub (pv 3) (pv 5)) pa_nil))))) pa_nil))))))))), ?_⟩
  obtain ⟨m, n, t⟩ := x
  obtain ⟨⟨hm0, hm, hn0, hn, ht0, ht⟩, hd⟩ := pre
  have hm0 : 0 < m := hm0
  have hm : m ≤ 20 := hm
  have hn0 : 0 < n := hn0
  have hn : n ≤ 20 := hn
  have ht0 : 1 ≤ t := ht0
  have ht : t ≤ 100 := ht
  have hd : t < d + 1 := hd
  obtain ⟨_, _, rfl, rfl, h⟩ := ha
  obtain ⟨_, _, rfl, rfl, rfl⟩ := a2 h
  have t0 : T1 tp tp := rfl
  have pick : ∀ {L4 : Hp} {σ : List (Option V)} {tm : TE} (c : Int), 0 < c → c ≤ 100 → σ[0]? = some (some (V.ref tp)) → Go (T1 tp) L4 (tm σ) (rInt c) → Go (T1 tp) L4 (tCall spPick [] C8.E0 (tCons (tVar 0) (tCons tm tNil)) σ) (rPick c) := fun c h0 h1 g0 gm => gcpT (R := fun m => rPick m) c g0 t0 ⟨h0, by omega⟩ (gaC gm ga0)
  refine gWhenR (P := fun b => b = false → decide ((t : Int) < 2) = false) ok (Stp.refl ok) (gorA (gtest (gI0 (i := (t : Int)) (j := 2) (gv rfl rfl) (gc rfl) rfl)) fun _ => geqE (pick 5 (by decide) (by decide) rfl (gc rfl)) (gcI (P := fun _ => True) trivial)) (fun _ L1 H1 S1 s1 => ?_) fun hb L1 H1 S1 s1 => ?_
  · refine gSet ok S1 (pick 9 (by decide) (by decide) rfl (gc rfl)) fun v2 L2 H2 S2 s2 r2 => ?_
    obtain ⟨c, hc, rfl⟩ := r2
    refine gWhenE ok S2 (gtestE (gvI (P := fun _ => True) rfl trivial) (gcI (P := fun _ => True) trivial)) (fun L3 H3 S3 s3 => ?_) fun L3 H3 S3 s3 => ?_
    · refine gEnd ok S3 k ((gtup (gaC (gdraw2 (m := 2) (by decide) (pick 2 (by decide) (by decide) rfl (gc rfl))) ga0) fun vs L' h => by
        have := lC h (fun _ => l0)
        omega).imp fun v L' _ ⟨q, vs, e1, e2, h⟩ => ?_)
      obtain ⟨y, rfl, s', hs', rfl⟩ := a1 h
      rcases List.mem_cons.mp hs' with h | h
      · exact ⟨.zero, ⟨trivial, ht0⟩, q, _, e1, e2, _, _, rfl, by rw [h], rfl⟩
      · exact ⟨.one, ⟨trivial, ht0⟩, q, _, e1, e2, _, _, rfl, by rw [List.mem_singleton.mp h], rfl⟩
    · refine gEnd ok S3 k (gifE (gtestE (gvI (P := fun _ => True) rfl trivial) (gcI (P := fun _ => True) trivial)) ((gpair (Ra := rV (.str "a")) (Rb := rPI fun i => 1 ≤ i ∧ i ≤ (m : Int)) (gc rfl) (gopE0 (gcI (P := fun i => i = 1) rfl) (pick (m : Int) (by omega) (by omega) rfl (gv rfl rfl)) fun i j e h => by subst e; omega)).imp fun v L' _ ⟨q, vs, e1, e2, h⟩ => ?_) ((gpair (Ra := rV (.str "b")) (Rb := rPI fun i => 1 ≤ i ∧ i ≤ (n : Int)) (gc rfl) (gopE0 (gcI (P := fun i => i = 1) rfl) (pick (n : Int) (by omega) (by omega) rfl (gv rfl rfl)) fun i j e h => by subst e; omega)).imp fun v L' _ ⟨q, vs, e1, e2, h⟩ => ?_))
      · obtain ⟨y1, y2, rfl, k1, ⟨i, hi, rfl⟩⟩ := a2 h
        have e3 : i = ((i.toNat : Nat) : Int) := by omega
        exact ⟨.a i.toNat, ⟨⟨by omega, by show i.toNat ≤ m; omega⟩, ht0⟩, q, _, e1, e2, _, _, rfl, k1, _, [], rfl, by rw [← e3], rfl⟩
      · obtain ⟨y1, y2, rfl, k1, ⟨i, hi, rfl⟩⟩ := a2 h
        have e3 : i = ((i.toNat : Nat) : Int) := by omega
        exact ⟨.b i.toNat, ⟨⟨by omega, by show i.toNat ≤ n; omega⟩, ht0⟩, q, _, e1, e2, _, _, rfl, k1, _, [], rfl, by rw [← e3], rfl⟩
  · have ht2 : 2 ≤ t := by have := of_decide_eq_false (hb rfl); omega
    refine gSet (R := rPI fun i => 1 ≤ i ∧ i < (t : Int)) ok S1 (gopE0 (gcI (P := fun i => i = 1) rfl) (pick ((t : Int) - 1) (by omega) (by omega) rfl (gI0 (i := (t : Int)) (j := 1) (gv rfl rfl) (gc rfl) rfl)) fun i j e h => by subst e; omega) fun v2 L2 H2 S2 s2 r2 => ?_
    obtain ⟨c, hc, rfl⟩ := r2
    refine gSet ok S2 (gdraw2 (m := 2) (by decide) (pick 2 (by decide) (by decide) rfl (gc rfl))) fun v3 L3 H3 S3 s3 r3 => ?_
    obtain ⟨sg, hsg, rfl⟩ := r3
    have ec : c = ((c.toNat : Nat) : Int) := by omega
    have ec2 : (t : Int) - c = ((t - c.toNat : Nat) : Int) := by omega
    refine gEnd ok S3 k ((gtup (gaC (gv (R := rStr sg) rfl rfl) (gaC (gcpT (R := fun q : Nat × Nat × Nat => rE (fun u : CW => u.ok q.1 q.2.1 ∧ dep u < q.2.2) rW) (m, n, c.toNat) rfl t0 ⟨⟨hm0, hm, hn0, hn, by show 1 ≤ c.toNat; omega, by show c.toNat ≤ 100; omega⟩, by show c.toNat < d; omega⟩ (gaC (gv rfl rfl) (gaC (gv rfl rfl) (gaC (gv rfl (by rw [← ec])) ga0))))
      (gaC (gcpT (R := fun q : Nat × Nat × Nat => rE (fun u : CW => u.ok q.1 q.2.1 ∧ dep u < q.2.2) rW) (m, n, t - c.toNat) rfl t0 ⟨⟨hm0, hm, hn0, hn, by show 1 ≤ t - c.toNat; omega, by show t - c.toNat ≤ 100; omega⟩, by show t - c.toNat < d; omega⟩ (gaC (gv rfl rfl) (gaC (gv rfl rfl) (gaC (geqI (gI0 (i := (t : Int)) (j := c) (R := rInt ((t : Int) - c)) (gv rfl rfl) (gv rfl rfl) rfl) ec2) ga0)))) ga0))) fun vs L' h => by
        have := lC h (fun _ h => lC h (fun _ h => lC h (fun _ => l0)))
        omega).imp fun v L' _ ⟨q, vs, e1, e2, y1, _, e3, k1, h⟩ => ?_)
    obtain ⟨y2, y3, e4, ⟨u1, ⟨o1, d1⟩, k2⟩, ⟨u2, ⟨o2, d2⟩, k3⟩⟩ := a2 h
    have d1 : dep u1 < c.toNat := d1
    have d2 : dep u2 < t - c.toNat := d2
    rcases List.mem_cons.mp hsg with h | h
    · exact ⟨.plus u1 u2, ⟨⟨o1, o2⟩, by show max (dep u1) (dep u2) + 1 < t; omega⟩, q, vs, e1, e2, y1, _, e3, by rw [show y1 = V.str sg from k1, h], y2, _, e4, k2, y3, [], rfl, k3, rfl⟩
    · exact ⟨.cut u1 u2, ⟨⟨o1, o2⟩, by show max (dep u1) (dep u2) + 1 < t; omega⟩, q, vs, e1, e2, y1, _, e3, by rw [show y1 = V.str sg from k1, List.mem_singleton.mp h], y2, _, e4, k2, y3, [], rfl, k3, rfl⟩
theorem c__law_term (F : Cs K mg) : ∀ d : Nat, Cal P w K mg base (2 + d) "_law_term" (spTerm d) []
  | 0 => c__law_term_0 F
  | d + 1 => c__law_term_s F d (c__law_term F d)
end
end HW
/-! part W16 -/
set_option maxHeartbeats 4000000
/-! Amounts, rows drawn. -/
namespace HV
open PySem PySem.Spec PyProof.Rows L2 HR HW
open Evl (Ex)
section
variable {K : PySem.W.Frag} {T : Tap} {L L0 H0 H L1 H1 : Hp} {σ : L2.St} {ta tb tc te : TE} {R Ra Rb Rc : Rep} {A A' : RepA} {x y v : V} {ι κ μ α : Type} {tz : TS} {D : Ends} {p : Addr} {o : HO}
def hide (L : Hp) (p : Addr) : Hp := fun a => if a = p then none else L a
theorem hide_ne {a : Addr} (h : a ≠ p) : hide L p a = L a := if_neg h
theorem hide_at : hide L p p = none := if_pos rfl
theorem Stp.hide (S : Stp T L0 H0 L H) (hp : H0 p = none) (hl : L0 p = none) : Stp T L0 H0 (HV.hide L p) H :=
  ⟨fun a u e => by
    have : a ≠ p := fun z => by rw [z, hl] at e; cases e
    rw [hide_ne this]; exact S.ll a u e, fun a u e => by
    have : a ≠ p := fun z => by rw [z, hide_at] at e; cases e
    rw [hide_ne this] at e; exact S.lh a u e, S.hh, fun a u e m n => by
    have : a ≠ p := fun z => by rw [z, hp] at e; cases e
    rw [hide_ne this]; exact S.nw a u e m n, S.tp⟩
/-- an expression that looks into an object of our own, its answer no object -/
theorem gOwn {F : Hp → (α → Hp → Prop) → Prop} {P : α → Prop} {Q : α → Hp → Prop} (ok : Ok T L0 H0) (S : Stp T L0 H0 L H) (hp : Prv H0 L H p o) (h : Go T (upd L p o) F (fun x _ => P x)) (k : ∀ x L1 H1, Stp T L0 H0 L1 H1 → Ex L L1 → Prv H0 L1 H1 p o → P x → Q x H1) : F H Q :=
  Go.at ok (S.pub hp) h fun x L1 H1 S1 s1 r => by
    have e1 : L1 p = some o := s1.ll p o upd_same
    have hl0 : L0 p = none := by
      cases e : L0 p with
      | none => rfl
      | some u =>
        have h1 := hp.nl
        rw [S.ll p u e] at h1; cases h1
    refine k x (HV.hide L1 p) H1 (S1.hide hp.st hl0) (fun a u e => ?_) ⟨hp.st, hide_at, S1.lh p o e1⟩ r
    have : a ≠ p := fun z => by rw [z, hp.nl] at e; cases e
    rw [hide_ne this]
    exact s1.ll a u (by rw [upd_ne this]; exact e)
end
end HV
namespace HW
open PySem PySem.Spec PyProof.Rows L2 HR HV C8
open Evl (Ex)
open HM (CW)
section
variable {X : Cx} {k j : Nat} {x : Str} {sp : Sp} {dvs : List V} {p pos : Pos}
theorem pe_c0 (c : Cal X.prog X.w X.K X.mg X.base k x sp dvs) (hr : Room j X.A) (hk : k ≤ j) (hg : Gl X x) (hdb : (x == ("__debug__" : Str)) = false := by decide) : PE X (.Call (.Name x p) [] [] pos) (tCall sp dvs C8.E0 tNil) := by
  obtain ⟨f, fd, ps, ds, F, hm, kp, b, d⟩ := c.ex
  exact pe_call0 F (hr.mono hk) hg hm kp b d C8.pass0 hdb
end
def kinds : List Str := ["", "a", "b", "c", "ab", "ac", "bc", "abc", "plane"]
/-- numbers by texts -/
def amK (l : List Str) (f : Str → Int) : List (Key × V) := l.map fun k => ((.inr k : Key), V.int (f k))
theorem am_val {f : Str → Int} : ∀ {l : List Str} {c : Str}, c ∈ l → valV (amK l f) (.inr c) = some (V.int (f c))
  | d :: l, c, h => by
    by_cases e : d = c
    · subst e; exact valV_pos rfl
    · have hm : c ∈ l := by
        rcases List.mem_cons.mp h with h | h
        · exact absurd h.symm e
        · exact h
      exact (valV_neg (p := ((.inr d : Key), V.int (f d))) (r := amK l f) (fun z => e (Sum.inr.inj z))).trans (am_val hm)
theorem am_none {f : Str → Int} : ∀ {l : List Str} {c : Str}, c ∉ l → valV (amK l f) (.inr c) = none
  | [], _, _ => rfl
  | d :: l, c, h => (valV_neg (p := ((.inr d : Key), V.int (f d))) (r := amK l f) (fun z => h (by rw [Sum.inr.inj z]; exact List.mem_cons_self))).trans (am_none fun hm => h (List.mem_cons_of_mem _ hm))
theorem am_put {f : Str → Int} {l : List Str} {c : Str} (h : c ∈ l) (i : Int) : putK (amK l f) (.inr c) (V.int i) = amK l fun d => if d = c then i else f d := by
  have ha : ((amK l f).any fun kv => decide (kv.1 = (.inr c : Key))) = true := by rw [valV_any, am_val h]; rfl
  unfold putK
  rw [if_pos ha]
  unfold amK
  rw [List.map_map]
  apply List.map_congr_left
  intro d _
  show (if (Sum.inr d : Key) = Sum.inr c then ((Sum.inr d : Key), V.int i) else ((Sum.inr d : Key), V.int (f d))) = ((Sum.inr d : Key), V.int (if d = c then i else f d))
  by_cases e : d = c
  · rw [if_pos (by rw [e]), if_pos e]
  · rw [if_neg (fun z => e (Sum.inr.inj z)), if_neg e]
theorem am_new {f : Str → Int} {l : List Str} {c : Str} (h : c ∉ l) : putK (amK l f) (.inr c) (V.int (f c)) = amK (l ++ [c]) f := by
  rw [putK_new _ (am_none h)]
  unfold amK
  rw [List.map_append]; rfl
def rAm (f : Str → Int) : Rep := fun v L => ∃ d, v = .ref d ∧ L d = some (.dK (amK kinds f))
instance {f : Str → Int} : Gr (rAm f) := ⟨fun v H H' e ⟨d, h1, h2⟩ => ⟨d, h1, e d _ h2⟩⟩
/-- the dimensions that the amounts fill -/
def tot (f : Str → Int) : Int := (kinds.map f).sum + f "plane"
theorem tot_eq (f : Str → Int) : tot f = f "" + (f "a" + (f "b" + (f "c" + (f "ab" + (f "ac" + (f "bc" + (f "abc" + (f "plane" + 0)))))))) + f "plane" := rfl
theorem sum_out {f : Str → Int} {c : Str} {i : Int} : ∀ {l : List Str}, c ∉ l → (l.map fun d => if d = c then i else f d).sum = (l.map f).sum
  | [], _ => rfl
  | d :: l, h => by
    have e : ¬ d = c := fun z => h (by rw [z]; exact List.mem_cons_self)
    simp only [List.map_cons, List.sum_cons, if_neg e, sum_out fun hm => h (List.mem_cons_of_mem _ hm)]
theorem sum_in {f : Str → Int} {c : Str} {i : Int} : ∀ {l : List Str}, l.Nodup → c ∈ l → (l.map fun d => if d = c then i else f d).sum = (l.map f).sum + (i - f c)
  | d :: l, hn, h => by
    have hn' := List.nodup_cons.mp hn
    by_cases e : d = c
    · subst e
      simp only [List.map_cons, List.sum_cons, ↓reduceIte, sum_out hn'.1]
      omega
    · have hm : c ∈ l := by
        rcases List.mem_cons.mp h with h | h
        · exact absurd h.symm e
        · exact h
      simp only [List.map_cons, List.sum_cons, if_neg e, sum_in hn'.2 hm]
      omega
theorem kinds_nodup : kinds.Nodup := by decide +kernel
theorem tot_bump {f : Str → Int} {c : Str} (h : c ∈ kinds) : tot (fun d => if d = c then f c + 1 else f d) = tot f + if c = "plane" then 2 else 1 := by
  unfold tot
  rw [sum_in kinds_nodup h]
  by_cases e : c = "plane"
  · subst e
    simp only [↓reduceIte]
    omega
  · have e' : ¬ ("plane" : Str) = c := fun z => e z.symm
    simp only [if_neg e, if_neg e']
    omega
section
variable {P : Program} {w : World} {K : PySem.W.Frag} {mg : Str → Option Value} {base : Heap}
def spKinds : Sp := spR (fun _ : Unit => aAnd True aNil) (fun _ => rLs rStr kinds)
theorem gaStr {T : Tap} {L : Hp} {σ : List (Option V)} {tr : TA} {a : Str} {xs : List Str} (h : Go T L (tr σ) (aLs rStr xs)) : Go T L (tCons (tC (.str a)) tr σ) (aLs rStr (a :: xs)) := gaL (R := rStr) (gc rfl) h
theorem c__law_kinds (F : Cs K mg) : Cal P w K mg base 1 "_law_kinds" (spKinds) [] := by
  refine calG (N := []) (ps := []) F.d__law_kinds (fun _ _ _ _ _ _ us hl => match us, hl with | [], _ => rfl) (by decide +kernel) (len1 fun _ _ _ h => l0 h.2) ?_
  rintro f cdv A outer s H vs Q E hr ⟨x, L, e, ⟨pre, ha⟩, k⟩
  have nd := (fnScope_by (N := []) (P := []) (sc := fnScope (topS 66)) (by decide +kernel)).nd
  have ok := ok0 e
  have hu := hu_of hr
  have hu0 := hr.units0
  have hu64 := hr.units
  refine ⟨_, (pss_one (ps_ret (pe_lst (pa_cons pe_str (pa_cons pe_str (pa_cons pe_str (pa_cons pe_str (pa_cons pe_str (pa_cons pe_str (pa_cons pe_str (pa_cons pe_str (pa_cons pe_str pa_nil)))))))))))), ?_⟩
  have e0 : vs = [] := ha
  subst e0
  exact gEnd ok (Stp.refl ok) k (glst (gaStr (gaStr (gaStr (gaStr (gaStr (gaStr (gaStr (gaStr (gaStr ga0L))))))))) (pd_len (m := 100000) (by decide)))
def spMoved : Sp := spR (fun q : Int × Nat × List Int × Nat × Nat × Int => aAnd (0 < q.1 ∧ q.2.2.1.length = q.2.1 ∧ q.2.1 ≤ 1000 ∧ q.2.2.2.1 < q.2.1 ∧ q.2.2.2.2.1 < q.2.1 ∧ (-(2 ^ 64) < q.2.2.2.2.2 ∧ q.2.2.2.2.2 < 2 ^ 64)) (aCons (rInt q.1) (aCons (rVec q.2.2.1) (aCons (rInt (q.2.2.2.1 : Int)) (aCons (rInt (q.2.2.2.2.1 : Int)) (aCons (rInt q.2.2.2.2.2) aNil)))))) (fun q => rE (fun ns : List Int => ns.length = q.2.1) rVec)
theorem c__law_moved (F : Cs K mg) : Cal P w K mg base 1 "_law_moved" (spMoved) [] := by
  refine calG (N := ["_law_prime", "_law_items", "_law_place", "_law_other", "_law_times", "_law_found"]) (ps := ["_law_prime", "_law_items", "_law_place", "_law_other", "_law_times"]) F.d__law_moved (fun _ _ _ _ _ _ us hl => match us, hl with | [_, _, _, _, _], _ => rfl) (by decide +kernel) (len1 fun _ _ _ h => lC h.2 (fun _ h => lC h (fun _ h => lC h (fun _ h => lC h (fun _ h => lC h (fun _ => l0)))))) ?_
  rintro f cdv A outer s H vs Q E hr ⟨x, L, e, ⟨pre, ha⟩, k⟩
  have nd := (fnScope_by (N := ["_law_prime", "_law_items", "_law_place", "_law_other", "_law_times", "_law_found"]) (P := ["_law_prime", "_law_items", "_law_place", "_law_other", "_law_times"]) (sc := fnScope (topS 71)) (by decide +kernel)).nd
  have ok := ok0 e
  have hu := hu_of hr
  have hu0 := hr.units0
  have hu64 := hr.units
  refine ⟨_, (pss_cons (ps_set (i := 5) nd rfl (by first | exact Or.inl rfl | exact Or.inr rfl) (pe_callTy (klistof K rfl) rfl F.list bt_list (pa_cons (pv 1) pa_nil)))
  (pss_cons (ps_asg (pe_op op_mod (pe_callTy call_int1 rfl F.int bt_int (pa_cons (pe_op op_add (pe_ix (kix_list K rfl) (pv 5) (pv 2) (fun _ _ => rfl)) (pe_op op_mul (pv 4) (pe_ix (kix_tup K rfl) (pv 1) (pv 3) (fun _ _ => rfl)))) pa_nil)) (pv 0)) (pg_sub (pv 5) (pv 2) set_list))
  (pss_one (ps_ret (pe_callTy (ktuple K rfl) rfl F.tuple bt_tuple (pa_cons (pv 5) pa_nil)))))), ?_⟩
  obtain ⟨p, n, u, a, b, c⟩ := x
  obtain ⟨h0, hl, hn, ha', hb', hc⟩ := pre
  have h0 : 0 < p := h0
  have hl : u.length = n := hl
  have hn : n ≤ 1000 := hn
  have ha' : a < n := ha'
  have hb' : b < n := hb'
  obtain ⟨_, _, rfl, rfl, v1, _, rfl, h1', _, _, rfl, rfl, h⟩ := ha
  obtain ⟨_, _, rfl, rfl, rfl⟩ := a2 h
  have h1 : rVec u v1 L := h1'
  obtain ⟨q1, e1, e2⟩ := id h1
  refine ⟨_, rfl, q1, u.map V.int, by rw [e1], Or.inr (SqT.of (e q1 _ e2)), fun f0 hf => ?_⟩
  have S0 := Stp.refl ok
  have S1 := S0.add ok hf (o := HO.lst (u.map V.int))
  have p1 := Prv.new ok S0 hf (o := HO.lst (u.map V.int))
  have ep : Ex L (upd L f0 (.lst (u.map V.int))) := p1.ex
  refine gOwn (P := fun v : V => ∃ i : Int, v = .int i) ok S1 p1 (F := fun H Q => (tOp (rI (fun _ j => 0 < j) fun i j => V.int (i % j)) (tCB (fun xs H Q => (∃ i, xs = [V.int i] ∧ Q (V.int i) H) ∨ ∃ k, xs = [V.bl k] ∧ Q (V.int (if k = true then 1 else 0)) H) (tCons (tOp (rI0 fun i j => V.int (i + j)) (tOp (rIxL K) (tVar 5) (tVar 2)) (tOp (rI CMul fun i j => V.int (i * j)) (tVar 4) (tOp (rIxT K) (tVar 1) (tVar 3)))) tNil)) (tVar 0)) [some (.int p), some v1, some (.int (a : Int)), some (.int (b : Int)), some (.int c), some (.ref f0)] H Q)
    ((gI (i := HM.gz u a + c * HM.gz u b) (j := p) (R := rInt ((HM.gz u a + c * HM.gz u b) % p)) (gint (gI0 (i := HM.gz u a) (j := c * HM.gz u b) (gixLs (R := rInt) (xs := u) (i := a) (gv rfl ⟨f0, _, rfl, upd_same, Pd.ofInts⟩) (gv rfl rfl) (by rw [List.getElem?_eq_getElem (by omega), HM.gz_lt (by omega)])) (gI (i := c) (j := HM.gz u b) (gv rfl rfl) (gixG (gv rfl (up ep h1)) (gv rfl rfl) (by omega)) (Or.inl hc) rfl) rfl)) (gv rfl rfl) h0 rfl).imp fun v _ _ r => ⟨_, r⟩) fun v L2 H2 S2 e2' p2 hv => ?_
  obtain ⟨i, rfl⟩ := hv
  refine ⟨_, rfl, _, rfl, f0, u.map V.int, (a : Int), a, rfl, rfl, p2.at_, (show ixN (u.map V.int).length (a : Int) = some a from Evl.ixN_nat (by rw [List.length_map]; omega)), ?_⟩
  have S3 := Stp.chg ok S2 p2 (o' := HO.lst ((u.map V.int).set a (.int i)))
  have p3 : Prv H L2 _ f0 (.lst ((u.map V.int).set a (.int i))) := p2.set
  have e3 : (u.map V.int).set a (.int i) = (u.set a i).map V.int := (List.map_set ..).symm
  rw [e3] at p3 S3 ⊢
  refine gEnd ok (S3.pub p3) k (gE (u.set a i) (by rw [List.length_set]; exact hl) (gvec (gtupof (gv rfl (show rLs rInt (u.set a i) (.ref f0) _ from ⟨f0, _, rfl, upd_same, Pd.ofInts⟩)))))
def more : List Str := ["plane", "plane", "none"]
def spAmounts : Sp := spT (fun m : Nat => aAnd (m ≤ 12) (aCons (rInt (m : Int)) aNil)) (fun m => rE (fun f : Str → Int => (∀ k, 0 ≤ f k) ∧ tot f ≤ (m : Int)) rAm)
theorem tot_zero : tot (fun _ => 0) = 0 := by decide +kernel
theorem c__law_amounts (F : Cs K mg) : Cal P w K mg base 2 "_law_amounts" (spAmounts) [] := by
  refine calG (N := ["_law_tape_here", "_law_most", "_law_found", "_law_kind", "_law_left", "_law_turn", "_law_size_here"]) (ps := ["_law_tape_here", "_law_most"]) F.d__law_amounts (fun _ _ _ _ _ _ us hl => match us, hl with | [_, _], _ => rfl) (by decide +kernel) (lenT fun _ _ _ h => lC h.2 (fun _ => l0)) ?_
  rintro f cdv A outer s H vs Q E hr ⟨x, L, tp, ws, rfl, ok, ⟨pre, ha⟩, k⟩
  have nd := (fnScope_by (N := ["_law_tape_here", "_law_most", "_law_found", "_law_kind", "_law_left", "_law_turn", "_law_size_here"]) (P := ["_law_tape_here", "_law_most"]) (sc := fnScope (topS 67)) (by decide +kernel)).nd
  have hu := hu_of hr
  have hu0 := hr.units0
  have hu64 := hr.units
  refine ⟨_, (pss_cons (ps_set (i := 2) nd rfl (by first | exact Or.inl rfl | exact Or.inr rfl) pe_dnewK)
  (pss_cons (ps_for PassesOwn.never rfl (kpi_list K rfl (pe_c0 (c__law_kinds F) hr (by decide) rfl)) (pg_name (i := 3) nd rfl (by first | exact Or.inl rfl | exact Or.inr rfl)) (pss_one (ps_dput hu (pv 2) (pv 3) pe_int rfl)))
  (pss_cons (ps_set (i := 4) nd rfl (by first | exact Or.inl rfl | exact Or.inr rfl) (pv 1))
  (pss_cons (ps_for PassesOwn.never rfl (pi_range1 rfl F.range (pa_cons (pv 1) pa_nil)) (pg_name (i := 5) nd rfl (by first | exact Or.inl rfl | exact Or.inr rfl)) (pss_cons (ps_set (i := 3) nd rfl (by first | exact Or.inl rfl | exact Or.inr rfl) (pe_ix (kix_list K rfl) (pe_op op_cat (pe_c0 (c__law_kinds F) hr (by decide) rfl) (pe_lst (pa_cons pe_str (pa_cons pe_str (pa_cons pe_str pa_nil))))) (pe_c (c__law_pick F) hr (by decide) rfl (pa_cons (pv 0) (pa_cons pe_int pa_nil))) (fun _ _ => rfl)))
  (pss_cons (ps_set (i := 6) nd rfl (by first | exact Or.inl rfl | exact Or.inr rfl) (pe_ifExp (pt_cmpR op_eq (pv 3) pe_str (nomark _)) pe_int pe_int))
  (pss_one (ps_if (PW.pt (pw_and (pt_cmpR op_ne (pv 3) pe_str (nomark _)) (pw_and1 (pt_cmpR op_le (pv 6) (pv 4) (nomark _))))) (pss_cons (ps_dput hu (pv 2) (pv 3) (pe_op op_add (pe_dget hu (pv 2) (pv 3) (fun _ _ => rfl)) pe_int) rfl)
  (pss_one (ps_set (i := 4) nd rfl (by first | exact Or.inl rfl | exact Or.inr rfl) (pe_op op_sub (pv 4) (pv 6))))) pss_nil)))))
  (pss_one (ps_ret (pv 2))))))), ?_⟩
  have hm : x ≤ 12 := pre
  obtain ⟨_, rfl, rfl⟩ := a1 ha
  have t0 : T1 tp tp := rfl
  intro d hd
  have S0 := Stp.refl ok
  have S1 := S0.add ok hd (o := HO.dK [])
  have p1 := Prv.new ok S0 hd (o := HO.dK [])
  have kd : ∀ {L4 : Hp} {σ : List (Option V)}, Go (T1 tp) L4 (tCall spKinds [] C8.E0 tNil σ) (rLs rStr kinds) := fun {L4 σ} => gcp (R := fun _ : Unit => rLs rStr kinds) () trivial ga0
  refine gForS ok S1 (gi_list (Y := rStr) kd) (fun i σ' La Ha => (∃ u, σ' = [some (.ref tp), some (.int (x : Int)), some (.ref d), u, none, none, none]) ∧ Prv H La Ha d (.dK (amK (kinds.take i) fun _ => 0))) ?_ ?_ ?_
  · intro L2 H2 _ s2
    exact ⟨⟨_, rfl⟩, p1.step ok s2⟩
  · rintro Lm em i c x' σ' La Ha Lb Hb hc' Sa ea ⟨⟨u, rfl⟩, pa⟩ sb hx
    obtain rfl : x' = .str c := hx
    have pb := pa.step ok sb
    have hnew : c ∉ kinds.take i := fun hm => by
      obtain ⟨j, hj, hje⟩ := List.getElem_of_mem hm
      rw [List.length_take] at hj
      rw [List.getElem_take] at hje
      obtain ⟨h3, h4⟩ := List.getElem?_eq_some_iff.mp hc'
      have : j = i := (List.getElem_inj kinds_nodup).mp (hje.trans h4.symm)
      omega
    refine ⟨_, rfl, _, rfl, d, _, rfl, DPut.k (k := .inr c) pb.at_ (by unfold amK; rw [List.length_map, List.length_take]; exact Evl.sz_lt (by have : kinds.length = 9 := rfl; omega)), ?_⟩
    refine ⟨Lb, Stp.chg ok (Sa.trans sb) pb, ea.trans sb.ll, ⟨_, rfl⟩, ?_⟩
    rw [take_at hc', ← am_new (f := fun _ => 0) hnew]
    exact pb.set
  · rintro σ' La Ha Sa ea ⟨⟨u, rfl⟩, pa⟩
    rw [List.take_length] at pa
    refine gSet (R := rInt (x : Int)) ok Sa (gv rfl rfl) fun v2 L2 H2 S2 s2 r2 => ?_
    obtain rfl : v2 = .int (x : Int) := r2
    refine gForS ok S2 (gi_rng1 (n := (x : Int)) (gaC (gv rfl rfl) ga0) (by omega)) (fun i σ' La Ha => ∃ u1 u2 u3 f l, σ' = [some (.ref tp), some (.int (x : Int)), some (.ref d), u1, some (.int l), u2, u3] ∧ Prv H La Ha d (.dK (amK kinds f)) ∧ (∀ k, 0 ≤ f k) ∧ tot f + l = (x : Int) ∧ 0 ≤ l) ?_ ?_ ?_
    · intro L3 H3 _ s3
      exact ⟨_, _, _, fun _ => 0, (x : Int), rfl, (pa.step ok s2).step ok s3, fun _ => Int.le_refl _, by rw [tot_zero]; omega, by omega⟩
    · rintro Lm em i a x' σ' Lc Hc Lb Hb ha' Sc ec ⟨u1, u2, u3, f, l, rfl, pc, hf, hl, hl0⟩ sb hx
      refine gSet (R := rE (fun s : Str => s ∈ kinds ++ more) rStr) ok (Sc.trans sb) (gixE (R := rStr) (xs := kinds ++ more) (m := 12) (by decide) (gcatL (R := rStr) kd (ys := more) (glst (gaStr (gaStr (gaStr ga0L))) (pd_len (m := 100000) (by show 3 ≤ 100000; decide))) (by decide)) (gcpT (R := fun m => rPick m) 12 rfl t0 ⟨by decide, by decide⟩ (gaC (gc rfl) ga0))) fun v3 L3 H3 S3 s3 r3 => ?_
      obtain ⟨c, hcm, rfl⟩ := r3
      refine gSet (R := rInt (if c = "plane" then 2 else 1)) ok S3 (gif (b := decide (V.str c = V.str "plane")) (gtest (geq (gv rfl rfl) (gc rfl) rfl rfl)) (fun h => gc (by rw [if_pos (by injection of_decide_eq_true h)])) fun h => gc (by rw [if_neg (fun z => of_decide_eq_false h (by rw [z]))])) fun v4 L4 H4 S4 s4 r4 => ?_
      obtain rfl : v4 = .int (if c = "plane" then 2 else 1) := r4
      have pv4 := (((pc.step ok sb).step ok s3).step ok s4)
      have ex4 := ec.trans (sb.ll.trans (s3.ll.trans s4.ll))
      refine gIfS ok S4 (b := !decide (V.str c = V.str "none") && decide ((if c = "plane" then (2 : Int) else 1) ≤ l)) (gand (gtest (gne (gv rfl rfl) (gc rfl) rfl rfl)) fun _ => gtest (gI0 (i := if c = "plane" then (2 : Int) else 1) (j := l) (gv rfl rfl) (gv rfl rfl) rfl)) (fun hb L5 H5 S5 s5 => ?_) fun hb L5 H5 S5 s5 => ?_
      · rw [Bool.and_eq_true] at hb
        have hcn : c ≠ "none" := fun z => by
          rw [z] at hb
          simp at hb
        have hle : (if c = "plane" then (2 : Int) else 1) ≤ l := of_decide_eq_true hb.2
        have hck : c ∈ kinds := by
          rcases List.mem_append.mp hcm with h | h
          · exact h
          · unfold more at h
            simp only [List.mem_cons, List.mem_nil_iff, or_false] at h
            rcases h with h | h | h
            · rw [h]; decide +kernel
            · rw [h]; decide +kernel
            · exact absurd h hcn
        have pv5 := pv4.step ok s5
        have hput := am_put (f := f) hck (f c + 1)
        refine ⟨_, rfl, _, rfl, d, V.int (f c), rfl, ?_, ?_⟩
        · have := DGet.k (k := .inr c) pv5.at_
          rwa [am_val hck] at this
        · refine ⟨f c, 1, rfl, rfl, _, rfl, _, rfl, d, _, rfl, DPut.k (k := .inr c) pv5.at_ (by unfold amK; rw [List.length_map]; exact Evl.sz_lt (by decide)), ?_⟩
          have S6 := Stp.chg ok S5 pv5 (o' := HO.dK (putK (amK kinds f) (.inr c) (V.int (f c + 1))))
          have p6 : Prv H L5 _ d (.dK (putK (amK kinds f) (.inr c) (V.int (f c + 1)))) := pv5.set
          refine gSet1 (R := rInt (l - if c = "plane" then 2 else 1)) ok S6 (gI0 (i := l) (j := if c = "plane" then (2 : Int) else 1) (gv rfl rfl) (gv rfl rfl) rfl) fun v7 L7 H7 S7 s7 r7 => ?_
          obtain rfl : v7 = .int (l - if c = "plane" then 2 else 1) := r7
          refine ⟨L7, S7, ex4.trans (s5.ll.trans s7.ll), _, _, _, fun d => if d = c then f c + 1 else f d, l - (if c = "plane" then 2 else 1), rfl, ?_, fun k => ?_, ?_, by omega⟩
          · rw [← hput]; exact p6.step ok s7
          · show 0 ≤ if k = c then f c + 1 else f k
            have := hf k
            have := hf c
            split <;> omega
          · rw [tot_bump hck]
            omega
      · exact ⟨L5, S5, ex4.trans s5.ll, _, _, _, f, l, rfl, pv4.step ok s5, hf, hl, hl0⟩
    · rintro σ' Lc Hc Sc ec ⟨u1, u2, u3, f, l, rfl, pc, hf, hl, hl0⟩
      exact ⟨_, rfl, k _ _ _ (Sc.pub pc) ⟨f, ⟨hf, by omega⟩, d, rfl, upd_same⟩⟩
end
end HW
/-! part W17 -/
set_option maxHeartbeats 4000000
/-! The triple's rows drawn. -/
namespace HW
open PySem PySem.Spec PyProof.Rows L2 HR HV C8
open Evl (Ex)
open HM (CW)
section
variable {P : Program} {w : World} {K : PySem.W.Frag} {mg : Str → Option Value} {base : Heap}
def spLength : Sp := spR (fun f : Str → Int => aAnd True (aCons (rAm f) aNil)) (fun f => rInt (tot f))
theorem c__law_length (F : Cs K mg) : Cal P w K mg base 1 "_law_length" (spLength) [] := by
  refine calG (N := ["_law_amounts_here", "_law_kind"]) (ps := ["_law_amounts_here"]) F.d__law_length (fun _ _ _ _ _ _ us hl => match us, hl with | [_], _ => rfl) (by decide +kernel) (len1 fun _ _ _ h => lC h.2 (fun _ => l0)) ?_
  rintro f cdv A outer s H vs Q E hr ⟨x, L, e, ⟨pre, ha⟩, k⟩
  have nd := (fnScope_by (N := ["_law_amounts_here", "_law_kind"]) (P := ["_law_amounts_here"]) (sc := fnScope (topS 68)) (by decide +kernel)).nd
  have ok := ok0 e
  have hu := hu_of hr
  have hu0 := hr.units0
  have hu64 := hr.units
  refine ⟨_, (pss_one (ps_ret (pe_op op_add (pe_callB (ksum K rfl rfl) rfl F.sum bt_sum (pa_cons (pe_lock (pe_lc (own := [("_law_kind", 1)]) rfl nd (pi_keys (pv 0)) (blkOk_by (N := ["_law_amounts_here", "_law_kind"]) (sc := fnScope (topS 68)) (by decide +kernel)) (fun _ _ _ _ _ => (pg_name (i := 1) nd rfl (Or.inl rfl))) (fun _ _ _ _ _ => pts_nil) (fun _ _ _ _ _ => (pe_dget hu (pv 0) (pv 1) (fun _ _ => rfl))))) pa_nil)) (pe_dget hu (pv 0) pe_str (fun _ _ => rfl))))), ?_⟩
  obtain ⟨_, rfl, d, rfl, hd⟩ := a1 ha
  have hd : L d = some (.dK (amK kinds x)) := hd
  have hd' := e d _ hd
  refine ⟨d, .dK (amK kinds x), hd', trivial, fun od => ?_⟩
  refine ⟨_, rfl, d, od, rfl, Or.inl ⟨amK kinds x, upd_same, fun D hD => ?_⟩⟩
  have hDd : D ≠ d := fun z => by rw [z, upd_same] at hD; cases hD
  have hD0 : H D = none := by rw [upd_ne hDd] at hD; exact hD
  have hlen : (amK kinds x).length = 9 := by unfold amK; rw [List.length_map]; rfl
  refine lc_it walk_keys (fun i H' => H' = upd (upd H D (.lst ((kinds.take i).map fun c => V.int (x c)))) d (.frz od (.dK (amK kinds x)))) (upd_swap (Ne.symm hDd)) (fun i H' _ h => by rw [h]; exact upd_same) ?_ ?_
  · rintro i x' Ha Hb hi rfl ⟨rfl, kq, vq, hkq, rfl⟩
    obtain ⟨c, hc, rfl⟩ : ∃ c, kinds[i]? = some c ∧ kq = .inr c := by
      unfold amK at hkq
      rw [List.getElem?_map] at hkq
      cases ho : kinds[i]? with
      | none => rw [ho] at hkq; cases hkq
      | some old =>
        rw [ho] at hkq
        injection hkq with h
        injection h with h3 h4
        exact ⟨old, rfl, h3.symm⟩
    refine ⟨rfl, ?_⟩
    show (tDGet (tVar 0) (tVar 1)) _ _ _
    refine ⟨_, rfl, _, rfl, d, V.int (x c), rfl, Or.inl ⟨_, .inr c, Or.inr ⟨od, upd_same⟩, rfl, (am_val (List.mem_of_getElem? hc)).symm⟩, (kinds.take i).map fun c => V.int (x c), by rw [upd_ne hDd, upd_same], ?_, ?_⟩
    · rw [List.length_map, List.length_take]
      exact Evl.sz_lt (by have : kinds.length = 9 := rfl; omega)
    · rw [take_at hc, List.map_append, upd_swap (Ne.symm hDd), upd_upd]; rfl
  · rintro H' rfl
    refine ⟨upd_same, ?_⟩
    rw [upd_upd, upd_id (by rw [upd_ne (Ne.symm hDd)]; exact hd'), hlen]
    refine ⟨D, kinds.map x, rfl, SqL.of (by rw [upd_same, List.map_map]; rfl), ?_⟩
    refine ⟨_, rfl, d, V.int (x "plane"), rfl, ?_, ?_⟩
    · have := DGet.k (H := upd H D (.lst ((kinds.take 9).map fun c => V.int (x c)))) (a := d) (kvs := amK kinds x) (k := .inr "plane") (by rw [upd_ne (Ne.symm hDd)]; exact hd')
      rwa [am_val (by decide +kernel)] at this
    · exact ⟨_, _, rfl, rfl, k _ L _ (Stp.grow ok (Evl.Ex.new hD0)) rfl⟩
end
/-- a list of vectors of our own -/
def LV (n m : Nat) (H0 La Ha : Hp) (p : Addr) : Prop := ∃ acc xs, Prv H0 La Ha p (.lst acc) ∧ Pd rVec xs acc La ∧ (∀ r ∈ xs, r.length = n) ∧ xs.length ≤ m
structure D3 (n m : Nat) (H0 La Ha : Hp) (d px py pz : Addr) : Prop where
  pd : Prv H0 La Ha d (.dK [(.inr "a", .ref px), (.inr "b", .ref py), (.inr "c", .ref pz)])
  x : LV n m H0 La Ha px
  y : LV n m H0 La Ha py
  z : LV n m H0 La Ha pz
  xy : px ≠ py
  xz : px ≠ pz
  yz : py ≠ pz
section
variable {T : Tap} {L L0 H0 H L1 H1 : Hp} {n m m' : Nat} {p q d px py pz : Addr} {o : HO}
theorem LV.step (ok : Ok T L0 H0) (h : LV n m H0 L H p) (s : Stp T L H L1 H1) : LV n m H0 L1 H1 p := let ⟨a, xs, h1, h2, h3, h4⟩ := h; ⟨a, xs, h1.step ok s, h2.up s.ll, h3, h4⟩
theorem LV.weak (h : LV n m H0 L H p) (hm : m ≤ m') : LV n m' H0 L H p := let ⟨a, xs, h1, h2, h3, h4⟩ := h; ⟨a, xs, h1, h2, h3, by omega⟩
theorem LV.other (h : LV n m H0 L H p) (hn : p ≠ q) : LV n m H0 L (upd H q o) p := let ⟨a, xs, h1, h2, h3, h4⟩ := h; ⟨a, xs, h1.other hn, h2, h3, h4⟩
theorem D3.step (ok : Ok T L0 H0) (h : D3 n m H0 L H d px py pz) (s : Stp T L H L1 H1) : D3 n m H0 L1 H1 d px py pz := ⟨h.pd.step ok s, h.x.step ok s, h.y.step ok s, h.z.step ok s, h.xy, h.xz, h.yz⟩
theorem D3.weak (h : D3 n m H0 L H d px py pz) (hm : m ≤ m') : D3 n m' H0 L H d px py pz := ⟨h.pd, h.x.weak hm, h.y.weak hm, h.z.weak hm, h.xy, h.xz, h.yz⟩
theorem LV.ne (h : LV n m H0 L H p) (hd : Prv H0 L H d (.dK o')) : p ≠ d := fun z => by
  obtain ⟨a, _, h1, _⟩ := h
  have := h1.at_
  rw [z, hd.at_] at this; cases this
theorem ne_key {a b : Str} (h : a ≠ b) : ¬ (Sum.inr a : Key) = Sum.inr b := fun z => h (Sum.inr.inj z)
/-- found[hand].append(e) -/
theorem gAppD {K : PySem.W.Frag} {σ : L2.St} {D : Ends} {th te : TE} {j : Nat} {hand : Str} (hh : hand = "a" ∨ hand = "b" ∨ hand = "c") (ok : Ok T L0 H0) (S : Stp T L0 H0 L H) (hd : D3 n m H0 L H d px py pz) (hm : m ≤ 5000) (hj : σ[j]? = some (some (.ref d))) (hth : ∀ H (Q : VK), Q (.str hand) H → th σ H Q)
    (h : Go T L (te σ) (rE (fun r : List Int => r.length = n) rVec)) (k : ∀ L1 H1, Stp T L0 H0 L1 H1 → Ex L L1 → D3 n (m + 1) H0 L1 H1 d px py pz → D.nx σ H1) : tDrop (tBM K "list" rAppend (tDGet (tVar j) th) (tCons te tNil)) D σ H := by
  obtain ⟨q, hq, hg⟩ : ∃ q, (q = px ∨ q = py ∨ q = pz) ∧ valV [((.inr "a" : Key), V.ref px), (.inr "b", .ref py), (.inr "c", .ref pz)] (.inr hand) = some (.ref q) := by
    rcases hh with rfl | rfl | rfl
    · exact ⟨px, Or.inl rfl, valV_pos rfl⟩
    · exact ⟨py, Or.inr (Or.inl rfl), (valV_neg (ne_key (a := "a") (b := "b") (by decide +kernel))).trans (valV_pos rfl)⟩
    · exact ⟨pz, Or.inr (Or.inr rfl), (valV_neg (ne_key (a := "a") (b := "c") (by decide +kernel))).trans ((valV_neg (ne_key (a := "b") (b := "c") (by decide +kernel))).trans (valV_pos rfl))⟩
  have hlv : LV n m H0 L H q := by
    rcases hq with rfl | rfl | rfl
    · exact hd.x
    · exact hd.y
    · exact hd.z
  obtain ⟨acc, xs, p1, p2, p3, p4⟩ := hlv
  have hget := DGet.k (k := .inr hand) hd.pd.at_
  rw [hg] at hget
  refine ⟨_, hj, hth _ _ ⟨d, .ref q, rfl, hget, Or.inl ⟨rfl, acc, SqL.of p1.at_⟩, ?_⟩⟩
  refine h H (S.ok ok) _ fun v L1 H1 s1 r1 => ?_
  obtain ⟨r, hr, hv⟩ := r1
  have S1 := S.trans s1
  have q1 := p1.step ok s1
  have d1 := hd.step ok s1
  have hl : acc.length = xs.length := Pd.length p2
  refine ⟨q, acc, v, rfl, rfl, q1.at_, Evl.sz_lt (by omega), k L1 _ (Stp.chg ok S1 q1) s1.ll ?_⟩
  have new : LV n (m + 1) H0 L1 (upd H1 q (.lst (acc ++ [v]))) q := ⟨_, xs ++ [r], q1.set, Pd.app (p2.up s1.ll) ⟨hv, trivial⟩, fun r' hr' => by
    rcases List.mem_append.mp hr' with h | h
    · exact p3 r' h
    · rw [List.mem_singleton.mp h]; exact hr, by rw [List.length_append, List.length_singleton]; omega⟩
  have hqd : d ≠ q := fun z => by
    have := q1.at_
    rw [← z, d1.pd.at_] at this; cases this
  have d2 := d1.weak (Nat.le_succ m)
  rcases hq with rfl | rfl | rfl
  · exact ⟨d1.pd.other hqd, new, d2.y.other (Ne.symm hd.xy), d2.z.other (Ne.symm hd.xz), hd.xy, hd.xz, hd.yz⟩
  · exact ⟨d1.pd.other hqd, d2.x.other hd.xy, new, d2.z.other (Ne.symm hd.yz), hd.xy, hd.xz, hd.yz⟩
  · exact ⟨d1.pd.other hqd, d2.x.other hd.xz, d2.y.other hd.yz, new, hd.xy, hd.xz, hd.yz⟩
end
/-- three lists of vectors, told -/
structure R3 (n m : Nat) (L : Hp) (vx vy vz : V) : Prop where
  x : ∃ xs, rLs rVec xs vx L ∧ (∀ r ∈ xs, r.length = n) ∧ xs.length ≤ m
  y : ∃ xs, rLs rVec xs vy L ∧ (∀ r ∈ xs, r.length = n) ∧ xs.length ≤ m
  z : ∃ xs, rLs rVec xs vz L ∧ (∀ r ∈ xs, r.length = n) ∧ xs.length ≤ m
theorem R3.up {n m : Nat} {L L' : Hp} {vx vy vz : V} (e : Ex L L') (h : R3 n m L vx vy vz) : R3 n m L' vx vy vz :=
  ⟨let ⟨a, b, c⟩ := h.x; ⟨a, HV.up e b, c⟩, let ⟨a, b, c⟩ := h.y; ⟨a, HV.up e b, c⟩, let ⟨a, b, c⟩ := h.z; ⟨a, HV.up e b, c⟩⟩
def abc (vx vy vz : V) : List (Key × V) := [(.inr "a", vx), (.inr "b", vy), (.inr "c", vz)]
def rD3 (n m : Nat) : Rep := fun v L => ∃ d vx vy vz, v = .ref d ∧ L d = some (.dK (abc vx vy vz)) ∧ R3 n m L vx vy vz
instance {n m : Nat} : Gr (rD3 n m) := ⟨fun v H H' e ⟨d, vx, vy, vz, h1, h2, h3⟩ => ⟨d, vx, vy, vz, h1, e d _ h2, h3.up e⟩⟩
section
variable {T : Tap} {L L0 H0 H : Hp} {σ : L2.St} {ta tb te : TE} {D : Ends} {tz : TS} {v : V}
theorem gSeqT {t u : TS} (h : t { D with nx := u D } σ H) : tSeq t u D σ H := h
theorem abc_get {vx vy vz : V} {hand : Str} (hh : hand = "a" ∨ hand = "b" ∨ hand = "c") : ∃ v, (v = vx ∨ v = vy ∨ v = vz) ∧ valV (abc vx vy vz) (.inr hand) = some v := by
  rcases hh with rfl | rfl | rfl
  · exact ⟨vx, Or.inl rfl, valV_pos rfl⟩
  · exact ⟨vy, Or.inr (Or.inl rfl), (valV_neg (ne_key (a := "a") (b := "b") (by decide +kernel))).trans (valV_pos rfl)⟩
  · exact ⟨vz, Or.inr (Or.inr rfl), (valV_neg (ne_key (a := "a") (b := "c") (by decide +kernel))).trans ((valV_neg (ne_key (a := "b") (b := "c") (by decide +kernel))).trans (valV_pos rfl))⟩
theorem abc_put {vx vy vz u : V} {hand : Str} (hh : hand = "a" ∨ hand = "b" ∨ hand = "c") : ∃ x y z, putK (abc vx vy vz) (.inr hand) u = abc x y z ∧ (x = vx ∨ x = u) ∧ (y = vy ∨ y = u) ∧ (z = vz ∨ z = u) := by
  have n1 := ne_key (a := "a") (b := "b") (by decide +kernel)
  have n2 := ne_key (a := "a") (b := "c") (by decide +kernel)
  have n3 := ne_key (a := "b") (b := "c") (by decide +kernel)
  have ha : ((abc vx vy vz).any fun kv => decide (kv.1 = (.inr hand : Key))) = true := by
    obtain ⟨v, _, h⟩ := abc_get (vx := vx) (vy := vy) (vz := vz) hh
    rw [valV_any, h]; rfl
  unfold putK
  rw [if_pos ha]
  rcases hh with rfl | rfl | rfl
  · refine ⟨u, vy, vz, ?_, Or.inr rfl, Or.inl rfl, Or.inl rfl⟩
    simp only [abc, List.map_cons, List.map_nil, if_neg (Ne.symm n1), if_neg (Ne.symm n2), ↓reduceIte]
  · refine ⟨vx, u, vz, ?_, Or.inl rfl, Or.inr rfl, Or.inl rfl⟩
    simp only [abc, List.map_cons, List.map_nil, if_neg n1, if_neg (Ne.symm n3), ↓reduceIte]
  · refine ⟨vx, vy, u, ?_, Or.inl rfl, Or.inl rfl, Or.inr rfl⟩
    simp only [abc, List.map_cons, List.map_nil, if_neg n2, if_neg n3, ↓reduceIte]
/-- d[hand], d told -/
theorem gHand {n m : Nat} {hand : Str} (hh : hand = "a" ∨ hand = "b" ∨ hand = "c") (ha : Go T L (ta σ) (rD3 n m)) (hb : Go T L (tb σ) (rV (.str hand))) : Go T L (tDGet ta tb σ) (rE (fun xs : List (List Int) => (∀ r ∈ xs, r.length = n) ∧ xs.length ≤ m) fun xs => rLs rVec xs) :=
  fun H ok Q q => ha H ok _ fun x L1 H1 s1 ⟨d, vx, vy, vz, e1, e2, r3⟩ => Go.mono s1.ll hb H1 (s1.ok ok) _ fun y L2 H2 s2 e3 => by
    obtain rfl : y = .str hand := e3
    subst e1
    obtain ⟨v, hv, hg⟩ := abc_get (vx := vx) (vy := vy) (vz := vz) hh
    have r3' := r3.up s2.ll
    refine ⟨d, v, rfl, ?_, q _ L2 H2 (s1.trans s2) ?_⟩
    · have := DGet.k (k := .inr hand) (s2.lh d _ (s2.ll d _ e2))
      rwa [hg] at this
    · rcases hv with rfl | rfl | rfl
      · obtain ⟨xs, h1, h2⟩ := r3'.x; exact ⟨xs, h2, h1⟩
      · obtain ⟨xs, h1, h2⟩ := r3'.y; exact ⟨xs, h2, h1⟩
      · obtain ⟨xs, h1, h2⟩ := r3'.z; exact ⟨xs, h2, h1⟩
end
section
variable {P : Program} {w : World} {K : PySem.W.Frag} {mg : Str → Option Value} {base : Heap}
def spRows : Sp := spR (fun f : Str → Int => aAnd ((∀ k, 0 ≤ f k) ∧ tot f ≤ 12) (aCons (rAm f) aNil)) (fun f => rD3 (tot f).toNat 1000)
theorem gAmGet {T : Tap} {L : Hp} {σ : L2.St} {ta tb : TE} {f : Str → Int} {c : Str} (hc : c ∈ kinds) (ha : Go T L (ta σ) (rAm f)) (hb : Go T L (tb σ) (rV (.str c))) : Go T L (tDGet ta tb σ) (rInt (f c)) :=
  fun H ok Q q => ha H ok _ fun x L1 H1 s1 ⟨a, e1, e2⟩ => Go.mono s1.ll hb H1 (s1.ok ok) _ fun y L2 H2 s2 e3 => by
    obtain rfl : y = .str c := e3
    subst e1
    refine ⟨a, V.int (f c), rfl, ?_, q _ L2 H2 (s1.trans s2) rfl⟩
    have := DGet.k (k := .inr c) (s2.lh a _ (s2.ll a _ e2))
    rwa [am_val hc] at this
theorem merge_abc {x y z : V} : mergeK [] ([(.inr "a", x), (.inr "b", y), (.inr "c", z)] : List (Key × V)) = abc x y z := by
  have n1 := ne_key (a := "a") (b := "b") (by decide +kernel)
  have n2 := ne_key (a := "a") (b := "c") (by decide +kernel)
  have n3 := ne_key (a := "b") (b := "c") (by decide +kernel)
  simp only [mergeK, List.foldl_cons, List.foldl_nil, putK, List.any_nil, List.any_cons, Bool.or_false, decide_eq_true_eq, if_neg n1, if_neg n2, if_neg n3, n1, n2, n3, decide_false, Bool.false_eq_true, Bool.false_or, ↓reduceIte, List.nil_append, List.cons_append, abc]
/-- name = {'a': [], 'b': [], 'c': []}, our own -/
theorem gDisp3 {T : Tap} {L0 H0 L H : Hp} {σ : L2.St} {tz : TS} {D : Ends} {i n : Nat} (ok : Ok T L0 H0) (S : Stp T L0 H0 L H)
    (k : ∀ d px py pz H1, Stp T L0 H0 L H1 → Stp T L H L H1 → D3 n 0 H0 L H1 d px py pz → tz D (σ.set i (some (.ref d))) H1) :
    tSeq (tAsg (tDisp [(tC (.str "a"), tLst tNil), (tC (.str "b"), tLst tNil), (tC (.str "c"), tLst tNil)]) (gName i)) tz D σ H := by
  intro d hd
  have S1 := S.add ok hd (o := HO.dK [])
  have pd := Prv.new ok S hd (o := HO.dK [])
  refine ⟨Evl.sz_of (by decide), fun px hx => ?_⟩
  have S2 := S1.add ok hx (o := HO.lst [])
  have p2 := Prv.new ok S1 hx (o := HO.lst [])
  have pd2 := pd.grow (Evl.Ex.new hx (o := HO.lst []))
  refine ⟨Evl.sz_of (by decide), fun py hy => ?_⟩
  have S3 := S2.add ok hy (o := HO.lst [])
  have p3 := Prv.new ok S2 hy (o := HO.lst [])
  have p23 := p2.grow (Evl.Ex.new hy (o := HO.lst []))
  have pd3 := pd2.grow (Evl.Ex.new hy (o := HO.lst []))
  refine ⟨Evl.sz_of (by decide), fun pz hz => ?_⟩
  have S4 := S3.add ok hz (o := HO.lst [])
  have p4 := Prv.new ok S3 hz (o := HO.lst [])
  have p24 := p23.grow (Evl.Ex.new hz (o := HO.lst []))
  have p34 := p3.grow (Evl.Ex.new hz (o := HO.lst []))
  have pd4 := pd3.grow (Evl.Ex.new hz (o := HO.lst []))
  have ne : ∀ {a b : Addr} {Hh : Hp} {o : HO}, Prv H0 L Hh a o → Hh b = none → a ≠ b := fun h h' z => by
    have := h.at_
    rw [z, h'] at this; cases this
  refine ⟨pd4.at_, [(.inr "a", .ref px), (.inr "b", .ref py), (.inr "c", .ref pz)], rfl, (by show 3 ≤ 15; decide), ?_⟩
  rw [merge_abc]
  have S5 := Stp.chg ok S4 (o' := HO.dK (abc (.ref px) (.ref py) (.ref pz))) pd4
  have hxd := Ne.symm (ne pd hx)
  have hyd := Ne.symm (ne pd2 hy)
  have hzd := Ne.symm (ne pd3 hz)
  have lv : ∀ {p : Addr} {Hh : Hp}, Prv H0 L Hh p (.lst []) → LV n 0 H0 L Hh p := fun h => ⟨[], [], h, trivial, fun _ h => (List.not_mem_nil h).elim, Nat.le_refl _⟩
  have nl : H d = none := hd
  refine k d px py pz _ S5 ?_ ⟨pd4.set, lv (p24.other hxd), lv (p34.other hyd), lv (p4.other hzd), ne p2 hy, ne p23 hz, ne p3 hz⟩
  have okh := S.ok ok
  have T1 := (Stp.refl okh).add okh hd (o := HO.dK [])
  have T2 := (T1.add okh hx (o := HO.lst [])).add okh hy (o := HO.lst [])
  have T4 := T2.add okh hz (o := HO.lst [])
  exact Stp.chg okh T4 ((((Prv.new okh (Stp.refl okh) hd (o := HO.dK [])).grow (Evl.Ex.new hx)).grow (Evl.Ex.new hy)).grow (Evl.Ex.new hz))
/-- our own dict of lists, told -/
theorem D3.pub {T : Tap} {L0 H0 L H : Hp} {n m : Nat} {d px py pz : Addr} (S : Stp T L0 H0 L H) (h : D3 n m H0 L H d px py pz) : ∃ L1, Stp T L0 H0 L1 H ∧ Ex L L1 ∧ rD3 n m (.ref d) L1 := by
  obtain ⟨pd, ⟨ax, xs, x1, x2, x3, x4⟩, ⟨ay, ys, y1, y2, y3, y4⟩, ⟨az, zs, z1, z2, z3, z4⟩, hxy, hxz, hyz⟩ := h
  have dif : ∀ {a b : Addr} {o o' : HO}, Prv H0 L H a o → Prv H0 L H b o' → o ≠ o' → a ≠ b := fun h h' n z => n (by
    have := h.at_
    rw [z, h'.at_] at this
    exact (Option.some.inj this).symm)
  have hdx := dif pd x1 (fun z => nomatch z)
  have hdy := dif pd y1 (fun z => nomatch z)
  have hdz := dif pd z1 (fun z => nomatch z)
  have S1 := S.pub x1
  have e1 : Ex L (upd L px (.lst ax)) := Evl.Ex.new x1.nl
  have ny : (upd L px (.lst ax)) py = none := by rw [upd_ne (Ne.symm hxy)]; exact y1.nl
  have S2 := S1.pub (p := py) (o := .lst ay) ⟨y1.st, ny, y1.at_⟩
  have e2 : Ex (upd L px (.lst ax)) (upd (upd L px (.lst ax)) py (.lst ay)) := Evl.Ex.new ny
  have nz : (upd (upd L px (.lst ax)) py (.lst ay)) pz = none := by rw [upd_ne (Ne.symm hyz), upd_ne (Ne.symm hxz)]; exact z1.nl
  have S3 := S2.pub (p := pz) (o := .lst az) ⟨z1.st, nz, z1.at_⟩
  have e3 : Ex _ (upd (upd (upd L px (.lst ax)) py (.lst ay)) pz (.lst az)) := Evl.Ex.new nz
  have nd : (upd (upd (upd L px (.lst ax)) py (.lst ay)) pz (.lst az)) d = none := by rw [upd_ne hdz, upd_ne hdy, upd_ne hdx]; exact pd.nl
  have S4 := S3.pub (p := d) (o := .dK _) ⟨pd.st, nd, pd.at_⟩
  have e4 := Evl.Ex.new nd (o := .dK [(.inr "a", .ref px), (.inr "b", .ref py), (.inr "c", .ref pz)])
  have E := ((e1.trans e2).trans e3).trans e4
  refine ⟨_, S4, E, d, _, _, _, rfl, upd_same, ?_⟩
  refine ⟨⟨xs, ⟨px, ax, rfl, ?_, x2.up E⟩, x3, x4⟩, ⟨ys, ⟨py, ay, rfl, ?_, y2.up E⟩, y3, y4⟩, ⟨zs, ⟨pz, az, rfl, ?_, z2.up E⟩, z3, z4⟩⟩
  · exact ((e2.trans e3).trans e4) _ _ upd_same
  · exact (e3.trans e4) _ _ upd_same
  · exact e4 _ _ upd_same
theorem f_le {f : Str → Int} (h0 : ∀ k, 0 ≤ f k) (h : tot f ≤ 12) {c : Str} (hc : c ∈ kinds) : f c ≤ 12 := by
  have hs : ∀ l : List Str, c ∈ l → f c ≤ (l.map f).sum := fun l => by
    induction l with
    | nil => intro h; cases h
    | cons a l ih =>
      intro hm
      have hn : ∀ l : List Str, 0 ≤ (l.map f).sum := fun l => by
        induction l with
        | nil => exact Int.le_refl _
        | cons b l ih2 =>
          have := h0 b
          simp only [List.map_cons, List.sum_cons]; omega
      rcases List.mem_cons.mp hm with h | h
      · subst h
        have := hn l
        simp only [List.map_cons, List.sum_cons]; omega
      · have := ih h
        have := h0 a
        simp only [List.map_cons, List.sum_cons]; omega
  have := hs kinds hc
  have := h0 "plane"
  unfold tot at h
  omega
theorem kind_signs : ∀ c ∈ kinds, c ≠ "plane" → c.cps.toList.length ≤ 3 ∧ ∀ s ∈ c.cps.toList, (⟨#[s]⟩ : Str) = "a" ∨ (⟨#[s]⟩ : Str) = "b" ∨ (⟨#[s]⟩ : Str) = "c" := by decide +kernel
theorem c__law_rows (F : Cs K mg) : Cal P w K mg base 2 "_law_rows" (spRows) [] := by
  refine calG (N := ["_law_amounts_here", "_law_length_here", "_law_found", "_law_place", "_law_kind", "_law_turn", "_law_one", "_law_other", "_law_hand", "_law_k"]) (ps := ["_law_amounts_here"]) F.d__law_rows (fun _ _ _ _ _ _ us hl => match us, hl with | [_], _ => rfl) (by decide +kernel) (len1 fun _ _ _ h => lC h.2 (fun _ => l0)) ?_
  rintro f cdv A outer s H vs Q E hr ⟨x, L, e, ⟨pre, ha⟩, k⟩
  have nd := (fnScope_by (N := ["_law_amounts_here", "_law_length_here", "_law_found", "_law_place", "_law_kind", "_law_turn", "_law_one", "_law_other", "_law_hand", "_law_k"]) (P := ["_law_amounts_here"]) (sc := fnScope (topS 69)) (by decide +kernel)).nd
  have ok := ok0 e
  have hu := hu_of hr
  have hu0 := hr.units0
  have hu64 := hr.units
  refine ⟨_, (pss_cons (ps_set (i := 1) nd rfl (by first | exact Or.inl rfl | exact Or.inr rfl) (pe_c (c__law_length F) hr (by decide) rfl (pa_cons (pv 0) pa_nil)))
  (pss_cons (ps_set (i := 2) nd rfl (by first | exact Or.inl rfl | exact Or.inr rfl) (pe_disp (pps_cons pe_str (pe_lst pa_nil) (pps_cons pe_str (pe_lst pa_nil) (pps_cons pe_str (pe_lst pa_nil) pps_nil))) rfl rfl (by intro z; cases z) (by decide)))
  (pss_cons (ps_set (i := 3) nd rfl (by first | exact Or.inl rfl | exact Or.inr rfl) pe_int)
  (pss_cons (ps_for PassesOwn.never rfl (kpi_list K rfl (pe_c0 (c__law_kinds F) hr (by decide) rfl)) (pg_name (i := 4) nd rfl (by first | exact Or.inl rfl | exact Or.inr rfl)) (pss_one (ps_for PassesOwn.never rfl (pi_range1 rfl F.range (pa_cons (pe_dget hu (pv 0) (pv 4) (fun _ _ => rfl)) pa_nil)) (pg_name (i := 5) nd rfl (by first | exact Or.inl rfl | exact Or.inr rfl)) (pss_cons (ps_if (pt_cmpR op_eq (pv 4) pe_str (nomark _)) (pss_cons (ps_asg (pe_tup (pa_cons (pe_c (c__law_unit F) hr (by decide) rfl (pa_cons (pv 1) (pa_cons (pv 3) pa_nil))) (pa_cons (pe_c (c__law_unit F) hr (by decide) rfl (pa_cons (pv 1) (pa_cons (pe_op op_add (pv 3) pe_int) pa_nil))) pa_nil))) (pg_tup (n := 2) rfl (pgs_cons (pg_name (i := 6) nd rfl (by first | exact Or.inl rfl | exact Or.inr rfl)) (pgs_cons (pg_name (i := 7) nd rfl (by first | exact Or.inl rfl | exact Or.inr rfl)) pgs_nil))))
  (pss_cons (ps_expr (pe_bm PySem.F.plainAttrs_list PySem.F.slot_list_append PySem.F.type_list_append mt_append (pe_dget hu (pv 2) pe_str (fun _ _ => rfl)) (pa_cons (pv 6) pa_nil)))
  (pss_cons (ps_expr (pe_bm PySem.F.plainAttrs_list PySem.F.slot_list_append PySem.F.type_list_append mt_append (pe_dget hu (pv 2) pe_str (fun _ _ => rfl)) (pa_cons (pv 7) pa_nil)))
  (pss_cons (ps_expr (pe_bm PySem.F.plainAttrs_list PySem.F.slot_list_append PySem.F.type_list_append mt_append (pe_dget hu (pv 2) pe_str (fun _ _ => rfl)) (pa_cons (pe_callTy (ktuple K rfl) rfl F.tuple bt_tuple (pa_cons (pe_lc (own := [("_law_k", 9)]) rfl nd (pi_range1 rfl F.range (pa_cons (pv 1) pa_nil)) (blkOk_by (N := ["_law_amounts_here", "_law_length_here", "_law_found", "_law_place", "_law_kind", "_law_turn", "_law_one", "_law_other", "_law_hand", "_law_k"]) (sc := fnScope (topS 69)) (by decide +kernel)) (fun _ _ _ _ _ => (pg_name (i := 9) nd rfl (Or.inl rfl))) (fun _ _ _ _ _ => pts_nil) (fun _ _ _ _ _ => (pe_op op_add (pe_ix (kix_tup K rfl) (pv 6) (pv 9) (fun _ _ => rfl)) (pe_ix (kix_tup K rfl) (pv 7) (pv 9) (fun _ _ => rfl))))) pa_nil)) pa_nil)))
  (pss_one (ps_set (i := 3) nd rfl (by first | exact Or.inl rfl | exact Or.inr rfl) (pe_op op_add (pv 3) pe_int))))))) (pss_one (ps_for PassesOwn.never rfl (pi_str (pv 4)) (pg_name (i := 8) nd rfl (by first | exact Or.inl rfl | exact Or.inr rfl)) (pss_one (ps_expr (pe_bm PySem.F.plainAttrs_list PySem.F.slot_list_append PySem.F.type_list_append mt_append (pe_dget hu (pv 2) (pv 8) (fun _ _ => rfl)) (pa_cons (pe_c (c__law_unit F) hr (by decide) rfl (pa_cons (pv 1) (pa_cons (pv 3) pa_nil))) pa_nil)))))))
  (pss_one (ps_set (i := 3) nd rfl (by first | exact Or.inl rfl | exact Or.inr rfl) (pe_op op_add (pv 3) pe_int)))))))
  (pss_one (ps_ret (pv 2))))))), ?_⟩
  obtain ⟨hp0, hp12⟩ := pre
  obtain ⟨v0, rfl, h0⟩ := a1 ha
  have ht0 : 0 ≤ tot x := by
    rw [tot_eq]
    have := hp0 ""; have := hp0 "a"; have := hp0 "b"; have := hp0 "c"; have := hp0 "ab"; have := hp0 "ac"; have := hp0 "bc"; have := hp0 "abc"; have := hp0 "plane"
    omega
  obtain ⟨n, hn⟩ : ∃ n : Nat, tot x = n := ⟨(tot x).toNat, by omega⟩
  have hnn : (tot x).toNat = n := by omega
  have hn12 : n ≤ 12 := by omega
  have k : ∀ v L' H', Stp T0 L H L' H' → rD3 (tot x).toNat 1000 v L' → Q v H' := k
  rw [hnn] at k
  refine gSet ok (Stp.refl ok) (gcp (R := fun f => rInt (tot f)) x trivial (gaC (gv rfl h0) ga0)) fun v1 L1 H1 S1 s1 r1 => ?_
  obtain rfl : v1 = .int (tot x) := r1
  rw [hn]
  refine gDisp3 (n := n) ok S1 fun d px py pz H2 S2 s2 hd => ?_
  refine gSet ok S2 (gc (R := rInt ((0 : Nat) : Int)) rfl) fun v3 L3 H3 S3 s3 r3 => ?_
  obtain rfl : v3 = .int ((0 : Nat) : Int) := r3
  have hd3 := hd.step ok s3
  have h03 : rAm x v0 L3 := up S3.ll h0
  refine gForS ok S3 (gi_list (Y := rStr) (gcp (R := fun _ : Unit => rLs rStr kinds) () trivial ga0)) (fun i σ' La Ha => (∃ (q : Nat) (u4 u5 u6 u7 u8 u9 : Option V), σ' = [some v0, some (.int (n : Int)), some (.ref d), some (.int (q : Int)), u4, u5, u6, u7, u8, u9]) ∧ D3 n (36 * i) H La Ha d px py pz) ?_ ?_ ?_
  · intro L4 H4 _ s4
    exact ⟨⟨0, _, _, _, _, _, _, rfl⟩, hd3.step ok s4⟩
  · rintro Lm em i c x' σ' La Ha Lb Hb hc Sa ea ⟨⟨q, u4, u5, u6, u7, u8, u9, rfl⟩, da⟩ sb hx
    obtain rfl : x' = .str c := hx
    have hck := List.mem_of_getElem? hc
    have hi9 : i < 9 := (List.getElem?_eq_some_iff.mp hc).1
    have Sb := Sa.trans sb
    have db := da.step ok sb
    have hc12 := f_le hp0 hp12 hck
    have hc0 := hp0 c
    have h0b : rAm x v0 Lb := up sb.ll (up (em.trans ea) h03)
    refine gfor ok Sb (gi_rng1 (n := x c) (gaC (gAmGet hck (gv rfl h0b) (gv rfl rfl)) ga0) (by omega)) (fun j σ' La Ha => (∃ (q : Nat) (u5 u6 u7 u8 u9 : Option V), σ' = [some v0, some (.int (n : Int)), some (.ref d), some (.int (q : Int)), some (.str c), u5, u6, u7, u8, u9]) ∧ D3 n (36 * i + 3 * j) H La Ha d px py pz) ?_ ?_ ?_
    · intro L5 H5 _ s5
      exact ⟨⟨_, _, _, _, _, _, rfl⟩, db.step ok s5⟩
    · rintro Ln en j a xa σ' Lc Hc Ld Hd haj Sc ec ⟨⟨q', u5', u6', u7', u8', u9', rfl⟩, dc⟩ sd hxa
      have hj : j < (x c).toNat := by
        have := (List.getElem?_eq_some_iff.mp haj).1
        rwa [upto_len] at this
      have Sd := Sc.trans sd
      have dd := dc.step ok sd
      have fin : ∀ (q2 : Nat) (w5 w6 w7 w8 w9 : Option V) (D' : Ends) (L9 H9 : Hp), Stp T0 L H L9 H9 → Ex Ln L9 → D3 n (36 * i + 3 * j + 3) H L9 H9 d px py pz → D'.nx = Nxt T0 L H Ln (fun j σ' La Ha => (∃ (q : Nat) (u5 u6 u7 u8 u9 : Option V), σ' = [some v0, some (.int (n : Int)), some (.ref d), some (.int (q : Int)), some (.str c), u5, u6, u7, u8, u9]) ∧ D3 n (36 * i + 3 * j) H La Ha d px py pz) (j + 1) →
          tAsg (tOp (rI0 fun i j => .int (i + j)) (tVar 3) (tC (.int 1))) (gName 3) D' [some v0, some (.int (n : Int)), some (.ref d), some (.int (q2 : Int)), some (.str c), w5, w6, w7, w8, w9] H9 := fun q2 w5 w6 w7 w8 w9 D' L9 H9 S9 e9 d9 eD => by
        refine gSet1 ok S9 (gI0 (gv rfl rfl) (gc rfl) rfl (R := rInt ((q2 + 1 : Nat) : Int))) fun v9 La9 Ha9 Sa9 sa9 r9 => ?_
        obtain rfl : v9 = .int ((q2 + 1 : Nat) : Int) := r9
        rw [eD]
        exact ⟨La9, Sa9, e9.trans sa9.ll, ⟨_, _, _, _, _, _, rfl⟩, d9.step ok sa9⟩
      refine gIf (b := decide (V.str c = V.str "plane")) ok Sd (gtest (geq (gv rfl rfl) (gc rfl) rfl rfl)) (fun hb L5 H5 S5 s5 => ?_) (fun hb L5 H5 S5 s5 => ?_)
      · refine gAsgG (R := rPr (rVec (HM.unitV n q')) (rVec (HM.unitV n (q' + 1)))) ok S5 (gpair (gcp (R := fun q : Nat × Nat => rVec (HM.unitV q.1 q.2)) (n, q') (by show n ≤ 1000; omega) (gaC (gv rfl rfl) (gaC (gv rfl rfl) ga0))) (gcp (R := fun q : Nat × Nat => rVec (HM.unitV q.1 q.2)) (n, q' + 1) (by show n ≤ 1000; omega) (gaC (gv rfl rfl) (gaC (gI0 (gv rfl rfl) (gc rfl) rfl) ga0)))) fun v6 L6 H6 S6 s6 r6 => ?_
        refine g_pair S6.lh r6 fun a1 a2 ra1 ra2 => ?_
        have d6 := (dd.step ok s5).step ok s6
        refine gSeqT (gAppD (hand := "a") (Or.inl rfl) ok S6 d6 (by omega) rfl (fun _ _ q => q) (gE _ (HM.unit_len _) (gv rfl ra1)) fun L7 H7 S7 e7 d7 => ?_)
        refine gSeqT (gAppD (hand := "b") (Or.inr (Or.inl rfl)) ok S7 d7 (by omega) rfl (fun _ _ q => q) (gE _ (HM.unit_len _) (gv rfl (up e7 ra2))) fun L8 H8 S8 e8 d8 => ?_)
        refine gSeqT (gAppD (hand := "c") (Or.inr (Or.inr rfl)) ok S8 d8 (by omega) rfl (fun _ _ q => q) (gE ((upto 0 (n : Int).toNat).map fun k : Int => HM.gz (HM.unitV n q') k.toNat + HM.gz (HM.unitV n (q' + 1)) k.toNat) (by rw [List.length_map, upto_len]; omega) (gvec (gtupof (glc1 (Z := rInt) (fun k : Int => HM.gz (HM.unitV n q') k.toNat + HM.gz (HM.unitV n (q' + 1)) k.toNat) (gi_rng1 (n := (n : Int)) (gaC (gv rfl rfl) ga0) (by omega)) (by rw [upto_len]; omega) (fun _ => rfl) fun kk xa L9 hk e9 hx => ?hc)))) fun L9 H9 S9 e9 d9 => ?_)
        case hc =>
          obtain rfl : xa = .int kk := hx
          obtain ⟨t, ht, rfl⟩ : ∃ t : Nat, t < n ∧ kk = (t : Int) := by
            unfold upto at hk
            obtain ⟨t, h1, h2⟩ := List.mem_map.mp hk
            exact ⟨t, by have := List.mem_range.mp h1; omega, by omega⟩
          exact gI0 (gixV (gv rfl (up ((e7.trans e8).trans e9) ra1)) (gv rfl rfl) (at_gz (by rw [HM.unit_len]; exact ht))) (gixV (gv rfl (up ((e7.trans e8).trans e9) ra2)) (gv rfl rfl) (at_gz (by rw [HM.unit_len]; exact ht))) rfl
        refine gSet ok S9 (gI0 (gv rfl rfl) (gc rfl) rfl (R := rInt ((q' + 1 : Nat) : Int))) fun v9 La9 Ha9 Sa9 sa9 r9 => ?_
        obtain rfl : v9 = .int ((q' + 1 : Nat) : Int) := r9
        exact fin _ _ _ _ _ _ _ _ _ Sa9 ((((((ec.trans sd.ll).trans s5.ll).trans s6.ll).trans e7).trans e8).trans (e9.trans sa9.ll)) (d9.step ok sa9) rfl
      · have hne : c ≠ "plane" := fun z => by rw [z] at hb; exact absurd hb (by decide)
        obtain ⟨hl3, hsg⟩ := kind_signs c hck hne
        refine gfor ok S5 (gi_str (gv rfl rfl)) (fun h σ' La Ha => (∃ u8 : Option V, σ' = [some v0, some (.int (n : Int)), some (.ref d), some (.int (q' : Int)), some (.str c), some xa, u6', u7', u8, u9']) ∧ D3 n (36 * i + 3 * j + h) H La Ha d px py pz) ?_ ?_ ?_
        · intro L6 H6 _ s6
          exact ⟨⟨_, rfl⟩, (dd.step ok s5).step ok s6⟩
        · rintro Lo eo h s xs σ' Le He Lf Hf hs Se ee ⟨⟨u8, rfl⟩, de⟩ sf hxs
          obtain rfl : xs = .str ⟨#[s]⟩ := hxs
          have hh3 : h < 3 := by
            have := (List.getElem?_eq_some_iff.mp hs).1
            omega
          refine gAppD (hand := ⟨#[s]⟩) (hsg s (List.mem_of_getElem? hs)) ok (Se.trans sf) (de.step ok sf) (by omega) rfl (fun _ _ q => ⟨_, rfl, q⟩) (gE (P := fun r : List Int => r.length = n) (HM.unitV n q') (HM.unit_len _) (gcp (R := fun q : Nat × Nat => rVec (HM.unitV q.1 q.2)) (n, q') (by show n ≤ 1000; omega) (gaC (gv rfl rfl) (gaC (gv rfl rfl) ga0)))) fun L7 H7 S7 e7 d7 => ?_
          exact ⟨L7, S7, (ee.trans sf.ll).trans e7, ⟨_, rfl⟩, d7⟩
        · rintro σ' Le He Se ee ⟨⟨u8, rfl⟩, de⟩
          exact fin _ _ _ _ _ _ _ _ _ Se (((ec.trans sd.ll).trans s5.ll).trans ee) (de.weak (by omega)) rfl
    · rintro σ' Lc Hc Sc ec ⟨⟨q', u5', u6', u7', u8', u9', rfl⟩, dc⟩
      refine ⟨Lc, Sc, (ea.trans sb.ll).trans ec, ⟨_, _, _, _, _, _, _, rfl⟩, dc.weak ?_⟩
      rw [upto_len]
      omega
  · rintro σ' La Ha Sa ea ⟨⟨q, u4, u5, u6, u7, u8, u9, rfl⟩, da⟩
    obtain ⟨L1', S1', _, hr⟩ := D3.pub Sa (da.weak (by show 36 * kinds.length ≤ 1000; decide))
    exact ⟨_, rfl, k _ L1' _ S1' hr⟩
end
end HW
/-! part W18 -/
set_option maxHeartbeats 4000000
/-! The triple's rows mixed and drawn. -/
namespace HW
open PySem PySem.Spec PyProof.Rows L2 HR HV C8
open Evl (Ex)
open HM (CW)
/-- vectors, n long, m at most -/
def rVm (n m : Nat) : Rep := rE (fun xs : List (List Int) => (∀ r ∈ xs, r.length = n) ∧ xs.length ≤ m) fun xs => rLs rVec xs
instance {n m : Nat} : Gr (rVm n m) := inferInstanceAs (Gr (rE _ _))
theorem r3_of {n m : Nat} {L : Hp} {vx vy vz : V} (h1 : rVm n m vx L) (h2 : rVm n m vy L) (h3 : rVm n m vz L) : R3 n m L vx vy vz :=
  ⟨let ⟨a, b, c⟩ := h1; ⟨a, c, b⟩, let ⟨a, b, c⟩ := h2; ⟨a, c, b⟩, let ⟨a, b, c⟩ := h3; ⟨a, c, b⟩⟩
section
variable {T : Tap} {L L0 H0 H : Hp} {σ : L2.St} {ta tb tc te tv : TE} {D : Ends} {tz : TS} {v : V} {n m : Nat}
/-- name = {'a': .., 'b': .., 'c': ..}, the dict our own, its lists told -/
theorem gDispR {i : Nat} (ok : Ok T L0 H0) (S : Stp T L0 H0 L H) (ha : Go T L (ta σ) (rVm n m)) (hb : Go T L (tb σ) (rVm n m)) (hc : Go T L (tc σ) (rVm n m))
    (k : ∀ d vx vy vz L1 H1, Stp T L0 H0 L1 H1 → Ex L L1 → Prv H0 L1 H1 d (.dK (abc vx vy vz)) → R3 n m L1 vx vy vz → tz D (σ.set i (some (.ref d))) H1) :
    tSeq (tAsg (tDisp [(tC (.str "a"), ta), (tC (.str "b"), tb), (tC (.str "c"), tc)]) (gName i)) tz D σ H := by
  intro d hd
  have S1 := S.add ok hd (o := HO.dK [])
  have pd := Prv.new ok S hd (o := HO.dK [])
  refine ha _ (S1.ok ok) _ fun vx L2 H2 s2 r2 => ?_
  refine Go.mono s2.ll hb _ ((S1.trans s2).ok ok) _ fun vy L3 H3 s3 r3 => ?_
  refine Go.mono (s2.ll.trans s3.ll) hc _ (((S1.trans s2).trans s3).ok ok) _ fun vz L4 H4 s4 r4 => ?_
  have pd4 := ((pd.step ok s2).step ok s3).step ok s4
  refine ⟨pd4.at_, [(.inr "a", vx), (.inr "b", vy), (.inr "c", vz)], rfl, (by show 3 ≤ 15; decide), ?_⟩
  rw [merge_abc]
  exact k d vx vy vz L4 _ (Stp.chg ok (((S1.trans s2).trans s3).trans s4) pd4) ((s2.ll.trans s3.ll).trans s4.ll) pd4.set (r3_of (HV.up (s3.ll.trans s4.ll) r2) (HV.up s4.ll r3) r4)
/-- d[hand] = .., d our own -/
theorem gPutH {j jh : Nat} {d : Addr} {vx vy vz : V} {hand : Str} (hh : hand = "a" ∨ hand = "b" ∨ hand = "c") (ok : Ok T L0 H0) (S : Stp T L0 H0 L H) (hj : σ[j]? = some (some (.ref d))) (hjh : σ[jh]? = some (some (.str hand)))
    (hd : Prv H0 L H d (.dK (abc vx vy vz))) (r3 : R3 n m L vx vy vz) (hv : ∀ Q : VK, (∀ v L1 H1, Stp T L H L1 H1 → rVm n m v L1 → Q v H1) → tv σ H Q)
    (k : ∀ vx vy vz L1 H1, Stp T L0 H0 L1 H1 → Ex L L1 → Prv H0 L1 H1 d (.dK (abc vx vy vz)) → R3 n m L1 vx vy vz → D.nx σ H1) : sDPut (tVar j) (tVar jh) tv D σ H :=
  hv _ fun v L1 H1 s1 r1 => by
    have hd1 := hd.step ok s1
    obtain ⟨x, y, z, e, hx, hy, hz⟩ := abc_put (vx := vx) (vy := vy) (vz := vz) (u := v) hh
    have r3' := r3.up s1.ll
    have hp := DPut.k (k := .inr hand) (v := v) hd1.at_ (Evl.sz_lt (by show 3 < 100000; decide))
    rw [e] at hp
    refine ⟨_, hj, _, hjh, d, _, rfl, hp, k x y z L1 _ (Stp.chg ok (S.trans s1) hd1) s1.ll hd1.set ?_⟩
    obtain ⟨a1, b1, c1⟩ := r1
    have new : ∃ xs, rLs rVec xs v L1 ∧ (∀ r ∈ xs, r.length = n) ∧ xs.length ≤ m := ⟨a1, c1, b1⟩
    refine ⟨?_, ?_, ?_⟩
    · rcases hx with rfl | rfl
      · exact r3'.x
      · exact new
    · rcases hy with rfl | rfl
      · exact r3'.y
      · exact new
    · rcases hz with rfl | rfl
      · exact r3'.z
      · exact new
theorem lc_wi {wi wi' : TI} {g : TG} {tt : TT} {vs : List Nat} {Q : VK} (h : ∀ Q, wi' σ H Q → wi σ H Q) (q : tLc wi' g tt te vs σ H Q) : tLc wi g tt te vs σ H Q := h _ q
theorem gneE {P P' : Int → Prop} (ha : Go T L (ta σ) (rPI P)) (hb : Go T L (tb σ) (rPI P')) : Go T L (tTest (tOp rNe ta tb) σ) rAny :=
  Go.bindE ha (fun _ _ h => h) fun x L1 e1 ⟨i, h1, r1⟩ => Go.bindE (Go.mono e1 hb) (fun _ _ h => h) fun y L2 e2 ⟨j, h2, r2⟩ => fun H ok Q q => by
    obtain rfl : x = .int i := r1
    obtain rfl : y = .int j := r2
    exact ⟨rfl, _, rfl, q _ L2 H (Stp.refl ok) trivial⟩
theorem ghands {ta : TE} (h : ta = tLst (tCons (tC (.str "a")) (tCons (tC (.str "b")) (tCons (tC (.str "c")) tNil)))) : Go T L (ta σ) (rLs rStr ["a", "b", "c"]) := by
  subst h
  exact glst (gaL (gc rfl) (gaL (gc rfl) (gaL (gc rfl) ga0L))) (pd_len (m := 100000) (by decide))
theorem hand_of {c : Str} (h : c ∈ (["a", "b", "c"] : List Str)) : c = "a" ∨ c = "b" ∨ c = "c" := by
  rcases List.mem_cons.mp h with h | h
  · exact Or.inl h
  rcases List.mem_cons.mp h with h | h
  · exact Or.inr (Or.inl h)
  exact Or.inr (Or.inr (List.mem_singleton.mp h))
end
section
variable {P : Program} {w : World} {K : PySem.W.Frag} {mg : Str → Option Value} {base : Heap}
def spMix : Sp := fun vs H Q _ => ∃ (x : Int × Nat × Nat) (L : Hp) (p : Addr) (ws : List V), vs = .ref p :: ws ∧ Ok (T1 p) L H ∧
  aAnd (0 < x.1 ∧ x.1 < 1073741824 ∧ x.2.1 ≤ 1000 ∧ x.2.2 ≤ 1000) (aCons (rInt x.1) (aCons (rInt (x.2.1 : Int)) (aCons (rD3 x.2.1 x.2.2) aNil))) ws L ∧
  ∀ d vx vy vz L' H', Stp (T1 p) L H L' H' → Prv H L' H' d (.dK (abc vx vy vz)) → R3 x.2.1 x.2.2 L' vx vy vz → Q (.ref d) H'
theorem lenMix : ∀ vs H Q E, spMix vs H Q E → vs.length = 4 := fun vs H Q E ⟨x, L, p, ws, e, _, a, _⟩ => by
  have := lC a.2 (fun _ h => lC h (fun _ h => lC h (fun _ => l0)))
  rw [e, List.length_cons, this]
theorem c__law_mixed (F : Cs K mg) : Cal P w K mg base 2 "_law_mixed" (spMix) [] := by
  refine calG (N := ["_law_tape_here", "_law_prime", "_law_length_here", "_law_rows_here", "_law_found", "_law_turn", "_law_place", "_law_other", "_law_times", "_law_hand", "_law_row"]) (ps := ["_law_tape_here", "_law_prime", "_law_length_here", "_law_rows_here"]) F.d__law_mixed (fun _ _ _ _ _ _ us hl => match us, hl with | [_, _, _, _], _ => rfl) (by decide +kernel) (lenMix) ?_
  rintro f cdv A outer s H vs Q E hr ⟨x, L, tp, ws, rfl, ok, ⟨pre, ha⟩, k⟩
  have nd := (fnScope_by (N := ["_law_tape_here", "_law_prime", "_law_length_here", "_law_rows_here", "_law_found", "_law_turn", "_law_place", "_law_other", "_law_times", "_law_hand", "_law_row"]) (P := ["_law_tape_here", "_law_prime", "_law_length_here", "_law_rows_here"]) (sc := fnScope (topS 70)) (by decide +kernel)).nd
  have hu := hu_of hr
  have hu0 := hr.units0
  have hu64 := hr.units
  refine ⟨_, (pss_cons (ps_set (i := 4) nd rfl (by first | exact Or.inl rfl | exact Or.inr rfl) (pe_disp (pps_cons pe_str (pe_callTy (klistof K rfl) rfl F.list bt_list (pa_cons (pe_dget hu (pv 3) pe_str (fun _ _ => rfl)) pa_nil)) (pps_cons pe_str (pe_callTy (klistof K rfl) rfl F.list bt_list (pa_cons (pe_dget hu (pv 3) pe_str (fun _ _ => rfl)) pa_nil)) (pps_cons pe_str (pe_callTy (klistof K rfl) rfl F.list bt_list (pa_cons (pe_dget hu (pv 3) pe_str (fun _ _ => rfl)) pa_nil)) pps_nil))) rfl rfl (by intro z; cases z) (by decide)))
  (pss_cons (ps_for PassesOwn.never rfl (pi_range1 rfl F.range (pa_cons (pe_op op_mul pe_int (pv 2)) pa_nil)) (pg_name (i := 5) nd rfl (by first | exact Or.inl rfl | exact Or.inr rfl)) (pss_cons (ps_asg (pe_tup (pa_cons (pe_c (c__law_pick F) hr (by decide) rfl (pa_cons (pv 0) (pa_cons (pv 2) pa_nil))) (pa_cons (pe_c (c__law_pick F) hr (by decide) rfl (pa_cons (pv 0) (pa_cons (pv 2) pa_nil))) pa_nil))) (pg_tup (n := 2) rfl (pgs_cons (pg_name (i := 6) nd rfl (by first | exact Or.inl rfl | exact Or.inr rfl)) (pgs_cons (pg_name (i := 7) nd rfl (by first | exact Or.inl rfl | exact Or.inr rfl)) pgs_nil))))
  (pss_cons (ps_set (i := 8) nd rfl (by first | exact Or.inl rfl | exact Or.inr rfl) (pe_c (c__law_pick F) hr (by decide) rfl (pa_cons (pv 0) (pa_cons (pv 1) pa_nil))))
  (pss_one (ps_if (pt_cmpR op_ne (pv 6) (pv 7) (nomark _)) (pss_one (ps_for PassesOwn.never rfl (kpi_list K rfl (pe_lst (pa_cons pe_str (pa_cons pe_str (pa_cons pe_str pa_nil))))) (pg_name (i := 9) nd rfl (by first | exact Or.inl rfl | exact Or.inr rfl)) (pss_one (ps_dput hu (pv 4) (pv 9) (pe_lc (own := [("_law_row", 10)]) rfl nd (kpi_list K rfl (pe_dget hu (pv 4) (pv 9) (fun _ _ => rfl))) (blkOk_by (N := ["_law_tape_here", "_law_prime", "_law_length_here", "_law_rows_here", "_law_found", "_law_turn", "_law_place", "_law_other", "_law_times", "_law_hand", "_law_row"]) (sc := fnScope (topS 70)) (by decide +kernel)) (fun _ _ _ _ _ => (pg_name (i := 10) nd rfl (Or.inl rfl))) (fun _ _ _ _ _ => pts_nil) (fun _ _ _ _ _ => (pe_c (c__law_moved F) hr (by decide) rfl (pa_cons (pv 1) (pa_cons (pv 10) (pa_cons (pv 6) (pa_cons (pv 7) (pa_cons (pv 8) pa_nil)))))))) rfl)))) pss_nil)))))
  (pss_one (ps_ret (pv 4))))), ?_⟩
  obtain ⟨p, n, m⟩ := x
  obtain ⟨hp0, hp1, hn, hm⟩ := pre
  have hp0 : 0 < p := hp0
  have hp1 : p < 1073741824 := hp1
  have hn : n ≤ 1000 := hn
  have hm : m ≤ 1000 := hm
  obtain ⟨_, _, rfl, rfl, ha⟩ := ha
  obtain ⟨_, v3, rfl, rfl, h3⟩ := a2 ha
  have h3 : rD3 n m v3 L := h3
  have t0 : T1 tp tp := rfl
  have cp : ∀ {hand : Str} {L1 : Hp}, (hand = "a" ∨ hand = "b" ∨ hand = "c") → Go (T1 tp) L (tCB (fun xs H Q => ∃ p ys, xs = [V.ref p] ∧ (SqL K H p ys ∨ SqT K H p ys) ∧ ∀ l, H l = none → Q (V.ref l) (upd H l (.lst ys))) (tCons (tDGet (tVar 3) (tC (.str hand))) tNil) [some (.ref tp), some (.int p), some (.int (n : Int)), some v3, none, none, none, none, none, none, none]) (rVm n m) := fun hh H' ok' Q' q' =>
    glistof (P := fun vs L' => ∃ xs : List (List Int), ((∀ r ∈ xs, r.length = n) ∧ xs.length ≤ m) ∧ Pd rVec xs vs L') (g := ⟨fun v H H' e ⟨xs, h1, h2⟩ => ⟨xs, h1, h2.up e⟩⟩) ((gHand hh (gv rfl h3) (gc rfl)).imp fun v L' _ ⟨xs, h1, pp, vs, h4, h5, h6⟩ => ⟨pp, vs, h4, Or.inl h5, xs, h1, h6⟩) H' ok' Q' fun v L2 H2 s2 ⟨pp, vs, h4, h5, xs, h1, h6⟩ => q' v L2 H2 s2 ⟨xs, h1, pp, vs, h4, h5, h6⟩
  refine gDispR (n := n) (m := m) ok (Stp.refl ok) (cp (L1 := L) (Or.inl rfl)) (cp (L1 := L) (Or.inr (Or.inl rfl))) (cp (L1 := L) (Or.inr (Or.inr rfl))) fun d vx vy vz L1 H1 S1 e1 pd r3 => ?_
  refine gForS ok S1 (gi_rng1 (n := 2 * (n : Int)) (gaC (gI (i := 2) (j := (n : Int)) (gc rfl) (gv rfl rfl) (Or.inl (by decide)) rfl) ga0) (by omega)) (fun i σ' La Ha => (∃ (u5 u6 u7 u8 u9 u10 : Option V), σ' = [some (.ref tp), some (.int p), some (.int (n : Int)), some v3, some (.ref d), u5, u6, u7, u8, u9, u10]) ∧ ∃ vx vy vz, Prv H La Ha d (.dK (abc vx vy vz)) ∧ R3 n m La vx vy vz) ?_ ?_ ?_
  · intro L2 H2 _ s2
    exact ⟨⟨_, _, _, _, _, _, rfl⟩, vx, vy, vz, pd.step ok s2, r3.up s2.ll⟩
  · rintro Lm em i a xa σ' La Ha Lb Hb ha' Sa ea ⟨⟨u5, u6, u7, u8, u9, u10, rfl⟩, wx, wy, wz, pa, ra⟩ sb hxa
    have hn0 : 0 < n := by
      have := (List.getElem?_eq_some_iff.mp ha').1
      rw [upto_len] at this
      omega
    have Sb := Sa.trans sb
    have pb := pa.step ok sb
    have rb := ra.up sb.ll
    refine gAsgG (R := rPr (rPick (n : Int)) (rPick (n : Int))) ok Sb (gpair (gcpT (R := fun m => rPick m) (n : Int) rfl t0 ⟨by omega, by omega⟩ (gaC (gv rfl rfl) ga0)) (gcpT (R := fun m => rPick m) (n : Int) rfl t0 ⟨by omega, by omega⟩ (gaC (gv rfl rfl) ga0))) fun v6 L6 H6 S6 s6 r6 => ?_
    refine g_pair S6.lh r6 fun a1 a2 ra1 ra2 => ?_
    obtain ⟨i1, hi1, rfl⟩ := ra1
    obtain ⟨i2, hi2, rfl⟩ := ra2
    refine gSet (R := rPick p) ok S6 (gcpT (R := fun m => rPick m) p rfl t0 ⟨hp0, hp1⟩ (gaC (gv rfl rfl) ga0)) fun v8 L8 H8 S8 s8 r8 => ?_
    obtain ⟨i8, hi8, rfl⟩ := r8
    have e8 := (sb.ll.trans s6.ll).trans s8.ll
    have p8 := (pb.step ok s6).step ok s8
    have r38 := (rb.up s6.ll).up s8.ll
    refine gIfE ok S8 (gneE (P := fun _ => True) (P' := fun _ => True) (gv rfl ⟨_, trivial, rfl⟩) (gv rfl ⟨_, trivial, rfl⟩)) (fun L9 H9 S9 s9 => ?_) (fun L9 H9 S9 s9 => ?_)
    · refine gfor ok S9 (gi_list (Y := rStr) (ghands rfl)) (fun h σ' La Ha => (∃ (u9 u10 : Option V), σ' = [some (.ref tp), some (.int p), some (.int (n : Int)), some v3, some (.ref d), some xa, some (.int i1), some (.int i2), some (.int i8), u9, u10]) ∧ ∃ vx vy vz, Prv H La Ha d (.dK (abc vx vy vz)) ∧ R3 n m La vx vy vz) ?_ ?_ ?_
      · intro L10 H10 _ s10
        exact ⟨⟨_, _, rfl⟩, _, _, _, (p8.step ok s9).step ok s10, (r38.up s9.ll).up s10.ll⟩
      · rintro Lo eo h hand xh σ' Lc Hc Ld Hd hh Sc ec ⟨⟨u9, u10, rfl⟩, xx, xy, xz, pc, rc⟩ sd hxh
        obtain rfl : xh = .str hand := hxh
        have hhd := hand_of (List.mem_of_getElem? hh)
        have pd' := pc.step ok sd
        have rd := rc.up sd.ll
        have Sd := Sc.trans sd
        refine gPutH (n := n) (m := m) hhd ok Sd rfl rfl pd' rd (fun Q' q' => ?_) fun vx' vy' vz' L9 H9 S9' e9 p9 r9 => ⟨L9, S9', (ec.trans sd.ll).trans e9, ⟨_, _, rfl⟩, _, _, _, p9, r9⟩
        obtain ⟨v, hv, hg⟩ := abc_get (vx := xx) (vy := xy) (vz := xz) hhd
        obtain ⟨xs, h1, h2, h4⟩ : ∃ xs, rLs rVec xs v Ld ∧ (∀ r ∈ xs, r.length = n) ∧ xs.length ≤ m := by
          rcases hv with rfl | rfl | rfl
          · exact rd.x
          · exact rd.y
          · exact rd.z
        have hget := DGet.k (k := .inr hand) pd'.at_
        rw [hg] at hget
        refine lc_wi (wi' := iList K (tC v)) (fun Q2 q2 => ⟨_, rfl, _, rfl, d, v, rfl, hget, q2⟩) ?_
        refine (gchoose (P := fun r : List Int => r.length = n) (R := rVec) (glc1 (Z := fun _ : List Int => rE (fun r : List Int => r.length = n) rVec) id (gi_list (Y := rVec) (ys := xs) (gc h1)) (by omega) (fun _ => rfl) fun r xr L9 hr' e9 hxr => gcp (R := fun q : Int × Nat × List Int × Nat × Nat × Int => rE (fun ns : List Int => ns.length = q.2.1) rVec) (p, n, r, i1.toNat, i2.toNat, i8) ⟨hp0, h2 r hr', hn, by show i1.toNat < n; omega, by show i2.toNat < n; omega, by show -(2 ^ 64) < i8; omega, by show i8 < 2 ^ 64; omega⟩ (gaC (gv rfl rfl) (gaC (gv rfl hxr) (gaC (gv rfl (by show V.int i1 = V.int ((i1.toNat : Nat) : Int); rw [Int.toNat_of_nonneg hi1.1])) (gaC (gv rfl (by show V.int i2 = V.int ((i2.toNat : Nat) : Int); rw [Int.toNat_of_nonneg hi2.1])) (gaC (gv rfl rfl) ga0))))))) Hd (Sd.ok ok) Q' fun v' L9 H9 s9 ⟨ys, ⟨y1, y2⟩, y3⟩ => q' v' L9 H9 s9 ⟨ys, ⟨y2, ?_⟩, y3⟩
        rw [y1, List.map_id]
        exact h4
      · rintro σ' Lc Hc Sc ec ⟨⟨u9, u10, rfl⟩, xx, xy, xz, pc, rc⟩
        exact ⟨Lc, Sc, (ea.trans ((e8.trans s9.ll))).trans ec, ⟨_, _, _, _, _, _, rfl⟩, _, _, _, pc, rc⟩
    · exact ⟨L9, S9, ea.trans (e8.trans s9.ll), ⟨_, _, _, _, _, _, rfl⟩, _, _, _, p8.step ok s9, r38.up s9.ll⟩
  · rintro σ' La Ha Sa ea ⟨⟨u5, u6, u7, u8, u9, u10, rfl⟩, wx, wy, wz, pa, ra⟩
    exact ⟨_, rfl, k d wx wy wz La Ha Sa pa ra⟩
theorem gMix {T : Tap} {L L0 H0 H : Hp} {σ : L2.St} {ta : TA} {D : Ends} {tz : TS} {E : XK} {i j : Nat} {p : Addr} (x : Int × Nat × Nat) (ok : Ok T L0 H0) (S : Stp T L0 H0 L H) (hj : σ[j]? = some (some (.ref p))) (hT : T p)
    (pre : 0 < x.1 ∧ x.1 < 1073741824 ∧ x.2.1 ≤ 1000 ∧ x.2.2 ≤ 1000) (ha : Go T L (ta σ) (aCons (rInt x.1) (aCons (rInt (x.2.1 : Int)) (aCons (rD3 x.2.1 x.2.2) aNil))))
    (k : ∀ d vx vy vz L1 H1, Stp T L0 H0 L1 H1 → Ex L L1 → Prv H0 L1 H1 d (.dK (abc vx vy vz)) → R3 x.2.1 x.2.2 L1 vx vy vz → tz D (σ.set i (some (.ref d))) H1) : tSeq (tAsg (tCall spMix [] E (tCons (tVar j) ta)) (gName i)) tz D σ H :=
  ⟨.ref p, hj, ha H (S.ok ok) _ fun vs L1 H1 s1 r1 => by
    have S1 := S.trans s1
    have ok1 := S1.ok ok
    refine ⟨x, L1, p, vs ++ [], rfl, ⟨ok1.1, fun a t => by
      have t : a = p := t
      subst t; exact ok1.2 a hT⟩, ⟨pre, by rw [List.append_nil]; exact r1⟩, fun d vx vy vz L2 H2 s2 pd r3 => ?_⟩
    have s2' : Stp T L1 H1 L2 H2 := s2.sub ok1 fun a t => by
      have t : a = p := t
      subst t; exact hT
    refine k d vx vy vz L2 H2 (S1.trans s2') (s1.ll.trans s2.ll) ⟨?_, pd.nl, pd.at_⟩ r3
    cases e : H0 d with
    | none => rfl
    | some o =>
      by_cases t : T d
      · have := tp_some (S1.tp d t)
        rw [pd.st] at this; cases this
      · have := S1.hh d o e t
        rw [pd.st] at this; cases this⟩
def spDrawn : Sp := spT (fun q : Int × Nat => aAnd (0 < q.1 ∧ q.1 < 1073741824 ∧ q.2 ≤ 12) (aCons (rFr q) aNil)) (fun q => rE (fun n : Nat => n ≤ q.2) fun n => rPr (rInt (n : Int)) (rD3 n 1000))
theorem c__law_drawn (F : Cs K mg) : Cal P w K mg base 3 "_law_drawn" (spDrawn) [] := by
  refine calG (N := ["_law_tape_here", "_law_frame", "_law_prime", "_law_most", "_law_amounts_here", "_law_length_here", "_law_rows_here", "_law_hand", "_law_k"]) (ps := ["_law_tape_here", "_law_frame"]) F.d__law_drawn (fun _ _ _ _ _ _ us hl => match us, hl with | [_, _], _ => rfl) (by decide +kernel) (lenT fun _ _ _ h => lC h.2 (fun _ => l0)) ?_
  rintro f cdv A outer s H vs Q E hr ⟨x, L, tp, ws, rfl, ok, ⟨pre, ha⟩, k⟩
  have nd := (fnScope_by (N := ["_law_tape_here", "_law_frame", "_law_prime", "_law_most", "_law_amounts_here", "_law_length_here", "_law_rows_here", "_law_hand", "_law_k"]) (P := ["_law_tape_here", "_law_frame"]) (sc := fnScope (topS 72)) (by decide +kernel)).nd
  have hu := hu_of hr
  have hu0 := hr.units0
  have hu64 := hr.units
  refine ⟨_, (pss_cons (ps_asg (pv 1) (pg_tup rfl (pgs_cons (pg_name (i := 2) nd rfl (by first | exact Or.inl rfl | exact Or.inr rfl)) (pgs_cons (pg_name (i := 3) nd rfl (by first | exact Or.inl rfl | exact Or.inr rfl)) pgs_nil))))
  (pss_cons (ps_set (i := 4) nd rfl (by first | exact Or.inl rfl | exact Or.inr rfl) (pe_c (c__law_amounts F) hr (by decide) rfl (pa_cons (pv 0) (pa_cons (pv 3) pa_nil))))
  (pss_cons (ps_set (i := 5) nd rfl (by first | exact Or.inl rfl | exact Or.inr rfl) (pe_c (c__law_length F) hr (by decide) rfl (pa_cons (pv 4) pa_nil)))
  (pss_cons (ps_set (i := 6) nd rfl (by first | exact Or.inl rfl | exact Or.inr rfl) (pe_c (c__law_mixed F) hr (by decide) rfl (pa_cons (pv 0) (pa_cons (pv 2) (pa_cons (pv 5) (pa_cons (pe_c (c__law_rows F) hr (by decide) rfl (pa_cons (pv 4) pa_nil)) pa_nil))))))
  (pss_cons (ps_if (pt_cmpR op_eq (pe_c (c__law_pick F) hr (by decide) rfl (pa_cons (pv 0) (pa_cons pe_int pa_nil))) pe_int (nomark _)) (pss_cons (ps_set (i := 7) nd rfl (by first | exact Or.inl rfl | exact Or.inr rfl) (pe_ix (kix_list K rfl) (pe_lst (pa_cons pe_str (pa_cons pe_str (pa_cons pe_str pa_nil)))) (pe_c (c__law_pick F) hr (by decide) rfl (pa_cons (pv 0) (pa_cons pe_int pa_nil))) (fun _ _ => rfl)))
  (pss_one (ps_dput hu (pv 6) (pv 7) (pe_lc (own := [("_law_k", 8)]) rfl nd (pi_range1 rfl F.range (pa_cons (pe_c (c__law_pick F) hr (by decide) rfl (pa_cons (pv 0) (pa_cons pe_int pa_nil))) pa_nil)) (blkOk_by (N := ["_law_tape_here", "_law_frame", "_law_prime", "_law_most", "_law_amounts_here", "_law_length_here", "_law_rows_here", "_law_hand", "_law_k"]) (sc := fnScope (topS 72)) (by decide +kernel)) (fun _ _ _ _ _ => (pg_name (i := 8) nd rfl (Or.inl rfl))) (fun _ _ _ _ _ => pts_nil) (fun _ _ _ _ _ => (pe_c (c__law_vector F) hr (by decide) rfl (pa_cons (pv 0) (pa_cons (pv 2) (pa_cons (pv 5) pa_nil)))))) rfl))) pss_nil)
  (pss_one (ps_ret (pe_tup (pa_cons (pv 5) (pa_cons (pv 6) pa_nil)))))))))), ?_⟩
  obtain ⟨p, mo⟩ := x
  obtain ⟨hp0, hp1, hm⟩ := pre
  have hp0 : 0 < p := hp0
  have hp1 : p < 1073741824 := hp1
  have hm : mo ≤ 12 := hm
  obtain ⟨v1, rfl, h1⟩ := a1 ha
  have h1 : rPr (rInt p) (rInt (mo : Int)) v1 L := h1
  have t0 : T1 tp tp := rfl
  refine gAsgG ok (Stp.refl ok) (gv (R := rPr (rInt p) (rInt (mo : Int))) rfl h1) fun v1' L1 H1 S1 s1 r1 => ?_
  refine g_pair S1.lh r1 fun w1 w2 hw1 hw2 => ?_
  obtain rfl : w1 = .int p := hw1
  obtain rfl : w2 = .int (mo : Int) := hw2
  refine gSet (R := rE (fun f : Str → Int => (∀ k, 0 ≤ f k) ∧ tot f ≤ (mo : Int)) rAm) ok S1 (gcpT (R := fun m : Nat => rE (fun f : Str → Int => (∀ k, 0 ≤ f k) ∧ tot f ≤ (m : Int)) rAm) mo rfl t0 hm (gaC (gv rfl rfl) ga0)) fun v4 L4 H4 S4 s4 r4 => ?_
  obtain ⟨f, ⟨hf0, hfm⟩, r4⟩ := r4
  refine gSet (R := rInt (tot f)) ok S4 (gcp (R := fun f => rInt (tot f)) f trivial (gaC (gv rfl r4) ga0)) fun v5 L5 H5 S5 s5 r5 => ?_
  obtain rfl : v5 = .int (tot f) := r5
  have ht0 : 0 ≤ tot f := by
    rw [tot_eq]
    have := hf0 ""; have := hf0 "a"; have := hf0 "b"; have := hf0 "c"; have := hf0 "ab"; have := hf0 "ac"; have := hf0 "bc"; have := hf0 "abc"; have := hf0 "plane"
    omega
  obtain ⟨n, hn⟩ : ∃ n : Nat, tot f = n := ⟨(tot f).toNat, by omega⟩
  have hnm : n ≤ mo := by omega
  have hnn : (tot f).toNat = n := by omega
  rw [hn]
  have hrows : Go (T1 tp) L5 (tCall spRows [] C8.E0 (tCons (tVar 4) tNil) [some (.ref tp), some v1, some (.int p), some (.int (mo : Int)), some v4, some (.int (n : Int)), none, none, none]) (rD3 n 1000) := by
    have := gcp (T := T1 tp) (L := L5) (σ := [some (.ref tp), some v1, some (.int p), some (.int (mo : Int)), some v4, some (.int (n : Int)), none, none, none]) (E := C8.E0) (pre := fun f : Str → Int => (∀ k, 0 ≤ f k) ∧ tot f ≤ 12) (B := fun f => aCons (rAm f) aNil) (R := fun f => rD3 (tot f).toNat 1000) f ⟨hf0, by omega⟩ (gaC (gv (i := 4) rfl (up s5.ll r4)) ga0)
    rwa [hnn] at this
  refine gMix (p, n, 1000) ok S5 rfl t0 ⟨hp0, hp1, by show n ≤ 1000; omega, Nat.le_refl _⟩ (gaC (gv rfl rfl) (gaC (gv rfl rfl) (gaC hrows ga0))) fun d vx vy vz L6 H6 S6 e6 pd r6 => ?_
  have fin : ∀ {u7 u8 : Option V} {wx wy wz : V} {L9 H9 : Hp}, Stp (T1 tp) L H L9 H9 → Prv H L9 H9 d (.dK (abc wx wy wz)) → R3 n 1000 L9 wx wy wz →
      tRet (tTup (tCons (tVar 5) (tCons (tVar 6) tNil))) { nx := fun _ H' => Q .non H', rt := Q } [some (.ref tp), some v1, some (.int p), some (.int (mo : Int)), some v4, some (.int (n : Int)), some (.ref d), u7, u8] H9 := fun S9 p9 r9 =>
    gEnd ok (S9.pub p9) k (gE n hnm (gpair (gv rfl rfl) (gv rfl ⟨d, _, _, _, rfl, upd_same, r9.up p9.ex⟩)))
  refine gWhenE ok S6 (geqE (P' := fun _ => True) (gcpT (R := fun m => rPick m) 4 rfl t0 ⟨by decide, by decide⟩ (gaC (gc rfl) ga0)) (gc ⟨_, trivial, rfl⟩)) (fun L7 H7 S7 s7 => ?_) fun L7 H7 S7 s7 => fin S7 (pd.step ok s7) (r6.up s7.ll)
  refine gSet ok S7 (gixE (R := rStr) (xs := ["a", "b", "c"]) (m := 3) (by decide) (ghands rfl) (gcpT (R := fun m => rPick m) 3 rfl t0 ⟨by decide, by decide⟩ (gaC (gc rfl) ga0))) fun v8 L8 H8 S8 s8 r8 => ?_
  obtain ⟨hand, hh, rfl⟩ := r8
  refine gPutH (n := n) (m := 1000) (hand_of hh) ok S8 rfl rfl ((pd.step ok s7).step ok s8) ((r6.up s7.ll).up s8.ll) (fun Q' q' => ?_) fun x' y' z' L9 H9 S9 e9 p9 r9 => fin S9 p9 r9
  refine (glcE (ys := fun j : Int => upto 0 j.toNat) (C := fun j => 0 ≤ j ∧ j < 4) (Y := rInt) (Z := rE (fun ns => HM.IsV p n ns) rVec) (gi_rngE (P := fun j => 0 ≤ j ∧ j < 4) (gaC (gcpT (R := fun m => rPick m) 4 rfl t0 ⟨by decide, by decide⟩ (gaC (gc rfl) ga0)) ga0) fun j hj => by omega) (fun j hj => by rw [upto_len]; omega) (fun _ => rfl) fun j hj a xa L9 _ e9 hxa => gcpT (R := fun q : Int × Nat => rE (fun ns => HM.IsV q.1 q.2 ns) rVec) (p, n) rfl t0 ⟨hp0, hp1, by show n ≤ 1000; omega⟩ (gaC (gv rfl rfl) (gaC (gv rfl rfl) ga0))) H8 (S8.ok ok) Q' fun v' L9 H9 s9 ⟨j, hj, pp, vs, z1, z2, z3⟩ => q' v' L9 H9 s9 ?_
  obtain ⟨xs, y1, y2, y3⟩ := Pd.choose z3
  refine ⟨xs, ⟨fun r hr => (y2 r hr).1, ?_⟩, pp, vs, z1, z2, y3⟩
  rw [y1, upto_len]
  omega
end
end HW
/-! part W19 -/
set_option maxHeartbeats 4000000
/-! Triples. -/
namespace HW
open PySem PySem.Spec PyProof.Rows L2 HR HV C8
open Evl (Ex)
open HM (CW)
structure Trp where
  p : Int
  n : Nat
  a : List (List Int)
  b : List (List Int)
  c : List (List Int)
def Trp.sp (t : Trp) (r : List (List Int)) : Spc := ⟨t.p, t.n, r⟩
structure Trp.ok (t : Trp) : Prop where
  a : (t.sp t.a).ok
  b : (t.sp t.b).ok
  c : (t.sp t.c).ok
def rTri (K : PySem.W.Frag) (t : Trp) : Rep := fun v L => ∃ o dx va vb vc, v = .ref o ∧ L o = some (.ins (cA K "Triple") dx [("a", va), ("b", vb), ("c", vc), ("prime", .int t.p), ("length", .int (t.n : Int))]) ∧ rSp K (t.sp t.a) va L ∧ rSp K (t.sp t.b) vb L ∧ rSp K (t.sp t.c) vc L
instance {K : PySem.W.Frag} {t : Trp} : Gr (rTri K t) := ⟨fun v H H' e ⟨o, dx, va, vb, vc, h1, h2, h3, h4, h5⟩ => ⟨o, dx, va, vb, vc, h1, e o _ h2, HV.up e h3, HV.up e h4, HV.up e h5⟩⟩
/-- the space of a hand -/
def Trp.at (t : Trp) (c : Str) : List (List Int) := if c = "a" then t.a else if c = "b" then t.b else t.c
theorem rTri_ins {K : PySem.W.Frag} {t : Trp} {x : V} {L : Hp} (h : rTri K t x L) : ∃ a dx fs, x = .ref a ∧ L a = some (.ins (cA K "Triple") dx fs) := let ⟨o, dx, _, _, _, h1, h2, _⟩ := h; ⟨o, dx, _, h1, h2⟩
section
variable {K : PySem.W.Frag} {mg : Str → Option Value} {T : Tap} {L : Hp} {σ : L2.St} {ta tb : TE} {t : Trp}
theorem gta (F : Cs K mg) (h : Go T L (ta σ) (rTri K t)) : Go T L (tFld K ta "a" σ) (rSp K (t.sp t.a)) := gfld h fun x L' _ ⟨o, dx, va, vb, vc, h1, h2, h3, h4, h5⟩ => ⟨o, _, dx, _, va, h1, h2, F.Triple.cls, F.na ("Triple", "a") (by decide), rfl, h3⟩
theorem gtb (F : Cs K mg) (h : Go T L (ta σ) (rTri K t)) : Go T L (tFld K ta "b" σ) (rSp K (t.sp t.b)) := gfld h fun x L' _ ⟨o, dx, va, vb, vc, h1, h2, h3, h4, h5⟩ => ⟨o, _, dx, _, vb, h1, h2, F.Triple.cls, F.na ("Triple", "b") (by decide), rfl, h4⟩
theorem gtc (F : Cs K mg) (h : Go T L (ta σ) (rTri K t)) : Go T L (tFld K ta "c" σ) (rSp K (t.sp t.c)) := gfld h fun x L' _ ⟨o, dx, va, vb, vc, h1, h2, h3, h4, h5⟩ => ⟨o, _, dx, _, vc, h1, h2, F.Triple.cls, F.na ("Triple", "c") (by decide), rfl, h5⟩
theorem gtp (F : Cs K mg) (h : Go T L (ta σ) (rTri K t)) : Go T L (tFld K ta "prime" σ) (rInt t.p) := gfld h fun x L' _ ⟨o, dx, va, vb, vc, h1, h2, h3, h4, h5⟩ => ⟨o, _, dx, _, _, h1, h2, F.Triple.cls, F.na ("Triple", "prime") (by decide), rfl, rfl⟩
theorem gtn (F : Cs K mg) (h : Go T L (ta σ) (rTri K t)) : Go T L (tFld K ta "length" σ) (rInt (t.n : Int)) := gfld h fun x L' _ ⟨o, dx, va, vb, vc, h1, h2, h3, h4, h5⟩ => ⟨o, _, dx, _, _, h1, h2, F.Triple.cls, F.na ("Triple", "length") (by decide), rfl, rfl⟩
end
section
variable {P : Program} {w : World} {K : PySem.W.Frag} {mg : Str → Option Value} {base : Heap}
def spInitT (K : PySem.W.Frag) : Sp := spN (cA K "Triple") (fun t : Trp => aAnd True (aCons (rSp K (t.sp t.a)) (aCons (rSp K (t.sp t.b)) (aCons (rSp K (t.sp t.c)) aNil)))) (fun t => rTri K t)
theorem n_Triple_init (F : Cs K mg) : FnB P w K mg base 2 (mA K "Triple" "__init__") (spInitT K) [] := by
  refine fnG (N := ["self", "a", "b", "c"]) (ps := ["self", "a", "b", "c"]) F.iTriple (fun _ _ _ _ _ _ us hl => match us, hl with | [_, _, _, _], _ => rfl) (by decide +kernel) (lenN fun _ _ _ h => lC h.2 (fun _ h => lC h (fun _ h => lC h (fun _ => l0)))) ?_
  intro f
  rintro cdv A outer s H vs Q E hr ⟨x, L, H1, ob, dx, ws, rfl, nx, ndx, ne, rfl, e, ⟨pre, ha⟩, k⟩
  have nd := (fnScope_by (N := ["self", "a", "b", "c"]) (P := ["self", "a", "b", "c"]) (sc := fnScope (metS 56 0)) (by decide +kernel)).nd
  have ok := ok0 e
  have hu := hu_of hr
  have hu0 := hr.units0
  have hu64 := hr.units
  refine ⟨_, (pss_cons (ps_expr (pe_c (c_check_alike F) hr (by decide) rfl (pa_cons (pv 1) (pa_cons (pv 2) pa_nil))))
  (pss_cons (ps_expr (pe_c (c_check_alike F) hr (by decide) rfl (pa_cons (pv 1) (pa_cons (pv 3) pa_nil))))
  (pss_cons (ps_fld (pv 0) (pv 1) rfl)
  (pss_cons (ps_fld (pv 0) (pv 2) rfl)
  (pss_cons (ps_fld (pv 0) (pv 3) rfl)
  (pss_cons (ps_fld (pv 0) (kfld K rfl (pv 1) rfl) rfl)
  (pss_one (ps_fld (pv 0) (kfld K rfl (pv 1) rfl) rfl)))))))), ?_⟩
  obtain ⟨va, _, rfl, h1, ha⟩ := ha
  obtain ⟨vb, vc, rfl, h2, h3⟩ := a2 ha
  have Sa : Stp T0 L H1 L (upd (upd H1 dx (.own ob)) ob (.ins (cA K "Triple") dx [])) := (Stp.refl ok).trans (Stp.grow ok ((Evl.Ex.new ndx).trans (Evl.Ex.new (by rw [upd_ne (Ne.symm ne)]; exact nx))))
  have pv0 : Prv H1 L (upd (upd H1 dx (.own ob)) ob (.ins (cA K "Triple") dx [])) ob (.ins (cA K "Triple") dx []) := ⟨nx, none_of e nx, upd_same⟩
  refine gDrop ok Sa (gcp (R := fun _ : Spc × Spc => rV .non) (x.sp x.a, x.sp x.b) ⟨rfl, rfl⟩ (gaC (gv rfl h1) (gaC (gv rfl h2) ga0))) fun v3 L3 H3 S3 s3 _ => ?_
  refine gDrop ok S3 (gcp (R := fun _ : Spc × Spc => rV .non) (x.sp x.a, x.sp x.c) ⟨rfl, rfl⟩ (gaC (gv rfl (up s3.ll h1)) (gaC (gv rfl (up s3.ll h3)) ga0))) fun v4 L4 H4 S4 s4 _ => ?_
  have e4 := s3.ll.trans s4.ll
  have p4 := (pv0.step ok s3).step ok s4
  refine gFld F.Triple.cls (F.na ("Triple", "a") (by decide)) ok S4 rfl p4 (by show 0 < 1000; decide) (gv rfl (up e4 h1)) fun w1 L5 H5 S5 e5 r5 pv5 => ?_
  refine gFld F.Triple.cls (F.na ("Triple", "b") (by decide)) ok S5 rfl pv5 (by show 1 < 1000; decide) (gv rfl (up (e4.trans e5) h2)) fun w2 L6 H6 S6 e6 r6 pv6 => ?_
  refine gFld F.Triple.cls (F.na ("Triple", "c") (by decide)) ok S6 rfl pv6 (by show 2 < 1000; decide) (gv rfl (up (e4.trans (e5.trans e6)) h3)) fun w3 L7 H7 S7 e7 r7 pv7 => ?_
  refine gFld F.Triple.cls (F.na ("Triple", "prime") (by decide)) ok S7 rfl pv7 (by show 3 < 1000; decide) (gprime F (gv rfl (up (e4.trans (e5.trans (e6.trans e7))) h1))) fun w4 L8 H8 S8 e8 r8 pv8 => ?_
  refine gFld1 F.Triple.cls (F.na ("Triple", "length") (by decide)) ok S8 rfl pv8 (by show 4 < 1000; decide) (glength F (gv rfl (up (e4.trans (e5.trans (e6.trans (e7.trans e8)))) h1))) fun w5 L9 H9 S9 e9 r9 pv9 => ?_
  obtain rfl : w4 = .int x.p := r8
  obtain rfl : w5 = .int (x.n : Int) := r9
  exact k _ _ (S9.pub pv9) ⟨ob, dx, w1, w2, w3, rfl, upd_same, up pv9.ex (up (e6.trans (e7.trans (e8.trans e9))) r5), up pv9.ex (up (e7.trans (e8.trans e9)) r6), up pv9.ex (up (e8.trans e9) r7)⟩
theorem gmkE {ι : Type} {T : Tap} {L : Hp} {σ : L2.St} {ta : TA} {C : Addr} {A : ι → RepA} {R : ι → Rep} {E : XK} {P : RepA} {Ci : ι → Prop} (ha : Go T L (ta σ) P) (h : ∀ vs L', Ex L L' → P vs L' → ∃ i, Ci i ∧ A i vs L') : Go T L (tMake C (spN C A R) [] E ta σ) (rE Ci R) :=
  Go.bindE ha (fun _ _ h => h) fun vs L1 e1 r1 => fun H ok Q q x dx hx hd hn => by
    obtain ⟨i, hc, hA⟩ := h vs L1 e1 r1
    exact ⟨i, L1, H, x, dx, vs ++ [], rfl, hx, hd, hn, rfl, ok.1, by rw [List.append_nil]; exact hA, fun L' H' s r => ⟨rfl, q _ L' H' (s.of0 ok) ⟨i, hc, r⟩⟩⟩
def spObj (K : PySem.W.Frag) : Sp := spR (fun q : Int × Nat => aAnd (HM.IsP q.1 ∧ q.2 ≤ 12) (aCons (rInt q.1) (aCons (rInt (q.2 : Int)) (aCons (rD3 q.2 1000) aNil)))) (fun q => rE (fun t : Trp => t.p = q.1 ∧ t.n = q.2 ∧ t.ok) fun t => rTri K t)
theorem c__law_object (F : Cs K mg) : Cal P w K mg base 7 "_law_object" (spObj K) [] := by
  refine calG (N := ["_law_prime", "_law_length_here", "_law_rows_here"]) (ps := ["_law_prime", "_law_length_here", "_law_rows_here"]) F.d__law_object (fun _ _ _ _ _ _ us hl => match us, hl with | [_, _, _], _ => rfl) (by decide +kernel) (len1 fun _ _ _ h => lC h.2 (fun _ h => lC h (fun _ h => lC h (fun _ => l0)))) ?_
  rintro f cdv A outer s H vs Q E hr ⟨x, L, e, ⟨pre, ha⟩, k⟩
  have nd := (fnScope_by (N := ["_law_prime", "_law_length_here", "_law_rows_here"]) (P := ["_law_prime", "_law_length_here", "_law_rows_here"]) (sc := fnScope (topS 81)) (by decide +kernel)).nd
  have ok := ok0 e
  have hu := hu_of hr
  have hu0 := hr.units0
  have hu64 := hr.units
  refine ⟨_, (pss_one (ps_ret (pe_mkB K rfl F.Triple.mkr F.Triple.mg (n_Triple_init F) hr (by decide) rfl (pa_cons (pe_mkB K rfl F.Space.mkr F.Space.mg (i_Space_3 F) hr (by decide) rfl (pa_cons (pv 0) (pa_cons (pv 1) (pa_cons (pe_dget hu (pv 2) pe_str (fun _ _ => rfl)) pa_nil)))) (pa_cons (pe_mkB K rfl F.Space.mkr F.Space.mg (i_Space_3 F) hr (by decide) rfl (pa_cons (pv 0) (pa_cons (pv 1) (pa_cons (pe_dget hu (pv 2) pe_str (fun _ _ => rfl)) pa_nil)))) (pa_cons (pe_mkB K rfl F.Space.mkr F.Space.mg (i_Space_3 F) hr (by decide) rfl (pa_cons (pv 0) (pa_cons (pv 1) (pa_cons (pe_dget hu (pv 2) pe_str (fun _ _ => rfl)) pa_nil)))) pa_nil)))))), ?_⟩
  obtain ⟨p, n⟩ := x
  obtain ⟨hp, hn⟩ := pre
  have hp : HM.IsP p := hp
  have hn : n ≤ 12 := hn
  obtain ⟨_, _, rfl, rfl, ha⟩ := ha
  obtain ⟨_, v2, rfl, rfl, h2⟩ := a2 ha
  have h2 : rD3 n 1000 v2 L := h2
  have sp : ∀ {hand : Str}, (hand = "a" ∨ hand = "b" ∨ hand = "c") → Go T0 L (tMake (cA K "Space") (spInitS K) [] C8.E0 (tCons (tVar 0) (tCons (tVar 1) (tCons (tDGet (tVar 2) (tC (.str hand))) tNil))) [some (.int p), some (.int (n : Int)), some v2]) (rE (fun q : Int × Nat × List (List Int) => q.1 = p ∧ q.2.1 = n ∧ ∀ r ∈ q.2.2, r.length = n) fun q => rSp K ⟨q.1, q.2.1, HM.mkRows q.1 q.2.2⟩) := fun hh =>
    gmkE (gaC (gv (R := rInt p) rfl rfl) (gaC (gv (R := rInt (n : Int)) rfl rfl) (gaC (gHand hh (gv rfl h2) (gc rfl)) ga0))) fun vs L' e' h => by
      obtain ⟨_, _, rfl, rfl, h⟩ := h
      obtain ⟨_, v, rfl, rfl, xs, ⟨x1, x2⟩, x3⟩ := a2 h
      exact ⟨(p, n, xs), ⟨rfl, rfl, x1⟩, ⟨hp, hn, x1, by show xs.length ≤ 10000; omega⟩, _, _, rfl, rfl, _, _, rfl, rfl, _, _, rfl, Or.inl (sqL x3), rfl⟩
  refine gEnd ok (Stp.refl ok) k (gmkE (gaC (sp (Or.inl rfl)) (gaC (sp (Or.inr (Or.inl rfl))) (gaC (sp (Or.inr (Or.inr rfl))) ga0))) fun vs L' e' h => ?_)
  obtain ⟨_, _, rfl, ⟨⟨p1, n1, xs⟩, ⟨rfl, rfl, xl⟩, x3⟩, h⟩ := h
  obtain ⟨_, _, rfl, ⟨⟨p2, n2, ys⟩, ⟨e1, e2, yl⟩, y3⟩, ⟨⟨p3, n3, zs⟩, ⟨e3, e4, zl⟩, z3⟩⟩ := a2 h
  obtain rfl : p2 = p1 := e1
  obtain rfl : n2 = n1 := e2
  obtain rfl : p3 = p2 := e3
  obtain rfl : n3 = n2 := e4
  exact ⟨⟨p3, n3, HM.mkRows p3 xs, HM.mkRows p3 ys, HM.mkRows p3 zs⟩, ⟨rfl, rfl, ⟨⟨hp, hn, HM.mkRows_red hp xl⟩, ⟨hp, hn, HM.mkRows_red hp yl⟩, ⟨hp, hn, HM.mkRows_red hp zl⟩⟩⟩, trivial, _, _, rfl, x3, _, _, rfl, y3, _, _, rfl, z3, rfl⟩
end
end HW
/-! part W20 -/
set_option maxHeartbeats 4000000
/-! Words: their making, a triple's hand, a word's value. -/
namespace HW
open PySem PySem.Spec PyProof.Rows L2 HR HV C8
open Evl (Ex)
open HM (CW)
/-- a word -/
inductive WT where
  | zero | one | a | b | c | plus (x y : WT) | cut (x y : WT)
  deriving DecidableEq
def WT.sg : WT → Str
  | .zero => "0"
  | .one => "1"
  | .a => "a"
  | .b => "b"
  | .c => "c"
  | .plus _ _ => "+"
  | .cut _ _ => "&"
def WT.dp : WT → Nat
  | .plus x y => max x.dp y.dp + 1
  | .cut x y => max x.dp y.dp + 1
  | _ => 0
def WT.val (t : Trp) : WT → List (List Int)
  | .zero => []
  | .one => HM.wholeRows t.p t.n
  | .a => t.a
  | .b => t.b
  | .c => t.c
  | .plus x y => HM.addRows t.p (x.val t) (y.val t)
  | .cut x y => HM.meetRows t.p t.n (x.val t) (y.val t)
def rAll : Rep := fun _ _ => True
instance : Gr rAll := ⟨fun _ _ _ _ h => h⟩
def rWd (K : PySem.W.Frag) (s : Str) (R : Rep) : Rep := fun v L => ∃ o dx x, v = .ref o ∧ L o = some (.ins (cA K "Word") dx [("sign", .str s), ("parts", x)]) ∧ R x L
instance {K : PySem.W.Frag} {s : Str} {R : Rep} [g : Gr R] : Gr (rWd K s R) := ⟨fun v H H' e ⟨o, dx, x, h1, h2, h3⟩ => ⟨o, dx, x, h1, e o _ h2, g.up x H H' e h3⟩⟩
def rWT (K : PySem.W.Frag) : WT → Rep
  | .plus x y => rWd K "+" (rPr (rWT K x) (rWT K y))
  | .cut x y => rWd K "&" (rPr (rWT K x) (rWT K y))
  | w => rWd K w.sg rAll
theorem rWT_up {K : PySem.W.Frag} {H H' : Hp} (e : Ex H H') : ∀ (w : WT) (v : V), rWT K w v H → rWT K w v H'
  | .zero, v, h => Gr.up (R := rWd K "0" rAll) v H H' e h
  | .one, v, h => Gr.up (R := rWd K "1" rAll) v H H' e h
  | .a, v, h => Gr.up (R := rWd K "a" rAll) v H H' e h
  | .b, v, h => Gr.up (R := rWd K "b" rAll) v H H' e h
  | .c, v, h => Gr.up (R := rWd K "c" rAll) v H H' e h
  | .plus x y, v, ⟨o, dx, z, h1, h2, p, vs, h3, h4, u, r, e1, h5, u2, r2, e2, h6, h7⟩ => ⟨o, dx, z, h1, e o _ h2, p, vs, h3, e p _ h4, u, r, e1, rWT_up e x u h5, u2, r2, e2, rWT_up e y u2 h6, h7⟩
  | .cut x y, v, ⟨o, dx, z, h1, h2, p, vs, h3, h4, u, r, e1, h5, u2, r2, e2, h6, h7⟩ => ⟨o, dx, z, h1, e o _ h2, p, vs, h3, e p _ h4, u, r, e1, rWT_up e x u h5, u2, r2, e2, rWT_up e y u2 h6, h7⟩
instance {K : PySem.W.Frag} {w : WT} : Gr (rWT K w) := ⟨fun v H H' e h => rWT_up e w v h⟩
theorem rWT_sg {K : PySem.W.Frag} {L : Hp} : ∀ (w : WT) (v : V), rWT K w v L → rWd K w.sg rAll v L
  | .zero, v, h => h
  | .one, v, h => h
  | .a, v, h => h
  | .b, v, h => h
  | .c, v, h => h
  | .plus x y, v, ⟨o, dx, z, h1, h2, _⟩ => ⟨o, dx, z, h1, h2, trivial⟩
  | .cut x y, v, ⟨o, dx, z, h1, h2, _⟩ => ⟨o, dx, z, h1, h2, trivial⟩
/-- what Word takes as its parts -/
def rNil : Rep := fun v _ => ∃ a, v = .ref a ∧ ∀ (K : PySem.W.Frag) H, SqT K H a []
def rArg (K : PySem.W.Frag) : WT → Rep
  | .plus x y => rSq (aCons (rWT K x) (aCons (rWT K y) aNil))
  | .cut x y => rSq (aCons (rWT K x) (aCons (rWT K y) aNil))
  | _ => fun v _ => ∃ a, v = .ref a ∧ ∀ H, SqT K H a []
def WT.leaf : WT → Bool
  | .plus _ _ => false
  | .cut _ _ => false
  | _ => true
section
variable {K : PySem.W.Frag} {mg : Str → Option Value} {T : Tap} {L : Hp} {σ : L2.St} {ta tb tc te : TE} {w : WT} {t : Trp}
theorem gwsign (F : Cs K mg) (h : Go T L (ta σ) (rWT K w)) : Go T L (tFld K ta "sign" σ) (rV (.str w.sg)) := gfld (h.imp fun v L' _ h => rWT_sg w v h) fun x L' _ ⟨o, dx, z, h1, h2, _⟩ => ⟨o, _, dx, _, _, h1, h2, F.Word.cls, F.na ("Word", "sign") (by decide), rfl, rfl⟩
theorem gwparts {s : Str} {R : Rep} (F : Cs K mg) (h : Go T L (ta σ) (rWd K s R)) : Go T L (tFld K ta "parts" σ) R := gfld h fun x L' _ ⟨o, dx, z, h1, h2, h3⟩ => ⟨o, _, dx, _, _, h1, h2, F.Word.cls, F.na ("Word", "parts") (by decide), rfl, h3⟩
theorem gisiStr {s : Str} {n : String} {b : Bool} (ha : Go T L (ta σ) (rV (.str s))) (hb : Go T L (tb σ) (rV (.ty n))) (h : kitB "str" n = some b) : Go T L (tCB (rIsi K) (tCons ta (tCons tb tNil)) σ) (rV (.bl b)) :=
  gcb (gaC ha (gaC hb ga0)) fun vs L' e r => by
    obtain ⟨v, w, rfl, rfl, rfl⟩ := a2 r
    exact fun H ok Q q => ⟨_, _, .type "str", .type n, b, rfl, .ty n, .base (.str s), kit_ty h, q _ L' H (Stp.refl ok) rfl⟩
/-- a star of a tuple that stands in the written part -/
theorem gstarB {p : Addr} {xs : List V} {tr : TA} {P' : RepA} (h : ∀ H, SqT K H p xs) (hr : Go T L (tr σ) P') : Go T L (StX.tStar K (tC (.ref p)) tr σ) (fun vs L' => ∃ ys, vs = xs ++ ys ∧ P' ys L') :=
  fun H ok Q q => ⟨p, xs, rfl, Or.inl (h H), hr H ok _ fun ys L2 H2 s2 r2 => q _ L2 H2 s2 ⟨ys, rfl, r2⟩⟩
theorem pd_self : ∀ xs : List V, Pd rV xs xs L
  | [] => trivial
  | x :: xs => ⟨rfl, pd_self xs⟩
theorem gstarV {p : Addr} {xs zs : List V} {tr : TA} (h : ∀ H, SqT K H p xs) (hr : Go T L (tr σ) (aLs rV zs)) : Go T L (StX.tStar K (tC (.ref p)) tr σ) (aLs rV (xs ++ zs)) :=
  (gstarB h hr).imp fun vs L' _ ⟨ys, e, h'⟩ => by
    obtain rfl := Pd.vals h'
    subst e
    exact pd_self _
def rPt (K : PySem.W.Frag) : WT → Rep
  | .plus x y => rPr (rWT K x) (rWT K y)
  | .cut x y => rPr (rWT K x) (rWT K y)
  | _ => rAll
theorem rWT_eq (K : PySem.W.Frag) : ∀ w : WT, rWT K w = rWd K w.sg (rPt K w)
  | .zero => rfl
  | .one => rfl
  | .a => rfl
  | .b => rfl
  | .c => rfl
  | .plus _ _ => rfl
  | .cut _ _ => rfl
theorem gtupSq {Q : RepA} [g : Gr Q] (ha : Go T L (ta σ) (rSq Q)) : Go T L (tCB (fun xs H Q => ∃ p ys, xs = [V.ref p] ∧ ((SqL K H p ys ∧ ∀ (l : Addr), H l = none → Q (V.ref l) (upd H l (HO.tup ys))) ∨ SqT K H p ys ∧ Q (V.ref p) H)) (tCons ta tNil) σ) (rTup Q) :=
  Go.bindE ha (fun _ _ h => h) fun x L1 e1 ⟨p, vs, h1, h2, h3⟩ => by
    subst h1
    rcases h2 with h2 | h2
    · exact fun H ok R q => ⟨p, vs, rfl, Or.inl ⟨SqL.of (ok.1 p _ h2), fun l hl => q _ _ _ (Stp.new ok hl) ⟨l, vs, rfl, upd_same, g.up _ _ _ (Evl.Ex.new (none_of ok.1 hl)) h3⟩⟩⟩
    · exact fun H ok R q => ⟨p, vs, rfl, Or.inr ⟨SqT.of (ok.1 p _ h2), q _ L1 H (Stp.refl ok) ⟨p, vs, rfl, h2, h3⟩⟩⟩
theorem gtupNil (ha : Go T L (ta σ) (fun v _ => ∃ a, v = .ref a ∧ ∀ H, SqT K H a [])) : Go T L (tCB (fun xs H Q => ∃ p ys, xs = [V.ref p] ∧ ((SqL K H p ys ∧ ∀ (l : Addr), H l = none → Q (V.ref l) (upd H l (HO.tup ys))) ∨ SqT K H p ys ∧ Q (V.ref p) H)) (tCons ta tNil) σ) rAll :=
  Go.bindE ha (fun _ _ h => h) fun x L1 e1 ⟨p, h1, h2⟩ => by
    subst h1
    exact fun H ok R q => ⟨p, [], rfl, Or.inr ⟨h2 H, q _ L1 H (Stp.refl ok) trivial⟩⟩
theorem gptup (ha : Go T L (ta σ) (rArg K w)) : Go T L (tCB (fun xs H Q => ∃ p ys, xs = [V.ref p] ∧ ((SqL K H p ys ∧ ∀ (l : Addr), H l = none → Q (V.ref l) (upd H l (HO.tup ys))) ∨ SqT K H p ys ∧ Q (V.ref p) H)) (tCons ta tNil) σ) (rPt K w) := by
  cases w with
  | plus x y => exact gtupSq ha
  | cut x y => exact gtupSq ha
  | _ => exact gtupNil ha
theorem glenNil (ha : Go T L (ta σ) (fun v _ => ∃ a, v = .ref a ∧ ∀ H, SqT K H a [])) : Go T L (tCB (fun xs H Q => ∃ p ys, xs = [V.ref p] ∧ (SqL K H p ys ∨ SqT K H p ys) ∧ Q (V.int ys.length) H) (tCons ta tNil) σ) (rInt 0) :=
  Go.bindE ha (fun _ _ h => h) fun x L1 e1 ⟨p, h1, h2⟩ => by
    subst h1
    exact fun H ok R q => ⟨p, [], rfl, Or.inr (h2 H), q _ L1 H (Stp.refl ok) rfl⟩
theorem len_2 {Ra Rb : Rep} {vs : List V} (h : aCons Ra (aCons Rb aNil) vs L) : vs.length = 2 := by
  obtain ⟨a, b, rfl, _, _⟩ := a2 h
  rfl
theorem gplen (ha : Go T L (ta σ) (rArg K w)) : Go T L (tCB (fun xs H Q => ∃ p ys, xs = [V.ref p] ∧ (SqL K H p ys ∨ SqT K H p ys) ∧ Q (V.int ys.length) H) (tCons ta tNil) σ) (rInt (if w.leaf = true then 0 else 2)) := by
  cases w with
  | plus x y => exact glen (n := 2) ha fun vs L' h => len_2 h
  | cut x y => exact glen (n := 2) ha fun vs L' h => len_2 h
  | _ => exact glenNil ha
theorem sg_in (w : WT) : inV (V.str w.sg) [.str "a", .str "b", .str "c", .str "0", .str "1"] = w.leaf := by
  cases w with
  | plus _ _ => show inV (V.str "+") [.str "a", .str "b", .str "c", .str "0", .str "1"] = false; decide +kernel
  | cut _ _ => show inV (V.str "&") [.str "a", .str "b", .str "c", .str "0", .str "1"] = false; decide +kernel
  | _ => decide +kernel
theorem sg_in7 (w : WT) : inV (V.str w.sg) ([.str "a", .str "b", .str "c", .str "0", .str "1"] ++ [.str "+", .str "&"]) = true := by
  cases w with
  | plus _ _ => show inV (V.str "+") _ = true; decide +kernel
  | cut _ _ => show inV (V.str "&") _ = true; decide +kernel
  | _ => decide +kernel
end
section
variable {P : Program} {w : World} {K : PySem.W.Frag} {mg : Str → Option Value} {base : Heap}
def spHand (K : PySem.W.Frag) : Sp := spR (fun q : Trp × WT => aAnd (q.2 = .a ∨ q.2 = .b ∨ q.2 = .c) (aCons (rTri K q.1) (aCons (rV (.str q.2.sg)) aNil))) (fun q => rSp K (q.1.sp (q.2.val q.1)))
theorem n_Triple_getitem (F : Cs K mg) : FnB P w K mg base 1 (mA K "Triple" "__getitem__") (spHand K) [] := by
  refine fnG (N := ["self", "hand"]) (ps := ["self", "hand"]) F.item (fun _ _ _ _ _ _ us hl => match us, hl with | [_, _], _ => rfl) (by decide +kernel) (len1 fun _ _ _ h => lC h.2 (fun _ h => lC h (fun _ => l0))) ?_
  rintro f cdv A outer s H vs Q E hr ⟨x, L, e, ⟨pre, ha⟩, k⟩
  have nd := (fnScope_by (N := ["self", "hand"]) (P := ["self", "hand"]) (sc := fnScope (metS 56 2)) (by decide +kernel)).nd
  have ok := ok0 e
  have hu := hu_of hr
  have hu0 := hr.units0
  have hu64 := hr.units
  obtain ⟨ps, gp, hp⟩ := F.HANDS.ex
  refine ⟨_, (pss_cons (ps_if (PW.pt (pw_or (pt_not (pt_val (pe_callB (kisi K rfl) rfl F.isinstance bt_isinstance (pa_cons (pv 1) (pa_cons (pe_bltn (v := .ty "str") rfl F.str bt_str rfl) pa_nil))))) (pw_or1 (pt_cmpR (kop_notIn K rfl) (pv 1) (pe_gc (v := .ref ps) rfl ⟨_, gp, rfl⟩) (by with_unfolding_all rfl))))) pss_never pss_nil)
  (pss_cons (ps_if (pt_cmpR op_eq (pv 1) pe_str (nomark _)) (pss_one (ps_ret (kfld K rfl (pv 0) rfl))) pss_nil)
  (pss_one (ps_ret (pe_ifExp (pt_cmpR op_eq (pv 1) pe_str (nomark _)) (kfld K rfl (pv 0) rfl) (kfld K rfl (pv 0) rfl)))))), ?_⟩
  obtain ⟨v1, v2, rfl, h1, h2⟩ := a2 ha
  obtain ⟨t, w⟩ := x
  have h1 : rTri K t v1 L := h1
  obtain rfl : v2 = .str w.sg := h2
  have pre : w = .a ∨ w = .b ∨ w = .c := pre
  refine gNot ok (Stp.refl ok) (b := false) (geqT (gor (a := false) (geqT (gnot (gB (gisiStr (gv (R := rV (.str w.sg)) (i := 1) rfl rfl) (gc rfl) (b := true) (by decide +kernel)))) rfl) fun _ => gtest (geqB (c := false) (gin hp (gv (R := rV (.str w.sg)) (i := 1) rfl rfl) (gc rfl) rfl rfl) ?h)) rfl) rfl fun L1 H1 S1 s1 => ?_
  case h => rcases pre with rfl | rfl | rfl <;> decide +kernel
  have tst : ∀ {s : Str} {L2 : Hp}, Go T0 L2 (tTest (tOp rEq (tVar 1) (tC (.str s))) [some v1, some (.str w.sg)]) (rB (decide (V.str w.sg = V.str s))) := fun {s L2} => gtest (geq (gv (R := rV (.str w.sg)) (i := 1) rfl rfl) (gc rfl) rfl rfl)
  have cA' : ∀ {L2 : Hp}, Ex L L2 → Go T0 L2 (tVar 0 [some v1, some (.str w.sg)]) (rTri K t) := fun e2 => gv rfl (up e2 h1)
  refine gWhen ok S1 tst (fun hb L2 H2 S2 s2 => ?_) (fun hb L2 H2 S2 s2 => ?_)
  · have hw : w = .a := by
      rcases pre with rfl | rfl | rfl
      · rfl
      · exact absurd hb (by decide +kernel)
      · exact absurd hb (by decide +kernel)
    subst hw
    exact gEnd ok S2 k (gta F (cA' (s1.ll.trans s2.ll)))
  · refine gEnd ok S2 k (gif tst (fun hb2 => ?_) (fun hb2 => ?_))
    · have hw : w = .b := by
        rcases pre with rfl | rfl | rfl
        · exact absurd hb (by decide +kernel)
        · rfl
        · exact absurd hb2 (by decide +kernel)
      subst hw
      exact gtb F (cA' (s1.ll.trans s2.ll))
    · have hw : w = .c := by
        rcases pre with rfl | rfl | rfl
        · exact absurd hb (by decide +kernel)
        · exact absurd hb2 (by decide +kernel)
        · rfl
      subst hw
      exact gtc F (cA' (s1.ll.trans s2.ll))
def spInitW (K : PySem.W.Frag) : Sp := spN (cA K "Word") (fun w : WT => aAnd True (aCons (rV (.str w.sg)) (aCons (rArg K w) aNil))) (fun w => rWT K w)
theorem n_Word_init (F : Cs K mg) {f : Addr} {fd : FuncData} {ds : List Value} {dvs dv : List V} (G : FunD K "__init__" "Word.__init__" (fnArgs (metS 51 0)) (fnBody (metS 51 0)) (fnScope (metS 51 0)) dv [] f fd) (b : Binds K fd ["self", "sign", "parts"] ds) (d : Vals dvs ds) : FnB P w K mg base 1 f (spInitW K) dvs := by
  refine fnM (N := ["self", "sign", "parts"]) (ps := ["self", "sign", "parts"]) G b d (by decide +kernel) (lenN fun _ _ _ h => lC h.2 (fun _ h => lC h (fun _ => l0))) ?_
  rintro cdv A outer s H vs Q E hr ⟨x, L, H1, ob, dx, ws, rfl, nx, ndx, ne, rfl, e, ⟨pre, ha⟩, k⟩
  have nd := (fnScope_by (N := ["self", "sign", "parts"]) (P := ["self", "sign", "parts"]) (sc := fnScope (metS 51 0)) (by decide +kernel)).nd
  have ok := ok0 e
  have hu := hu_of hr
  have hu0 := hr.units0
  have hu64 := hr.units
  obtain ⟨ps, gp, hp⟩ := F.PLAIN_SIGNS.ex
  refine ⟨_, (pss_cons (ps_if (PW.pt (pw_or (pt_not (pt_val (pe_callB (kisi K rfl) rfl F.isinstance bt_isinstance (pa_cons (pv 1) (pa_cons (pe_bltn (v := .ty "str") rfl F.str bt_str rfl) pa_nil))))) (pw_or1 (pt_cmpR (kop_notIn K rfl) (pv 1) (pe_tup (kpa_star K rfl (pe_gc (v := .ref ps) rfl ⟨_, gp, rfl⟩) (pa_cons pe_str (pa_cons pe_str pa_nil)))) (by with_unfolding_all rfl))))) pss_never pss_nil)
  (pss_cons (ps_if (pt_cmpR op_ne (pe_callB (klen K rfl) rfl F.len bt_len (pa_cons (pv 2) pa_nil)) (pe_ifExp (pt_cmpR (kop_in K rfl) (pv 1) (pe_gc (v := .ref ps) rfl ⟨_, gp, rfl⟩) (by with_unfolding_all rfl)) pe_int pe_int) (nomark _)) pss_never pss_nil)
  (pss_cons (ps_fld (pv 0) (pv 1) rfl)
  (pss_one (ps_fld (pv 0) (pe_callTy (ktuple K rfl) rfl F.tuple bt_tuple (pa_cons (pv 2) pa_nil)) rfl))))), ?_⟩
  obtain ⟨v1, v2, rfl, h1, h2⟩ := a2 ha
  obtain rfl : v1 = .str x.sg := h1
  have h2 : rArg K x v2 L := h2
  have g2 : Gr (rArg K x) := ⟨fun v H H' e h => by
    cases x with
    | plus a b => exact Gr.up (R := rSq (aCons (rWT K a) (aCons (rWT K b) aNil))) v H H' e h
    | cut a b => exact Gr.up (R := rSq (aCons (rWT K a) (aCons (rWT K b) aNil))) v H H' e h
    | _ => exact h⟩
  have g3 : Gr (rPt K x) := ⟨fun v H H' e h => by
    cases x with
    | plus a b => exact Gr.up (R := rPr (rWT K a) (rWT K b)) v H H' e h
    | cut a b => exact Gr.up (R := rPr (rWT K a) (rWT K b)) v H H' e h
    | _ => exact h⟩
  have Sa : Stp T0 L H1 L (upd (upd H1 dx (.own ob)) ob (.ins (cA K "Word") dx [])) := (Stp.refl ok).trans (Stp.grow ok ((Evl.Ex.new ndx).trans (Evl.Ex.new (by rw [upd_ne (Ne.symm ne)]; exact nx))))
  have pv0 : Prv H1 L (upd (upd H1 dx (.own ob)) ob (.ins (cA K "Word") dx [])) ob (.ins (cA K "Word") dx []) := ⟨nx, none_of e nx, upd_same⟩
  refine gNot ok Sa (b := false) (geqT (gor (a := false) (geqT (gnot (gB (gisiStr (gv (R := rV (.str x.sg)) (i := 1) rfl rfl) (gc rfl) (b := true) (by decide +kernel)))) rfl) fun _ => gtest (ginD (b := false) (gv (R := rV (.str x.sg)) (i := 1) rfl rfl) (gtup (gstarV hp (gaL (R := rV) (gc rfl) (gaL (R := rV) (gc rfl) ga0L))) (pd_len (m := 100000) (by show 7 ≤ 100000; decide))) rfl rfl (by rw [sg_in7]; rfl))) rfl) rfl fun L2 H2 S2 s2 => ?_
  refine gNot ok S2 (b := false) (gtest (gne (gplen (gv (R := rArg K x) (i := 2) rfl (Gr.up v2 _ _ s2.ll h2))) (gif (R := rInt (if x.leaf = true then 0 else 2)) (gtest (geqB (gin hp (gv (R := rV (.str x.sg)) (i := 1) rfl rfl) (gc rfl) rfl rfl) (sg_in x))) (fun hb => gc (by rw [if_pos hb])) (fun hb => gc (by rw [if_neg (by rw [hb]; exact Bool.false_ne_true)]))) rfl (b := false) (by simp))) rfl fun L3 H3 S3 s3 => ?_
  refine gFld F.Word.cls (F.na ("Word", "sign") (by decide)) ok S3 rfl ((pv0.step ok s2).step ok s3) (by show 0 < 1000; decide) (gv (R := rV (.str x.sg)) (i := 1) rfl rfl) fun w1 L5 H5 S5 e5 r5 pv5 => ?_
  obtain rfl : w1 = .str x.sg := r5
  refine gFld1 F.Word.cls (F.na ("Word", "parts") (by decide)) ok S5 rfl pv5 (by show 1 < 1000; decide) (gptup (gv (R := rArg K x) (i := 2) rfl (Gr.up v2 _ _ (s2.ll.trans (s3.ll.trans e5)) h2))) fun w2 L6 H6 S6 e6 r6 pv6 => ?_
  refine k _ _ (S6.pub pv6) ?_
  show rWT K x (V.ref ob) _
  rw [rWT_eq]
  exact ⟨ob, dx, w2, rfl, upd_same, g3.up _ _ _ pv6.ex r6⟩
theorem i_Word_2 (F : Cs K mg) : FnB P w K mg base 1 (mA K "Word" "__init__") (spInitW K) [] := by
  obtain ⟨e0, G, _⟩ := F.iWord
  obtain ⟨fd, FD⟩ := G.fn
  obtain ⟨ds, d, b⟩ := FD.binds1 (ps := ["self", "sign", "parts"]) 3 1 (by simp) rfl (fun T kV doc pm an cdv ct us its hu hi => match us, its, hu, hi with | [_, _, _], [_], _, _ => ⟨_, rfl, rfl⟩)
  obtain rfl := vals_nil d
  exact n_Word_init F FD b .nil
theorem i_Word_1 (F : Cs K mg) : ∃ e0, FnB P w K mg base 1 (mA K "Word" "__init__") (spInitW K) [.ref e0] ∧ ∀ H, SqT K H e0 [] := by
  obtain ⟨e0, G, h⟩ := F.iWord
  obtain ⟨fd, FD⟩ := G.fn
  obtain ⟨ds, d, b⟩ := FD.binds1 (ps := ["self", "sign", "parts"]) 2 0 (by simp) rfl (fun T kV doc pm an cdv ct us its hu hi => match us, its, hu, hi with | [_, _], [_], _, _ => ⟨_, rfl, rfl⟩)
  exact ⟨e0, n_Word_init F FD b d, h⟩
end
end HW
/-! part W21 -/
set_option maxHeartbeats 4000000
/-! A word's value. -/
namespace HW
open PySem PySem.Spec PyProof.Rows L2 HR HV C8
open Evl (Ex)
open HM (CW)
section
variable {P : Program} {w : World} {K : PySem.W.Frag} {mg : Str → Option Value} {base : Heap}
def WT.hand : WT → Bool
  | .a => true
  | .b => true
  | .c => true
  | _ => false
theorem sg_hand (w : WT) : inV (V.str w.sg) [.str "a", .str "b", .str "c"] = w.hand := by
  cases w with
  | plus _ _ => show inV (V.str "+") [.str "a", .str "b", .str "c"] = false; decide +kernel
  | cut _ _ => show inV (V.str "&") [.str "a", .str "b", .str "c"] = false; decide +kernel
  | _ => decide +kernel
def WT.nil : WT → Bool
  | .zero => true
  | _ => false
def WT.all : WT → Bool
  | .one => true
  | _ => false
def WT.add : WT → Bool
  | .plus _ _ => true
  | _ => false
theorem sg_nil (w : WT) : decide (V.str w.sg = V.str "0") = w.nil := by
  cases w with
  | plus _ _ => show decide (V.str "+" = V.str "0") = false; decide +kernel
  | cut _ _ => show decide (V.str "&" = V.str "0") = false; decide +kernel
  | _ => decide +kernel
theorem sg_all (w : WT) : decide (V.str w.sg = V.str "1") = w.all := by
  cases w with
  | plus _ _ => show decide (V.str "+" = V.str "1") = false; decide +kernel
  | cut _ _ => show decide (V.str "&" = V.str "1") = false; decide +kernel
  | _ => decide +kernel
theorem sg_add (w : WT) : decide (V.str w.sg = V.str "+") = w.add := by
  cases w with
  | plus _ _ => show decide (V.str "+" = V.str "+") = true; decide +kernel
  | cut _ _ => show decide (V.str "&" = V.str "+") = false; decide +kernel
  | _ => decide +kernel
theorem WT.val_red {t : Trp} (h : t.ok) : ∀ w : WT, HM.Red t.p t.n (w.val t)
  | .zero => HM.Red.nil
  | .one => HM.wholeRows_red h.a.1
  | .a => h.a.2.2
  | .b => h.b.2.2
  | .c => h.c.2.2
  | .plus x y => HM.addRows_red h.a.1 (WT.val_red h x) (WT.val_red h y)
  | .cut x y => HM.meetRows_red h.a.1 (WT.val_red h x) (WT.val_red h y)
theorem WT.val_ok {t : Trp} (h : t.ok) (w : WT) : (t.sp (w.val t)).ok := ⟨h.a.1, h.a.2.1, w.val_red h⟩
section
variable {T : Tap} {L H : Hp} {σ : L2.St} {ta tb : TE} {ι : Type} {Ra Rb : Rep}
theorem gownIx {C : Addr} {A : ι → RepA} {R : ι → Rep} {E : XK} (i : ι) [ga : Gr Ra] [gb : Gr Rb] (ha : Go T L (ta σ) Ra) (hb : Go T L (tb σ) Rb) (h1 : ∀ x L', Ra x L' → ∃ a dx fs, x = .ref a ∧ L' a = some (.ins C dx fs))
    (h : ∀ x y L', Ex L L' → Ra x L' → Rb y L' → A i [x, y] L') : Go T L (tOp (rOwnIx C (spR A R) E) ta tb σ) (R i) := gop ha hb fun x y L' e rx ry => by
  obtain ⟨a, dx, fs, e1, e2⟩ := h1 x L' rx
  subst e1
  exact fun H ok Q q => ⟨a, dx, fs, rfl, ok.1 a _ e2, gsp (T := T) (E := E) i (h _ _ L' e rx ry) H ok Q q⟩
theorem g_unl2 {i j : Nat} {Q : L2.St → Hp → Prop} {R : ι → Rep} {a b : ι} {x : V} (e : Ex L H) (h : rLs R [a, b] x L) (k : ∀ u w, R a u L → R b w L → Q ((σ.set i (some u)).set j (some w)) H) : gUnl K 2 (gCons (gName i) (gCons (gName j) gNil)) x σ H Q := by
  obtain ⟨p, vs, h1, h2, h3⟩ := h
  match vs, h3 with
  | [u, w], ⟨r1, r2, _⟩ => exact ⟨p, _, h1, SqL.of (e p _ h2), rfl, u, [w], rfl, w, [], rfl, rfl, k u w r1 r2⟩
theorem two_of {R : ι → Rep} {a b : ι} {v : V} (h : rPr (R a) (R b) v L) : rTs R [a, b] v L := by
  obtain ⟨p, vs, h1, h2, h3⟩ := h
  obtain ⟨u, w, rfl, r1, r2⟩ := a2 h3
  exact ⟨p, _, h1, h2, r1, r2, trivial⟩
end
def spValue (K : PySem.W.Frag) (d : Nat) : Sp := spR (fun q : WT × Trp => aAnd (q.2.ok ∧ q.1.dp < d) (aCons (rWT K q.1) (aCons (rTri K q.2) aNil))) (fun q => rSp K (q.2.sp (q.1.val q.2)))
theorem c_value_0 (F : Cs K mg) : Cal P w K mg base 8 "value" (spValue K 0) [] := by
  refine calG (k := 7) (N := ["word", "triple", "first", "second", "part"]) (ps := ["word", "triple"]) F.d_value (fun _ _ _ _ _ _ us hl => match us, hl with | [_, _], _ => rfl) (by decide +kernel) (len1 fun _ _ _ h => lC h.2 (fun _ h => lC h (fun _ => l0))) ?_
  rintro f cdv A outer s H vs Q E hr ⟨x, L, e, ⟨pre, ha⟩, k⟩
  exact absurd pre.2 (Nat.not_lt_zero _)
theorem c_value_s (F : Cs K mg) (d : Nat) (ih : Cal P w K mg base (8 + d) "value" (spValue K d) []) : Cal P w K mg base (8 + (d + 1)) "value" (spValue K (d + 1)) [] := by
  refine calG (k := 8 + d) (N := ["word", "triple", "first", "second", "part"]) (ps := ["word", "triple"]) F.d_value (fun _ _ _ _ _ _ us hl => match us, hl with | [_, _], _ => rfl) (by decide +kernel) (len1 fun _ _ _ h => lC h.2 (fun _ h => lC h (fun _ => l0))) ?_
  rintro f cdv A outer s H vs Q E hr ⟨x, L, e, ⟨pre, ha⟩, k⟩
  have nd := (fnScope_by (N := ["word", "triple", "first", "second", "part"]) (P := ["word", "triple"]) (sc := fnScope (topS 57)) (by decide +kernel)).nd
  have ok := ok0 e
  have hu := hu_of hr
  have hu0 := hr.units0
  have hu64 := hr.units
  obtain ⟨ps, gp, hp⟩ := F.HANDS.ex
  refine ⟨_, (pss_cons (ps_if (pt_cmpR (kop_in K rfl) (kfld K rfl (pv 0) rfl) (pe_gc (v := .ref ps) rfl ⟨_, gp, rfl⟩) (by with_unfolding_all rfl)) (pss_one (ps_ret (oIx K rfl F.item.me F.fiT (n_Triple_getitem F) hr (by omega) (pv 1) (kfld K rfl (pv 0) rfl)))) pss_nil)
  (pss_cons (ps_if (pt_cmpR op_eq (kfld K rfl (pv 0) rfl) pe_str (nomark _)) (pss_one (ps_ret (pe_cm K rfl (k_Space_nothing F) hr (by omega) (pe_gc (v := .ref (cA K "Space")) rfl ⟨_, F.Space.mg, rfl⟩) (pa_cons (kfld K rfl (pv 1) rfl) (pa_cons (kfld K rfl (pv 1) rfl) pa_nil))))) pss_nil)
  (pss_cons (ps_if (pt_cmpR op_eq (kfld K rfl (pv 0) rfl) pe_str (nomark _)) (pss_one (ps_ret (pe_cm K rfl (k_Space_whole F) hr (by omega) (pe_gc (v := .ref (cA K "Space")) rfl ⟨_, F.Space.mg, rfl⟩) (pa_cons (kfld K rfl (pv 1) rfl) (pa_cons (kfld K rfl (pv 1) rfl) pa_nil))))) pss_nil)
  (pss_cons (ps_asg (pe_lc (own := [("part", 4)]) rfl nd (kpi_tup K rfl (kfld K rfl (pv 0) rfl)) (blkOk_by (N := ["word", "triple", "first", "second", "part"]) (sc := fnScope (topS 57)) (by decide +kernel)) (fun _ _ _ _ _ => (pg_name (i := 4) nd rfl (Or.inl rfl))) (fun _ _ _ _ _ => pts_nil) (fun _ _ _ _ _ => (pe_c ih hr (Nat.le_refl _) rfl (pa_cons (pv 4) (pa_cons (pv 1) pa_nil))))) (pg_unl (n := 2) rfl (pgs_cons (pg_name (i := 2) nd rfl (by first | exact Or.inl rfl | exact Or.inr rfl)) (pgs_cons (pg_name (i := 3) nd rfl (by first | exact Or.inl rfl | exact Or.inr rfl)) pgs_nil))))
  (pss_one (ps_ret (pe_ifExp (pt_cmpR op_eq (kfld K rfl (pv 0) rfl) pe_str (nomark _)) (pe_op (oB K rfl F.sfS F.sAdd.me (n_Space_add F) hr (by omega)) (pv 2) (pv 3)) (pe_op (oB K rfl F.sfS F.sAnd.me (n_Space_and F) hr (by omega)) (pv 2) (pv 3))))))))), ?_⟩
  obtain ⟨u, t⟩ := x
  obtain ⟨ht, hd⟩ := pre
  have ht : t.ok := ht
  obtain ⟨v1, v2, rfl, h1', h2'⟩ := a2 ha
  have h1 : rWT K u v1 L := h1'
  have h2 : rTri K t v2 L := h2'
  clear h1' h2' ha
  refine gWhen ok (Stp.refl ok) (b := u.hand) (gtest (geqB (gin hp (gwsign F (gv rfl h1)) (gc rfl) rfl rfl) (sg_hand u))) (fun hb L1 H1 S1 s1 => ?_) fun hb L1 H1 S1 s1 => ?_
  · refine gEnd ok S1 k (gownIx (R := fun q : Trp × WT => rSp K (q.1.sp (q.2.val q.1))) (t, u) (gv (R := rTri K t) rfl (up s1.ll h2)) (gwsign F (gv rfl (up s1.ll h1))) (fun _ _ => rTri_ins) fun x y L' _ hx hy => ⟨?_, x, [y], rfl, hx, y, [], rfl, hy, rfl⟩)
    cases u with
    | a => exact Or.inl rfl
    | b => exact Or.inr (Or.inl rfl)
    | c => exact Or.inr (Or.inr rfl)
    | _ => cases hb
  have h1 := up s1.ll h1
  have h2 := up s1.ll h2
  refine gWhen ok S1 (b := u.nil) (gtest (geq (gwsign F (gv rfl h1)) (gc rfl) rfl (sg_nil u))) (fun hb2 L2 H2 S2 s2 => ?_) fun hb2 L2 H2 S2 s2 => ?_
  · have hu0 : u = .zero := by
      cases u with
      | zero => rfl
      | _ => cases hb2
    subst hu0
    exact gEnd ok S2 k (gcm (R := fun q : Int × Nat => rSp K ⟨q.1, q.2, []⟩) (t.p, t.n) ⟨ht.a.1, ht.a.2.1⟩ (gc rfl) (gaC (gtp F (gv rfl (up s2.ll h2))) (gaC (gtn F (gv rfl (up s2.ll h2))) ga0)))
  have h1 := up s2.ll h1
  have h2 := up s2.ll h2
  refine gWhen ok S2 (b := u.all) (gtest (geq (gwsign F (gv rfl h1)) (gc rfl) rfl (sg_all u))) (fun hb3 L3 H3 S3 s3 => ?_) fun hb3 L3 H3 S3 s3 => ?_
  · have hu0 : u = .one := by
      cases u with
      | one => rfl
      | _ => cases hb3
    subst hu0
    exact gEnd ok S3 k (gcm (R := fun q : Int × Nat => rSp K ⟨q.1, q.2, HM.wholeRows q.1 q.2⟩) (t.p, t.n) ⟨ht.a.1, ht.a.2.1⟩ (gc rfl) (gaC (gtp F (gv rfl (up s3.ll h2))) (gaC (gtn F (gv rfl (up s3.ll h2))) ga0)))
  have h1 := up s3.ll h1
  have h2 := up s3.ll h2
  have body : ∀ {x y : WT}, x.dp < d → y.dp < d → Go T0 L3 (tFld K (tVar 0) "parts" [some v1, some v2, none, none, none]) (rPr (rWT K x) (rWT K y)) → Go T0 L3 (tLc (iTup K (tFld K (tVar 0) "parts")) (gName 4) tYes (tCall (spValue K d) [] C8.E0 (tCons (tVar 4) (tCons (tVar 1) tNil))) [4] [some v1, some v2, none, none, none]) (rLs (fun w : WT => rSp K (t.sp (w.val t))) [x, y]) := fun {x y} hx hy hg =>
    glc1 (Z := fun w : WT => rSp K (t.sp (w.val t))) (ys := [x, y]) id (gi_tup (Y := rWT K) (hg.imp fun _ _ _ h => two_of h)) (by show 2 ≤ 40000; decide) (fun _ => rfl) fun a xa L4 ha e4 hxa => gcp (R := fun q : WT × Trp => rSp K (q.2.sp (q.1.val q.2))) (a, t) ⟨ht, by
      rcases List.mem_cons.mp ha with h | h
      · rw [h]; exact hx
      · rw [List.mem_singleton.mp h]; exact hy⟩ (gaC (gv rfl hxa) (gaC (gv rfl (up e4 h2)) ga0))
  cases u with
  | plus x y =>
    have hdm : x.dp < d ∧ y.dp < d := by
      have : max x.dp y.dp + 1 < d + 1 := hd
      omega
    refine gAsgG ok S3 (body hdm.1 hdm.2 (gwparts (s := "+") F (gv rfl h1))) fun v4 L4 H4 S4 s4 r4 => ?_
    refine g_unl2 S4.lh r4 fun w1 w2 hw1 hw2 => ?_
    exact gEnd ok S4 k (gif (b := true) (gtest (geq (gwsign (w := .plus x y) F (gv rfl (up s4.ll h1))) (gc rfl) rfl (sg_add _))) (fun _ => gown2 (R := fun q : Spc × Spc => rSp K ⟨q.1.p, q.1.n, HM.addRows q.1.p q.1.rows q.2.rows⟩) (t.sp (x.val t), t.sp (y.val t)) ⟨x.val_ok ht, y.val_ok ht, rfl, rfl⟩ (gv rfl hw1) (gv rfl hw2) (fun _ _ => rSp_ins) (fun _ _ => rSp_ins)) fun z => nomatch z)
  | cut x y =>
    have hdm : x.dp < d ∧ y.dp < d := by
      have : max x.dp y.dp + 1 < d + 1 := hd
      omega
    refine gAsgG ok S3 (body hdm.1 hdm.2 (gwparts (s := "&") F (gv rfl h1))) fun v4 L4 H4 S4 s4 r4 => ?_
    refine g_unl2 S4.lh r4 fun w1 w2 hw1 hw2 => ?_
    exact gEnd ok S4 k (gif (b := false) (gtest (geq (gwsign (w := .cut x y) F (gv rfl (up s4.ll h1))) (gc rfl) rfl (sg_add _))) (fun z => nomatch z) fun _ => gown2 (R := fun q : Spc × Spc => rSp K ⟨q.1.p, q.1.n, HM.meetRows q.1.p q.1.n q.1.rows q.2.rows⟩) (t.sp (x.val t), t.sp (y.val t)) ⟨x.val_ok ht, y.val_ok ht, rfl, rfl⟩ (gv rfl hw1) (gv rfl hw2) (fun _ _ => rSp_ins) (fun _ _ => rSp_ins))
  | zero => cases hb2
  | one => cases hb3
  | a => cases hb
  | b => cases hb
  | c => cases hb
theorem c_value (F : Cs K mg) : ∀ d : Nat, Cal P w K mg base (8 + d) "value" (spValue K d) []
  | 0 => c_value_0 F
  | d + 1 => c_value_s F d (c_value F d)
end
end HW
/-! part W22 -/
set_option maxHeartbeats 4000000
/-! The reader of words. -/
namespace HW
open PySem PySem.Spec PyProof.Rows L2 HR HV C8
open Evl (Ex)
open HM (CW)
/-! ### the reader's mirror -/
def chr (s : Str) (i : Int) : Str := Txt.slice s (some i) (some (i + 1))
def skp (s : Str) : Nat → Int → Option Int
  | 0, _ => none
  | n + 1, i => if chr s i = " " then skp s n (i + 1) else some i
def leafOf (c : Str) : Option WT := if c = "a" then some .a else if c = "b" then some .b else if c = "c" then some .c else if c = "0" then some .zero else if c = "1" then some .one else none
abbrev Rds : Type := Int → Int → Option (WT × Int × Int)
def partF (s : Str) (rs : Rds) : Rds := fun i j =>
  match skp s 100 i with
  | none => none
  | some i1 =>
    if chr s i1 = "(" then
      if j = 9 then none else
      match rs (i1 + 1) (j + 1) with
      | none => none
      | some (w, i2, j2) => match skp s 100 i2 with
        | none => none
        | some i3 => if chr s i3 = ")" then some (w, i3 + 1, j2 - 1) else none
    else match leafOf (chr s i1) with
      | none => none
      | some w => some (w, i1 + 1, j)
def loopF (s : Str) (rd : Rds) (op : Str) (mk : WT → WT → WT) : Nat → WT → Rds
  | 0, _, _, _ => none
  | n + 1, w, i, j => match skp s 100 i with
    | none => none
    | some i1 => if chr s i1 = op then match rd (i1 + 1) j with
        | none => none
        | some (w2, i2, j2) => loopF s rd op mk n (mk w w2) i2 j2
      else some (w, i1, j)
def cutF (s : Str) (rs : Rds) : Rds := fun i j =>
  match partF s rs i j with
  | none => none
  | some (w, i1, j1) => loopF s (partF s rs) "&" .cut 20 w i1 j1
def sumF (s : Str) : Nat → Rds
  | 0 => fun _ _ => none
  | d + 1 => fun i j => match cutF s (sumF s d) i j with
    | none => none
    | some (w, i1, j1) => loopF s (cutF s (sumF s d)) "+" .plus 20 w i1 j1
def readF (s : Str) : Option WT := match sumF s 4 0 0 with
  | none => none
  | some (w, i, _) => match skp s 100 i with
    | none => none
    | some i1 => if chr s i1 = "" then some w else none
theorem read_try : readF "a & (b + c)" = some (.cut .a (.plus .b .c)) := by decide +kernel
theorem whl_t {b : Bool} {A B : Prop} (hb : b = true) (a : A) : (if b = true then A else B) := by rw [if_pos hb]; exact a
theorem whl_f {b : Bool} {A B : Prop} (hb : ¬ b = true) (a : B) : (if b = true then A else B) := by rw [if_neg hb]; exact a
/-! ### the reader -/
def rd (K : PySem.W.Frag) (dx : Addr) (s : Str) (i j : Int) : HO := .ins (cA K "Reader") dx [("source", .str s), ("spot", .int i), ("opened", .int j)]
def erase (H : Hp) (o : Addr) : Hp := fun a => if a = o then none else H a
theorem erase_ne {H : Hp} {o a : Addr} (h : a ≠ o) : erase H o a = H a := if_neg h
theorem erase_at {H : Hp} {o : Addr} : erase H o o = none := if_pos rfl
/-- a reader's method -/
def spM {ι : Type} (K : PySem.W.Frag) (st : ι → Str × Int × Int) (en : ι → Int × Int) (pre : ι → Prop) (R : ι → Rep) : Sp := fun vs H Q _ => ∃ (x : ι) (L : Hp) (o dx : Addr), vs = [.ref o] ∧ pre x ∧ Ex L H ∧ L o = none ∧ H o = some (rd K dx (st x).1 (st x).2.1 (st x).2.2) ∧
  ∀ v L' H', Stp T0 L (erase H o) L' H' → L' o = none → H' o = some (rd K dx (st x).1 (en x).1 (en x).2) → R x v L' → Q v H'
theorem lenM {ι : Type} {K : PySem.W.Frag} {st : ι → Str × Int × Int} {en : ι → Int × Int} {pre : ι → Prop} {R : ι → Rep} : ∀ vs H Q E, spM K st en pre R vs H Q E → vs.length = 1 := fun vs H Q E ⟨x, L, o, dx, e, _⟩ => by rw [e]; rfl
theorem st_erase {L H : Hp} {o : Addr} (e : Ex L H) (nl : L o = none) : Ok T0 L (erase H o) ∧ Stp T0 L (erase H o) L H := by
  have e2 : Ex (erase H o) H := fun a u h => by
    by_cases z : a = o
    · rw [z, erase_at] at h; cases h
    · rwa [erase_ne z] at h
  have e1 : Ex L (erase H o) := fun a u h => by
    have z : a ≠ o := fun z => by rw [z, nl] at h; cases h
    rw [erase_ne z]
    exact e a u h
  exact ⟨⟨e1, fun a t => t.elim⟩, ⟨Evl.Ex.refl L, e, fun a u h _ => e2 a u h, fun a u h m n => n, fun a t => t.elim⟩⟩
theorem Stp.call {L0 H0 L H L1 H1 : Hp} {o : Addr} (S : Stp T0 L0 H0 L H) (hp : H0 o = none) (s : Stp T0 L (erase H o) L1 H1) : Stp T0 L0 H0 L1 H1 :=
  ⟨S.ll.trans s.ll, s.lh, fun a u h t => by
    have z : a ≠ o := fun z => by rw [z, hp] at h; cases h
    exact s.hh a u (by rw [erase_ne z]; exact S.hh a u h t) t, fun a u h m n => by
    have z : a ≠ o := fun z => by rw [z, hp] at h; cases h
    exact s.nw a u (by rw [erase_ne z]; exact S.hh a u h (fun t => t.elim)) m (S.nw a u h m n), fun a t => t.elim⟩
section
variable {K : PySem.W.Frag} {mg : Str → Option Value} {L L0 H0 H : Hp} {σ : L2.St} {ta tb tc te : TE} {D : Ends} {o dx : Addr} {s : Str} {i j : Int} {jj : Nat}
/-- a call of a reader's method -/
theorem gRd {ι : Type} {st : ι → Str × Int × Int} {en : ι → Int × Int} {pre : ι → Prop} {R : ι → Rep} {m : Str} {E : XK} {Q : VK} (x : ι) (S : Stp T0 L0 H0 L H) (hj : σ[jj]? = some (some (.ref o))) (hp : Prv H0 L H o (rd K dx (st x).1 (st x).2.1 (st x).2.2)) (hm : ∀ a b c : V, List.lookup m [(("source" : Str), a), ("spot", b), ("opened", c)] = none) (hpre : pre x)
    (k : ∀ v L1 H1, Stp T0 L0 H0 L1 H1 → Ex L L1 → Prv H0 L1 H1 o (rd K dx (st x).1 (en x).1 (en x).2) → R x v L1 → Q v H1) : tMeth (cA K "Reader") m (spM K st en pre R) [] E (tVar jj) tNil σ H Q :=
  ⟨_, hj, o, dx, _, rfl, hp.at_, hm _ _ _, x, L, o, dx, rfl, hpre, S.lh, hp.nl, hp.at_, fun v L1 H1 s1 n1 a1 r1 => k v L1 H1 (Stp.call S hp.st s1) s1.ll ⟨hp.st, n1, a1⟩ r1⟩
/-- self.spot += 1 -/
theorem gSpot (F : Cs K mg) (ok : Ok T0 L0 H0) (S : Stp T0 L0 H0 L H) (hj : σ[jj]? = some (some (.ref o))) (hp : Prv H0 L H o (rd K dx s i j)) (k : ∀ H1, Stp T0 L0 H0 L H1 → Prv H0 L H1 o (rd K dx s (i + 1) j) → D.nx σ H1) : sFldAug K (tVar jj) (tC (.int 1)) rAdd "spot" D σ H :=
  ⟨_, hj, o, _, dx, _, .int i, rfl, hp.at_, F.Reader.cls, F.na ("Reader", "spot") (by decide), rfl, i, 1, rfl, rfl, dx, _, hp.at_, (by show 3 < 1000; decide), k _ (Stp.chg ok S hp) hp.set⟩
theorem gOpen (F : Cs K mg) (ok : Ok T0 L0 H0) (S : Stp T0 L0 H0 L H) (hj : σ[jj]? = some (some (.ref o))) (hp : Prv H0 L H o (rd K dx s i j)) (k : ∀ H1, Stp T0 L0 H0 L H1 → Prv H0 L H1 o (rd K dx s i (j + 1)) → D.nx σ H1) : sFldAug K (tVar jj) (tC (.int 1)) rAdd "opened" D σ H :=
  ⟨_, hj, o, _, dx, _, .int j, rfl, hp.at_, F.Reader.cls, F.na ("Reader", "opened") (by decide), rfl, j, 1, rfl, rfl, dx, _, hp.at_, (by show 3 < 1000; decide), k _ (Stp.chg ok S hp) hp.set⟩
theorem gShut (F : Cs K mg) (ok : Ok T0 L0 H0) (S : Stp T0 L0 H0 L H) (hj : σ[jj]? = some (some (.ref o))) (hp : Prv H0 L H o (rd K dx s i j)) (k : ∀ H1, Stp T0 L0 H0 L H1 → Prv H0 L H1 o (rd K dx s i (j - 1)) → D.nx σ H1) : sFldAug K (tVar jj) (tC (.int 1)) rSub "opened" D σ H :=
  ⟨_, hj, o, _, dx, _, .int j, rfl, hp.at_, F.Reader.cls, F.na ("Reader", "opened") (by decide), rfl, j, 1, rfl, rfl, dx, _, hp.at_, (by show 3 < 1000; decide), k _ (Stp.chg ok S hp) hp.set⟩
def rRd (K : PySem.W.Frag) (s : Str) (i j : Int) : Rep := fun v L => ∃ o dx, v = .ref o ∧ L o = some (rd K dx s i j)
instance : Gr (rRd K s i j) := ⟨fun v H H' e ⟨o, dx, h1, h2⟩ => ⟨o, dx, h1, e o _ h2⟩⟩
theorem grsource (F : Cs K mg) (h : Go T0 L (ta σ) (rRd K s i j)) : Go T0 L (tFld K ta "source" σ) (rV (.str s)) := gfld h fun x L' _ ⟨o, dx, h1, h2⟩ => ⟨o, _, dx, _, _, h1, h2, F.Reader.cls, F.na ("Reader", "source") (by decide), rfl, rfl⟩
theorem grspot (F : Cs K mg) (h : Go T0 L (ta σ) (rRd K s i j)) : Go T0 L (tFld K ta "spot" σ) (rInt i) := gfld h fun x L' _ ⟨o, dx, h1, h2⟩ => ⟨o, _, dx, _, _, h1, h2, F.Reader.cls, F.na ("Reader", "spot") (by decide), rfl, rfl⟩
theorem gropen (F : Cs K mg) (h : Go T0 L (ta σ) (rRd K s i j)) : Go T0 L (tFld K ta "opened" σ) (rInt j) := gfld h fun x L' _ ⟨o, dx, h1, h2⟩ => ⟨o, _, dx, _, _, h1, h2, F.Reader.cls, F.na ("Reader", "opened") (by decide), rfl, rfl⟩
theorem gslX {tl th : TO} {lo hi : Option Int} (ha : Go T0 L (ta σ) (rV (.str s))) (h1 : Go T0 L (tl σ) (rO lo)) (h2 : Go T0 L (th σ) (rO hi)) (hs : s.length ≤ 100000) : Go T0 L (tSl rSlX ta tl th σ) (rV (.str (Txt.slice s lo hi))) :=
  Go.bindE ha (fun _ _ h => h) fun x L1 e1 r1 => Go.bindE (Go.mono e1 h1) (fun _ _ h => h) fun o L2 e2 r2 => Go.bindE (Go.mono (e1.trans e2) h2) (fun _ _ h => h) fun o' L3 e3 r3 => fun H ok Q q => by
    have r2 : o = lo := r2
    have r3 : o' = hi := r3
    obtain rfl : x = .str s := r1
    subst r2 r3
    exact ⟨s, rfl, Evl.sz_of hs, q _ L3 H (Stp.refl ok) rfl⟩
theorem gchr (F : Cs K mg) (h : Go T0 L (ta σ) (rRd K s i j)) (hs : s.length ≤ 100000) : Go T0 L (tSl rSlX (tFld K ta "source") (tPart (tFld K ta "spot")) (tPart (tOp (rI0 fun i j => .int (i + j)) (tFld K ta "spot") (tC (.int 1)))) σ) (rV (.str (chr s i))) :=
  gslX (grsource F h) (go1 (grspot F h)) (go1 (gI0 (grspot F h) (gc rfl) rfl)) hs
end
section
variable {P : Program} {w : World} {K : PySem.W.Frag} {mg : Str → Option Value} {base : Heap}
def spPeek (K : PySem.W.Frag) : Sp := spM K (fun x : Str × Int × Int × Int => (x.1, x.2.1, x.2.2.1)) (fun x => (x.2.2.2, x.2.2.1)) (fun x => x.1.length ≤ 1000 ∧ skp x.1 100 x.2.1 = some x.2.2.2) (fun x => rV (.str (chr x.1 x.2.2.2)))
theorem n_Reader_peek (F : Cs K mg) : FnB P w K mg base 1 (mA K "Reader" "peek") (spPeek K) [] := by
  refine fnG (N := ["self"]) (ps := ["self"]) F.peek (fun _ _ _ _ _ _ us hl => match us, hl with | [_], _ => rfl) (by decide +kernel) (lenM) ?_
  rintro f cdv A outer s H vs Q E hr ⟨x, L, o, dx, rfl, pre, e, nl, at0, k⟩
  have nd := (fnScope_by (N := ["self"]) (P := ["self"]) (sc := fnScope (metS 54 1)) (by decide +kernel)).nd
  have ok := ok0 e
  have hu := hu_of hr
  have hu0 := hr.units0
  have hu64 := hr.units
  refine ⟨_, (pss_cons (ps_while PassesOwn.never (pt_cmpR op_eq (pe_slice sl_txt (kfld K rfl (pv 0) rfl) (po_some (kfld K rfl (pv 0) rfl)) (po_some (pe_op op_add (kfld K rfl (pv 0) rfl) pe_int))) pe_str (nomark _)) (pss_one (ps_fldaug (pv 0) pe_int in_add)))
  (pss_one (ps_ret (pe_slice sl_txt (kfld K rfl (pv 0) rfl) (po_some (kfld K rfl (pv 0) rfl)) (po_some (pe_op op_add (kfld K rfl (pv 0) rfl) pe_int)))))), ?_⟩
  obtain ⟨s, i, j, i'⟩ := x
  obtain ⟨hs, hk⟩ := pre
  have hs : s.length ≤ 1000 := hs
  have hk : skp s 100 i = some i' := hk
  obtain ⟨okE, SE⟩ := st_erase e nl
  have P0 : Prv (erase H o) L H o (rd K dx s i j) := ⟨erase_at, nl, at0⟩
  refine ⟨fun m σ' H' => ∃ i1 La, σ' = [some (.ref o)] ∧ Stp T0 L (erase H o) La H' ∧ Prv (erase H o) La H' o (rd K dx s i1 j) ∧ skp s m i1 = some i', ⟨100, i, L, rfl, SE, P0, hk⟩, ?_⟩
  rintro m σ' Ha ⟨i1, La, rfl, Sa, Pa, hk⟩
  refine gOwn (P := fun b => b = decide (V.str (chr s i1) = V.str " ")) okE Sa Pa (gtest (geq (gchr F (gv (i := 0) rfl ⟨o, dx, rfl, upd_same⟩) (by omega)) (gc rfl) rfl rfl)) fun b L1 H1 S1 e1 p1 hb => ?_
  subst hb
  by_cases hc : chr s i1 = " "
  · refine whl_t (decide_eq_true (congrArg V.str hc)) ?_
    cases m with
    | zero => cases hk
    | succ m =>
      have hk : skp s m (i1 + 1) = some i' := by
        unfold skp at hk
        rwa [if_pos hc] at hk
      exact ⟨fun σ' H' => ∃ i1 La, σ' = [some (.ref o)] ∧ Stp T0 L (erase H o) La H' ∧ Prv (erase H o) La H' o (rd K dx s i1 j) ∧ skp s m i1 = some i', fun σ2 H2 h => ⟨m, Nat.lt_succ_self m, h⟩, gSpot F okE S1 rfl p1 fun H2 S2 p2 => ⟨i1 + 1, L1, rfl, S2, p2, hk⟩⟩
  · refine whl_f (fun z => hc (V.str.inj (of_decide_eq_true z))) ?_
    have hi : i1 = i' := by
      cases m with
      | zero => cases hk
      | succ m =>
        unfold skp at hk
        rw [if_neg hc] at hk
        exact Option.some.inj hk
    subst hi
    exact gOwn (F := tSl rSlX (tFld K (tVar 0) "source") (tPart (tFld K (tVar 0) "spot")) (tPart (tOp (rI0 fun i j => .int (i + j)) (tFld K (tVar 0) "spot") (tC (.int 1)))) [some (.ref o)]) (P := fun v => v = .str (chr s i1)) okE S1 p1 (gchr F (gv (i := 0) rfl ⟨o, dx, rfl, upd_same⟩) (by omega)) fun v L2 H2 S2 e2 p2 hv => k v L2 H2 S2 p2.nl p2.at_ hv
def spRd (K : PySem.W.Frag) (f : Str → Rds) : Sp := spM K (fun x : Str × Int × Int × WT × Int × Int => (x.1, x.2.1, x.2.2.1)) (fun x => (x.2.2.2.2.1, x.2.2.2.2.2)) (fun x => x.1.length ≤ 1000 ∧ f x.1 x.2.1 x.2.2.1 = some x.2.2.2) (fun x => rWT K x.2.2.2.1)
theorem leaf_sg {c : Str} {w : WT} (h : leafOf c = some w) : w.sg = c ∧ w.leaf = true := by
  unfold leafOf at h
  by_cases h1 : c = "a"
  · rw [if_pos h1] at h; cases h; exact ⟨h1.symm, rfl⟩
  rw [if_neg h1] at h
  by_cases h2 : c = "b"
  · rw [if_pos h2] at h; cases h; exact ⟨h2.symm, rfl⟩
  rw [if_neg h2] at h
  by_cases h3 : c = "c"
  · rw [if_pos h3] at h; cases h; exact ⟨h3.symm, rfl⟩
  rw [if_neg h3] at h
  by_cases h4 : c = "0"
  · rw [if_pos h4] at h; cases h; exact ⟨h4.symm, rfl⟩
  rw [if_neg h4] at h
  by_cases h5 : c = "1"
  · rw [if_pos h5] at h; cases h; exact ⟨h5.symm, rfl⟩
  rw [if_neg h5] at h; cases h
theorem leaf_arg {w : WT} (h : w.leaf = true) : rArg K w = fun v _ => ∃ a, v = .ref a ∧ ∀ H, SqT K H a [] := by
  cases w with
  | plus _ _ => cases h
  | cut _ _ => cases h
  | _ => rfl
section
variable {L L0 H0 H : Hp} {σ : L2.St} {D : Ends} {o dx : Addr} {s : Str} {i j : Int}
/-- a word of two parts -/
theorem gnode {op : Str} {mk : WT → WT → WT} (hmk : ∀ a b, (mk a b).sg = op ∧ rArg K (mk a b) = rSq (aCons (rWT K a) (aCons (rWT K b) aNil))) {a b : WT} {u v : V} {E : XK} (hu : rWT K a u L) (hv : rWT K b v L) :
    Go T0 L (tMake (cA K "Word") (spInitW K) [] E (tCons (tC (.str op)) (tCons (tTup (tCons (tC u) (tCons (tC v) tNil))) tNil)) σ) (rWT K (mk a b)) :=
  gmkS (R := fun w : WT => rWT K w) (mk a b) trivial (by
    rw [(hmk a b).1, (hmk a b).2]
    exact gaC (gc rfl) (gaC (sqOfT (R := rV u) (gtup (gaC (gc hu) (gaC (gc hv) ga0)) fun vs L' h => by rw [len_2 h]; decide)) ga0))
/-- while self.peek() == op: .. ; return word -/
theorem gLoop (F : Cs K mg) {f : Str → Rds} {m op : Str} {mk : WT → WT → WT} {E : XK} (hmk : ∀ a b, (mk a b).sg = op ∧ rArg K (mk a b) = rSq (aCons (rWT K a) (aCons (rWT K b) aNil))) (hm : ∀ a b c : V, List.lookup m [(("source" : Str), a), ("spot", b), ("opened", c)] = none)
    (hs : s.length ≤ 1000) {w w' : WT} {i' j' : Int} {v : V} (ok : Ok T0 L0 H0) (S : Stp T0 L0 H0 L H) (hp : Prv H0 L H o (rd K dx s i j)) (hw : rWT K w v L) (hl : loopF s (f s) op mk 20 w i j = some (w', i', j'))
    (k : ∀ v L1 H1, Stp T0 L0 H0 L1 H1 → Prv H0 L1 H1 o (rd K dx s i' j') → rWT K w' v L1 → D.rt v H1) :
    tSeq (tWhile (tTest (tOp rEq (tMeth (cA K "Reader") "peek" (spPeek K) [] E (tVar 0) tNil) (tC (.str op)))) (tSeq (sFldAug K (tVar 0) (tC (.int 1)) rAdd "spot") (tAsg (tMake (cA K "Word") (spInitW K) [] E (tCons (tC (.str op)) (tCons (tTup (tCons (tVar 1) (tCons (tMeth (cA K "Reader") m (spRd K f) [] E (tVar 0) tNil) tNil))) tNil))) (gName 1)))) (tRet (tVar 1)) D [some (.ref o), some v] H := by
  refine ⟨fun n σ' H' => ∃ w i1 j1 v La, σ' = [some (.ref o), some v] ∧ Stp T0 L0 H0 La H' ∧ Prv H0 La H' o (rd K dx s i1 j1) ∧ rWT K w v La ∧ loopF s (f s) op mk n w i1 j1 = some (w', i', j'), ⟨20, w, i, j, v, L, rfl, S, hp, hw, hl⟩, ?_⟩
  rintro n σ' Ha ⟨w, i1, j1, v, La, rfl, Sa, pa, ha, hl⟩
  cases n with
  | zero => cases hl
  | succ n =>
    unfold loopF at hl
    cases hk : skp s 100 i1 with
    | none => rw [hk] at hl; cases hl
    | some i2 =>
      rw [hk] at hl
      refine gRd (st := fun x : Str × Int × Int × Int => (x.1, x.2.1, x.2.2.1)) (s, i1, j1, i2) Sa rfl pa (fun _ _ _ => rfl) ⟨hs, hk⟩ fun c L1 H1 S1 e1 p1 hc => ?_
      obtain rfl : c = .str (chr s i2) := hc
      refine ⟨rfl, _, rfl, ?_⟩
      by_cases hb : chr s i2 = op
      · refine whl_t (decide_eq_true (congrArg V.str hb)) ?_
        have hl : (match f s (i2 + 1) j1 with
          | none => none
          | some (w2, i3, j3) => loopF s (f s) op mk n (mk w w2) i3 j3) = some (w', i', j') := by
          have := hl
          dsimp only at this
          rwa [if_pos hb] at this
        cases hr : f s (i2 + 1) j1 with
        | none => rw [hr] at hl; cases hl
        | some r =>
          obtain ⟨w2, i3, j3⟩ := r
          rw [hr] at hl
          refine ⟨fun σ' H' => ∃ w i1 j1 v La, σ' = [some (.ref o), some v] ∧ Stp T0 L0 H0 La H' ∧ Prv H0 La H' o (rd K dx s i1 j1) ∧ rWT K w v La ∧ loopF s (f s) op mk n w i1 j1 = some (w', i', j'), fun σ2 H2 h => ⟨n, Nat.lt_succ_self n, h⟩, ?_⟩
          refine gSeqT (gSpot F ok S1 rfl p1 fun H2 S2 p2 => ?_)
          refine ⟨v, rfl, gRd (st := fun x : Str × Int × Int × WT × Int × Int => (x.1, x.2.1, x.2.2.1)) (s, i2 + 1, j1, w2, i3, j3) S2 rfl p2 hm ⟨hs, hr⟩ fun y L3 H3 S3 e3 p3 r3 => ?_⟩
          have r3 : rWT K w2 y L3 := r3
          exact gnode (op := op) (mk := mk) (E := E) (σ := [some (.ref o), some v]) hmk (HV.up (e1.trans e3) ha) r3 H3 (S3.ok ok) (fun z H4 => ∃ w i1 j1 v La, [some (V.ref o), some z] = [some (.ref o), some v] ∧ Stp T0 L0 H0 La H4 ∧ Prv H0 La H4 o (rd K dx s i1 j1) ∧ rWT K w v La ∧ loopF s (f s) op mk n w i1 j1 = some (w', i', j')) fun z L4 H4 s4 r4 => ⟨mk w w2, i3, j3, z, L4, rfl, S3.trans s4, p3.step ok s4, r4, hl⟩
      · refine whl_f (fun z => hb (V.str.inj (of_decide_eq_true z))) ?_
        have hl : some (w, i2, j1) = some (w', i', j') := by
          have := hl
          dsimp only at this
          rwa [if_neg hb] at this
        cases hl
        exact ⟨v, rfl, k v L1 H1 S1 p1 (HV.up e1 ha)⟩
end
theorem n_Reader_read_cut (F : Cs K mg) {d : Nat} (ip : FnB P w K mg base (3 * d + 6) (mA K "Reader" "read_part") (spRd K fun s => partF s (sumF s d)) []): FnB P w K mg base (3 * d + 7) (mA K "Reader" "read_cut") ((spRd K fun s => cutF s (sumF s d))) [] := by
  refine fnG (N := ["self", "word"]) (ps := ["self"]) F.rcut (fun _ _ _ _ _ _ us hl => match us, hl with | [_], _ => rfl) (by decide +kernel) (lenM) ?_
  rintro f cdv A outer s H vs Q E hr ⟨x, L, o, dx, rfl, pre, e, nl, at0, k⟩
  have nd := (fnScope_by (N := ["self", "word"]) (P := ["self"]) (sc := fnScope (metS 54 4)) (by decide +kernel)).nd
  have ok := ok0 e
  have hu := hu_of hr
  have hu0 := hr.units0
  have hu64 := hr.units
  refine ⟨_, (pss_cons (ps_set (i := 1) nd rfl (by first | exact Or.inl rfl | exact Or.inr rfl) (pe_mB0 K rfl F.Reader.cls F.rpart.me ip hr (by omega) (pv 0)))
  (pss_cons (ps_while PassesOwn.never (pt_cmpR op_eq (pe_mB0 K rfl F.Reader.cls F.peek.me (n_Reader_peek F) hr (by omega) (pv 0)) pe_str (nomark _)) (pss_cons (ps_fldaug (pv 0) pe_int in_add)
  (pss_one (ps_set (i := 1) nd rfl (by first | exact Or.inl rfl | exact Or.inr rfl) (pe_mkB K rfl F.Word.mkr F.Word.mg (i_Word_2 F) hr (by omega) rfl (pa_cons pe_str (pa_cons (pe_tup (pa_cons (pv 1) (pa_cons (pe_mB0 K rfl F.Reader.cls F.rpart.me ip hr (by omega) (pv 0)) pa_nil))) pa_nil)))))))
  (pss_one (ps_ret (pv 1))))), ?_⟩
  obtain ⟨s, i, j, w', i', j'⟩ := x
  obtain ⟨hs, hk⟩ := pre
  have hs : s.length ≤ 1000 := hs
  have hk : cutF s (sumF s d) i j = some (w', i', j') := hk
  obtain ⟨okE, SE⟩ := st_erase e nl
  have P0 : Prv (erase H o) L H o (rd K dx s i j) := ⟨erase_at, nl, at0⟩
  unfold cutF at hk
  cases hr : partF s (sumF s d) i j with
  | none => rw [hr] at hk; cases hk
  | some r =>
    obtain ⟨w1, i1, j1⟩ := r
    rw [hr] at hk
    have hk : loopF s (partF s (sumF s d)) "&" .cut 20 w1 i1 j1 = some (w', i', j') := hk
    refine gRd (st := fun x : Str × Int × Int × WT × Int × Int => (x.1, x.2.1, x.2.2.1)) (s, i, j, w1, i1, j1) SE rfl P0 (fun _ _ _ => rfl) ⟨hs, hr⟩ fun v L1 H1 S1 e1 p1 hv => ?_
    exact gLoop F (f := fun s => partF s (sumF s d)) (m := "read_part") (op := "&") (mk := .cut) (fun a b => ⟨rfl, rfl⟩) (fun _ _ _ => rfl) hs okE S1 p1 hv hk fun v L2 H2 S2 p2 r2 => k v L2 H2 S2 p2.nl p2.at_ r2
theorem n_Reader_read_sum (F : Cs K mg) {d : Nat} (ip : FnB P w K mg base (3 * d + 7) (mA K "Reader" "read_cut") (spRd K fun s => cutF s (sumF s d)) []): FnB P w K mg base (3 * d + 8) (mA K "Reader" "read_sum") ((spRd K fun s => sumF s (d + 1))) [] := by
  refine fnG (N := ["self", "word"]) (ps := ["self"]) F.rsum (fun _ _ _ _ _ _ us hl => match us, hl with | [_], _ => rfl) (by decide +kernel) (lenM) ?_
  rintro f cdv A outer s H vs Q E hr ⟨x, L, o, dx, rfl, pre, e, nl, at0, k⟩
  have nd := (fnScope_by (N := ["self", "word"]) (P := ["self"]) (sc := fnScope (metS 54 3)) (by decide +kernel)).nd
  have ok := ok0 e
  have hu := hu_of hr
  have hu0 := hr.units0
  have hu64 := hr.units
  refine ⟨_, (pss_cons (ps_set (i := 1) nd rfl (by first | exact Or.inl rfl | exact Or.inr rfl) (pe_mB0 K rfl F.Reader.cls F.rcut.me ip hr (by omega) (pv 0)))
  (pss_cons (ps_while PassesOwn.never (pt_cmpR op_eq (pe_mB0 K rfl F.Reader.cls F.peek.me (n_Reader_peek F) hr (by omega) (pv 0)) pe_str (nomark _)) (pss_cons (ps_fldaug (pv 0) pe_int in_add)
  (pss_one (ps_set (i := 1) nd rfl (by first | exact Or.inl rfl | exact Or.inr rfl) (pe_mkB K rfl F.Word.mkr F.Word.mg (i_Word_2 F) hr (by omega) rfl (pa_cons pe_str (pa_cons (pe_tup (pa_cons (pv 1) (pa_cons (pe_mB0 K rfl F.Reader.cls F.rcut.me ip hr (by omega) (pv 0)) pa_nil))) pa_nil)))))))
  (pss_one (ps_ret (pv 1))))), ?_⟩
  obtain ⟨s, i, j, w', i', j'⟩ := x
  obtain ⟨hs, hk⟩ := pre
  have hs : s.length ≤ 1000 := hs
  have hk : sumF s (d + 1) i j = some (w', i', j') := hk
  obtain ⟨okE, SE⟩ := st_erase e nl
  have P0 : Prv (erase H o) L H o (rd K dx s i j) := ⟨erase_at, nl, at0⟩
  unfold sumF at hk
  cases hr : cutF s (sumF s d) i j with
  | none => rw [hr] at hk; cases hk
  | some r =>
    obtain ⟨w1, i1, j1⟩ := r
    rw [hr] at hk
    have hk : loopF s (cutF s (sumF s d)) "+" .plus 20 w1 i1 j1 = some (w', i', j') := hk
    refine gRd (st := fun x : Str × Int × Int × WT × Int × Int => (x.1, x.2.1, x.2.2.1)) (s, i, j, w1, i1, j1) SE rfl P0 (fun _ _ _ => rfl) ⟨hs, hr⟩ fun v L1 H1 S1 e1 p1 hv => ?_
    exact gLoop F (f := fun s => cutF s (sumF s d)) (m := "read_cut") (op := "+") (mk := .plus) (fun a b => ⟨rfl, rfl⟩) (fun _ _ _ => rfl) hs okE S1 p1 hv hk fun v L2 H2 S2 p2 r2 => k v L2 H2 S2 p2.nl p2.at_ r2
theorem n_Reader_read_part (F : Cs K mg) {d : Nat} (ip : FnB P w K mg base (3 * d + 5) (mA K "Reader" "read_sum") (spRd K fun s => sumF s d) []): FnB P w K mg base (3 * d + 6) (mA K "Reader" "read_part") ((spRd K fun s => partF s (sumF s d))) [] := by
  refine fnG (N := ["self", "sign", "word"]) (ps := ["self"]) F.rpart (fun _ _ _ _ _ _ us hl => match us, hl with | [_], _ => rfl) (by decide +kernel) (lenM) ?_
  rintro f cdv A outer s H vs Q E hr ⟨x, L, o, dx, rfl, pre, e, nl, at0, k⟩
  have nd := (fnScope_by (N := ["self", "sign", "word"]) (P := ["self"]) (sc := fnScope (metS 54 5)) (by decide +kernel)).nd
  have ok := ok0 e
  have hu := hu_of hr
  have hu0 := hr.units0
  have hu64 := hr.units
  obtain ⟨ps, gp, hp⟩ := F.PLAIN_SIGNS.ex
  obtain ⟨e0, iw, he0⟩ := i_Word_1 (P := P) (w := w) (base := base) F
  refine ⟨_, (pss_cons (ps_set (i := 1) nd rfl (by first | exact Or.inl rfl | exact Or.inr rfl) (pe_mB0 K rfl F.Reader.cls F.peek.me (n_Reader_peek F) hr (by omega) (pv 0)))
  (pss_cons (ps_if (PW.pt (pw_or (pt_cmpR op_ne (pv 1) pe_str (nomark _)) (pw_or1 (pt_cmpR op_eq (kfld K rfl (pv 0) rfl) (pe_gc rfl F.MOST_OPEN) (nomark _))))) (pss_cons (ps_if (pt_cmpR (kop_notIn K rfl) (pv 1) (pe_gc (v := .ref ps) rfl ⟨_, gp, rfl⟩) (by with_unfolding_all rfl)) pss_never pss_nil)
  (pss_cons (ps_fldaug (pv 0) pe_int in_add)
  (pss_one (ps_ret (pe_mkB K rfl F.Word.mkr F.Word.mg iw hr (by omega) rfl (pa_cons (pv 1) pa_nil)))))) pss_nil)
  (pss_cons (ps_fldaug (pv 0) pe_int in_add)
  (pss_cons (ps_fldaug (pv 0) pe_int in_add)
  (pss_cons (ps_set (i := 2) nd rfl (by first | exact Or.inl rfl | exact Or.inr rfl) (pe_mB0 K rfl F.Reader.cls F.rsum.me ip hr (by omega) (pv 0)))
  (pss_cons (ps_if (pt_cmpR op_ne (pe_mB0 K rfl F.Reader.cls F.peek.me (n_Reader_peek F) hr (by omega) (pv 0)) pe_str (nomark _)) pss_never pss_nil)
  (pss_cons (ps_fldaug (pv 0) pe_int in_add)
  (pss_cons (ps_fldaug (pv 0) pe_int in_sub)
  (pss_one (ps_ret (pv 2))))))))))), ?_⟩
  obtain ⟨s, i, j, w', i', j'⟩ := x
  obtain ⟨hs, hk⟩ := pre
  have hs : s.length ≤ 1000 := hs
  have hk : partF s (sumF s d) i j = some (w', i', j') := hk
  obtain ⟨okE, SE⟩ := st_erase e nl
  have P0 : Prv (erase H o) L H o (rd K dx s i j) := ⟨erase_at, nl, at0⟩
  unfold partF at hk
  cases h1 : skp s 100 i with
  | none => rw [h1] at hk; cases hk
  | some i1 =>
    rw [h1] at hk
    dsimp only at hk
    refine gRd (st := fun x : Str × Int × Int × Int => (x.1, x.2.1, x.2.2.1)) (s, i, j, i1) SE rfl P0 (fun _ _ _ => rfl) ⟨hs, h1⟩ fun c L1 H1 S1 e1 p1 hc => ?_
    obtain rfl : c = .str (chr s i1) := hc
    by_cases hb : chr s i1 = "("
    · rw [if_pos hb] at hk
      by_cases hj : j = 9
      · rw [if_pos hj] at hk; cases hk
      · rw [if_neg hj] at hk
        refine gOwn (F := tOr (tTest (tOp rNe (tVar 1) (tC (.str "(")))) (tTest (tOp rEq (tFld K (tVar 0) "opened") (tC (.int 9)))) [some (.ref o), some (.str (chr s i1)), none]) (P := fun b => b = false) okE S1 p1 (geqT (gor (a := false) (gtest (gne (gv (R := rV (.str (chr s i1))) (i := 1) rfl rfl) (gc rfl) rfl (by rw [decide_eq_true (congrArg V.str hb)]; rfl))) fun _ => gtest (geq (b := false) (gropen F (gv (i := 0) rfl ⟨o, dx, rfl, upd_same⟩)) (gc rfl) rfl (decide_eq_false fun z => hj (V.int.inj z)))) rfl) fun b L2 H2 S2 e2 p2 hb2 => ?_
        subst hb2
        refine whl_f Bool.false_ne_true ?_
        refine gSeqT (gSpot F okE S2 rfl p2 fun H3 S3 p3 => ?_)
        refine gSeqT (gOpen F okE S3 rfl p3 fun H4 S4 p4 => ?_)
        cases hr : sumF s d (i1 + 1) (j + 1) with
        | none => rw [hr] at hk; cases hk
        | some r =>
          obtain ⟨w2, i2, j2⟩ := r
          rw [hr] at hk
          dsimp only at hk
          refine gRd (st := fun x : Str × Int × Int × WT × Int × Int => (x.1, x.2.1, x.2.2.1)) (s, i1 + 1, j + 1, w2, i2, j2) S4 rfl p4 (fun _ _ _ => rfl) ⟨hs, hr⟩ fun v L5 H5 S5 e5 p5 hv => ?_
          cases h3 : skp s 100 i2 with
          | none => rw [h3] at hk; cases hk
          | some i3 =>
            rw [h3] at hk
            dsimp only at hk
            refine gRd (st := fun x : Str × Int × Int × Int => (x.1, x.2.1, x.2.2.1)) (s, i2, j2, i3) S5 rfl p5 (fun _ _ _ => rfl) ⟨hs, h3⟩ fun c L6 H6 S6 e6 p6 hc => ?_
            obtain rfl : c = .str (chr s i3) := hc
            by_cases hb3 : chr s i3 = ")"
            · rw [if_pos hb3] at hk
              cases hk
              refine ⟨rfl, _, rfl, whl_f (by rw [decide_eq_true (congrArg V.str hb3)]; exact Bool.false_ne_true) ?_⟩
              refine gSeqT (gSpot F okE S6 rfl p6 fun H7 S7 p7 => ?_)
              refine gSeqT (gShut F okE S7 rfl p7 fun H8 S8 p8 => ?_)
              exact ⟨v, rfl, k v L6 H8 S8 p8.nl p8.at_ (HV.up e6 hv)⟩
            · rw [if_neg hb3] at hk; cases hk
    · rw [if_neg hb] at hk
      cases hl : leafOf (chr s i1) with
      | none => rw [hl] at hk; cases hk
      | some w2 =>
        rw [hl] at hk
        cases hk
        obtain ⟨hsg, hlf⟩ := leaf_sg hl
        refine gOwn (F := tOr (tTest (tOp rNe (tVar 1) (tC (.str "(")))) (tTest (tOp rEq (tFld K (tVar 0) "opened") (tC (.int 9)))) [some (.ref o), some (.str (chr s i1)), none]) (P := fun b => b = true) okE S1 p1 (geqT (gor (a := true) (b := true) (gtest (gne (gv (R := rV (.str (chr s i1))) (i := 1) rfl rfl) (gc rfl) rfl (by rw [decide_eq_false (fun z => hb (V.str.inj z))]; rfl))) fun z => nomatch z) rfl) fun b L2 H2 S2 e2 p2 hb2 => ?_
        subst hb2
        refine whl_t rfl ?_
        refine gNot okE S2 (b := false) (gtest (geqB (c := false) (gin (neg := true) hp (gv (R := rV (.str (chr s i1))) (i := 1) rfl rfl) (gc rfl) rfl rfl) ?hn)) rfl fun L3 H3 S3 s3 => ?_
        case hn =>
          rw [← hsg, if_pos rfl, sg_in, hlf]
          rfl
        have p3 := p2.step okE s3
        refine gSeqT (gSpot F okE S3 rfl p3 fun H4 S4 p4 => ?_)
        refine Go.at okE S4 (gmk (R := fun w : WT => rWT K w) (A := aCons (rV (.str (chr s i1))) aNil) w' trivial (gaC (gv (i := 1) rfl rfl) ga0) fun vs L' _ h => ?_) fun v L5 H5 S5 s5 r5 => k v L5 H5 S5 (p4.step okE s5).nl (p4.step okE s5).at_ r5
        obtain ⟨u, rfl, hu⟩ := a1 h
        rw [hsg]
        exact ⟨u, _, rfl, hu, _, _, rfl, by rw [leaf_arg hlf]; exact ⟨e0, rfl, he0⟩, rfl⟩
end
end HW
/-! part W23 -/
set_option maxHeartbeats 4000000
/-! Words read. -/
namespace HW
open PySem PySem.Spec PyProof.Rows L2 HR HV C8
open Evl (Ex)
open HM (CW)
section
variable {P : Program} {w : World} {K : PySem.W.Frag} {mg : Str → Option Value} {base : Heap}
theorem n_sum_0 (F : Cs K mg) : FnB P w K mg base (3 * 0 + 5) (mA K "Reader" "read_sum") (spRd K fun s => sumF s 0) [] := by
  refine fnG (k := 4) (N := ["self", "word"]) (ps := ["self"]) F.rsum (fun _ _ _ _ _ _ us hl => match us, hl with | [_], _ => rfl) (by decide +kernel) lenM ?_
  rintro f cdv A outer s H vs Q E hr ⟨x, L, o, dx, rfl, pre, e, nl, at0, k⟩
  have h : sumF x.1 0 x.2.1 x.2.2.1 = some x.2.2.2 := pre.2
  cases h
theorem n_sum (F : Cs K mg) : ∀ d : Nat, FnB P w K mg base (3 * d + 5) (mA K "Reader" "read_sum") (spRd K fun s => sumF s d) []
  | 0 => n_sum_0 F
  | d + 1 => n_Reader_read_sum F (n_Reader_read_cut F (n_Reader_read_part F (n_sum F d)))
def spInitR (K : PySem.W.Frag) : Sp := fun vs H2 Q _ => ∃ (x : Str) (L H1 : Hp) (ob dx : Addr) (ws : List V), vs = .ref ob :: ws ∧ H1 ob = none ∧ H1 dx = none ∧ dx ≠ ob ∧ H2 = upd (upd H1 dx (.own ob)) ob (.ins (cA K "Reader") dx []) ∧ Ex L H1 ∧
  aAnd True (aCons (rV (.str x)) aNil) ws L ∧ ∀ L' H', Stp T0 L H1 L' H' → Prv H1 L' H' ob (rd K dx x 0 0) → Q .non H'
theorem lenR {K : PySem.W.Frag} : ∀ vs H Q E, spInitR K vs H Q E → vs.length = 2 := fun vs H Q E ⟨x, L, H1, ob, dx, ws, e, _, _, _, _, _, ⟨_, a⟩, _⟩ => by
  obtain ⟨u, rfl, _⟩ := a1 a
  rw [e]; rfl
theorem n_Reader_init (F : Cs K mg) : FnB P w K mg base 1 (mA K "Reader" "__init__") (spInitR K) [] := by
  refine fnG (N := ["self", "source"]) (ps := ["self", "source"]) F.iReader (fun _ _ _ _ _ _ us hl => match us, hl with | [_, _], _ => rfl) (by decide +kernel) (lenR) ?_
  intro f
  rintro cdv A outer s H vs Q E hr ⟨x, L, H1, ob, dx, ws, rfl, nx, ndx, ne, rfl, e, ⟨pre, ha⟩, k⟩
  have nd := (fnScope_by (N := ["self", "source"]) (P := ["self", "source"]) (sc := fnScope (metS 54 0)) (by decide +kernel)).nd
  have ok := ok0 e
  have hu := hu_of hr
  have hu0 := hr.units0
  have hu64 := hr.units
  refine ⟨_, (pss_cons (ps_fld (pv 0) (pv 1) rfl)
  (pss_cons (ps_fld (pv 0) pe_int rfl)
  (pss_one (ps_fld (pv 0) pe_int rfl)))), ?_⟩
  obtain ⟨v1, rfl, h1⟩ := a1 ha
  obtain rfl : v1 = .str x := h1
  have Sa : Stp T0 L H1 L (upd (upd H1 dx (.own ob)) ob (.ins (cA K "Reader") dx [])) := (Stp.refl ok).trans (Stp.grow ok ((Evl.Ex.new ndx).trans (Evl.Ex.new (by rw [upd_ne (Ne.symm ne)]; exact nx))))
  have pv0 : Prv H1 L (upd (upd H1 dx (.own ob)) ob (.ins (cA K "Reader") dx [])) ob (.ins (cA K "Reader") dx []) := ⟨nx, none_of e nx, upd_same⟩
  refine gFld F.Reader.cls (F.na ("Reader", "source") (by decide)) ok Sa rfl pv0 (by show 0 < 1000; decide) (gv (R := rV (.str x)) (i := 1) rfl rfl) fun w1 L5 H5 S5 e5 r5 pv5 => ?_
  obtain rfl : w1 = .str x := r5
  refine gFld F.Reader.cls (F.na ("Reader", "spot") (by decide)) ok S5 rfl pv5 (by show 1 < 1000; decide) (gc (R := rInt 0) rfl) fun w2 L6 H6 S6 e6 r6 pv6 => ?_
  obtain rfl : w2 = .int 0 := r6
  refine gFld1 F.Reader.cls (F.na ("Reader", "opened") (by decide)) ok S6 rfl pv6 (by show 2 < 1000; decide) (gc (R := rInt 0) rfl) fun w3 L7 H7 S7 e7 r7 pv7 => ?_
  obtain rfl : w3 = .int 0 := r7
  exact k _ _ S7 pv7
def spRead (K : PySem.W.Frag) : Sp := spR (fun x : Str × WT => aAnd (x.1.length ≤ 1000 ∧ readF x.1 = some x.2) (aCons (rV (.ref (cA K "Word"))) (aCons (rV (.str x.1)) aNil))) (fun x => rWT K x.2)
theorem k_Word_read (F : Cs K mg) : CmB P w K mg base 18 "Word" "read" (spRead K) := by
  refine cmG (N := ["cls", "text", "reader", "word"]) (ps := ["cls", "text"]) F.read (fun _ _ _ _ _ _ us hl => match us, hl with | [_, _], _ => rfl) (by decide +kernel) (len1 fun _ _ _ h => lC h.2 (fun _ h => lC h (fun _ => l0))) ?_
  rintro f cdv A outer s H vs Q E hr ⟨x, L, e, ⟨pre, ha⟩, k⟩
  have nd := (fnScope_by (N := ["cls", "text", "reader", "word"]) (P := ["cls", "text"]) (sc := fnScope (metS 51 1)) (by decide +kernel)).nd
  have ok := ok0 e
  have hu := hu_of hr
  have hu0 := hr.units0
  have hu64 := hr.units
  refine ⟨_, (pss_cons (ps_set (i := 2) nd rfl (by first | exact Or.inl rfl | exact Or.inr rfl) (pe_mkB K rfl F.Reader.mkr F.Reader.mg (n_Reader_init F) hr (by decide) rfl (pa_cons (pv 1) pa_nil)))
  (pss_cons (ps_set (i := 3) nd rfl (by first | exact Or.inl rfl | exact Or.inr rfl) (pe_mB0 K rfl F.Reader.cls F.rsum.me (n_sum F 4) hr (by decide) (pv 2)))
  (pss_cons (ps_if (pt_cmpR op_ne (pe_mB0 K rfl F.Reader.cls F.peek.me (n_Reader_peek F) hr (by decide) (pv 2)) pe_str (nomark _)) pss_never pss_nil)
  (pss_one (ps_ret (pv 3)))))), ?_⟩
  obtain ⟨s, w'⟩ := x
  obtain ⟨hs, hk⟩ := pre
  have hs : s.length ≤ 1000 := hs
  have hk : readF s = some w' := hk
  obtain ⟨v0, v1, rfl, h0, h1⟩ := a2 ha
  obtain rfl : v1 = .str s := h1
  refine ⟨.str s, rfl, fun o dx ho hdx hne => ⟨s, L, H, o, dx, [.str s], rfl, ho, hdx, hne, rfl, e, ⟨trivial, _, _, rfl, rfl, rfl⟩, fun L1 H1 S1 p1 => ⟨rfl, ?_⟩⟩⟩
  unfold readF at hk
  cases hr : sumF s 4 0 0 with
  | none => rw [hr] at hk; cases hk
  | some r =>
    obtain ⟨w2, i2, j2⟩ := r
    rw [hr] at hk
    dsimp only at hk
    refine gRd (jj := 2) (st := fun x : Str × Int × Int × WT × Int × Int => (x.1, x.2.1, x.2.2.1)) (s, 0, 0, w2, i2, j2) S1 rfl p1 (fun _ _ _ => rfl) ⟨hs, hr⟩ fun v L5 H5 S5 e5 p5 hv => ?_
    cases h3 : skp s 100 i2 with
    | none => rw [h3] at hk; cases hk
    | some i3 =>
      rw [h3] at hk
      dsimp only at hk
      by_cases hb3 : chr s i3 = ""
      · rw [if_pos hb3] at hk
        cases hk
        refine gRd (jj := 2) (st := fun x : Str × Int × Int × Int => (x.1, x.2.1, x.2.2.1)) (s, i2, j2, i3) S5 rfl p5 (fun _ _ _ => rfl) ⟨hs, h3⟩ fun c L6 H6 S6 e6 p6 hc => ?_
        obtain rfl : c = .str (chr s i3) := hc
        refine ⟨rfl, _, rfl, whl_f (by rw [decide_eq_true (congrArg V.str hb3)]; exact Bool.false_ne_true) ?_⟩
        exact ⟨v, rfl, k v L6 H6 S6 (HV.up e6 hv)⟩
      · rw [if_neg hb3] at hk; cases hk
end
end HW
/-! part W24 -/
set_option maxHeartbeats 4000000
/-! The menus of chains; the law's words read. -/
namespace HW
open PySem PySem.Spec PyProof.Rows L2 HR HV C8
open Evl (Ex)
open HM (CW)
def menuA : List (List Str) := [["a & b", "a", "a + b"], ["a & b & c", "a & c", "a", "a + b + c"], ["0", "b"], ["a"]]
def menuB : List (List Str) := [["c"], ["b & c", "c", "b + c"], ["a & (b + c)", "b + c", "1"], ["a & c", "c", "a + c"]]
/-- the words of a menu -/
def wordsA : List (List WT) := [[.cut .a .b, .a, .plus .a .b], [.cut (.cut .a .b) .c, .cut .a .c, .a, .plus (.plus .a .b) .c], [.zero, .b], [.a]]
def wordsB : List (List WT) := [[.c], [.cut .b .c, .c, .plus .b .c], [.cut .a (.plus .b .c), .plus .b .c, .one], [.cut .a .c, .c, .plus .a .c]]
theorem menuA_read : menuA.map (fun l => l.map readF) = wordsA.map fun l => l.map some := by decide +kernel
theorem menuB_read : menuB.map (fun l => l.map readF) = wordsB.map fun l => l.map some := by decide +kernel
theorem menu_short : (∀ l ∈ menuA, ∀ t ∈ l, t.length ≤ 1000) ∧ ∀ l ∈ menuB, ∀ t ∈ l, t.length ≤ 1000 := by decide +kernel
/-- a menu's texts and their words -/
def Read (ts : List Str) (ws : List WT) : Prop := ts.map readF = ws.map some ∧ ∀ t ∈ ts, t.length ≤ 1000
theorem read_of {m : List (List Str)} {ws : List (List WT)} (h : m.map (fun l => l.map readF) = ws.map fun l => l.map some) (hs : ∀ l ∈ m, ∀ t ∈ l, t.length ≤ 1000) {l : List Str} (hl : l ∈ m) : ∃ w ∈ ws, Read l w := by
  obtain ⟨i, hi, rfl⟩ := List.getElem_of_mem hl
  have hlen : m.length = ws.length := by
    have := congrArg List.length h
    simpa using this
  have hi2 : i < ws.length := by omega
  refine ⟨ws[i], List.getElem_mem hi2, ?_, hs _ hl⟩
  have := congrArg (fun z => z[i]?) h
  simp only [List.getElem?_map, List.getElem?_eq_getElem hi, List.getElem?_eq_getElem hi2, Option.map_some, Option.some.injEq] at this
  exact this
theorem Read.at {ts : List Str} {ws : List WT} (h : Read ts ws) {i : Nat} {w : WT} (hi : ws[i]? = some w) : ∃ t, ts[i]? = some t ∧ readF t = some w ∧ t.length ≤ 1000 := by
  have := congrArg (fun z => z[i]?) h.1
  simp only [List.getElem?_map, hi, Option.map_some] at this
  cases ht : ts[i]? with
  | none => rw [ht] at this; cases this
  | some t =>
    rw [ht] at this
    exact ⟨t, rfl, Option.some.inj this, h.2 t (List.mem_of_getElem? ht)⟩
instance {K : PySem.W.Frag} {w : WT} : Gr (rArg K w) := ⟨fun v H H' e h => by
  cases w with
  | plus a b => exact Gr.up (R := rSq (aCons (rWT K a) (aCons (rWT K b) aNil))) v H H' e h
  | cut a b => exact Gr.up (R := rSq (aCons (rWT K a) (aCons (rWT K b) aNil))) v H H' e h
  | _ => exact h⟩
/-- a law's word with the menus' words in it -/
def subW (ws vs : List WT) : CW → WT
  | .zero => .zero
  | .one => .one
  | .a k => (ws[k - 1]?).getD .zero
  | .b k => (vs[k - 1]?).getD .zero
  | .plus x y => .plus (subW ws vs x) (subW ws vs y)
  | .cut x y => .cut (subW ws vs x) (subW ws vs y)
section
variable {P : Program} {w : World} {K : PySem.W.Frag} {mg : Str → Option Value} {base : Heap}
def spSpaces : Sp := spT (fun _ : Unit => aAnd True aNil) (fun _ => rE (fun q : List Str × List Str => q.1 ∈ menuA ∧ q.2 ∈ menuB) fun q => rPr (rLs rStr q.1) (rLs rStr q.2))
theorem c__law_spaces (F : Cs K mg) : Cal P w K mg base 2 "_law_spaces" (spSpaces) [] := by
  refine calG (N := ["_law_tape_here", "_law_first", "_law_second"]) (ps := ["_law_tape_here"]) F.d__law_spaces (fun _ _ _ _ _ _ us hl => match us, hl with | [_], _ => rfl) (by decide +kernel) (lenT fun _ _ _ h => l0 h.2) ?_
  rintro f cdv A outer s H vs Q E hr ⟨x, L, tp, ws, rfl, ok, ⟨pre, ha⟩, k⟩
  have nd := (fnScope_by (N := ["_law_tape_here", "_law_first", "_law_second"]) (P := ["_law_tape_here"]) (sc := fnScope (topS 82)) (by decide +kernel)).nd
  have hu := hu_of hr
  have hu0 := hr.units0
  have hu64 := hr.units
  refine ⟨_, (pss_cons (ps_set (i := 1) nd rfl (by first | exact Or.inl rfl | exact Or.inr rfl) (pe_lst (pa_cons (pe_lst (pa_cons pe_str (pa_cons pe_str (pa_cons pe_str pa_nil)))) (pa_cons (pe_lst (pa_cons pe_str (pa_cons pe_str (pa_cons pe_str (pa_cons pe_str pa_nil))))) (pa_cons (pe_lst (pa_cons pe_str (pa_cons pe_str pa_nil))) (pa_cons (pe_lst (pa_cons pe_str pa_nil)) pa_nil))))))
  (pss_cons (ps_set (i := 2) nd rfl (by first | exact Or.inl rfl | exact Or.inr rfl) (pe_lst (pa_cons (pe_lst (pa_cons pe_str pa_nil)) (pa_cons (pe_lst (pa_cons pe_str (pa_cons pe_str (pa_cons pe_str pa_nil)))) (pa_cons (pe_lst (pa_cons pe_str (pa_cons pe_str (pa_cons pe_str pa_nil)))) (pa_cons (pe_lst (pa_cons pe_str (pa_cons pe_str (pa_cons pe_str pa_nil)))) pa_nil))))))
  (pss_one (ps_ret (pe_tup (pa_cons (pe_ix (kix_list K rfl) (pv 1) (pe_c (c__law_pick F) hr (by decide) rfl (pa_cons (pv 0) (pa_cons pe_int pa_nil))) (fun _ _ => rfl)) (pa_cons (pe_ix (kix_list K rfl) (pv 2) (pe_c (c__law_pick F) hr (by decide) rfl (pa_cons (pv 0) (pa_cons pe_int pa_nil))) (fun _ _ => rfl)) pa_nil))))))), ?_⟩
  have e0 : ws = [] := ha
  subst e0
  have t0 : T1 tp tp := rfl
  refine gSet (R := rLs (rLs rStr) menuA) ok (Stp.refl ok) (glst (gaL (R := rLs rStr) (glst (gaL (R := rStr) (gc rfl) (gaL (R := rStr) (gc rfl) (gaL (R := rStr) (gc rfl) ga0L))) (pd_len (m := 100000) (by decide))) (gaL (R := rLs rStr) (glst (gaL (R := rStr) (gc rfl) (gaL (R := rStr) (gc rfl) (gaL (R := rStr) (gc rfl) (gaL (R := rStr) (gc rfl) ga0L)))) (pd_len (m := 100000) (by decide))) (gaL (R := rLs rStr) (glst (gaL (R := rStr) (gc rfl) (gaL (R := rStr) (gc rfl) ga0L)) (pd_len (m := 100000) (by decide))) (gaL (R := rLs rStr) (glst (gaL (R := rStr) (gc rfl) ga0L) (pd_len (m := 100000) (by decide))) ga0L)))) (pd_len (m := 100000) (by decide))) fun v1 L1 H1 S1 s1 r1 => ?_
  refine gSet (R := rLs (rLs rStr) menuB) ok S1 (glst (gaL (R := rLs rStr) (glst (gaL (R := rStr) (gc rfl) ga0L) (pd_len (m := 100000) (by decide))) (gaL (R := rLs rStr) (glst (gaL (R := rStr) (gc rfl) (gaL (R := rStr) (gc rfl) (gaL (R := rStr) (gc rfl) ga0L))) (pd_len (m := 100000) (by decide))) (gaL (R := rLs rStr) (glst (gaL (R := rStr) (gc rfl) (gaL (R := rStr) (gc rfl) (gaL (R := rStr) (gc rfl) ga0L))) (pd_len (m := 100000) (by decide))) (gaL (R := rLs rStr) (glst (gaL (R := rStr) (gc rfl) (gaL (R := rStr) (gc rfl) (gaL (R := rStr) (gc rfl) ga0L))) (pd_len (m := 100000) (by decide))) ga0L)))) (pd_len (m := 100000) (by decide))) fun v2 L2 H2 S2 s2 r2 => ?_
  refine gEnd ok S2 k ((gpair (gixE (R := rLs rStr) (xs := menuA) (m := 4) (by decide) (gv rfl (up s2.ll r1)) (gcpT (R := fun m => rPick m) 4 rfl t0 ⟨by decide, by decide⟩ (gaC (gc rfl) ga0))) (gixE (R := rLs rStr) (xs := menuB) (m := 4) (by decide) (gv rfl r2) (gcpT (R := fun m => rPick m) 4 rfl t0 ⟨by decide, by decide⟩ (gaC (gc rfl) ga0)))).imp fun v L' _ ⟨p, vs, h1, h2, h3⟩ => ?_)
  obtain ⟨u, w, rfl, ⟨l1, m1, q1⟩, ⟨l2, m2, q2⟩⟩ := a2 h3
  exact ⟨(l1, l2), ⟨m1, m2⟩, p, _, h1, h2, _, _, rfl, q1, _, _, rfl, q2, rfl⟩
structure RdI where
  u : CW
  ts : List Str
  ss : List Str
  ws : List WT
  vs : List WT
def RdI.ok (r : RdI) : Prop := Read r.ts r.ws ∧ Read r.ss r.vs ∧ r.u.ok r.ws.length r.vs.length
def spLRead (K : PySem.W.Frag) (d : Nat) : Sp := spR (fun r : RdI => aAnd (r.ok ∧ dep r.u < d) (aCons (rW r.u) (aCons (rLs rStr r.ts) (aCons (rLs rStr r.ss) aNil)))) (fun r => rWT K (subW r.ws r.vs r.u))
theorem c__law_read_0 (F : Cs K mg) : Cal P w K mg base 19 "_law_read" (spLRead K 0) [] := by
  refine calG (k := 18) (N := ["_law_term_here", "_law_first", "_law_second", "_law_sign"]) (ps := ["_law_term_here", "_law_first", "_law_second"]) F.d__law_read (fun _ _ _ _ _ _ us hl => match us, hl with | [_, _, _], _ => rfl) (by decide +kernel) (len1 fun _ _ _ h => lC h.2 (fun _ h => lC h (fun _ h => lC h (fun _ => l0)))) ?_
  rintro f cdv A outer s H vs Q E hr ⟨x, L, e, ⟨pre, ha⟩, k⟩
  exact absurd pre.2 (Nat.not_lt_zero _)
theorem c__law_read_s (F : Cs K mg) (d : Nat) (ih : Cal P w K mg base (19 + d) "_law_read" (spLRead K d) []) : Cal P w K mg base (19 + (d + 1)) "_law_read" (spLRead K (d + 1)) [] := by
  refine calG (k := 19 + d) (N := ["_law_term_here", "_law_first", "_law_second", "_law_sign"]) (ps := ["_law_term_here", "_law_first", "_law_second"]) F.d__law_read (fun _ _ _ _ _ _ us hl => match us, hl with | [_, _, _], _ => rfl) (by decide +kernel) (len1 fun _ _ _ h => lC h.2 (fun _ h => lC h (fun _ h => lC h (fun _ => l0)))) ?_
  rintro f cdv A outer s H vs Q E hr ⟨x, L, e, ⟨pre, ha⟩, k⟩
  have nd := (fnScope_by (N := ["_law_term_here", "_law_first", "_law_second", "_law_sign"]) (P := ["_law_term_here", "_law_first", "_law_second"]) (sc := fnScope (topS 83)) (by decide +kernel)).nd
  have ok := ok0 e
  have hu := hu_of hr
  have hu0 := hr.units0
  have hu64 := hr.units
  obtain ⟨e0, iw, he0⟩ := i_Word_1 (P := P) (w := w) (base := base) F
  refine ⟨_, (pss_cons (ps_set (i := 3) nd rfl (by first | exact Or.inl rfl | exact Or.inr rfl) (pe_ix (kix_tup K rfl) (pv 0) pe_int (fun _ _ => rfl)))
  (pss_cons (ps_if (pt_cmpR (kop_in K rfl) (pv 3) (pe_lst (pa_cons pe_str (pa_cons pe_str pa_nil))) (by with_unfolding_all rfl)) (pss_one (ps_ret (pe_mkB K rfl F.Word.mkr F.Word.mg iw hr (by omega) rfl (pa_cons (pv 3) pa_nil)))) pss_nil)
  (pss_cons (ps_if (pt_cmpR (kop_in K rfl) (pv 3) (pe_lst (pa_cons pe_str (pa_cons pe_str pa_nil))) (by with_unfolding_all rfl)) (pss_one (ps_ret (pe_cm K rfl (k_Word_read F) hr (by omega) (pe_gc (v := .ref (cA K "Word")) rfl ⟨_, F.Word.mg, rfl⟩) (pa_cons (pe_ifExp (pt_cmpR op_eq (pv 3) pe_str (nomark _)) (pe_ix (kix_list K rfl) (pv 1) (pe_op op_sub (pe_ix (kix_tup K rfl) (pv 0) pe_int (fun _ _ => rfl)) pe_int) (fun _ _ => rfl)) (pe_ix (kix_list K rfl) (pv 2) (pe_op op_sub (pe_ix (kix_tup K rfl) (pv 0) pe_int (fun _ _ => rfl)) pe_int) (fun _ _ => rfl))) pa_nil)))) pss_nil)
  (pss_one (ps_ret (pe_mkB K rfl F.Word.mkr F.Word.mg (i_Word_2 F) hr (by omega) rfl (pa_cons (pv 3) (pa_cons (pe_lst (pa_cons (pe_c ih hr (Nat.le_refl _) rfl (pa_cons (pe_ix (kix_tup K rfl) (pv 0) pe_int (fun _ _ => rfl)) (pa_cons (pv 1) (pa_cons (pv 2) pa_nil)))) (pa_cons (pe_c ih hr (Nat.le_refl _) rfl (pa_cons (pe_ix (kix_tup K rfl) (pv 0) pe_int (fun _ _ => rfl)) (pa_cons (pv 1) (pa_cons (pv 2) pa_nil)))) pa_nil))) pa_nil)))))))), ?_⟩
  obtain ⟨u, ts, ss, ws, vs⟩ := x
  obtain ⟨⟨r1, r2, hu'⟩, hd⟩ := pre
  have r1 : Read ts ws := r1
  have r2 : Read ss vs := r2
  have hu' : u.ok ws.length vs.length := hu'
  have hd : dep u < d + 1 := hd
  have k : ∀ v L' H', Stp T0 L H L' H' → rWT K (subW ws vs u) v L' → Q v H' := k
  obtain ⟨v1, _, rfl, h1', ha⟩ := ha
  obtain ⟨v2, v3, rfl, h2', h3'⟩ := a2 ha
  have h1 : rW u v1 L := h1'
  have h2 : rLs rStr ts v2 L := h2'
  have h3 : rLs rStr ss v3 L := h3'
  clear h1' h2' h3' ha
  refine gSet ok (Stp.refl ok) (gsg (gv rfl h1)) fun vg L1 H1 S1 s1 rg => ?_
  obtain rfl : vg = .str (wsg u) := rg
  have h1 := up s1.ll h1
  have h2 := up s1.ll h2
  have h3 := up s1.ll h3
  have leaf : ∀ {w : WT} {Lq : Hp} {σ : List (Option V)}, w.leaf = true → σ[3]? = some (some (.str w.sg)) → Go T0 Lq (tMake (cA K "Word") (spInitW K) [.ref e0] C8.E0 (tCons (tVar 3) tNil) σ) (rWT K w) := fun {w Lq σ} hlf hσ =>
    gmk (R := fun w : WT => rWT K w) (A := aCons (rV (.str w.sg)) aNil) w trivial (gaC (gv hσ rfl) ga0) fun vs L' _ h => by
      obtain ⟨u, rfl, hu⟩ := a1 h
      exact ⟨u, _, rfl, hu, _, _, rfl, by rw [leaf_arg hlf]; exact ⟨e0, rfl, he0⟩, rfl⟩
  refine gWhen ok S1 (gtest (ginL (neg := false) (b := inV (.str (wsg u)) [.str "0", .str "1"]) (gv rfl rfl) gtwoL rfl rfl rfl)) (fun hb L2 H2 S2 s2 => ?_) fun hb L2 H2 S2 s2 => ?_
  · cases u with
    | zero => exact gEnd ok S2 k (leaf (w := .zero) rfl rfl)
    | one => exact gEnd ok S2 k (leaf (w := .one) rfl rfl)
    | a i => exact absurd hb (show ¬ inV (.str "a") [.str "0", .str "1"] = true by decide +kernel)
    | b i => exact absurd hb (show ¬ inV (.str "b") [.str "0", .str "1"] = true by decide +kernel)
    | plus a b => exact absurd hb (show ¬ inV (.str "+") [.str "0", .str "1"] = true by decide +kernel)
    | cut a b => exact absurd hb (show ¬ inV (.str "&") [.str "0", .str "1"] = true by decide +kernel)
  have h1 := up s2.ll h1
  have h2 := up s2.ll h2
  have h3 := up s2.ll h3
  refine gWhen ok S2 (gtest (ginL (neg := false) (b := inV (.str (wsg u)) [.str "a", .str "b"]) (gv rfl rfl) gtwoL rfl rfl rfl)) (fun hb3 L4 H4 S4 s4 => ?_) fun hb3 L4 H4 S4 s4 => ?_
  · have h1 := up s4.ll h1
    have h2 := up s4.ll h2
    have h3 := up s4.ll h3
    cases u with
    | a i =>
      have hk : 1 ≤ i ∧ i ≤ ws.length := hu'
      have hw : ws[i - 1]? = some ws[i - 1] := List.getElem?_eq_getElem (by omega)
      obtain ⟨t, ht, hrd, hlen⟩ := r1.at hw
      have e : subW ws vs (.a i) = ws[i - 1] := by
        show (ws[i - 1]?).getD .zero = _
        rw [hw]; rfl
      rw [e] at k
      exact gEnd ok S4 k (gcm (R := fun x : Str × WT => rWT K x.2) (t, ws[i - 1]) ⟨hlen, hrd⟩ (gc rfl) (gaC (gif (b := true) (gtest (geq (gv (R := rV (.str "a")) (i := 3) rfl rfl) (gc rfl) rfl (by decide +kernel))) (fun _ => gixLs (R := rStr) (i := i - 1) (gv rfl h2) (gI0 (gsnd (Ra := rV (.str "a")) (gv rfl h1) (gc rfl)) (gc rfl) (by show V.int ((i : Int) - 1) = V.int ((i - 1 : Nat) : Int); congr 1; omega)) ht) (fun z => nomatch z)) ga0))
    | b i =>
      have hk : 1 ≤ i ∧ i ≤ vs.length := hu'
      have hw : vs[i - 1]? = some vs[i - 1] := List.getElem?_eq_getElem (by omega)
      obtain ⟨t, ht, hrd, hlen⟩ := r2.at hw
      have e : subW ws vs (.b i) = vs[i - 1] := by
        show (vs[i - 1]?).getD .zero = _
        rw [hw]; rfl
      rw [e] at k
      exact gEnd ok S4 k (gcm (R := fun x : Str × WT => rWT K x.2) (t, vs[i - 1]) ⟨hlen, hrd⟩ (gc rfl) (gaC (gif (b := false) (gtest (geq (gv (R := rV (.str "b")) (i := 3) rfl rfl) (gc rfl) rfl (by decide +kernel))) (fun z => nomatch z) (fun _ => gixLs (R := rStr) (i := i - 1) (gv rfl h3) (gI0 (gsnd (Ra := rV (.str "b")) (gv rfl h1) (gc rfl)) (gc rfl) (by show V.int ((i : Int) - 1) = V.int ((i - 1 : Nat) : Int); congr 1; omega)) ht)) ga0))
    | zero => exact absurd hb3 (by decide +kernel)
    | one => exact absurd hb3 (by decide +kernel)
    | plus a b => exact absurd hb3 (show ¬ inV (.str "+") [.str "a", .str "b"] = true by decide +kernel)
    | cut a b => exact absurd hb3 (show ¬ inV (.str "&") [.str "a", .str "b"] = true by decide +kernel)
  have h1 := up s4.ll h1
  have h2 := up s4.ll h2
  have h3 := up s4.ll h3
  cases u with
  | plus a b =>
    have hdm : dep a < d ∧ dep b < d := by
      have : max (dep a) (dep b) + 1 < d + 1 := hd
      omega
    exact gEnd ok S4 k (gmkS (R := fun w : WT => rWT K w) (.plus (subW ws vs a) (subW ws vs b)) trivial (gaC (gv (R := rV (.str "+")) (i := 3) rfl rfl) (gaC (sqOfL (R := rV v1) (glst (gaC (gcp (R := fun r : RdI => rWT K (subW r.ws r.vs r.u)) ⟨a, ts, ss, ws, vs⟩ ⟨⟨r1, r2, hu'.1⟩, hdm.1⟩ (gaC (gix1 (P := aCons (rW b) aNil) (Ra := rV (.str "+")) (gv rfl h1) (gc rfl)) (gaC (gv rfl h2) (gaC (gv rfl h3) ga0)))) (gaC (gcp (R := fun r : RdI => rWT K (subW r.ws r.vs r.u)) ⟨b, ts, ss, ws, vs⟩ ⟨⟨r1, r2, hu'.2⟩, hdm.2⟩ (gaC (gix2 (P := aNil) (Rb := rW a) (Ra := rV (.str "+")) (gv rfl h1) (gc rfl)) (gaC (gv rfl h2) (gaC (gv rfl h3) ga0)))) ga0)) fun vs L' h => by rw [len_2 h]; decide)) ga0)))
  | cut a b =>
    have hdm : dep a < d ∧ dep b < d := by
      have : max (dep a) (dep b) + 1 < d + 1 := hd
      omega
    exact gEnd ok S4 k (gmkS (R := fun w : WT => rWT K w) (.cut (subW ws vs a) (subW ws vs b)) trivial (gaC (gv (R := rV (.str "&")) (i := 3) rfl rfl) (gaC (sqOfL (R := rV v1) (glst (gaC (gcp (R := fun r : RdI => rWT K (subW r.ws r.vs r.u)) ⟨a, ts, ss, ws, vs⟩ ⟨⟨r1, r2, hu'.1⟩, hdm.1⟩ (gaC (gix1 (P := aCons (rW b) aNil) (Ra := rV (.str "&")) (gv rfl h1) (gc rfl)) (gaC (gv rfl h2) (gaC (gv rfl h3) ga0)))) (gaC (gcp (R := fun r : RdI => rWT K (subW r.ws r.vs r.u)) ⟨b, ts, ss, ws, vs⟩ ⟨⟨r1, r2, hu'.2⟩, hdm.2⟩ (gaC (gix2 (P := aNil) (Rb := rW a) (Ra := rV (.str "&")) (gv rfl h1) (gc rfl)) (gaC (gv rfl h2) (gaC (gv rfl h3) ga0)))) ga0)) fun vs L' h => by rw [len_2 h]; decide)) ga0)))
  | zero => exact absurd hb (by decide +kernel)
  | one => exact absurd hb (by decide +kernel)
  | a i => exact absurd hb3 (show ¬ inV (.str "a") [.str "a", .str "b"] = false by decide +kernel)
  | b i => exact absurd hb3 (show ¬ inV (.str "b") [.str "a", .str "b"] = false by decide +kernel)
theorem c__law_read (F : Cs K mg) : ∀ d : Nat, Cal P w K mg base (19 + d) "_law_read" (spLRead K d) []
  | 0 => c__law_read_0 F
  | d + 1 => c__law_read_s F d (c__law_read F d)
end
end HW
/-! part W25 -/
set_option maxHeartbeats 4000000
/-! The menus' chains grow; a law's word over the chains is the same word read. -/
namespace HW
open PySem PySem.Spec PyProof.Rows L2 HR HV C8
open HM (CW)
/-- the one within the other -/
def LeW (t : Trp) (x y : WT) : Prop := ∀ u, HM.Span t.p t.n (x.val t) u → HM.Span t.p t.n (y.val t) u
section
variable {t : Trp} (h : t.ok) {x y z : WT}
include h
theorem sub_w (x : WT) : HM.Sub t.p t.n (HM.Span t.p t.n (x.val t)) := (x.val_red h).sub h.a.1.pos
theorem le_cl (hx : LeW t x z) : LeW t (.cut x y) z := fun u hu => hx u ((HM.meetRows_span h.a.1 (x.val_red h) (y.val_red h) u).mp hu).1
theorem le_cr (hy : LeW t y z) : LeW t (.cut x y) z := fun u hu => hy u ((HM.meetRows_span h.a.1 (x.val_red h) (y.val_red h) u).mp hu).2
theorem le_c (hx : LeW t z x) (hy : LeW t z y) : LeW t z (.cut x y) := fun u hu => (HM.meetRows_span h.a.1 (x.val_red h) (y.val_red h) u).mpr ⟨hx u hu, hy u hu⟩
theorem le_pl (hx : LeW t z x) : LeW t z (.plus x y) := fun u hu => (HM.addRows_span h.a.1 (x.val_red h) (y.val_red h) u).mpr (HM.sum_left (sub_w h x) (sub_w h y) (hx u hu))
theorem le_pr (hy : LeW t z y) : LeW t z (.plus x y) := fun u hu => (HM.addRows_span h.a.1 (x.val_red h) (y.val_red h) u).mpr (HM.sum_right (sub_w h x) (sub_w h y) (hy u hu))
theorem le_0 : LeW t .zero z := fun u hu => by
  have : u = HM.zeros t.n := hu
  rw [this]
  exact (sub_w h z).zero
theorem le_1 : LeW t z .one := fun u hu => (HM.wholeRows_span h.a.1 u).mpr ((sub_w h z).vec u hu)
omit h in
theorem le_r : LeW t x x := fun _ hu => hu
/-- each within the next -/
def Asc (t : Trp) : List WT → Prop
  | x :: y :: r => LeW t x y ∧ Asc t (y :: r)
  | _ => True
theorem ascA : ∀ ws ∈ wordsA, Asc t ws := by
  intro ws hw
  rcases List.mem_cons.mp hw with rfl | hw
  · exact ⟨le_cl h le_r, le_pl h le_r, trivial⟩
  rcases List.mem_cons.mp hw with rfl | hw
  · exact ⟨le_c h (le_cl h (le_cl h le_r)) (le_cr h le_r), le_cl h le_r, le_pl h (le_pl h le_r), trivial⟩
  rcases List.mem_cons.mp hw with rfl | hw
  · exact ⟨le_0 h, trivial⟩
  rcases List.mem_cons.mp hw with rfl | hw
  · trivial
  cases hw
theorem ascB : ∀ ws ∈ wordsB, Asc t ws := by
  intro ws hw
  rcases List.mem_cons.mp hw with rfl | hw
  · trivial
  rcases List.mem_cons.mp hw with rfl | hw
  · exact ⟨le_cr h le_r, le_pr h le_r, trivial⟩
  rcases List.mem_cons.mp hw with rfl | hw
  · exact ⟨le_cr h le_r, le_1 h, trivial⟩
  rcases List.mem_cons.mp hw with rfl | hw
  · exact ⟨le_cr h le_r, le_pr h le_r, trivial⟩
  cases hw
theorem asc_at : ∀ {ws : List WT}, Asc t ws → ∀ i a b, (ws.map (WT.val t))[i]? = some a → (ws.map (WT.val t))[i + 1]? = some b → HM.leRows t.p t.n a b = true
  | [], _, i, a, b, h1, _ => by cases h1
  | [x], _, i, a, b, h1, h2 => by cases h2
  | x :: y :: r, hs, 0, a, b, h1, h2 => by
    cases h1
    cases h2
    exact (HM.leRows_iff h.a.1 (x.val_red h) (y.val_red h)).mpr hs.1
  | x :: y :: r, hs, i + 1, a, b, h1, h2 => asc_at hs.2 i a b h1 h2
end
/-- the chains of a triple -/
def mchs (t : Trp) (ws vs : List WT) : Chs := ⟨t.p, t.n, ws.map (WT.val t), vs.map (WT.val t)⟩
theorem words_len : (∀ ws ∈ wordsA, 0 < ws.length ∧ ws.length ≤ 20) ∧ ∀ ws ∈ wordsB, 0 < ws.length ∧ ws.length ≤ 20 := by decide
theorem mchs_ok {t : Trp} (h : t.ok) {ws vs : List WT} (hw : ws ∈ wordsA) (hv : vs ∈ wordsB) : (mchs t ws vs).ok where
  hp := h.a.1
  hn := h.a.2.1
  ra := fun r hr => by
    obtain ⟨x, _, rfl⟩ := List.mem_map.mp hr
    exact x.val_red h
  rb := fun r hr => by
    obtain ⟨x, _, rfl⟩ := List.mem_map.mp hr
    exact x.val_red h
  la := by
    have := words_len.1 ws hw
    show 0 < (ws.map (WT.val t)).length ∧ (ws.map (WT.val t)).length ≤ 20
    rwa [List.length_map]
  lb := by
    have := (words_len.2 vs hv).2
    show (vs.map (WT.val t)).length ≤ 20
    rwa [List.length_map]
  ua := asc_at h (ascA h ws hw)
  ub := asc_at h (ascB h vs hv)
theorem sub_val {t : Trp} {ws vs : List WT} : ∀ {u : CW}, u.ok ws.length vs.length → (subW ws vs u).val t = (mchs t ws vs).val u
  | .zero, _ => rfl
  | .one, _ => rfl
  | .a k, hk => by
    have hk : 1 ≤ k ∧ k ≤ ws.length := hk
    have h1 : ws[k - 1]? = some ws[k - 1] := List.getElem?_eq_getElem (by omega)
    show ((ws[k - 1]?).getD .zero).val t = lev t.p t.n (ws.map (WT.val t)) k
    unfold lev
    rw [h1, if_neg (by omega), List.length_map, if_pos hk.2, List.getD_eq_getElem?_getD, List.getElem?_map, h1]
    rfl
  | .b k, hk => by
    have hk : 1 ≤ k ∧ k ≤ vs.length := hk
    have h1 : vs[k - 1]? = some vs[k - 1] := List.getElem?_eq_getElem (by omega)
    show ((vs[k - 1]?).getD .zero).val t = lev t.p t.n (vs.map (WT.val t)) k
    unfold lev
    rw [h1, if_neg (by omega), List.length_map, if_pos hk.2, List.getD_eq_getElem?_getD, List.getElem?_map, h1]
    rfl
  | .plus x y, hk => by
    show HM.addRows t.p ((subW ws vs x).val t) ((subW ws vs y).val t) = HM.addRows t.p ((mchs t ws vs).val x) ((mchs t ws vs).val y)
    rw [sub_val hk.1, sub_val hk.2]
  | .cut x y, hk => by
    show HM.meetRows t.p t.n ((subW ws vs x).val t) ((subW ws vs y).val t) = HM.meetRows t.p t.n ((mchs t ws vs).val x) ((mchs t ws vs).val y)
    rw [sub_val hk.1, sub_val hk.2]
/-- the depth of a law's word -/
theorem sub_dp {ws vs : List WT} {m : Nat} (h1 : ∀ w ∈ ws, w.dp ≤ m) (h2 : ∀ w ∈ vs, w.dp ≤ m) : ∀ u : CW, (subW ws vs u).dp ≤ dep u + m
  | .zero => by show 0 ≤ _; omega
  | .one => by show 0 ≤ _; omega
  | .a k => by
    show ((ws[k - 1]?).getD .zero).dp ≤ _
    cases e : ws[k - 1]? with
    | none => show 0 ≤ _; omega
    | some w =>
      have := h1 w (List.mem_of_getElem? e)
      show w.dp ≤ _
      omega
  | .b k => by
    show ((vs[k - 1]?).getD .zero).dp ≤ _
    cases e : vs[k - 1]? with
    | none => show 0 ≤ _; omega
    | some w =>
      have := h2 w (List.mem_of_getElem? e)
      show w.dp ≤ _
      omega
  | .plus x y => by
    have := sub_dp h1 h2 x
    have := sub_dp h1 h2 y
    show max (subW ws vs x).dp (subW ws vs y).dp + 1 ≤ max (dep x) (dep y) + 1 + m
    omega
  | .cut x y => by
    have := sub_dp h1 h2 x
    have := sub_dp h1 h2 y
    show max (subW ws vs x).dp (subW ws vs y).dp + 1 ≤ max (dep x) (dep y) + 1 + m
    omega
theorem words_dp : (∀ ws ∈ wordsA, ∀ w ∈ ws, w.dp ≤ 2) ∧ ∀ ws ∈ wordsB, ∀ w ∈ ws, w.dp ≤ 2 := by decide
end HW
/-! part W26 -/
set_option maxHeartbeats 4000000
/-! The law's body. -/
namespace HW
open PySem PySem.Spec PyProof.Rows L2 HR HV C8
open Evl (Ex)
open HM (CW)
section
variable {T : Tap} {L L0 H0 H L1 H1 : Hp} {σ : L2.St} {ta tb tc te : TE} {P : RepA} {R Ra Rb : Rep} {K : PySem.W.Frag} {ι : Type} {p : Addr}
/-- on with a tape of our own that may be drawn from -/
theorem Stp.draw (ok : Ok T L0 H0) (S : Stp T L0 H0 L H) (hp : H0 p = none) (s : Stp (T1 p) L H L1 H1) : Stp T L0 H0 L1 H1 :=
  have ne : ∀ {a : Addr} {o : HO}, H0 a = some o → a ≠ p := fun h z => by rw [z, hp] at h; cases h
  have nt : ∀ {a : Addr}, T a → a ≠ p := fun {a} t z => by
    have := tp_some (ok.2 a t).1
    rw [z, hp] at this; cases this
  ⟨S.ll.trans s.ll, s.lh, fun a o e t => s.hh a o (S.hh a o e t) (ne e), fun a o e m n => by
    by_cases t : T a
    · obtain ⟨i, j, k, e2, _⟩ := S.tp a t
      exact s.nw a _ e2 (fun xs z => nomatch z) (S.nw a o e m n)
    · exact s.nw a o (S.hh a o e t) m (S.nw a o e m n), fun a t => by
    obtain ⟨i, j, k, e2, r⟩ := S.tp a t
    exact ⟨i, j, k, s.hh a _ e2 (nt t), r⟩⟩
/-- a call of a def that draws from a tape made for it -/
theorem gtape {A : ι → RepA} {R : ι → Rep} {E E0 : XK} {tr : TA} {ns : List Int} {n : Int} [gp : Gr P] (i : ι) (hn : 0 ≤ n ∧ n ≤ 20) (ha : Go T L (ta σ) (rScr K ns)) (hb : Go T L (tb σ) (rInt n)) (hr : Go T L (tr σ) P) (h : ∀ vs L', Ex L L' → P vs L' → A i vs L') :
    Go T L (tCall (spT A R) [] E (tCons (tCall (spTape K) [] E0 (tCons ta (tCons tb tNil))) tr) σ) (R i) := fun H ok Q q => by
    show (tCons ta (tCons tb tNil)) σ H (fun vs H1 => spTape K (vs ++ []) H1 (fun y H2 => tr σ H2 fun ws H3 => spT A R ((y :: ws) ++ []) H3 Q E) E0)
    refine (gaC ha (gaC hb ga0)) H ok _ fun vs L1 H1 s1 r1 => ?_
    refine ⟨(ns, n), L1, (s1.ok ok).1, ⟨hn, by rw [List.append_nil]; exact r1⟩, fun p L2 H2 s2 hp hl ht => ?_⟩
    have ok1 := s1.ok ok
    have S2 : Stp T L H L2 H2 := s1.trans (s2.of0 ok1)
    have h0 : H p = none := by
      cases e : H p with
      | none => rfl
      | some o =>
        by_cases t : T p
        · have := tp_some (s1.tp p t)
          rw [hp] at this; cases this
        · have := s1.hh p o e t
          rw [hp] at this; cases this
    have nt : ¬ T p := fun t => by
      have := tp_some (ok.2 p t).1
      rw [h0] at this; cases this
    refine Go.mono S2.ll hr H2 (S2.ok ok) _ fun ws L3 H3 s3 r3 => ?_
    have S3 := S2.trans s3
    obtain ⟨a, b, c, e2, rr⟩ := id ht
    have e3 : H3 p = some (.lst [.int a, .int b, .int c]) := s3.hh p _ e2 nt
    have n3 : L3 p = none := s3.nw p _ e2 (fun xs z => nomatch z) hl
    refine ⟨i, L3, p, ws ++ [], rfl, ⟨(S3.ok ok).1, fun a t => by
      have t : a = p := t
      subst t; exact ⟨⟨_, _, _, e3, rr⟩, n3⟩⟩, by rw [List.append_nil]; exact h ws L3 S3.ll r3, fun v L4 H4 s4 r4 => q v L4 H4 (Stp.draw ok S3 h0 s4) r4⟩
end
section
variable {T : Tap} {L H : Hp} {σ : L2.St} {ta tb : TE} {R Ra Rb Rc : Rep} {K : PySem.W.Frag}
theorem gix3 [g : Gr R] [g1 : Gr Ra] [g2 : Gr Rb] [g3 : Gr Rc] (ha : Go T L (ta σ) (rTup (aCons Ra (aCons Rb (aCons Rc (aCons R aNil)))))) (hb : Go T L (tb σ) (rInt 3)) : Go T L (tOp (rIxT K) ta tb σ) R := gixT ha hb fun vs L' _ ⟨v, r, e, h1, v2, r2, e2, h2, v3, r3, e3, h3, v4, r4, e4, h4, _⟩ => ⟨v4, by rw [e, e2, e3, e4]; exact atI_nat (j := 3) rfl, h4⟩
theorem gtabs {l : List (Nat × Nat)} {f : Nat × Nat → Int} (ha : Go T L (ta σ) (rTab l f)) (hb : Go T L (tb σ) (rTab l f)) : Go T L (tOp rEqT ta tb σ) (rV (.bl true)) := gop ha hb fun x y L' _ ⟨d1, e1, h1⟩ ⟨d2, e2, h2⟩ => fun H ok Q q => by
  have e : tabK l f = (l.map fun c => (ck c, f c)).map fun p => (p.1, V.int p.2) := by
    rw [List.map_map]; rfl
  rw [e] at h1 h2
  exact ⟨d1, d2, _, _, e1, e2, ok.1 d1 _ h1, ok.1 d2 _ h2, rfl, fun _ h => h, q _ L' H (Stp.refl ok) rfl⟩
end
def frames6 : List (Int × Nat) := [(2, 4), (3, 3), (2, 3), (5, 2), (3, 2), (13, 2)]
theorem frames6_ok : ∀ q ∈ frames6, (q.1 = 2 ∨ q.1 = 3 ∨ q.1 = 5 ∨ q.1 = 7 ∨ q.1 = 11 ∨ q.1 = 13) ∧ q.2 ≤ 12 := by decide
theorem Read.mem {ts : List Str} {ws : List WT} (h : Read ts ws) {s : Str} (hs : s ∈ ts) : ∃ w ∈ ws, readF s = some w ∧ s.length ≤ 1000 := by
  have : readF s ∈ ws.map some := by
    rw [← h.1]
    exact List.mem_map.mpr ⟨s, hs, rfl⟩
  obtain ⟨w, hw, e⟩ := List.mem_map.mp this
  exact ⟨w, hw, e.symm, h.2 s hs⟩
/-- the value of a text -/
def txv (t : Trp) (s : Str) : List (List Int) := ((readF s).getD .zero).val t
theorem txv_map {t : Trp} {ts : List Str} {ws : List WT} (h : Read ts ws) : ts.map (txv t) = ws.map (WT.val t) := by
  have := congrArg (fun l => l.map fun o : Option WT => (o.getD .zero).val t) h.1
  simp only [List.map_map] at this
  exact this
theorem Read.len {ts : List Str} {ws : List WT} (h : Read ts ws) : ts.length = ws.length := by
  have := congrArg List.length h.1
  simpa using this
section
variable {P : Program} {w : World} {K : PySem.W.Frag} {mg : Str → Option Value} {base : Heap}
/-- the promise of a def, by its body, at the very function object that is told -/
theorem okG {x qual : Str} {st : Stmt} {N ps : List Str} {k : Nat} {sp : Sp} {f0 : Addr} {fd : FuncData} (D : FunD K x qual (fnArgs st) (fnBody st) (fnScope st) [] [] f0 fd) (sc : scC N ps (fnScope st) = true) (len : ∀ vs H Q E, sp vs H Q E → vs.length = ps.length)
    (hbody : ∀ (f : Addr) (cdv : Value) (A : Around) (outer : List Env) (s : Shared) (H : Hp) (vs : List V) (Q : VK) (E : XK), Room k (A.deeper (envOfC qual (fnScope st) s.heap.objs.size f cdv)) → sp vs H Q E →
      ∃ t, PSs (cxOf C8.CX0 P w K mg base N qual (fnScope st) f cdv A outer s H E).nox (fnBody st) t ∧ t { nx := fun _ H' => Q .non H', rt := Q } (start N vs) H) : FnOk P w K mg base C8.CX0 (k + 1) f0 fd ps sp :=
  D.ok (fnScope_by sc) len fun cdv A outer s H vs Q E hr hsp => by
    obtain ⟨t, h, q⟩ := hbody f0 cdv A outer s H vs Q E hr hsp
    exact ⟨t, h.nox, q⟩
def spLaw (K : PySem.W.Frag) : Sp := spR (fun ns : List Int => aAnd True (aCons (rScr K ns) aNil)) (fun _ => rV (.bl true))
theorem l_law (F : Cs K mg) {f0 : Addr} {fd : FuncData} (D : FunD K "law" "law" (fnArgs (topS 86)) (fnBody (topS 86)) (fnScope (topS 86)) [] [] f0 fd) : FnOk P w K mg base C8.CX0 32 f0 fd ["_law_script"] (spLaw K) := by
  refine okG (N := ["_law_script", "_law_tape_here", "_law_prime", "_law_most", "_law_length_here", "_law_rows_here", "_law_triple", "_law_ones", "_law_others", "_law_first", "_law_second", "_law_chains_here", "_law_drawn_here", "_law_k", "_law_one", "_law_told", "_law_other", "_law_mine", "_law_yours", "_law_text"]) (ps := ["_law_script"]) D (by decide +kernel) (len1 fun _ _ _ h => lC h.2 (fun _ => l0)) ?_
  rintro f cdv A outer s H vs Q E hr ⟨x, L, e, ⟨pre, ha⟩, k⟩
  have nd := (fnScope_by (N := ["_law_script", "_law_tape_here", "_law_prime", "_law_most", "_law_length_here", "_law_rows_here", "_law_triple", "_law_ones", "_law_others", "_law_first", "_law_second", "_law_chains_here", "_law_drawn_here", "_law_k", "_law_one", "_law_told", "_law_other", "_law_mine", "_law_yours", "_law_text"]) (P := ["_law_script"]) (sc := fnScope (topS 86)) (by decide +kernel)).nd
  have ok := ok0 e
  have hu := hu_of hr
  have hu0 := hr.units0
  have hu64 := hr.units
  refine ⟨_, (pss_cons (ps_set (i := 1) nd rfl (by first | exact Or.inl rfl | exact Or.inr rfl) (pe_c (c__law_tape F) hr (by decide) rfl (pa_cons (pv 0) (pa_cons pe_int pa_nil))))
  (pss_cons (ps_asg (pe_ix (kix_list K rfl) (pe_lst (pa_cons (pe_tup (pa_cons pe_int (pa_cons pe_int pa_nil))) (pa_cons (pe_tup (pa_cons pe_int (pa_cons pe_int pa_nil))) (pa_cons (pe_tup (pa_cons pe_int (pa_cons pe_int pa_nil))) (pa_cons (pe_tup (pa_cons pe_int (pa_cons pe_int pa_nil))) (pa_cons (pe_tup (pa_cons pe_int (pa_cons pe_int pa_nil))) (pa_cons (pe_tup (pa_cons pe_int (pa_cons pe_int pa_nil))) pa_nil))))))) (pe_c (c__law_pick F) hr (by decide) rfl (pa_cons (pv 1) (pa_cons pe_int pa_nil))) (fun _ _ => rfl)) (pg_tup rfl (pgs_cons (pg_name (i := 2) nd rfl (by first | exact Or.inl rfl | exact Or.inr rfl)) (pgs_cons (pg_name (i := 3) nd rfl (by first | exact Or.inl rfl | exact Or.inr rfl)) pgs_nil))))
  (pss_cons (ps_asg (pe_c (c__law_drawn F) hr (by decide) rfl (pa_cons (pe_c (c__law_tape F) hr (by decide) rfl (pa_cons (pv 0) (pa_cons pe_int pa_nil))) (pa_cons (pe_tup (pa_cons (pv 2) (pa_cons (pv 3) pa_nil))) pa_nil))) (pg_tup rfl (pgs_cons (pg_name (i := 4) nd rfl (by first | exact Or.inl rfl | exact Or.inr rfl)) (pgs_cons (pg_name (i := 5) nd rfl (by first | exact Or.inl rfl | exact Or.inr rfl)) pgs_nil))))
  (pss_cons (ps_set (i := 6) nd rfl (by first | exact Or.inl rfl | exact Or.inr rfl) (pe_c (c__law_object F) hr (by decide) rfl (pa_cons (pv 2) (pa_cons (pv 4) (pa_cons (pv 5) pa_nil)))))
  (pss_cons (ps_asg (pe_c (c__law_spaces F) hr (by decide) rfl (pa_cons (pv 1) pa_nil)) (pg_tup rfl (pgs_cons (pg_name (i := 7) nd rfl (by first | exact Or.inl rfl | exact Or.inr rfl)) (pgs_cons (pg_name (i := 8) nd rfl (by first | exact Or.inl rfl | exact Or.inr rfl)) pgs_nil))))
  (pss_cons (ps_setLc (i := 9) (own := [("_law_text", 19)]) rfl nd rfl rfl (sw_true rfl rfl rfl (by decide +kernel)) (kpi_list K rfl (pv 7)) (blkOk_by (N := ["_law_script", "_law_tape_here", "_law_prime", "_law_most", "_law_length_here", "_law_rows_here", "_law_triple", "_law_ones", "_law_others", "_law_first", "_law_second", "_law_chains_here", "_law_drawn_here", "_law_k", "_law_one", "_law_told", "_law_other", "_law_mine", "_law_yours", "_law_text"]) (sc := fnScope (topS 86)) (by decide +kernel)) (fun _ _ _ _ _ => (pg_name (i := 19) nd rfl (Or.inl rfl))) (fun _ _ _ _ _ => pts_nil) (fun _ _ _ _ _ => (pe_c (c_value F 10) hr (by decide) rfl (pa_cons (pe_cm K rfl (k_Word_read F) hr (by decide) (pe_gc (v := .ref (cA K "Word")) rfl ⟨_, F.Word.mg, rfl⟩) (pa_cons (pv 19) pa_nil)) (pa_cons (pv 6) pa_nil)))))
  (pss_cons (ps_setLc (i := 10) (own := [("_law_text", 19)]) rfl nd rfl rfl (sw_true rfl rfl rfl (by decide +kernel)) (kpi_list K rfl (pv 8)) (blkOk_by (N := ["_law_script", "_law_tape_here", "_law_prime", "_law_most", "_law_length_here", "_law_rows_here", "_law_triple", "_law_ones", "_law_others", "_law_first", "_law_second", "_law_chains_here", "_law_drawn_here", "_law_k", "_law_one", "_law_told", "_law_other", "_law_mine", "_law_yours", "_law_text"]) (sc := fnScope (topS 86)) (by decide +kernel)) (fun _ _ _ _ _ => (pg_name (i := 19) nd rfl (Or.inl rfl))) (fun _ _ _ _ _ => pts_nil) (fun _ _ _ _ _ => (pe_c (c_value F 10) hr (by decide) rfl (pa_cons (pe_cm K rfl (k_Word_read F) hr (by decide) (pe_gc (v := .ref (cA K "Word")) rfl ⟨_, F.Word.mg, rfl⟩) (pa_cons (pv 19) pa_nil)) (pa_cons (pv 6) pa_nil)))))
  (pss_cons (ps_set (i := 11) nd rfl (by first | exact Or.inl rfl | exact Or.inr rfl) (pe_mkB K rfl F.Chains.mkr F.Chains.mg (n_Chains_init F) hr (by decide) rfl (pa_cons (pv 9) (pa_cons (pv 10) pa_nil))))
  (pss_cons (ps_set (i := 12) nd rfl (by first | exact Or.inl rfl | exact Or.inr rfl) (pe_c (c__law_pair F) hr (by decide) rfl (pa_cons (pe_c (c__law_tape F) hr (by decide) rfl (pa_cons (pv 0) (pa_cons pe_int pa_nil))) pa_nil)))
  (pss_cons (ps_for PassesOwn.never rfl (pi_range1 rfl F.range (pa_cons pe_int pa_nil)) (pg_name (i := 13) nd rfl (by first | exact Or.inl rfl | exact Or.inr rfl)) (pss_cons (ps_set (i := 14) nd rfl (by first | exact Or.inl rfl | exact Or.inr rfl) (pe_c (c__law_term F 10) hr (by decide) rfl (pa_cons (pe_c (c__law_tape F) hr (by decide) rfl (pa_cons (pv 0) (pa_cons (pe_op op_add pe_int (pv 13)) pa_nil))) (pa_cons (pe_callB (klen K rfl) rfl F.len bt_len (pa_cons (pv 7) pa_nil)) (pa_cons (pe_callB (klen K rfl) rfl F.len bt_len (pa_cons (pv 8) pa_nil)) (pa_cons pe_int pa_nil))))))
  (pss_cons (ps_set (i := 15) nd rfl (by first | exact Or.inl rfl | exact Or.inr rfl) (pe_c (c_value F 10) hr (by decide) rfl (pa_cons (pe_c (c__law_read F 10) hr (by decide) rfl (pa_cons (pv 14) (pa_cons (pv 7) (pa_cons (pv 8) pa_nil)))) (pa_cons (pv 6) pa_nil))))
  (pss_cons (ps_if (PW.pt (pw_or (pt_not (pt_cmpR (oC K rfl (fun _ _ => rfl) F.sEq.me (n_Space_eq F) hr (by decide)) (pe_c (c_chain_value F) hr (by decide) rfl (pa_cons (pv 14) (pa_cons (pv 11) pa_nil))) (pv 15) (nomark _))) (pw_or1 (pt_not (pt_val (pe_c (c__law_sized F) hr (by decide) rfl (pa_cons (pv 11) (pa_cons (pv 14) pa_nil)))))))) (pss_one (ps_ret pe_bl)) pss_nil)
  (pss_cons (ps_set (i := 16) nd rfl (by first | exact Or.inl rfl | exact Or.inr rfl) (pe_c (c__law_term F 10) hr (by decide) rfl (pa_cons (pe_c (c__law_tape F) hr (by decide) rfl (pa_cons (pv 0) (pa_cons (pe_op op_add pe_int (pv 13)) pa_nil))) (pa_cons (pe_callB (klen K rfl) rfl F.len bt_len (pa_cons (pv 7) pa_nil)) (pa_cons (pe_callB (klen K rfl) rfl F.len bt_len (pa_cons (pv 8) pa_nil)) (pa_cons pe_int pa_nil))))))
  (pss_cons (ps_if (PW.pt (pw_or (pt_not (pt_val (pe_c (c__law_held F) hr (by decide) rfl (pa_cons (pv 11) (pa_cons (pv 14) (pa_cons (pv 16) pa_nil)))))) (pw_or1 (pt_not (pt_val (pe_c (c__law_held F) hr (by decide) rfl (pa_cons (pv 11) (pa_cons (pv 16) (pa_cons (pv 14) pa_nil))))))))) (pss_one (ps_ret pe_bl)) pss_nil)
  (pss_cons (ps_par (i := 17) (j := 18) rfl nd rfl rfl (by decide) rfl rfl (pa_cons (pe_callB (klen K rfl) rfl F.len bt_len (pa_cons (pe_ix (kix_tup K rfl) (pv 12) pe_int (fun _ _ => rfl)) pa_nil)) (pa_cons (pe_callB (klen K rfl) rfl F.len bt_len (pa_cons (pe_ix (kix_tup K rfl) (pv 12) pe_int (fun _ _ => rfl)) pa_nil)) pa_nil)) rfl)
  (pss_cons (ps_set (i := 14) nd rfl (by first | exact Or.inl rfl | exact Or.inr rfl) (pe_c (c__law_term F 10) hr (by decide) rfl (pa_cons (pe_c (c__law_tape F) hr (by decide) rfl (pa_cons (pv 0) (pa_cons (pe_op op_add pe_int (pv 13)) pa_nil))) (pa_cons (pv 17) (pa_cons (pv 18) (pa_cons pe_int pa_nil))))))
  (pss_cons (ps_set (i := 16) nd rfl (by first | exact Or.inl rfl | exact Or.inr rfl) (pe_c (c__law_term F 10) hr (by decide) rfl (pa_cons (pe_c (c__law_tape F) hr (by decide) rfl (pa_cons (pv 0) (pa_cons (pe_op op_add pe_int (pv 13)) pa_nil))) (pa_cons (pv 17) (pa_cons (pv 18) (pa_cons pe_int pa_nil))))))
  (pss_one (ps_if (PW.pt (pw_or (pt_not (pt_val (pe_c (c__law_sized F) hr (by decide) rfl (pa_cons (pe_c (c__law_chains F) hr (by decide) rfl (pa_cons (pv 12) pa_nil)) (pa_cons (pv 14) pa_nil))))) (pw_or1 (pt_not (pt_val (pe_c (c__law_held F) hr (by decide) rfl (pa_cons (pe_c (c__law_chains F) hr (by decide) rfl (pa_cons (pv 12) pa_nil)) (pa_cons (pv 14) (pa_cons (pv 16) pa_nil))))))))) (pss_one (ps_ret pe_bl)) pss_nil)))))))))))
  (pss_one (ps_ret (pe_cmpR (op_eqT hu) (pe_c (c_cell_table F) hr (by decide) rfl (pa_cons (pe_c (c__law_chains F) hr (by decide) rfl (pa_cons (pv 12) pa_nil)) pa_nil)) (pe_c (c__law_table F) hr (by decide) rfl (pa_cons (pv 12) pa_nil)) (nomark _)))))))))))))), ?_⟩
  obtain ⟨v0, rfl, h0⟩ := a1 ha
  have h0 : rScr K x v0 L := h0
  refine ⟨v0, rfl, ⟨(x, 0), L, e, ⟨⟨Int.le_refl 0, by show (0 : Int) ≤ 20; decide⟩, v0, _, rfl, h0, _, _, rfl, rfl, rfl⟩, fun p L1 H1 S1 hp hl ht => ?_⟩⟩
  have okT : Ok (T1 p) L1 H1 := ⟨S1.lh, fun a t => by
    have t : a = p := t
    subst t; exact ⟨ht, hl⟩⟩
  have k : ∀ v L' H', Stp (T1 p) L1 H1 L' H' → rV (.bl true) v L' → Q v H' := fun v L' H' s r => k v L' H' (Stp.draw ok S1 hp s) r
  have t0 : T1 p p := rfl
  have h0 := up S1.ll h0
  refine gAsgG okT (Stp.refl okT) (gixE (R := rFr) (xs := frames6) (m := 6) (by decide) (glst (gaFr (gaFr (gaFr (gaFr (gaFr (gaFr ga0L)))))) (pd_len (m := 100000) (by decide))) (gcpT (R := fun m => rPick m) 6 rfl t0 ⟨by decide, by decide⟩ (gaC (gc rfl) ga0))) fun v2 L2 H2 S2 s2 r2 => ?_
  obtain ⟨⟨pp, mo⟩, hfr, r2⟩ := r2
  obtain ⟨hpp, hmo⟩ := frames6_ok _ hfr
  have hpp : HM.IsP pp := hpp
  have hmo : mo ≤ 12 := hmo
  have pp0 : 0 < pp := hpp.pos
  have pp13 : pp ≤ 13 := by rcases hpp with h | h | h | h | h | h <;> omega
  refine g_pair S2.lh r2 fun w1 w2 hw1 hw2 => ?_
  obtain rfl : w1 = .int pp := hw1
  obtain rfl : w2 = .int (mo : Int) := hw2
  have h0 := up s2.ll h0
  refine gAsgG okT S2 (gtape (ns := x) (R := fun q : Int × Nat => rE (fun n : Nat => n ≤ q.2) fun n => rPr (rInt (n : Int)) (rD3 n 1000)) (pp, mo) ⟨by decide, by decide⟩ (gv rfl h0) (gc rfl) (gaC (gpair (gv (R := rInt pp) rfl rfl) (gv (R := rInt (mo : Int)) rfl rfl)) ga0) fun vs L' _ h => ⟨⟨pp0, by show pp < 1073741824; omega, hmo⟩, h⟩) fun v3 L3 H3 S3 s3 r3 => ?_
  obtain ⟨n, hn, r3⟩ := r3
  have hn : n ≤ 12 := Nat.le_trans hn hmo
  refine g_pair S3.lh r3 fun w3 w4 hw3 hw4 => ?_
  obtain rfl : w3 = .int (n : Int) := hw3
  have h0 := up s3.ll h0
  refine gSet okT S3 (gcp (R := fun q : Int × Nat => rE (fun t : Trp => t.p = q.1 ∧ t.n = q.2 ∧ t.ok) fun t => rTri K t) (pp, n) ⟨hpp, hn⟩ (gaC (gv rfl rfl) (gaC (gv rfl rfl) (gaC (gv rfl hw4) ga0)))) fun v6 L6 H6 S6 s6 r6 => ?_
  obtain ⟨t, ⟨_, _, tok⟩, r6⟩ := r6
  have h0 := up s6.ll h0
  refine gAsgG okT S6 (gcpT (R := fun _ : Unit => rE (fun q : List Str × List Str => q.1 ∈ menuA ∧ q.2 ∈ menuB) fun q => rPr (rLs rStr q.1) (rLs rStr q.2)) () rfl t0 trivial ga0) fun v7 L7 H7 S7 s7 r7 => ?_
  obtain ⟨⟨ts, ss⟩, ⟨hts, hss⟩, r7⟩ := r7
  have hts : ts ∈ menuA := hts
  have hss : ss ∈ menuB := hss
  refine g_pair S7.lh r7 fun w7 w8 h7 h8 => ?_
  obtain ⟨ws, hws, rdA⟩ := read_of menuA_read menu_short.1 hts
  obtain ⟨vs, hvs, rdB⟩ := read_of menuB_read menu_short.2 hss
  have h0 := up s7.ll h0
  have h6 := up s7.ll r6
  have h7 : rLs rStr ts w7 L7 := h7
  have h8 : rLs rStr ss w8 L7 := h8
  have lenA := (words_len.1 ws hws)
  have lenB := (words_len.2 vs hvs)
  have ltA := rdA.len
  have ltB := rdB.len
  have hdpA := words_dp.1 ws hws
  have hdpB := words_dp.2 vs hvs
  have hc := mchs_ok tok hws hvs
  refine gSet (R := rLs (fun r => rSp K ((mchs t ws vs).sp r)) (ts.map (txv t))) okT S7 (glc1 (Z := fun r => rSp K ((mchs t ws vs).sp r)) (txv t) (gi_list (Y := rStr) (ys := ts) (gv rfl h7)) (by show ts.length ≤ 40000; omega) (fun _ => rfl) fun s' xs L8 hs e8 hxs => ?_) fun v9 L9 H9 S9 s9 r9 => ?_
  · obtain ⟨w, hw, hrd, hln⟩ := rdA.mem hs
    have e : txv t s' = w.val t := by unfold txv; rw [hrd]; rfl
    rw [e]
    exact gcp (R := fun q : WT × Trp => rSp K (q.2.sp (q.1.val q.2))) (w, t) ⟨tok, by have := hdpA w hw; show w.dp < 10; omega⟩ (gaC (gcm (R := fun x : Str × WT => rWT K x.2) (s', w) ⟨hln, hrd⟩ (gc rfl) (gaC (gv rfl hxs) ga0)) (gaC (gv rfl (up e8 h6)) ga0))
  have h0 := up s9.ll h0
  have h6 := up s9.ll h6
  have h7 := up s9.ll h7
  have h8 := up s9.ll h8
  refine gSet (R := rLs (fun r => rSp K ((mchs t ws vs).sp r)) (ss.map (txv t))) okT S9 (glc1 (Z := fun r => rSp K ((mchs t ws vs).sp r)) (txv t) (gi_list (Y := rStr) (ys := ss) (gv rfl h8)) (by show ss.length ≤ 40000; omega) (fun _ => rfl) fun s' xs L8 hs e8 hxs => ?_) fun v10 L10 H10 S10 s10 r10 => ?_
  · obtain ⟨w, hw, hrd, hln⟩ := rdB.mem hs
    have e : txv t s' = w.val t := by unfold txv; rw [hrd]; rfl
    rw [e]
    exact gcp (R := fun q : WT × Trp => rSp K (q.2.sp (q.1.val q.2))) (w, t) ⟨tok, by have := hdpB w hw; show w.dp < 10; omega⟩ (gaC (gcm (R := fun x : Str × WT => rWT K x.2) (s', w) ⟨hln, hrd⟩ (gc rfl) (gaC (gv rfl hxs) ga0)) (gaC (gv rfl (up e8 h6)) ga0))
  rw [txv_map rdA] at r9
  rw [txv_map rdB] at r10
  refine gSet okT S10 (gmkS (B := fun c : Chs => aCons (rLs (fun r => rSp K (c.sp r)) c.a) (aCons (rLs (fun r => rSp K (c.sp r)) c.b) aNil)) (pre := fun c : Chs => c.ok) (R := fun c : Chs => rCh K c) (mchs t ws vs) hc (gaC (gv rfl (up s10.ll r9)) (gaC (gv rfl r10) ga0))) fun v11 L11 H11 S11 s11 r11 => ?_
  have h0 := up (s10.ll.trans s11.ll) h0
  refine gSet okT S11 (gtape (ns := x) (R := fun _ : Unit => rE (fun c : Prc => c.ok ∧ 0 < c.b.length) rPrc) () ⟨by decide, by decide⟩ (gv rfl h0) (gc rfl) ga0 fun vs L' _ h => ⟨trivial, h⟩) fun v12 L12 H12 S12 s12 r12 => ?_
  obtain ⟨c2, ⟨hc2, hb2⟩, r12⟩ := r12
  have h0 := up s12.ll h0
  have e12 := s10.ll.trans (s11.ll.trans s12.ll)
  have h6 := up e12 h6
  have h7 := up e12 h7
  have h8 := up e12 h8
  have h11 := up s12.ll r11
  refine gForS okT S12 (gi_rng1 (n := 3) (gaC (gc rfl) ga0) (by decide)) (fun i σ' La Ha => ∃ u13 u14 u15 u16 u17 u18 u19 : Option V, σ' = [some v0, some (.ref p), some (.int pp), some (.int (mo : Int)), some (.int (n : Int)), some w4, some v6, some w7, some w8, some v9, some v10, some v11, some v12, u13, u14, u15, u16, u17, u18, u19]) ?_ ?_ ?_
  · intro L13 H13 _ _
    exact ⟨_, _, _, _, _, _, _, rfl⟩
  · rintro Lm em i a xa σ' La Ha Lb Hb hia Sa ea ⟨u13, u14, u15, u16, u17, u18, u19, rfl⟩ sb hxa
    obtain rfl : xa = .int a := hxa
    have ha2 : 0 ≤ a ∧ a ≤ 2 := by
      have hm := List.mem_of_getElem? hia
      unfold upto at hm
      obtain ⟨j, hj, rfl⟩ := List.mem_map.mp hm
      have hj := List.mem_range.mp hj
      have : (3 : Int).toNat = 3 := rfl
      omega
    have Sb := Sa.trans sb
    have eb := em.trans (ea.trans sb.ll)
    have h0 := up eb h0
    have h6 := up eb h6
    have h7 := up eb h7
    have h8 := up eb h8
    have h11 := up eb h11
    have h12 := up eb r12
    -- a word over the menus' chains
    refine gSet okT Sb (gtape (ns := x) (n := 3 + a) (R := fun q : Nat × Nat × Nat => rE (fun u : CW => u.ok q.1 q.2.1 ∧ dep u < q.2.2) rW) (ws.length, vs.length, 6) ⟨by omega, by omega⟩ (gv rfl h0) (gI0 (gc rfl) (gv rfl rfl) rfl) (gaC (glen (n := ws.length) (sqOfL (R := rV v0) (gv rfl h7)) fun vs' L' h => by rw [Pd.length h, ltA]) (gaC (glen (n := vs.length) (sqOfL (R := rV v0) (gv rfl h8)) fun vs' L' h => by rw [Pd.length h, ltB]) (gaC (gc rfl) ga0))) fun vs' L' _ h => ⟨⟨⟨lenA.1, lenA.2, lenB.1, lenB.2, by show 1 ≤ 6; decide, by show 6 ≤ 100; decide⟩, by show 6 < 10; decide⟩, h⟩) fun v14 L14 H14 S14 s14 r14 => ?_
    obtain ⟨u, ⟨hu1, hu2⟩, r14⟩ := r14
    have hu1 : u.ok ws.length vs.length := hu1
    have hu2 : dep u < 6 := hu2
    have huc : u.ok (mchs t ws vs).a.length (mchs t ws vs).b.length := by
      show u.ok (ws.map (WT.val t)).length (vs.map (WT.val t)).length
      rw [List.length_map, List.length_map]
      exact hu1
    have h0 := up s14.ll h0
    have h6 := up s14.ll h6
    have h7 := up s14.ll h7
    have h8 := up s14.ll h8
    have h11 := up s14.ll h11
    have h12 := up s14.ll h12
    have hdp := sub_dp hdpA hdpB u
    refine gSet (R := rSp K ((mchs t ws vs).sp ((mchs t ws vs).val u))) okT S14 (geqSp (gcp (R := fun q : WT × Trp => rSp K (q.2.sp (q.1.val q.2))) (subW ws vs u, t) ⟨tok, by show (subW ws vs u).dp < 10; omega⟩ (gaC (gcp (R := fun r : RdI => rWT K (subW r.ws r.vs r.u)) ⟨u, ts, ss, ws, vs⟩ ⟨⟨rdA, rdB, hu1⟩, by show dep u < 10; omega⟩ (gaC (gv rfl r14) (gaC (gv rfl h7) (gaC (gv rfl h8) ga0)))) (gaC (gv rfl h6) ga0))) (by show t.sp ((subW ws vs u).val t) = t.sp ((mchs t ws vs).val u); rw [sub_val hu1])) fun v15 L15 H15 S15 s15 r15 => ?_
    have h0 := up s15.ll h0
    have h6 := up s15.ll h6
    have h7 := up s15.ll h7
    have h8 := up s15.ll h8
    have h11 := up s15.ll h11
    have h12 := up s15.ll h12
    have h14 := up s15.ll r14
    refine gNot okT S15 (b := false) (geqT (gor (a := false) (geqT (gnot (b := true) (gtest (gown2 (Rl := fun s => rSp K s) (Rr := fun s => rSp K s) (R := fun _ : Spc => rV (.bl true)) ((mchs t ws vs).sp ((mchs t ws vs).val u)) trivial (gcp (R := fun q : CW × Chs => rSp K (q.2.sp (q.2.val q.1))) (u, mchs t ws vs) ⟨hc, huc, by show dep u < 10; omega⟩ (gaC (gv rfl h14) (gaC (gv rfl h11) ga0))) (gv rfl r15) (fun _ _ => rSp_ins) (fun _ _ => rSp_ins)))) rfl) fun _ => geqT (gnot (b := true) (gB (gcp (R := fun _ : Chs × CW => rV (.bl true)) (mchs t ws vs, u) ⟨hc, huc, by show dep u < 10; omega⟩ (gaC (gv rfl h11) (gaC (gv rfl h14) ga0))))) rfl) rfl) rfl fun L16 H16 S16 s16 => ?_
    have h0 := up s16.ll h0
    have h7 := up s16.ll h7
    have h8 := up s16.ll h8
    have h11 := up s16.ll h11
    have h12 := up s16.ll h12
    have h14 := up s16.ll h14
    refine gSet okT S16 (gtape (ns := x) (n := 6 + a) (R := fun q : Nat × Nat × Nat => rE (fun u : CW => u.ok q.1 q.2.1 ∧ dep u < q.2.2) rW) (ws.length, vs.length, 4) ⟨by omega, by omega⟩ (gv rfl h0) (gI0 (gc rfl) (gv rfl rfl) rfl) (gaC (glen (n := ws.length) (sqOfL (R := rV v0) (gv rfl h7)) fun vs' L' h => by rw [Pd.length h, ltA]) (gaC (glen (n := vs.length) (sqOfL (R := rV v0) (gv rfl h8)) fun vs' L' h => by rw [Pd.length h, ltB]) (gaC (gc rfl) ga0))) fun vs' L' _ h => ⟨⟨⟨lenA.1, lenA.2, lenB.1, lenB.2, by show 1 ≤ 4; decide, by show 4 ≤ 100; decide⟩, by show 4 < 10; decide⟩, h⟩) fun v16 L17 H17 S17 s17 r16 => ?_
    obtain ⟨u', ⟨hv1, hv2⟩, r16⟩ := r16
    have hv1 : u'.ok ws.length vs.length := hv1
    have hv2 : dep u' < 4 := hv2
    have hvc : u'.ok (mchs t ws vs).a.length (mchs t ws vs).b.length := by
      show u'.ok (ws.map (WT.val t)).length (vs.map (WT.val t)).length
      rw [List.length_map, List.length_map]
      exact hv1
    have h0 := up s17.ll h0
    have h11 := up s17.ll h11
    have h12 := up s17.ll h12
    have h14 := up s17.ll h14
    refine gNot okT S17 (b := false) (geqT (gor (a := false) (geqT (gnot (b := true) (gB (gcp (R := fun _ : Chs × CW × CW => rV (.bl true)) (mchs t ws vs, u, u') ⟨hc, huc, hvc, by show dep u < 9; omega, by show dep u' < 9; omega⟩ (gaC (gv rfl h11) (gaC (gv rfl h14) (gaC (gv rfl r16) ga0)))))) rfl) fun _ => geqT (gnot (b := true) (gB (gcp (R := fun _ : Chs × CW × CW => rV (.bl true)) (mchs t ws vs, u', u) ⟨hc, hvc, huc, by show dep u' < 9; omega, by show dep u < 9; omega⟩ (gaC (gv rfl h11) (gaC (gv rfl r16) (gaC (gv rfl h14) ga0)))))) rfl) rfl) rfl fun L18 H18 S18 s18 => ?_
    have h0 := up s18.ll h0
    have h12 := up s18.ll h12
    -- words over the drawn chains
    have hcc := Prc.chs_ok hc2
    have la2 := hc2.la
    have lb2 := hc2.lb
    have lna : c2.chs.a.length = c2.a.length := List.length_map _
    have lnb : c2.chs.b.length = c2.b.length := List.length_map _
    refine gPar (Ra := rInt (c2.a.length : Int)) (Rb := rInt (c2.b.length : Int)) okT S18 (by exact glen (n := c2.a.length) (sqOfL (R := rV v0) (gix2 (P := aCons (rLs (fun rs => rLs rVec rs) c2.b) aNil) (Rb := rInt (c2.n : Int)) (Ra := rInt c2.p) (R := rLs (fun rs => rLs rVec rs) c2.a) (gv rfl h12) (gc rfl))) fun vs' L' h => Pd.length h) (by exact glen (n := c2.b.length) (sqOfL (R := rV v0) (gix3 (Rc := rLs (fun rs => rLs rVec rs) c2.a) (Rb := rInt (c2.n : Int)) (Ra := rInt c2.p) (R := rLs (fun rs => rLs rVec rs) c2.b) (gv rfl h12) (gc rfl))) fun vs' L' h => Pd.length h) fun w17 w18 L19 H19 S19 s19 r17 r18 => ?_
    obtain rfl : w17 = .int (c2.a.length : Int) := r17
    obtain rfl : w18 = .int (c2.b.length : Int) := r18
    have h0 := up s19.ll h0
    have h12 := up s19.ll h12
    refine gSet okT S19 (gtape (ns := x) (n := 9 + a) (R := fun q : Nat × Nat × Nat => rE (fun u : CW => u.ok q.1 q.2.1 ∧ dep u < q.2.2) rW) (c2.a.length, c2.b.length, 6) ⟨by omega, by omega⟩ (gv rfl h0) (gI0 (gc rfl) (gv rfl rfl) rfl) (gaC (gv (R := rInt (c2.a.length : Int)) rfl rfl) (gaC (gv (R := rInt (c2.b.length : Int)) rfl rfl) (gaC (gc rfl) ga0))) fun vs' L' _ h => ⟨⟨⟨la2.1, la2.2, hb2, lb2, by show 1 ≤ 6; decide, by show 6 ≤ 100; decide⟩, by show 6 < 10; decide⟩, h⟩) fun y14 L20 H20 S20 s20 r20 => ?_
    obtain ⟨z, ⟨hz1, hz2⟩, r20⟩ := r20
    have hz1 : z.ok c2.chs.a.length c2.chs.b.length := by rw [lna, lnb]; exact hz1
    have hz2 : dep z < 6 := hz2
    have h0 := up s20.ll h0
    have h12 := up s20.ll h12
    refine gSet okT S20 (gtape (ns := x) (n := 12 + a) (R := fun q : Nat × Nat × Nat => rE (fun u : CW => u.ok q.1 q.2.1 ∧ dep u < q.2.2) rW) (c2.a.length, c2.b.length, 4) ⟨by omega, by omega⟩ (gv rfl h0) (gI0 (gc rfl) (gv rfl rfl) rfl) (gaC (gv (R := rInt (c2.a.length : Int)) rfl rfl) (gaC (gv (R := rInt (c2.b.length : Int)) rfl rfl) (gaC (gc rfl) ga0))) fun vs' L' _ h => ⟨⟨⟨la2.1, la2.2, hb2, lb2, by show 1 ≤ 4; decide, by show 4 ≤ 100; decide⟩, by show 4 < 10; decide⟩, h⟩) fun y16 L21 H21 S21 s21 r21 => ?_
    obtain ⟨z', ⟨hy1, hy2⟩, r21⟩ := r21
    have hy1 : z'.ok c2.chs.a.length c2.chs.b.length := by rw [lna, lnb]; exact hy1
    have hy2 : dep z' < 4 := hy2
    have h12 := up s21.ll h12
    have h20 := up s21.ll r20
    refine gNot1 okT S21 (b := false) (geqT (gor (a := false) (geqT (gnot (b := true) (gB (gcp (R := fun _ : Chs × CW => rV (.bl true)) (c2.chs, z) ⟨hcc, hz1, by show dep z < 10; omega⟩ (gaC (gcp (R := fun c : Prc => rCh K c.chs) c2 hc2 (gaC (gv rfl h12) ga0)) (gaC (gv rfl h20) ga0))))) rfl) fun _ => geqT (gnot (b := true) (gB (gcp (R := fun _ : Chs × CW × CW => rV (.bl true)) (c2.chs, z, z') ⟨hcc, hz1, hy1, by show dep z < 9; omega, by show dep z' < 9; omega⟩ (gaC (gcp (R := fun c : Prc => rCh K c.chs) c2 hc2 (gaC (gv rfl h12) ga0)) (gaC (gv rfl h20) (gaC (gv rfl r21) ga0)))))) rfl) rfl) rfl fun L22 H22 S22 s22 => ?_
    exact ⟨L22, S22, ea.trans (sb.ll.trans (s14.ll.trans (s15.ll.trans (s16.ll.trans (s17.ll.trans (s18.ll.trans (s19.ll.trans (s20.ll.trans (s21.ll.trans s22.ll))))))))), _, _, _, _, _, _, _, rfl⟩
  · rintro σ' La Ha Sa ea ⟨u13, u14, u15, u16, u17, u18, u19, rfl⟩
    have h12 := up ea r12
    exact gEnd okT Sa k (gtabs (gcp (R := fun c : Chs => rTab c.cells fun d => ((c.cellV d).length : Nat)) c2.chs (Prc.chs_ok hc2) (gaC (gcp (R := fun c : Prc => rCh K c.chs) c2 hc2 (gaC (gv rfl h12) ga0)) ga0)) (gcp (R := fun c : Prc => rTab c.chs.cells fun d => ((c.chs.cellV d).length : Nat)) c2 hc2 (gaC (gv rfl h12) ga0)))
end
end HW
/-! part E3 -/
set_option maxHeartbeats 4000000
/-! The law's def, as the head hands it over. -/
namespace HW
open PySem PySem.Spec PyProof.Rows L2 HR HV C8
theorem law_bind {K : PySem.W.Frag} {f0 : Addr} {fd : FuncData} (D : FunD K "law" "law" (fnArgs (topS 86)) (fnBody (topS 86)) (fnScope (topS 86)) [] [] f0 fd) (s : Shared) (v : Value) : BindsTo s fd ⟨[v], []⟩ [("_law_script", v)] :=
  FunD.bindsA (ps := ["_law_script"]) D (fun _ _ _ _ _ _ us hl => match us, hl with | [_], _ => rfl) s [v] rfl
theorem facts {P : Program} {w : World} {K : PySem.W.Frag} {h : Heap} {mg : Str → Option Value} {f : Addr} (X : K.In h) (G : h.Ns mainGlobals mg) (hfa : mg ("law" : Str) = some (.ref f)) (c : SaysM K) :
    ∃ fd : FuncData, (∀ (s : Shared) (v : Value), BindsTo s fd ⟨[v], []⟩ [("_law_script", v)]) ∧ ∀ base : Heap, K.In base → base.Ns mainGlobals mg → FnOk P w K mg base C8.CX0 32 f fd ["_law_script"] (spLaw K) := by
  obtain ⟨fd, D⟩ := c.a.def_ 52 (d := dG "law" (topS 86)) rfl
  have e := hfa.symm.trans (He.glo_ok X G (c.a.fact 52 (f := .glo "law") rfl))
  cases e
  exact ⟨fd, fun s v => law_bind D s v, fun base _ _ => l_law (cs_of c X G) D⟩
theorem at_law {K : PySem.W.Frag} (H : Hp) (a : Addr) (ns : List Int) (h : SqL K H a (ns.map V.int)) : spLaw K [.ref a] H (fun v _ => v = .bl true) fun _ _ _ => False :=
  ⟨ns, H, Evl.Ex.refl H, ⟨trivial, _, _, rfl, ⟨a, rfl, h⟩, rfl⟩, fun _ _ _ _ r => r⟩
end HW
open PySem PySem.W PySem.Calls PyProof.Rows
set_option maxHeartbeats 0 in
theorem PySem.Challenge.cw_handspaces_k96_whole_chains_of_a_triple_holds : PySem.Challenge.rw_handspaces_k96_whole_chains_of_a_triple.Holds := by
  w_on; o_law
  refine HandSHeadRun.head_any (r := OpenLaw.row PySem.Challenge.rw_handspaces_k96_whole_chains_of_a_triple) (q := HW.qv) (H := HW.hookM) (ob := HW.ob) (M := 20000) (loose := HW.nmL) (d := HandSHeadRun.topDef (OpenLaw.row PySem.Challenge.rw_handspaces_k96_whole_chains_of_a_triple).prog 86) (kwd := []) HW.ob_eq
    (by kernel_rfl) (fun s => by kernel_rfl) HW.run (by kernel_rfl) (by kernel_rfl) (by kernel_rfl) (by rfl) (by first | assumption | decide +kernel) (by decide +kernel) ⟨rfl, rfl, rfl, rfl, rfl, by decide +kernel⟩ ?hw ?hc
  case hw => w_witness2
  case hc =>
    refine L2.walk_ofE (l := PySem.Challenge.rw_handspaces_k96_whole_chains_of_a_triple) (n := 63) (k := 32) (x := "_law_script") (CX := C8.CX0) rfl (by decide) (by kernel_rfl) ⟨rfl, by decide, by decide⟩ ?F (fun _ _ _ _ z => z)
    intro w mg fa h Y G hmg0
    obtain ⟨K, KX, c⟩ := Y
    have hmg : mg ("law" : PySem.Str) = some (.ref fa) := by
      have e : (HandSHeadRun.topDef (OpenLaw.row PySem.Challenge.rw_handspaces_k96_whole_chains_of_a_triple).prog 86).name = ("law" : PySem.Str) := by kernel_rfl
      rw [← e]
      exact hmg0
    obtain ⟨fd, hb, hF⟩ := HW.facts (P := (PySem.Challenge.rw_handspaces_k96_whole_chains_of_a_triple).prog) (w := w) KX G hmg c
    exact ⟨K, fd, HW.spLaw K, KX, hb, fun H a ns _ _ hS => HW.at_law H a ns hS, hF⟩
