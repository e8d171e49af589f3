import PyProof.Rows.All
import Wide.All
import OpenK.AllK
import Wide.FinOn
import HandS.ForMost
import HandS.Walk
import HandS.Zip
import HandS.Codes
import HandS.Conv
import HandS.IsInst
import HandS.SetFor
import HandS.SortInts
import HandS.More
import HandS.TupAny
import KE.KTupSum
import KE.GoesNew
import KE.SortKeyHeap
import KE.KDictPairs
import PyProof.SeqRoads2
import HandS.Sort
import HandS.Lambda
import HandS.SortKw
import HandS.Wide
import HandS.Text
import HandS.Iter
import HandS.EndTab
import KE.KNestM
import PySem.Challenge.RW_watchstations_k90_whole_papers_at_each_b
set_option Elab.async false
set_option linter.all false
set_option maxRecDepth 100000
set_option maxHeartbeats 4000000
/-! Plain mathematics, part a: sums over ranges, functions changed at a place, walks of a step till it stops. -/
namespace WM
/-- a function changed at a place -/
def up {α : Type} (f : Nat → α) (p : Nat) (x : α) : Nat → α := fun q => if q = p then x else f q
theorem up_same {α : Type} {f : Nat → α} {p : Nat} {x : α} : up f p x p = x := by simp [up]
theorem up_ne {α : Type} {f : Nat → α} {p q : Nat} {x : α} (h : q ≠ p) : up f p x q = f q := by simp [up, h]
/-- the sum of f below n -/
def sumR : Nat → (Nat → Int) → Int
  | 0, _ => 0
  | n + 1, f => sumR n f + f n
theorem sumR_congr : ∀ {n : Nat} {f g : Nat → Int}, (∀ i, i < n → f i = g i) → sumR n f = sumR n g
  | 0, _, _, _ => rfl
  | n + 1, f, g, h => by
    simp only [sumR]
    rw [sumR_congr (n := n) fun i hi => h i (by omega), h n (by omega)]
theorem sumR_le : ∀ {n : Nat} {f g : Nat → Int}, (∀ i, i < n → f i ≤ g i) → sumR n f ≤ sumR n g
  | 0, _, _, _ => Int.le_refl _
  | n + 1, f, g, h => by
    simp only [sumR]
    have := sumR_le (n := n) fun i hi => h i (by omega)
    have := h n (by omega)
    omega
theorem sumR_lt {n : Nat} {f g : Nat → Int} (h : ∀ i, i < n → f i ≤ g i) {j : Nat} (hj : j < n) (hl : f j < g j) : sumR n f < sumR n g := by
  induction n with
  | zero => omega
  | succ n ih =>
    simp only [sumR]
    have h1 := h n (by omega)
    by_cases e : j = n
    · subst e
      have := sumR_le (n := j) (f := f) (g := g) fun i hi => h i (by omega)
      omega
    · have := ih (fun i hi => h i (by omega)) (by omega)
      omega
theorem sumR_nonneg {n : Nat} {f : Nat → Int} (h : ∀ i, i < n → 0 ≤ f i) : 0 ≤ sumR n f := by
  have := sumR_le (n := n) (f := fun _ => 0) (g := f) h
  have z : ∀ n, sumR n (fun _ => 0) = 0 := by
    intro n
    induction n with
    | zero => rfl
    | succ n ih => simp [sumR, ih]
  rw [z] at this
  exact this
theorem sumR_zero {n : Nat} {f : Nat → Int} (h : ∀ i, i < n → f i = 0) : sumR n f = 0 := by
  induction n with
  | zero => rfl
  | succ n ih =>
    simp only [sumR]
    rw [ih fun i hi => h i (by omega), h n (by omega)]
    rfl
theorem sumR_add : ∀ {n : Nat} {f g : Nat → Int}, sumR n (fun i => f i + g i) = sumR n f + sumR n g
  | 0, _, _ => rfl
  | n + 1, f, g => by
    simp only [sumR]
    rw [sumR_add]
    omega
theorem sumR_sub : ∀ {n : Nat} {f g : Nat → Int}, sumR n (fun i => f i - g i) = sumR n f - sumR n g
  | 0, _, _ => rfl
  | n + 1, f, g => by
    simp only [sumR]
    rw [sumR_sub]
    omega
theorem sumR_mulc {n : Nat} {f : Nat → Int} {c : Int} : sumR n (fun i => c * f i) = c * sumR n f := by
  induction n with
  | zero => simp [sumR]
  | succ n ih =>
    simp only [sumR]
    rw [ih, Int.mul_add]
theorem sumR_one : ∀ {n : Nat} {p : Nat} {f : Nat → Int}, p < n → (∀ i, i < n → i ≠ p → f i = 0) → sumR n f = f p
  | 0, _, _, h, _ => by omega
  | n + 1, p, f, h, h0 => by
    simp only [sumR]
    by_cases e : p = n
    · subst e
      rw [sumR_zero fun i hi => h0 i (by omega) (by omega)]
      omega
    · rw [sumR_one (n := n) (p := p) (by omega) fun i hi => h0 i (by omega), h0 n (by omega) (by omega)]
      omega
theorem sumR_up {n p : Nat} {f : Nat → Int} {x : Int} (h : p < n) : sumR n (up f p x) = sumR n f - f p + x := by
  have e : sumR n (fun i => up f p x i - f i) = x - f p := by
    rw [sumR_one (p := p) h]
    · rw [up_same]
    · intro i _ hne
      rw [up_ne hne]
      omega
  rw [sumR_sub] at e
  omega
/-- sums exchanged -/
theorem sumR_swap {n m : Nat} {f : Nat → Nat → Int} : sumR n (fun i => sumR m (f i)) = sumR m (fun j => sumR n (fun i => f i j)) := by
  induction n with
  | zero => simp only [sumR]; exact (sumR_zero fun _ _ => rfl).symm
  | succ n ih =>
    simp only [sumR]
    rw [ih, ← sumR_add]
/-- one where a test holds -/
def ind (b : Prop) [Decidable b] : Int := if b then 1 else 0
theorem ind_t {b : Prop} [Decidable b] (h : b) : ind b = 1 := if_pos h
theorem ind_f {b : Prop} [Decidable b] (h : ¬ b) : ind b = 0 := if_neg h
theorem ind_nonneg {b : Prop} [Decidable b] : 0 ≤ ind b := by unfold ind; split <;> omega
theorem ind_le {b : Prop} [Decidable b] : ind b ≤ 1 := by unfold ind; split <;> omega

/-! ### f below n, as a list -/
def ls {α : Type} (n : Nat) (f : Nat → α) : List α := (List.range n).map f
theorem ls_len {α : Type} {n : Nat} {f : Nat → α} : (ls n f).length = n := by simp [ls]
theorem ls_get {α : Type} {n : Nat} {f : Nat → α} {i : Nat} (h : i < n) : (ls n f)[i]? = some (f i) := by simp [ls, h]
theorem ls_ext {α : Type} {l : List α} {n : Nat} {f : Nat → α} (hn : l.length = n) (h : ∀ i x, l[i]? = some x → x = f i) : l = ls n f := by
  apply List.ext_getElem?
  intro i
  by_cases hi : i < n
  · rw [ls_get hi, List.getElem?_eq_getElem (by omega)]
    congr 1
    exact h i _ (List.getElem?_eq_getElem (by omega))
  · rw [List.getElem?_eq_none (by omega), List.getElem?_eq_none (by rw [ls_len]; omega)]
theorem ls_take {α : Type} {n i : Nat} {f : Nat → α} (h : i < n) : (ls n f).take (i + 1) = (ls n f).take i ++ [f i] := by
  rw [List.take_add_one, ls_get h]
  rfl
theorem ls_succ {α : Type} {n : Nat} {f : Nat → α} : ls (n + 1) f = ls n f ++ [f n] := by simp [ls, List.range_succ]
theorem ls_congr {α : Type} {n : Nat} {f g : Nat → α} (h : ∀ i, i < n → f i = g i) : ls n f = ls n g := by
  unfold ls
  exact List.map_congr_left fun i hi => h i (List.mem_range.mp hi)
theorem ls_inj {α : Type} {n : Nat} {f g : Nat → α} (h : ls n f = ls n g) {i : Nat} (hi : i < n) : f i = g i := by
  have a := ls_get (f := f) hi
  rw [h, ls_get hi] at a
  exact (Option.some.inj a).symm
theorem map_ls {α β : Type} {n : Nat} {f : Nat → α} {g : α → β} : (ls n f).map g = ls n fun i => g (f i) := by simp [ls, Function.comp_def]
theorem ls_set {α : Type} {n p : Nat} {f : Nat → α} {x : α} : (ls n f).set p x = ls n fun i => if i = p then x else f i := by
  apply List.ext_getElem?
  intro i
  by_cases hi : i < n
  · rw [ls_get hi, List.getElem?_set]
    by_cases e : p = i
    · subst e
      simp [ls_len, hi]
    · rw [if_neg e, ls_get hi, if_neg (fun z => e z.symm)]
  · rw [List.getElem?_eq_none (by rw [List.length_set, ls_len]; omega), List.getElem?_eq_none (by rw [ls_len]; omega)]
/-! ### a step gone till it stops -/
inductive Steps {S : Type} (b : S → Option S) : S → S → Prop
  | refl (s : S) : Steps b s s
  | head {s t u : S} : b s = some t → Steps b t u → Steps b s u
theorem Steps.tail {S : Type} {b : S → Option S} {s t u : S} (r : Steps b s t) (h : b t = some u) : Steps b s u := by
  induction r with
  | refl => exact .head h (.refl _)
  | head e _ ih => exact .head e (ih h)
theorem Steps.trans {S : Type} {b : S → Option S} {s t u : S} (h : Steps b s t) (r : Steps b t u) : Steps b s u := by
  induction h with
  | refl => exact r
  | head e _ ih => exact .head e (ih r)
/-- gone till no step is left -/
def Fin {S : Type} (b : S → Option S) (s t : S) : Prop := Steps b s t ∧ b t = none
theorem Fin.one {S : Type} {b : S → Option S} {s t u : S} (h : Fin b s t) (k : Fin b s u) : t = u := by
  obtain ⟨h1, h2⟩ := h
  induction h1 with
  | refl =>
    obtain ⟨k1, k2⟩ := k
    cases k1 with
    | refl => rfl
    | head e _ => rw [h2] at e; cases e
  | head e _ ih =>
    obtain ⟨k1, k2⟩ := k
    cases k1 with
    | refl => rw [k2] at e; cases e
    | head e' r' =>
      rw [e] at e'
      cases e'
      exact ih ⟨r', k2⟩ h2
end WM
/-! Plain mathematics, part b: the posts' reckoning, mirrored; what the relaxing keeps. -/
namespace WM
def farV : Int := 1000000000000
structure Prob where
  nH : Nat
  nP : Nat
  cost : Nat → Nat → Option Int
  want : Nat → Int
  bty : Nat → Int
structure RS where
  far : Nat → Int
  ways : Nat → Option Nat
  sh : Bool
section
variable (P : Prob)
def fitPl (h : Nat) : List Nat := (List.range P.nP).filter fun p => (P.cost h p).isSome
def cD (h p : Nat) : Int := (P.cost h p).getD 0
def rlPlace (h : Nat) (come : Int) (r : RS) (p : Nat) : RS :=
  if come + cD P h p < r.far p then ⟨up r.far p (come + cD P h p), up r.ways p (some h), true⟩ else r
/-- what the way to a hand costs; none: it isn't reached -/
def comeOf (s : Nat → Option Nat) (far : Nat → Int) (h : Nat) : Option Int :=
  match s h with
  | none => some 0
  | some w => if far w < farV then some (far w - cD P h w) else none
def rlHand (s : Nat → Option Nat) (r : RS) (h : Nat) : RS :=
  match comeOf P s r.far h with
  | none => r
  | some come => (fitPl P h).foldl (rlPlace P h come) r
def relaxR (s : Nat → Option Nat) (far : Nat → Int) (ways : Nat → Option Nat) : RS :=
  (List.range P.nH).foldl (rlHand P s) ⟨far, ways, false⟩
def far0 : Nat → Int := fun _ => farV
def ways0 : Nat → Option Nat := fun _ => none
/-- one round more, while one makes a way shorter -/
def relStep (s : Nat → Option Nat) (x : (Nat → Int) × (Nat → Option Nat)) : Option ((Nat → Int) × (Nat → Option Nat)) :=
  let r := relaxR P s x.1 x.2
  if r.sh then some (r.far, r.ways) else none

/-- prices of nodes by which no way makes a gain -/
structure Pot (s : Nat → Option Nat) (n : Nat → Int) (v y : Nat → Int) (t : Int) : Prop where
  free : ∀ h, h < P.nH → s h = none → v h ≤ 0
  held : ∀ h, h < P.nH → ∀ p, s h = some p → 0 ≤ v h
  arc : ∀ h, h < P.nH → ∀ p, p < P.nP → (P.cost h p).isSome → y p ≤ v h + cD P h p
  back : ∀ h, h < P.nH → ∀ p, s h = some p → v h ≤ y p - cD P h p
  room : ∀ p, p < P.nP → n p < P.want p → t ≤ y p - P.bty p
  out : ∀ p, p < P.nP → 0 < n p → y p ≤ t + P.bty p
  neg : t ≤ 0
/-- posts that may be -/
structure Sit (s : Nat → Option Nat) (n : Nat → Int) : Prop where
  ok : ∀ h, h < P.nH → ∀ p, s h = some p → p < P.nP ∧ (P.cost h p).isSome
  cnt : ∀ p, p < P.nP → n p = sumR P.nH fun h => ind (s h = some p)
  le : ∀ p, p < P.nP → n p ≤ max 0 (P.want p)
/-- p is reached behind q -/
def LTq (y : Nat → Int) (far : Nat → Int) (τ : Nat → Nat) (q p : Nat) : Prop :=
  far q - y q < far p - y p ∨ (far q - y q = far p - y p ∧ τ q < τ p)
structure RI (s : Nat → Option Nat) (y : Nat → Int) (far : Nat → Int) (ways : Nat → Option Nat) (τ : Nat → Nat) (T : Nat) : Prop where
  leF : ∀ p, far p ≤ farV
  low : ∀ p, far p < farV → y p ≤ far p
  way : ∀ p, far p < farV → p < P.nP ∧ ∃ h, h < P.nH ∧ ways p = some h ∧ (P.cost h p).isSome ∧
    ((s h = none ∧ far p = cD P h p) ∨ ∃ q, s h = some q ∧ far q < farV ∧ far q - cD P h q + cD P h p ≤ far p ∧ LTq y far τ q p)
  bd : ∀ p, τ p < T
end
section
variable {P : Prob} {s : Nat → Option Nat} {n v y : Nat → Int} {t : Int}
theorem mem_fitPl {h p : Nat} : p ∈ fitPl P h ↔ p < P.nP ∧ (P.cost h p).isSome := by
  simp [fitPl, List.mem_filter]
theorem ri_start : RI P s y far0 ways0 (fun _ => 0) 1 :=
  ⟨fun _ => Int.le_refl _, fun p h => absurd h (by simp [far0]), fun p h => absurd h (by simp [far0]), fun _ => Nat.lt_succ_self _⟩
/-- one place's step keeps it -/
theorem ri_place (Pt : Pot P s n v y t) (S : Sit P s n) {far : Nat → Int} {ways : Nat → Option Nat} {τ : Nat → Nat} {T : Nat} {sh : Bool} (I : RI P s y far ways τ T)
    {h p : Nat} (hh : h < P.nH) (hp : p < P.nP) (hc : (P.cost h p).isSome) {come : Int}
    (hcome : (s h = none ∧ come = 0) ∨ ∃ q, s h = some q ∧ far q < farV ∧ come = far q - cD P h q) :
    ∃ τ' T', RI P s y (rlPlace P h come ⟨far, ways, sh⟩ p).far (rlPlace P h come ⟨far, ways, sh⟩ p).ways τ' T' ∧
      ((s h = none ∧ come = 0) ∨ ∃ q, s h = some q ∧ (rlPlace P h come ⟨far, ways, sh⟩ p).far q < farV ∧ come = (rlPlace P h come ⟨far, ways, sh⟩ p).far q - cD P h q) := by
  unfold rlPlace
  split
  · rename_i hlt
    have hlt : come + cD P h p < far p := hlt
    have hF := I.leF p
    have harc := Pt.arc h hh p hp hc
    -- the new value isn't below the price
    have hlow : y p ≤ come + cD P h p := by
      rcases hcome with ⟨e, rfl⟩ | ⟨q, e, hq, rfl⟩
      · have := Pt.free h hh e
        omega
      · have h1 := Pt.back h hh q e
        have h2 := I.low q hq
        omega
    refine ⟨up τ p T, T + 1, ⟨?_, ?_, ?_, ?_⟩, ?_⟩
    · intro r
      by_cases e : r = p
      · subst e; simp only [up_same]; omega
      · simp only [up_ne e]; exact I.leF r
    · intro r hr
      by_cases e : r = p
      · subst e; simp only [up_same]; exact hlow
      · simp only [up_ne e] at hr ⊢; exact I.low r hr
    · intro r hr
      by_cases e : r = p
      · subst e
        refine ⟨hp, h, hh, up_same, hc, ?_⟩
        rcases hcome with ⟨e, rfl⟩ | ⟨q, e, hq, rfl⟩
        · exact .inl ⟨e, by simp [up_same]⟩
        · have hqr : q ≠ r := by
            intro z; subst z; omega
          refine .inr ⟨q, e, by simpa [up_ne hqr] using hq, by simp [up_ne hqr, up_same], ?_⟩
          have h1 := Pt.back h hh q e
          unfold LTq
          simp only [up_ne hqr, up_same]
          have hb := I.bd q
          omega
      · simp only [up_ne e] at hr
        obtain ⟨hr1, g, hg, hw, hgc, hor⟩ := I.way r hr
        refine ⟨hr1, g, hg, by simpa [up_ne e] using hw, hgc, ?_⟩
        rcases hor with ⟨z, hz⟩ | ⟨q, z, hq, hle, hlt2⟩
        · exact .inl ⟨z, by simpa [up_ne e] using hz⟩
        · refine .inr ⟨q, z, ?_, ?_, ?_⟩
          · by_cases eq : q = p
            · subst eq; simp only [up_same]; omega
            · simpa [up_ne eq] using hq
          · by_cases eq : q = p
            · subst eq; simp only [up_same, up_ne e]; omega
            · simpa [up_ne eq, up_ne e] using hle
          · unfold LTq at hlt2 ⊢
            by_cases eq : q = p
            · subst eq; simp only [up_same, up_ne e]; omega
            · simpa [up_ne eq, up_ne e] using hlt2
    · intro r
      by_cases e : r = p
      · subst e; simp [up_same]
      · simp only [up_ne e]; have := I.bd r; omega
    · rcases hcome with ⟨e, rfl⟩ | ⟨q, e, hq, rfl⟩
      · exact .inl ⟨e, rfl⟩
      · have hqr : q ≠ p := by
          intro z; subst z; omega
        exact .inr ⟨q, e, by simpa [up_ne hqr] using hq, by simp [up_ne hqr]⟩
  · exact ⟨τ, T, I, hcome⟩
/-- a walk that keeps a promise -/
theorem foldl_keep {α β : Type} {f : β → α → β} {l : List α} {b : β} (M : β → Prop) (h0 : M b) (hs : ∀ b x, x ∈ l → M b → M (f b x)) : M (l.foldl f b) := by
  induction l generalizing b with
  | nil => exact h0
  | cons x l ih => exact ih (hs b x (by simp) h0) fun b y hy => hs b y (by simp [hy])
theorem ri_hand (Pt : Pot P s n v y t) (S : Sit P s n) {r : RS} (I : ∃ τ T, RI P s y r.far r.ways τ T) {h : Nat} (hh : h < P.nH) :
    ∃ τ T, RI P s y (rlHand P s r h).far (rlHand P s r h).ways τ T := by
  unfold rlHand
  cases e : comeOf P s r.far h with
  | none => exact I
  | some come =>
    have hc : (s h = none ∧ come = 0) ∨ ∃ q, s h = some q ∧ r.far q < farV ∧ come = r.far q - cD P h q := by
      unfold comeOf at e
      cases es : s h with
      | none => rw [es] at e; simp at e; exact .inl ⟨rfl, e.symm⟩
      | some q =>
        rw [es] at e
        simp only at e
        split at e
        · rename_i hq
          cases e
          exact .inr ⟨q, rfl, hq, rfl⟩
        · cases e
    refine (foldl_keep (f := rlPlace P h come) (l := fitPl P h) (b := r) (fun r => (∃ τ T, RI P s y r.far r.ways τ T) ∧ ((s h = none ∧ come = 0) ∨ ∃ q, s h = some q ∧ r.far q < farV ∧ come = r.far q - cD P h q)) ⟨I, hc⟩ ?_).1
    rintro ⟨far, ways, sh⟩ p hp ⟨⟨τ, T, I⟩, hc⟩
    obtain ⟨hp1, hp2⟩ := mem_fitPl.mp hp
    obtain ⟨τ', T', a, b⟩ := ri_place (sh := sh) Pt S I hh hp1 hp2 hc
    exact ⟨⟨τ', T', a⟩, b⟩
theorem ri_relax (Pt : Pot P s n v y t) (S : Sit P s n) {far : Nat → Int} {ways : Nat → Option Nat} (I : ∃ τ T, RI P s y far ways τ T) :
    ∃ τ T, RI P s y (relaxR P s far ways).far (relaxR P s far ways).ways τ T := by
  unfold relaxR
  refine foldl_keep (fun r : RS => ∃ τ T, RI P s y r.far r.ways τ T) I ?_
  intro r h hh I
  exact ri_hand Pt S I (List.mem_range.mp hh)
/-! ### the flag: where it isn't up, nothing came shorter -/
/-- each step leaves all as it was, or puts the flag up; up it stays -/
theorem fold_flag {α : Type} {f : RS → α → RS} (hf : ∀ r x, f r x = r ∨ (f r x).sh = true) (hm : ∀ r x, r.sh = true → (f r x).sh = true) :
    ∀ {l : List α} {r : RS}, (l.foldl f r).sh = false → l.foldl f r = r ∧ ∀ x, x ∈ l → f r x = r
  | [], _, _ => ⟨rfl, fun _ h => by simp at h⟩
  | x :: l, r, h => by
    have up : ∀ (l : List α) (r : RS), r.sh = true → (l.foldl f r).sh = true := fun l => by
      induction l with
      | nil => exact fun _ h => h
      | cons x l ih => exact fun r h => ih _ (hm r x h)
    rcases hf r x with e | e
    · have h' : (l.foldl f r).sh = false := by simpa [e] using h
      obtain ⟨a, b⟩ := fold_flag hf hm h'
      refine ⟨by simpa [e] using a, fun z hz => ?_⟩
      rcases List.mem_cons.mp hz with rfl | hz
      · exact e
      · exact b z hz
    · have := up l _ e
      simp only [List.foldl_cons] at h
      rw [this] at h
      cases h
theorem fl_place {h : Nat} {come : Int} (r : RS) (p : Nat) : rlPlace P h come r p = r ∨ (rlPlace P h come r p).sh = true := by
  unfold rlPlace; split
  · exact .inr rfl
  · exact .inl rfl
theorem fl_place_up {h : Nat} {come : Int} (r : RS) (p : Nat) (e : r.sh = true) : (rlPlace P h come r p).sh = true := by
  rcases fl_place (P := P) (h := h) (come := come) r p with q | q
  · rw [q]; exact e
  · exact q
theorem fl_hand_up (r : RS) (h : Nat) (e : r.sh = true) : (rlHand P s r h).sh = true := by
  unfold rlHand
  split
  · exact e
  · rename_i come _
    exact foldl_keep (fun r : RS => r.sh = true) e fun r p _ e => fl_place_up r p e
theorem fl_hand (r : RS) (h : Nat) : rlHand P s r h = r ∨ (rlHand P s r h).sh = true := by
  cases e : (rlHand P s r h).sh with
  | true => exact .inr rfl
  | false =>
    left
    unfold rlHand at e ⊢
    split
    · rfl
    · rename_i come hc
      simp only [hc] at e
      exact (fold_flag (fun r x => fl_place r x) (fun r x => fl_place_up r x) e).1
/-- no round makes a way shorter -/
theorem relax_fix {far : Nat → Int} {ways : Nat → Option Nat} (e : (relaxR P s far ways).sh = false) {h p : Nat} (hh : h < P.nH) (hp : p < P.nP) (hc : (P.cost h p).isSome) {come : Int} (hcome : comeOf P s far h = some come) : far p ≤ come + cD P h p := by
  unfold relaxR at e
  obtain ⟨_, b⟩ := fold_flag (fun r x => fl_hand r x) (fun r x => fl_hand_up r x) e
  have b := b h (List.mem_range.mpr hh)
  have e2 : (rlHand P s ⟨far, ways, false⟩ h).sh = false := by rw [b]
  unfold rlHand at e2
  simp only [hcome] at e2
  obtain ⟨_, c⟩ := fold_flag (fun r x => fl_place r x) (fun r x => fl_place_up r x) e2
  have c := c p (mem_fitPl.mpr ⟨hp, hc⟩)
  unfold rlPlace at c
  split at c
  · have := congrArg RS.sh c
    simp at this
  · rename_i hn
    have hn : ¬ come + cD P h p < far p := hn
    omega
/-! ### the rounds come to an end -/
theorem fall_place {h : Nat} {come : Int} (r : RS) (p : Nat) (hp : p < P.nP) : (∀ q, (rlPlace P h come r p).far q ≤ r.far q) ∧ (rlPlace P h come r p = r ∨ sumR P.nP (rlPlace P h come r p).far < sumR P.nP r.far) := by
  unfold rlPlace
  split
  · rename_i hlt
    have le : ∀ q, up r.far p (come + cD P h p) q ≤ r.far q := fun q => by
      by_cases e : q = p
      · subst e; rw [up_same]; omega
      · rw [up_ne e]; omega
    refine ⟨le, .inr (sumR_lt (fun q _ => le q) hp ?_)⟩
    show up r.far p (come + cD P h p) p < r.far p
    rw [up_same]; exact hlt
  · exact ⟨fun _ => Int.le_refl _, .inl rfl⟩
theorem fall_fold {α : Type} {f : RS → α → RS} {l : List α} (hf : ∀ r x, x ∈ l → (f r x = r ∨ sumR P.nP (f r x).far < sumR P.nP r.far)) :
    ∀ {r : RS}, l.foldl f r = r ∨ sumR P.nP (l.foldl f r).far < sumR P.nP r.far := by
  induction l with
  | nil => exact .inl rfl
  | cons x l ih =>
    intro r
    have ih := ih (fun r x hx => hf r x (by simp [hx])) (r := f r x)
    rcases hf r x (by simp) with e | e
    · simp only [List.foldl_cons, e] at ih ⊢; exact ih
    · simp only [List.foldl_cons]
      rcases ih with q | q
      · rw [q]; exact .inr e
      · exact .inr (by omega)
theorem fall_hand (r : RS) (h : Nat) : rlHand P s r h = r ∨ sumR P.nP (rlHand P s r h).far < sumR P.nP r.far := by
  unfold rlHand
  split
  · exact .inl rfl
  · exact fall_fold fun r p hp => (fall_place r p (mem_fitPl.mp hp).1).2
theorem fall_relax {far : Nat → Int} {ways : Nat → Option Nat} (e : (relaxR P s far ways).sh = true) : sumR P.nP (relaxR P s far ways).far < sumR P.nP far := by
  rcases fall_fold (P := P) (f := rlHand P s) (l := List.range P.nH) (fun r x _ => fall_hand r x) (r := ⟨far, ways, false⟩) with q | q
  · unfold relaxR at e
    rw [q] at e
    cases e
  · exact q
/-- how much the rounds may fall yet -/
def relM (P : Prob) (y far : Nat → Int) : Nat := (sumR P.nP far - sumR P.nP fun p => min (y p) farV).toNat
theorem relM_fall {far far' : Nat → Int} {ways : Nat → Option Nat} {τ : Nat → Nat} {T : Nat} (I : RI P s y far' ways τ T) (h : sumR P.nP far' < sumR P.nP far) : relM P y far' < relM P y far := by
  have : (sumR P.nP fun p => min (y p) farV) ≤ sumR P.nP far' := sumR_le fun p _ => by
    by_cases e : far' p < farV
    · have := I.low p e; omega
    · have := I.leF p; omega
  unfold relM
  omega
end
end WM
/-! Plain mathematics, part c: the cheapest way, one hand more, the potentials behind it. -/
namespace WM
section
variable {P : Prob} {s : Nat → Option Nat} {n v y : Nat → Int} {t : Int}
instance {y far : Nat → Int} {τ : Nat → Nat} {q p : Nat} : Decidable (LTq y far τ q p) := by unfold LTq; infer_instance
theorem LTq.irr {y far : Nat → Int} {τ : Nat → Nat} {p : Nat} : ¬ LTq y far τ p p := by unfold LTq; omega
theorem LTq.trans {y far : Nat → Int} {τ : Nat → Nat} {a b c : Nat} (h : LTq y far τ a b) (k : LTq y far τ b c) : LTq y far τ a c := by unfold LTq at *; omega
/-- how many reached places stand below p -/
def rankI (P : Prob) (y far : Nat → Int) (τ : Nat → Nat) (p : Nat) : Int := sumR P.nP fun q => ind (far q < farV ∧ LTq y far τ q p)
theorem rank_lt {y far : Nat → Int} {τ : Nat → Nat} {q p : Nat} (hq : q < P.nP) (hr : far q < farV) (h : LTq y far τ q p) : rankI P y far τ q < rankI P y far τ p := by
  refine sumR_lt (j := q) (fun r _ => ?_) hq ?_
  · by_cases e : far r < farV ∧ LTq y far τ r q
    · rw [ind_t e, ind_t ⟨e.1, e.2.trans h⟩]; exact Int.le_refl _
    · rw [ind_f e]; exact ind_nonneg
  · rw [ind_t (And.intro hr h), ind_f (fun z => LTq.irr z.2)]; decide
theorem rank_nonneg {y far : Nat → Int} {τ : Nat → Nat} {p : Nat} : 0 ≤ rankI P y far τ p := sumR_nonneg fun _ _ => ind_nonneg
theorem sumR_ones {m : Nat} : sumR m (fun _ => 1) = (m : Int) := by
  induction m with
  | zero => rfl
  | succ m ih => simp only [sumR]; rw [ih]; omega
theorem rank_bd {y far : Nat → Int} {τ : Nat → Nat} {p : Nat} (hp : p < P.nP) : rankI P y far τ p + 1 ≤ (P.nP : Int) := by
  have h : rankI P y far τ p < sumR P.nP (fun _ => 1) := sumR_lt (j := p) (fun r _ => ind_le) hp (by rw [ind_f (fun z => LTq.irr z.2)]; decide)
  rw [sumR_ones] at h
  omega
/-- the way to p: places and the hands that go to them, from p on -/
inductive ChainL (s : Nat → Option Nat) (ways : Nat → Option Nat) : Nat → List (Nat × Nat) → Prop
  | root {p h : Nat} : ways p = some h → s h = none → ChainL s ways p [(p, h)]
  | next {p h q : Nat} {L : List (Nat × Nat)} : ways p = some h → s h = some q → ChainL s ways q L → ChainL s ways p ((p, h) :: L)
theorem ChainL.one {ways : Nat → Option Nat} {p : Nat} {L M : List (Nat × Nat)} (a : ChainL s ways p L) (b : ChainL s ways p M) : L = M := by
  induction a generalizing M with
  | root h1 h2 =>
    cases b with
    | root k1 k2 => rw [h1] at k1; cases k1; rfl
    | next k1 k2 _ => rw [h1] at k1; cases k1; rw [h2] at k2; cases k2
  | next h1 h2 _ ih =>
    cases b with
    | root k1 k2 => rw [h1] at k1; cases k1; rw [h2] at k2; cases k2
    | next k1 k2 k3 => rw [h1] at k1; cases k1; rw [h2] at k2; cases k2; rw [ih k3]
/-- there is a way to each place that is reached; its hands are unlike -/
theorem chain_of {far : Nat → Int} {ways : Nat → Option Nat} {τ : Nat → Nat} {T : Nat} (I : RI P s y far ways τ T) : ∀ (m : Nat) {p : Nat}, far p < farV → (rankI P y far τ p).toNat = m →
    ∃ L, ChainL s ways p L ∧ (∀ e, e ∈ L → far e.1 < farV ∧ (e.1 = p ∨ LTq y far τ e.1 p) ∧ e.2 < P.nH ∧ ways e.1 = some e.2 ∧ (P.cost e.2 e.1).isSome) ∧ (L.map Prod.snd).Nodup := by
  intro m
  induction m using Nat.strongRecOn with
  | ind m ih =>
    intro p hp hm
    obtain ⟨hp1, h, hh, hw, hc, hor⟩ := I.way p hp
    rcases hor with ⟨e, _⟩ | ⟨q, e, hq, _, hlt⟩
    · refine ⟨[(p, h)], .root hw e, ?_, by simp⟩
      intro x hx
      simp at hx
      subst hx
      exact ⟨hp, .inl rfl, hh, hw, hc⟩
    · have hq1 := (I.way q hq).1
      have r1 := rank_lt (P := P) hq1 hq hlt
      have r0 := rank_nonneg (P := P) (y := y) (far := far) (τ := τ) (p := q)
      obtain ⟨L, c, hall, hnd⟩ := ih _ (by omega) hq rfl
      refine ⟨(p, h) :: L, .next hw e c, ?_, ?_⟩
      · intro x hx
        rcases List.mem_cons.mp hx with rfl | hx
        · exact ⟨hp, .inl rfl, hh, hw, hc⟩
        · obtain ⟨a, b, d⟩ := hall x hx
          refine ⟨a, .inr ?_, d⟩
          rcases b with b | b
          · rw [b]; exact hlt
          · exact b.trans hlt
      · simp only [List.map_cons, List.nodup_cons]
        refine ⟨fun hm => ?_, hnd⟩
        obtain ⟨x, hx, hx2⟩ := List.mem_map.mp hm
        obtain ⟨a, b, _, hw2, _⟩ := hall x hx
        obtain ⟨_, g, _, hg2, _, hor2⟩ := I.way x.1 a
        rw [hw2] at hg2
        cases hg2
        rw [hx2] at hor2
        rcases hor2 with ⟨z, _⟩ | ⟨q2, z, _, _, hlt2⟩
        · rw [e] at z; cases z
        · rw [e] at z; cases z
          rcases b with b | b
          · rw [b] at hlt2; exact LTq.irr hlt2
          · exact LTq.irr (b.trans hlt2)
/-! ### the hands along a way go on -/
def applyL (s : Nat → Option Nat) (L : List (Nat × Nat)) : Nat → Option Nat := L.foldl (fun s e => up s e.2 (some e.1)) s
theorem applyL_not {L : List (Nat × Nat)} : ∀ {s : Nat → Option Nat} {h : Nat}, h ∉ L.map Prod.snd → applyL s L h = s h := by
  induction L with
  | nil => intro s h _; rfl
  | cons e L ih =>
    intro s h hn
    simp only [List.map_cons, List.mem_cons, not_or] at hn
    show applyL (up s e.2 (some e.1)) L h = s h
    rw [ih hn.2, up_ne hn.1]
theorem applyL_mem {L : List (Nat × Nat)} : ∀ {s : Nat → Option Nat} {e : Nat × Nat}, (L.map Prod.snd).Nodup → e ∈ L → applyL s L e.2 = some e.1 := by
  induction L with
  | nil => intro s e _ h; simp at h
  | cons x L ih =>
    intro s e hn he
    simp only [List.map_cons, List.nodup_cons] at hn
    show applyL (up s x.2 (some x.1)) L e.2 = some e.1
    rcases List.mem_cons.mp he with rfl | he
    · rw [applyL_not hn.1, up_same]
    · exact ih hn.2 he
theorem cnt_up {m : Nat} {s : Nat → Option Nat} {h : Nat} {x : Option Nat} {r : Option Nat} (hh : h < m) :
    sumR m (fun g => ind (up s h x g = r)) = sumR m (fun g => ind (s g = r)) - ind (s h = r) + ind (x = r) := by
  rw [← sumR_up (f := fun g => ind (s g = r)) hh]
  refine sumR_congr fun g _ => ?_
  unfold up
  split <;> rfl
theorem chain_cnt {ways : Nat → Option Nat} {p : Nat} {L : List (Nat × Nat)} (c : ChainL s ways p L) : ∀ {s2 : Nat → Option Nat}, (∀ e, e ∈ L → s2 e.2 = s e.2) → (∀ e, e ∈ L → e.2 < P.nH) → (L.map Prod.snd).Nodup →
    (∀ r, sumR P.nH (fun g => ind (applyL s2 L g = some r)) = sumR P.nH (fun g => ind (s2 g = some r)) + ind (r = p)) ∧
    sumR P.nH (fun g => ind (applyL s2 L g = none)) = sumR P.nH (fun g => ind (s2 g = none)) - 1 := by
  induction c with
  | @root p h h1 h2 =>
    intro s2 ha hb _
    have e : s2 h = none := (ha (p, h) (by simp)).trans h2
    have hh : h < P.nH := hb (p, h) (by simp)
    refine ⟨fun r => ?_, ?_⟩
    · show sumR P.nH (fun g => ind (up s2 h (some p) g = some r)) = _
      rw [cnt_up hh, e, ind_f (b := none = some r) (fun z => nomatch z)]
      by_cases z : p = r
      · rw [ind_t (b := some p = some r) (by rw [z]), ind_t z.symm]; omega
      · rw [ind_f (b := some p = some r) (fun q => z (Option.some.inj q)), ind_f (fun q => z q.symm)]; omega
    · show sumR P.nH (fun g => ind (up s2 h (some p) g = none)) = _
      rw [cnt_up hh, e, ind_t (b := (none : Option Nat) = none) rfl, ind_f (b := some p = none) (fun z => nomatch z)]
      omega
  | @next p h q L h1 h2 _ ih =>
    intro s2 ha hb hn
    have e : s2 h = some q := (ha (p, h) (by simp)).trans h2
    have hh : h < P.nH := hb (p, h) (by simp)
    simp only [List.map_cons, List.nodup_cons] at hn
    obtain ⟨i1, i2⟩ := ih (s2 := up s2 h (some p)) (fun x hx => by
      have : x.2 ≠ h := fun z => hn.1 (List.mem_map.mpr ⟨x, hx, z⟩)
      rw [up_ne this]
      exact ha x (by simp [hx])) (fun x hx => hb x (by simp [hx])) hn.2
    refine ⟨fun r => ?_, ?_⟩
    · show sumR P.nH (fun g => ind (applyL (up s2 h (some p)) L g = some r)) = _
      rw [i1 r, cnt_up hh, e]
      have a1 : ind (some q = some r) = ind (r = q) := by
        by_cases z : r = q
        · rw [ind_t z, ind_t (by rw [z])]
        · rw [ind_f z, ind_f fun k => z (Option.some.inj k).symm]
      have a2 : ind (some p = some r) = ind (r = p) := by
        by_cases z : r = p
        · rw [ind_t z, ind_t (by rw [z])]
        · rw [ind_f z, ind_f fun k => z (Option.some.inj k).symm]
      rw [a1, a2]; omega
    · show sumR P.nH (fun g => ind (applyL (up s2 h (some p)) L g = none)) = _
      rw [i2, cnt_up hh, e, ind_f (b := some q = none) (fun z => nomatch z), ind_f (b := some p = none) (fun z => nomatch z)]
      omega
/-! ### the best place with room -/
def bestStep (P : Prob) (far n : Nat → Int) (b : Option Nat × Int) (p : Nat) : Option Nat × Int :=
  if far p < farV ∧ n p < P.want p ∧ far p - P.bty p < b.2 then (some p, far p - P.bty p) else b
def bestOf (P : Prob) (far n : Nat → Int) : Option Nat × Int := (List.range P.nP).foldl (bestStep P far n) (none, 0)
theorem best_fold {far n : Nat → Int} : ∀ {l : List Nat} {b : Option Nat × Int}, (∀ p, p ∈ l → p < P.nP) →
    let r := l.foldl (bestStep P far n) b
    r.2 ≤ b.2 ∧ (∀ p, p ∈ l → far p < farV → n p < P.want p → r.2 ≤ far p - P.bty p) ∧
      (r = b ∨ ∃ p, r.1 = some p ∧ p < P.nP ∧ far p < farV ∧ n p < P.want p ∧ r.2 = far p - P.bty p ∧ r.2 < b.2) := by
  intro l
  induction l with
  | nil => intro b _; exact ⟨Int.le_refl _, fun p h => by simp at h, .inl rfl⟩
  | cons x l ih =>
    intro b hl
    obtain ⟨a1, a2, a3⟩ := ih (b := bestStep P far n b x) fun p hp => hl p (by simp [hp])
    simp only [List.foldl_cons]
    have hx := hl x (by simp)
    by_cases hc : far x < farV ∧ n x < P.want x ∧ far x - P.bty x < b.2
    · have hstep : bestStep P far n b x = (some x, far x - P.bty x) := by unfold bestStep; rw [if_pos hc]
      rw [hstep] at a1 a2 a3 ⊢
      have a1 : (l.foldl (bestStep P far n) (some x, far x - P.bty x)).2 ≤ far x - P.bty x := a1
      refine ⟨by omega, fun p hp h1 h2 => ?_, ?_⟩
      · rcases List.mem_cons.mp hp with rfl | hp
        · exact a1
        · exact a2 p hp h1 h2
      · rcases a3 with z | ⟨p, z1, z2, z3, z4, z5, z6⟩
        · rw [z]; exact .inr ⟨x, rfl, hx, hc.1, hc.2.1, rfl, hc.2.2⟩
        · have z6 : (l.foldl (bestStep P far n) (some x, far x - P.bty x)).2 < far x - P.bty x := z6
          exact .inr ⟨p, z1, z2, z3, z4, z5, by omega⟩
    · have hstep : bestStep P far n b x = b := by unfold bestStep; rw [if_neg hc]
      rw [hstep] at a1 a2 a3 ⊢
      refine ⟨a1, fun p hp h1 h2 => ?_, a3⟩
      rcases List.mem_cons.mp hp with rfl | hp
      · have : ¬ (far p - P.bty p < b.2) := fun q => hc ⟨h1, h2, q⟩
        omega
      · exact a2 p hp h1 h2
theorem best_none {far n : Nat → Int} (e : (bestOf P far n).1 = none) {p : Nat} (hp : p < P.nP) (h1 : far p < farV) (h2 : n p < P.want p) : 0 ≤ far p - P.bty p := by
  obtain ⟨a1, a2, a3⟩ := best_fold (P := P) (far := far) (n := n) (l := List.range P.nP) (b := (none, 0)) (fun p h => List.mem_range.mp h)
  rcases a3 with z | ⟨q, z1, _⟩
  · have := a2 p (List.mem_range.mpr hp) h1 h2
    rw [z] at this
    exact this
  · unfold bestOf at e; rw [e] at z1; cases z1
theorem best_some {far n : Nat → Int} {p : Nat} (e : (bestOf P far n).1 = some p) : p < P.nP ∧ far p < farV ∧ n p < P.want p ∧ far p - P.bty p < 0 ∧
    ∀ q, q < P.nP → far q < farV → n q < P.want q → far p - P.bty p ≤ far q - P.bty q := by
  obtain ⟨a1, a2, a3⟩ := best_fold (P := P) (far := far) (n := n) (l := List.range P.nP) (b := (none, 0)) (fun p h => List.mem_range.mp h)
  rcases a3 with z | ⟨q, z1, z2, z3, z4, z5, z6⟩
  · unfold bestOf at e; rw [z] at e; cases e
  · unfold bestOf at e
    rw [e] at z1
    cases z1
    simp only at z5 z6
    refine ⟨z2, z3, z4, by omega, fun q hq h1 h2 => ?_⟩
    have := a2 q (List.mem_range.mpr hq) h1 h2
    omega
end
end WM
/-! Plain mathematics, part d: one hand more keeps posts cheap; the end of it. -/
namespace WM
section
variable {P : Prob} {s : Nat → Option Nat} {n v y : Nat → Int} {t : Int}
/-- all rounds done -/
def CheapR (P : Prob) (s : Nat → Option Nat) (far : Nat → Int) (ways : Nat → Option Nat) : Prop := Fin (relStep P s) (far0, ways0) (far, ways)
theorem steps_ri (Pt : Pot P s n v y t) (S : Sit P s n) {a b : (Nat → Int) × (Nat → Option Nat)} (h : Steps (relStep P s) a b) (I : ∃ τ T, RI P s y a.1 a.2 τ T) : ∃ τ T, RI P s y b.1 b.2 τ T := by
  induction h with
  | refl => exact I
  | head e _ ih =>
    refine ih ?_
    unfold relStep at e
    simp only at e
    split at e
    · have q := ri_relax Pt S I
      cases e
      exact q
    · cases e
theorem cheap_ri (Pt : Pot P s n v y t) (S : Sit P s n) {far : Nat → Int} {ways : Nat → Option Nat} (h : CheapR P s far ways) : (∃ τ T, RI P s y far ways τ T) ∧ (relaxR P s far ways).sh = false := by
  obtain ⟨h1, h2⟩ := h
  refine ⟨steps_ri Pt S h1 ⟨_, _, ri_start⟩, ?_⟩
  unfold relStep at h2
  simp only at h2
  split at h2
  · cases h2
  · rename_i e
    cases q : (relaxR P s far ways).sh with
    | true => exact absurd q e
    | false => rfl
/-- behind all rounds: the way to a reached place is as long as its last step says -/
theorem fix_eq {far : Nat → Int} {ways : Nat → Option Nat} {τ : Nat → Nat} {T : Nat} (I : RI P s y far ways τ T) (e : (relaxR P s far ways).sh = false) {p h : Nat} (hp : far p < farV) (hw : ways p = some h) :
    h < P.nH ∧ p < P.nP ∧ (P.cost h p).isSome ∧ ∃ come, comeOf P s far h = some come ∧ far p = come + cD P h p := by
  obtain ⟨hp1, g, hg, hw2, hc, hor⟩ := I.way p hp
  rw [hw] at hw2
  cases hw2
  refine ⟨hg, hp1, hc, ?_⟩
  rcases hor with ⟨es, hf⟩ | ⟨q, es, hq, hle, _⟩
  · exact ⟨0, by unfold comeOf; rw [es], by omega⟩
  · have hcome : comeOf P s far h = some (far q - cD P h q) := by unfold comeOf; rw [es]; exact if_pos hq
    have := relax_fix e hg hp1 hc hcome
    exact ⟨_, hcome, by omega⟩
theorem come_none {far : Nat → Int} {h : Nat} (e : s h = none) : comeOf P s far h = some 0 := by unfold comeOf; rw [e]
theorem come_some {far : Nat → Int} {h q : Nat} (e : s h = some q) : comeOf P s far h = if far q < farV then some (far q - cD P h q) else none := by unfold comeOf; rw [e]
/-- the new potentials -/
def newY (far y : Nat → Int) (D : Int) (p : Nat) : Int := if far p < farV then min (far p) (y p + D) else y p + D
def newV (P : Prob) (s : Nat → Option Nat) (far v : Nat → Int) (D : Int) (h : Nat) : Int :=
  match comeOf P s far h with
  | some c => min c (v h + D)
  | none => v h + D
theorem newY_le {far y : Nat → Int} {D : Int} {p : Nat} : newY far y D p ≤ y p + D := by unfold newY; split <;> omega
theorem newY_far {far y : Nat → Int} {D : Int} {p : Nat} (h : far p < farV) : newY far y D p ≤ far p := by unfold newY; rw [if_pos h]; omega
theorem newV_le {far v : Nat → Int} {D : Int} {h : Nat} : newV P s far v D h ≤ v h + D := by unfold newV; split <;> omega
theorem newV_come {far v : Nat → Int} {D c : Int} {h : Nat} (e : comeOf P s far h = some c) : newV P s far v D h ≤ c := by unfold newV; rw [e]; simp only; omega
theorem newV_or {far v : Nat → Int} {D : Int} {h : Nat} : newV P s far v D h = v h + D ∨ ∃ c, comeOf P s far h = some c ∧ newV P s far v D h = c := by
  unfold newV
  split
  · rename_i c e
    by_cases q : c ≤ v h + D
    · exact .inr ⟨c, e, by omega⟩
    · exact .inl (by omega)
  · exact .inl rfl
theorem newY_or {far y : Nat → Int} {D : Int} {p : Nat} : newY far y D p = y p + D ∨ (far p < farV ∧ newY far y D p = far p) := by
  unfold newY
  split
  · rename_i e
    by_cases q : far p ≤ y p + D
    · exact .inr ⟨e, by omega⟩
    · exact .inl (by omega)
  · exact .inl rfl
/-- a reached hand isn't below its price -/
theorem come_low (Pt : Pot P s n v y t) {far : Nat → Int} {ways : Nat → Option Nat} {τ : Nat → Nat} {T : Nat} (I : RI P s y far ways τ T) {h : Nat} (hh : h < P.nH) {c : Int} (e : comeOf P s far h = some c) : v h ≤ c := by
  cases es : s h with
  | none =>
    rw [come_none es] at e
    cases e
    exact Pt.free h hh es
  | some q =>
    rw [come_some es] at e
    split at e
    · rename_i hq
      cases e
      have := Pt.back h hh q es
      have := I.low q hq
      omega
    · cases e
/-- what holds of the new potentials whatever D ≥ 0 is (the old posts) -/
theorem new_arc (Pt : Pot P s n v y t) {far : Nat → Int} {ways : Nat → Option Nat} {τ : Nat → Nat} {T : Nat} (I : RI P s y far ways τ T) (fx : (relaxR P s far ways).sh = false)
    (hbig : ∀ h, h < P.nH → ∀ p, p < P.nP → (P.cost h p).isSome → ∀ c, comeOf P s far h = some c → c + cD P h p < farV) {D : Int} {h p : Nat} (hh : h < P.nH) (hp : p < P.nP) (hc : (P.cost h p).isSome) : newY far y D p ≤ newV P s far v D h + cD P h p := by
  rcases newV_or (P := P) (s := s) (far := far) (v := v) (D := D) (h := h) with e | ⟨c, e1, e2⟩
  · rw [e]
    have := newY_le (far := far) (y := y) (D := D) (p := p)
    have := Pt.arc h hh p hp hc
    omega
  · rw [e2]
    have h1 := relax_fix fx hh hp hc e1
    have h2 := hbig h hh p hp hc c e1
    have := newY_far (far := far) (y := y) (D := D) (p := p) (by omega)
    omega
theorem new_back (Pt : Pot P s n v y t) {far : Nat → Int} {D : Int} {h p : Nat} (hh : h < P.nH) (hs : s h = some p) : newV P s far v D h ≤ newY far y D p - cD P h p := by
  rcases newY_or (far := far) (y := y) (D := D) (p := p) with e | ⟨e1, e2⟩
  · rw [e]
    have := newV_le (P := P) (s := s) (far := far) (v := v) (D := D) (h := h)
    have := Pt.back h hh p hs
    omega
  · rw [e2]
    exact newV_come (by rw [come_some hs, if_pos e1])
theorem new_free (Pt : Pot P s n v y t) {far : Nat → Int} {D : Int} {h : Nat} (hs : s h = none) : newV P s far v D h ≤ 0 := newV_come (come_none hs)
theorem new_held (Pt : Pot P s n v y t) {far : Nat → Int} {ways : Nat → Option Nat} {τ : Nat → Nat} {T : Nat} (I : RI P s y far ways τ T) {D : Int} (hD : 0 ≤ D) {h p : Nat} (hh : h < P.nH) (hs : s h = some p) : 0 ≤ newV P s far v D h := by
  have h0 := Pt.held h hh p hs
  rcases newV_or (P := P) (s := s) (far := far) (v := v) (D := D) (h := h) with e | ⟨c, e1, e2⟩
  · rw [e]; omega
  · rw [e2]
    have := come_low Pt I hh e1
    omega
/-- on the way to the best place all is reached as the new prices say -/
theorem onpath (Pt : Pot P s n v y t) {far : Nat → Int} {ways : Nat → Option Nat} {τ : Nat → Nat} {T : Nat} (I : RI P s y far ways τ T) (fx : (relaxR P s far ways).sh = false) {D : Int} {p : Nat} {L : List (Nat × Nat)} (c : ChainL s ways p L) (hp : far p < farV) (hD : far p ≤ y p + D) :
    ∀ e, e ∈ L → far e.1 < farV ∧ far e.1 ≤ y e.1 + D ∧ e.2 < P.nH ∧ e.1 < P.nP ∧ (P.cost e.2 e.1).isSome ∧ (∃ come, comeOf P s far e.2 = some come ∧ far e.1 = come + cD P e.2 e.1) ∧ (s e.2 = none → 0 ≤ v e.2 + D) := by
  induction c with
  | root h1 h2 =>
    intro e he
    simp only [List.mem_singleton] at he
    subst he
    obtain ⟨a1, a2, a3, come, a4, a5⟩ := fix_eq I fx hp h1
    refine ⟨hp, hD, a1, a2, a3, ⟨come, a4, a5⟩, fun _ => ?_⟩
    rw [come_none h2] at a4
    cases a4
    have := Pt.arc _ a1 _ a2 a3
    simp only at *
    omega
  | @next p h q L h1 h2 _ ih =>
    obtain ⟨a1, a2, a3, come, a4, a5⟩ := fix_eq I fx hp h1
    have hq : far q < farV := by
      rw [come_some h2] at a4
      split at a4
      · assumption
      · cases a4
    have hcm : come = far q - cD P h q := by
      rw [come_some h2, if_pos hq] at a4
      exact (Option.some.inj a4).symm
    have hqD : far q ≤ y q + D := by
      have := Pt.arc _ a1 _ a2 a3
      have := Pt.back _ a1 _ h2
      omega
    intro e he
    rcases List.mem_cons.mp he with rfl | he
    · exact ⟨hp, hD, a1, a2, a3, ⟨come, a4, a5⟩, fun z => by rw [h2] at z; cases z⟩
    · exact ih hq hqD e he
/-- THE STEP: one hand more along the cheapest way -/
theorem augment (Pt : Pot P s n v y t) (S : Sit P s n) {far : Nat → Int} {ways : Nat → Option Nat} {τ : Nat → Nat} {T : Nat} (I : RI P s y far ways τ T) (fx : (relaxR P s far ways).sh = false)
    (hbig : ∀ h, h < P.nH → ∀ p, p < P.nP → (P.cost h p).isSome → ∀ c, comeOf P s far h = some c → c + cD P h p < farV) {b : Nat} (hb : (bestOf P far n).1 = some b) {L : List (Nat × Nat)} (c : ChainL s ways b L) (hnd : (L.map Prod.snd).Nodup) :
    Sit P (applyL s L) (up n b (n b + 1)) ∧ ∃ v' y' t', Pot P (applyL s L) (up n b (n b + 1)) v' y' t' := by
  obtain ⟨b1, b2, b3, b4, b5⟩ := best_some hb
  -- how far the sink's price rises
  have hroom := Pt.room b b1 b3
  have hlow := I.low b b2
  generalize hDe : far b - P.bty b - t = D
  have hD : 0 ≤ D := by omega
  have onp := onpath Pt I fx (D := D) c b2 (by omega)
  have hH : ∀ e, e ∈ L → e.2 < P.nH := fun e he => (onp e he).2.2.1
  obtain ⟨cn1, cn2⟩ := chain_cnt (P := P) c (s2 := s) (fun _ _ => rfl) hH hnd
  -- whom the new posts name
  have post : ∀ h, h < P.nH → ∀ p, applyL s L h = some p → (s h = some p ∧ h ∉ L.map Prod.snd) ∨ (p, h) ∈ L := by
    intro h hh p e
    by_cases hm : h ∈ L.map Prod.snd
    · obtain ⟨x, hx, hx2⟩ := List.mem_map.mp hm
      have := applyL_mem (s := s) hnd hx
      rw [hx2, e] at this
      cases this
      refine .inr ?_
      rw [← hx2]
      exact hx
    · rw [applyL_not hm] at e
      exact .inl ⟨e, hm⟩
  refine ⟨⟨?_, ?_, ?_⟩, newV P s far v D, newY far y D, t + D, ⟨?_, ?_, ?_, ?_, ?_, ?_, ?_⟩⟩
  · intro h hh p e
    rcases post h hh p e with ⟨e, _⟩ | e
    · exact S.ok h hh p e
    · obtain ⟨_, _, _, a4, a5, _⟩ := onp _ e
      exact ⟨a4, a5⟩
  · intro p hp
    rw [cn1 p]
    by_cases e : p = b
    · subst e
      rw [up_same, S.cnt p hp, ind_t rfl]
    · rw [up_ne e, S.cnt p hp, ind_f e]
      omega
  · intro p hp
    by_cases e : p = b
    · subst e
      rw [up_same]
      omega
    · rw [up_ne e]
      exact S.le p hp
  · intro h hh e
    by_cases hm : h ∈ L.map Prod.snd
    · obtain ⟨x, hx, hx2⟩ := List.mem_map.mp hm
      have := applyL_mem (s := s) hnd hx
      rw [hx2, e] at this
      cases this
    · rw [applyL_not hm] at e
      exact new_free Pt e
  · intro h hh p e
    rcases post h hh p e with ⟨e, _⟩ | e
    · exact new_held Pt I hD hh e
    · obtain ⟨_, _, _, _, _, ⟨come, a6, _⟩, a7⟩ := onp _ e
      cases es : s h with
      | some q => exact new_held Pt I hD hh es
      | none =>
        rcases newV_or (P := P) (s := s) (far := far) (v := v) (D := D) (h := h) with z | ⟨c, z1, z2⟩
        · rw [z]; exact a7 es
        · rw [z2]
          rw [come_none es] at z1
          cases z1
          exact Int.le_refl _
  · intro h hh p hp hc
    exact new_arc Pt I fx hbig hh hp hc
  · intro h hh p e
    rcases post h hh p e with ⟨e, _⟩ | e
    · exact new_back Pt hh e
    · obtain ⟨a1, a2, _, _, _, ⟨come, a6, a7⟩, _⟩ := onp _ e
      have h1 : newV P s far v D h ≤ come := newV_come (v := v) (D := D) a6
      have a2 : far p ≤ y p + D := a2
      have a7 : far p = come + cD P h p := a7
      have h2 : newY far y D p = far p := by unfold newY; rw [if_pos a1]; omega
      omega
  · intro p hp hr
    have hr' : n p < P.want p := by
      by_cases e : p = b
      · subst e; exact b3
      · rwa [up_ne e] at hr
    rcases newY_or (far := far) (y := y) (D := D) (p := p) with e | ⟨e1, e2⟩
    · rw [e]
      have := Pt.room p hp hr'
      omega
    · rw [e2]
      have := b5 p hp e1 hr'
      omega
  · intro p hp ho
    by_cases e : p = b
    · subst e
      have := newY_far (far := far) (y := y) (D := D) (p := p) b2
      omega
    · rw [up_ne e] at ho
      have := Pt.out p hp ho
      have := newY_le (far := far) (y := y) (D := D) (p := p)
      omega
  · omega
/-- THE END: no best place is left; the sink's price is nought -/
theorem settle (Pt : Pot P s n v y t) {far : Nat → Int} {ways : Nat → Option Nat} {τ : Nat → Nat} {T : Nat} (I : RI P s y far ways τ T) (fx : (relaxR P s far ways).sh = false)
    (hbig : ∀ h, h < P.nH → ∀ p, p < P.nP → (P.cost h p).isSome → ∀ c, comeOf P s far h = some c → c + cD P h p < farV) (hb : (bestOf P far n).1 = none) : ∃ v' y', Pot P s n v' y' 0 := by
  have hneg := Pt.neg
  refine ⟨newV P s far v (-t), newY far y (-t), ⟨fun h hh e => new_free Pt e, fun h hh p e => new_held Pt I (by omega) hh e, fun h hh p hp hc => new_arc Pt I fx hbig hh hp hc, fun h hh p e => new_back Pt hh e, ?_, ?_, Int.le_refl _⟩⟩
  · intro p hp hr
    rcases newY_or (far := far) (y := y) (D := -t) (p := p) with e | ⟨e1, e2⟩
    · rw [e]
      have := Pt.room p hp hr
      omega
    · rw [e2]
      have := best_none hb hp e1 hr
      omega
  · intro p hp ho
    have := Pt.out p hp ho
    have := newY_le (far := far) (y := y) (D := -t) (p := p)
    omega
/-! ### how long a way is at most -/
theorem far_bd {C : Int} (hC : ∀ h p, h < P.nH → p < P.nP → (P.cost h p).isSome → 0 ≤ cD P h p ∧ cD P h p ≤ C) (S : Sit P s n) {far : Nat → Int} {ways : Nat → Option Nat} {τ : Nat → Nat} {T : Nat} (I : RI P s y far ways τ T) (fx : (relaxR P s far ways).sh = false) :
    ∀ (m : Nat) {p : Nat}, far p < farV → (rankI P y far τ p).toNat = m → far p ≤ C * (m + 1) := by
  intro m
  induction m using Nat.strongRecOn with
  | ind m ih =>
    intro p hp hm
    obtain ⟨hp1, h, hh, hw, hc, hor⟩ := I.way p hp
    have c1 := hC h p hh hp1 hc
    rcases hor with ⟨e, hf⟩ | ⟨q, e, hq, _, hlt⟩
    · have h1 : (0 : Int) ≤ C * m := Int.mul_nonneg (by omega) (by omega)
      rw [Int.mul_add, Int.mul_one]
      omega
    · have hq1 := (I.way q hq).1
      have r1 := rank_lt (P := P) hq1 hq hlt
      have r0 := rank_nonneg (P := P) (y := y) (far := far) (τ := τ) (p := q)
      have ihq := ih _ (show (rankI P y far τ q).toNat < m by omega) hq rfl
      have c2 := hC h q hh hq1 (S.ok h hh q e).2
      obtain ⟨_, _, _, come, a4, a5⟩ := fix_eq I fx hp hw
      rw [come_some e, if_pos hq] at a4
      have a4 := (Option.some.inj a4).symm
      have h1 : C * ((((rankI P y far τ q).toNat : Nat) : Int) + 1) ≤ C * (m : Int) := Int.mul_le_mul_of_nonneg_left (by omega) (by omega)
      rw [Int.mul_add, Int.mul_one]
      omega
theorem far_le {C : Int} (h0 : 0 ≤ C) (hC : ∀ h p, h < P.nH → p < P.nP → (P.cost h p).isSome → 0 ≤ cD P h p ∧ cD P h p ≤ C) (S : Sit P s n) {far : Nat → Int} {ways : Nat → Option Nat} {τ : Nat → Nat} {T : Nat} (I : RI P s y far ways τ T) (fx : (relaxR P s far ways).sh = false) {p : Nat} (hp : far p < farV) :
    far p ≤ C * P.nP := by
  have h1 := far_bd hC S I fx _ hp rfl
  have h2 := rank_bd (P := P) (y := y) (far := far) (τ := τ) (I.way p hp).1
  have h3 := rank_nonneg (P := P) (y := y) (far := far) (τ := τ) (p := p)
  have h4 : C * ((((rankI P y far τ p).toNat : Nat) : Int) + 1) ≤ C * (P.nP : Int) := Int.mul_le_mul_of_nonneg_left (by omega) h0
  omega
/-- no way that is reached is as long as the far mark -/
theorem big_of {C : Int} (h0 : 0 ≤ C) (hC : ∀ h p, h < P.nH → p < P.nP → (P.cost h p).isSome → 0 ≤ cD P h p ∧ cD P h p ≤ C) (S : Sit P s n) (hsm : C * P.nP + C < farV) {far : Nat → Int} {ways : Nat → Option Nat} {τ : Nat → Nat} {T : Nat} (I : RI P s y far ways τ T) (fx : (relaxR P s far ways).sh = false) :
    ∀ h, h < P.nH → ∀ p, p < P.nP → (P.cost h p).isSome → ∀ c, comeOf P s far h = some c → c + cD P h p < farV := by
  intro h hh p hp hc c e
  have c1 := hC h p hh hp hc
  have hz : 0 ≤ C * (P.nP : Int) := Int.mul_nonneg h0 (by omega)
  cases es : s h with
  | none =>
    rw [come_none es] at e
    cases e
    omega
  | some q =>
    rw [come_some es] at e
    split at e
    · rename_i hq
      cases e
      have := far_le h0 hC S I fx hq
      have := hC h q hh (I.way q hq).1 (S.ok h hh q es).2
      omega
    · cases e
theorem start_sit (P : Prob) : Sit P (fun _ => none) (fun _ => 0) :=
  ⟨fun h _ p e => (nomatch e), fun p _ => (sumR_zero fun h _ => ind_f (fun z => nomatch z)).symm, fun p _ => by omega⟩
theorem start_pot {C B : Int} (hC : ∀ h p, h < P.nH → p < P.nP → (P.cost h p).isSome → 0 ≤ cD P h p ∧ cD P h p ≤ C) (hB0 : 0 ≤ B) (hB : ∀ p, p < P.nP → P.bty p ≤ B) : Pot P (fun _ => none) (fun _ => 0) (fun _ => 0) (fun _ => 0) (-B) :=
  ⟨fun _ _ _ => Int.le_refl _, fun _ _ _ e => (nomatch e), fun h hh p hp hc => by have := hC h p hh hp hc; omega, fun _ _ _ e => (nomatch e), fun p hp _ => by have := hB p hp; omega, fun p hp h => by omega, by omega⟩
end
end WM
/-! Plain mathematics, part e: all hands filled in; the paper of prices. -/
namespace WM
section
variable {P : Prob}
abbrev SN := (Nat → Option Nat) × (Nat → Int)
/-- hands filled in one by one -/
inductive FillS (P : Prob) : SN → SN → Prop
  | refl (a : SN) : FillS P a a
  | go {s : Nat → Option Nat} {n : Nat → Int} {far : Nat → Int} {ways : Nat → Option Nat} {b : Nat} {L : List (Nat × Nat)} {c : SN} : CheapR P s far ways → (bestOf P far n).1 = some b → ChainL s ways b L →
      FillS P (applyL s L, up n b (n b + 1)) c → FillS P (s, n) c
def FillEnd (P : Prob) (a : SN) : Prop := ∃ far ways, CheapR P a.1 far ways ∧ (bestOf P far a.2).1 = none
def FillR (P : Prob) (a b : SN) : Prop := FillS P a b ∧ FillEnd P b
theorem FillS.tail {a : SN} {s : Nat → Option Nat} {n : Nat → Int} {far : Nat → Int} {ways : Nat → Option Nat} {b : Nat} {L : List (Nat × Nat)} (h : FillS P a (s, n)) (h1 : CheapR P s far ways) (h2 : (bestOf P far n).1 = some b) (h3 : ChainL s ways b L) :
    FillS P a (applyL s L, up n b (n b + 1)) := by
  generalize e : (s, n) = sn at h
  induction h with
  | refl =>
    subst e
    exact .go h1 h2 h3 (.refl _)
  | go k1 k2 k3 _ ih => exact .go k1 k2 k3 (ih e)
theorem FillR.one {a b c : SN} (h : FillR P a b) (k : FillR P a c) : b = c := by
  obtain ⟨h1, h2⟩ := h
  induction h1 with
  | refl a =>
    obtain ⟨k1, k2⟩ := k
    cases k1 with
    | refl => rfl
    | go e1 e2 e3 _ =>
      obtain ⟨far, ways, g1, g2⟩ := h2
      have := Fin.one e1 g1
      cases this
      rw [e2] at g2
      cases g2
  | go e1 e2 e3 _ ih =>
    obtain ⟨k1, k2⟩ := k
    cases k1 with
    | refl =>
      obtain ⟨far, ways, g1, g2⟩ := k2
      have := Fin.one e1 g1
      cases this
      rw [e2] at g2
      cases g2
    | go f1 f2 f3 r =>
      have := Fin.one e1 f1
      cases this
      rw [e2] at f2
      cases f2
      have := e3.one f3
      subst this
      exact ih ⟨r, k2⟩ h2

/-! ### the paper -/
structure LS where
  h : Nat → Int
  y : Nat → Int
  g : Int
/-- as the program's min of two tells -/
def mn (a b : Int) : Int := if b < a then b else a
theorem mn_le (a b : Int) : mn a b ≤ a := by unfold mn; split <;> omega
theorem mn_le' (a b : Int) : mn a b ≤ b := by unfold mn; split <;> omega
theorem le_mn {a b c : Int} (h : c ≤ a) (k : c ≤ b) : c ≤ mn a b := by unfold mn; split <;> omega
def hdH (P : Prob) (s : Nat → Option Nat) (x : LS) (i : Nat) : Int :=
  match s i with
  | none => mn (x.h i) x.g
  | some w => mn (x.h i) (x.y w - cD P i w)
def hdG (P : Prob) (s : Nat → Option Nat) (x : LS) (i : Nat) : Int :=
  match s i with
  | none => x.g
  | some _ => mn x.g (hdH P s x i)
def handD (P : Prob) (s : Nat → Option Nat) (x : LS) (i : Nat) : LS := ⟨up x.h i (hdH P s x i), x.y, hdG P s x i⟩
def reachD (P : Prob) (i : Nat) (x : LS) (p : Nat) : LS := ⟨x.h, up x.y p (mn (x.y p) (x.h i + cD P i p)), x.g⟩
def levHand (P : Prob) (s : Nat → Option Nat) (x : LS) (i : Nat) : LS := (fitPl P i).foldl (reachD P i) (handD P s x i)
def plH (P : Prob) (n : Nat → Int) (y g : Int) (p : Nat) : Int := if 0 < n p then mn y (g + P.bty p) else y
def plG (P : Prob) (n : Nat → Int) (y g : Int) (p : Nat) : Int := if n p < P.want p then mn g (plH P n y g p - P.bty p) else g
def levPlace (P : Prob) (n : Nat → Int) (x : LS) (p : Nat) : LS := ⟨x.h, up x.y p (plH P n (x.y p) x.g p), plG P n (x.y p) x.g p⟩
def lev (P : Prob) (s : Nat → Option Nat) (n : Nat → Int) (x : LS) : LS := (List.range P.nP).foldl (levPlace P n) ((List.range P.nH).foldl (levHand P s) x)
def LsEq (P : Prob) (a b : LS) : Prop := ls P.nH a.h = ls P.nH b.h ∧ ls P.nP a.y = ls P.nP b.y ∧ a.g = b.g
instance {a b : LS} : Decidable (LsEq P a b) := by unfold LsEq; infer_instance
def levStep (P : Prob) (s : Nat → Option Nat) (n : Nat → Int) (x : LS) : Option LS := if LsEq P (lev P s n x) x then none else some (lev P s n x)
def PaperR (P : Prob) (s : Nat → Option Nat) (n : Nat → Int) (x : LS) : Prop := Fin (levStep P s n) ⟨fun _ => 0, fun _ => 0, 0⟩ x
def Dn (a b : LS) : Prop := (∀ i, b.h i ≤ a.h i) ∧ (∀ p, b.y p ≤ a.y p) ∧ b.g ≤ a.g
theorem Dn.refl (a : LS) : Dn a a := ⟨fun _ => Int.le_refl _, fun _ => Int.le_refl _, Int.le_refl _⟩
theorem Dn.trans {a b c : LS} (h : Dn a b) (k : Dn b c) : Dn a c := ⟨fun i => Int.le_trans (k.1 i) (h.1 i), fun i => Int.le_trans (k.2.1 i) (h.2.1 i), Int.le_trans k.2.2 h.2.2⟩
theorem up_le {f : Nat → Int} {p : Nat} {x : Int} (h : x ≤ f p) (i : Nat) : up f p x i ≤ f i := by
  by_cases e : i = p
  · subst e; rw [up_same]; exact h
  · rw [up_ne e]; exact Int.le_refl _
variable {s : Nat → Option Nat} {n : Nat → Int}
theorem hdH_le {x : LS} {i : Nat} : hdH P s x i ≤ x.h i := by unfold hdH; split <;> exact mn_le _ _
theorem hdG_le {x : LS} {i : Nat} : hdG P s x i ≤ x.g := by
  unfold hdG; split
  · exact Int.le_refl _
  · exact mn_le _ _
theorem handD_dn (x : LS) (i : Nat) : Dn x (handD P s x i) := ⟨up_le hdH_le, fun _ => Int.le_refl _, hdG_le⟩
theorem reachD_dn (i : Nat) (x : LS) (p : Nat) : Dn x (reachD P i x p) := ⟨fun _ => Int.le_refl _, up_le (mn_le _ _), Int.le_refl _⟩
theorem plH_le {y g : Int} {p : Nat} : plH P n y g p ≤ y := by
  unfold plH; split
  · exact mn_le _ _
  · exact Int.le_refl _
theorem plG_le {y g : Int} {p : Nat} : plG P n y g p ≤ g := by
  unfold plG; split
  · exact mn_le _ _
  · exact Int.le_refl _
theorem levPlace_dn (x : LS) (p : Nat) : Dn x (levPlace P n x p) := ⟨fun _ => Int.le_refl _, up_le plH_le, plG_le⟩
theorem fold_dn {α : Type} {f : LS → α → LS} (hf : ∀ a x, Dn a (f a x)) : ∀ (l : List α) (a : LS), Dn a (l.foldl f a)
  | [], a => Dn.refl a
  | x :: l, a => (hf a x).trans (fold_dn hf l _)
theorem fold_mid {α : Type} {f : LS → α → LS} (hf : ∀ a x, Dn a (f a x)) : ∀ {l : List α} {a : LS} {x : α}, x ∈ l → ∃ b, Dn a b ∧ Dn (f b x) (l.foldl f a)
  | [], _, _, h => by simp at h
  | z :: l, a, x, h => by
    rcases List.mem_cons.mp h with rfl | h
    · exact ⟨a, Dn.refl a, fold_dn hf l _⟩
    · obtain ⟨b, h1, h2⟩ := fold_mid hf (l := l) (a := f a z) h
      exact ⟨b, (hf a z).trans h1, h2⟩
theorem levHand_dn (x : LS) (i : Nat) : Dn x (levHand P s x i) := (handD_dn x i).trans (fold_dn (reachD_dn i) _ _)
theorem lev_dn (x : LS) : Dn x (lev P s n x) := (fold_dn levHand_dn _ _).trans (fold_dn levPlace_dn _ _)
/-- what the paper's end tells -/
structure PapC (P : Prob) (s : Nat → Option Nat) (n : Nat → Int) (x : LS) : Prop where
  free : ∀ i, i < P.nH → s i = none → x.h i ≤ x.g
  held : ∀ i, i < P.nH → ∀ w, s i = some w → w < P.nP → x.h i ≤ x.y w - cD P i w ∧ x.g ≤ x.h i
  arc : ∀ i, i < P.nH → ∀ p, p < P.nP → (P.cost i p).isSome → x.y p ≤ x.h i + cD P i p
  out : ∀ p, p < P.nP → 0 < n p → x.y p ≤ x.g + P.bty p
  room : ∀ p, p < P.nP → n p < P.want p → x.g ≤ x.y p - P.bty p
theorem pap_end {x : LS} (e : LsEq P (lev P s n x) x) : PapC P s n x := by
  obtain ⟨e1, e2, e3⟩ := e
  -- what stands between the start and the end is the start
  have mid : ∀ {b : LS}, Dn x b → Dn b (lev P s n x) → (∀ i, i < P.nH → b.h i = x.h i) ∧ (∀ p, p < P.nP → b.y p = x.y p) ∧ b.g = x.g := by
    intro b h k
    refine ⟨fun i hi => ?_, fun p hp => ?_, ?_⟩
    · have := h.1 i; have := k.1 i; have := ls_inj e1 hi; omega
    · have := h.2.1 p; have := k.2.1 p; have := ls_inj e2 hp; omega
    · have := h.2.2; have := k.2.2; omega
  have hands : ∀ {i}, i < P.nH → ∃ b, Dn x b ∧ Dn (levHand P s b i) (lev P s n x) := fun hi => by
    obtain ⟨b, h1, h2⟩ := fold_mid (f := levHand P s) levHand_dn (a := x) (List.mem_range.mpr hi)
    exact ⟨b, h1, h2.trans (fold_dn levPlace_dn _ _)⟩
  have places : ∀ {p}, p < P.nP → ∃ b, Dn x b ∧ Dn (levPlace P n b p) (lev P s n x) := fun hp => by
    obtain ⟨b, h1, h2⟩ := fold_mid (f := levPlace P n) levPlace_dn (a := (List.range P.nH).foldl (levHand P s) x) (List.mem_range.mpr hp)
    exact ⟨b, (fold_dn levHand_dn _ _).trans h1, h2⟩
  refine ⟨fun i hi es => ?_, fun i hi w es hw => ?_, fun i hi p hp hc => ?_, fun p hp ho => ?_, fun p hp hr => ?_⟩
  · obtain ⟨b, h1, h2⟩ := hands hi
    have k : Dn (handD P s b i) (lev P s n x) := (fold_dn (reachD_dn i) _ _).trans h2
    obtain ⟨b1, b2, b3⟩ := mid h1 ((handD_dn b i).trans k)
    obtain ⟨c1, c2, c3⟩ := mid (h1.trans (handD_dn b i)) k
    have q := c1 i hi
    have q2 : (handD P s b i).h i = mn (b.h i) b.g := by show up _ _ _ _ = _; rw [up_same]; unfold hdH; rw [es]
    have := mn_le' (b.h i) b.g
    omega
  · obtain ⟨b, h1, h2⟩ := hands hi
    have k : Dn (handD P s b i) (lev P s n x) := (fold_dn (reachD_dn i) _ _).trans h2
    obtain ⟨b1, b2, b3⟩ := mid h1 ((handD_dn b i).trans k)
    obtain ⟨c1, c2, c3⟩ := mid (h1.trans (handD_dn b i)) k
    have q := c1 i hi
    have hh : hdH P s b i = mn (b.h i) (b.y w - cD P i w) := by unfold hdH; rw [es]
    have q2 : (handD P s b i).h i = hdH P s b i := by show up _ _ _ _ = _; rw [up_same]
    have q3 : (handD P s b i).g = mn b.g (hdH P s b i) := by show hdG P s b i = _; unfold hdG; rw [es]
    have := mn_le' (b.h i) (b.y w - cD P i w)
    have := mn_le' b.g (hdH P s b i)
    have := b2 w hw
    omega
  · obtain ⟨b, h1, h2⟩ := hands hi
    obtain ⟨d, d1, d2⟩ := fold_mid (f := reachD P i) (reachD_dn i) (a := handD P s b i) (mem_fitPl.mpr ⟨hp, hc⟩)
    have hx : Dn x d := (h1.trans (handD_dn b i)).trans d1
    have k : Dn (reachD P i d p) (lev P s n x) := d2.trans h2
    obtain ⟨b1, b2, b3⟩ := mid hx ((reachD_dn i d p).trans k)
    obtain ⟨c1, c2, c3⟩ := mid (hx.trans (reachD_dn i d p)) k
    have q := c2 p hp
    have q2 : (reachD P i d p).y p = mn (d.y p) (d.h i + cD P i p) := by show up _ _ _ _ = _; rw [up_same]
    have := mn_le' (d.y p) (d.h i + cD P i p)
    have := b1 i hi
    omega
  · obtain ⟨b, h1, k⟩ := places hp
    obtain ⟨b1, b2, b3⟩ := mid h1 ((levPlace_dn b p).trans k)
    obtain ⟨c1, c2, c3⟩ := mid (h1.trans (levPlace_dn b p)) k
    have q := c2 p hp
    have q2 : (levPlace P n b p).y p = mn (b.y p) (b.g + P.bty p) := by show up _ _ _ _ = _; rw [up_same]; unfold plH; rw [if_pos ho]
    have := mn_le' (b.y p) (b.g + P.bty p)
    omega
  · obtain ⟨b, h1, k⟩ := places hp
    obtain ⟨b1, b2, b3⟩ := mid h1 ((levPlace_dn b p).trans k)
    obtain ⟨c1, c2, c3⟩ := mid (h1.trans (levPlace_dn b p)) k
    have q := c2 p hp
    have q2 : (levPlace P n b p).y p = plH P n (b.y p) b.g p := by show up _ _ _ _ = _; rw [up_same]
    have q3 : (levPlace P n b p).g = mn b.g (plH P n (b.y p) b.g p - P.bty p) := by show plG P n _ _ p = _; unfold plG; rw [if_pos hr]
    have := mn_le' b.g (plH P n (b.y p) b.g p - P.bty p)
    omega
/-! ### the paper comes to an end -/
structure LB (P : Prob) (v y : Nat → Int) (M : Int) (x : LS) : Prop where
  h : ∀ i, i < P.nH → v i - M ≤ x.h i
  y : ∀ p, p < P.nP → y p - M ≤ x.y p
  g : -M ≤ x.g
theorem lb_lev {v y : Nat → Int} {M : Int} (Pt : Pot P s n v y 0) (S : Sit P s n) {x : LS} (B : LB P v y M x) : LB P v y M (lev P s n x) := by
  refine foldl_keep (f := levPlace P n) (LB P v y M) (foldl_keep (f := levHand P s) (LB P v y M) B ?_) ?_
  · intro x i hi B
    have hi := List.mem_range.mp hi
    have B1 : LB P v y M (handD P s x i) := by
      have hb : v i - M ≤ hdH P s x i := by
        unfold hdH
        cases es : s i with
        | none => exact le_mn (B.h i hi) (by have := Pt.free i hi es; have := B.g; omega)
        | some w => exact le_mn (B.h i hi) (by have := Pt.back i hi w es; have := B.y w (S.ok i hi w es).1; omega)
      refine ⟨fun j hj => ?_, B.y, ?_⟩
      · show v j - M ≤ up x.h i (hdH P s x i) j
        by_cases e : j = i
        · subst e; rw [up_same]; exact hb
        · rw [up_ne e]; exact B.h j hj
      · show -M ≤ hdG P s x i
        unfold hdG
        cases es : s i with
        | none => exact B.g
        | some w => exact le_mn B.g (by have := Pt.held i hi w es; omega)
    refine foldl_keep (f := reachD P i) (LB P v y M) B1 ?_
    intro x p hp B
    obtain ⟨hp, hc⟩ := mem_fitPl.mp hp
    refine ⟨B.h, fun q hq => ?_, B.g⟩
    show y q - M ≤ up x.y p _ q
    by_cases e : q = p
    · subst e; rw [up_same]
      exact le_mn (B.y q hq) (by have := Pt.arc i hi q hq hc; have := B.h i hi; omega)
    · rw [up_ne e]; exact B.y q hq
  · intro x p hp B
    have hp := List.mem_range.mp hp
    have hb : y p - M ≤ plH P n (x.y p) x.g p := by
      unfold plH
      split
      · rename_i ho
        exact le_mn (B.y p hp) (by have := Pt.out p hp ho; have := B.g; omega)
      · exact B.y p hp
    refine ⟨B.h, fun q hq => ?_, ?_⟩
    · show y q - M ≤ up x.y p _ q
      by_cases e : q = p
      · subst e; rw [up_same]; exact hb
      · rw [up_ne e]; exact B.y q hq
    · show -M ≤ plG P n (x.y p) x.g p
      unfold plG
      split
      · rename_i hr
        exact le_mn B.g (by have := Pt.room p hp hr; omega)
      · exact B.g
def lsum (P : Prob) (x : LS) : Int := sumR P.nH x.h + sumR P.nP x.y + x.g
def lbsum (P : Prob) (v y : Nat → Int) (M : Int) : Int := sumR P.nH (fun i => v i - M) + sumR P.nP (fun p => y p - M) + -M
theorem lsum_ge {v y : Nat → Int} {M : Int} {x : LS} (B : LB P v y M x) : lbsum P v y M ≤ lsum P x := by
  have := sumR_le (n := P.nH) B.h
  have := sumR_le (n := P.nP) B.y
  have := B.g
  unfold lsum lbsum
  omega
theorem lsum_lt {x : LS} (h : ¬ LsEq P (lev P s n x) x) : lsum P (lev P s n x) < lsum P x := by
  obtain ⟨d1, d2, d3⟩ := lev_dn (P := P) (s := s) (n := n) x
  have s1 := sumR_le (n := P.nH) fun i _ => d1 i
  have s2 := sumR_le (n := P.nP) fun i _ => d2 i
  unfold lsum
  by_cases c1 : ls P.nH (lev P s n x).h = ls P.nH x.h
  · by_cases c2 : ls P.nP (lev P s n x).y = ls P.nP x.y
    · have c3 : (lev P s n x).g ≠ x.g := fun z => h ⟨c1, c2, z⟩
      omega
    · have : ∃ p, p < P.nP ∧ (lev P s n x).y p ≠ x.y p := by
        apply Classical.byContradiction
        intro z
        exact c2 (ls_congr fun p hp => Classical.byContradiction fun q => z ⟨p, hp, q⟩)
      obtain ⟨p, hp, hne⟩ := this
      have := sumR_lt (n := P.nP) (fun i _ => d2 i) hp (by have := d2 p; omega)
      omega
  · have : ∃ p, p < P.nH ∧ (lev P s n x).h p ≠ x.h p := by
      apply Classical.byContradiction
      intro z
      exact c1 (ls_congr fun p hp => Classical.byContradiction fun q => z ⟨p, hp, q⟩)
    obtain ⟨p, hp, hne⟩ := this
    have := sumR_lt (n := P.nH) (fun i _ => d1 i) hp (by have := d1 p; omega)
    omega
theorem le_sum_abs {m : Nat} {f : Nat → Int} {i : Nat} (h : i < m) : f i ≤ sumR m fun j => (f j).natAbs := by
  have h1 : sumR m (fun j => ind (j = i) * f i) ≤ sumR m fun j => (f j).natAbs := sumR_le fun j _ => by
    by_cases e : j = i
    · subst e; rw [ind_t rfl]; omega
    · rw [ind_f e]; omega
  have h2 : sumR m (fun j => ind (j = i) * f i) = ind (i = i) * f i := sumR_one h fun j _ hne => by rw [ind_f hne]; omega
  rw [ind_t rfl] at h2
  omega
theorem lb_start (v y : Nat → Int) : ∃ M, LB P v y M ⟨fun _ => 0, fun _ => 0, 0⟩ := by
  have a0 : 0 ≤ sumR P.nH fun j => ((v j).natAbs : Int) := sumR_nonneg fun _ _ => by omega
  have b0 : 0 ≤ sumR P.nP fun j => ((y j).natAbs : Int) := sumR_nonneg fun _ _ => by omega
  refine ⟨(sumR P.nH fun j => (v j).natAbs) + sumR P.nP fun j => (y j).natAbs, fun i hi => ?_, fun p hp => ?_, ?_⟩
  · have := le_sum_abs (f := v) hi
    show _ ≤ (0 : Int)
    omega
  · have := le_sum_abs (f := y) hp
    show _ ≤ (0 : Int)
    omega
  · show _ ≤ (0 : Int)
    omega
/-! ### what the paper shows -/
def mx0 (z : Int) : Int := if z > 0 then z else 0
def priceU (P : Prob) (x : LS) (p : Nat) : Int := mn (x.y p - x.g) (P.bty p)
def priceV (x : LS) (i : Nat) : Int := mx0 (x.h i - x.g)
/-- what a hand costs where it is posted -/
def costAt (P : Prob) (s : Nat → Option Nat) (i : Nat) : Int :=
  match s i with
  | none => 0
  | some p => cD P i p
theorem sum_posts {P : Prob} {s : Nat → Option Nat} {n u : Nat → Int} (S : Sit P s n) : sumR P.nP (fun p => u p * n p) = sumR P.nH fun i => match s i with | none => 0 | some p => u p := by
  have e1 : sumR P.nP (fun p => u p * n p) = sumR P.nP fun p => sumR P.nH fun i => u p * ind (s i = some p) := sumR_congr fun p hp => by rw [S.cnt p hp, sumR_mulc]
  rw [e1, sumR_swap]
  refine sumR_congr fun i hi => ?_
  cases es : s i with
  | none => exact sumR_zero fun p _ => by rw [ind_f (fun z => nomatch z)]; omega
  | some q =>
    simp only
    rw [sumR_one (p := q) (S.ok i hi q es).1 fun p _ hne => by rw [ind_f (fun z => hne (Option.some.inj z).symm)]; omega]
    rw [ind_t rfl]
    omega
theorem paper_sum {x : LS} (S : Sit P s n) (hw : ∀ p, p < P.nP → 0 ≤ P.want p) (C : PapC P s n x) :
    sumR P.nP (fun p => priceU P x p * P.want p) - sumR P.nH (priceV x) = sumR P.nP (fun p => (P.want p - n p) * P.bty p) + sumR P.nH (costAt P s) := by
  have e1 : sumR P.nP (fun p => priceU P x p * P.want p) = sumR P.nP (fun p => (P.want p - n p) * P.bty p) + sumR P.nP fun p => priceU P x p * n p := by
    rw [← sumR_add]
    refine sumR_congr fun p hp => ?_
    have hle := S.le p hp
    have hw := hw p hp
    by_cases hr : n p < P.want p
    · have := C.room p hp hr
      have hu : priceU P x p = P.bty p := by unfold priceU mn; split <;> omega
      rw [hu, Int.sub_mul, Int.mul_comm (P.want p), Int.mul_comm (n p)]
      omega
    · have : n p = P.want p := by omega
      rw [this, Int.sub_self, Int.zero_mul, Int.zero_add]
  have e2 : sumR P.nH (priceV x) = (sumR P.nH fun i => match s i with | none => 0 | some p => priceU P x p) - sumR P.nH (costAt P s) := by
    rw [← sumR_sub]
    refine sumR_congr fun i hi => ?_
    unfold priceV mx0 costAt
    cases es : s i with
    | none =>
      have := C.free i hi es
      simp only
      split <;> omega
    | some w =>
      simp only
      obtain ⟨hw1, hc⟩ := S.ok i hi w es
      obtain ⟨c1, c2⟩ := C.held i hi w es hw1
      have c3 := C.arc i hi w hw1 hc
      have hn : 0 < n w := by
        rw [S.cnt w hw1]
        have := sumR_lt (n := P.nH) (f := fun _ => 0) (g := fun h => ind (s h = some w)) (fun _ _ => ind_nonneg) hi (by rw [ind_t es]; decide)
        rw [sumR_zero fun _ _ => rfl] at this
        exact this
      have c4 := C.out w hw1 hn
      have hu : priceU P x w = x.y w - x.g := by unfold priceU mn; split <;> omega
      rw [hu]
      split <;> omega
  rw [e1, e2, sum_posts S]
  omega
theorem paper_arc {x : LS} (C : PapC P s n x) {i p : Nat} (hi : i < P.nH) (hp : p < P.nP) (hc : (P.cost i p).isSome) : priceU P x p ≤ priceV x i + cD P i p := by
  have := C.arc i hi p hp hc
  have := mn_le (x.y p - x.g) (P.bty p)
  unfold priceU priceV mx0
  split <;> omega
theorem paper_bty {x : LS} {p : Nat} : priceU P x p ≤ P.bty p := mn_le' _ _
theorem paper_low {x : LS} {i : Nat} : 0 ≤ priceV x i := by unfold priceV mx0; split <;> omega
end
end WM
/-! Plain mathematics, part f: cuts; hands put to places one by one; how many lack. -/
namespace WM
/-- hands assigned to places: a h k how often hand h is put at place k -/
structure Asg (nH nP : Nat) (fit : Nat → Nat → Bool) (want load : Nat → Int) (a : Nat → Nat → Int) : Prop where
  pos : ∀ h k, 0 ≤ a h k
  one : ∀ h, h < nH → sumR nP (a h) ≤ 1
  fits : ∀ h, h < nH → ∀ k, k < nP → a h k ≠ 0 → fit h k = true
  ld : ∀ k, k < nP → load k = sumR nH fun h => a h k
  le : ∀ k, k < nP → load k ≤ want k
/-- one where a hand is fit for a place of G -/
def fitG (nP : Nat) (fit : Nat → Nat → Bool) (G : Nat → Bool) (h : Nat) : Int := ind (∃ k, k < nP ∧ G k = true ∧ fit h k = true)
section
variable {nH nP : Nat} {fit : Nat → Nat → Bool} {want load : Nat → Int} {a : Nat → Nat → Int} {G : Nat → Bool}
theorem part_le (A : Asg nH nP fit want load a) {h : Nat} (hh : h < nH) : sumR nP (fun k => ind (G k = true) * a h k) ≤ fitG nP fit G h := by
  by_cases e : ∃ k, k < nP ∧ G k = true ∧ fit h k = true
  · have : fitG nP fit G h = 1 := ind_t e
    rw [this]
    refine Int.le_trans (sumR_le fun k _ => ?_) (A.one h hh)
    have := A.pos h k
    by_cases g : G k = true
    · rw [ind_t g]; omega
    · rw [ind_f g]; omega
  · have : fitG nP fit G h = 0 := ind_f e
    rw [this, sumR_zero]
    · exact Int.le_refl _
    · intro k hk
      by_cases g : G k = true
      · have : a h k = 0 := by
          apply Classical.byContradiction
          intro z
          exact e ⟨k, hk, g, A.fits h hh k hk z⟩
        rw [this, Int.mul_zero]
      · rw [ind_f g, Int.zero_mul]
theorem load_part (A : Asg nH nP fit want load a) : sumR nP (fun k => ind (G k = true) * load k) = sumR nH fun h => sumR nP fun k => ind (G k = true) * a h k := by
  rw [sumR_swap]
  refine sumR_congr fun k hk => ?_
  rw [A.ld k hk, sumR_mulc]
/-- how many lack at a cut -/
def defi (nH nP : Nat) (fit : Nat → Nat → Bool) (want : Nat → Int) (G : Nat → Bool) : Int := sumR nP (fun k => ind (G k = true) * want k) - sumR nH (fitG nP fit G)
/-- so many lack at least, whatever the posts -/
theorem weak (A : Asg nH nP fit want load a) : defi nH nP fit want G ≤ sumR nP fun k => want k - load k := by
  have e1 : sumR nP (fun k => ind (G k = true) * (want k - load k)) ≤ sumR nP fun k => want k - load k := sumR_le fun k hk => by
    have := A.le k hk
    by_cases g : G k = true
    · rw [ind_t g]; omega
    · rw [ind_f g]; omega
  have e2 : sumR nP (fun k => ind (G k = true) * (want k - load k)) = sumR nP (fun k => ind (G k = true) * want k) - sumR nP fun k => ind (G k = true) * load k := by
    rw [← sumR_sub]
    exact sumR_congr fun k _ => Int.mul_sub _ _ _
  have e3 : sumR nP (fun k => ind (G k = true) * load k) ≤ sumR nH (fitG nP fit G) := by
    rw [load_part A]
    exact sumR_le fun h hh => part_le A hh
  unfold defi
  omega
/-- a cut that shows it -/
theorem strong (A : Asg nH nP fit want load a) (h1 : ∀ k, k < nP → G k = false → load k = want k) (h2 : ∀ h, h < nH → (∃ k, k < nP ∧ G k = true ∧ fit h k = true) → ∃ k, k < nP ∧ G k = true ∧ a h k ≠ 0) :
    defi nH nP fit want G = sumR nP fun k => want k - load k := by
  have e1 : sumR nP (fun k => ind (G k = true) * (want k - load k)) = sumR nP fun k => want k - load k := sumR_congr fun k hk => by
    cases g : G k with
    | true => rw [ind_t rfl]; omega
    | false => rw [ind_f (by decide), h1 k hk g]; omega
  have e2 : sumR nP (fun k => ind (G k = true) * (want k - load k)) = sumR nP (fun k => ind (G k = true) * want k) - sumR nP fun k => ind (G k = true) * load k := by
    rw [← sumR_sub]
    exact sumR_congr fun k _ => Int.mul_sub _ _ _
  have e3 : sumR nP (fun k => ind (G k = true) * load k) = sumR nH (fitG nP fit G) := by
    rw [load_part A]
    refine sumR_congr fun h hh => ?_
    by_cases e : ∃ k, k < nP ∧ G k = true ∧ fit h k = true
    · have l1 := part_le (G := G) A hh
      have l0 : fitG nP fit G h = 1 := ind_t e
      obtain ⟨k, hk, g, hne⟩ := h2 h hh e
      have l2 : 1 ≤ sumR nP (fun k => ind (G k = true) * a h k) := by
        have l3 : sumR nP (fun j => ind (j = k) * a h k) ≤ sumR nP (fun k => ind (G k = true) * a h k) := sumR_le fun j _ => by
          by_cases q : j = k
          · subst q; rw [ind_t rfl, ind_t g]; exact Int.le_refl _
          · rw [ind_f q]
            have := A.pos h j
            by_cases g' : G j = true
            · rw [ind_t g']; omega
            · rw [ind_f g']; omega
        rw [sumR_one hk fun j _ hne => by rw [ind_f hne, Int.zero_mul], ind_t rfl] at l3
        have := A.pos h k
        omega
      omega
    · have l0 : fitG nP fit G h = 0 := ind_f e
      have l1 := part_le (G := G) A hh
      have l2 : 0 ≤ sumR nP (fun k => ind (G k = true) * a h k) := sumR_nonneg fun k _ => Int.mul_nonneg ind_nonneg (A.pos h k)
      omega
  unfold defi
  omega
end

/-! ### hands put one by one -/
section
variable (nH nP : Nat) (fit : Nat → Nat → Bool) (want : Nat → Int)
/-- how often a hand sits -/
def cntS (Se : Nat → List Nat) (h : Nat) : Int := sumR nP fun k => ((Se k).count h : Nat)
/-- all who sit are fit; not too many -/
structure SeOk (Se : Nat → List Nat) : Prop where
  fits : ∀ k, k < nP → ∀ h, h ∈ Se k → h < nH ∧ fit h k = true
  le : ∀ k, k < nP → ((Se k).length : Int) ≤ want k
/-- a dead set: all full, those who sit there are fit only within -/
def Dead (Se : Nat → List Nat) (D : Nat → Prop) : Prop := ∀ k, k < nP → D k → want k ≤ ((Se k).length : Int) ∧ ∀ h, h ∈ Se k → ∀ j, j < nP → fit h j = true → D j
/-- what a try to put a hand comes to: M the places met before, M' behind -/
structure SitOut (Se Se' : Nat → List Nat) (M M' : Nat → Prop) (at_ : Nat) (b : Bool) : Prop where
  sub : ∀ k, M k → M' k
  ok : SeOk nH nP fit want Se'
  kept : ∀ k, k < nP → M k → Se' k = Se k
  yes : b = true → (∀ h, cntS nP Se' h = cntS nP Se h + ind (h = at_)) ∧ ∀ D, Dead nP fit want Se D → ¬ (∀ j, j < nP → fit at_ j = true → D j) ∧ ∀ k, k < nP → D k → Se' k = Se k
  no : b = false → (∀ k, k < nP → Se' k = Se k) ∧ (∀ j, j < nP → fit at_ j = true → M' j) ∧ ∀ k, k < nP → M' k → ¬ M k → want k ≤ ((Se k).length : Int) ∧ ∀ h, h ∈ Se k → ∀ j, j < nP → fit h j = true → M' j
/-- behind the first a hands -/
structure Full (a : Nat) (Se : Nat → List Nat) : Prop where
  ok : SeOk nH nP fit want Se
  one : ∀ h, cntS nP Se h ≤ 1
  none : ∀ h, a ≤ h → cntS nP Se h = 0
  dead : ∃ D : Nat → Prop, Dead nP fit want Se D ∧ ∀ h, h < a → cntS nP Se h = 0 → ∀ j, j < nP → fit h j = true → D j
end
section
variable {nH nP : Nat} {fit : Nat → Nat → Bool} {want : Nat → Int}
theorem cnt_congr {Se Se' : Nat → List Nat} (e : ∀ k, k < nP → Se' k = Se k) (h : Nat) : cntS nP Se' h = cntS nP Se h := sumR_congr fun k hk => by rw [e k hk]
theorem dead_congr {Se Se' : Nat → List Nat} {D : Nat → Prop} (d : Dead nP fit want Se D) (e : ∀ k, k < nP → D k → Se' k = Se k) : Dead nP fit want Se' D := fun k hk hd => by
  obtain ⟨a, b⟩ := d k hk hd
  rw [e k hk hd]
  exact ⟨a, b⟩
theorem full_step {Se Se' : Nat → List Nat} {M' : Nat → Prop} {a : Nat} {b : Bool} (F : Full nH nP fit want a Se) (S : SitOut nH nP fit want Se Se' (fun _ => False) M' a b) : Full nH nP fit want (a + 1) Se' := by
  obtain ⟨D, d1, d2⟩ := F.dead
  cases b with
  | true =>
    obtain ⟨y1, y2⟩ := S.yes rfl
    obtain ⟨_, y3⟩ := y2 D d1
    refine ⟨S.ok, fun h => ?_, fun h hh => ?_, D, dead_congr d1 y3, fun h hh h0 => ?_⟩
    · rw [y1 h]
      by_cases e : h = a
      · subst e
        rw [ind_t rfl, F.none h (Nat.le_refl _)]
        decide
      · rw [ind_f e]
        have := F.one h
        omega
    · rw [y1 h, ind_f (by omega), F.none h (by omega)]
      rfl
    · rw [y1 h] at h0
      by_cases e : h = a
      · subst e
        rw [ind_t rfl, F.none h (Nat.le_refl _)] at h0
        omega
      · rw [ind_f e] at h0
        exact d2 h (by omega) (by omega)
  | false =>
    obtain ⟨n1, n2, n3⟩ := S.no rfl
    refine ⟨S.ok, fun h => ?_, fun h hh => ?_, fun k => D k ∨ M' k, ?_, fun h hh h0 => ?_⟩
    · rw [cnt_congr n1]; exact F.one h
    · rw [cnt_congr n1]; exact F.none h (by omega)
    · intro k hk hd
      rw [n1 k hk]
      rcases hd with hd | hd
      · obtain ⟨e1, e2⟩ := d1 k hk hd
        exact ⟨e1, fun h hm j hj hf => .inl (e2 h hm j hj hf)⟩
      · obtain ⟨e1, e2⟩ := n3 k hk hd (fun z => z)
        exact ⟨e1, fun h hm j hj hf => .inr (e2 h hm j hj hf)⟩
    · rw [cnt_congr n1] at h0
      intro j hj hf
      by_cases e : h = a
      · subst e
        exact .inr (n2 j hj hf)
      · exact .inl (d2 h (by omega) h0 j hj hf)
theorem full_start (hw : ∀ k, k < nP → 0 ≤ want k) : Full nH nP fit want 0 fun _ => [] :=
  ⟨⟨fun k _ h hm => by simp at hm, fun k hk => by simpa using hw k hk⟩, fun h => by rw [show cntS nP (fun _ => []) h = 0 from sumR_zero fun _ _ => rfl]; decide, fun h _ => sumR_zero fun _ _ => rfl, fun _ => False, fun k _ hd => hd.elim, fun h hh => by omega⟩
/-- places from where a hand could go to one that lacks hands -/
structure Come (nP : Nat) (fit : Nat → Nat → Bool) (want : Nat → Int) (Se : Nat → List Nat) (F : List Nat) : Prop where
  nd : F.Nodup
  lt : ∀ k, k ∈ F → k < nP
  lack : ∀ k, k < nP → ((Se k).length : Int) < want k → k ∈ F
  back : ∀ f, f ∈ F → ∀ k, k < nP → (∃ h, h ∈ Se k ∧ fit h f = true) → k ∈ F
  live : ∀ f, f ∈ F → ∀ D, Dead nP fit want Se D → ¬ D f
theorem count_sum (l : List Nat) (n : Nat) (h : ∀ x, x ∈ l → x < n) : (l.length : Int) = sumR n fun x => ((l.count x : Nat) : Int) := by
  induction l with
  | nil => rw [sumR_zero] <;> simp
  | cons y l ih =>
    have e : sumR n (fun x => (((y :: l).count x : Nat) : Int)) = sumR n (fun x => ((l.count x : Nat) : Int)) + sumR n fun x => ind (x = y) := by
      rw [← sumR_add]
      refine sumR_congr fun x _ => ?_
      rw [List.count_cons]
      by_cases e : x = y
      · subst e; rw [ind_t rfl]; simp
      · rw [ind_f e]
        have : (y == x) = false := by simp; exact fun z => e z.symm
        rw [this]
        simp
    rw [e, ← ih fun x hx => h x (by simp [hx]), sumR_one (p := y) (h y (by simp)) fun x _ hne => ind_f hne, ind_t rfl, List.length_cons]
    omega
theorem se_asg {Se : Nat → List Nat} (F : Full nH nP fit want nH Se) : Asg nH nP fit want (fun k => ((Se k).length : Nat)) fun h k => ((Se k).count h : Nat) where
  pos h k := by omega
  one h _ := F.one h
  fits h hh k hk hne := by
    have : 0 < (Se k).count h := by omega
    exact (F.ok.fits k hk h (List.count_pos_iff.mp this)).2
  ld k hk := count_sum _ _ fun x hx => (F.ok.fits k hk x hx).1
  le k hk := F.ok.le k hk
theorem mem_of_cnt {Se : Nat → List Nat} {h : Nat} (e : cntS nP Se h ≠ 0) : ∃ k, k < nP ∧ h ∈ Se k := by
  apply Classical.byContradiction
  intro z
  apply e
  refine sumR_zero fun k hk => ?_
  have : (Se k).count h = 0 := List.count_eq_zero.mpr fun q => z ⟨k, hk, q⟩
  rw [this]
  rfl
theorem cut_ok {Se : Nat → List Nat} {F : List Nat} (Fu : Full nH nP fit want nH Se) (C : Come nP fit want Se F) : defi nH nP fit want (fun k => decide (k ∈ F)) = sumR nP fun k => want k - ((Se k).length : Nat) := by
  refine strong (se_asg Fu) (fun k hk g => ?_) (fun h hh e => ?_)
  · have hn : k ∉ F := of_decide_eq_false g
    have := Fu.ok.le k hk
    have h2 : ¬ ((Se k).length : Int) < want k := fun z => hn (C.lack k hk z)
    omega
  · obtain ⟨f, hf, g, hfit⟩ := e
    have g : f ∈ F := of_decide_eq_true g
    obtain ⟨D, d1, d2⟩ := Fu.dead
    have hc : cntS nP Se h ≠ 0 := fun z => C.live f g D d1 (d2 h hh z f hf hfit)
    obtain ⟨k, hk, hm⟩ := mem_of_cnt hc
    refine ⟨k, hk, decide_eq_true (C.back f g k hk ⟨h, hm, hfit⟩), ?_⟩
    have : 0 < (Se k).count h := List.count_pos_iff.mpr hm
    omega
end
end WM
/-! Plain mathematics, part g: one hand put, the steps of the search; the places that come. -/
namespace WM
section
variable {nH nP : Nat} {fit : Nat → Nat → Bool} {want : Nat → Int} {Se Se' : Nat → List Nat} {M M1 M2 : Nat → Prop} {a k : Nat}
/-- what was met between M and M1, but for those of X, is full and leads nowhere else -/
def Shut (nP : Nat) (fit : Nat → Nat → Bool) (want : Nat → Int) (Se : Nat → List Nat) (M M1 : Nat → Prop) (X : Nat → Prop) : Prop :=
  ∀ k, k < nP → M1 k → ¬ M k → ¬ X k → want k ≤ ((Se k).length : Int) ∧ ∀ h, h ∈ Se k → ∀ j, j < nP → fit h j = true → M1 j
theorem Shut.more {X : Nat → Prop} (s : Shut nP fit want Se M M1 X) (u : ∀ k, M1 k → M2 k) (t : ∀ k, k < nP → M2 k → ¬ M1 k → ¬ X k → want k ≤ ((Se k).length : Int) ∧ ∀ h, h ∈ Se k → ∀ j, j < nP → fit h j = true → M2 j) : Shut nP fit want Se M M2 X := fun k hk h2 hn hx => by
  by_cases h1 : M1 k
  · obtain ⟨a1, a2⟩ := s k hk h1 hn hx
    exact ⟨a1, fun h hh j hj hf => u j (a2 h hh j hj hf)⟩
  · exact t k hk h2 h1 hx
/-- ahead of place i of the search for hand a -/
structure SitI (nP : Nat) (fit : Nat → Nat → Bool) (want : Nat → Int) (Se Se' : Nat → List Nat) (M M1 : Nat → Prop) (a i : Nat) : Prop where
  sub : ∀ k, M k → M1 k
  same : ∀ k, k < nP → Se' k = Se k
  pre : ∀ j, j < i → fit a j = true → M1 j
  shut : Shut nP fit want Se M M1 fun _ => False
theorem sitI_start : SitI nP fit want Se Se M M a 0 := ⟨fun _ h => h, fun _ _ => rfl, fun j hj => by omega, fun _ _ h n => absurd h n⟩
theorem SitI.skip {i : Nat} (s : SitI nP fit want Se Se' M M1 a i) (h : fit a i = true → M1 i) : SitI nP fit want Se Se' M M1 a (i + 1) :=
  ⟨s.sub, s.same, fun j hj hf => by
    by_cases e : j = i
    · subst e; exact h hf
    · exact s.pre j (by omega) hf, s.shut⟩
theorem SitI.out (ok : SeOk nH nP fit want Se) (s : SitI nP fit want Se Se' M M1 a nP) : SitOut nH nP fit want Se Se' M M1 a false :=
  ⟨s.sub, ⟨fun k hk h hh => ok.fits k hk h (by rw [← s.same k hk]; exact hh), fun k hk => by rw [s.same k hk]; exact ok.le k hk⟩, fun k hk _ => s.same k hk, fun e => absurd e (by decide),
    fun _ => ⟨s.same, fun j hj hf => s.pre j hj hf, fun k hk h1 h0 => s.shut k hk h1 h0 (fun z => z)⟩⟩
theorem cntS_up {l : List Nat} {c : Int} (hk : k < nP) {h : Nat} (e : ((l.count h : Nat) : Int) = ((Se k).count h : Nat) + c) : cntS nP (up Se k l) h = cntS nP Se h + c := by
  have e1 : cntS nP (up Se k l) h = sumR nP (up (fun k => (((Se k).count h : Nat) : Int)) k ((l.count h : Nat) : Int)) := sumR_congr fun j hj => by
    by_cases q : j = k
    · subst q; rw [up_same, up_same]
    · rw [up_ne q, up_ne q]
  rw [e1, sumR_up hk]
  unfold cntS
  omega
theorem count_snoc {l : List Nat} {h : Nat} : (((l ++ [a]).count h : Nat) : Int) = ((l.count h : Nat) : Int) + ind (h = a) := by
  rw [List.count_append, List.count_singleton]
  by_cases e : h = a
  · subst e; rw [ind_t rfl]; simp
  · rw [ind_f e]
    have : (a == h) = false := by simp; exact fun z => e z.symm
    rw [this]; simp
/-- the hand is put where there is room -/
theorem sit_put (ok : SeOk nH nP fit want Se) (s : ∀ k, k < nP → Se' k = Se k) (sub : ∀ k, M k → M1 k) (hn : ¬ M k) (hk : k < nP) (ha : a < nH) (hf : fit a k = true) (hl : ((Se k).length : Int) < want k) : SitOut nH nP fit want Se (up Se' k (Se k ++ [a])) M M1 a true where
  sub := sub
  ok := ⟨fun j hj h hh => by
    by_cases e : j = k
    · subst e
      rw [up_same] at hh
      rcases List.mem_append.mp hh with q | q
      · exact ok.fits j hj h q
      · have : h = a := by simpa using q
        subst this
        exact ⟨ha, hf⟩
    · rw [up_ne e, s j hj] at hh
      exact ok.fits j hj h hh, fun j hj => by
    by_cases e : j = k
    · subst e
      rw [up_same, List.length_append]
      simp
      omega
    · rw [up_ne e, s j hj]
      exact ok.le j hj⟩
  kept := fun j hj hm => by
    have : j ≠ k := fun e => hn (e ▸ hm)
    rw [up_ne this, s j hj]
  yes := fun _ => ⟨fun h => by
    rw [cntS_up (c := ind (h = a)) hk (by rw [s k hk]; exact count_snoc), cnt_congr s], fun D d => by
    have nd : ¬ D k := fun q => by
      have := (d k hk q).1
      omega
    refine ⟨fun z => nd (z k hk hf), fun j hj hd => ?_⟩
    have : j ≠ k := fun e => nd (e ▸ hd)
    rw [up_ne this, s j hj]⟩
  no := fun e => absurd e (by decide)
/-- another one went on, and the hand takes its seat -/
theorem sit_on {o : Nat} {Sb : Nat → List Nat} (ok : SeOk nH nP fit want Se) (sb : ∀ k, k < nP → Sb k = Se k) (S : SitOut nH nP fit want Sb Se' M1 M2 o true) (sub : ∀ k, M k → M1 k) (h1 : M1 k) (hn : ¬ M k) (hk : k < nP) (ha : a < nH) (hf : fit a k = true) (ho : o ∈ Se k) {l : List Nat}
    (hl : l.length + 1 = (Se k).length) (hc : ∀ h, ((l.count h : Nat) : Int) = ((Se k).count h : Nat) - ind (h = o)) (hm : ∀ h, h ∈ l → h ∈ Se k) : SitOut nH nP fit want Se (up Se' k (l ++ [a])) M M2 a true where
  sub := fun j hj => S.sub j (sub j hj)
  ok := ⟨fun j hj h hh => by
    by_cases e : j = k
    · subst e
      rw [up_same] at hh
      rcases List.mem_append.mp hh with q | q
      · exact ok.fits j hj h (hm h q)
      · have : h = a := by simpa using q
        subst this
        exact ⟨ha, hf⟩
    · rw [up_ne e] at hh
      exact S.ok.fits j hj h hh, fun j hj => by
    by_cases e : j = k
    · subst e
      have := ok.le j hj
      rw [up_same, List.length_append]
      simp
      omega
    · rw [up_ne e]
      exact S.ok.le j hj⟩
  kept := fun j hj hm => by
    have : j ≠ k := fun e => hn (e ▸ hm)
    rw [up_ne this, S.kept j hj (sub j hm), sb j hj]
  yes := fun _ => by
    obtain ⟨y1, y2⟩ := S.yes rfl
    refine ⟨fun h => ?_, fun D d => ?_⟩
    · have e1 := y1 h
      rw [cnt_congr sb] at e1
      rw [cntS_up (c := ind (h = a) - ind (h = o)) hk ?_, e1]
      · omega
      · rw [count_snoc, hc, S.kept k hk h1, sb k hk]
        omega
    · obtain ⟨z1, z2⟩ := y2 D (dead_congr d fun j hj _ => sb j hj)
      have nd : ¬ D k := fun q => z1 fun j hj hf => (d k hk q).2 o ho j hj hf
      refine ⟨fun z => nd (z k hk hf), fun j hj hd => ?_⟩
      have : j ≠ k := fun e => nd (e ▸ hd)
      rw [up_ne this, z2 j hj hd, sb j hj]
  no := fun e => absurd e (by decide)
/-- ahead of the o-th who sits at k -/
structure SitJ (nP : Nat) (fit : Nat → Nat → Bool) (want : Nat → Int) (Se Se' : Nat → List Nat) (M M1 : Nat → Prop) (a k o : Nat) : Prop where
  sub : ∀ k, M k → M1 k
  same : ∀ k, k < nP → Se' k = Se k
  pre : ∀ j, j < k → fit a j = true → M1 j
  here : M1 k
  shut : Shut nP fit want Se M M1 fun j => j = k
  gone : ∀ i h, i < o → (Se k)[i]? = some h → ∀ j, j < nP → fit h j = true → M1 j
theorem sitJ_start (s : SitI nP fit want Se Se' M M1 a k) (e : ∀ j, M2 j ↔ M1 j ∨ j = k) : SitJ nP fit want Se Se' M M2 a k 0 :=
  ⟨fun j h => (e j).mpr (.inl (s.sub j h)), s.same, fun j hj hf => (e j).mpr (.inl (s.pre j hj hf)), (e k).mpr (.inr rfl), fun j hj h2 hn hx => by
    have h1 : M1 j := by
      rcases (e j).mp h2 with q | q
      · exact q
      · exact absurd q hx
    obtain ⟨a1, a2⟩ := s.shut j hj h1 hn (fun z => z)
    exact ⟨a1, fun h hh i hi hf => (e i).mpr (.inl (a2 h hh i hi hf))⟩, fun i h hi => by omega⟩
theorem SitJ.next {o h : Nat} {Sn : Nat → List Nat} (s : SitJ nP fit want Se Se' M M1 a k o) (ho : (Se k)[o]? = some h) (S : SitOut nH nP fit want Se' Sn M1 M2 h false) : SitJ nP fit want Se Sn M M2 a k (o + 1) := by
  obtain ⟨n1, n2, n3⟩ := S.no rfl
  refine ⟨fun j hj => S.sub j (s.sub j hj), fun j hj => by rw [n1 j hj, s.same j hj], fun j hj hf => S.sub j (s.pre j hj hf), S.sub k s.here, ?_, ?_⟩
  · refine s.shut.more S.sub fun j hj h2 h1 _ => ?_
    obtain ⟨a1, a2⟩ := n3 j hj h2 h1
    rw [s.same j hj] at a1 a2
    exact ⟨a1, a2⟩
  · intro i h' hi e j hj hf
    by_cases q : i = o
    · subst q
      rw [ho] at e
      cases e
      exact n2 j hj hf
    · exact S.sub j (s.gone i h' (by omega) e j hj hf)
theorem SitJ.out (s : SitJ nP fit want Se Se' M M1 a k (Se k).length) (hl : want k ≤ ((Se k).length : Int)) : SitI nP fit want Se Se' M M1 a (k + 1) :=
  ⟨s.sub, s.same, fun j hj hf => by
    by_cases e : j = k
    · subst e; exact s.here
    · exact s.pre j (by omega) hf, fun j hj h1 hn _ => by
    by_cases e : j = k
    · subst e
      refine ⟨hl, fun h hh i hi hf => ?_⟩
      obtain ⟨x, hx, ex⟩ := List.getElem_of_mem hh
      exact s.gone x h hx (by rw [List.getElem?_eq_getElem hx, ex]) i hi hf
    · exact s.shut j hj h1 hn e⟩
end
section
variable {nP : Nat} {fit : Nat → Nat → Bool} {want : Nat → Int} {Se : Nat → List Nat}
/-- the places come so far, the first c of them done -/
structure ComeI (nP : Nat) (fit : Nat → Nat → Bool) (want : Nat → Int) (Se : Nat → List Nat) (F : List Nat) (c : Nat) : Prop where
  nd : F.Nodup
  lt : ∀ k, k ∈ F → k < nP
  lack : ∀ k, k < nP → ((Se k).length : Int) < want k → k ∈ F
  back : ∀ i f, i < c → F[i]? = some f → ∀ k, k < nP → (∃ h, h ∈ Se k ∧ fit h f = true) → k ∈ F
  live : ∀ f, f ∈ F → ∀ D, Dead nP fit want Se D → ¬ D f
theorem nodup_lt {F : List Nat} {n : Nat} (nd : F.Nodup) (lt : ∀ k, k ∈ F → k < n) : F.length ≤ n := by
  have e := count_sum F n lt
  have l : sumR n (fun x => ((F.count x : Nat) : Int)) ≤ sumR n fun _ => 1 := sumR_le fun x _ => by
    have := List.nodup_iff_count.mp nd x
    omega
  have c : ∀ n, sumR n (fun _ => 1) = n := by
    intro n
    induction n with
    | zero => rfl
    | succ n ih => simp only [sumR]; rw [ih]; omega
  rw [c] at l
  omega
theorem comeI_start : ComeI nP fit want Se ((List.range nP).filter fun k => decide (((Se k).length : Int) < want k)) 0 where
  nd := List.nodup_range.sublist List.filter_sublist
  lt := fun k hk => by simpa using (List.mem_filter.mp hk).1
  lack := fun k hk hl => List.mem_filter.mpr ⟨by simpa using hk, decide_eq_true hl⟩
  back := fun i f hi => by omega
  live := fun f hf D d hd => by
    have h1 := (List.mem_filter.mp hf).1
    have h2 := of_decide_eq_true (List.mem_filter.mp hf).2
    have := (d f (by simpa using h1) hd).1
    omega
/-- the c-th at work, the first k places looked at -/
structure ComeJ (nP : Nat) (fit : Nat → Nat → Bool) (want : Nat → Int) (Se : Nat → List Nat) (F : List Nat) (c f k : Nat) : Prop where
  I : ComeI nP fit want Se F c
  here : F[c]? = some f
  done : ∀ j, j < k → (∃ h, h ∈ Se j ∧ fit h f = true) → j ∈ F
theorem ComeI.j {F : List Nat} {c f : Nat} (I : ComeI nP fit want Se F c) (h : F[c]? = some f) : ComeJ nP fit want Se F c f 0 := ⟨I, h, fun j hj => by omega⟩
theorem ComeJ.skip {F : List Nat} {c f k : Nat} (J : ComeJ nP fit want Se F c f k) (h : (∃ h, h ∈ Se k ∧ fit h f = true) → k ∈ F) : ComeJ nP fit want Se F c f (k + 1) :=
  ⟨J.I, J.here, fun j hj e => by
    by_cases q : j = k
    · subst q; exact h e
    · exact J.done j (by omega) e⟩
theorem ComeJ.add {F : List Nat} {c f k : Nat} (J : ComeJ nP fit want Se F c f k) (hk : k < nP) (hn : k ∉ F) (h : ∃ h, h ∈ Se k ∧ fit h f = true) : ComeJ nP fit want Se (F ++ [k]) c f (k + 1) where
  I := {
    nd := by
      refine List.nodup_iff_count.mpr fun a => ?_
      rw [List.count_append, List.count_singleton]
      have := List.nodup_iff_count.mp J.I.nd a
      by_cases e : a = k
      · subst e
        rw [List.count_eq_zero.mpr hn]
        simp
      · have : (k == a) = false := by simp; exact fun z => e z.symm
        rw [this]
        simpa using List.nodup_iff_count.mp J.I.nd a
    lt := fun j hj => by
      rcases List.mem_append.mp hj with q | q
      · exact J.I.lt j q
      · have : j = k := by simpa using q
        omega
    lack := fun j hj hl => List.mem_append_left _ (J.I.lack j hj hl)
    back := fun i g hi e j hj hf => by
      have hc : c < F.length := (List.getElem?_eq_some_iff.mp J.here).1
      rw [List.getElem?_append_left (by omega)] at e
      exact List.mem_append_left _ (J.I.back i g hi e j hj hf)
    live := fun g hg D d hd => by
      rcases List.mem_append.mp hg with q | q
      · exact J.I.live g q D d hd
      · have : g = k := by simpa using q
        subst this
        obtain ⟨x, x1, x2⟩ := h
        have hfF : f ∈ F := List.mem_of_getElem? J.here
        exact J.I.live f hfF D d ((d g hk hd).2 x x1 f (J.I.lt f hfF) x2) }
  here := by
    have hc : c < F.length := (List.getElem?_eq_some_iff.mp J.here).1
    rw [List.getElem?_append_left hc]
    exact J.here
  done := fun j hj e => by
    by_cases q : j = k
    · subst q; simp
    · exact List.mem_append_left _ (J.done j (by omega) e)
theorem ComeJ.out {F : List Nat} {c f : Nat} (J : ComeJ nP fit want Se F c f nP) : ComeI nP fit want Se F (c + 1) :=
  ⟨J.I.nd, J.I.lt, J.I.lack, fun i g hi e j hj hf => by
    by_cases q : i = c
    · subst q
      rw [J.here] at e
      cases e
      exact J.done j hj hf
    · exact J.I.back i g (by omega) e j hj hf, J.I.live⟩
theorem ComeI.out {F : List Nat} {c : Nat} (I : ComeI nP fit want Se F c) (h : F.length ≤ c) : Come nP fit want Se F :=
  ⟨I.nd, I.lt, I.lack, fun f hf k hk e => by
    obtain ⟨i, hi, ei⟩ := List.getElem_of_mem hf
    exact I.back i f (by omega) (by rw [List.getElem?_eq_getElem hi, ei]) k hk e, I.live⟩
theorem Come.perm {F F' : List Nat} (C : Come nP fit want Se F) (p : F'.Perm F) : Come nP fit want Se F' :=
  ⟨p.nodup_iff.mpr C.nd, fun k hk => C.lt k (p.mem_iff.mp hk), fun k hk hl => p.mem_iff.mpr (C.lack k hk hl), fun f hf k hk e => p.mem_iff.mpr (C.back f (p.mem_iff.mp hf) k hk e), fun f hf => C.live f (p.mem_iff.mp hf)⟩
end
end WM
/-! Plain mathematics, part h: posts filled in lack no more than must be. -/
namespace WM
section
variable {P : Prob} {s : Nat → Option Nat} {n v y : Nat → Int} {t : Int}
theorem man_asg {fit : Nat → Nat → Bool} (S : Sit P s n) (hw : ∀ p, p < P.nP → 0 ≤ P.want p) (hf : ∀ h, h < P.nH → ∀ p, p < P.nP → (P.cost h p).isSome = true → fit h p = true) : Asg P.nH P.nP fit P.want n fun h k => ind (s h = some k) where
  pos h k := ind_nonneg
  one h hh := by
    cases e : s h with
    | none => rw [sumR_zero fun k _ => ind_f (fun z => nomatch z)]; decide
    | some q =>
      rw [sumR_one (p := q) (S.ok h hh q e).1 fun k _ hne => ind_f (fun z => hne (Option.some.inj z).symm), ind_t rfl]
      exact Int.le_refl _
  fits h hh k hk hne := by
    by_cases e : s h = some k
    · exact hf h hh k hk (S.ok h hh k e).2
    · exact absurd (ind_f e) hne
  ld k hk := S.cnt k hk
  le k hk := by
    have := S.le k hk
    have := hw k hk
    omega
theorem man_strong {fit : Nat → Nat → Bool} {C B : Int} (Pt : Pot P s n v y t) (S : Sit P s n) (E : FillEnd P (s, n)) (hw : ∀ p, p < P.nP → 0 ≤ P.want p) (hf : ∀ h, h < P.nH → ∀ p, p < P.nP → ((P.cost h p).isSome = true ↔ fit h p = true))
    (h0 : 0 ≤ C) (hC : ∀ h p, h < P.nH → p < P.nP → (P.cost h p).isSome → 0 ≤ cD P h p ∧ cD P h p ≤ C) (hB : ∀ p, p < P.nP → B ≤ P.bty p) (hCB : C * P.nP + C < B) (hBf : B < farV) :
    ∃ G : Nat → Bool, defi P.nH P.nP fit P.want G = sumR P.nP fun k => P.want k - n k := by
  obtain ⟨far, ways, hch, hb⟩ := E
  obtain ⟨⟨τ, T, I⟩, fx⟩ := cheap_ri Pt S hch
  have hfl : ∀ {p}, far p < farV → far p ≤ C * P.nP := fun hp => far_le h0 hC S I fx hp
  refine ⟨fun k => decide (farV ≤ far k), strong (man_asg S hw fun h hh p hp e => (hf h hh p hp).mp e) (fun k hk g => ?_) (fun h hh e => ?_)⟩
  · have g : ¬ farV ≤ far k := of_decide_eq_false g
    have h1 := S.le k hk
    have h2 := hw k hk
    have h3 := hfl (p := k) (by omega)
    have h4 := hB k hk
    apply Classical.byContradiction
    intro hne
    have := best_none (n := n) hb hk (by omega) (by omega)
    omega
  · obtain ⟨k, hk, g, hfit⟩ := e
    have g : farV ≤ far k := of_decide_eq_true g
    have hc := (hf h hh k hk).mpr hfit
    have c1 := hC h k hh hk hc
    cases es : s h with
    | none =>
      exfalso
      have := relax_fix fx hh hk hc (come_none (far := far) es)
      have : (0 : Int) ≤ C * P.nP := Int.mul_nonneg h0 (by omega)
      omega
    | some q =>
      obtain ⟨hq, hcq⟩ := S.ok h hh q es
      have c2 := hC h q hh hq hcq
      refine ⟨q, hq, ?_, by rw [ind_t rfl]; decide⟩
      by_cases z : far q < farV
      · exfalso
        have h5 := hfl z
        have := relax_fix fx hh hk hc (by rw [come_some es, if_pos z])
        omega
      · exact decide_eq_true (by omega)
/-- as many lack as the cut tells -/
theorem lack_eq {fit : Nat → Nat → Bool} {Se : Nat → List Nat} {F : List Nat} {C B : Int} (Pt : Pot P s n v y t) (S : Sit P s n) (E : FillEnd P (s, n)) (hw : ∀ p, p < P.nP → 0 ≤ P.want p) (hf : ∀ h, h < P.nH → ∀ p, p < P.nP → ((P.cost h p).isSome = true ↔ fit h p = true))
    (h0 : 0 ≤ C) (hC : ∀ h p, h < P.nH → p < P.nP → (P.cost h p).isSome → 0 ≤ cD P h p ∧ cD P h p ≤ C) (hB : ∀ p, p < P.nP → B ≤ P.bty p) (hCB : C * P.nP + C < B) (hBf : B < farV)
    (Fu : Full P.nH P.nP fit P.want P.nH Se) (Co : Come P.nP fit P.want Se F) : (sumR P.nP fun k => P.want k - n k) = sumR P.nP fun k => P.want k - ((Se k).length : Nat) := by
  obtain ⟨G, hG⟩ := man_strong Pt S E hw hf h0 hC hB hCB hBf
  have a1 := weak (G := G) (se_asg Fu)
  have a2 := weak (G := fun k => decide (k ∈ F)) (man_asg S hw fun h hh p hp e => (hf h hh p hp).mp e)
  have a3 := cut_ok Fu Co
  omega
theorem paper_end {x : LS} (h : PaperR P s n x) : PapC P s n x := by
  obtain ⟨_, h2⟩ := h
  unfold levStep at h2
  split at h2
  · rename_i e; exact pap_end e
  · cases h2
end
end WM
/-! The watch's program by places; heaps that grow; readings one step at a time. -/
namespace WS
open PySem PySem.Spec PyProof.Rows L2
def topS (i : Nat) : Stmt := PySem.Challenge.pw_watchstations_k90_whole_papers_at_each_b.main.body.getD i (.Pass ⟨0, 0, 0, 0⟩)
abbrev s_bells_in : Stmt := topS 1
abbrev s_watch_at : Stmt := topS 2
abbrev s_cycle_from : Stmt := topS 4
abbrev s_cycles : Stmt := topS 5
abbrev s_divisor : Stmt := topS 6
abbrev s_round_of : Stmt := topS 7
abbrev s_order_at : Stmt := topS 8
abbrev s_kept_by : Stmt := topS 10
abbrev s_keeper : Stmt := topS 11
abbrev s_short : Stmt := topS 14
abbrev s_is_fit : Stmt := topS 15
abbrev s_lack_price : Stmt := topS 16
abbrev s_cost_of : Stmt := topS 20
abbrev s_costs_of : Stmt := topS 21
abbrev s_Manning_init : Stmt := inClass (topS 22) 0
abbrev s_Manning_fit_places : Stmt := inClass (topS 22) 1
abbrev s_Manning_relax : Stmt := inClass (topS 22) 2
abbrev s_Manning_cheapest : Stmt := inClass (topS 22) 3
abbrev s_Manning_put_along : Stmt := inClass (topS 22) 4
abbrev s_Manning_fill : Stmt := inClass (topS 22) 5
abbrev s_Manning_hand_down : Stmt := inClass (topS 22) 6
abbrev s_Manning_place_down : Stmt := inClass (topS 22) 7
abbrev s_Manning_levelled : Stmt := inClass (topS 22) 8
abbrev s_Manning_paper : Stmt := inClass (topS 22) 9
abbrev s_man : Stmt := topS 23
abbrev s_names_in : Stmt := topS 25
abbrev s_in_order : Stmt := topS 29
abbrev s_Holding_init : Stmt := inClass (topS 30) 0
abbrev s_Holding_put_in : Stmt := inClass (topS 30) 1
abbrev s_Holding_take_in : Stmt := inClass (topS 30) 2
abbrev s_Holding_of_hand : Stmt := inClass (topS 30) 3
abbrev s_Holding_mustered : Stmt := inClass (topS 30) 4
abbrev s_muster : Stmt := topS 31
abbrev s_with_many : Stmt := topS 33
abbrev s_places_of : Stmt := topS 34
abbrev s_where_of : Stmt := topS 35
abbrev s_Voyage_init : Stmt := inClass (topS 36) 0
abbrev s_Voyage_come_to : Stmt := inClass (topS 36) 1
abbrev s_Voyage_lot_of_watch : Stmt := inClass (topS 36) 2
abbrev s_Voyage_by_bill : Stmt := inClass (topS 36) 3
abbrev s_Voyage_held_by : Stmt := inClass (topS 36) 4
abbrev s_Voyage_lot_of_calls : Stmt := inClass (topS 36) 5
abbrev s_Voyage_by_calls : Stmt := inClass (topS 36) 6
abbrev s_Voyage_asked_now : Stmt := inClass (topS 36) 7
abbrev s_Voyage_go_on : Stmt := inClass (topS 36) 8
abbrev s_come_so_far : Stmt := topS 37
abbrev s_asked : Stmt := topS 38
abbrev s_held : Stmt := topS 39
abbrev s_posted : Stmt := topS 40
abbrev s_sit : Stmt := topS 42
abbrev s_fullest : Stmt := topS 43
abbrev s_come_to : Stmt := topS 44
abbrev s_lacking : Stmt := topS 45
abbrev s_law_hand : Stmt := topS 47
abbrev s_law_take : Stmt := topS 48
abbrev s_law_of : Stmt := topS 49
abbrev s_law_order : Stmt := topS 50
abbrev s_law_names : Stmt := topS 51
abbrev s_law_lot : Stmt := topS 52
abbrev s_law_roll : Stmt := topS 53
abbrev s_law_ship : Stmt := topS 54
abbrev s_law_change : Stmt := topS 55
abbrev s_law_pages : Stmt := topS 56
abbrev s_law_is_fit : Stmt := topS 57
abbrev s_law_cost : Stmt := topS 58
abbrev s_law_are_posts : Stmt := topS 59
abbrev s_law_price : Stmt := topS 60
abbrev s_law_whole : Stmt := topS 61
abbrev s_law_paper_right : Stmt := topS 62
abbrev s_law_cut_right : Stmt := topS 63
abbrev s_law_row_due : Stmt := topS 64
abbrev s_law_bell_right : Stmt := topS 65
abbrev s_law : Stmt := topS 66
/-! ### a def of the module, a method, a class -/
structure Def (K : PySem.W.Frag) (mg : Str → Option Value) (x : Str) (st : Stmt) : Prop where
  ex : ∃ f fd, Fun K x x st f fd ∧ mg x = some (.ref f)
structure MDef (K : PySem.W.Frag) (C : Addr) (m qual : Str) (st : Stmt) : Prop where
  ex : ∃ f fd, Fun K m qual st f fd ∧ Meth K C m f
structure IDef (K : PySem.W.Frag) (C : Addr) (qual : Str) (st : Stmt) : Prop where
  ex : ∃ f fd, Fun K "__init__" qual st f fd ∧ Mk K C f
section
variable {P : Program} {w : World} {K : PySem.W.Frag} {mg : Str → Option Value} {base : Heap}
abbrev Cal (P : Program) (w : World) (K : PySem.W.Frag) (mg : Str → Option Value) (base : Heap) (k : Nat) (x : Str) (sp : Sp) : Prop := C8.Cal P w K mg base k x sp []
abbrev Met (P : Program) (w : World) (K : PySem.W.Frag) (mg : Str → Option Value) (base : Heap) (k : Nat) (C : Addr) (m : Str) (sp : Sp) : Prop := C8.Met P w K mg base k C m sp []
abbrev Mak (P : Program) (w : World) (K : PySem.W.Frag) (mg : Str → Option Value) (base : Heap) (k : Nat) (x : Str) (C : Addr) (sp : Sp) : Prop := C8.Mak P w K mg base k x C sp []
/-- how the arguments bind, for any function data of the def -/
def BindsAll (x qual : Str) (st : Stmt) (ps : List Str) : Prop := ∀ (kV doc pm : Value) (an : Option Addr) (cdv ct : Value) (us : List Value), us.length = ps.length →
  bindArgs (PySem.W.fnOf x qual (defArgs st) (defBody st) (defScope st) .none kV doc pm an cdv ct) ⟨us, []⟩ = pure (ps.zip us)
theorem cal_of {x : Str} {st : Stmt} {N ps : List Str} {k : Nat} {sp : Sp} (D : Def K mg x st) (hb : BindsAll x x st ps) (S : FnScope N ps (defScope st)) (len : ∀ vs H Q E, sp vs H Q E → vs.length = ps.length)
    (hbody : ∀ (f : Addr) (cdv : Value) (A : Around) (outer : List Env) (s : Shared) (H : Hp) (vs : List V) (Q : VK) (E : XK), Room k (A.deeper (envOfC x (defScope st) s.heap.objs.size f cdv)) → sp vs H Q E →
      ∃ t, PSs (cxOf CX0 P w K mg base N x (defScope st) f cdv A outer s H E).nox (defBody st) t ∧ t { nx := fun _ H' => Q .non H', rt := Q } (start N vs) H) : Cal P w K mg base (k + 1) x sp := by
  obtain ⟨f, fd, F, hm⟩ := D.ex
  exact ⟨f, fd, ps, [], F.ok S len (hbody f), hm, F.kp, F.binds hb, .nil⟩
theorem met_of {C : Addr} {m qual : Str} {st : Stmt} {N ps : List Str} {k : Nat} {sp : Sp} (c : Cls K C) (D : MDef K C m qual st) (hb : BindsAll m qual st ps) (S : FnScope N ps (defScope st)) (len : ∀ vs H Q E, sp vs H Q E → vs.length = ps.length)
    (hbody : ∀ (f : Addr) (cdv : Value) (A : Around) (outer : List Env) (s : Shared) (H : Hp) (vs : List V) (Q : VK) (E : XK), Room k (A.deeper (envOfC qual (defScope st) s.heap.objs.size f cdv)) → sp vs H Q E →
      ∃ t, PSs (cxOf CX0 P w K mg base N qual (defScope st) f cdv A outer s H E).nox (defBody st) t ∧ t { nx := fun _ H' => Q .non H', rt := Q } (start N vs) H) : Met P w K mg base (k + 1) C m sp := by
  obtain ⟨f, fd, F, hm⟩ := D.ex
  exact ⟨f, fd, ps, [], c, hm, F.ok S len (hbody f), F.binds hb, .nil⟩
theorem mak_of {C : Addr} {x qual : Str} {st : Stmt} {N ps : List Str} {k : Nat} {sp : Sp} (hx : mg x = some (.ref C)) (D : IDef K C qual st) (hb : BindsAll "__init__" qual st ps) (S : FnScope N ps (defScope st)) (len : ∀ vs H Q E, sp vs H Q E → vs.length = ps.length)
    (hbody : ∀ (f : Addr) (cdv : Value) (A : Around) (outer : List Env) (s : Shared) (H : Hp) (vs : List V) (Q : VK) (E : XK), Room k (A.deeper (envOfC qual (defScope st) s.heap.objs.size f cdv)) → sp vs H Q E →
      ∃ t, PSs (cxOf CX0 P w K mg base N qual (defScope st) f cdv A outer s H E).nox (defBody st) t ∧ t { nx := fun _ H' => Q .non H', rt := Q } (start N vs) H) : Mak P w K mg base (k + 1) x C sp := by
  obtain ⟨f, fd, F, M⟩ := D.ex
  exact ⟨f, fd, ps, [], M, F.ok S len (hbody f), hx, F.binds hb, .nil⟩
end

/-! ### heaps that grow -/
section
variable {K : PySem.W.Frag} {H H' H1 : Hp} {a b p l : Addr} {o : HO} {xs ys : List V}
theorem _root_.L2.Same.new (h : H p = none) : Same H (upd H p o) := fun b u e => by rw [upd_ne (ne_of_none e h)]; exact e
/-- what H does not know may change -/
theorem _root_.L2.Same.mut (s : Same H H') (h : H p = none) : Same H (upd H' p o) := fun b u e => by rw [upd_ne (ne_of_none e h)]; exact s b u e
theorem _root_.L2.Same.rd {u : HO} (s : Same H H') (h : Rd H a u) : Rd H' a u := by
  rcases h with h | ⟨o, h⟩
  · exact .inl (s _ _ h)
  · exact .inr ⟨o, s _ _ h⟩
theorem _root_.L2.Same.tup (s : Same H H') (h : SqT K H a xs) : SqT K H' a xs := by
  rcases h with h | h
  · exact .inl (s.rd h)
  · exact .inr h
theorem sqt_of (h : H a = some (.tup xs)) : SqT K H a xs := .inl (.inl h)
theorem sql_of (h : H a = some (.lst xs)) : SqL K H a xs := .inl (.inl h)
/-- all tuples stay -/
def Tups (H H' : Hp) : Prop := ∀ a xs, Rd H a (.tup xs) → Rd H' a (.tup xs)
theorem Tups.refl (H : Hp) : Tups H H := fun _ _ h => h
theorem Tups.trans (s : Tups H H1) (t : Tups H1 H') : Tups H H' := fun a xs h => t a xs (s a xs h)
theorem _root_.L2.Same.tups (s : Same H H') : Tups H H' := fun _ _ h => s.rd h
theorem Tups.upd (h : ∀ xs, ¬ Rd H p (.tup xs)) : Tups H (upd H p o) := fun a xs e => by
  have hne : a ≠ p := fun q => h xs (q ▸ e)
  rcases e with e | ⟨o', e⟩
  · exact .inl (by rw [upd_ne hne]; exact e)
  · exact .inr ⟨o', by rw [upd_ne hne]; exact e⟩
theorem not_tup_lst (h : H p = some (.lst ys)) : ∀ xs, ¬ Rd H p (.tup xs) := fun xs e => by
  rcases e with e | ⟨_, e⟩ <;> (rw [h] at e; cases e)
theorem Tups.sq (s : Tups H H') (h : SqT K H a xs) : SqT K H' a xs := by
  rcases h with h | h
  · exact .inl (s _ _ h)
  · exact .inr h
mutual
/-- data without lists: it stays while tuples stay -/
inductive Dt (K : PySem.W.Frag) (H : Hp) : V → PyData → Prop
  | non : Dt K H .non .none
  | bl (b : Bool) : Dt K H (.bl b) (.bool b)
  | int (i : Int) : Dt K H (.int i) (.int i)
  | str (x : Str) : Dt K H (.str x) (.str x)
  | tup {a : Addr} {xs : List V} {ds : List PyData} : SqT K H a xs → DtAll K H xs ds → Dt K H (.ref a) (.tuple ds)
inductive DtAll (K : PySem.W.Frag) (H : Hp) : List V → List PyData → Prop
  | nil : DtAll K H [] []
  | cons {v : V} {vs : List V} {d : PyData} {ds : List PyData} : Dt K H v d → DtAll K H vs ds → DtAll K H (v :: vs) (d :: ds)
end
mutual
theorem Dt.mono (t : Tups H H') : ∀ {v : V} {d : PyData}, Dt K H v d → Dt K H' v d
  | _, _, .non => .non
  | _, _, .bl b => .bl b
  | _, _, .int i => .int i
  | _, _, .str x => .str x
  | _, _, .tup h hs => .tup (t.sq h) (DtAll.mono t hs)
theorem DtAll.mono (t : Tups H H') : ∀ {vs : List V} {ds : List PyData}, DtAll K H vs ds → DtAll K H' vs ds
  | _, _, .nil => .nil
  | _, _, .cons h hs => .cons (Dt.mono t h) (DtAll.mono t hs)
end
mutual
theorem Dt.dp : ∀ {v : V} {d : PyData}, Dt K H v d → Dp K H v d
  | _, _, .non => .non
  | _, _, .bl b => .bl b
  | _, _, .int i => .int i
  | _, _, .str x => .str x
  | _, _, .tup h hs => .tup h (DtAll.dp hs)
theorem DtAll.dp : ∀ {vs : List V} {ds : List PyData}, DtAll K H vs ds → DpAll K H vs ds
  | _, _, .nil => .nil
  | _, _, .cons h hs => .cons (Dt.dp h) (DtAll.dp hs)
end
theorem DtAll.length : ∀ {vs : List V} {ds : List PyData}, DtAll K H vs ds → vs.length = ds.length
  | _, _, .nil => rfl
  | _, _, .cons _ h => congrArg (· + 1) h.length
theorem DtAll.get : ∀ {vs : List V} {ds : List PyData}, DtAll K H vs ds → ∀ {i : Nat} {v : V}, vs[i]? = some v → ∃ d, ds[i]? = some d ∧ Dt K H v d
  | _, _, .nil, _, _, h => by simp at h
  | _, _, .cons h _, 0, _, e => by simp at e; subst e; exact ⟨_, rfl, h⟩
  | _, _, .cons _ h, i + 1, _, e => h.get (i := i) (by simpa using e)
theorem DtAll.get' : ∀ {vs : List V} {ds : List PyData}, DtAll K H vs ds → ∀ {i : Nat} {d : PyData}, ds[i]? = some d → ∃ v, vs[i]? = some v ∧ Dt K H v d
  | _, _, .nil, _, _, h => by simp at h
  | _, _, .cons h _, 0, _, e => by simp at e; subst e; exact ⟨_, rfl, h⟩
  | _, _, .cons _ h, i + 1, _, e => h.get' (i := i) (by simpa using e)
theorem DtAll.of : ∀ {vs : List V} {ds : List PyData}, vs.length = ds.length → (∀ (i : Nat) v d, vs[i]? = some v → ds[i]? = some d → Dt K H v d) → DtAll K H vs ds
  | [], [], _, _ => .nil
  | [], _ :: _, h, _ => by simp at h
  | _ :: _, [], h, _ => by simp at h
  | v :: vs, d :: ds, h, k => .cons (k 0 v d rfl rfl) (DtAll.of (by simpa using h) fun i v' d' a b => k (i + 1) v' d' (by simpa using a) (by simpa using b))
theorem DtAll.append {vs ws : List V} {ds es : List PyData} (h : DtAll K H vs ds) (k : DtAll K H ws es) : DtAll K H (vs ++ ws) (ds ++ es) := by
  induction vs generalizing ds with
  | nil => cases h; exact k
  | cons v vs ih =>
    cases h with
    | cons h1 h2 => exact .cons h1 (ih h2)
theorem Dt.tup_inv {v : V} {ds : List PyData} (h : Dt K H v (.tuple ds)) : ∃ a xs, v = .ref a ∧ SqT K H a xs ∧ DtAll K H xs ds := by
  cases h with
  | tup h1 h2 => exact ⟨_, _, rfl, h1, h2⟩
theorem Dt.int_inv {v : V} {i : Int} (h : Dt K H v (.int i)) : v = .int i := by cases h; rfl
theorem Dt.str_inv {v : V} {x : Str} (h : Dt K H v (.str x)) : v = .str x := by cases h; rfl
theorem Dt.none_inv {v : V} (h : Dt K H v .none) : v = .non := by cases h; rfl
theorem DtAll.strs_inv : ∀ {vs : List V} {xs : List Str}, DtAll K H vs (xs.map .str) → vs = xs.map V.str
  | _, [], h => by cases h; rfl
  | _, x :: xs, h => by
    cases h with
    | cons h1 h2 =>
      cases h1
      rw [DtAll.strs_inv h2]
      all_goals rfl
theorem DtAll.ints_inv : ∀ {vs : List V} {xs : List Int}, DtAll K H vs (xs.map .int) → vs = xs.map V.int
  | _, [], h => by cases h; rfl
  | _, x :: xs, h => by
    cases h with
    | cons h1 h2 =>
      cases h1
      rw [DtAll.ints_inv h2]
      all_goals rfl
theorem DtAll.strs : ∀ {xs : List Str}, DtAll K H (xs.map V.str) (xs.map .str)
  | [] => .nil
  | _ :: _ => .cons (.str _) DtAll.strs
theorem DtAll.ints : ∀ {xs : List Int}, DtAll K H (xs.map V.int) (xs.map .int)
  | [] => .nil
  | _ :: _ => .cons (.int _) DtAll.ints
end

/-! ### readings, a step at a time -/
section
variable {K : PySem.W.Frag} {σ : L2.St} {H : Hp} {Q : VK} {v x y : V} {ta tb te : TE} {r : R2}
theorem g_var {i : Nat} (h : σ[i]? = some (some v)) (k : Q v H) : tVar i σ H Q := ⟨v, h, k⟩
theorem g_c (k : Q v H) : tC v σ H Q := k
theorem g_op (k : ta σ H fun x H1 => tb σ H1 fun y H2 => r x y H2 Q) : tOp r ta tb σ H Q := k
theorem g_cons {tr : TA} {R : List V → Hp → Prop} (k : ta σ H fun x H1 => tr σ H1 fun xs H2 => R (x :: xs) H2) : tCons ta tr σ H R := k
theorem g_nil {R : List V → Hp → Prop} (k : R [] H) : tNil σ H R := k
theorem g_cb {rr : List V → Hp → VK → Prop} {t : TA} (k : t σ H fun vs H1 => rr vs H1 Q) : tCB rr t σ H Q := k
theorem g_call {sp : Sp} {E : XK} {t : TA} (k : t σ H fun vs H1 => sp vs H1 Q E) : tCall sp [] E t σ H Q := by
  unfold tCall
  simp only [List.append_nil]
  exact k
theorem g_I0 {g : Int → Int → V} {i j : Int} (k : Q (g i j) H) : rI0 g (.int i) (.int j) H Q := ⟨i, j, rfl, rfl, k⟩
theorem g_I {C : Int → Int → Prop} {g : Int → Int → V} {i j : Int} (c : C i j) (k : Q (g i j) H) : rI C g (.int i) (.int j) H Q := ⟨i, j, rfl, rfl, c, k⟩
theorem g_eq (h : scal x y = true) (k : Q (.bl (decide (x = y))) H) : rEq x y H Q := ⟨h, k⟩
theorem g_ne (h : scal x y = true) (k : Q (.bl (!decide (x = y))) H) : rNe x y H Q := ⟨h, k⟩
theorem g_ixT {p : Addr} {xs : List V} {i : Int} (h : SqT K H p xs) (e : atI xs i = some v) (k : Q v H) : rIxT K (.ref p) (.int i) H Q := ⟨p, xs, i, v, rfl, rfl, h, e, k⟩
theorem g_ixL {p : Addr} {xs : List V} {i : Int} (h : SqL K H p xs) (e : atI xs i = some v) (k : Q v H) : rIxL K (.ref p) (.int i) H Q := ⟨p, xs, i, v, rfl, rfl, h, e, k⟩
theorem g_test {R : Bool → Hp → Prop} (k : te σ H fun x H' => ∃ b, x = .bl b ∧ R b H') : tTest te σ H R := k
theorem g_tB {R : Bool → Hp → Prop} (k : te σ H fun x H' => ∃ b, x = .bl b ∧ R b H') : tB te σ H R := k
theorem g_bl {R : Bool → Hp → Prop} {b : Bool} (k : R b H) : ∃ c, V.bl b = .bl c ∧ R c H := ⟨b, rfl, k⟩
theorem g_ret {D : Ends} (k : te σ H D.rt) : tRet te D σ H := k
theorem g_seq {D : Ends} {t u : TS} (k : t { D with nx := u D } σ H) : tSeq t u D σ H := k
theorem g_drop {D : Ends} (k : te σ H fun _ H1 => D.nx σ H1) : tDrop te D σ H := k
theorem g_asg {D : Ends} {g : TG} (k : te σ H fun x H1 => g x σ H1 D.nx) : tAsg te g D σ H := k
theorem g_name {i : Nat} {R : L2.St → Hp → Prop} (k : R (σ.set i (some v)) H) : gName i v σ H R := k
theorem g_gtup {n : Nat} {t : TGs} {R : L2.St → Hp → Prop} {a : Addr} {xs : List V} (h : SqT K H a xs) (e : xs.length = n) (k : t xs σ H R) : gTup K n t (.ref a) σ H R := ⟨a, xs, rfl, h, e, k⟩
theorem g_gcons {t : TG} {u : TGs} {xs : List V} {R : L2.St → Hp → Prop} (k : t v σ H fun σ' H' => u xs σ' H' R) : gCons t u (v :: xs) σ H R := ⟨v, xs, rfl, k⟩
theorem g_gnil {R : L2.St → Hp → Prop} (k : R σ H) : gNil [] σ H R := ⟨rfl, k⟩
theorem g_if {D : Ends} {c : TT} {t u : TS} (k : c σ H fun b H1 => if b = true then t D σ H1 else u D σ H1) : tIfS c t u D σ H := k
theorem g_ifE {c : TT} (k : c σ H fun b H1 => if b = true then ta σ H1 Q else tb σ H1 Q) : tIf c ta tb σ H Q := k
theorem g_next {D : Ends} (k : D.nx σ H) : tNext D σ H := k
theorem g_tup {t : TA} (k : t σ H fun xs H1 => xs.length ≤ sizeLine ∧ ∀ p, H1 p = none → Q (.ref p) (upd H1 p (.tup xs))) : tTup t σ H Q := k
theorem g_lst {t : TA} (k : t σ H fun xs H1 => xs.length ≤ sizeLine ∧ ∀ p, H1 p = none → Q (.ref p) (upd H1 p (.lst xs))) : tLst t σ H Q := k
theorem g_isN (k : Q (.bl (decide (x = .non))) H) : (fun (x y : V) (H : Hp) (Q : VK) => y = .non ∧ Q (.bl (decide (x = .non))) H) x .non H Q := ⟨rfl, k⟩
theorem g_notN (k : Q (.bl (!decide (x = .non))) H) : (fun (x y : V) (H : Hp) (Q : VK) => y = .non ∧ Q (.bl (!decide (x = .non))) H) x .non H Q := ⟨rfl, k⟩
theorem g_not {c : TT} {R : Bool → Hp → Prop} (k : c σ H fun b H1 => R (!b) H1) : tNot c σ H R := k
theorem g_and {c d : TT} {R : Bool → Hp → Prop} (k : c σ H fun b H1 => if b = true then d σ H1 R else R false H1) : tAnd c d σ H R := k
theorem g_or {c d : TT} {R : Bool → Hp → Prop} (k : c σ H fun b H1 => if b = true then R true H1 else d σ H1 R) : tOr c d σ H R := k
theorem g_yes {R : Bool → Hp → Prop} (k : R true H) : tYes σ H R := k
theorem g_fld {f : Str} (k : ta σ H fun x H1 => ∃ a C dx fs v, x = .ref a ∧ H1 a = some (.ins C dx fs) ∧ Cls K C ∧ NoAttr K C f ∧ fs.lookup f = some v ∧ Q v H1) : tFld K ta f σ H Q := k
/-- a new object: the heap behind it by name -/
@[elab_as_elim] theorem newG {p : Addr} {o : HO} {R : Hp → Prop} (hp : H p = none) (k : ∀ H', Same H H' → H' p = some o → R H') : R (upd H p o) := k _ (Same.new hp) upd_same
/-- a list that H0 does not know changes -/
@[elab_as_elim] theorem setG {H0 : Hp} {p : Addr} {o : HO} {R : Hp → Prop} (s : Same H0 H) (h : H0 p = none) (k : ∀ H', Same H0 H' → H' p = some o → (∀ b, b ≠ p → H' b = H b) → R H') : R (upd H p o) :=
  k _ (s.mut h) upd_same fun _ hb => upd_ne hb
/-- a while: W by what is left at most, the slots and the heap -/
theorem wh_go {c : TT} {tb : TS} {D : Ends} {m : Nat} (W : Nat → L2.St → Hp → Prop) (h0 : W m σ H)
    (hs : ∀ m σ H, W m σ H → c σ H fun b H1 => if b = true then ∃ N : L2.St → Hp → Prop, (∀ σ' H', N σ' H' → ∃ m', m' < m ∧ W m' σ' H') ∧ tb { D with nx := N, ct := N, bk := D.nx } σ H1 else D.nx σ H1) : tWhile c tb D σ H :=
  ⟨W, ⟨m, h0⟩, hs⟩
end
theorem sz100 {n : Nat} (h : n ≤ 100000) : n ≤ sizeLine := Nat.le_trans h (by decide)
theorem sz100' {n : Nat} (h : n < 100000) : n < sizeLine := Nat.lt_of_lt_of_le h (by decide)
/-! ### the turns of a comprehension -/
/-- ahead of a turn: what is made so far stands at D, told by Acc; H0 lies beneath -/
def LcPv (H0 : Hp) (D : Addr) (Acc : Nat → List V → Hp → Prop) (i : Nat) (H : Hp) : Prop := ∃ ac, Same H0 H ∧ H D = some (.lst ac) ∧ Acc i ac H
/-- behind the element: it is put at D's end -/
def LcK (H0 : Hp) (D : Addr) (Acc : Nat → List V → Hp → Prop) (i : Nat) (y : V) (H : Hp) : Prop := ∃ acc, H D = some (.lst acc) ∧ acc.length < sizeLine ∧ LcPv H0 D Acc (i + 1) (upd H D (.lst (acc ++ [y])))
theorem lc_next {H0 H H4 : Hp} {D : Addr} {Acc : Nat → List V → Hp → Prop} {i : Nat} {y : V} {ac : List V} (hD : H0 D = none) (s : Same H0 H) (t : Same H H4) (e : H D = some (.lst ac)) (hl : ac.length < 100000)
    (a : ∀ H5, Same H0 H5 → H5 D = some (.lst (ac ++ [y])) → (∀ b, b ≠ D → H5 b = H4 b) → Acc (i + 1) (ac ++ [y]) H5) : LcK H0 D Acc i y H4 :=
  ⟨ac, t _ _ e, sz100' hl, ac ++ [y], (s.trans t).mut hD, upd_same, a _ ((s.trans t).mut hD) upd_same fun _ hb => upd_ne hb⟩
theorem lc_skip {H0 H H4 : Hp} {D : Addr} {Acc : Nat → List V → Hp → Prop} {i : Nat} {ac : List V} (s : Same H0 H) (t : Same H H4) (e : H D = some (.lst ac)) (a : Acc (i + 1) ac H4) : LcPv H0 D Acc (i + 1) H4 :=
  ⟨ac, s.trans t, t _ _ e, a⟩
/-- a list comprehension over a walk -/
theorem lc_run {J : It} {n : Nat} {G : Hp → Prop} {Y : Nat → Hp → V → Hp → Prop} (w : Walk J n G Y) {g : TG} {tt : TT} {te : TE} {vs : List Nat} {σ : L2.St} {H0 H1 : Hp} {D : Addr} {Qd : Hp → Prop} (Acc : Nat → List V → Hp → Prop)
    (hS : Same H0 H1) (hD : H1 D = none) (h0 : ∀ H, Same H0 H → Acc 0 [] H) (hG : ∀ H, Same H0 H → G H)
    (hs : ∀ i x ac H H', i < n → H0 D = none → Same H0 H → H D = some (.lst ac) → Acc i ac H → Y i H x H' → g x (wipe σ vs) H' fun σ2 H2 => wipe σ2 vs = wipe σ vs ∧ tt σ2 H2 fun b H3 =>
      if b = true then te σ2 H3 (LcK H0 D Acc i) else LcPv H0 D Acc (i + 1) H3)
    (hd : ∀ ac H, Same H0 H → H D = some (.lst ac) → Acc n ac H → Qd H) :
    ∃ W : Nat → Nat → Hp → Prop, (∃ m, W 0 m (upd H1 D (.lst []))) ∧ ∀ i m H, W i m H →
      (J.stop i H ∧ Qd H) ∨ (J.go i H ∧ ∃ Nx : Hp → Prop, (∀ H', Nx H' → ∃ m', m' < m ∧ W (i + 1) m' H') ∧ ∀ x H', J.yld i H x H' → g x (wipe σ vs) H' fun σ2 H2 => wipe σ2 vs = wipe σ vs ∧ tt σ2 H2 fun b H3 =>
        if b = true then te σ2 H3 fun y H4 => ∃ acc, H4 D = some (.lst acc) ∧ acc.length < sizeLine ∧ Nx (upd H4 D (.lst (acc ++ [y]))) else Nx H3) := by
  have hD0 : H0 D = none := hS.free hD
  refine lc_it w (H1 := H1) (LcPv H0 D Acc) ⟨[], (hS.trans (Same.new hD)), upd_same, h0 _ (hS.trans (Same.new hD))⟩ (fun i H _ ⟨_, s, _⟩ => hG H s) ?_ (fun H ⟨ac, s, e, a⟩ => hd ac H s e a)
  rintro i x H H' hi ⟨ac, s, e, a⟩ y
  exact hs i x ac H H' hi hD0 s e a y
end WS
/-! The layer's rules with the written part named: they fit within a comprehension, too. -/
namespace WS
open PySem PySem.Spec PyProof.Rows L2
section
variable {X : Cx}
/-- sum of a tuple of ints -/
theorem cr_sumT (hc : X.calm = true) : CallR X (.builtin "sum") (fun vs H Q => ∃ (a : Addr) (ns : List Int), vs = [V.ref a] ∧ SqT X.K H a (ns.map V.int) ∧ Q (.int ns.sum) H) := by
  intro pins s σ H vs us Q I r h
  obtain ⟨a, ns, rfl, hs, q⟩ := h
  obtain ⟨its, rv, hl, _⟩ := I.tuple hs
  rw [Vals.ref1 r]
  have hi := rv.ints
  obtain ⟨xs, e⟩ := hi.allInts.items
  have hn : numsOf (intItems xs).toList = ns := by rw [← e]; exact hi.numsOf
  rw [nums_intItems] at hn
  have hl2 : s.heap.IsTuple a (intItems xs) := by rw [← e]; exact hl
  refine PySem.W.ktm_sumG (I.ok.hd hc) hl2 fun h' tk t' hk => ?_
  rw [PySem.preSum_eq, List.take_of_length_le (by simp), hn]
  exact ⟨.int _, H, I.kept hk, ⟨_, rfl⟩, q⟩
section
variable (K : PySem.W.Frag)
theorem ix_listK (hK : X.K = K := by rfl) : IxR X (rIxL K) := by subst hK; exact ix_list
theorem ix_tupK (hK : X.K = K := by rfl) : IxR X (rIxT K) := by subst hK; exact ix_tup
theorem sl_listK (hK : X.K = K := by rfl) : SlR X (rSlL K) := by subst hK; exact sl_list
theorem sl_tupK (hK : X.K = K := by rfl) : SlR X (rSlT K) := by subst hK; exact sl_tup
theorem op_in_seqK (hK : X.K = K := by rfl) : OpR X (compareOp .In) (rIn K false) := by subst hK; exact op_in_seq
theorem op_notIn_seqK (hK : X.K = K := by rfl) : OpR X (compareOp .NotIn) (rIn K true) := by subst hK; exact op_notIn_seq
theorem op_catAK (hK : X.K = K := by rfl) : OpR X (binaryOp .Add) (rCatA K) := by subst hK; exact op_catA
theorem op_eqDK (hu : X.A.units + 64 < cLine) (hK : X.K = K := by rfl) : OpR X (compareOp .Eq) (rEqD K) := by subst hK; exact op_eqD hu
theorem op_neDK (hu : X.A.units + 64 < cLine) (hK : X.K = K := by rfl) : OpR X (compareOp .NotEq) (rNeD K) := by subst hK; exact op_neD hu
def rLenK (K : PySem.W.Frag) : List V → Hp → VK → Prop := fun xs H Q => ∃ p ys, xs = [.ref p] ∧ (SqL K H p ys ∨ SqT K H p ys) ∧ Q (.int ys.length) H
theorem call_len_seqK (hK : X.K = K := by rfl) : CallR X (.builtin "len") (rLenK K) := by subst hK; exact call_len_seq
def rListK (K : PySem.W.Frag) : List V → Hp → VK → Prop := fun xs H Q => ∃ p ys, xs = [.ref p] ∧ (SqL K H p ys ∨ SqT K H p ys) ∧ ∀ l, H l = none → Q (.ref l) (upd H l (.lst ys))
theorem call_list_ofK (hK : X.K = K := by rfl) : CallR X (.type "list") (rListK K) := by subst hK; exact call_list_of
def rTupleK (K : PySem.W.Frag) : List V → Hp → VK → Prop := fun xs H Q => ∃ p ys, xs = [.ref p] ∧ ((SqL K H p ys ∧ ∀ l, H l = none → Q (.ref l) (upd H l (.tup ys))) ∨ (SqT K H p ys ∧ Q (.ref p) H))
theorem call_tuple_ofK (hK : X.K = K := by rfl) : CallR X (.type "tuple") (rTupleK K) := by subst hK; exact call_tuple_of
theorem cr_sumK (hc : X.calm = true) (hK : X.K = K := by rfl) : CallR X (.builtin "sum") (rSum K) := by subst hK; exact cr_sum hc
def rSumT (K : PySem.W.Frag) : List V → Hp → VK → Prop := fun vs H Q => ∃ (a : Addr) (ns : List Int), vs = [V.ref a] ∧ SqT K H a (ns.map V.int) ∧ Q (.int ns.sum) H
theorem cr_sumTK (hc : X.calm = true) (hK : X.K = K := by rfl) : CallR X (.builtin "sum") (rSumT K) := by subst hK; exact cr_sumT hc
theorem cr_anyK (hc : X.calm = true) (hK : X.K = K := by rfl) : CallR X (.builtin "any") (rAny K) := by subst hK; exact cr_any hc
theorem cr_allK (hc : X.calm = true) (hK : X.K = K := by rfl) : CallR X (.builtin "all") (rAll K) := by subst hK; exact cr_all hc
def rDictP (K : PySem.W.Frag) : List V → Hp → VK → Prop := fun xs H Q => ∃ (a : Addr) (ps : List Addr) (kvs : List (Key × V)), xs = [.ref a] ∧ SqL K H a (ps.map V.ref) ∧ Paired (fun p kv => SqT K H p [kV kv.1, kv.2]) ps kvs ∧
  ∀ p, H p = none → Q (.ref p) (upd H p (.dK (mergeK [] kvs)))
theorem call_dictPK (hc : X.calm = true) (hK : X.K = K := by rfl) : CallR X (.type "dict") (rDictP K) := by subst hK; exact call_dictP hc
theorem cr_sortedIK (hK : X.K = K := by rfl) : CallR X (.builtin "sorted") (rSortedI K) := by subst hK; exact cr_sortedI
theorem cr_sortedSK (hK : X.K = K := by rfl) : CallR X (.builtin "sorted") (rSortedS K) := by subst hK; exact cr_sortedS
theorem call_isiK (hK : X.K = K := by rfl) : CallR X (.builtin "isinstance") (rIsi K) := by subst hK; exact call_isi
end
section
variable (K : PySem.W.Frag)
theorem pe_fldK {e : Expr} {f : Str} {pos : Pos} {ta : TE} (he : PE X e ta) (hb : attributeBase e f X.env (eval e X.env) = eval e X.env) (hK : X.K = K := by rfl) : PE X (.Attribute e f pos) (tFld K ta f) := by
  subst hK; exact pe_fld he hb
theorem pe_bmK {T id : String} {name : Str} {apos cpos : Pos} {o e : Expr} {es : List Expr} {to : TE} {t : TA} {r : V → List V → Hp → VK → Prop} (pa : PlainAttrs T) (slot : Slot T name id) (hty : typeOf (.builtin id) = pure (.type "method_descriptor")) (hm : MtR X id r) (ho : PE X o to) (ha : PA X (e :: es) t)
    (hK : X.K = K := by rfl) (h1 : attributeBase o name X.env (eval o X.env) = eval o X.env := by rfl)
    (h5 : ((backTo cpos (starEach (e :: es) X.env)).all (fun x => !x.1) && (backToKw cpos (keywordEach [] X.env)).all (fun x => x.1.isSome) && decide ((e :: es).length + ([] : List Keyword).length + (if ([] : List Keyword).isEmpty then 0 else 1) < 30)) = true := by rfl)
    (h2 : (apos.endLine == cpos.line) = true := by rfl) (h3 : starEach (e :: es) X.env = (false, eval e X.env) :: starEach es X.env := by rfl) (h4 : (backTo cpos (starEach es X.env)).any (·.1) = false := by rfl) :
    PE X (.Call (.Attribute o name apos) (e :: es) [] cpos) (tBM K T r to t) := by
  subst hK; exact pe_bm pa slot hty hm ho ha h1 h5 h2 h3 h4
theorem pi_listK {tg l : Expr} {tl : TE} (hl : PE X l tl) (hK : X.K = K := by rfl) : PI X tg l (iList K tl) := by subst hK; exact pi_list hl
theorem pi_tupK {tg l : Expr} {tl : TE} (hl : PE X l tl) (hK : X.K = K := by rfl) : PI X tg l (iTup K tl) := by subst hK; exact pi_tup hl
theorem pg_tupK (n : Nat) {es : List Expr} {k : Nat} {t : TGs} {pos : Pos} (hc : X.calm = true) (h : PGs X es t) (hn : (assignEach es X.env).length = n := by rfl) (hst : (assignEach es X.env).findIdx? (·.1) = none := by rfl) (hK : X.K = K := by rfl) :
    PG X (.Tuple es k pos) (gTup K n t) := by
  subst hK; exact pg_tup hc h hn hst
theorem pi_enumK {e : Expr} {ta : TA} {p pos tpos : Pos} {elts : List Expr} {kk : Nat} (hg : Gl X "enumerate") (hm : X.mg "enumerate" = none) (ha : PA X [e] ta) (hs : starEach [e] X.env = [(false, eval e X.env)] := by rfl) (hK : X.K = K := by rfl) :
    PI X (.Tuple elts kk tpos) (.Call (.Name "enumerate" p) [e] [] pos) (iEnum K ta) := by subst hK; exact pi_enum hg hm ha hs
theorem pi_zipK {e e2 : Expr} {ta : TA} {p pos tpos : Pos} {elts : List Expr} {kk : Nat} (hg : Gl X "zip") (hm : X.mg "zip" = none) (ha : PA X [e, e2] ta)
    (hs : starEach [e, e2] X.env = (false, eval e X.env) :: starEach [e2] X.env := by rfl) (hpl : (backTo pos (starEach [e2] X.env)).any (·.1) = false := by rfl) (hK : X.K = K := by rfl) :
    PI X (.Tuple elts kk tpos) (.Call (.Name "zip" p) [e, e2] [] pos) (iZip K ta) := by subst hK; exact pi_zip hg hm ha hs hpl
theorem pi_zipAK {e e2 : Expr} {ta : TA} {p pos tpos : Pos} {elts : List Expr} {kk : Nat} (hg : Gl X "zip") (hm : X.mg "zip" = none) (ha : PA X [e, e2] ta)
    (hs : starEach [e, e2] X.env = (false, eval e X.env) :: starEach [e2] X.env := by rfl) (hpl : (backTo pos (starEach [e2] X.env)).any (·.1) = false := by rfl) (hK : X.K = K := by rfl) :
    PI X (.Tuple elts kk tpos) (.Call (.Name "zip" p) [e, e2] [] pos) (RZ.iZipA K ta) := by subst hK; exact RZ.pi_zipA hg hm ha hs hpl
end
/-- an item of a list, where it is changed in its place -/
def rGetL (K : PySem.W.Frag) : V → V → Hp → VK → Prop := fun x y H Q => ∃ p xs j v, x = .ref p ∧ y = .int ((j : Nat) : Int) ∧ SqL K H p xs ∧ xs[j]? = some v ∧ Q v H
theorem get_listK (K : PySem.W.Frag) (hK : X.K = K := by rfl) : PGet X (rGetL K) := by
  subst hK
  intro pins s σ H o i ov iv Q I ro ri h
  obtain ⟨p, xs, j, v, rfl, rfl, hq, hj, q⟩ := h
  cases ro
  obtain ⟨t, rfl⟩ := ri
  obtain ⟨its, r, pl, hz⟩ := I.list hq
  obtain ⟨u, ew, rw'⟩ := r.get hj
  have hl := r.length
  have hn := line63
  have hjl : j < xs.length := (List.getElem?_eq_some_iff.mp hj).1
  exact wpAny_getItem_list pl.isList (by omega) (by omega) (by simpa using ew) ⟨v, H, I, rw', q⟩
end
end WS
/-! Days and turns. -/
namespace WS
open PySem PySem.Spec PyProof.Rows L2
open C8 (pe_gc pe_c pe_mk pe_mt pe_mt0)
structure Txt (K : PySem.W.Frag) (mg : Str → Option Value) (CM CH CV aL : Addr) : Prop where
  b_all : mg "all" = none
  b_any : mg "any" = none
  b_bool : mg "bool" = none
  b_dict : mg "dict" = none
  b_divmod : mg "divmod" = none
  b_enumerate : mg "enumerate" = none
  b_int : mg "int" = none
  b_isinstance : mg "isinstance" = none
  b_len : mg "len" = none
  b_list : mg "list" = none
  b_max : mg "max" = none
  b_min : mg "min" = none
  b_range : mg "range" = none
  b_sorted : mg "sorted" = none
  b_str : mg "str" = none
  b_sum : mg "sum" = none
  b_tuple : mg "tuple" = none
  b_zip : mg "zip" = none
  g_FAR : ∃ u, mg "FAR" = some u ∧ RelV (.int 1000000000000) u
  g_MOVED_PRICE : ∃ u, mg "MOVED_PRICE" = some u ∧ RelV (.int 100) u
  g_LACK_PRICES : ∃ u, mg "LACK_PRICES" = some u ∧ RelV (.ref aL) u
  g_MOST_HANDS : ∃ u, mg "MOST_HANDS" = some u ∧ RelV (.int 12) u
  g_MOST_SKILLS : ∃ u, mg "MOST_SKILLS" = some u ∧ RelV (.int 4) u
  lp : ∀ H, SqT K H aL [.int 10000, .int 1000000, .int 100000000]
  cls_Manning : Cls K CM
  mg_Manning : mg "Manning" = some (.ref CM)
  na_Manning_wanted : NoAttr K CM "wanted"
  na_Manning_bounty : NoAttr K CM "bounty"
  na_Manning_costs : NoAttr K CM "costs"
  na_Manning_spots : NoAttr K CM "spots"
  na_Manning_named : NoAttr K CM "named"
  cls_Holding : Cls K CH
  mg_Holding : mg "Holding" = some (.ref CH)
  na_Holding_sections : NoAttr K CH "sections"
  na_Holding_hands_by : NoAttr K CH "hands_by"
  na_Holding_billed : NoAttr K CH "billed"
  na_Holding_words_kept : NoAttr K CH "words_kept"
  na_Holding_ill : NoAttr K CH "ill"
  na_Holding_wanted : NoAttr K CH "wanted"
  na_Holding_words_up : NoAttr K CH "words_up"
  cls_Voyage : Cls K CV
  mg_Voyage : mg "Voyage" = some (.ref CV)
  na_Voyage_ship_here : NoAttr K CV "ship_here"
  na_Voyage_coming : NoAttr K CV "coming"
  na_Voyage_holding : NoAttr K CV "holding"
  na_Voyage_bell_now : NoAttr K CV "bell_now"
  na_Voyage_station_by : NoAttr K CV "station_by"
  na_Voyage_was_at : NoAttr K CV "was_at"
  na_Voyage_told_now : NoAttr K CV "told_now"
  d_bells_in : Def K mg "bells_in" s_bells_in
  d_watch_at : Def K mg "watch_at" s_watch_at
  d_cycle_from : Def K mg "cycle_from" s_cycle_from
  d_cycles : Def K mg "cycles" s_cycles
  d_divisor : Def K mg "divisor" s_divisor
  d_round_of : Def K mg "round_of" s_round_of
  d_order_at : Def K mg "order_at" s_order_at
  d_kept_by : Def K mg "kept_by" s_kept_by
  d_keeper : Def K mg "keeper" s_keeper
  d_short : Def K mg "short" s_short
  d_is_fit : Def K mg "is_fit" s_is_fit
  d_lack_price : Def K mg "lack_price" s_lack_price
  d_cost_of : Def K mg "cost_of" s_cost_of
  d_costs_of : Def K mg "costs_of" s_costs_of
  i_Manning : IDef K CM "Manning.__init__" s_Manning_init
  md_Manning_fit_places : MDef K CM "fit_places" "Manning.fit_places" s_Manning_fit_places
  md_Manning_relax : MDef K CM "relax" "Manning.relax" s_Manning_relax
  md_Manning_cheapest : MDef K CM "cheapest" "Manning.cheapest" s_Manning_cheapest
  md_Manning_put_along : MDef K CM "put_along" "Manning.put_along" s_Manning_put_along
  md_Manning_fill : MDef K CM "fill" "Manning.fill" s_Manning_fill
  md_Manning_hand_down : MDef K CM "hand_down" "Manning.hand_down" s_Manning_hand_down
  md_Manning_place_down : MDef K CM "place_down" "Manning.place_down" s_Manning_place_down
  md_Manning_levelled : MDef K CM "levelled" "Manning.levelled" s_Manning_levelled
  md_Manning_paper : MDef K CM "paper" "Manning.paper" s_Manning_paper
  d_man : Def K mg "man" s_man
  d_names_in : Def K mg "names_in" s_names_in
  d_in_order : Def K mg "in_order" s_in_order
  i_Holding : IDef K CH "Holding.__init__" s_Holding_init
  md_Holding_put_in : MDef K CH "put_in" "Holding.put_in" s_Holding_put_in
  md_Holding_take_in : MDef K CH "take_in" "Holding.take_in" s_Holding_take_in
  md_Holding_of_hand : MDef K CH "of_hand" "Holding.of_hand" s_Holding_of_hand
  md_Holding_mustered : MDef K CH "mustered" "Holding.mustered" s_Holding_mustered
  d_muster : Def K mg "muster" s_muster
  d_with_many : Def K mg "with_many" s_with_many
  d_places_of : Def K mg "places_of" s_places_of
  d_where_of : Def K mg "where_of" s_where_of
  i_Voyage : IDef K CV "Voyage.__init__" s_Voyage_init
  md_Voyage_come_to : MDef K CV "come_to" "Voyage.come_to" s_Voyage_come_to
  md_Voyage_lot_of_watch : MDef K CV "lot_of_watch" "Voyage.lot_of_watch" s_Voyage_lot_of_watch
  md_Voyage_by_bill : MDef K CV "by_bill" "Voyage.by_bill" s_Voyage_by_bill
  md_Voyage_held_by : MDef K CV "held_by" "Voyage.held_by" s_Voyage_held_by
  md_Voyage_lot_of_calls : MDef K CV "lot_of_calls" "Voyage.lot_of_calls" s_Voyage_lot_of_calls
  md_Voyage_by_calls : MDef K CV "by_calls" "Voyage.by_calls" s_Voyage_by_calls
  md_Voyage_asked_now : MDef K CV "asked_now" "Voyage.asked_now" s_Voyage_asked_now
  md_Voyage_go_on : MDef K CV "go_on" "Voyage.go_on" s_Voyage_go_on
  d_come_so_far : Def K mg "come_so_far" s_come_so_far
  d_asked : Def K mg "asked" s_asked
  d_held : Def K mg "held" s_held
  d_posted : Def K mg "posted" s_posted
  d_sit : Def K mg "sit" s_sit
  d_fullest : Def K mg "fullest" s_fullest
  d_come_to : Def K mg "come_to" s_come_to
  d_lacking : Def K mg "lacking" s_lacking
  d_law_hand : Def K mg "_law_hand" s_law_hand
  d_law_take : Def K mg "_law_take" s_law_take
  d_law_of : Def K mg "_law_of" s_law_of
  d_law_order : Def K mg "_law_order" s_law_order
  d_law_names : Def K mg "_law_names" s_law_names
  d_law_lot : Def K mg "_law_lot" s_law_lot
  d_law_roll : Def K mg "_law_roll" s_law_roll
  d_law_ship : Def K mg "_law_ship" s_law_ship
  d_law_change : Def K mg "_law_change" s_law_change
  d_law_pages : Def K mg "_law_pages" s_law_pages
  d_law_is_fit : Def K mg "_law_is_fit" s_law_is_fit
  d_law_cost : Def K mg "_law_cost" s_law_cost
  d_law_are_posts : Def K mg "_law_are_posts" s_law_are_posts
  d_law_price : Def K mg "_law_price" s_law_price
  d_law_whole : Def K mg "_law_whole" s_law_whole
  d_law_paper_right : Def K mg "_law_paper_right" s_law_paper_right
  d_law_cut_right : Def K mg "_law_cut_right" s_law_cut_right
  d_law_row_due : Def K mg "_law_row_due" s_law_row_due
  d_law_bell_right : Def K mg "_law_bell_right" s_law_bell_right
  d_law : Def K mg "law" s_law

/-! ### the mathematics -/
def watF : List Int → Int → Nat
  | [], _ => 0
  | d :: r, b => if b ≥ d then 1 + watF r (b - d) else 0
def watL : List Int → Int → Int
  | [], b => b
  | d :: r, b => if b ≥ d then watL r (b - d) else b
theorem watF_lt : ∀ {day : List Int} {b : Int}, 0 ≤ b → b < day.sum → watF day b < day.length
  | [], b, h0, h => by
    have : b < 0 := h
    omega
  | d :: r, b, h0, h => by
    rw [List.sum_cons] at h
    unfold watF
    split
    · have := watF_lt (day := r) (b := b - d) (by omega) (by omega)
      simp only [List.length_cons]
      omega
    · simp
def nxT (t : List Int) (c : Int) : Int := t.getD c.toNat 0
def cycF (t : List Int) (f : Int) : List Int :=
  if nxT t f = f then [f] else if nxT t (nxT t f) = f then [f, nxT t f] else [f, nxT t f, nxT t (nxT t f)]
def goodTurns : List (List Int) := [[0], [0, 1], [1, 0], [0, 1, 2], [0, 2, 1], [1, 0, 2], [1, 2, 0], [2, 0, 1], [2, 1, 0]]
abbrev KD := List (Key × V)
def metF (m : KD) (c : List Int) : KD := c.foldl (fun m n => putK m (.inl n) (.bl true)) m
def cycStep (t : List Int) (x : List (List Int) × KD) (f : Int) : List (List Int) × KD :=
  if (valV x.2 (.inl f)).isSome then x else (x.1 ++ [cycF t f], metF x.2 (cycF t f))
def cycsF (t : List Int) : List (List Int) := (((List.range t.length).map fun (i : Nat) => (i : Int)).foldl (cycStep t) ([], [])).1
def rndF (t : List Int) : Nat := (cycsF t).foldl (fun d c => Nat.lcm d c.length) 1
def ordN (t : List Int) : Nat → List Int
  | 0 => (List.range t.length).map fun (i : Nat) => (i : Int)
  | n + 1 => t.map fun p => (ordN t n).getD p.toNat 0
def ordF (t : List Int) (day : Int) : List Int := ordN t (day % (rndF t : Int)).toNat
def keptF (t : List Int) (number watch : Int) : Int := (ordF t number).getD (watch % (t.length : Int)).toNat 0
def keeperF (day t : List Int) (bell : Int) : Int := keptF t (bell / day.sum) (watF day (bell % day.sum))

/-! ### the promises -/
def spBells (K : PySem.W.Frag) : Sp := fun vs H Q _ => ∃ (v : V) (day : List Int), vs = [v] ∧ Dt K H v (.tuple (day.map .int)) ∧ Q (.int day.sum) H
def GoodDay (day : List Int) : Prop := day ≠ [] ∧ (∀ d, d ∈ day → 1 ≤ d ∧ d ≤ 8) ∧ day.length ≤ 8
def spWatch (K : PySem.W.Frag) : Sp := fun vs H Q _ => ∃ (v : V) (day : List Int) (bell : Int), vs = [v, .int bell] ∧ Dt K H v (.tuple (day.map .int)) ∧ GoodDay day ∧ 0 ≤ bell ∧
  ∀ H' p, Same H H' → SqT K H' p [.int (bell / day.sum), .int (watF day (bell % day.sum)), .int (watL day (bell % day.sum))] → Q (.ref p) H'
theorem sum_bd : ∀ {day : List Int}, (∀ d, d ∈ day → 1 ≤ d ∧ d ≤ 8) → (day.length : Int) ≤ day.sum ∧ day.sum ≤ 8 * day.length
  | [], _ => by simp
  | d :: r, h => by
    have ih := sum_bd (day := r) fun x hx => h x (by simp [hx])
    have := h d (by simp)
    rw [List.sum_cons, List.length_cons]
    omega
section
variable {P : Program} {w : World} {K : PySem.W.Frag} {mg : Str → Option Value} {base : Heap} {CM CH CV aL : Addr}
theorem sc_bells_in : FnScope ["day"] ["day"] (defScope s_bells_in) := ⟨rfl, rfl, rfl, by decide +kernel, rfl, by decide +kernel, by decide +kernel⟩
theorem c_bells_in (T : Txt K mg CM CH CV aL) : Cal P w K mg base 1 "bells_in" (spBells K) := by
  refine cal_of T.d_bells_in (fun _ _ _ _ _ _ us hl => match us, hl with | [_], _ => rfl) sc_bells_in (fun vs H Q E h => ?_) (fun f cdv A outer s H vs Q E hr h => ?_)
  · obtain ⟨_, _, rfl, _⟩ := h; rfl
  · obtain ⟨v, day, rfl, hd, k⟩ := h
    obtain ⟨a, xs, rfl, h1, h2⟩ := hd.tup_inv
    have e := h2.ints_inv
    subst e
    refine ⟨_, (pss_one (ps_ret (pe_callB (cr_sumTK K rfl) (by rfl) T.b_sum (by decide +kernel) (pa_cons (pv 0) pa_nil)))), ?_⟩
    exact ⟨_, rfl, a, day, rfl, h1, k⟩
theorem sc_watch_at : FnScope ["day", "bell", "number", "left", "watch"] ["day", "bell"] (defScope s_watch_at) := ⟨rfl, rfl, rfl, by decide +kernel, rfl, by decide +kernel, by decide +kernel⟩
theorem c_watch_at (T : Txt K mg CM CH CV aL) : Cal P w K mg base 2 "watch_at" (spWatch K) := by
  have c_bells_in := c_bells_in (P := P) (w := w) (base := base) T
  refine cal_of T.d_watch_at (fun _ _ _ _ _ _ us hl => match us, hl with | [_, _], _ => rfl) sc_watch_at (fun vs H Q E h => ?_) (fun f cdv A outer s H vs Q E hr h => ?_)
  · obtain ⟨_, _, _, rfl, _⟩ := h; rfl
  · obtain ⟨v, day, bell, rfl, hd, ⟨g0, g1, g2⟩, hb, k⟩ := h
    obtain ⟨a, xs, rfl, h1, h2⟩ := hd.tup_inv
    have e := h2.ints_inv
    subst e
    obtain ⟨s1, s2⟩ := sum_bd g1
    have hl : 0 < day.length := List.length_pos_iff.mpr g0
    refine ⟨_, (pss_cons (ps_asg (pe_callB call_divmod (by rfl) T.b_divmod (by decide +kernel) (pa_cons (pv 1) (pa_cons (pe_c c_bells_in hr (by decide) rfl (pa_cons (pv 0) pa_nil)) pa_nil))) (pg_tupK K 2 rfl (pgs_cons (pg_name (i := 2) sc_watch_at.nd rfl (Or.inl rfl)) (pgs_cons (pg_name (i := 3) sc_watch_at.nd rfl (Or.inl rfl)) pgs_nil))))
    (pss_cons (ps_set (i := 4) sc_watch_at.nd rfl (Or.inl rfl) pe_int)
    (pss_cons (ps_while PassesOwn.never (pt_cmpR op_ge (pv 3) (pe_ix (ix_tupK K) (pv 0) (pv 4) (fun _ _ => rfl)) (nomark _)) (pss_cons (ps_aug (i := 3) sc_watch_at.nd rfl (Or.inl rfl) (pe_ix (ix_tupK K) (pv 0) (pv 4) (fun _ _ => rfl)) ip_sub)
    (pss_one (ps_aug (i := 4) sc_watch_at.nd rfl (Or.inl rfl) pe_int ip_add))))
    (pss_one (ps_ret (pe_tup (pa_cons (pv 2) (pa_cons (pv 4) (pa_cons (pv 3) pa_nil))))))))), ?_⟩
    refine ⟨_, rfl, _, rfl, _, day, rfl, hd, _, _, rfl, ⟨by omega, by omega⟩, fun p hp => newG hp fun H1 S1 e1 => ?_⟩
    refine ⟨_, _, rfl, sqt_of e1, rfl, _, _, rfl, _, _, rfl, rfl, ?_⟩
    have hlt : bell % day.sum < day.sum := Int.emod_lt_of_pos _ (by omega)
    have hge : 0 ≤ bell % day.sum := Int.emod_nonneg _ (by omega)
    refine wh_go (m := day.length) (fun m σ H => ∃ (j : Nat) (l : Int), m = day.length - j ∧ σ = [some (.ref a), some (.int bell), some (.int (bell / day.sum)), some (.int l), some (.int (j : Int))] ∧ H = H1 ∧ 0 ≤ l ∧ l < (day.drop j).sum ∧
        watF day (bell % day.sum) = j + watF (day.drop j) l ∧ watL day (bell % day.sum) = watL (day.drop j) l) ⟨0, bell % day.sum, rfl, rfl, rfl, hge, hlt, by simp, by simp⟩ ?_
    rintro m σ H2 ⟨j, l, rfl, rfl, rfl, hl0, hl2, hw, hw2⟩
    have key : ∃ d, day[j]? = some d ∧ day.drop j = d :: day.drop (j + 1) := by
      rcases Nat.lt_or_ge j day.length with z | z
      · exact ⟨day[j], List.getElem?_eq_getElem z, (List.drop_eq_getElem_cons z)⟩
      · exfalso
        rw [List.drop_eq_nil_of_le z, List.sum_nil] at hl2
        omega
    obtain ⟨d, hdj, hdr⟩ := key
    have hjl : j < day.length := (List.getElem?_eq_some_iff.mp hdj).1
    rw [hdr] at hl2 hw hw2
    rw [List.sum_cons] at hl2
    have ixd : atI (day.map V.int) (j : Int) = some (.int d) := at_of rfl (by rw [List.getElem?_map, hdj]; rfl)
    refine ⟨_, rfl, _, rfl, _, rfl, a, _, _, .int d, rfl, rfl, S1.tup h1, ixd, _, _, rfl, rfl, _, rfl, ?_⟩
    refine ite2 (fun c => ?_) (fun c => ?_)
    · have c : d ≤ l := of_decide_eq_true c
      refine ⟨fun σ' H' => ∃ m', m' < day.length - j ∧ _, fun _ _ h => h, ?_⟩
      refine ⟨_, rfl, _, rfl, _, rfl, a, _, _, .int d, rfl, rfl, S1.tup h1, ixd, l, d, rfl, rfl, ?_⟩
      refine ⟨_, rfl, _, _, rfl, rfl, ?_⟩
      refine ⟨day.length - (j + 1), by omega, j + 1, l - d, rfl, rfl, rfl, by omega, by omega, ?_, ?_⟩
      · rw [hw]; simp only [watF]; rw [if_pos c]; omega
      · rw [hw2]; simp only [watL]; rw [if_pos c]
    · have c : ¬ d ≤ l := fun z => c (decide_eq_true z)
      refine ⟨_, rfl, _, rfl, _, rfl, by show 3 ≤ sizeLine; decide, fun p2 hp2 => newG hp2 fun H3 S3 e3 => ?_⟩
      refine k _ _ (S1.trans S3) (sqt_of ?_)
      rw [e3, hw, hw2]
      simp only [watF, watL]
      rw [if_neg c, if_neg c]
      rfl
/-! ### turns -/
def spCyc (K : PySem.W.Frag) : Sp := fun vs H Q _ => ∃ (v : V) (t : List Int) (f : Int), vs = [v, .int f] ∧ Dt K H v (.tuple (t.map .int)) ∧ t ∈ goodTurns ∧ 0 ≤ f ∧ f < t.length ∧
  ∀ H' p, Same H H' → SqT K H' p ((cycF t f).map V.int) → Q (.ref p) H'
theorem nx_ok : ∀ t, t ∈ goodTurns → ∀ f : Nat, f < t.length → (0 ≤ nxT t f ∧ nxT t f < t.length) ∧ (nxT t (nxT t (nxT t f)) = f ∨ nxT t (nxT t f) = f) := by
  intro t ht
  simp only [goodTurns, List.mem_cons, List.not_mem_nil, or_false] at ht
  rcases ht with rfl | rfl | rfl | rfl | rfl | rfl | rfl | rfl | rfl <;> (intro f hf; revert f hf; decide)
theorem nx_okI {t : List Int} (ht : t ∈ goodTurns) {f : Int} (h0 : 0 ≤ f) (h1 : f < t.length) : (0 ≤ nxT t f ∧ nxT t f < t.length) ∧ (nxT t (nxT t (nxT t f)) = f ∨ nxT t (nxT t f) = f) := by
  have := nx_ok t ht f.toNat (by omega)
  rw [Int.toNat_of_nonneg h0] at this
  exact this
theorem nx_at {t : List Int} {c : Int} (h0 : 0 ≤ c) (h1 : c < t.length) : atI (t.map V.int) c = some (.int (nxT t c)) := by
  have e : c = ((c.toNat : Nat) : Int) := (Int.toNat_of_nonneg h0).symm
  refine at_of e ?_
  have hl : c.toNat < t.length := by omega
  rw [List.getElem?_map, List.getElem?_eq_getElem hl]
  unfold nxT
  rw [List.getD_eq_getElem?_getD, List.getElem?_eq_getElem hl]
  rfl
theorem sc_cycle_from : FnScope ["turn", "first", "cycle"] ["turn", "first"] (defScope s_cycle_from) := ⟨rfl, rfl, rfl, by decide +kernel, rfl, by decide +kernel, by decide +kernel⟩
theorem c_cycle_from (T : Txt K mg CM CH CV aL) : Cal P w K mg base 1 "cycle_from" (spCyc K) := by
  refine cal_of T.d_cycle_from (fun _ _ _ _ _ _ us hl => match us, hl with | [_, _], _ => rfl) sc_cycle_from (fun vs H Q E h => ?_) (fun f cdv A outer s H vs Q E hr h => ?_)
  · obtain ⟨_, _, _, rfl, _⟩ := h; rfl
  · obtain ⟨v, t, fi, rfl, hd, ht, f0, f1, k⟩ := h
    obtain ⟨a, xs, rfl, h1, h2⟩ := hd.tup_inv
    have e := h2.ints_inv
    subst e
    refine ⟨_, (pss_cons (ps_set (i := 2) sc_cycle_from.nd rfl (Or.inl rfl) (pe_lst (pa_cons (pv 1) pa_nil)))
    (pss_cons (ps_while PassesOwn.never (pt_cmpR op_ne (pe_ix (ix_tupK K) (pv 0) (pe_ix (ix_listK K) (pv 2) (pe_un un_neg pe_int) (fun _ _ => rfl)) (fun _ _ => rfl)) (pv 1) (nomark _)) (pss_one (ps_expr (pe_bmK K PySem.F.plainAttrs_list PySem.F.slot_list_append PySem.F.type_list_append mt_append (pv 2) (pa_cons (pe_ix (ix_tupK K) (pv 0) (pe_ix (ix_listK K) (pv 2) (pe_un un_neg pe_int) (fun _ _ => rfl)) (fun _ _ => rfl)) pa_nil)))))
    (pss_one (ps_ret (pe_callTy (call_tuple_ofK K) (by rfl) T.b_tuple (by decide +kernel) (pa_cons (pv 2) pa_nil)))))), ?_⟩
    refine ⟨_, rfl, by show 1 ≤ sizeLine; decide, fun p hp => ?_⟩
    obtain ⟨⟨a0, a1⟩, a2⟩ := nx_okI ht f0 f1
    obtain ⟨⟨b0, b1⟩, b2⟩ := nx_okI ht a0 a1
    refine wh_go (m := 2) (fun m σ H1 => ∃ (cs : List Int) (c : Int), m = 3 - cs.length ∧ σ = [some (.ref a), some (.int fi), some (.ref p)] ∧ Same H H1 ∧ H1 p = some (.lst (cs.map V.int)) ∧ cs.getLast? = some c ∧ 0 < cs.length ∧ cs.length ≤ 3 ∧ 0 ≤ c ∧ c < t.length ∧
      (nxT t c = fi → cs = cycF t fi) ∧ (nxT t c ≠ fi → cs.length < 3 ∧ ((cs ++ [nxT t c]).length < 3 ∨ nxT t (nxT t c) = fi) ∧ (nxT t (nxT t c) = fi → cs ++ [nxT t c] = cycF t fi) ∧ (nxT t (nxT t c) ≠ fi → nxT t (nxT t (nxT t c)) = fi ∧ (cs ++ [nxT t c]) ++ [nxT t (nxT t c)] = cycF t fi)))
      ⟨[fi], fi, rfl, rfl, Same.new hp, upd_same, rfl, by simp, by simp, f0, f1, ?_, ?_⟩ ?_
    · intro e; unfold cycF; rw [if_pos e]
    · intro e
      refine ⟨by simp, .inl (by simp), fun e2 => ?_, fun e2 => ⟨?_, ?_⟩⟩
      · unfold cycF; rw [if_neg e, if_pos e2]; rfl
      · rcases a2 with z | z
        · exact z
        · exact absurd z e2
      · unfold cycF; rw [if_neg e, if_neg e2]; rfl
    · rintro m σ H1 ⟨cs, c, rfl, rfl, S1, e1, hlast, hl0, hl3, c0, c1, hA, hB⟩
      obtain ⟨⟨n0, n1⟩, _⟩ := nx_okI ht c0 c1
      have ixl : atI (cs.map V.int) (-1) = some (.int c) := by
        rw [List.getLast?_eq_getElem?] at hlast
        unfold atI ixN
        rw [if_neg (by decide), if_pos (by rw [List.length_map]; omega)]
        have : (-1 + ((cs.map V.int).length : Int)).toNat = cs.length - 1 := by rw [List.length_map]; omega
        rw [this]
        show (cs.map V.int)[cs.length - 1]? = _
        rw [List.getElem?_map, hlast]
        rfl
      refine ⟨_, rfl, _, rfl, _, rfl, p, _, _, _, rfl, rfl, sql_of e1, ixl, a, _, _, _, rfl, rfl, S1.tup h1, nx_at c0 c1, _, rfl, rfl, _, rfl, ?_⟩
      refine ite2 (fun q => ?_) (fun q => ?_)
      · have q : nxT t c ≠ fi := by
          intro z
          rw [z] at q
          simp at q
        obtain ⟨g1, g2, g3, g4⟩ := hB q
        refine ⟨fun σ' H' => ∃ m', m' < 3 - cs.length ∧ _, fun _ _ h => h, ?_⟩
        refine ⟨_, rfl, .inl ⟨rfl, _, sql_of e1⟩, _, rfl, _, rfl, _, rfl, p, _, _, _, rfl, rfl, sql_of e1, ixl, a, _, _, _, rfl, rfl, S1.tup h1, nx_at c0 c1, p, _, _, rfl, rfl, e1, sz100' (by rw [List.length_map]; omega), ?_⟩
        refine ⟨3 - (cs.length + 1), by omega, cs ++ [nxT t c], nxT t c, by simp, rfl, S1.mut hp, ?_, by simp, by simp, by simp; omega, n0, n1, g3, ?_⟩
        · rw [upd_same, List.map_append]; rfl
        · intro z
          obtain ⟨y1, y2⟩ := g4 z
          have y3 : (cs ++ [nxT t c]).length < 3 := g2.resolve_right z
          exact ⟨y3, .inr y1, fun _ => y2, fun z2 => absurd y1 z2⟩
      · have q : nxT t c = fi := by
          apply Classical.byContradiction
          intro z
          apply q
          simp [z]
        refine ⟨_, rfl, p, _, rfl, .inl ⟨sql_of e1, fun l hl => newG hl fun H2 S2 e2 => ?_⟩⟩
        refine k _ _ (S1.trans S2) (sqt_of ?_)
        rw [e2, hA q]
end
end WS
/-! Cycles, rounds, orders, keepers. -/
namespace WS
open PySem PySem.Spec PyProof.Rows L2
open C8 (pe_gc pe_c pe_mk pe_mt pe_mt0)
theorem not_tup_dK {H : Hp} {p : Addr} {kvs : List (Key × V)} (h : H p = some (.dK kvs)) : ∀ xs, ¬ Rd H p (.tup xs) := fun xs e => by
  rcases e with e | ⟨_, e⟩ <;> (rw [h] at e; cases e)
theorem putK_len (kvs : KD) (k : Key) (v : V) : (putK kvs k v).length ≤ kvs.length + 1 := by
  unfold putK
  split
  · rw [List.length_map]; omega
  · simp
theorem metF_len : ∀ (c : List Int) (m : KD), (metF m c).length ≤ m.length + c.length
  | [], m => by simp [metF]
  | n :: c, m => by
    have h1 := metF_len c (putK m (.inl n) (.bl true))
    have h2 := putK_len m (.inl n) (.bl true)
    show (metF (putK m (.inl n) (.bl true)) c).length ≤ _
    simp only [List.length_cons]
    omega
theorem cycF_len (t : List Int) (f : Int) : 1 ≤ (cycF t f).length ∧ (cycF t f).length ≤ 3 := by
  unfold cycF
  split
  · simp
  · split <;> simp
def cycAt (t : List Int) (i : Nat) : List (List Int) × KD := (((List.range i).map fun (i : Nat) => (i : Int))).foldl (cycStep t) ([], [])
theorem cycAt_succ (t : List Int) (i : Nat) : cycAt t (i + 1) = cycStep t (cycAt t i) (i : Int) := by
  unfold cycAt
  rw [List.range_succ, List.map_append, List.foldl_append]
  rfl
theorem cycAt_ok (t : List Int) : ∀ i, (cycAt t i).1.length ≤ i ∧ (cycAt t i).2.length ≤ 3 * i ∧ ∀ c, c ∈ (cycAt t i).1 → 1 ≤ c.length ∧ c.length ≤ 3
  | 0 => ⟨Nat.le_refl _, Nat.le_refl _, fun c h => by cases h⟩
  | i + 1 => by
    obtain ⟨h1, h2, h3⟩ := cycAt_ok t i
    rw [cycAt_succ]
    unfold cycStep
    split
    · exact ⟨by omega, by omega, h3⟩
    · have := metF_len (cycF t i) (cycAt t i).2
      have := cycF_len t i
      refine ⟨by simp; omega, by simp; omega, fun c hc => ?_⟩
      rcases List.mem_append.mp hc with hc | hc
      · exact h3 c hc
      · rw [List.mem_singleton.mp hc]; exact cycF_len t i
theorem good_len {t : List Int} (h : t ∈ goodTurns) : 1 ≤ t.length ∧ t.length ≤ 3 := by
  simp only [goodTurns, List.mem_cons, List.not_mem_nil, or_false] at h
  rcases h with rfl | rfl | rfl | rfl | rfl | rfl | rfl | rfl | rfl <;> decide
theorem good_in {t : List Int} (h : t ∈ goodTurns) {p : Int} (hp : p ∈ t) : 0 ≤ p ∧ p < t.length := by
  simp only [goodTurns, List.mem_cons, List.not_mem_nil, or_false] at h
  rcases h with rfl | rfl | rfl | rfl | rfl | rfl | rfl | rfl | rfl <;> (revert p; decide)
def encC (c : List Int) : PyData := .tuple (c.map .int)
def spCycs (K : PySem.W.Frag) : Sp := fun vs H Q _ => ∃ (v : V) (t : List Int), vs = [v] ∧ Dt K H v (.tuple (t.map .int)) ∧ t ∈ goodTurns ∧
  ∀ H' u, Same H H' → Dt K H' u (.tuple ((cycsF t).map encC)) → Q u H'
def spDiv : Sp := fun vs H Q _ => ∃ (a b : Nat), vs = [.int (a : Int), .int (b : Int)] ∧ Q (.int ((Nat.gcd a b : Nat) : Int)) H
def spRnd (K : PySem.W.Frag) : Sp := fun vs H Q _ => ∃ (v : V) (t : List Int), vs = [v] ∧ Dt K H v (.tuple (t.map .int)) ∧ t ∈ goodTurns ∧ ∀ H', Same H H' → Q (.int (rndF t : Nat)) H'
def spOrd (K : PySem.W.Frag) : Sp := fun vs H Q _ => ∃ (v : V) (t : List Int) (day : Int), vs = [v, .int day] ∧ Dt K H v (.tuple (t.map .int)) ∧ t ∈ goodTurns ∧
  ∀ H' p, Same H H' → SqT K H' p ((ordF t day).map V.int) → Q (.ref p) H'
def spKept (K : PySem.W.Frag) : Sp := fun vs H Q _ => ∃ (v : V) (t : List Int) (n i : Int), vs = [v, .int n, .int i] ∧ Dt K H v (.tuple (t.map .int)) ∧ t ∈ goodTurns ∧
  ∀ H', Same H H' → Q (.int (keptF t n i)) H'
def spKeeper (K : PySem.W.Frag) : Sp := fun vs H Q _ => ∃ (v u : V) (day t : List Int) (bell : Int), vs = [v, u, .int bell] ∧ Dt K H v (.tuple (day.map .int)) ∧ GoodDay day ∧ Dt K H u (.tuple (t.map .int)) ∧ t ∈ goodTurns ∧ 0 ≤ bell ∧
  ∀ H', Same H H' → Q (.int (keeperF day t bell)) H'
theorem foldl_take_succ {α β : Type} {f : β → α → β} {b : β} {l : List α} {i : Nat} {x : α} (h : l[i]? = some x) : (l.take (i + 1)).foldl f b = f ((l.take i).foldl f b) x := by
  rw [List.take_add_one, h]
  simp [List.foldl_append]
theorem rnd_pos (t : List Int) : ∀ (l : List (List Int)) (d : Nat), (∀ c, c ∈ l → 1 ≤ c.length) → 0 < d → 0 < l.foldl (fun d c => Nat.lcm d c.length) d := by
  intro l
  induction l with
  | nil => exact fun d _ h => h
  | cons c l ih =>
    intro d hl hd
    exact ih _ (fun x hx => hl x (by simp [hx])) (Nat.lcm_pos hd (hl c (by simp)))
section
variable {P : Program} {w : World} {K : PySem.W.Frag} {mg : Str → Option Value} {base : Heap} {CM CH CV aL : Addr}
theorem sc_cycles : FnScope ["turn", "found", "met", "first", "cycle", "number"] ["turn"] (defScope s_cycles) := ⟨rfl, rfl, rfl, by decide +kernel, rfl, by decide +kernel, by decide +kernel⟩
theorem c_cycles (T : Txt K mg CM CH CV aL) : Cal P w K mg base 2 "cycles" (spCycs K) := by
  have c_cycle_from := c_cycle_from (P := P) (w := w) (base := base) T
  refine cal_of T.d_cycles (fun _ _ _ _ _ _ us hl => match us, hl with | [_], _ => rfl) sc_cycles (fun vs H Q E h => ?_) (fun f cdv A outer s H vs Q E hr h => ?_)
  · obtain ⟨_, _, rfl, _⟩ := h; rfl
  · obtain ⟨v, t, rfl, hd, ht, k⟩ := h
    obtain ⟨a, xs, rfl, h1, h2⟩ := id hd.tup_inv
    have e := h2.ints_inv
    subst e
    obtain ⟨l1, l3⟩ := good_len ht
    refine ⟨_, (pss_cons (ps_set (i := 1) sc_cycles.nd rfl (Or.inl rfl) (pe_lst pa_nil))
    (pss_cons (ps_set (i := 2) sc_cycles.nd rfl (Or.inl rfl) pe_dnewK)
    (pss_cons (ps_for PassesOwn.never rfl (pi_range1 (by rfl) T.b_range (pa_cons (pe_callB (call_len_seqK K) (by rfl) T.b_len PySem.boot_len (pa_cons (pv 0) pa_nil)) pa_nil)) (pg_name (i := 3) sc_cycles.nd rfl (Or.inl rfl)) (pss_one (ps_if (pt_cmp (pc_dnotin (hu_of hr) (pv 3) (pv 2)) rfl) (pss_cons (ps_set (i := 4) sc_cycles.nd rfl (Or.inl rfl) (pe_c c_cycle_from hr (by decide) rfl (pa_cons (pv 0) (pa_cons (pv 3) pa_nil))))
    (pss_cons (ps_for PassesOwn.never rfl (pi_tupK K (pv 4)) (pg_name (i := 5) sc_cycles.nd rfl (Or.inl rfl)) (pss_one (ps_dput (hu_of hr) (pv 2) (pv 5) pe_bl rfl)))
    (pss_one (ps_expr (pe_bmK K PySem.F.plainAttrs_list PySem.F.slot_list_append PySem.F.type_list_append mt_append (pv 1) (pa_cons (pv 4) pa_nil)))))) pss_nil)))
    (pss_one (ps_ret (pe_callTy (call_tuple_ofK K) (by rfl) T.b_tuple (by decide +kernel) (pa_cons (pv 1) pa_nil))))))), ?_⟩
    refine ⟨by show 0 ≤ sizeLine; decide, fun pf hpf => newG hpf fun H1 S1 e1 => ?_⟩
    intro pm hpm
    have npm : pf ≠ pm := ne_of_none e1 hpm
    have hpf0 : H pf = none := hpf
    have hpm0 : H pm = none := S1.free hpm
    refine ⟨_, rfl, a, _, rfl, .inr ((S1.trans (Same.new hpm)).tup h1), _, rfl, by omega, by rw [List.length_map]; omega, ?_⟩
    refine for_range (fun i σ H2 => ∃ (qs : List V) (c n : Option V), σ = [some (.ref a), some (.ref pf), some (.ref pm), n, c, σ.getD 5 none] ∧ Same H H2 ∧ H2 pf = some (.lst qs) ∧ H2 pm = some (.dK (cycAt t i).2) ∧
      DtAll K H2 qs ((cycAt t i).1.map encC)) ⟨[], none, none, rfl, S1.trans (Same.new hpm), by rw [upd_ne npm]; exact e1, upd_same, .nil⟩ ?_ ?_
    · rintro i σ H2 hi ⟨qs, c, n, hσ, S2, e2, e3, hq⟩
      rw [List.length_map] at hi
      have hi : i < t.length := by omega
      obtain ⟨z5, hσ⟩ : ∃ z, σ = [some (.ref a), some (.ref pf), some (.ref pm), n, c, z] := ⟨_, hσ⟩
      subst hσ
      obtain ⟨o1, o2, o3⟩ := cycAt_ok t i
      refine ⟨_, rfl, _, rfl, pm, _, rfl, DGet.k (k := .inl (0 + (i : Int))) e3, _, rfl, ?_⟩
      have z0 : (0 + (i : Int)) = (i : Int) := by omega
      rw [z0]
      cases hv : (valV (cycAt t i).2 (.inl (i : Int))).isSome with
      | true =>
        refine iteF ?_
        refine ⟨qs, c, _, rfl, S2, e2, ?_, ?_⟩
        · rw [cycAt_succ]; unfold cycStep; rw [if_pos hv]; exact e3
        · rw [cycAt_succ]; unfold cycStep; rw [if_pos hv]; exact hq
      | false =>
        refine iteT ?_
        have cl := cycF_len t (i : Int)
        refine ⟨_, rfl, _, rfl, _, t, _, rfl, hd.mono S2.tups, ht, by omega, by omega, fun H3 pc S3 e4 => ?_⟩
        refine ⟨_, rfl, pc, rfl, ⟨_, e4⟩, ?_⟩
        have hmet : H3 pm = some (.dK (cycAt t i).2) := S3 _ _ e3
        have hfd : H3 pf = some (.lst qs) := S3 _ _ e2
        refine for_tup (K := K) (a := pc) (xs := (cycF t (i : Int)).map V.int) (fun j σ H4 => ∃ z, σ = [some (.ref a), some (.ref pf), some (.ref pm), some (.int (i : Int)), some (.ref pc), z] ∧ Same H H4 ∧ Tups H3 H4 ∧ H4 pf = some (.lst qs) ∧ H4 pm = some (.dK (metF (cycAt t i).2 ((cycF t (i : Int)).take j))))
          ⟨_, rfl, S2.trans S3, Tups.refl _, hfd, hmet⟩ (fun j σ H4 _ ⟨_, _, _, tt, _, _⟩ => tt.sq e4) ?_ ?_
        · rintro j x σ H4 hx ⟨z, rfl, S4, tt, e5, e6⟩
          rw [List.getElem?_map] at hx
          cases hy : (cycF t (i : Int))[j]? with
          | none => rw [hy] at hx; cases hx
          | some y =>
            rw [hy] at hx
            have hx : V.int y = x := Option.some.inj hx
            subst hx
            have hm := metF_len ((cycF t (i : Int)).take j) (cycAt t i).2
            have hm2 : ((cycF t (i : Int)).take j).length ≤ 3 := by rw [List.length_take]; omega
            refine ⟨_, rfl, _, rfl, pm, _, rfl, DPut.k (k := .inl y) e6 (sz100' (by omega)), ?_⟩
            refine ⟨_, rfl, S4.mut hpm0, tt.trans (Tups.upd (not_tup_dK e6)), by rw [upd_ne npm]; exact e5, ?_⟩
            rw [upd_same]
            unfold metF
            rw [foldl_take_succ hy]
        · rintro σ H4 ⟨z, rfl, S4, tt, e5, e6⟩
          refine ⟨_, rfl, .inl ⟨rfl, _, sql_of e5⟩, _, rfl, pf, _, _, rfl, rfl, e5, sz100' (by have := hq.length; rw [List.length_map] at this; omega), ?_⟩
          have tt5 : Tups H2 (upd H4 pf (.lst (qs ++ [.ref pc]))) := (S3.tups.trans tt).trans (Tups.upd (not_tup_lst e5))
          refine ⟨qs ++ [.ref pc], _, _, rfl, S4.mut hpf0, upd_same, ?_, ?_⟩
          · rw [upd_ne npm.symm, e6, cycAt_succ]
            unfold cycStep
            rw [if_neg (by rw [hv]; exact Bool.false_ne_true), List.length_map, List.take_length]
          · rw [cycAt_succ]
            unfold cycStep
            rw [if_neg (by rw [hv]; exact Bool.false_ne_true), List.map_append]
            exact (hq.mono tt5).append (.cons (.tup (((tt.trans (Tups.upd (not_tup_lst e5))).sq e4)) .ints) .nil)
    · rintro σ H2 ⟨qs, c, n, hσ, S2, e2, e3, hq⟩
      obtain ⟨z5, hσ⟩ : ∃ z, σ = [some (.ref a), some (.ref pf), some (.ref pm), n, c, z] := ⟨_, hσ⟩
      subst hσ
      refine ⟨_, rfl, pf, _, rfl, .inl ⟨sql_of e2, fun l hl => newG hl fun H3 S3 e4 => ?_⟩⟩
      refine k _ _ (S2.trans S3) (.tup (sqt_of e4) ?_)
      have e : cycsF t = (cycAt t t.length).1 := rfl
      rw [e]
      have q := hq.mono S3.tups
      rw [List.length_map] at q
      exact q
theorem sc_divisor : FnScope ["one", "other"] ["one", "other"] (defScope s_divisor) := ⟨rfl, rfl, rfl, by decide +kernel, rfl, by decide +kernel, by decide +kernel⟩
theorem c_divisor (T : Txt K mg CM CH CV aL) : Cal P w K mg base 1 "divisor" spDiv := by
  refine cal_of T.d_divisor (fun _ _ _ _ _ _ us hl => match us, hl with | [_, _], _ => rfl) sc_divisor (fun vs H Q E h => ?_) (fun f cdv A outer s H vs Q E hr h => ?_)
  · obtain ⟨_, _, rfl, _⟩ := h; rfl
  · obtain ⟨a, b, rfl, k⟩ := h
    refine ⟨_, (pss_cons (ps_while PassesOwn.never (pt_cmpR op_ne (pv 1) pe_int (nomark _)) (pss_one (ps_par (i := 0) (j := 1) rfl sc_divisor.nd rfl rfl (by decide) rfl rfl (pa_cons (pv 1) (pa_cons (pe_op op_mod (pv 0) (pv 1)) pa_nil)) (by rfl))))
    (pss_one (ps_ret (pv 0)))), ?_⟩
    refine wh_go (m := b) (fun m σ H1 => ∃ x : Nat, σ = [some (.int (x : Int)), some (.int (m : Int))] ∧ H1 = H ∧ Nat.gcd x m = Nat.gcd a b) ⟨a, rfl, rfl, rfl⟩ ?_
    rintro m σ H1 ⟨x, rfl, rfl, hg⟩
    refine ⟨_, rfl, rfl, _, rfl, ?_⟩
    refine ite2 (fun q => ?_) (fun q => ?_)
    · have hm : m ≠ 0 := by
        rintro rfl
        simp at q
      refine ⟨fun σ' H' => ∃ m', m' < m ∧ _, fun _ _ h => h, ?_⟩
      refine ⟨_, rfl, _, rfl, _, rfl, _, _, rfl, rfl, by show (0 : Int) < m; omega, _, _, rfl, ?_⟩
      refine ⟨x % m, Nat.mod_lt _ (by omega), m, rfl, rfl, ?_⟩
      rw [← hg, Nat.gcd_comm x m, Nat.gcd_rec m x, Nat.gcd_comm]
    · have hm : m = 0 := by
        apply Classical.byContradiction
        intro z
        apply q
        have : (V.int (m : Int)) ≠ V.int 0 := fun e => z (by injection e with e; omega)
        simp [this]
      subst hm
      rw [Nat.gcd_zero_right] at hg
      subst hg
      exact ⟨_, rfl, k⟩
theorem sc_round_of : FnScope ["turn", "days", "cycle"] ["turn"] (defScope s_round_of) := ⟨rfl, rfl, rfl, by decide +kernel, rfl, by decide +kernel, by decide +kernel⟩
theorem c_round_of (T : Txt K mg CM CH CV aL) : Cal P w K mg base 3 "round_of" (spRnd K) := by
  have c_cycles := c_cycles (P := P) (w := w) (base := base) T
  have c_divisor := c_divisor (P := P) (w := w) (base := base) T
  refine cal_of T.d_round_of (fun _ _ _ _ _ _ us hl => match us, hl with | [_], _ => rfl) sc_round_of (fun vs H Q E h => ?_) (fun f cdv A outer s H vs Q E hr h => ?_)
  · obtain ⟨_, _, rfl, _⟩ := h; rfl
  · obtain ⟨v, t, rfl, hd, ht, k⟩ := h
    refine ⟨_, (pss_cons (ps_set (i := 1) sc_round_of.nd rfl (Or.inl rfl) pe_int)
    (pss_cons (ps_for PassesOwn.never rfl (pi_tupK K (pe_c c_cycles hr (by decide) rfl (pa_cons (pv 0) pa_nil))) (pg_name (i := 2) sc_round_of.nd rfl (Or.inl rfl)) (pss_one (ps_set (i := 1) sc_round_of.nd rfl (Or.inl rfl) (pe_op op_fdiv (pe_op op_mul (pv 1) (pe_callB (call_len_seqK K) (by rfl) T.b_len PySem.boot_len (pa_cons (pv 2) pa_nil))) (pe_c c_divisor hr (by decide) rfl (pa_cons (pv 1) (pa_cons (pe_callB (call_len_seqK K) (by rfl) T.b_len PySem.boot_len (pa_cons (pv 2) pa_nil)) pa_nil)))))))
    (pss_one (ps_ret (pv 1))))), ?_⟩
    refine ⟨_, rfl, _, t, rfl, hd, ht, fun H1 u S1 hu => ?_⟩
    obtain ⟨a, us, rfl, h1, h2⟩ := hu.tup_inv
    refine ⟨a, rfl, ⟨_, h1⟩, ?_⟩
    refine for_tup (K := K) (a := a) (xs := us) (fun i σ H2 => ∃ z, σ = [some v, some (.int (((cycsF t).take i).foldl (fun d c => Nat.lcm d c.length) 1 : Nat)), z] ∧ H2 = H1) ⟨_, rfl, rfl⟩ (fun i σ H2 _ ⟨_, _, e⟩ => e ▸ h1) ?_ ?_
    · rintro i x σ H2 hx ⟨z, rfl, rfl⟩
      obtain ⟨d, hd1, hd2⟩ := h2.get hx
      rw [List.getElem?_map] at hd1
      cases hc : (cycsF t)[i]? with
      | none => rw [hc] at hd1; cases hd1
      | some c =>
        rw [hc] at hd1
        have hd1 : encC c = d := Option.some.inj hd1
        subst hd1
        obtain ⟨b, cs, rfl, g1, g2⟩ := hd2.tup_inv
        have e := g2.ints_inv
        subst e
        have hcl : 1 ≤ c.length ∧ c.length ≤ 3 := (cycAt_ok t t.length).2.2 c (List.mem_of_getElem? hc)
        generalize hD : ((cycsF t).take i).foldl (fun d c => Nat.lcm d c.length) 1 = dd
        have hg : Nat.gcd dd c.length ≤ c.length := Nat.le_of_dvd (by omega) (Nat.gcd_dvd_right _ _)
        have hg0 : 0 < Nat.gcd dd c.length := Nat.gcd_pos_of_pos_right _ (by omega)
        refine ⟨_, rfl, _, rfl, b, _, rfl, .inr g1, _, _, rfl, rfl, .inr (by rw [List.length_map]; omega), ?_⟩
        refine ⟨_, rfl, _, rfl, b, _, rfl, .inr g1, dd, c.length, by rw [List.length_map]; rfl, _, _, rfl, rfl, ⟨by omega, by omega⟩, ?_⟩
        refine ⟨some (.ref b), ?_, rfl⟩
        rw [foldl_take_succ hc, hD, List.length_map]
        have e : ((dd : Int) * (c.length : Int)) / ((Nat.gcd dd c.length : Nat) : Int) = ((Nat.lcm dd c.length : Nat) : Int) := by
          unfold Nat.lcm
          rw [Int.natCast_ediv, Int.natCast_mul]
        show ([some v, some (V.int (((dd : Int) * (c.length : Int)) / ((Nat.gcd dd c.length : Nat) : Int))), some (.ref b)] : L2.St) = _
        rw [e]
    · rintro σ H2 ⟨z, rfl, rfl⟩
      refine ⟨_, rfl, ?_⟩
      have e : us.length = (cycsF t).length := by have := h2.length; rwa [List.length_map] at this
      rw [e, List.take_length]
      exact k _ S1
theorem ordN_len (t : List Int) : ∀ n, (ordN t n).length = t.length
  | 0 => by simp [ordN]
  | n + 1 => by simp [ordN]
theorem rnd_le {t : List Int} (h : t ∈ goodTurns) : rndF t ≤ 6 := by
  simp only [goodTurns, List.mem_cons, List.not_mem_nil, or_false] at h
  rcases h with rfl | rfl | rfl | rfl | rfl | rfl | rfl | rfl | rfl <;> decide +kernel
theorem atI_ints {l : List Int} {c : Int} (h0 : 0 ≤ c) (h1 : c < l.length) : atI (l.map V.int) c = some (.int (l.getD c.toNat 0)) := by
  have e : c = ((c.toNat : Nat) : Int) := (Int.toNat_of_nonneg h0).symm
  refine at_of e ?_
  have hl : c.toNat < l.length := by omega
  rw [List.getElem?_map, List.getElem?_eq_getElem hl, List.getD_eq_getElem?_getD, List.getElem?_eq_getElem hl]
  rfl
theorem sc_order_at : FnScope ["turn", "day", "order", "step", "place"] ["turn", "day"] (defScope s_order_at) := ⟨rfl, rfl, rfl, by decide +kernel, rfl, by decide +kernel, by decide +kernel⟩
theorem c_order_at (T : Txt K mg CM CH CV aL) : Cal P w K mg base 4 "order_at" (spOrd K) := by
  have c_round_of := c_round_of (P := P) (w := w) (base := base) T
  refine cal_of T.d_order_at (fun _ _ _ _ _ _ us hl => match us, hl with | [_, _], _ => rfl) sc_order_at (fun vs H Q E h => ?_) (fun f cdv A outer s H vs Q E hr h => ?_)
  · obtain ⟨_, _, _, rfl, _⟩ := h; rfl
  · obtain ⟨v, t, day, rfl, hd, ht, k⟩ := h
    obtain ⟨a, xs, rfl, h1, h2⟩ := id hd.tup_inv
    have e := h2.ints_inv
    subst e
    obtain ⟨l1, l3⟩ := good_len ht
    have rp : 0 < rndF t := rnd_pos t (cycsF t) 1 (fun c hc => ((cycAt_ok t t.length).2.2 c hc).1) (by decide)
    have ml : day % (rndF t : Int) < (rndF t : Int) := Int.emod_lt_of_pos _ (by omega)
    have mg0 : 0 ≤ day % (rndF t : Int) := Int.emod_nonneg _ (by omega)
    have rle := rnd_le ht
    refine ⟨_, (pss_cons (ps_set (i := 2) sc_order_at.nd rfl (Or.inr rfl) (pe_tupRg rfl rfl T.b_tuple (prg_1 rfl T.b_range (pe_callB (call_len_seqK K) (by rfl) T.b_len PySem.boot_len (pa_cons (pv 0) pa_nil)))))
    (pss_cons (ps_for PassesOwn.never rfl (pi_range1 (by rfl) T.b_range (pa_cons (pe_op op_mod (pv 1) (pe_c c_round_of hr (by decide) rfl (pa_cons (pv 0) pa_nil))) pa_nil)) (pg_name (i := 3) sc_order_at.nd rfl (Or.inl rfl)) (pss_one (ps_set (i := 2) sc_order_at.nd rfl (Or.inr rfl) (pe_callTy (call_tuple_ofK K) (by rfl) T.b_tuple (by decide +kernel) (pa_cons (pe_lc (own := [("place", 4)]) rfl sc_order_at.nd (pi_tupK K (pv 0)) (blkOk_by (own := [("place", 4)]) (N := ["turn", "day", "order", "step", "place"]) (sc := defScope s_order_at) (by decide +kernel)) (fun _ _ _ _ _ => (pg_name (i := 4) sc_order_at.nd rfl (Or.inl rfl))) (fun _ _ _ _ _ => pts_nil) (fun _ _ _ _ _ => (pe_ix (ix_tupK K) (pv 2) (pv 4) (fun _ _ => rfl)))) pa_nil)))))
    (pss_one (ps_ret (pv 2))))), ?_⟩
    refine ⟨_, rfl, a, _, rfl, .inr h1, _, rfl, ?_, fun p hp => newG hp fun H1 S1 e1 => ?_⟩
    · refine ⟨?_, ?_, ?_, ?_⟩ <;> first | decide | (rw [List.length_map]; omega)
    refine ⟨_, rfl, _, rfl, _, t, rfl, hd.mono S1.tups, ht, fun H2 S2 => ?_⟩
    refine ⟨_, _, rfl, rfl, by show (0 : Int) < _; omega, _, rfl, by omega, by omega, ?_⟩
    have S12 := S1.trans S2
    refine for_range (fun i σ H3 => ∃ (o : Addr) (z : Option V), σ = [some (.ref a), some (.int day), some (.ref o), z, none] ∧ Same H H3 ∧ SqT K H3 o ((ordN t i).map V.int)) ⟨p, _, rfl, S12, ?_⟩ ?_ ?_
    · refine S2.tup (sqt_of ?_)
      rw [e1]
      simp [rgV, ordN, Function.comp_def]
    · rintro i σ H3 hi ⟨o, z, rfl, S3, ho⟩
      refine ⟨_, rfl, a, rfl, ⟨_, S3.tup h1⟩, fun D hD => ?_⟩
      refine lc_run (walk_tup (K := K) (a := a) (xs := t.map V.int)) (H0 := H3) (fun j ac H4 => ac = ((ordN t (i + 1)).take j).map V.int) (Same.refl _) hD (fun _ _ => rfl) (fun H4 S4 => S4.tup (S3.tup h1)) ?_ ?_
      · rintro j x ac H4 H5 hj hD0 S4 e4 rfl ⟨rfl, hx⟩
        rw [List.getElem?_map] at hx
        cases hy : t[j]? with
        | none => rw [hy] at hx; cases hx
        | some y =>
          rw [hy] at hx
          have hx : V.int y = x := Option.some.inj hx
          subst hx
          obtain ⟨y0, y1⟩ := good_in ht (List.mem_of_getElem? hy)
          have hl := ordN_len t i
          refine ⟨rfl, g_yes (iteT ?_)⟩
          refine ⟨_, rfl, _, rfl, o, _, _, _, rfl, rfl, S4.tup ho, atI_ints y0 (by omega), ?_⟩
          refine lc_next hD0 S4 (Same.refl _) e4 (by rw [List.length_map, List.length_take, ordN_len]; omega) fun H6 _ _ _ => ?_
          rw [List.take_add_one]
          have : (ordN t (i + 1))[j]? = some ((ordN t i).getD y.toNat 0) := by
            simp only [ordN]
            rw [List.getElem?_map, hy]
            rfl
          rw [this, List.map_append]
          rfl
      · rintro ac H4 S4 e4 rfl
        refine ⟨D, _, rfl, .inl ⟨sql_of e4, fun q hq => newG hq fun H5 S5 e5 => ?_⟩⟩
        refine ⟨q, _, rfl, S3.trans (S4.trans S5), sqt_of ?_⟩
        rw [e5, List.length_map]
        have : t.length = (ordN t (i + 1)).length := (ordN_len t (i + 1)).symm
        rw [this, List.take_length]
    · rintro σ H3 ⟨o, z, rfl, S3, ho⟩
      exact ⟨_, rfl, k _ _ S3 ho⟩
theorem sc_kept_by : FnScope ["turn", "number", "watch"] ["turn", "number", "watch"] (defScope s_kept_by) := ⟨rfl, rfl, rfl, by decide +kernel, rfl, by decide +kernel, by decide +kernel⟩
theorem c_kept_by (T : Txt K mg CM CH CV aL) : Cal P w K mg base 5 "kept_by" (spKept K) := by
  have c_order_at := c_order_at (P := P) (w := w) (base := base) T
  refine cal_of T.d_kept_by (fun _ _ _ _ _ _ us hl => match us, hl with | [_, _, _], _ => rfl) sc_kept_by (fun vs H Q E h => ?_) (fun f cdv A outer s H vs Q E hr h => ?_)
  · obtain ⟨_, _, _, _, rfl, _⟩ := h; rfl
  · obtain ⟨v, t, n, i, rfl, hd, ht, k⟩ := h
    obtain ⟨a, xs, rfl, h1, h2⟩ := id hd.tup_inv
    have e := h2.ints_inv
    subst e
    obtain ⟨l1, l3⟩ := good_len ht
    have ml : i % (t.length : Int) < (t.length : Int) := Int.emod_lt_of_pos _ (by omega)
    have mg0 : 0 ≤ i % (t.length : Int) := Int.emod_nonneg _ (by omega)
    refine ⟨_, (pss_one (ps_ret (pe_ix (ix_tupK K) (pe_c c_order_at hr (by decide) rfl (pa_cons (pv 0) (pa_cons (pv 1) pa_nil))) (pe_op op_mod (pv 2) (pe_callB (call_len_seqK K) (by rfl) T.b_len PySem.boot_len (pa_cons (pv 0) pa_nil))) (fun _ _ => rfl)))), ?_⟩
    refine ⟨_, rfl, _, rfl, _, t, n, rfl, hd, ht, fun H1 p S1 hp => ?_⟩
    refine ⟨_, rfl, _, rfl, a, _, rfl, .inr (S1.tup h1), _, _, rfl, rfl, by show (0 : Int) < _; rw [List.length_map]; omega, p, _, _, _, rfl, rfl, hp, ?_, k _ S1⟩
    rw [List.length_map]
    exact atI_ints mg0 (by rw [show (ordF t n).length = t.length from ordN_len _ _]; exact ml)
theorem sc_keeper : FnScope ["day", "turn", "bell", "number", "watch", "left"] ["day", "turn", "bell"] (defScope s_keeper) := ⟨rfl, rfl, rfl, by decide +kernel, rfl, by decide +kernel, by decide +kernel⟩
theorem c_keeper (T : Txt K mg CM CH CV aL) : Cal P w K mg base 6 "keeper" (spKeeper K) := by
  have c_kept_by := c_kept_by (P := P) (w := w) (base := base) T
  have c_watch_at := c_watch_at (P := P) (w := w) (base := base) T
  refine cal_of T.d_keeper (fun _ _ _ _ _ _ us hl => match us, hl with | [_, _, _], _ => rfl) sc_keeper (fun vs H Q E h => ?_) (fun f cdv A outer s H vs Q E hr h => ?_)
  · obtain ⟨_, _, _, _, _, rfl, _⟩ := h; rfl
  · obtain ⟨v, u, day, t, bell, rfl, hd, gd, hu, ht, hb, k⟩ := h
    refine ⟨_, (pss_cons (ps_asg (pe_c c_watch_at hr (by decide) rfl (pa_cons (pv 0) (pa_cons (pv 2) pa_nil))) (pg_tupK K 3 rfl (pgs_cons (pg_name (i := 3) sc_keeper.nd rfl (Or.inl rfl)) (pgs_cons (pg_name (i := 4) sc_keeper.nd rfl (Or.inl rfl)) (pgs_cons (pg_name (i := 5) sc_keeper.nd rfl (Or.inl rfl)) pgs_nil)))))
    (pss_one (ps_ret (pe_c c_kept_by hr (by decide) rfl (pa_cons (pv 1) (pa_cons (pv 3) (pa_cons (pv 4) pa_nil))))))), ?_⟩
    refine ⟨_, rfl, _, rfl, _, day, bell, rfl, hd, gd, hb, fun H1 p S1 hp => ?_⟩
    refine ⟨p, _, rfl, hp, rfl, _, _, rfl, _, _, rfl, _, _, rfl, rfl, ?_⟩
    refine ⟨_, rfl, _, rfl, _, rfl, _, t, _, _, rfl, hu.mono S1.tups, ht, fun H2 S2 => k _ (S1.trans S2)⟩
end
end WS
/-! Hands, places, fitness, costs. -/
namespace WS
open PySem PySem.Spec PyProof.Rows L2 WM
open C8 (pe_gc pe_c pe_mk pe_mt pe_mt0)
structure Hand where
  nm : Str
  rank : Int
  sk : List Str
  sec : Int
structure Place where
  nm : Str
  sk : Str
  rank : Int
  steps : Int
  many : Int
  grade : Int
def encH (h : Hand) : PyData := .tuple [.str h.nm, .int h.rank, .tuple (h.sk.map .str), .int h.sec]
def encP (p : Place) : PyData := .tuple [.str p.nm, .str p.sk, .int p.rank, .int p.steps, .int p.many, .int p.grade]
def oS : Option Str → V
  | none => .non
  | some x => .str x
def oD : Option Str → PyData
  | none => .none
  | some x => .str x
def shortF (h : Hand) (p : Place) : Int := if p.rank - h.rank > 0 then p.rank - h.rank else 0
def fitF (h : Hand) (p : Place) : Bool := inV (.str p.sk) (h.sk.map V.str) && decide (shortF h p ≤ p.steps)
def lackF (g : Int) : Int := ([10000, 1000000, 100000000] : List Int).getD g.toNat 0
def costF (h : Hand) (p : Place) (s : Option Str) : Int := 100 * (if (!decide (oS s = .str p.nm)) = true then 1 else 0) + shortF h p
theorem flat_strs : ∀ (xs : List Str), (xs.map V.str).all flatV = true
  | [] => rfl
  | x :: xs => by
    rw [List.map_cons, List.all_cons, flat_strs xs]
    rfl
section
variable {K : PySem.W.Frag} {H : Hp}
theorem hand_inv {v : V} {h : Hand} (d : Dt K H v (encH h)) : ∃ a s, v = .ref a ∧ SqT K H a [.str h.nm, .int h.rank, .ref s, .int h.sec] ∧ SqT K H s (h.sk.map V.str) := by
  obtain ⟨a, xs, rfl, h1, h2⟩ := Dt.tup_inv d
  cases h2 with
  | cons d1 h2 =>
    cases h2 with
    | cons d2 h2 =>
      cases h2 with
      | cons d3 h2 =>
        cases h2 with
        | cons d4 h2 =>
          cases h2
          cases d1
          cases d2
          cases d4
          obtain ⟨s, ys, rfl, g1, g2⟩ := d3.tup_inv
          have e := g2.strs_inv
          subst e
          exact ⟨a, s, rfl, h1, g1⟩
theorem place_inv {v : V} {p : Place} (d : Dt K H v (encP p)) : ∃ a, v = .ref a ∧ SqT K H a [.str p.nm, .str p.sk, .int p.rank, .int p.steps, .int p.many, .int p.grade] := by
  obtain ⟨a, xs, rfl, h1, h2⟩ := Dt.tup_inv d
  cases h2 with
  | cons d1 h2 =>
    cases h2 with
    | cons d2 h2 =>
      cases h2 with
      | cons d3 h2 =>
        cases h2 with
        | cons d4 h2 =>
          cases h2 with
          | cons d5 h2 =>
            cases h2 with
            | cons d6 h2 =>
              cases h2
              cases d1
              cases d2
              cases d3
              cases d4
              cases d5
              cases d6
              exact ⟨a, rfl, h1⟩
/-- an item of a tuple of things -/
theorem item_inv {α : Type} {enc : α → PyData} {a : Addr} {xs : List V} {l : List α} (h : DtAll K H xs (l.map enc)) {i : Nat} {x : V} (hx : xs[i]? = some x) : ∃ y, l[i]? = some y ∧ Dt K H x (enc y) := by
  obtain ⟨d, h1, h2⟩ := h.get hx
  rw [List.getElem?_map] at h1
  cases e : l[i]? with
  | none => rw [e] at h1; cases h1
  | some y =>
    rw [e] at h1
    have h1 : enc y = d := Option.some.inj h1
    subst h1
    exact ⟨y, rfl, h2⟩
theorem item_get {α : Type} {enc : α → PyData} {xs : List V} {l : List α} (h : DtAll K H xs (l.map enc)) {i : Nat} {y : α} (hy : l[i]? = some y) : ∃ x, xs[i]? = some x ∧ Dt K H x (enc y) :=
  h.get' (by rw [List.getElem?_map, hy]; rfl)
end
theorem ls_at {n : Nat} {f : Nat → V} {i : Nat} (h : i < n) : atI (ls n f) (i : Int) = some (f i) := at_of rfl (ls_get h)
theorem walk_range0 {n : Nat} : Walk (Itr 0 n) n (fun _ => True) (YFn fun i => .int ((i : Nat) : Int)) :=
  walk_range.mono (fun _ _ => trivial) fun i H x H' _ _ y => ⟨y.1, by rw [y.2]; exact congrArg V.int (Int.zero_add _)⟩
def spShort (K : PySem.W.Frag) : Sp := fun vs H Q _ => ∃ (u v : V) (h : Hand) (p : Place), vs = [u, v] ∧ Dt K H u (encH h) ∧ Dt K H v (encP p) ∧ Q (.int (shortF h p)) H
def spFit (K : PySem.W.Frag) : Sp := fun vs H Q _ => ∃ (u v : V) (h : Hand) (p : Place), vs = [u, v] ∧ Dt K H u (encH h) ∧ Dt K H v (encP p) ∧ Q (.bl (fitF h p)) H
def spLack : Sp := fun vs H Q _ => ∃ (g : Int), vs = [.int g] ∧ 0 ≤ g ∧ g ≤ 2 ∧ Q (.int (lackF g)) H
def spCost (K : PySem.W.Frag) : Sp := fun vs H Q _ => ∃ (u v : V) (h : Hand) (p : Place) (s : Option Str), vs = [u, v, oS s] ∧ Dt K H u (encH h) ∧ Dt K H v (encP p) ∧ Q (.int (costF h p s)) H
def oI : Option Int → V
  | none => .non
  | some i => .int i
def costsF (h : Hand) (lot : List Place) (s : Option Str) : List V := lot.map fun p => oI (if fitF h p then some (costF h p s) else none)
def spCosts (K : PySem.W.Frag) : Sp := fun vs H Q _ => ∃ (u v : V) (h : Hand) (lot : List Place) (s : Option Str), vs = [u, v, oS s] ∧ Dt K H u (encH h) ∧ Dt K H v (.tuple (lot.map encP)) ∧ lot.length ≤ 1000 ∧
  ∀ H' q, Same H H' → H q = none → H' q = some (.lst (costsF h lot s)) → Q (.ref q) H'
section
variable {P : Program} {w : World} {K : PySem.W.Frag} {mg : Str → Option Value} {base : Heap} {CM CH CV aL : Addr}
theorem sc_short : FnScope ["hand", "place"] ["hand", "place"] (defScope s_short) := ⟨rfl, rfl, rfl, by decide +kernel, rfl, by decide +kernel, by decide +kernel⟩
theorem c_short (T : Txt K mg CM CH CV aL) : Cal P w K mg base 1 "short" (spShort K) := by
  refine cal_of T.d_short (fun _ _ _ _ _ _ us hl => match us, hl with | [_, _], _ => rfl) sc_short (fun vs H Q E h => ?_) (fun f cdv A outer s H vs Q E hr h => ?_)
  · obtain ⟨_, _, _, _, rfl, _⟩ := h; rfl
  · obtain ⟨u, v, h, p, rfl, dh, dp, k⟩ := h
    obtain ⟨a, sa, rfl, h1, h2⟩ := hand_inv dh
    obtain ⟨b, rfl, g1⟩ := place_inv dp
    refine ⟨_, (pss_one (ps_ret (pe_callB (call_max2 rfl) (by rfl) T.b_max (by decide +kernel) (pa_cons pe_int (pa_cons (pe_op op_sub (pe_ix (ix_tupK K) (pv 1) pe_int (fun _ _ => rfl)) (pe_ix (ix_tupK K) (pv 0) pe_int (fun _ _ => rfl))) pa_nil))))), ?_⟩
    exact ⟨_, rfl, b, _, _, .int p.rank, rfl, rfl, g1, rfl, _, rfl, a, _, _, .int h.rank, rfl, rfl, h1, rfl, _, _, rfl, rfl, _, _, rfl, k⟩
theorem sc_is_fit : FnScope ["hand", "place"] ["hand", "place"] (defScope s_is_fit) := ⟨rfl, rfl, rfl, by decide +kernel, rfl, by decide +kernel, by decide +kernel⟩
theorem c_is_fit (T : Txt K mg CM CH CV aL) : Cal P w K mg base 2 "is_fit" (spFit K) := by
  have c_short := c_short (P := P) (w := w) (base := base) T
  refine cal_of T.d_is_fit (fun _ _ _ _ _ _ us hl => match us, hl with | [_, _], _ => rfl) sc_is_fit (fun vs H Q E h => ?_) (fun f cdv A outer s H vs Q E hr h => ?_)
  · obtain ⟨_, _, _, _, rfl, _⟩ := h; rfl
  · obtain ⟨u, v, h, p, rfl, dh, dp, k⟩ := h
    obtain ⟨a, sa, rfl, h1, h2⟩ := hand_inv dh
    obtain ⟨b, rfl, g1⟩ := place_inv dp
    refine ⟨_, (pss_one (ps_ret (pe_and (pe_cmpR (op_in_seqK K) (pe_ix (ix_tupK K) (pv 1) pe_int (fun _ _ => rfl)) (pe_ix (ix_tupK K) (pv 0) pe_int (fun _ _ => rfl)) rfl) (pe_one (pe_cmpR op_le (pe_c c_short hr (by decide) rfl (pa_cons (pv 0) (pa_cons (pv 1) pa_nil))) (pe_ix (ix_tupK K) (pv 1) pe_int (fun _ _ => rfl)) (nomark _)))))), ?_⟩
    refine ⟨_, rfl, b, _, _, .str p.sk, rfl, rfl, g1, rfl, _, rfl, a, _, _, .ref sa, rfl, rfl, h1, rfl, sa, _, rfl, .inr h2, rfl, flat_strs _, inV (.str p.sk) (h.sk.map V.str), rfl, ?_⟩
    unfold fitF at k
    cases e : inV (.str p.sk) (h.sk.map V.str) with
    | false =>
      rw [e] at k
      exact iteF k
    | true =>
      rw [e] at k
      refine iteT ?_
      exact ⟨_, rfl, _, rfl, _, _, h, p, rfl, dh, dp, _, rfl, b, _, _, .int p.steps, rfl, rfl, g1, rfl, _, _, rfl, rfl, k⟩
theorem sc_lack_price : FnScope ["grade"] ["grade"] (defScope s_lack_price) := ⟨rfl, rfl, rfl, by decide +kernel, rfl, by decide +kernel, by decide +kernel⟩
theorem c_lack_price (T : Txt K mg CM CH CV aL) : Cal P w K mg base 1 "lack_price" spLack := by
  refine cal_of T.d_lack_price (fun _ _ _ _ _ _ us hl => match us, hl with | [_], _ => rfl) sc_lack_price (fun vs H Q E h => ?_) (fun f cdv A outer s H vs Q E hr h => ?_)
  · obtain ⟨_, rfl, _⟩ := h; rfl
  · obtain ⟨g, rfl, g0, g2, k⟩ := h
    refine ⟨_, (pss_one (ps_ret (pe_ix (ix_tupK K) (pe_gc rfl T.g_LACK_PRICES) (pv 0) (fun _ _ => rfl)))), ?_⟩
    exact ⟨_, rfl, aL, _, _, _, rfl, rfl, T.lp H, atI_ints (l := [10000, 1000000, 100000000]) g0 (by show g < 3; omega), k⟩
theorem sc_cost_of : FnScope ["hand", "place", "stood"] ["hand", "place", "stood"] (defScope s_cost_of) := ⟨rfl, rfl, rfl, by decide +kernel, rfl, by decide +kernel, by decide +kernel⟩
theorem c_cost_of (T : Txt K mg CM CH CV aL) : Cal P w K mg base 2 "cost_of" (spCost K) := by
  have c_short := c_short (P := P) (w := w) (base := base) T
  refine cal_of T.d_cost_of (fun _ _ _ _ _ _ us hl => match us, hl with | [_, _, _], _ => rfl) sc_cost_of (fun vs H Q E h => ?_) (fun f cdv A outer s H vs Q E hr h => ?_)
  · obtain ⟨_, _, _, _, _, rfl, _⟩ := h; rfl
  · obtain ⟨u, v, h, p, st, rfl, dh, dp, k⟩ := h
    obtain ⟨b, rfl, g1⟩ := place_inv dp
    refine ⟨_, (pss_one (ps_ret (pe_op op_add (pe_op op_mul (pe_gc rfl T.g_MOVED_PRICE) (pe_callTy call_int1 (by rfl) T.b_int (by decide +kernel) (pa_cons (pe_cmpR op_ne (pv 2) (pe_ix (ix_tupK K) (pv 1) pe_int (fun _ _ => rfl)) (nomark _)) pa_nil))) (pe_c c_short hr (by decide) rfl (pa_cons (pv 0) (pa_cons (pv 1) pa_nil)))))), ?_⟩
    refine ⟨_, rfl, _, rfl, b, _, _, .str p.nm, rfl, rfl, g1, rfl, ?_, .inr ⟨_, rfl, 100, _, rfl, rfl, .inl (by decide), _, rfl, _, rfl, _, _, h, p, rfl, dh, dp, _, _, rfl, rfl, k⟩⟩
    cases st <;> rfl
theorem sc_costs_of : FnScope ["hand", "lot", "stood", "place"] ["hand", "lot", "stood"] (defScope s_costs_of) := ⟨rfl, rfl, rfl, by decide +kernel, rfl, by decide +kernel, by decide +kernel⟩
theorem c_costs_of (T : Txt K mg CM CH CV aL) : Cal P w K mg base 3 "costs_of" (spCosts K) := by
  have c_is_fit := c_is_fit (P := P) (w := w) (base := base) T
  have c_cost_of := c_cost_of (P := P) (w := w) (base := base) T
  refine cal_of T.d_costs_of (fun _ _ _ _ _ _ us hl => match us, hl with | [_, _, _], _ => rfl) sc_costs_of (fun vs H Q E h => ?_) (fun f cdv A outer s H vs Q E hr h => ?_)
  · obtain ⟨_, _, _, _, _, rfl, _⟩ := h; rfl
  · obtain ⟨u, v, h, lot, st, rfl, dh, dl, hz, k⟩ := h
    obtain ⟨b, ps, rfl, g1, g2⟩ := Dt.tup_inv dl
    have hlen : ps.length = lot.length := by have := g2.length; rwa [List.length_map] at this
    refine ⟨_, (pss_one (ps_ret (pe_lc (own := [("place", 3)]) rfl sc_costs_of.nd (pi_tupK K (pv 1)) (blkOk_by (own := [("place", 3)]) (N := ["hand", "lot", "stood", "place"]) (sc := defScope s_costs_of) (by decide +kernel)) (fun _ _ _ _ _ => (pg_name (i := 3) sc_costs_of.nd rfl (Or.inl rfl))) (fun _ _ _ _ _ => pts_nil) (fun _ _ _ _ _ => (pe_ifExp (pt_val (pe_c c_is_fit hr (by decide) rfl (pa_cons (pv 0) (pa_cons (pv 3) pa_nil)))) (pe_c c_cost_of hr (by decide) rfl (pa_cons (pv 0) (pa_cons (pv 3) (pa_cons (pv 2) pa_nil)))) pe_non))))), ?_⟩
    refine ⟨_, rfl, b, rfl, ⟨_, g1⟩, fun D hD => ?_⟩
    refine lc_run (walk_tup (K := K) (a := b) (xs := ps)) (H0 := H) (fun j ac H4 => ac = (costsF h lot st).take j) (Same.refl _) hD (fun _ _ => rfl) (fun H4 S4 => S4.tup g1) ?_ ?_
    · rintro j x ac H4 H5 hj hD0 S4 e4 rfl ⟨rfl, hx⟩
      obtain ⟨p, hp, dp⟩ := item_inv (a := b) g2 hx
      refine ⟨rfl, g_yes (iteT ?_)⟩
      have hcl : ((costsF h lot st).take j).length < 100000 := by
        rw [List.length_take]
        unfold costsF
        rw [List.length_map]
        omega
      have fin : ∀ z, z = oI (if fitF h p then some (costF h p st) else none) → LcK H D (fun j ac H4 => ac = (costsF h lot st).take j) j z H5 := fun z hz => by
        refine lc_next hD0 S4 (Same.refl _) e4 hcl fun H6 _ _ _ => ?_
        rw [List.take_add_one]
        have : (costsF h lot st)[j]? = some z := by
          unfold costsF
          rw [List.getElem?_map, hp, hz]
          rfl
        rw [this]
        rfl
      refine ⟨_, rfl, _, rfl, _, _, h, p, rfl, dh.mono S4.tups, dp.mono S4.tups, _, rfl, ?_⟩
      cases e : fitF h p with
      | false =>
        refine iteF ?_
        exact fin _ (by rw [e]; rfl)
      | true =>
        refine iteT ?_
        exact ⟨_, rfl, _, rfl, _, rfl, _, _, h, p, st, rfl, dh.mono S4.tups, dp.mono S4.tups, fin _ (by rw [e]; rfl)⟩
    · rintro ac H4 S4 e4 rfl
      refine k H4 D S4 hD ?_
      rw [e4, hlen]
      have : lot.length = (costsF h lot st).length := by unfold costsF; rw [List.length_map]
      rw [this, List.take_length]
end
end WS
/-! The posts' reckoning: the object, its fit places, the relaxing. -/
namespace WS
open PySem PySem.Spec PyProof.Rows L2 WM
open C8 (pe_gc pe_c pe_mk pe_mt pe_mt0)
def oN : Option Nat → V
  | none => .non
  | some p => .int ((p : Nat) : Int)
structure MA where
  lw : Addr
  lb : Addr
  lc : Addr
  lo : Addr
  ln : Addr
  dx : Addr
  rows : List Addr
def mfs (a : MA) : List (Str × V) := [("wanted", .ref a.lw), ("bounty", .ref a.lb), ("costs", .ref a.lc), ("spots", .ref a.lo), ("named", .ref a.ln)]
theorem lk_hit {f g : Str} {v : V} {r : List (Str × V)} (h : (f == g) = true) : List.lookup f ((g, v) :: r) = some v := by
  simp only [List.lookup, h]
theorem lk_miss {f g : Str} {v : V} {r : List (Str × V)} (h : (f == g) = false) : List.lookup f ((g, v) :: r) = List.lookup f r := by
  simp only [List.lookup, h]
theorem mf_w (a : MA) : (mfs a).lookup ("wanted" : Str) = some (.ref a.lw) := lk_hit (by decide +kernel)
theorem mf_b (a : MA) : (mfs a).lookup ("bounty" : Str) = some (.ref a.lb) := (lk_miss (by decide +kernel)).trans (lk_hit (by decide +kernel))
theorem mf_c (a : MA) : (mfs a).lookup ("costs" : Str) = some (.ref a.lc) := (lk_miss (by decide +kernel)).trans ((lk_miss (by decide +kernel)).trans (lk_hit (by decide +kernel)))
theorem mf_s (a : MA) : (mfs a).lookup ("spots" : Str) = some (.ref a.lo) := (lk_miss (by decide +kernel)).trans ((lk_miss (by decide +kernel)).trans ((lk_miss (by decide +kernel)).trans (lk_hit (by decide +kernel))))
theorem mf_n (a : MA) : (mfs a).lookup ("named" : Str) = some (.ref a.ln) := (lk_miss (by decide +kernel)).trans ((lk_miss (by decide +kernel)).trans ((lk_miss (by decide +kernel)).trans ((lk_miss (by decide +kernel)).trans (lk_hit (by decide +kernel)))))
theorem mf_no (a : MA) {m : Str} (h1 : (m == "wanted") = false) (h2 : (m == "bounty") = false) (h3 : (m == "costs") = false) (h4 : (m == "spots") = false) (h5 : (m == "named") = false) : (mfs a).lookup m = none :=
  (lk_miss h1).trans ((lk_miss h2).trans ((lk_miss h3).trans ((lk_miss h4).trans (lk_miss h5))))
/-- the object at m in the heap H -/
structure MObj (H : Hp) (CM m : Addr) (a : MA) (P : Prob) (s : Nat → Option Nat) (n : Nat → Int) : Prop where
  ob : H m = some (.ins CM a.dx (mfs a))
  wa : H a.lw = some (.lst (ls P.nP fun p => .int (P.want p)))
  bo : H a.lb = some (.lst (ls P.nP fun p => .int (P.bty p)))
  co : H a.lc = some (.lst (a.rows.map V.ref))
  rlen : a.rows.length = P.nH
  row : ∀ h r, a.rows[h]? = some r → H r = some (.lst (ls P.nP fun p => oI (P.cost h p)))
  sp : H a.lo = some (.lst (ls P.nH fun h => oN (s h)))
  nm : H a.ln = some (.lst (ls P.nP fun p => .int (n p)))
  szH : P.nH ≤ 1000
  szP : P.nP ≤ 1000
theorem MObj.mono {H H' : Hp} {CM m : Addr} {a : MA} {P : Prob} {s : Nat → Option Nat} {n : Nat → Int} (M : MObj H CM m a P s n) (S : Same H H') : MObj H' CM m a P s n :=
  ⟨S _ _ M.ob, S _ _ M.wa, S _ _ M.bo, S _ _ M.co, M.rlen, fun h r e => S _ _ (M.row h r e), S _ _ M.sp, S _ _ M.nm, M.szH, M.szP⟩
theorem MObj.rowAt {H : Hp} {CM m : Addr} {a : MA} {P : Prob} {s : Nat → Option Nat} {n : Nat → Int} (M : MObj H CM m a P s n) {h : Nat} (hh : h < P.nH) : ∃ r, atI (a.rows.map V.ref) (h : Int) = some (.ref r) ∧ H r = some (.lst (ls P.nP fun p => oI (P.cost h p))) := by
  have hl : h < a.rows.length := by rw [M.rlen]; exact hh
  have e : a.rows[h]? = some a.rows[h] := List.getElem?_eq_getElem hl
  exact ⟨_, at_of rfl (by rw [List.getElem?_map, e]; rfl), M.row h _ e⟩
theorem ls_ix {n p : Nat} {f : Nat → V} (h : p < n) : ixN (ls n f).length (p : Int) = some p := by
  unfold ixN
  rw [if_pos (by omega), if_pos (by rw [ls_len]; omega)]
  simp
theorem cD_of {P : Prob} {h p : Nat} {c : Int} (e : P.cost h p = some c) : cD P h p = c := by unfold cD; rw [e]; rfl
theorem ls_up {n p : Nat} {f : Nat → Int} {x : Int} : (ls n fun q => V.int (f q)).set p (.int x) = ls n fun q => V.int (up f p x q) := by
  rw [ls_set]
  refine ls_congr fun i _ => ?_
  unfold up
  split <;> rfl
theorem ls_upN {n p : Nat} {f : Nat → Option Nat} {x : Option Nat} : (ls n fun q => oN (f q)).set p (oN x) = ls n fun q => oN (up f p x q) := by
  rw [ls_set]
  refine ls_congr fun i _ => ?_
  unfold up
  split <;> rfl
def spFitP (CM : Addr) : Sp := fun vs H Q _ => ∃ (m : Addr) (a : MA) (P : Prob) (s : Nat → Option Nat) (n : Nat → Int) (h : Nat), vs = [.ref m, .int (h : Int)] ∧ MObj H CM m a P s n ∧ h < P.nH ∧
  ∀ H' q, Same H H' → H q = none → H' q = some (.lst ((fitPl P h).map fun p => V.int ((p : Nat) : Int))) → Q (.ref q) H'
/-- spots name fit places -/
def SpotOk (P : Prob) (s : Nat → Option Nat) : Prop := ∀ h, h < P.nH → ∀ p, s h = some p → p < P.nP ∧ (P.cost h p).isSome
def spRelax (CM : Addr) : Sp := fun vs H Q _ => ∃ (Ho : Hp) (m lf lv : Addr) (a : MA) (P : Prob) (s : Nat → Option Nat) (n : Nat → Int) (far : Nat → Int) (ways : Nat → Option Nat), vs = [.ref m, .ref lf, .ref lv] ∧ MObj Ho CM m a P s n ∧ SpotOk P s ∧
  Same Ho H ∧ Ho lf = none ∧ Ho lv = none ∧ lf ≠ lv ∧ H lf = some (.lst (ls P.nP fun p => .int (far p))) ∧ H lv = some (.lst (ls P.nP fun p => oN (ways p))) ∧
  ∀ H', Same Ho H' → H' lf = some (.lst (ls P.nP fun p => .int ((relaxR P s far ways).far p))) → H' lv = some (.lst (ls P.nP fun p => oN ((relaxR P s far ways).ways p))) → Q (.bl (relaxR P s far ways).sh) H'
section
variable {P : Program} {w : World} {K : PySem.W.Frag} {mg : Str → Option Value} {base : Heap} {CM CH CV aL : Addr}
theorem sc_Manning_fit_places : FnScope ["self", "hand", "place"] ["self", "hand"] (defScope s_Manning_fit_places) := ⟨rfl, rfl, rfl, by decide +kernel, rfl, by decide +kernel, by decide +kernel⟩
theorem m_Manning_fit_places (T : Txt K mg CM CH CV aL) : Met P w K mg base 1 CM "fit_places" (spFitP CM) := by
  refine met_of T.cls_Manning T.md_Manning_fit_places (fun _ _ _ _ _ _ us hl => match us, hl with | [_, _], _ => rfl) sc_Manning_fit_places (fun vs H Q E h => ?_) (fun f cdv A outer s H vs Q E hr h => ?_)
  · obtain ⟨_, _, _, _, _, _, rfl, _⟩ := h; rfl
  · obtain ⟨m, a, R, st, n, h, rfl, M, hh, k⟩ := h
    refine ⟨_, (pss_one (ps_ret (pe_lc (own := [("place", 2)]) rfl sc_Manning_fit_places.nd (pi_range1 (by rfl) T.b_range (pa_cons (pe_callB (call_len_seqK K) (by rfl) T.b_len PySem.boot_len (pa_cons (pe_fldK K (pv 0) rfl) pa_nil)) pa_nil)) (blkOk_by (own := [("place", 2)]) (N := ["self", "hand", "place"]) (sc := defScope s_Manning_fit_places) (by decide +kernel)) (fun _ _ _ _ _ => (pg_name (i := 2) sc_Manning_fit_places.nd rfl (Or.inl rfl))) (fun _ _ _ _ _ => (pts_one (pt_cmpR op_notN (pe_ix (ix_listK K) (pe_ix (ix_listK K) (pe_fldK K (pv 0) rfl) (pv 1) (fun _ _ => rfl)) (pv 2) (fun _ _ => rfl)) pe_non (nomark _)))) (fun _ _ _ _ _ => (pv 2))))), ?_⟩
    have hz := M.szP
    refine ⟨_, rfl, m, CM, a.dx, _, _, rfl, M.ob, T.cls_Manning, T.na_Manning_named, mf_n a, a.ln, _, rfl, .inl (sql_of M.nm), _, rfl, by omega, by rw [ls_len]; omega, fun D hD => ?_⟩
    obtain ⟨r, hr1, hr2⟩ := M.rowAt hh
    refine lc_run (walk_range0) (H0 := H) (fun j ac H4 => ac = ((List.range j).filter fun p => (R.cost h p).isSome).map fun p => V.int ((p : Nat) : Int)) (Same.refl _) hD (fun _ _ => rfl) (fun H4 S4 => trivial) ?_ ?_
    · rintro j x ac H4 H5 hj hD0 S4 e4 rfl ⟨rfl, rfl⟩
      rw [ls_len] at hj
      have hj : j < R.nP := by omega
      have M4 := M.mono S4
      refine ⟨rfl, ?_⟩
      refine ⟨_, rfl, m, CM, a.dx, _, _, rfl, M4.ob, T.cls_Manning, T.na_Manning_costs, mf_c a, _, rfl, a.lc, _, _, _, rfl, rfl, sql_of M4.co, hr1, _, rfl, r, _, _, _, rfl, rfl, sql_of (S4 _ _ hr2), ls_at hj, rfl, _, rfl, ?_⟩
      cases e : R.cost h j with
      | none =>
        refine iteF ?_
        refine lc_skip S4 (Same.refl _) e4 ?_
        simp [List.range_succ, List.filter_append, List.filter_cons, e]
      | some c =>
        refine iteT ?_
        refine ⟨_, rfl, lc_next hD0 S4 (Same.refl _) e4 ?_ fun H6 _ _ _ => ?_⟩
        · rw [List.length_map]
          have := List.length_filter_le (fun p => (R.cost h p).isSome) (List.range j)
          rw [List.length_range] at this
          omega
        · simp [List.range_succ, List.filter_append, List.filter_cons, e]
    · rintro ac H4 S4 e4 rfl
      refine k H4 D S4 hD ?_
      rw [e4, ls_len]
      rfl
/-- the ways of one hand, over its fit places -/
theorem relax_inner (T : Txt K mg CM CH CV aL) {Ho H3 : Hp} {m lf lv : Addr} {a : MA} {R : Prob} {st : Nat → Option Nat} {n : Nat → Int} (M : MObj Ho CM m a R st n) (of : Ho lf = none) (ov : Ho lv = none) (nfv : lf ≠ lv) {i : Nat} (hi : i < R.nH) {r : RS}
    {come : Int} {z5 z7 : Option V} {D : Ends} (S3 : Same Ho H3) (e1 : H3 lf = some (.lst (ls R.nP fun p => .int (r.far p)))) (e2 : H3 lv = some (.lst (ls R.nP fun p => oN (r.ways p))))
    (k : ∀ (r' : RS) (z7 : Option V) (H4 : Hp), r' = (fitPl R i).foldl (rlPlace R i come) r → Same Ho H4 → H4 lf = some (.lst (ls R.nP fun p => .int (r'.far p))) → H4 lv = some (.lst (ls R.nP fun p => oN (r'.ways p))) →
      D.nx [some (.ref m), some (.ref lf), some (.ref lv), some (.bl r'.sh), some (.int (i : Int)), z5, some (.int come), z7] H4) :
    tFor (iList K (tMeth CM "fit_places" (spFitP CM) [] C8.E0 (tVar 0) (tCons (tVar 4) tNil))) (gName 7) (tIfS (tTest (tOp (rI0 fun i j => V.bl (decide (i < j))) (tOp (rI0 fun i j => V.int (i + j)) (tVar 6) (tOp (rIxL K) (tOp (rIxL K) (tFld K (tVar 0) "costs") (tVar 4)) (tVar 7))) (tOp (rIxL K) (tVar 1) (tVar 7))))
      (tSeq (tAsg (tOp (rI0 fun i j => V.int (i + j)) (tVar 6) (tOp (rIxL K) (tOp (rIxL K) (tFld K (tVar 0) "costs") (tVar 4)) (tVar 7))) (gSub (tVar 1) (tVar 7) rSetL)) (tSeq (tAsg (tVar 4) (gSub (tVar 2) (tVar 7) rSetL)) (tAsg (tC (.bl true)) (gName 3)))) tNext)
      D [some (.ref m), some (.ref lf), some (.ref lv), some (.bl r.sh), some (.int (i : Int)), z5, some (.int come), z7] H3 := by
  have M3 := M.mono S3
  refine ⟨_, rfl, m, a.dx, _, rfl, M3.ob, mf_no a (by decide +kernel) (by decide +kernel) (by decide +kernel) (by decide +kernel) (by decide +kernel), _, rfl, m, a, R, st, n, i, rfl, M3, hi, fun H4 q S4 hq e4 => ?_⟩
  refine ⟨q, rfl, ⟨_, sql_of e4⟩, ?_⟩
  have nqf : q ≠ lf := (ne_of_none e1 hq).symm
  have nqv : q ≠ lv := (ne_of_none e2 hq).symm
  refine for_list (K := K) (a := q) (xs := (fitPl R i).map fun p => V.int ((p : Nat) : Int)) (fun j σ H5 => ∃ (r' : RS) (z7 : Option V), r' = ((fitPl R i).take j).foldl (rlPlace R i come) r ∧ Same Ho H5 ∧ H5 lf = some (.lst (ls R.nP fun p => .int (r'.far p))) ∧ H5 lv = some (.lst (ls R.nP fun p => oN (r'.ways p))) ∧
      H5 q = some (.lst ((fitPl R i).map fun p => V.int ((p : Nat) : Int))) ∧ σ = [some (.ref m), some (.ref lf), some (.ref lv), some (.bl r'.sh), some (.int (i : Int)), z5, some (.int come), z7])
    ⟨r, _, rfl, S3.trans S4, S4 _ _ e1, S4 _ _ e2, e4, rfl⟩ (fun j σ H5 _ ⟨_, _, _, _, _, _, e, _⟩ => sql_of e) ?_ ?_
  · rintro j x σ H5 hx ⟨r', z7, hr', S5, f1, f2, f3, rfl⟩
    rw [List.getElem?_map] at hx
    cases hy : (fitPl R i)[j]? with
    | none => rw [hy] at hx; cases hx
    | some p =>
      rw [hy] at hx
      have hx : V.int ((p : Nat) : Int) = x := Option.some.inj hx
      subst hx
      obtain ⟨hp, hc⟩ := mem_fitPl.mp (List.mem_of_getElem? hy)
      obtain ⟨c, hc⟩ := Option.isSome_iff_exists.mp hc
      have M5 := M.mono S5
      obtain ⟨rw_, hw1, hw2⟩ := M5.rowAt hi
      have hrow : atI (ls R.nP fun p => oI (R.cost i p)) (p : Int) = some (.int c) := by rw [ls_at hp, hc]; rfl
      have hstep : ((fitPl R i).take (j + 1)).foldl (rlPlace R i come) r = rlPlace R i come r' p := by rw [foldl_take_succ hy, ← hr']
      refine ⟨_, rfl, _, rfl, m, CM, a.dx, _, _, rfl, M5.ob, T.cls_Manning, T.na_Manning_costs, mf_c a, _, rfl, a.lc, _, _, _, rfl, rfl, sql_of M5.co, hw1, _, rfl, rw_, _, _, _, rfl, rfl, sql_of hw2, hrow, _, _, rfl, rfl,
        _, rfl, _, rfl, lf, _, _, _, rfl, rfl, sql_of f1, ls_at hp, _, _, rfl, rfl, _, rfl, ?_⟩
      refine ite2 (fun q1 => ?_) (fun q1 => ?_)
      · have q1 : come + c < r'.far p := of_decide_eq_true q1
        have hpl : rlPlace R i come r' p = ⟨up r'.far p (come + c), up r'.ways p (some i), true⟩ := by
          unfold rlPlace
          rw [cD_of hc, if_pos q1]
        refine ⟨_, rfl, _, rfl, m, CM, a.dx, _, _, rfl, M5.ob, T.cls_Manning, T.na_Manning_costs, mf_c a, _, rfl, a.lc, _, _, _, rfl, rfl, sql_of M5.co, hw1, _, rfl, rw_, _, _, _, rfl, rfl, sql_of hw2, hrow, _, _, rfl, rfl,
          _, rfl, _, rfl, lf, _, _, p, rfl, rfl, f1, ls_ix hp, ?_⟩
        refine ⟨_, rfl, _, rfl, _, rfl, lv, _, _, p, rfl, rfl, (by rw [upd_ne nfv.symm]; exact f2), ls_ix hp, ?_⟩
        refine ⟨_, some (.int (p : Int)), hstep.symm, (S5.mut of).mut ov, ?_, ?_, ?_, ?_⟩
        · rw [upd_ne nfv, upd_same, ls_up, hpl]
        · rw [upd_same, hpl]
          exact congrArg (fun l => some (HO.lst l)) (ls_upN (x := some i))
        · rw [upd_ne nqv, upd_ne nqf]; exact f3
        · rw [hpl]; rfl
      · have q1 : ¬ come + c < r'.far p := fun z => q1 (decide_eq_true z)
        have hpl : rlPlace R i come r' p = r' := by
          unfold rlPlace
          rw [cD_of hc, if_neg q1]
        refine ⟨_, some (.int (p : Int)), hstep.symm, S5, ?_, ?_, f3, ?_⟩
        · rw [hpl]; exact f1
        · rw [hpl]; exact f2
        · rw [hpl]; rfl
  · rintro σ H5 ⟨r', z7, hr', S5, f1, f2, f3, rfl⟩
    rw [List.length_map, List.take_length] at hr'
    exact k r' z7 H5 hr' S5 f1 f2
theorem sc_Manning_relax : FnScope ["self", "far", "ways", "shorter", "hand", "where", "come", "place"] ["self", "far", "ways"] (defScope s_Manning_relax) := ⟨rfl, rfl, rfl, by decide +kernel, rfl, by decide +kernel, by decide +kernel⟩
theorem m_Manning_relax (T : Txt K mg CM CH CV aL) : Met P w K mg base 2 CM "relax" (spRelax CM) := by
  have m_Manning_fit_places := m_Manning_fit_places (P := P) (w := w) (base := base) T
  refine met_of T.cls_Manning T.md_Manning_relax (fun _ _ _ _ _ _ us hl => match us, hl with | [_, _, _], _ => rfl) sc_Manning_relax (fun vs H Q E h => ?_) (fun f cdv A outer s H vs Q E hr h => ?_)
  · obtain ⟨_, _, _, _, _, _, _, _, _, _, rfl, _⟩ := h; rfl
  · obtain ⟨Ho, m, lf, lv, a, R, st, n, far, ways, rfl, M, hso, S0, of, ov, nfv, ef, ev, k⟩ := h
    refine ⟨_, (pss_cons (ps_set (i := 3) sc_Manning_relax.nd rfl (Or.inl rfl) pe_bl)
    (pss_cons (ps_for PassesOwn.never rfl (pi_enumK K (by rfl) T.b_enumerate (pa_cons (pe_fldK K (pv 0) rfl) pa_nil)) (pg_tupK K 2 rfl (pgs_cons (pg_name (i := 4) sc_Manning_relax.nd rfl (Or.inl rfl)) (pgs_cons (pg_name (i := 5) sc_Manning_relax.nd rfl (Or.inl rfl)) pgs_nil))) (pss_cons (ps_set (i := 6) sc_Manning_relax.nd rfl (Or.inl rfl) pe_int)
    (pss_cons (ps_if (pt_cmpR op_notN (pv 5) pe_non (nomark _)) (pss_one (ps_set (i := 6) sc_Manning_relax.nd rfl (Or.inl rfl) (pe_op op_sub (pe_ix (ix_listK K) (pv 1) (pv 5) (fun _ _ => rfl)) (pe_ix (ix_listK K) (pe_ix (ix_listK K) (pe_fldK K (pv 0) rfl) (pv 4) (fun _ _ => rfl)) (pv 5) (fun _ _ => rfl))))) pss_nil)
    (pss_one (ps_if (PW.pt (pw_or (pt_cmpR op_isN (pv 5) pe_non (nomark _)) (pw_or1 (pt_cmpR op_lt (pe_ix (ix_listK K) (pv 1) (pv 5) (fun _ _ => rfl)) (pe_gc rfl T.g_FAR) (nomark _))))) (pss_one (ps_for PassesOwn.never rfl (pi_listK K (pe_mt m_Manning_fit_places hr (by decide) (pv 0) (pa_cons (pv 4) pa_nil))) (pg_name (i := 7) sc_Manning_relax.nd rfl (Or.inl rfl)) (pss_one (ps_if (pt_cmpR op_lt (pe_op op_add (pv 6) (pe_ix (ix_listK K) (pe_ix (ix_listK K) (pe_fldK K (pv 0) rfl) (pv 4) (fun _ _ => rfl)) (pv 7) (fun _ _ => rfl))) (pe_ix (ix_listK K) (pv 1) (pv 7) (fun _ _ => rfl)) (nomark _)) (pss_cons (ps_asg (pe_op op_add (pv 6) (pe_ix (ix_listK K) (pe_ix (ix_listK K) (pe_fldK K (pv 0) rfl) (pv 4) (fun _ _ => rfl)) (pv 7) (fun _ _ => rfl))) (pg_sub (pv 1) (pv 7) set_list))
    (pss_cons (ps_asg (pv 4) (pg_sub (pv 2) (pv 7) set_list))
    (pss_one (ps_set (i := 3) sc_Manning_relax.nd rfl (Or.inl rfl) pe_bl)))) pss_nil)))) pss_nil)))))
    (pss_one (ps_ret (pv 3))))), ?_⟩
    have M0 := M.mono S0
    refine ⟨_, rfl, m, CM, a.dx, _, _, rfl, M0.ob, T.cls_Manning, T.na_Manning_spots, mf_s a, a.lo, _, rfl, sql_of M0.sp, ?_⟩
    refine for_it (walk_enum (K := K) (a := a.lo) (xs := ls R.nH fun h => oN (st h))) (fun i σ H1 => ∃ (r : RS) (z4 z5 z6 z7 : Option V), σ = [some (.ref m), some (.ref lf), some (.ref lv), some (.bl r.sh), z4, z5, z6, z7] ∧
      r = (List.range i).foldl (rlHand R st) ⟨far, ways, false⟩ ∧ Same Ho H1 ∧ H1 lf = some (.lst (ls R.nP fun p => .int (r.far p))) ∧ H1 lv = some (.lst (ls R.nP fun p => oN (r.ways p))))
      ⟨_, _, _, _, _, rfl, rfl, S0, ef, ev⟩ (fun i σ H1 _ ⟨_, _, _, _, _, _, _, S1, _, _⟩ => sql_of (S1 _ _ M.sp)) ?_ ?_
    · rintro i x σ H1 H2 hi ⟨r, z4, z5, z6, z7, rfl, hr0, S1, e1, e2⟩ ⟨t, x1, x2, rfl, ht, rfl, hx1, hx2⟩
      rw [ls_len] at hi
      cases hx1
      have hx2 : (ls R.nH fun h => oN (st h))[i]? = some x2 := hx2
      rw [ls_get hi] at hx2
      have hx2 : oN (st i) = x2 := Option.some.inj hx2
      subst hx2
      have St : Same H1 (upd H1 t (.tup [.int ((i : Nat) : Int), oN (st i)])) := Same.new ht
      have et : upd H1 t (.tup [.int ((i : Nat) : Int), oN (st i)]) t = some (.tup [.int ((i : Nat) : Int), oN (st i)]) := upd_same
      generalize hH2 : upd H1 t (.tup [.int ((i : Nat) : Int), oN (st i)]) = H2 at St et ⊢
      have S2 := S1.trans St
      have M2 := M.mono S2
      have e12 := St _ _ e1
      have e22 := St _ _ e2
      obtain ⟨rw_, hw1, hw2⟩ := M2.rowAt hi
      have hfold : (List.range (i + 1)).foldl (rlHand R st) ⟨far, ways, false⟩ = rlHand R st r i := by rw [List.range_succ, List.foldl_append, ← hr0]; rfl
      refine ⟨t, _, rfl, sqt_of et, rfl, _, _, rfl, _, _, rfl, rfl, ?_⟩
      cases hs : st i with
      | none =>
        refine ⟨_, rfl, rfl, _, rfl, iteF ?_⟩
        refine ⟨_, rfl, rfl, _, rfl, ?_⟩
        refine iteT (iteT ?_)
        refine relax_inner T M of ov nfv hi S2 e12 e22 fun r' z7 H4 hr' S4 f1 f2 => ?_
        refine ⟨r', _, _, _, _, rfl, ?_, S4, f1, f2⟩
        rw [hfold, hr']
        unfold rlHand comeOf
        rw [hs]
      | some w =>
        obtain ⟨hw, hc⟩ := hso i hi w hs
        obtain ⟨c, hc⟩ := Option.isSome_iff_exists.mp hc
        have hrow : atI (ls R.nP fun p => oI (R.cost i p)) (w : Int) = some (.int c) := by rw [ls_at hw, hc]; rfl
        refine ⟨_, rfl, rfl, _, rfl, iteT ?_⟩
        refine ⟨_, rfl, _, rfl, lf, _, _, _, rfl, rfl, sql_of e12, ls_at hw, _, rfl, m, CM, a.dx, _, _, rfl, M2.ob, T.cls_Manning, T.na_Manning_costs, mf_c a, _, rfl, a.lc, _, _, _, rfl, rfl, sql_of M2.co, hw1, _, rfl, rw_, _, _, _, rfl, rfl, sql_of hw2, hrow, _, _, rfl, rfl, ?_⟩
        refine ⟨_, rfl, rfl, _, rfl, iteF ?_⟩
        refine ⟨_, rfl, _, rfl, lf, _, _, _, rfl, rfl, sql_of e12, ls_at hw, _, _, rfl, rfl, _, rfl, ?_⟩
        refine ite2 (fun q1 => ?_) (fun q1 => ?_)
        · have q1 : r.far w < 1000000000000 := of_decide_eq_true q1
          refine relax_inner T M of ov nfv hi S2 e12 e22 fun r' z7 H4 hr' S4 f1 f2 => ?_
          refine ⟨r', _, _, _, _, rfl, ?_, S4, f1, f2⟩
          rw [hfold, hr']
          unfold rlHand comeOf
          rw [hs]
          simp only [cD_of hc, farV, if_pos q1]
        · have q1 : ¬ r.far w < 1000000000000 := fun z => q1 (decide_eq_true z)
          refine ⟨r, _, _, _, _, rfl, ?_, S2, e12, e22⟩
          have hn : comeOf R st r.far i = none := by
            unfold comeOf
            rw [hs]
            exact if_neg q1
          rw [hfold]
          unfold rlHand
          rw [hn]
    · rintro σ H1 ⟨r, z4, z5, z6, z7, rfl, hr0, S1, e1, e2⟩
      rw [ls_len] at hr0
      refine ⟨_, rfl, ?_⟩
      have : r = relaxR R st far ways := hr0
      rw [this] at e1 e2 ⊢
      exact k _ S1 e1 e2
end
end WS
/-! The posts' reckoning: the cheapest way, one hand more, all hands. -/
namespace WS
open PySem PySem.Spec PyProof.Rows L2 WM
open C8 (pe_gc pe_c pe_mk pe_mt pe_mt0)
structure Small (P : Prob) : Prop where
  cost : ∀ h p, h < P.nH → p < P.nP → (P.cost h p).isSome → 0 ≤ cD P h p ∧ cD P h p ≤ 107
  bty : ∀ p, p < P.nP → P.bty p ≤ 100000000
  szP : P.nP ≤ 1000
theorem Small.big {P : Prob} (h : Small P) : (107 : Int) * P.nP + 107 < farV := by
  have := h.szP
  unfold farV
  omega
theorem _root_.WM.Sit.spot {P : Prob} {s : Nat → Option Nat} {n : Nat → Int} (S : Sit P s n) : SpotOk P s := S.ok
theorem relax_same {P : Prob} {s : Nat → Option Nat} {far : Nat → Int} {ways : Nat → Option Nat} (e : (relaxR P s far ways).sh = false) : relaxR P s far ways = ⟨far, ways, false⟩ := by
  unfold relaxR at e ⊢
  exact (fold_flag (fun r x => fl_hand r x) (fun r x => fl_hand_up r x) e).1
def spCheap (K : PySem.W.Frag) (CM : Addr) : Sp := fun vs H Q _ => ∃ (m : Addr) (a : MA) (P : Prob) (s : Nat → Option Nat) (n : Nat → Int), vs = [.ref m] ∧ MObj H CM m a P s n ∧ Small P ∧ Sit P s n ∧ (∃ v y t, Pot P s n v y t) ∧
  ∀ H' q lv far ways, Same H H' → CheapR P s far ways → H lv = none → H' lv = some (.lst (ls P.nP fun p => oN (ways p))) → SqT K H' q [oN (bestOf P far n).1, .ref lv] → Q (.ref q) H'
/-- the changing lists stand apart -/
structure MApart (m : Addr) (a : MA) : Prop where
  on : a.lo ≠ a.ln
  o : a.lo ≠ m ∧ a.lo ≠ a.lw ∧ a.lo ≠ a.lb ∧ a.lo ≠ a.lc ∧ a.lo ∉ a.rows
  n : a.ln ≠ m ∧ a.ln ≠ a.lw ∧ a.ln ≠ a.lb ∧ a.ln ≠ a.lc ∧ a.ln ∉ a.rows
def But2 (a : MA) (H H' : Hp) : Prop := ∀ x o, x ≠ a.lo → x ≠ a.ln → H x = some o → H' x = some o
theorem But2.refl (a : MA) (H : Hp) : But2 a H H := fun _ _ _ _ h => h
theorem But2.trans {a : MA} {H H1 H2 : Hp} (h : But2 a H H1) (k : But2 a H1 H2) : But2 a H H2 := fun x o h1 h2 e => k x o h1 h2 (h x o h1 h2 e)
theorem But2.same {a : MA} {H H1 : Hp} (h : Same H H1) : But2 a H H1 := fun x o _ _ e => h x o e
theorem MObj.setS {H H' : Hp} {CM m : Addr} {a : MA} {P : Prob} {s s' : Nat → Option Nat} {n : Nat → Int} (M : MObj H CM m a P s n) (A : MApart m a) (e : H' a.lo = some (.lst (ls P.nH fun h => oN (s' h)))) (k : ∀ b o, b ≠ a.lo → H b = some o → H' b = some o) : MObj H' CM m a P s' n :=
  ⟨k _ _ A.o.1.symm M.ob, k _ _ A.o.2.1.symm M.wa, k _ _ A.o.2.2.1.symm M.bo, k _ _ A.o.2.2.2.1.symm M.co, M.rlen, fun h r hr => k _ _ (fun z => A.o.2.2.2.2 (z ▸ List.mem_of_getElem? hr)) (M.row h r hr), e, k _ _ A.on.symm M.nm, M.szH, M.szP⟩
theorem MObj.setN {H H' : Hp} {CM m : Addr} {a : MA} {P : Prob} {s : Nat → Option Nat} {n n' : Nat → Int} (M : MObj H CM m a P s n) (A : MApart m a) (e : H' a.ln = some (.lst (ls P.nP fun p => .int (n' p)))) (k : ∀ b o, b ≠ a.ln → H b = some o → H' b = some o) : MObj H' CM m a P s n' :=
  ⟨k _ _ A.n.1.symm M.ob, k _ _ A.n.2.1.symm M.wa, k _ _ A.n.2.2.1.symm M.bo, k _ _ A.n.2.2.2.1.symm M.co, M.rlen, fun h r hr => k _ _ (fun z => A.n.2.2.2.2 (z ▸ List.mem_of_getElem? hr)) (M.row h r hr), k _ _ A.on M.sp, e, M.szH, M.szP⟩
theorem upd_keep {H : Hp} {p : Addr} {o : HO} : ∀ b u, b ≠ p → H b = some u → upd H p o b = some u := fun b u hb e => by rw [upd_ne hb]; exact e
/-- a chain of posts to be gone along -/
structure WayL (P : Prob) (s : Nat → Option Nat) (ways : Nat → Option Nat) (b : Nat) (L : List (Nat × Nat)) : Prop where
  ch : ChainL s ways b L
  nd : (L.map Prod.snd).Nodup
  inn : ∀ e, e ∈ L → e.1 < P.nP ∧ e.2 < P.nH
def spPut (CM : Addr) : Sp := fun vs H Q _ => ∃ (m lv : Addr) (a : MA) (P : Prob) (s : Nat → Option Nat) (n : Nat → Int) (ways : Nat → Option Nat) (b : Nat) (L : List (Nat × Nat)), vs = [.ref m, .int (b : Int), .ref lv] ∧ MObj H CM m a P s n ∧ MApart m a ∧
  lv ≠ a.lo ∧ lv ≠ a.ln ∧ H lv = some (.lst (ls P.nP fun p => oN (ways p))) ∧ b < P.nP ∧ WayL P s ways b L ∧
  ∀ H', But2 a H H' → MObj H' CM m a P (applyL s L) (up n b (n b + 1)) → Q .non H'
theorem rep_one (n : Nat) (v : V) : (List.replicate n [v]).flatten = ls n fun _ => v := by
  induction n with
  | zero => rfl
  | succ n ih =>
    rw [List.replicate_succ, List.flatten_cons, ih]
    unfold ls
    rw [List.range_succ_eq_map]
    simp [Function.comp_def]
theorem chain_head {s : Nat → Option Nat} {ways : Nat → Option Nat} {p : Nat} {L : List (Nat × Nat)} (c : ChainL s ways p L) : ∃ h L', L = (p, h) :: L' ∧ ways p = some h ∧ ((s h = none ∧ L' = []) ∨ ∃ q, s h = some q ∧ ChainL s ways q L') := by
  cases c with
  | root h1 h2 => exact ⟨_, _, rfl, h1, .inl ⟨h2, rfl⟩⟩
  | next h1 h2 h3 => exact ⟨_, _, rfl, h1, .inr ⟨_, h2, h3⟩⟩
theorem applyL_snoc {s : Nat → Option Nat} {L : List (Nat × Nat)} {e : Nat × Nat} : applyL s (L ++ [e]) = up (applyL s L) e.2 (some e.1) := by
  unfold applyL
  rw [List.foldl_append]
  rfl
section
variable {P : Program} {w : World} {K : PySem.W.Frag} {mg : Str → Option Value} {base : Heap} {CM CH CV aL : Addr}
theorem sc_Manning_cheapest : FnScope ["self", "far", "ways", "best", "least", "place", "many"] ["self"] (defScope s_Manning_cheapest) := ⟨rfl, rfl, rfl, by decide +kernel, rfl, by decide +kernel, by decide +kernel⟩
theorem m_Manning_cheapest (T : Txt K mg CM CH CV aL) : Met P w K mg base 3 CM "cheapest" (spCheap K CM) := by
  have m_Manning_relax := m_Manning_relax (P := P) (w := w) (base := base) T
  refine met_of T.cls_Manning T.md_Manning_cheapest (fun _ _ _ _ _ _ us hl => match us, hl with | [_], _ => rfl) sc_Manning_cheapest (fun vs H Q E h => ?_) (fun f cdv A outer s H vs Q E hr h => ?_)
  · obtain ⟨_, _, _, _, _, rfl, _⟩ := h; rfl
  · obtain ⟨m, a, R, st, n, rfl, M, Sm, Si, ⟨v, y, t, Pt⟩, k⟩ := h
    have hz := M.szP
    refine ⟨_, (pss_cons (ps_set (i := 1) sc_Manning_cheapest.nd rfl (Or.inl rfl) (pe_op op_rep (pe_lst (pa_cons (pe_gc rfl T.g_FAR) pa_nil)) (pe_callB (call_len_seqK K) (by rfl) T.b_len PySem.boot_len (pa_cons (pe_fldK K (pv 0) rfl) pa_nil))))
    (pss_cons (ps_set (i := 2) sc_Manning_cheapest.nd rfl (Or.inl rfl) (pe_op op_rep (pe_lst (pa_cons pe_non pa_nil)) (pe_callB (call_len_seqK K) (by rfl) T.b_len PySem.boot_len (pa_cons (pe_fldK K (pv 0) rfl) pa_nil))))
    (pss_cons (ps_while PassesOwn.never (pt_val (pe_mt m_Manning_relax hr (by decide) (pv 0) (pa_cons (pv 1) (pa_cons (pv 2) pa_nil)))) (pss_one ps_continue))
    (pss_cons (ps_asg (pe_tup (pa_cons pe_non (pa_cons pe_int pa_nil))) (pg_tupK K 2 rfl (pgs_cons (pg_name (i := 3) sc_Manning_cheapest.nd rfl (Or.inl rfl)) (pgs_cons (pg_name (i := 4) sc_Manning_cheapest.nd rfl (Or.inl rfl)) pgs_nil))))
    (pss_cons (ps_for PassesOwn.never rfl (pi_enumK K (by rfl) T.b_enumerate (pa_cons (pe_fldK K (pv 0) rfl) pa_nil)) (pg_tupK K 2 rfl (pgs_cons (pg_name (i := 5) sc_Manning_cheapest.nd rfl (Or.inl rfl)) (pgs_cons (pg_name (i := 6) sc_Manning_cheapest.nd rfl (Or.inl rfl)) pgs_nil))) (pss_one (ps_if (PW.pt (pw_and (pt_cmpR op_lt (pe_ix (ix_listK K) (pv 1) (pv 5) (fun _ _ => rfl)) (pe_gc rfl T.g_FAR) (nomark _)) (pw_and (pt_cmpR op_lt (pe_ix (ix_listK K) (pe_fldK K (pv 0) rfl) (pv 5) (fun _ _ => rfl)) (pv 6) (nomark _)) (pw_and1 (pt_cmpR op_lt (pe_op op_sub (pe_ix (ix_listK K) (pv 1) (pv 5) (fun _ _ => rfl)) (pe_ix (ix_listK K) (pe_fldK K (pv 0) rfl) (pv 5) (fun _ _ => rfl))) (pv 4) (nomark _)))))) (pss_one (ps_par (i := 3) (j := 4) rfl sc_Manning_cheapest.nd rfl rfl (by decide) rfl rfl (pa_cons (pv 5) (pa_cons (pe_op op_sub (pe_ix (ix_listK K) (pv 1) (pv 5) (fun _ _ => rfl)) (pe_ix (ix_listK K) (pe_fldK K (pv 0) rfl) (pv 5) (fun _ _ => rfl))) pa_nil)) (by rfl))) pss_nil)))
    (pss_one (ps_ret (pe_tup (pa_cons (pv 3) (pa_cons (pv 2) pa_nil)))))))))), ?_⟩
    refine ⟨by show 1 ≤ sizeLine; decide, fun p1 hp1 => newG hp1 fun H1 S1 e1 => ?_⟩
    have M1 := M.mono S1
    refine ⟨_, rfl, m, CM, a.dx, _, _, rfl, M1.ob, T.cls_Manning, T.na_Manning_named, mf_n a, a.ln, _, rfl, .inl (sql_of M1.nm), p1, _, _, rfl, rfl, e1, by rw [ls_len]; omega, by rw [ls_len]; omega, sz100 (by rw [ls_len]; simp; omega), fun lf hlf => newG hlf fun H2 S2 e2 => ?_⟩
    have M2 := M1.mono S2
    refine ⟨by show 1 ≤ sizeLine; decide, fun p3 hp3 => newG hp3 fun H3 S3 e3 => ?_⟩
    have M3 := M2.mono S3
    refine ⟨_, rfl, m, CM, a.dx, _, _, rfl, M3.ob, T.cls_Manning, T.na_Manning_named, mf_n a, a.ln, _, rfl, .inl (sql_of M3.nm), p3, _, _, rfl, rfl, e3, by rw [ls_len]; omega, by rw [ls_len]; omega, sz100 (by rw [ls_len]; simp; omega), fun lv hlv => newG hlv fun H4 S4 e4 => ?_⟩
    have M4 := M3.mono S4
    have S13 := (S1.trans S2).trans S3
    have hlf0 : H lf = none := S1.free hlf
    have hlv0 : H lv = none := S13.free hlv
    have e24 : H4 lf = some (.lst (ls R.nP fun _ => .int 1000000000000)) := by
      rw [S4 _ _ (S3 _ _ e2), ls_len]
      exact congrArg (fun l => some (HO.lst l)) (rep_one _ _)
    have nfv : lf ≠ lv := ne_of_none (S3 _ _ e2) hlv
    have e4' : H4 lv = some (.lst (ls R.nP fun p => oN (ways0 p))) := by
      rw [e4, ls_len]
      exact congrArg (fun l => some (HO.lst l)) (rep_one _ _)
    refine wh_go (m := relM R y far0) (fun i σ H5 => ∃ (far : Nat → Int) (ways : Nat → Option Nat), i = relM R y far ∧ Steps (relStep R st) (far0, ways0) (far, ways) ∧ (∃ τ T, RI R st y far ways τ T) ∧ Same H H5 ∧ H5 lf = some (.lst (ls R.nP fun p => .int (far p))) ∧ H5 lv = some (.lst (ls R.nP fun p => oN (ways p))) ∧
      σ = [some (.ref m), some (.ref lf), some (.ref lv), none, none, none, none]) ⟨far0, ways0, rfl, .refl _, ⟨_, _, ri_start⟩, S13.trans S4, e24, e4', rfl⟩ ?_
    rintro i σ H5 ⟨far, ways, rfl, hst, hI, S5, f1, f2, rfl⟩
    have M5 := M.mono S5
    refine ⟨_, rfl, m, a.dx, _, rfl, M5.ob, mf_no a (by decide +kernel) (by decide +kernel) (by decide +kernel) (by decide +kernel) (by decide +kernel), _, rfl, _, rfl, H, m, lf, lv, a, R, st, n, far, ways, rfl, M, Si.spot, S5, hlf0, hlv0, nfv, f1, f2, fun H6 S6 g1 g2 => ⟨_, rfl, ?_⟩⟩
    cases hsh : (relaxR R st far ways).sh with
    | true =>
      refine iteT ?_
      obtain ⟨τ, T', I⟩ := ri_relax Pt Si hI
      refine ⟨fun σ' H' => ∃ m', m' < relM R y far ∧ _, fun _ _ h => h, ?_⟩
      refine ⟨relM R y (relaxR R st far ways).far, relM_fall I (fall_relax hsh), _, _, rfl, hst.tail ?_, ⟨τ, T', I⟩, S6, g1, g2, rfl⟩
      unfold relStep
      simp only [hsh, if_true]
    | false =>
      refine iteF ?_
      rw [relax_same hsh] at g1 g2
      have hch : CheapR R st far ways := by
        refine ⟨hst, ?_⟩
        unfold relStep
        simp only [hsh]
        rfl
      have M6 := M.mono S6
      refine ⟨by show 2 ≤ sizeLine; decide, fun p7 hp7 => newG hp7 fun H7 S7 e7 => ?_⟩
      refine ⟨_, _, rfl, sqt_of e7, rfl, _, _, rfl, _, _, rfl, rfl, ?_⟩
      have S67 := S6.trans S7
      have M7 := M.mono S67
      refine ⟨_, rfl, m, CM, a.dx, _, _, rfl, M7.ob, T.cls_Manning, T.na_Manning_wanted, mf_w a, a.lw, _, rfl, sql_of M7.wa, ?_⟩
      refine for_it (walk_enum (K := K) (a := a.lw) (xs := ls R.nP fun p => .int (R.want p))) (fun j σ H8 => ∃ (z5 z6 : Option V), σ = [some (.ref m), some (.ref lf), some (.ref lv), some (oN ((List.range j).foldl (bestStep R far n) (none, 0)).1), some (.int ((List.range j).foldl (bestStep R far n) (none, 0)).2), z5, z6] ∧
        Same H H8 ∧ H8 lf = some (.lst (ls R.nP fun p => .int (far p))) ∧ H8 lv = some (.lst (ls R.nP fun p => oN (ways p)))) ⟨_, _, rfl, S67, S7 _ _ g1, S7 _ _ g2⟩ (fun j σ H8 _ ⟨_, _, _, S8, _, _⟩ => sql_of (S8 _ _ M.wa)) ?_ ?_
      · rintro j x σ H8 H9 hj ⟨z5, z6, rfl, S8, k1, k2⟩ ⟨tt, x1, x2, rfl, ht, rfl, hx1, hx2⟩
        rw [ls_len] at hj
        cases hx1
        have hx2 : (ls R.nP fun p => V.int (R.want p))[j]? = some x2 := hx2
        rw [ls_get hj] at hx2
        have hx2 : V.int (R.want j) = x2 := Option.some.inj hx2
        subst hx2
        have St : Same H8 (upd H8 tt (.tup [.int ((j : Nat) : Int), .int (R.want j)])) := Same.new ht
        have et : upd H8 tt (.tup [.int ((j : Nat) : Int), .int (R.want j)]) tt = some (.tup [.int ((j : Nat) : Int), .int (R.want j)]) := upd_same
        generalize hH9 : upd H8 tt (.tup [.int ((j : Nat) : Int), .int (R.want j)]) = H9 at St et ⊢
        have S9 := S8.trans St
        have M9 := M.mono S9
        have k19 := St _ _ k1
        have k29 := St _ _ k2
        refine ⟨tt, _, rfl, sqt_of et, rfl, _, _, rfl, _, _, rfl, rfl, ?_⟩
        have hfold : (List.range (j + 1)).foldl (bestStep R far n) (none, 0) = bestStep R far n ((List.range j).foldl (bestStep R far n) (none, 0)) j := by rw [List.range_succ, List.foldl_append]; rfl
        generalize (List.range j).foldl (bestStep R far n) (none, 0) = bl at hfold ⊢
        have no : ¬ (far j < farV ∧ n j < R.want j ∧ far j - R.bty j < bl.2) → ∃ (z5 z6 : Option V), ([some (.ref m), some (.ref lf), some (.ref lv), some (oN bl.1), some (.int bl.2), some (.int ((j : Nat) : Int)), some (.int (R.want j))] : L2.St) = [some (.ref m), some (.ref lf), some (.ref lv), some (oN ((List.range (j + 1)).foldl (bestStep R far n) (none, 0)).1), some (.int ((List.range (j + 1)).foldl (bestStep R far n) (none, 0)).2), z5, z6] ∧
            Same H H9 ∧ H9 lf = some (.lst (ls R.nP fun p => .int (far p))) ∧ H9 lv = some (.lst (ls R.nP fun p => oN (ways p))) := fun hc => by
          refine ⟨some (.int ((j : Nat) : Int)), some (.int (R.want j)), ?_, S9, k19, k29⟩
          rw [hfold]
          unfold bestStep
          rw [if_neg hc]
        refine ⟨_, rfl, _, rfl, lf, _, _, _, rfl, rfl, sql_of k19, ls_at hj, _, _, rfl, rfl, _, rfl, ?_⟩
        refine ite2 (fun q1 => ?_) (fun q1 => ?_)
        · have q1 : far j < 1000000000000 := of_decide_eq_true q1
          refine ⟨_, rfl, m, CM, a.dx, _, _, rfl, M9.ob, T.cls_Manning, T.na_Manning_named, mf_n a, _, rfl, a.ln, _, _, _, rfl, rfl, sql_of M9.nm, ls_at hj, _, rfl, _, _, rfl, rfl, _, rfl, ?_⟩
          refine ite2 (fun q2 => ?_) (fun q2 => ?_)
          · have q2 : n j < R.want j := of_decide_eq_true q2
            refine ⟨_, rfl, _, rfl, lf, _, _, _, rfl, rfl, sql_of k19, ls_at hj, _, rfl, m, CM, a.dx, _, _, rfl, M9.ob, T.cls_Manning, T.na_Manning_bounty, mf_b a, _, rfl, a.lb, _, _, _, rfl, rfl, sql_of M9.bo, ls_at hj, _, _, rfl, rfl, _, rfl, _, _, rfl, rfl, _, rfl, ?_⟩
            refine ite2 (fun q3 => ?_) (fun q3 => ?_)
            · have q3 : far j - R.bty j < bl.2 := of_decide_eq_true q3
              refine ⟨_, rfl, _, rfl, _, rfl, lf, _, _, _, rfl, rfl, sql_of k19, ls_at hj, _, rfl, m, CM, a.dx, _, _, rfl, M9.ob, T.cls_Manning, T.na_Manning_bounty, mf_b a, _, rfl, a.lb, _, _, _, rfl, rfl, sql_of M9.bo, ls_at hj, _, _, rfl, rfl, _, _, rfl, ?_⟩
              refine ⟨some (.int ((j : Nat) : Int)), some (.int (R.want j)), ?_, S9, k19, k29⟩
              rw [hfold]
              unfold bestStep
              rw [if_pos ⟨q1, q2, q3⟩]
              rfl
            · exact no fun z => q3 (decide_eq_true z.2.2)
          · exact iteF (no fun z => q2 (decide_eq_true z.2.1))
        · exact iteF (no fun z => q1 (decide_eq_true z.1))
      · rintro σ H8 ⟨z5, z6, rfl, S8, k1, k2⟩
        rw [ls_len]
        refine ⟨_, rfl, _, rfl, by show 2 ≤ sizeLine; decide, fun q hq => newG hq fun H9 S9 e9 => ?_⟩
        exact k H9 q lv far ways (S8.trans S9) hch hlv0 (S9 _ _ k2) (sqt_of e9)
theorem sc_Manning_put_along : FnScope ["self", "place", "ways", "hand", "ahead"] ["self", "place", "ways"] (defScope s_Manning_put_along) := ⟨rfl, rfl, rfl, by decide +kernel, rfl, by decide +kernel, by decide +kernel⟩
theorem m_Manning_put_along (T : Txt K mg CM CH CV aL) : Met P w K mg base 1 CM "put_along" (spPut CM) := by
  refine met_of T.cls_Manning T.md_Manning_put_along (fun _ _ _ _ _ _ us hl => match us, hl with | [_, _, _], _ => rfl) sc_Manning_put_along (fun vs H Q E h => ?_) (fun f cdv A outer s H vs Q E hr h => ?_)
  · obtain ⟨_, _, _, _, _, _, _, _, _, rfl, _⟩ := h; rfl
  · obtain ⟨m, lv, a, R, st, n, ways, b, L, rfl, M, Ap, nvo, nvn, ev, hb, W, k⟩ := h
    obtain ⟨hch, hnd, hin⟩ := W
    refine ⟨_, (pss_cons (ps_augS (pe_fldK K (pv 0) rfl) (pv 1) (get_listK K) pe_int ip_add set_list)
    (pss_one (ps_while PassesOwn.never (pt_cmpR op_notN (pv 1) pe_non (nomark _)) (pss_cons (ps_set (i := 3) sc_Manning_put_along.nd rfl (Or.inl rfl) (pe_ix (ix_listK K) (pv 2) (pv 1) (fun _ _ => rfl)))
    (pss_cons (ps_set (i := 4) sc_Manning_put_along.nd rfl (Or.inl rfl) (pe_ix (ix_listK K) (pe_fldK K (pv 0) rfl) (pv 3) (fun _ _ => rfl)))
    (pss_cons (ps_asg (pv 1) (pg_sub (pe_fldK K (pv 0) rfl) (pv 3) set_list))
    (pss_one (ps_set (i := 1) sc_Manning_put_along.nd rfl (Or.inl rfl) (pv 4))))))))), ?_⟩
    refine ⟨_, rfl, m, CM, a.dx, _, _, rfl, M.ob, T.cls_Manning, T.na_Manning_named, mf_n a, _, rfl, a.ln, _, b, .int (n b), rfl, rfl, sql_of M.nm, ls_get hb, n b, 1, rfl, rfl, a.ln, _, _, b, rfl, rfl, M.nm, ls_ix hb, ?_⟩
    have M1 : MObj (upd H a.ln (.lst ((ls R.nP fun p => V.int (n p)).set b (.int (n b + 1))))) CM m a R st (up n b (n b + 1)) := M.setN Ap (by rw [upd_same, ls_up]) upd_keep
    have B1 : But2 a H (upd H a.ln (.lst ((ls R.nP fun p => V.int (n p)).set b (.int (n b + 1))))) := fun x o h1 h2 e => upd_keep x o h2 e
    generalize upd H a.ln (.lst ((ls R.nP fun p => V.int (n p)).set b (.int (n b + 1)))) = H1 at M1 B1 ⊢
    obtain ⟨h0, L0, hL0, _, _⟩ := chain_head hch
    refine wh_go (m := L.length) (fun i σ H2 => ∃ (done rest : List (Nat × Nat)) (z3 z4 : Option V), L = done ++ rest ∧ i = rest.length ∧ (rest = [] ∨ ∃ p, ChainL st ways p rest) ∧ MObj H2 CM m a R (applyL st done) (up n b (n b + 1)) ∧ But2 a H H2 ∧
      σ = [some (.ref m), some (oN (rest.head?.map Prod.fst)), some (.ref lv), z3, z4]) ⟨[], L, none, none, rfl, rfl, .inr ⟨b, hch⟩, M1, B1, by rw [hL0]; rfl⟩ ?_
    rintro i σ H2 ⟨done, rest, z3, z4, hL, rfl, hr1, M2, B2, rfl⟩
    cases hrest : rest with
    | nil =>
      subst hrest
      refine ⟨_, rfl, rfl, _, rfl, iteF ?_⟩
      rw [List.append_nil] at hL
      subst hL
      exact k H2 B2 M2
    | cons e rest' =>
      subst hrest
      obtain ⟨p, hc⟩ := hr1.resolve_left (by simp)
      obtain ⟨hd, R', hR, hw, hor⟩ := chain_head hc
      injection hR with hR1 hR2
      subst hR1 hR2
      have hmem : (p, hd) ∈ L := by rw [hL]; simp
      obtain ⟨hp, hh⟩ := hin _ hmem
      have hp : p < R.nP := hp
      have hh : hd < R.nH := hh
      have hnot : hd ∉ done.map Prod.snd := by
        rw [hL, List.map_append, List.map_cons, List.nodup_append] at hnd
        intro z
        exact hnd.2.2 _ z _ (by simp) rfl
      have e2 := B2 lv _ nvo nvn ev
      refine ⟨_, rfl, rfl, _, rfl, iteT ?_⟩
      refine ⟨fun σ' H' => ∃ m', m' < ((p, hd) :: rest').length ∧ _, fun _ _ h => h, ?_⟩
      have ixw : atI (ls R.nP fun p => oN (ways p)) (p : Int) = some (.int ((hd : Nat) : Int)) := by rw [ls_at hp, hw]; rfl
      refine ⟨_, rfl, _, rfl, lv, _, _, _, rfl, rfl, sql_of e2, ixw, ?_⟩
      refine ⟨_, rfl, m, CM, a.dx, _, _, rfl, M2.ob, T.cls_Manning, T.na_Manning_spots, mf_s a, _, rfl, a.lo, _, _, _, rfl, rfl, sql_of M2.sp, ls_at hh, ?_⟩
      refine ⟨_, rfl, _, rfl, m, CM, a.dx, _, _, rfl, M2.ob, T.cls_Manning, T.na_Manning_spots, mf_s a, _, rfl, a.lo, _, _, hd, rfl, rfl, M2.sp, ls_ix hh, ?_⟩
      refine ⟨_, rfl, ?_⟩
      refine ⟨rest'.length, by simp, done ++ [(p, hd)], rest', some (.int ((hd : Nat) : Int)), some (oN (applyL st done hd)), by rw [hL]; simp, rfl, ?_, ?_, ?_, ?_⟩
      · rcases hor with ⟨_, rfl⟩ | ⟨q, _, hq⟩
        · exact .inl rfl
        · exact .inr ⟨q, hq⟩
      · refine M2.setS Ap ?_ upd_keep
        rw [upd_same, applyL_snoc]
        exact congrArg (fun l => some (HO.lst l)) (ls_upN (x := some p))
      · exact B2.trans fun x o h1 h2 e => upd_keep x o h1 e
      · rw [applyL_not hnot]
        rcases hor with ⟨e1, rfl⟩ | ⟨q, e1, hq⟩
        · rw [e1]; rfl
        · obtain ⟨h2, L2, rfl, _, _⟩ := chain_head hq
          rw [e1]; rfl
def spFill (CM : Addr) : Sp := fun vs H Q _ => ∃ (m : Addr) (a : MA) (P : Prob) (s : Nat → Option Nat) (n : Nat → Int), vs = [.ref m] ∧ MObj H CM m a P s n ∧ MApart m a ∧ Small P ∧ Sit P s n ∧ (∃ v y t, Pot P s n v y t) ∧
  ∀ H' s' n', But2 a H H' → MObj H' CM m a P s' n' → FillR P (s, n) (s', n') → Sit P s' n' → (∃ v y, Pot P s' n' v y 0) → Q .non H'
theorem sc_Manning_fill : FnScope ["self", "best", "ways"] ["self"] (defScope s_Manning_fill) := ⟨rfl, rfl, rfl, by decide +kernel, rfl, by decide +kernel, by decide +kernel⟩
theorem m_Manning_fill (T : Txt K mg CM CH CV aL) : Met P w K mg base 4 CM "fill" (spFill CM) := by
  have m_Manning_cheapest := m_Manning_cheapest (P := P) (w := w) (base := base) T
  have m_Manning_put_along := m_Manning_put_along (P := P) (w := w) (base := base) T
  refine met_of T.cls_Manning T.md_Manning_fill (fun _ _ _ _ _ _ us hl => match us, hl with | [_], _ => rfl) sc_Manning_fill (fun vs H Q E h => ?_) (fun f cdv A outer s H vs Q E hr h => ?_)
  · obtain ⟨_, _, _, _, _, rfl, _⟩ := h; rfl
  · obtain ⟨m, a, R, st, n, rfl, M, Ap, Sm, Si, Pt, k⟩ := h
    refine ⟨_, (pss_cons (ps_asg (pe_mt0 m_Manning_cheapest hr (by decide) (pv 0)) (pg_tupK K 2 rfl (pgs_cons (pg_name (i := 1) sc_Manning_fill.nd rfl (Or.inl rfl)) (pgs_cons (pg_name (i := 2) sc_Manning_fill.nd rfl (Or.inl rfl)) pgs_nil))))
    (pss_one (ps_while PassesOwn.never (pt_cmpR op_notN (pv 1) pe_non (nomark _)) (pss_cons (ps_expr (pe_mt m_Manning_put_along hr (by decide) (pv 0) (pa_cons (pv 1) (pa_cons (pv 2) pa_nil))))
    (pss_one (ps_asg (pe_mt0 m_Manning_cheapest hr (by decide) (pv 0)) (pg_tupK K 2 rfl (pgs_cons (pg_name (i := 1) sc_Manning_fill.nd rfl (Or.inl rfl)) (pgs_cons (pg_name (i := 2) sc_Manning_fill.nd rfl (Or.inl rfl)) pgs_nil))))))))), ?_⟩
    have big := Sm.big
    refine ⟨_, rfl, m, a.dx, _, rfl, M.ob, mf_no a (by decide +kernel) (by decide +kernel) (by decide +kernel) (by decide +kernel) (by decide +kernel), m, a, R, st, n, rfl, M, Sm, Si, Pt, fun H1 q lv far ways S1 hch hlv e1 eq => ?_⟩
    refine ⟨q, _, rfl, eq, rfl, _, _, rfl, _, _, rfl, rfl, ?_⟩
    refine wh_go (m := (sumR R.nH fun h => ind (st h = none)).toNat) (fun i σ H2 => ∃ (s2 : Nat → Option Nat) (n2 : Nat → Int) (far : Nat → Int) (ways : Nat → Option Nat) (lv : Addr), i = (sumR R.nH fun h => ind (s2 h = none)).toNat ∧ FillS R (st, n) (s2, n2) ∧ Sit R s2 n2 ∧ (∃ v y t, Pot R s2 n2 v y t) ∧
      CheapR R s2 far ways ∧ MObj H2 CM m a R s2 n2 ∧ But2 a H H2 ∧ lv ≠ a.lo ∧ lv ≠ a.ln ∧ H2 lv = some (.lst (ls R.nP fun p => oN (ways p))) ∧ σ = [some (.ref m), some (oN (bestOf R far n2).1), some (.ref lv)])
      ⟨st, n, far, ways, lv, rfl, .refl _, Si, Pt, hch, M.mono S1, But2.same S1, (ne_of_none M.sp hlv).symm, (ne_of_none M.nm hlv).symm, e1, rfl⟩ ?_
    rintro i σ H2 ⟨s2, n2, far, ways, lv, rfl, hst, Si2, ⟨v, y, t, Pt2⟩, hch, M2, B2, nvo, nvn, e2, rfl⟩
    obtain ⟨⟨τ, T', I⟩, fx⟩ := cheap_ri Pt2 Si2 hch
    have hbig := big_of (by decide) Sm.cost Si2 big I fx
    cases hbo : (bestOf R far n2).1 with
    | none =>
      refine ⟨_, rfl, rfl, _, rfl, iteF ?_⟩
      exact k H2 s2 n2 B2 M2 ⟨hst, far, ways, hch, hbo⟩ Si2 (settle Pt2 I fx hbig hbo)
    | some b =>
      obtain ⟨b1, b2, b3, b4, b5⟩ := best_some hbo
      obtain ⟨L, hL, hall, hnd⟩ := chain_of I _ b2 rfl
      have WL : WayL R s2 ways b L := ⟨hL, hnd, fun e he => ⟨(I.way _ (hall e he).1).1, (hall e he).2.2.1⟩⟩
      obtain ⟨Si3, Pt3⟩ := augment Pt2 Si2 I fx hbig hbo hL hnd
      obtain ⟨_, cn2⟩ := chain_cnt (P := R) hL (s2 := s2) (fun _ _ => rfl) (fun e he => (hall e he).2.2.1) hnd
      refine ⟨_, rfl, rfl, _, rfl, iteT ?_⟩
      refine ⟨fun σ' H' => ∃ m', m' < (sumR R.nH fun h => ind (s2 h = none)).toNat ∧ _, fun _ _ h => h, ?_⟩
      refine ⟨_, rfl, m, a.dx, _, rfl, M2.ob, mf_no a (by decide +kernel) (by decide +kernel) (by decide +kernel) (by decide +kernel) (by decide +kernel), _, rfl, _, rfl, m, lv, a, R, s2, n2, ways, b, L, rfl, M2, Ap, nvo, nvn, e2, b1, WL, fun H3 B3 M3 => ?_⟩
      refine ⟨_, rfl, m, a.dx, _, rfl, M3.ob, mf_no a (by decide +kernel) (by decide +kernel) (by decide +kernel) (by decide +kernel) (by decide +kernel), m, a, R, _, _, rfl, M3, Sm, Si3, Pt3, fun H4 q4 lv4 far4 ways4 S4 hch4 hlv4 e4 eq4 => ?_⟩
      refine ⟨q4, _, rfl, eq4, rfl, _, _, rfl, _, _, rfl, rfl, ?_⟩
      have c0 : 0 ≤ sumR R.nH fun h => ind (applyL s2 L h = none) := sumR_nonneg fun _ _ => ind_nonneg
      exact ⟨(sumR R.nH fun h => ind (applyL s2 L h = none)).toNat, by omega, applyL s2 L, up n2 b (n2 b + 1), far4, ways4, lv4, rfl, hst.tail hch hbo hL, Si3, Pt3, hch4, M3.mono S4, (B2.trans B3).trans (But2.same S4), (ne_of_none M3.sp hlv4).symm, (ne_of_none M3.nm hlv4).symm, e4, rfl⟩
end
end WS
/-! The posts' reckoning: the paper. -/
namespace WS
open PySem PySem.Spec PyProof.Rows L2 WM
open C8 (pe_gc pe_c pe_mk pe_mt pe_mt0)
def lI (n : Nat) (f : Nat → Int) : List V := ls n fun i => .int (f i)
theorem lI_at {n : Nat} {f : Nat → Int} {i : Nat} (h : i < n) : atI (lI n f) (i : Int) = some (.int (f i)) := ls_at h
theorem lI_len {n : Nat} {f : Nat → Int} : (lI n f).length = n := ls_len
theorem lI_ix {n p : Nat} {f : Nat → Int} (h : p < n) : ixN (lI n f).length (p : Int) = some p := ls_ix h
theorem lI_up {n p : Nat} {f : Nat → Int} {x : Int} : (lI n f).set p (.int x) = lI n (up f p x) := ls_up
def spHandD (K : PySem.W.Frag) (CM : Addr) : Sp := fun vs H Q _ => ∃ (m lh lp : Addr) (a : MA) (P : Prob) (s : Nat → Option Nat) (n : Nat → Int) (x : LS) (i : Nat), vs = [.ref m, .int (i : Int), .ref lh, .int x.g, .ref lp] ∧ MObj H CM m a P s n ∧ SpotOk P s ∧ i < P.nH ∧
  H lh = some (.lst (lI P.nH x.h)) ∧ H lp = some (.lst (lI P.nP x.y)) ∧ ∀ H' q, Same H H' → SqT K H' q [.int (hdH P s x i), .int (hdG P s x i)] → Q (.ref q) H'
def spPlaceD (K : PySem.W.Frag) (CM : Addr) : Sp := fun vs H Q _ => ∃ (m : Addr) (a : MA) (P : Prob) (s : Nat → Option Nat) (n : Nat → Int) (p : Nat) (y g : Int), vs = [.ref m, .int (p : Int), .int y, .int g] ∧ MObj H CM m a P s n ∧ p < P.nP ∧
  ∀ H' q, Same H H' → SqT K H' q [.int (plH P n y g p), .int (plG P n y g p)] → Q (.ref q) H'
def spLev (K : PySem.W.Frag) (CM : Addr) : Sp := fun vs H Q _ => ∃ (m lh lp : Addr) (a : MA) (P : Prob) (s : Nat → Option Nat) (n : Nat → Int) (x : LS), vs = [.ref m, .ref lh, .ref lp, .int x.g] ∧ MObj H CM m a P s n ∧ SpotOk P s ∧
  H lh = some (.lst (lI P.nH x.h)) ∧ H lp = some (.lst (lI P.nP x.y)) ∧ ∀ H' q l1 l2, Same H H' → SqT K H' q [.ref l1, .ref l2, .int (lev P s n x).g] → H' l1 = some (.lst (lI P.nH (lev P s n x).h)) → H' l2 = some (.lst (lI P.nP (lev P s n x).y)) → Q (.ref q) H'
def spPaper (K : PySem.W.Frag) (CM : Addr) : Sp := fun vs H Q _ => ∃ (m : Addr) (a : MA) (P : Prob) (s : Nat → Option Nat) (n : Nat → Int), vs = [.ref m] ∧ MObj H CM m a P s n ∧ Sit P s n ∧ (∃ v y, Pot P s n v y 0) ∧
  ∀ H' q x, Same H H' → PaperR P s n x → Dt K H' (.ref q) (.tuple [.tuple ((ls P.nP (priceU P x)).map .int), .tuple ((ls P.nH (priceV x)).map .int)]) → Q (.ref q) H'
section
variable {P : Program} {w : World} {K : PySem.W.Frag} {mg : Str → Option Value} {base : Heap} {CM CH CV aL : Addr}
theorem sc_Manning_hand_down : FnScope ["self", "hand", "heights", "ground", "place_heights", "where", "height"] ["self", "hand", "heights", "ground", "place_heights"] (defScope s_Manning_hand_down) := ⟨rfl, rfl, rfl, by decide +kernel, rfl, by decide +kernel, by decide +kernel⟩
theorem m_Manning_hand_down (T : Txt K mg CM CH CV aL) : Met P w K mg base 1 CM "hand_down" (spHandD K CM) := by
  refine met_of T.cls_Manning T.md_Manning_hand_down (fun _ _ _ _ _ _ us hl => match us, hl with | [_, _, _, _, _], _ => rfl) sc_Manning_hand_down (fun vs H Q E h => ?_) (fun f cdv A outer s H vs Q E hr h => ?_)
  · obtain ⟨_, _, _, _, _, _, _, _, _, rfl, _⟩ := h; rfl
  · obtain ⟨m, lh, lp, a, R, st, n, x, i, rfl, M, hso, hi, e1, e2, k⟩ := h
    refine ⟨_, (pss_cons (ps_set (i := 5) sc_Manning_hand_down.nd rfl (Or.inl rfl) (pe_ix (ix_listK K) (pe_fldK K (pv 0) rfl) (pv 1) (fun _ _ => rfl)))
    (pss_cons (ps_if (pt_cmpR op_isN (pv 5) pe_non (nomark _)) (pss_one (ps_ret (pe_tup (pa_cons (pe_callB (call_min2 rfl) (by rfl) T.b_min (by decide +kernel) (pa_cons (pe_ix (ix_listK K) (pv 2) (pv 1) (fun _ _ => rfl)) (pa_cons (pv 3) pa_nil))) (pa_cons (pv 3) pa_nil))))) pss_nil)
    (pss_cons (ps_set (i := 6) sc_Manning_hand_down.nd rfl (Or.inl rfl) (pe_callB (call_min2 rfl) (by rfl) T.b_min (by decide +kernel) (pa_cons (pe_ix (ix_listK K) (pv 2) (pv 1) (fun _ _ => rfl)) (pa_cons (pe_op op_sub (pe_ix (ix_listK K) (pv 4) (pv 5) (fun _ _ => rfl)) (pe_ix (ix_listK K) (pe_ix (ix_listK K) (pe_fldK K (pv 0) rfl) (pv 1) (fun _ _ => rfl)) (pv 5) (fun _ _ => rfl))) pa_nil))))
    (pss_one (ps_ret (pe_tup (pa_cons (pv 6) (pa_cons (pe_callB (call_min2 rfl) (by rfl) T.b_min (by decide +kernel) (pa_cons (pv 3) (pa_cons (pv 6) pa_nil))) pa_nil)))))))), ?_⟩
    refine ⟨_, rfl, m, CM, a.dx, _, _, rfl, M.ob, T.cls_Manning, T.na_Manning_spots, mf_s a, _, rfl, a.lo, _, _, _, rfl, rfl, sql_of M.sp, ls_at hi, ?_⟩
    cases hs : st i with
    | none =>
      refine ⟨_, rfl, rfl, _, rfl, iteT ?_⟩
      refine ⟨_, rfl, _, rfl, lh, _, _, _, rfl, rfl, sql_of e1, lI_at hi, _, rfl, _, _, rfl, _, rfl, by show 2 ≤ sizeLine; decide, fun q hq => newG hq fun H1 S1 e3 => k H1 q S1 (sqt_of ?_)⟩
      rw [e3]
      unfold hdH hdG mn
      rw [hs]
    | some w =>
      obtain ⟨hw, hc⟩ := hso i hi w hs
      obtain ⟨c, hc⟩ := Option.isSome_iff_exists.mp hc
      obtain ⟨rw_, hw1, hw2⟩ := M.rowAt hi
      have hrow : atI (ls R.nP fun p => oI (R.cost i p)) (w : Int) = some (.int c) := by rw [ls_at hw, hc]; rfl
      refine ⟨_, rfl, rfl, _, rfl, iteF ?_⟩
      refine ⟨_, rfl, _, rfl, lh, _, _, _, rfl, rfl, sql_of e1, lI_at hi, _, rfl, _, rfl, lp, _, _, _, rfl, rfl, sql_of e2, lI_at hw, _, rfl, m, CM, a.dx, _, _, rfl, M.ob, T.cls_Manning, T.na_Manning_costs, mf_c a, _, rfl, a.lc, _, _, _, rfl, rfl, sql_of M.co, hw1, _, rfl, rw_, _, _, _, rfl, rfl, sql_of hw2, hrow, _, _, rfl, rfl, _, _, rfl, ?_⟩
      refine ⟨_, rfl, _, rfl, _, rfl, _, _, rfl, by show 2 ≤ sizeLine; decide, fun q hq => newG hq fun H1 S1 e3 => k H1 q S1 (sqt_of ?_)⟩
      rw [e3]
      unfold hdG
      rw [hs]
      unfold hdH mn
      rw [hs]
      simp only [cD_of hc]
theorem sc_Manning_place_down : FnScope ["self", "place", "height", "ground"] ["self", "place", "height", "ground"] (defScope s_Manning_place_down) := ⟨rfl, rfl, rfl, by decide +kernel, rfl, by decide +kernel, by decide +kernel⟩
theorem m_Manning_place_down (T : Txt K mg CM CH CV aL) : Met P w K mg base 1 CM "place_down" (spPlaceD K CM) := by
  refine met_of T.cls_Manning T.md_Manning_place_down (fun _ _ _ _ _ _ us hl => match us, hl with | [_, _, _, _], _ => rfl) sc_Manning_place_down (fun vs H Q E h => ?_) (fun f cdv A outer s H vs Q E hr h => ?_)
  · obtain ⟨_, _, _, _, _, _, _, _, rfl, _⟩ := h; rfl
  · obtain ⟨m, a, R, st, n, p, y, g, rfl, M, hp, k⟩ := h
    refine ⟨_, (pss_cons (ps_if (pt_cmpR op_gt (pe_ix (ix_listK K) (pe_fldK K (pv 0) rfl) (pv 1) (fun _ _ => rfl)) pe_int (nomark _)) (pss_one (ps_set (i := 2) sc_Manning_place_down.nd rfl (Or.inl rfl) (pe_callB (call_min2 rfl) (by rfl) T.b_min (by decide +kernel) (pa_cons (pv 2) (pa_cons (pe_op op_add (pv 3) (pe_ix (ix_listK K) (pe_fldK K (pv 0) rfl) (pv 1) (fun _ _ => rfl))) pa_nil))))) pss_nil)
    (pss_cons (ps_if (pt_cmpR op_lt (pe_ix (ix_listK K) (pe_fldK K (pv 0) rfl) (pv 1) (fun _ _ => rfl)) (pe_ix (ix_listK K) (pe_fldK K (pv 0) rfl) (pv 1) (fun _ _ => rfl)) (nomark _)) (pss_one (ps_set (i := 3) sc_Manning_place_down.nd rfl (Or.inl rfl) (pe_callB (call_min2 rfl) (by rfl) T.b_min (by decide +kernel) (pa_cons (pv 3) (pa_cons (pe_op op_sub (pv 2) (pe_ix (ix_listK K) (pe_fldK K (pv 0) rfl) (pv 1) (fun _ _ => rfl))) pa_nil))))) pss_nil)
    (pss_one (ps_ret (pe_tup (pa_cons (pv 2) (pa_cons (pv 3) pa_nil))))))), ?_⟩
    -- the second half, from a height
    have half : ∀ y1 : Int, y1 = plH R n y g p → ∃ v, (v = V.int (plG R n y g p)) ∧ True := fun _ _ => ⟨_, rfl, trivial⟩
    refine ⟨_, rfl, m, CM, a.dx, _, _, rfl, M.ob, T.cls_Manning, T.na_Manning_named, mf_n a, _, rfl, a.ln, _, _, _, rfl, rfl, sql_of M.nm, ls_at hp, _, _, rfl, rfl, _, rfl, ?_⟩
    refine ite2 (fun q1 => ?_) (fun q1 => ?_)
    · have q1 : 0 < n p := of_decide_eq_true q1
      have hy : plH R n y g p = mn y (g + R.bty p) := by unfold plH; rw [if_pos q1]
      refine ⟨_, rfl, _, rfl, _, rfl, m, CM, a.dx, _, _, rfl, M.ob, T.cls_Manning, T.na_Manning_bounty, mf_b a, _, rfl, a.lb, _, _, _, rfl, rfl, sql_of M.bo, ls_at hp, _, _, rfl, rfl, _, _, rfl, ?_⟩
      refine ⟨_, rfl, m, CM, a.dx, _, _, rfl, M.ob, T.cls_Manning, T.na_Manning_named, mf_n a, _, rfl, a.ln, _, _, _, rfl, rfl, sql_of M.nm, ls_at hp, _, rfl, m, CM, a.dx, _, _, rfl, M.ob, T.cls_Manning, T.na_Manning_wanted, mf_w a, _, rfl, a.lw, _, _, _, rfl, rfl, sql_of M.wa, ls_at hp, _, _, rfl, rfl, _, rfl, ?_⟩
      refine ite2 (fun q2 => ?_) (fun q2 => ?_)
      · have q2 : n p < R.want p := of_decide_eq_true q2
        refine ⟨_, rfl, _, rfl, _, rfl, m, CM, a.dx, _, _, rfl, M.ob, T.cls_Manning, T.na_Manning_bounty, mf_b a, _, rfl, a.lb, _, _, _, rfl, rfl, sql_of M.bo, ls_at hp, _, _, rfl, rfl, _, _, rfl, ?_⟩
        refine ⟨_, rfl, _, rfl, by show 2 ≤ sizeLine; decide, fun q hq => newG hq fun H1 S1 e3 => k H1 q S1 (sqt_of ?_)⟩
        rw [e3]
        unfold plG
        rw [if_pos q2, hy]
        rfl
      · have q2 : ¬ n p < R.want p := fun z => q2 (decide_eq_true z)
        refine ⟨_, rfl, _, rfl, by show 2 ≤ sizeLine; decide, fun q hq => newG hq fun H1 S1 e3 => k H1 q S1 (sqt_of ?_)⟩
        rw [e3]
        unfold plG
        rw [if_neg q2, hy]
        rfl
    · have q1 : ¬ 0 < n p := fun z => q1 (decide_eq_true z)
      have hy : plH R n y g p = y := by unfold plH; rw [if_neg q1]
      refine ⟨_, rfl, m, CM, a.dx, _, _, rfl, M.ob, T.cls_Manning, T.na_Manning_named, mf_n a, _, rfl, a.ln, _, _, _, rfl, rfl, sql_of M.nm, ls_at hp, _, rfl, m, CM, a.dx, _, _, rfl, M.ob, T.cls_Manning, T.na_Manning_wanted, mf_w a, _, rfl, a.lw, _, _, _, rfl, rfl, sql_of M.wa, ls_at hp, _, _, rfl, rfl, _, rfl, ?_⟩
      refine ite2 (fun q2 => ?_) (fun q2 => ?_)
      · have q2 : n p < R.want p := of_decide_eq_true q2
        refine ⟨_, rfl, _, rfl, _, rfl, m, CM, a.dx, _, _, rfl, M.ob, T.cls_Manning, T.na_Manning_bounty, mf_b a, _, rfl, a.lb, _, _, _, rfl, rfl, sql_of M.bo, ls_at hp, _, _, rfl, rfl, _, _, rfl, ?_⟩
        refine ⟨_, rfl, _, rfl, by show 2 ≤ sizeLine; decide, fun q hq => newG hq fun H1 S1 e3 => k H1 q S1 (sqt_of ?_)⟩
        rw [e3]
        unfold plG
        rw [if_pos q2, hy]
        rfl
      · have q2 : ¬ n p < R.want p := fun z => q2 (decide_eq_true z)
        refine ⟨_, rfl, _, rfl, by show 2 ≤ sizeLine; decide, fun q hq => newG hq fun H1 S1 e3 => k H1 q S1 (sqt_of ?_)⟩
        rw [e3]
        unfold plG
        rw [if_neg q2, hy]
theorem sc_Manning_levelled : FnScope ["self", "hands", "places", "ground", "hand", "place"] ["self", "hands", "places", "ground"] (defScope s_Manning_levelled) := ⟨rfl, rfl, rfl, by decide +kernel, rfl, by decide +kernel, by decide +kernel⟩
theorem m_Manning_levelled (T : Txt K mg CM CH CV aL) : Met P w K mg base 2 CM "levelled" (spLev K CM) := by
  have m_Manning_fit_places := m_Manning_fit_places (P := P) (w := w) (base := base) T
  have m_Manning_hand_down := m_Manning_hand_down (P := P) (w := w) (base := base) T
  have m_Manning_place_down := m_Manning_place_down (P := P) (w := w) (base := base) T
  refine met_of T.cls_Manning T.md_Manning_levelled (fun _ _ _ _ _ _ us hl => match us, hl with | [_, _, _, _], _ => rfl) sc_Manning_levelled (fun vs H Q E h => ?_) (fun f cdv A outer s H vs Q E hr h => ?_)
  · obtain ⟨_, _, _, _, _, _, _, _, rfl, _⟩ := h; rfl
  · obtain ⟨m, lh, lp, a, R, st, n, x, rfl, M, hso, e1, e2, k⟩ := h
    have hzH := M.szH
    have hzP := M.szP
    refine ⟨_, (pss_cons (ps_par (i := 1) (j := 2) rfl sc_Manning_levelled.nd rfl rfl (by decide) rfl rfl (pa_cons (pe_callTy (call_list_ofK K) (by rfl) T.b_list (by decide +kernel) (pa_cons (pv 1) pa_nil)) (pa_cons (pe_callTy (call_list_ofK K) (by rfl) T.b_list (by decide +kernel) (pa_cons (pv 2) pa_nil)) pa_nil)) (by rfl))
    (pss_cons (ps_for PassesOwn.never rfl (pi_range1 (by rfl) T.b_range (pa_cons (pe_callB (call_len_seqK K) (by rfl) T.b_len PySem.boot_len (pa_cons (pv 1) pa_nil)) pa_nil)) (pg_name (i := 4) sc_Manning_levelled.nd rfl (Or.inl rfl)) (pss_cons (ps_asg (pe_mt m_Manning_hand_down hr (by decide) (pv 0) (pa_cons (pv 4) (pa_cons (pv 1) (pa_cons (pv 3) (pa_cons (pv 2) pa_nil))))) (pg_tupK K 2 rfl (pgs_cons (pg_sub (pv 1) (pv 4) set_list) (pgs_cons (pg_name (i := 3) sc_Manning_levelled.nd rfl (Or.inl rfl)) pgs_nil))))
    (pss_one (ps_for PassesOwn.never rfl (pi_listK K (pe_mt m_Manning_fit_places hr (by decide) (pv 0) (pa_cons (pv 4) pa_nil))) (pg_name (i := 5) sc_Manning_levelled.nd rfl (Or.inl rfl)) (pss_one (ps_asg (pe_callB (call_min2 rfl) (by rfl) T.b_min (by decide +kernel) (pa_cons (pe_ix (ix_listK K) (pv 2) (pv 5) (fun _ _ => rfl)) (pa_cons (pe_op op_add (pe_ix (ix_listK K) (pv 1) (pv 4) (fun _ _ => rfl)) (pe_ix (ix_listK K) (pe_ix (ix_listK K) (pe_fldK K (pv 0) rfl) (pv 4) (fun _ _ => rfl)) (pv 5) (fun _ _ => rfl))) pa_nil))) (pg_sub (pv 2) (pv 5) set_list)))))))
    (pss_cons (ps_for PassesOwn.never rfl (pi_range1 (by rfl) T.b_range (pa_cons (pe_callB (call_len_seqK K) (by rfl) T.b_len PySem.boot_len (pa_cons (pv 2) pa_nil)) pa_nil)) (pg_name (i := 5) sc_Manning_levelled.nd rfl (Or.inl rfl)) (pss_one (ps_asg (pe_mt m_Manning_place_down hr (by decide) (pv 0) (pa_cons (pv 5) (pa_cons (pe_ix (ix_listK K) (pv 2) (pv 5) (fun _ _ => rfl)) (pa_cons (pv 3) pa_nil)))) (pg_tupK K 2 rfl (pgs_cons (pg_sub (pv 2) (pv 5) set_list) (pgs_cons (pg_name (i := 3) sc_Manning_levelled.nd rfl (Or.inl rfl)) pgs_nil))))))
    (pss_one (ps_ret (pe_tup (pa_cons (pv 1) (pa_cons (pv 2) (pa_cons (pv 3) pa_nil))))))))), ?_⟩
    refine ⟨_, rfl, lh, _, rfl, .inl (sql_of e1), fun l1 hl1 => newG hl1 fun H1 S1 f1 => ?_⟩
    refine ⟨_, rfl, lp, _, rfl, .inl (sql_of (S1 _ _ e2)), fun l2 hl2 => newG hl2 fun H2 S2 f2 => ?_⟩
    refine ⟨_, _, rfl, ?_⟩
    have hl20 : H l2 = none := S1.free hl2
    have n12 : l1 ≠ l2 := ne_of_none f1 hl2
    have S12 := S1.trans S2
    have f1 := S2 _ _ f1
    refine ⟨_, rfl, l1, _, rfl, .inl (sql_of f1), _, rfl, by omega, by rw [lI_len]; omega, ?_⟩
    refine for_it walk_range0 (fun i σ H3 => ∃ (x' : LS) (z4 z5 : Option V), x' = (List.range i).foldl (levHand R st) x ∧ Same H H3 ∧ H3 l1 = some (.lst (lI R.nH x'.h)) ∧ H3 l2 = some (.lst (lI R.nP x'.y)) ∧ σ = [some (.ref m), some (.ref l1), some (.ref l2), some (.int x'.g), z4, z5])
      ⟨x, _, _, rfl, S12, f1, f2, rfl⟩ (fun _ _ _ _ _ => trivial) ?_ ?_
    · rintro i z σ H3 H4 hi ⟨x', z4, z5, hx', S3, g1, g2, rfl⟩ ⟨rfl, rfl⟩
      rw [lI_len] at hi
      have hi : i < R.nH := by omega
      have M3 := M.mono S3
      refine ⟨_, rfl, m, a.dx, _, rfl, M3.ob, mf_no a (by decide +kernel) (by decide +kernel) (by decide +kernel) (by decide +kernel) (by decide +kernel), _, rfl, _, rfl, _, rfl, _, rfl, m, l1, l2, a, R, st, n, x', i, rfl, M3, hso, hi, g1, g2, fun H5 q S5 hq => ?_⟩
      have S35 := S3.trans S5
      have g15 := S5 _ _ g1
      have g25 := S5 _ _ g2
      refine ⟨q, _, rfl, hq, rfl, _, _, rfl, _, rfl, _, rfl, l1, _, _, i, rfl, rfl, g15, lI_ix hi, _, _, rfl, rfl, ?_⟩
      rw [lI_up]
      have hfold : (List.range (i + 1)).foldl (levHand R st) x = (fitPl R i).foldl (reachD R i) (handD R st x' i) := by rw [List.range_succ, List.foldl_append, ← hx']; rfl
      obtain ⟨x0, hx0⟩ : ∃ x0, x0 = handD R st x' i := ⟨_, rfl⟩
      rw [← hx0] at hfold
      rw [show up x'.h i (hdH R st x' i) = x0.h by rw [hx0]; rfl, show hdG R st x' i = x0.g by rw [hx0]; rfl]
      have g25 : H5 l2 = some (.lst (lI R.nP x0.y)) := by rw [g25, hx0]; rfl
      have S6 : Same H (upd H5 l1 (.lst (lI R.nH x0.h))) := S35.mut hl1
      have g16 : upd H5 l1 (.lst (lI R.nH x0.h)) l1 = some (.lst (lI R.nH x0.h)) := upd_same
      have g26 : upd H5 l1 (.lst (lI R.nH x0.h)) l2 = some (.lst (lI R.nP x0.y)) := by rw [upd_ne n12.symm]; exact g25
      generalize upd H5 l1 (.lst (lI R.nH x0.h)) = H6 at S6 g16 g26 ⊢
      have M6 := M.mono S6
      refine ⟨_, rfl, m, a.dx, _, rfl, M6.ob, mf_no a (by decide +kernel) (by decide +kernel) (by decide +kernel) (by decide +kernel) (by decide +kernel), _, rfl, m, a, R, st, n, i, rfl, M6, hi, fun H7 q S7 hq7 e7 => ?_⟩
      have nq1 : q ≠ l1 := (ne_of_none g16 hq7).symm
      have nq2 : q ≠ l2 := (ne_of_none g26 hq7).symm
      refine ⟨q, rfl, ⟨_, sql_of e7⟩, ?_⟩
      refine for_list (K := K) (a := q) (xs := (fitPl R i).map fun p => V.int ((p : Nat) : Int)) (fun j σ H8 => ∃ (x' : LS) (z5 : Option V), x' = ((fitPl R i).take j).foldl (reachD R i) x0 ∧ Same H H8 ∧ H8 l1 = some (.lst (lI R.nH x'.h)) ∧ H8 l2 = some (.lst (lI R.nP x'.y)) ∧ H8 q = some (.lst ((fitPl R i).map fun p => V.int ((p : Nat) : Int))) ∧
        σ = [some (.ref m), some (.ref l1), some (.ref l2), some (.int x'.g), some (.int (i : Int)), z5]) ⟨x0, _, rfl, S6.trans S7, S7 _ _ g16, S7 _ _ g26, e7, rfl⟩ (fun j σ H8 _ ⟨_, _, _, _, _, _, e, _⟩ => sql_of e) ?_ ?_
      · rintro j y σ H8 hy ⟨x1, z5, hx1, S8, k1, k2, k3, rfl⟩
        rw [List.getElem?_map] at hy
        cases hp : (fitPl R i)[j]? with
        | none => rw [hp] at hy; cases hy
        | some p =>
          rw [hp] at hy
          have hy : V.int ((p : Nat) : Int) = y := Option.some.inj hy
          subst hy
          obtain ⟨hpl, hc⟩ := mem_fitPl.mp (List.mem_of_getElem? hp)
          obtain ⟨c, hc⟩ := Option.isSome_iff_exists.mp hc
          have M8 := M.mono S8
          obtain ⟨rw_, hw1, hw2⟩ := M8.rowAt hi
          have hrow : atI (ls R.nP fun p => oI (R.cost i p)) (p : Int) = some (.int c) := by rw [ls_at hpl, hc]; rfl
          refine ⟨_, rfl, _, rfl, l2, _, _, _, rfl, rfl, sql_of k2, lI_at hpl, _, rfl, _, rfl, l1, _, _, _, rfl, rfl, sql_of k1, lI_at hi, _, rfl, m, CM, a.dx, _, _, rfl, M8.ob, T.cls_Manning, T.na_Manning_costs, mf_c a, _, rfl, a.lc, _, _, _, rfl, rfl, sql_of M8.co, hw1, _, rfl, rw_, _, _, _, rfl, rfl, sql_of hw2, hrow, _, _, rfl, rfl, _, _, rfl, ?_⟩
          refine ⟨_, rfl, _, rfl, l2, _, _, p, rfl, rfl, k2, lI_ix hpl, ?_⟩
          have hst : ((fitPl R i).take (j + 1)).foldl (reachD R i) x0 = reachD R i x1 p := by rw [foldl_take_succ hp, ← hx1]
          refine ⟨_, some (.int ((p : Nat) : Int)), hst.symm, S8.mut hl20, ?_, ?_, ?_, rfl⟩
          · rw [upd_ne n12]; exact k1
          · rw [upd_same, lI_up]
            unfold reachD mn
            rw [cD_of hc]
          · rw [upd_ne nq2]; exact k3
      · rintro σ H8 ⟨x1, z5, hx1, S8, k1, k2, k3, rfl⟩
        rw [List.length_map, List.take_length] at hx1
        exact ⟨x1, _, _, hx1.trans hfold.symm, S8, k1, k2, rfl⟩
    · rintro σ H3 ⟨x', z4, z5, hx', S3, g1, g2, rfl⟩
      rw [lI_len] at hx'
      have hx' : x' = (List.range R.nH).foldl (levHand R st) x := hx'
      refine ⟨_, rfl, l2, _, rfl, .inl (sql_of g2), _, rfl, by omega, by rw [lI_len]; omega, ?_⟩
      refine for_it walk_range0 (fun i σ H4 => ∃ (x1 : LS) (z5 : Option V), x1 = (List.range i).foldl (levPlace R n) x' ∧ Same H H4 ∧ H4 l1 = some (.lst (lI R.nH x1.h)) ∧ H4 l2 = some (.lst (lI R.nP x1.y)) ∧ σ = [some (.ref m), some (.ref l1), some (.ref l2), some (.int x1.g), z4, z5])
        ⟨x', _, rfl, S3, g1, g2, rfl⟩ (fun _ _ _ _ _ => trivial) ?_ ?_
      · rintro p z σ H4 H5 hp ⟨x1, z5, hx1, S4, k1, k2, rfl⟩ ⟨rfl, rfl⟩
        rw [lI_len] at hp
        have hp : p < R.nP := by omega
        have M4 := M.mono S4
        refine ⟨_, rfl, m, a.dx, _, rfl, M4.ob, mf_no a (by decide +kernel) (by decide +kernel) (by decide +kernel) (by decide +kernel) (by decide +kernel), _, rfl, _, rfl, _, rfl, l2, _, _, _, rfl, rfl, sql_of k2, lI_at hp, _, rfl, m, a, R, st, n, p, _, _, rfl, M4, hp, fun H6 q S6 hq => ?_⟩
        refine ⟨q, _, rfl, hq, rfl, _, _, rfl, _, rfl, _, rfl, l2, _, _, p, rfl, rfl, S6 _ _ k2, lI_ix hp, _, _, rfl, rfl, ?_⟩
        refine ⟨levPlace R n x1 p, some (.int ((p : Nat) : Int)), ?_, (S4.trans S6).mut hl20, ?_, ?_, rfl⟩
        · rw [List.range_succ, List.foldl_append, ← hx1]; rfl
        · rw [upd_ne n12]; exact S6 _ _ k1
        · rw [upd_same, lI_up]; rfl
      · rintro σ H4 ⟨x1, z5, hx1, S4, k1, k2, rfl⟩
        rw [lI_len] at hx1
        have hx1 : x1 = lev R st n x := by unfold lev; rw [← hx']; exact hx1
        subst hx1
        refine ⟨_, rfl, _, rfl, _, rfl, by show 3 ≤ sizeLine; decide, fun q hq => newG hq fun H5 S5 e5 => ?_⟩
        exact k H5 q l1 l2 (S4.trans S5) (sqt_of e5) (S5 _ _ k1) (S5 _ _ k2)
end
end WS
/-! The posts' reckoning: the paper's end, the object made, man. -/
namespace WS
open PySem PySem.Spec PyProof.Rows L2 WM
open C8 (pe_gc pe_c pe_mk pe_mt pe_mt0)
/-! ### data compared -/
theorem eqv_ints : ∀ (xs ys : List Int), PyData.eqvAll (xs.map .int) (ys.map .int) = decide (xs = ys)
  | [], [] => by simp [PyData.eqvAll]
  | [], _ :: _ => by simp [PyData.eqvAll]
  | _ :: _, [] => by simp [PyData.eqvAll]
  | x :: xs, y :: ys => by
    simp only [List.map_cons, PyData.eqvAll, PyData.eqv, eqv_ints xs ys]
    rw [Bool.eq_iff_iff]
    simp
theorem lay_ints : ∀ (xs : List Int), PyData.canLayAll0 (xs.map .int) = true
  | [] => rfl
  | x :: xs => by simp [PyData.canLayAll0, PyData.canLay0, lay_ints xs]
theorem dep_ints : ∀ (xs : List Int), PyData.depthAll (xs.map .int) = 0
  | [] => rfl
  | x :: xs => by simp [PyData.depthAll, PyData.depth, dep_ints xs]
def pdL (P : Prob) (x : LS) : PyData := .tuple [.list ((ls P.nH x.h).map .int), .list ((ls P.nP x.y).map .int), .int x.g]
theorem pdL_eqv (P : Prob) (a b : LS) : PyData.eqv (pdL P a) (pdL P b) = decide (LsEq P a b) := by
  simp only [pdL, PyData.eqv, PyData.eqvAll, eqv_ints]
  rw [Bool.eq_iff_iff]
  simp [LsEq]
  exact ⟨fun h => decide_eq_true h, fun h => of_decide_eq_true h⟩
theorem pdL_shaped (P : Prob) (a : LS) : SeqAt.shaped (pdL P a) = true := by
  simp [SeqAt.shaped, pdL, PyData.canLay0, PyData.canLayAll0, lay_ints, PyData.depth, PyData.depthAll, dep_ints]
theorem dpAll_ints {K : PySem.W.Frag} {H : Hp} : ∀ (xs : List Int), DpAll K H (xs.map V.int) (xs.map .int)
  | [] => .nil
  | x :: xs => .cons (.int x) (dpAll_ints xs)
theorem lI_map {n : Nat} {f : Nat → Int} : lI n f = (ls n f).map V.int := by unfold lI; rw [map_ls]
/-- the heap says: the state x of the paper stands at the tuple q -/
def LsAt (K : PySem.W.Frag) (H : Hp) (P : Prob) (q : Addr) (x : LS) : Prop := ∃ l1 l2, SqT K H q [.ref l1, .ref l2, .int x.g] ∧ H l1 = some (.lst (lI P.nH x.h)) ∧ H l2 = some (.lst (lI P.nP x.y))
theorem LsAt.mono {K : PySem.W.Frag} {H H' : Hp} {P : Prob} {q : Addr} {x : LS} (h : LsAt K H P q x) (S : Same H H') : LsAt K H' P q x := by
  obtain ⟨l1, l2, a, b, c⟩ := h
  exact ⟨l1, l2, S.tup a, S _ _ b, S _ _ c⟩
theorem LsAt.dp {K : PySem.W.Frag} {H : Hp} {P : Prob} {q : Addr} {x : LS} (h : LsAt K H P q x) : Dp K H (.ref q) (pdL P x) := by
  obtain ⟨l1, l2, a, b, c⟩ := h
  rw [lI_map] at b c
  exact .tup a (.cons (.lst (sql_of b) (dpAll_ints _)) (.cons (.lst (sql_of c) (dpAll_ints _)) (.cons (.int _) .nil)))
section
variable {P : Program} {w : World} {K : PySem.W.Frag} {mg : Str → Option Value} {base : Heap} {CM CH CV aL : Addr}
theorem sc_Manning_paper : FnScope ["self", "now", "behind", "hands", "places", "ground", "prices", "height", "bounty"] ["self"] (defScope s_Manning_paper) := ⟨rfl, rfl, rfl, by decide +kernel, rfl, by decide +kernel, by decide +kernel⟩
theorem m_Manning_paper (T : Txt K mg CM CH CV aL) : Met P w K mg base 3 CM "paper" (spPaper K CM) := by
  have m_Manning_levelled := m_Manning_levelled (P := P) (w := w) (base := base) T
  refine met_of T.cls_Manning T.md_Manning_paper (fun _ _ _ _ _ _ us hl => match us, hl with | [_], _ => rfl) sc_Manning_paper (fun vs H Q E h => ?_) (fun f cdv A outer s H vs Q E hr h => ?_)
  · obtain ⟨_, _, _, _, _, rfl, _⟩ := h; rfl
  · obtain ⟨m, a, R, st, n, rfl, M, Si, ⟨v, y, Pt⟩, k⟩ := h
    have hzH := M.szH
    have hzP := M.szP
    have nolev : (mfs a).lookup ("levelled" : Str) = none := mf_no a (by decide +kernel) (by decide +kernel) (by decide +kernel) (by decide +kernel) (by decide +kernel)
    refine ⟨_, (pss_cons (ps_set (i := 1) sc_Manning_paper.nd rfl (Or.inl rfl) (pe_tup (pa_cons (pe_op op_rep (pe_lst (pa_cons pe_int pa_nil)) (pe_callB (call_len_seqK K) (by rfl) T.b_len PySem.boot_len (pa_cons (pe_fldK K (pv 0) rfl) pa_nil))) (pa_cons (pe_op op_rep (pe_lst (pa_cons pe_int pa_nil)) (pe_callB (call_len_seqK K) (by rfl) T.b_len PySem.boot_len (pa_cons (pe_fldK K (pv 0) rfl) pa_nil))) (pa_cons pe_int pa_nil)))))
    (pss_cons (ps_set (i := 2) sc_Manning_paper.nd rfl (Or.inl rfl) (pe_mt m_Manning_levelled hr (by decide) (pv 0) (pa_cons (pe_ix (ix_tupK K) (pv 1) pe_int (fun _ _ => rfl)) (pa_cons (pe_ix (ix_tupK K) (pv 1) pe_int (fun _ _ => rfl)) (pa_cons (pe_ix (ix_tupK K) (pv 1) pe_int (fun _ _ => rfl)) pa_nil)))))
    (pss_cons (ps_while PassesOwn.never (pt_cmpR (op_neDK K hr.units) (pv 2) (pv 1) (nomark _)) (pss_cons (ps_set (i := 1) sc_Manning_paper.nd rfl (Or.inl rfl) (pv 2))
    (pss_one (ps_set (i := 2) sc_Manning_paper.nd rfl (Or.inl rfl) (pe_mt m_Manning_levelled hr (by decide) (pv 0) (pa_cons (pe_ix (ix_tupK K) (pv 1) pe_int (fun _ _ => rfl)) (pa_cons (pe_ix (ix_tupK K) (pv 1) pe_int (fun _ _ => rfl)) (pa_cons (pe_ix (ix_tupK K) (pv 1) pe_int (fun _ _ => rfl)) pa_nil))))))))
    (pss_cons (ps_asg (pv 1) (pg_tupK K 3 rfl (pgs_cons (pg_name (i := 3) sc_Manning_paper.nd rfl (Or.inl rfl)) (pgs_cons (pg_name (i := 4) sc_Manning_paper.nd rfl (Or.inl rfl)) (pgs_cons (pg_name (i := 5) sc_Manning_paper.nd rfl (Or.inr rfl)) pgs_nil)))))
    (pss_cons (ps_setLc (i := 6) (own := [("height", 7), ("bounty", 8)]) rfl sc_Manning_paper.nd rfl rfl (sw_true rfl rfl rfl (by decide +kernel)) (pi_zipK K (by rfl) T.b_zip (pa_cons (pv 4) (pa_cons (pe_fldK K (pv 0) rfl) pa_nil))) (blkOk_by (own := [("height", 7), ("bounty", 8)]) (N := ["self", "now", "behind", "hands", "places", "ground", "prices", "height", "bounty"]) (sc := defScope s_Manning_paper) (by decide +kernel)) (fun _ _ _ _ _ => (pg_tupK K 2 rfl (pgs_cons (pg_name (i := 7) sc_Manning_paper.nd rfl (Or.inl rfl)) (pgs_cons (pg_name (i := 8) sc_Manning_paper.nd rfl (Or.inl rfl)) pgs_nil)))) (fun _ _ _ _ _ => pts_nil) (fun _ _ _ _ _ => (pe_callB (call_min2 rfl) (by rfl) T.b_min (by decide +kernel) (pa_cons (pe_op op_sub (pv 7) (pv 5)) (pa_cons (pv 8) pa_nil)))))
    (pss_one (ps_ret (pe_tup (pa_cons (pe_callTy (call_tuple_ofK K) (by rfl) T.b_tuple (by decide +kernel) (pa_cons (pv 6) pa_nil)) (pa_cons (pe_callTy (call_tuple_ofK K) (by rfl) T.b_tuple (by decide +kernel) (pa_cons (pe_lc (own := [("height", 7)]) rfl sc_Manning_paper.nd (pi_listK K (pv 3)) (blkOk_by (own := [("height", 7)]) (N := ["self", "now", "behind", "hands", "places", "ground", "prices", "height", "bounty"]) (sc := defScope s_Manning_paper) (by decide +kernel)) (fun _ _ _ _ _ => (pg_name (i := 7) sc_Manning_paper.nd rfl (Or.inl rfl))) (fun _ _ _ _ _ => pts_nil) (fun _ _ _ _ _ => (pe_callB (call_max2 rfl) (by rfl) T.b_max (by decide +kernel) (pa_cons pe_int (pa_cons (pe_op op_sub (pv 7) (pv 5)) pa_nil))))) pa_nil)) pa_nil)))))))))), ?_⟩
    refine ⟨by show 1 ≤ sizeLine; decide, fun p1 hp1 => newG hp1 fun H1 S1 e1 => ?_⟩
    have M1 := M.mono S1
    refine ⟨_, rfl, m, CM, a.dx, _, _, rfl, M1.ob, T.cls_Manning, T.na_Manning_spots, mf_s a, a.lo, _, rfl, .inl (sql_of M1.sp), p1, _, _, rfl, rfl, e1, by rw [ls_len]; omega, by rw [ls_len]; omega, sz100 (by rw [ls_len]; simp; omega), fun l1 hl1 => newG hl1 fun H2 S2 e2 => ?_⟩
    have M2 := M1.mono S2
    refine ⟨by show 1 ≤ sizeLine; decide, fun p3 hp3 => newG hp3 fun H3 S3 e3 => ?_⟩
    have M3 := M2.mono S3
    refine ⟨_, rfl, m, CM, a.dx, _, _, rfl, M3.ob, T.cls_Manning, T.na_Manning_named, mf_n a, a.ln, _, rfl, .inl (sql_of M3.nm), p3, _, _, rfl, rfl, e3, by rw [ls_len]; omega, by rw [ls_len]; omega, sz100 (by rw [ls_len]; simp; omega), fun l2 hl2 => newG hl2 fun H4 S4 e4 => ?_⟩
    refine ⟨by show 3 ≤ sizeLine; decide, fun q hq => newG hq fun H5 S5 e5 => ?_⟩
    have S15 := (((S1.trans S2).trans S3).trans S4).trans S5
    have M5 := M.mono S15
    have e25 : H5 l1 = some (.lst (lI R.nH fun _ => 0)) := by
      rw [S5 _ _ (S4 _ _ (S3 _ _ e2)), ls_len]
      exact congrArg (fun l => some (HO.lst l)) (rep_one _ _)
    have e45 : H5 l2 = some (.lst (lI R.nP fun _ => 0)) := by
      rw [S5 _ _ e4, ls_len]
      exact congrArg (fun l => some (HO.lst l)) (rep_one _ _)
    have g0 : LsAt K H5 R q ⟨fun _ => 0, fun _ => 0, 0⟩ := ⟨l1, l2, sqt_of e5, e25, e45⟩
    obtain ⟨M0, B0⟩ := lb_start (P := R) v y
    refine ⟨_, rfl, m, a.dx, _, rfl, M5.ob, nolev, _, rfl, q, _, _, .ref l1, rfl, rfl, sqt_of e5, rfl, _, rfl, q, _, _, .ref l2, rfl, rfl, sqt_of e5, rfl, _, rfl, q, _, _, .int 0, rfl, rfl, sqt_of e5, rfl, m, l1, l2, a, R, st, n, ⟨fun _ => 0, fun _ => 0, 0⟩, rfl, M5, Si.spot, e25, e45, fun H6 q6 k1 k2 S6 hq6 f1 f2 => ?_⟩
    refine wh_go (m := (lsum R ⟨fun _ => 0, fun _ => 0, 0⟩ - lbsum R v y M0).toNat) (fun i σ H7 => ∃ (x : LS) (qn qb : Addr), i = (lsum R x - lbsum R v y M0).toNat ∧ Steps (levStep R st n) ⟨fun _ => 0, fun _ => 0, 0⟩ x ∧ LB R v y M0 x ∧ Same H H7 ∧ LsAt K H7 R qn x ∧ LsAt K H7 R qb (lev R st n x) ∧
      σ = [some (.ref m), some (.ref qn), some (.ref qb), none, none, none, none, none, none]) ⟨_, q, q6, rfl, .refl _, B0, S15.trans S6, g0.mono S6, ⟨k1, k2, hq6, f1, f2⟩, rfl⟩ ?_
    rintro i σ H7 ⟨x, qn, qb, rfl, hst, B, S7, an, ab, rfl⟩
    have M7 := M.mono S7
    refine ⟨_, rfl, _, rfl, _, _, ab.dp, an.dp, pdL_shaped _ _, pdL_shaped _ _, _, rfl, ?_⟩
    rw [pdL_eqv]
    cases hd : decide (LsEq R (lev R st n x) x) with
    | false =>
      refine iteT ?_
      have hd : ¬ LsEq R (lev R st n x) x := of_decide_eq_false hd
      refine ⟨fun σ' H' => ∃ m', m' < (lsum R x - lbsum R v y M0).toNat ∧ _, fun _ _ h => h, ?_⟩
      obtain ⟨b1, b2, c1, c2, c3⟩ := id ab
      refine ⟨_, rfl, ?_⟩
      have B' := lb_lev Pt Si B
      have l1_ := lsum_lt hd
      have l2_ := lsum_ge B'
      refine ⟨_, rfl, m, a.dx, _, rfl, M7.ob, nolev, _, rfl, qb, _, _, .ref b1, rfl, rfl, c1, rfl, _, rfl, qb, _, _, .ref b2, rfl, rfl, c1, rfl, _, rfl, qb, _, _, .int (lev R st n x).g, rfl, rfl, c1, rfl, m, b1, b2, a, R, st, n, lev R st n x, rfl, M7, Si.spot, c2, c3, fun H8 q8 d1 d2 S8 hq8 f1 f2 => ?_⟩
      refine ⟨(lsum R (lev R st n x) - lbsum R v y M0).toNat, by omega, lev R st n x, qb, q8, rfl, hst.tail ?_, B', S7.trans S8, ab.mono S8, ⟨d1, d2, hq8, f1, f2⟩, rfl⟩
      unfold levStep
      rw [if_neg hd]
    | true =>
      refine iteF ?_
      have hd : LsEq R (lev R st n x) x := of_decide_eq_true hd
      have hP : PaperR R st n x := ⟨hst, by unfold levStep; rw [if_pos hd]⟩
      obtain ⟨b1, b2, c1, c2, c3⟩ := id an
      refine ⟨_, rfl, qn, _, rfl, c1, rfl, _, _, rfl, _, _, rfl, _, _, rfl, rfl, ?_⟩
      -- the prices of the places
      refine ⟨_, rfl, _, rfl, m, CM, a.dx, _, _, rfl, M7.ob, T.cls_Manning, T.na_Manning_bounty, mf_b a, b2, a.lb, _, _, rfl, sql_of c3, sql_of M7.bo, fun D hD => ?_⟩
      refine lc_run (walk_zip (K := K) (a := b2) (b := a.lb) (xs := lI R.nP x.y) (ys := ls R.nP fun p => .int (R.bty p)) (n := R.nP) (by rw [lI_len, ls_len]; omega)) (H0 := H7) (fun j ac H8 => ac = (lI R.nP (priceU R x)).take j) (Same.refl _) hD (fun _ _ => rfl) (fun H8 S8 => ⟨sql_of (S8 _ _ c3), sql_of (S8 _ _ M7.bo)⟩) ?_ ?_
      · rintro j z ac H8 H9 hj hD0 S8 e8 rfl ⟨tt, x1, x2, rfl, ht, rfl, hx1, hx2⟩
        have hx1 : (lI R.nP x.y)[j]? = some x1 := hx1
        have hx2 : (ls R.nP fun p => V.int (R.bty p))[j]? = some x2 := hx2
        unfold lI at hx1
        rw [ls_get hj] at hx1 hx2
        have hx1 : V.int (x.y j) = x1 := Option.some.inj hx1
        have hx2 : V.int (R.bty j) = x2 := Option.some.inj hx2
        subst hx1 hx2
        refine ⟨tt, _, rfl, sqt_of upd_same, rfl, _, _, rfl, _, _, rfl, rfl, ?_⟩
        refine ⟨rfl, g_yes (iteT ?_)⟩
        refine ⟨_, rfl, _, rfl, _, _, rfl, rfl, _, rfl, _, _, rfl, ?_⟩
        refine lc_next hD0 S8 (Same.new ht) e8 (by rw [List.length_take, lI_len]; omega) fun H10 _ _ _ => ?_
        exact (ls_take hj).symm
      · rintro ac H8 S8 e8 rfl
        have e8 : H8 D = some (.lst (lI R.nP (priceU R x))) := by
          rw [e8]
          congr 2
          exact List.take_of_length_le (by rw [lI_len]; exact Nat.le_refl _)
        refine ⟨_, rfl, D, _, rfl, .inl ⟨sql_of e8, fun t1 ht1 => newG ht1 fun H9 S9 e9 => ?_⟩⟩
        have c29 := S9 _ _ (S8 _ _ c2)
        refine ⟨_, rfl, b1, rfl, ⟨_, sql_of c29⟩, fun D2 hD2 => ?_⟩
        refine lc_run (walk_list (K := K) (a := b1) (xs := lI R.nH x.h)) (H0 := H9) (fun j ac H10 => ac = (lI R.nH (priceV x)).take j) (Same.refl _) hD2 (fun _ _ => rfl) (fun H10 S10 => sql_of (S10 _ _ c29)) ?_ ?_
        · rintro j z ac H10 H11 hj hD0 S10 e10 rfl ⟨rfl, hx⟩
          rw [lI_len] at hj
          have hx : (lI R.nH x.h)[j]? = some z := hx
          unfold lI at hx
          rw [ls_get hj] at hx
          have hx : V.int (x.h j) = z := Option.some.inj hx
          subst hx
          refine ⟨rfl, g_yes (iteT ?_)⟩
          refine ⟨_, rfl, _, rfl, _, _, rfl, rfl, _, _, rfl, ?_⟩
          refine lc_next hD0 S10 (Same.refl _) e10 (by rw [List.length_take, lI_len]; omega) fun H12 _ _ _ => ?_
          exact (ls_take hj).symm
        · rintro ac H10 S10 e10 rfl
          have e10 : H10 D2 = some (.lst (lI R.nH (priceV x))) := by
            rw [e10, lI_len]
            congr 2
            exact List.take_of_length_le (by rw [lI_len]; exact Nat.le_refl _)
          refine ⟨D2, _, rfl, .inl ⟨sql_of e10, fun t2 ht2 => newG ht2 fun H11 S11 e11 => ?_⟩⟩
          refine ⟨by show 2 ≤ sizeLine; decide, fun t3 ht3 => newG ht3 fun H12 S12 e12 => ?_⟩
          have S7_12 := (((S8.trans S9).trans S10).trans S11).trans S12
          refine k H12 t3 x (S7.trans S7_12) hP (.tup (sqt_of e12) (.cons (.tup (sqt_of (S12 _ _ (S11 _ _ (S10 _ _ e9)))) ?_) (.cons (.tup (sqt_of (S12 _ _ e11)) ?_) .nil)))
          · rw [lI_map]; exact .ints
          · rw [lI_map]; exact .ints
end
end WS
/-! The posts' reckoning: the object made; man. -/
namespace WS
open PySem PySem.Spec PyProof.Rows L2 WM
open C8 (pe_gc pe_c pe_mk pe_mt pe_mt0)
/-- all but m stays -/
def Km (m : Addr) (H H' : Hp) : Prop := ∀ b o, b ≠ m → H b = some o → H' b = some o
theorem Km.trans {m : Addr} {H H1 H2 : Hp} (h : Km m H H1) (k : Km m H1 H2) : Km m H H2 := fun b o hb e => k b o hb (h b o hb e)
theorem Km.same {m : Addr} {H H1 : Hp} (h : Same H H1) : Km m H H1 := fun b o _ e => h b o e
theorem Km.tups {m : Addr} {H H' : Hp} (h : Km m H H') {C dx : Addr} {fs : List (Str × V)} (e : H m = some (.ins C dx fs)) : Tups H H' := fun a xs r => by
  have hne : a ≠ m := by
    rintro rfl
    rcases r with r | ⟨_, r⟩ <;> (rw [e] at r; cases r)
  rcases r with r | ⟨o, r⟩
  · exact .inl (h _ _ hne r)
  · exact .inr ⟨o, h _ _ hne r⟩
@[elab_as_elim] theorem fldG {H : Hp} {m : Addr} {o : HO} {R : Hp → Prop} (k : ∀ H', Km m H H' → H' m = some o → R H') : R (upd H m o) := k _ (fun b u hb e => by rw [upd_ne hb]; exact e) upd_same
theorem putF_new {f : Str} {v : V} : ∀ {fs : List (Str × V)}, ((fs.map (·.1)).all fun g => !(decide (g = f))) = true → putF f v fs = fs ++ [(f, v)]
  | [], _ => rfl
  | (g, x) :: r, h => by
    simp only [List.map_cons, List.all_cons, Bool.and_eq_true, Bool.not_eq_true', decide_eq_false_iff_not] at h
    show (if g = f then (g, v) :: r else (g, x) :: putF f v r) = _
    rw [if_neg h.1, putF_new (fs := r) h.2]
    rfl
theorem walk_zipT {K : PySem.W.Frag} {a b : Addr} {xs ys : List V} {n : Nat} (hn : n = min xs.length ys.length) : Walk (RZ.ItzT K a b) n (fun H => SqT K H a xs ∧ SqT K H b ys) (YPair (fun i => xs[i]?) (fun i => ys[i]?)) := by
  subst hn
  refine ⟨fun i _ hi q => ?_, fun _ q => ⟨xs, ys, q.1, q.2, by omega⟩, fun i H v H' _ q y => ?_⟩
  · have h1 : i < xs.length := by omega
    have h2 : i < ys.length := by omega
    exact ⟨xs, ys, xs[i], ys[i], q.1, q.2, by simp [h1], by simp [h2]⟩
  · obtain ⟨T, x, z, h1, h2, h3, h4, h5⟩ := y
    exact ⟨T, x, z, h1, h2, h3, h4 xs q.1, h5 ys q.2⟩
def probOf (hs : List Hand) (lot : List Place) (st : List (Option Str)) : Prob where
  nH := hs.length
  nP := lot.length
  cost h p := match hs[h]?, lot[p]?, st[h]? with
    | some a, some b, some s => if fitF a b then some (costF a b s) else none
    | _, _, _ => none
  want p := match lot[p]? with
    | some b => b.many
    | none => 0
  bty p := match lot[p]? with
    | some b => lackF b.grade
    | none => 0
structure MOk (hs : List Hand) (lot : List Place) (st : List (Option Str)) : Prop where
  len : st.length = hs.length
  szH : hs.length ≤ 1000
  szP : lot.length ≤ 1000
  pl : ∀ p, p ∈ lot → 0 ≤ p.grade ∧ p.grade ≤ 2 ∧ p.rank ≤ 7
  hd : ∀ h, h ∈ hs → 0 ≤ h.rank
theorem short_bd {h : Hand} {p : Place} (h0 : 0 ≤ h.rank) (h7 : p.rank ≤ 7) : 0 ≤ shortF h p ∧ shortF h p ≤ 7 := by
  unfold shortF
  split <;> omega
theorem cost_bd {h : Hand} {p : Place} {s : Option Str} (h0 : 0 ≤ h.rank) (h7 : p.rank ≤ 7) : 0 ≤ costF h p s ∧ costF h p s ≤ 107 := by
  have := short_bd h0 h7
  unfold costF
  split <;> omega
theorem lack_bd {g : Int} (h0 : 0 ≤ g) (h2 : g ≤ 2) : 10000 ≤ lackF g ∧ lackF g ≤ 100000000 := by
  have : g = 0 ∨ g = 1 ∨ g = 2 := by omega
  rcases this with rfl | rfl | rfl <;> decide
theorem prob_cost {hs : List Hand} {lot : List Place} {st : List (Option Str)} {h p : Nat} {c : Int} (e : (probOf hs lot st).cost h p = some c) : ∃ a b s, hs[h]? = some a ∧ lot[p]? = some b ∧ st[h]? = some s ∧ fitF a b = true ∧ c = costF a b s := by
  unfold probOf at e
  simp only at e
  split at e
  · rename_i a b s e1 e2 e3
    split at e
    · rename_i hf
      cases e
      exact ⟨a, b, s, e1, e2, e3, hf, rfl⟩
    · cases e
  · cases e
theorem prob_small {hs : List Hand} {lot : List Place} {st : List (Option Str)} (O : MOk hs lot st) : Small (probOf hs lot st) := by
  refine ⟨fun h p _ _ hc => ?_, fun p hp => ?_, O.szP⟩
  · obtain ⟨c, hc⟩ := Option.isSome_iff_exists.mp hc
    obtain ⟨a, b, s, e1, e2, e3, hf, rfl⟩ := prob_cost hc
    rw [cD_of hc]
    exact cost_bd (O.hd a (List.mem_of_getElem? e1)) (O.pl b (List.mem_of_getElem? e2)).2.2
  · have hp : p < lot.length := hp
    show (match lot[p]? with | some b => lackF b.grade | none => 0) ≤ _
    rw [List.getElem?_eq_getElem hp]
    obtain ⟨g0, g2, _⟩ := O.pl _ (List.getElem_mem hp)
    exact (lack_bd g0 g2).2
def spManI (K : PySem.W.Frag) (CM : Addr) : Sp := fun vs H Q _ => ∃ (m dx : Addr) (u v z : V) (hs : List Hand) (lot : List Place) (st : List (Option Str)), vs = [.ref m, u, v, z] ∧ H m = some (.ins CM dx []) ∧ Dt K H u (.tuple (hs.map encH)) ∧ Dt K H v (.tuple (lot.map encP)) ∧ Dt K H z (.tuple (st.map oD)) ∧ MOk hs lot st ∧
  ∀ H' a, Km m H H' → MObj H' CM m a (probOf hs lot st) (fun _ => none) (fun _ => 0) → MApart m a → H a.lo = none → H a.ln = none → Q .non H'
theorem oD_inv {K : PySem.W.Frag} {H : Hp} : ∀ {vs : List V} {xs : List (Option Str)}, DtAll K H vs (xs.map oD) → vs = xs.map oS
  | _, [], h => by cases h; rfl
  | _, x :: xs, h => by
    cases h with
    | cons h1 h2 =>
      rw [oD_inv h2]
      cases x with
      | none => cases h1; rfl
      | some x => cases h1; rfl
section
variable {P : Program} {w : World} {K : PySem.W.Frag} {mg : Str → Option Value} {base : Heap} {CM CH CV aL : Addr}
theorem sc_Manning_init : FnScope ["self", "hands", "lot", "stood", "place", "hand", "where"] ["self", "hands", "lot", "stood"] (defScope s_Manning_init) := ⟨rfl, rfl, rfl, by decide +kernel, rfl, by decide +kernel, by decide +kernel⟩
theorem c_Manning (T : Txt K mg CM CH CV aL) : Mak P w K mg base 4 "Manning" CM (spManI K CM) := by
  have c_costs_of := c_costs_of (P := P) (w := w) (base := base) T
  have c_lack_price := c_lack_price (P := P) (w := w) (base := base) T
  refine mak_of T.mg_Manning T.i_Manning (fun _ _ _ _ _ _ us hl => match us, hl with | [_, _, _, _], _ => rfl) sc_Manning_init (fun vs H Q E h => ?_) (fun f cdv A outer s H vs Q E hr h => ?_)
  · obtain ⟨_, _, _, _, _, _, _, _, rfl, _⟩ := h; rfl
  · obtain ⟨m, dx, u, v, z, hs, lot, st, rfl, hm, du, dv, dz, O, k⟩ := h
    obtain ⟨ua, us, rfl, u1, u2⟩ := id du.tup_inv
    obtain ⟨va, ps, rfl, v1, v2⟩ := id dv.tup_inv
    obtain ⟨za, zs, rfl, z1, z2⟩ := id dz.tup_inv
    have ezs := oD_inv z2
    subst ezs
    have lus : us.length = hs.length := by have := u2.length; rwa [List.length_map] at this
    have lps : ps.length = lot.length := by have := v2.length; rwa [List.length_map] at this
    have szH := O.szH
    have szP := O.szP
    have plen := O.len
    generalize hPR : probOf hs lot st = R at k
    have rH : R.nH = hs.length := by rw [← hPR]; rfl
    have rP : R.nP = lot.length := by rw [← hPR]; rfl
    refine ⟨_, (pss_cons (ps_fld (pv 0) (pe_lc (own := [("place", 4)]) rfl sc_Manning_init.nd (pi_tupK K (pv 2)) (blkOk_by (own := [("place", 4)]) (N := ["self", "hands", "lot", "stood", "place", "hand", "where"]) (sc := defScope s_Manning_init) (by decide +kernel)) (fun _ _ _ _ _ => (pg_name (i := 4) sc_Manning_init.nd rfl (Or.inl rfl))) (fun _ _ _ _ _ => pts_nil) (fun _ _ _ _ _ => (pe_ix (ix_tupK K) (pv 4) pe_int (fun _ _ => rfl)))) rfl)
    (pss_cons (ps_fld (pv 0) (pe_lc (own := [("place", 4)]) rfl sc_Manning_init.nd (pi_tupK K (pv 2)) (blkOk_by (own := [("place", 4)]) (N := ["self", "hands", "lot", "stood", "place", "hand", "where"]) (sc := defScope s_Manning_init) (by decide +kernel)) (fun _ _ _ _ _ => (pg_name (i := 4) sc_Manning_init.nd rfl (Or.inl rfl))) (fun _ _ _ _ _ => pts_nil) (fun _ _ _ _ _ => (pe_c c_lack_price hr (by decide) rfl (pa_cons (pe_ix (ix_tupK K) (pv 4) pe_int (fun _ _ => rfl)) pa_nil)))) rfl)
    (pss_cons (ps_fld (pv 0) (pe_lc (own := [("hand", 5), ("where", 6)]) rfl sc_Manning_init.nd (pi_zipAK K (by rfl) T.b_zip (pa_cons (pv 1) (pa_cons (pv 3) pa_nil))) (blkOk_by (own := [("hand", 5), ("where", 6)]) (N := ["self", "hands", "lot", "stood", "place", "hand", "where"]) (sc := defScope s_Manning_init) (by decide +kernel)) (fun _ _ _ _ _ => (pg_tupK K 2 rfl (pgs_cons (pg_name (i := 5) sc_Manning_init.nd rfl (Or.inl rfl)) (pgs_cons (pg_name (i := 6) sc_Manning_init.nd rfl (Or.inl rfl)) pgs_nil)))) (fun _ _ _ _ _ => pts_nil) (fun _ _ _ _ _ => (pe_c c_costs_of hr (by decide) rfl (pa_cons (pv 5) (pa_cons (pv 2) (pa_cons (pv 6) pa_nil)))))) rfl)
    (pss_cons (ps_fld (pv 0) (pe_op op_rep (pe_lst (pa_cons pe_non pa_nil)) (pe_callB (call_len_seqK K) (by rfl) T.b_len PySem.boot_len (pa_cons (pv 1) pa_nil))) rfl)
    (pss_one (ps_fld (pv 0) (pe_op op_rep (pe_lst (pa_cons pe_int pa_nil)) (pe_callB (call_len_seqK K) (by rfl) T.b_len PySem.boot_len (pa_cons (pv 2) pa_nil))) rfl)))))), ?_⟩
    -- wanted
    refine ⟨_, rfl, va, rfl, ⟨_, v1⟩, fun lw hlw => ?_⟩
    refine lc_run (walk_tup (K := K) (a := va) (xs := ps)) (H0 := H) (fun j ac H4 => ac = (ls R.nP fun p => V.int (R.want p)).take j) (Same.refl _) hlw (fun _ _ => rfl) (fun H4 S4 => S4.tup v1) ?_ ?_
    · rintro j x ac H4 H5 hj hD0 S4 e4 rfl ⟨rfl, hx⟩
      obtain ⟨p, hp, dp⟩ := item_inv (a := va) v2 hx
      obtain ⟨b, rfl, g1⟩ := place_inv dp
      have hjl : j < R.nP := by omega
      refine ⟨rfl, g_yes (iteT ?_)⟩
      refine ⟨_, rfl, b, _, _, .int p.many, rfl, rfl, S4.tup g1, rfl, ?_⟩
      refine lc_next hD0 S4 (Same.refl _) e4 (by rw [List.length_take, ls_len]; omega) fun H6 _ _ _ => ?_
      rw [ls_take hjl]
      congr 2
      rw [← hPR]
      show V.int p.many = V.int (match lot[j]? with | some b => b.many | none => 0)
      rw [hp]
    rintro ac H1 S1 e1 rfl
    have e1 : H1 lw = some (.lst (ls R.nP fun p => .int (R.want p))) := by
      rw [e1]
      congr 2
      exact List.take_of_length_le (by rw [ls_len]; omega)
    have nlw : lw ≠ m := (ne_of_none hm hlw).symm
    refine ⟨_, rfl, m, CM, dx, [], rfl, S1 _ _ hm, T.cls_Manning, T.na_Manning_wanted, (by show 0 < 1000; decide), fldG fun H1' K1 m1 => ?_⟩
    have KK1 : Km m H H1' := (Km.same S1).trans K1
    have t1 := KK1.tups hm
    have e1 := K1 _ _ nlw e1
    rw [show putF "wanted" (.ref lw) [] = [(("wanted" : Str), V.ref lw)] from rfl] at m1
    -- bounty
    refine ⟨_, rfl, va, rfl, ⟨_, t1.sq v1⟩, fun lb hlb => ?_⟩
    refine lc_run (walk_tup (K := K) (a := va) (xs := ps)) (H0 := H1') (fun j ac H4 => ac = (ls R.nP fun p => V.int (R.bty p)).take j) (Same.refl _) hlb (fun _ _ => rfl) (fun H4 S4 => S4.tup (t1.sq v1)) ?_ ?_
    · rintro j x ac H4 H5 hj hD0 S4 e4 rfl ⟨rfl, hx⟩
      obtain ⟨p, hp, dp⟩ := item_inv (a := va) v2 hx
      obtain ⟨b, rfl, g1⟩ := place_inv dp
      have hjl : j < R.nP := by omega
      obtain ⟨p0, p2, _⟩ := O.pl p (List.mem_of_getElem? hp)
      refine ⟨rfl, g_yes (iteT ?_)⟩
      refine ⟨_, rfl, b, _, _, .int p.grade, rfl, rfl, S4.tup (t1.sq g1), rfl, p.grade, rfl, p0, p2, ?_⟩
      refine lc_next hD0 S4 (Same.refl _) e4 (by rw [List.length_take, ls_len]; omega) fun H6 _ _ _ => ?_
      rw [ls_take hjl]
      congr 2
      rw [← hPR]
      show V.int (lackF p.grade) = V.int (match lot[j]? with | some b => lackF b.grade | none => 0)
      rw [hp]
    rintro ac H2 S2 e2 rfl
    have e2 : H2 lb = some (.lst (ls R.nP fun p => .int (R.bty p))) := by
      rw [e2]
      congr 2
      exact List.take_of_length_le (by rw [ls_len]; omega)
    have nlb : lb ≠ m := (ne_of_none m1 hlb).symm
    refine ⟨_, rfl, m, CM, dx, _, rfl, S2 _ _ m1, T.cls_Manning, T.na_Manning_bounty, (by show 1 < 1000; decide), fldG fun H2' K2 m2 => ?_⟩
    have KK2 : Km m H H2' := (KK1.trans (Km.same S2)).trans K2
    have t2 := KK2.tups hm
    have e1 := K2 _ _ nlw (S2 _ _ e1)
    have e2 := K2 _ _ nlb e2
    rw [putF_new (by rfl)] at m2
    -- costs
    refine ⟨_, rfl, _, rfl, ua, za, _, _, rfl, .inr ⟨t2.sq u1, t2.sq z1, fun lc hlc => ?_⟩⟩
    refine lc_run (walk_zipT (K := K) (a := ua) (b := za) (xs := us) (ys := st.map oS) (n := hs.length) (by rw [List.length_map]; omega)) (H0 := H2') (fun j ac H4 => ∃ rows : List Addr, ac = rows.map V.ref ∧ rows.length = j ∧ ∀ (h : Nat) (r : Addr), rows[h]? = some r → r ≠ lc ∧ r ≠ m ∧ H4 r = some (.lst (ls R.nP fun p => oI (R.cost h p))))
      (Same.refl _) hlc (fun _ _ => ⟨[], rfl, rfl, fun h r e => by simp at e⟩) (fun H4 S4 => ⟨S4.tup (t2.sq u1), S4.tup (t2.sq z1)⟩) ?_ ?_
    · rintro j x ac H4 H5 hj hD0 S4 e4 ⟨rows, rfl, hrl, hrow⟩ ⟨tt, x1, x2, rfl, ht, rfl, hx1, hx2⟩
      have hx1 : us[j]? = some x1 := hx1
      have hx2 : (st.map oS)[j]? = some x2 := hx2
      obtain ⟨hd, hh, dh⟩ := item_inv (a := ua) u2 hx1
      rw [List.getElem?_map] at hx2
      cases hst : st[j]? with
      | none => rw [hst] at hx2; cases hx2
      | some s0 =>
        rw [hst] at hx2
        have hx2 : oS s0 = x2 := Option.some.inj hx2
        subst hx2
        have St : Same H4 (upd H4 tt (.tup [x1, oS s0])) := Same.new ht
        have et : upd H4 tt (.tup [x1, oS s0]) tt = some (.tup [x1, oS s0]) := upd_same
        generalize upd H4 tt (.tup [x1, oS s0]) = H5 at St et ⊢
        refine ⟨tt, _, rfl, sqt_of et, rfl, _, _, rfl, _, _, rfl, rfl, ?_⟩
        refine ⟨rfl, g_yes (iteT ?_)⟩
        have T5 := t2.trans (S4.trans St).tups
        refine ⟨_, rfl, _, rfl, _, rfl, _, _, hd, lot, s0, rfl, dh.mono T5, dv.mono T5, szP, fun H6 q S6 hq e6 => ?_⟩
        have hqc : q ≠ lc := (ne_of_none (St _ _ e4) hq).symm
        have hqm : q ≠ m := (ne_of_none (St _ _ (S4 _ _ m2)) hq).symm
        refine lc_next hD0 S4 (St.trans S6) e4 (by rw [List.length_map, hrl]; omega) fun H7 S7 e7 k7 => ?_
        refine ⟨rows ++ [q], by simp, by simp [hrl], fun h r hr => ?_⟩
        by_cases hlt : h < rows.length
        · rw [List.getElem?_append_left hlt] at hr
          obtain ⟨a1, a2, a3⟩ := hrow h r hr
          exact ⟨a1, a2, by rw [k7 r a1]; exact S6 _ _ (St _ _ a3)⟩
        · rw [List.getElem?_append_right (by omega)] at hr
          have h0 : h - rows.length = 0 := by
            apply Classical.byContradiction
            intro q0
            rw [List.getElem?_eq_none (by simp; omega)] at hr
            cases hr
          rw [h0] at hr
          have hr : q = r := Option.some.inj hr
          subst hr
          refine ⟨hqc, hqm, ?_⟩
          rw [k7 q hqc, e6]
          congr 2
          have hj' : h = j := by omega
          subst hj'
          refine ls_ext (by unfold costsF; rw [List.length_map]; exact rP.symm) fun i y hy => ?_
          unfold costsF at hy
          rw [List.getElem?_map] at hy
          cases hp : lot[i]? with
          | none => rw [hp] at hy; cases hy
          | some p =>
            rw [hp] at hy
            have hy := Option.some.inj hy
            rw [← hy, ← hPR]
            show _ = oI (match hs[h]?, lot[i]?, st[h]? with | some a, some b, some s => if fitF a b then some (costF a b s) else none | _, _, _ => none)
            rw [hh, hp, hst]
    rintro ac H3 S3 e3 ⟨rows, rfl, hrl, hrow⟩
    have nlc : lc ≠ m := (ne_of_none m2 hlc).symm
    refine ⟨_, rfl, m, CM, dx, _, rfl, S3 _ _ m2, T.cls_Manning, T.na_Manning_costs, (by show 2 < 1000; decide), fldG fun H3' K3 m3 => ?_⟩
    have KK3 : Km m H H3' := (KK2.trans (Km.same S3)).trans K3
    have t3 := KK3.tups hm
    have e1 := K3 _ _ nlw (S3 _ _ e1)
    have e2 := K3 _ _ nlb (S3 _ _ e2)
    have e3 := K3 _ _ nlc e3
    have hrow : ∀ (h : Nat) (r : Addr), rows[h]? = some r → r ≠ m ∧ H3' r = some (.lst (ls R.nP fun p => oI (R.cost h p))) := fun h r hr => ⟨(hrow h r hr).2.1, K3 _ _ (hrow h r hr).2.1 (hrow h r hr).2.2⟩
    rw [putF_new (by rfl)] at m3
    -- spots
    refine ⟨by show 1 ≤ sizeLine; decide, fun p4 hp4 => newG hp4 fun H4 S4 f4 => ?_⟩
    refine ⟨_, rfl, ua, _, rfl, .inr (S4.tup (t3.sq u1)), p4, _, _, rfl, rfl, f4, by omega, by omega, sz100 (by simp; omega), fun lo hlo => newG hlo fun H5 S5 e5 => ?_⟩
    have nlo : lo ≠ m := (ne_of_none (S4 _ _ m3) hlo).symm
    have S45 := S4.trans S5
    refine ⟨_, rfl, m, CM, dx, _, rfl, S45 _ _ m3, T.cls_Manning, T.na_Manning_spots, (by show 3 < 1000; decide), fldG fun H5' K5 m5 => ?_⟩
    have KK5 : Km m H H5' := (KK3.trans (Km.same S45)).trans K5
    have t5 := KK5.tups hm
    have olw := ne_of_none (S4 _ _ e1) hlo
    have olb := ne_of_none (S4 _ _ e2) hlo
    have olc := ne_of_none (S4 _ _ e3) hlo
    have orow : lo ∉ rows := fun hmem => by
      obtain ⟨h, hh⟩ := List.getElem?_of_mem hmem
      exact ne_of_none (S4 _ _ (hrow h lo hh).2) hlo rfl
    have hlo0 : H lo = none := by
      cases q : H lo with
      | none => rfl
      | some o =>
        have := S4 _ _ (KK3 _ _ nlo q)
        rw [hlo] at this
        cases this
    have e1 := K5 _ _ nlw (S45 _ _ e1)
    have e2 := K5 _ _ nlb (S45 _ _ e2)
    have e3 := K5 _ _ nlc (S45 _ _ e3)
    have hrow : ∀ (h : Nat) (r : Addr), rows[h]? = some r → r ≠ m ∧ H5' r = some (.lst (ls R.nP fun p => oI (R.cost h p))) := fun h r hr => ⟨(hrow h r hr).1, K5 _ _ (hrow h r hr).1 (S45 _ _ (hrow h r hr).2)⟩
    have e5 := K5 _ _ nlo e5
    rw [putF_new (by rfl)] at m5
    -- named
    refine ⟨by show 1 ≤ sizeLine; decide, fun p6 hp6 => newG hp6 fun H6 S6 f6 => ?_⟩
    refine ⟨_, rfl, va, _, rfl, .inr (S6.tup (t5.sq v1)), p6, _, _, rfl, rfl, f6, by omega, by omega, sz100 (by simp; omega), fun ln hln => newG hln fun H7 S7 e7 => ?_⟩
    have nln : ln ≠ m := (ne_of_none (S6 _ _ m5) hln).symm
    have S67 := S6.trans S7
    refine ⟨_, rfl, m, CM, dx, _, rfl, S67 _ _ m5, T.cls_Manning, T.na_Manning_named, (by show 4 < 1000; decide), fldG fun H7' K7 m7 => ?_⟩
    have KK7 : Km m H H7' := (KK5.trans (Km.same S67)).trans K7
    have hln0 : H ln = none := by
      cases q : H ln with
      | none => rfl
      | some o =>
        have := S6 _ _ (KK5 _ _ nln q)
        rw [hln] at this
        cases this
    rw [putF_new (by rfl)] at m7
    have plw := ne_of_none (S6 _ _ e1) hln
    have plb := ne_of_none (S6 _ _ e2) hln
    have plc := ne_of_none (S6 _ _ e3) hln
    have plo := ne_of_none (S6 _ _ e5) hln
    have prow : ln ∉ rows := fun hmem => by
      obtain ⟨h, hh⟩ := List.getElem?_of_mem hmem
      exact ne_of_none (S6 _ _ (hrow h ln hh).2) hln rfl
    refine k H7' ⟨lw, lb, lc, lo, ln, dx, rows⟩ KK7 ⟨m7, K7 _ _ nlw (S67 _ _ e1), K7 _ _ nlb (S67 _ _ e2), K7 _ _ nlc (S67 _ _ e3), by rw [hrl, rH], fun h r hr => K7 _ _ (hrow h r hr).1 (S67 _ _ (hrow h r hr).2), ?_, ?_, by omega, by omega⟩ ⟨plo, ⟨nlo, olw.symm, olb.symm, olc.symm, orow⟩, ⟨nln, plw.symm, plb.symm, plc.symm, prow⟩⟩ hlo0 hln0
    · rw [K7 _ _ nlo (S67 _ _ e5), rH, ← lus]
      exact congrArg (fun l => some (HO.lst l)) (rep_one _ _)
    · rw [K7 _ _ nln e7, rP, ← lps]
      exact congrArg (fun l => some (HO.lst l)) (rep_one _ _)
end
end WS
/-! Rules that the layer lacks: enumerate of a tuple; zip of a tuple and a list, of three tuples. -/
namespace WS
open PySem PySem.Spec PyProof.Rows L2
/-- n turns over what stands still; a new tuple of the items each -/
def ItF (n : Nat) (items : Nat → List V) (G : Hp → Prop) : It :=
  ⟨fun i H => i < n ∧ G H, fun i H v H' => ∃ T, v = .ref T ∧ H T = none ∧ H' = upd H T (.tup (items i)), fun i H => i = n ∧ G H⟩
theorem walk_itF {n : Nat} {items : Nat → List V} {G : Hp → Prop} : Walk (ItF n items G) n G (fun i H v H' => ∃ T, v = .ref T ∧ H T = none ∧ H' = upd H T (.tup (items i))) :=
  ⟨fun _ _ hi g => ⟨hi, g⟩, fun _ g => ⟨rfl, g⟩, fun _ _ _ _ _ _ y => y⟩
theorem turn_itF {P : Program} {w : World} {K : PySem.W.Frag} {elts : List Expr} {kk : Nat} {tpos : Pos} {I : Addr} {own : List Addr} {n : Nat} {items : Nat → List V} {G : Hp → Prop} (tn : Nat → Heap → Prop) (mem : I ∈ own)
    (obj : ∀ i h, tn i h → ∀ b ∈ own, ∃ o, h.get? b = some o ∧ ∀ v, o.data ≠ .cell v) (keep : ∀ i h h', tn i h → (∀ b ∈ own, ∀ o, h.get? b = some o → h'.get? b = some o) → tn i h') (self : ∀ (A : Around) (i : Nat) (s : Shared) (Q : Value → Shared → Prop) (E : Value → Shared → Prop), tn i s.heap → Q (.ref I) s → wpAny (model P w) A (pyIter (.ref I)) Q E s)
    (hsz : ∀ i, (items i).length ≤ sizeLine)
    (run : ∀ (X : Cx), X.prog = P → X.w = w → X.K = K → X.calm = true → ∀ (pins : List (Addr × Obj)) (s : Shared) (σ : L2.St) (H : Hp), Inv X pins σ H s → G H → ∃ (fp : List Addr) (St : Nat → Heap → Prop) (Y : Nat → Heap → Value → Heap → Prop), GoesN P w X.A (.Tuple elts kk tpos) I fp own n Y St ∧
      (∀ i, tn i s.heap → St i s.heap) ∧ (∀ i h, St i h → tn i h) ∧ ∀ i h0 v h, i < n → Y i h0 v h → ∃ (T : Addr) (us : List Value), v = .ref T ∧ h0.objs.size ≤ T ∧ IsTup h T us.toArray ∧ Vals (items i) us) :
    Turn P w K (.Tuple elts kk tpos) (ItF n items G) own I tn where
  mem := mem
  obj := obj
  keep := keep
  item := by
    intro X hP hw hK hc i pins s σ H E Iv hf st hg
    obtain ⟨hi, hG⟩ := hg
    obtain ⟨fp, St, Y, W, toS, fromS, hY⟩ := run X hP hw hK hc pins s σ H Iv hG
    refine W.goes i s _ E hi (toS i st) fun v h' tk y st' hk htk => ?_
    obtain ⟨T, us, rfl, hT, hU, rv⟩ := hY i s.heap v h' hi y
    have new : ObjOk X.prog X.w (upd H T (.tup (items i))) h' T (.tup (items i)) := ⟨hsz i, us, rv, hU⟩
    have I1 : Inv X pins σ (upd H T (.tup (items i))) { s with heap := h', toks := tk } := Iv.turnedNew (ch := own) hk hf hT new
    refine ⟨.ref T, _, I1, rfl, ⟨T, rfl, Iv.hok.fresh hT, rfl⟩, fromS _ _ st', fun b hb => ?_⟩
    obtain ⟨o, ho, _⟩ := obj i s.heap st b hb
    have hlt : b < s.heap.objs.size := Heap.lt_size ho
    rw [upd_ne (Nat.ne_of_lt (Nat.lt_of_lt_of_le hlt hT))]
    exact (hf b hb).1
  done := by
    intro X hP hw hK hc i pins s σ H E Iv hf st hg
    obtain ⟨rfl, hG⟩ := hg
    obtain ⟨fp, St, Y, W, toS, fromS, hY⟩ := run X hP hw hK hc pins s σ H Iv hG
    exact W.stops s _ E (toS _ st) fun h' tk hk htk => Iv.turnedL (ch := own) hk hf
  self := self

section
theorem meets_enumB1 {v : Value} {o : Obj} {H : Heap → Prop} (B : Begins v o H) :
    Meets (Builtin.«enumerate.__new__» ⟨[.type "enumerate", v], []⟩) (fun _ R s => H s.heap ∧
      R (.ok (.ret (.ref (s.heap.push o).objs.size))) { s with heap := (s.heap.push o).push { cls := .type "enumerate", data := .fields #[.none, .bool false, .ref s.heap.objs.size, rawInt 0, .none, .none] } }) :=
  .of_wp fun prog w A R s h => by
    obtain ⟨hp, g, d, tk, os⟩ := s; obtain ⟨h1, h⟩ := h
    have hsub := sub_enumerate
    have q1 : ∀ {A' : Around} {E : Value → Shared → Prop} {Q : Value → Shared → Prop}, Q (.ref hp.objs.size) ⟨hp.push o, g, d, tk, os⟩ → wpAny (model prog w) A' (pyIter v) Q E ⟨hp, g, d, tk, os⟩ :=
      fun q => B.iter prog w _ _ ⟨hp, g, d, tk, os⟩ _ h1 q
    wp_walk using q1
    refine wpAny_stack_any fun st => wpAny_pure ?_
    split
    · rename_i c _ _ _ _ _
      cases (c == Value.type "enumerate")
      · wp_walk using q1
        exact ⟨_, rfl, h⟩
      · wp_walk using q1
        exact ⟨_, rfl, h⟩
    · wp_walk using q1
      exact ⟨_, rfl, h⟩
end
theorem enum_begins1 {prog : Program} {w : World} {A : Around} {E : Value → Shared → Prop} {s : Shared} {v : Value} {o : Obj} {H : Heap → Prop} {Q : Value → Shared → Prop} (B : Begins v o H) (h1 : H s.heap)
    (h : ∀ h', IsEnum h' (s.heap.objs.size + 1) s.heap.objs.size 0 .none → h'.get? s.heap.objs.size = some o → h'.objs.size = s.heap.objs.size + 2 → (∀ b o, s.heap.get? b = some o → h'.get? b = some o) → Q (.ref (s.heap.objs.size + 1)) { s with heap := h' }) :
    wpAny (model prog w) A (call (.type "enumerate") [v]) Q E s := by
  refine callType_new F.called_enumerate (by decide) (F.typeCall_enumerate_1 _) (F.newCall_enumerate_1 _) (fun obj => F.args_object_init_2 obj _) F.entry_enumerate_new (meets_enumB1 B) ⟨h1, ?_⟩
  have hz : (s.heap.push o).objs.size = s.heap.objs.size + 1 := Heap.size_push ..
  show _ ∧ _
  rw [hz]
  have he : IsEnum ((s.heap.push o).push { cls := .type "enumerate", data := .fields #[.none, .bool false, .ref s.heap.objs.size, rawInt 0, .none, .none] }) (s.heap.objs.size + 1) s.heap.objs.size 0 .none := by
    have := Heap.get?_push_size (s.heap.push o) (o := { cls := .type "enumerate", data := .fields #[.none, .bool false, .ref s.heap.objs.size, rawInt 0, .none, .none] }) rfl
    rw [hz] at this; exact this
  refine ⟨⟨_, he, rfl⟩, h _ he (Heap.get?_push_of_some _ (Heap.get?_push_size _ B.free)) (by rw [Heap.size_push, hz]) fun b o x => Heap.get?_push_of_some _ (Heap.get?_push_of_some _ x)⟩
theorem getD_vals {xs : List V} {us : List Value} {i : Nat} {u : Value} (r : Vals xs us) (h : us[i]? = some u) : RelV (xs.getD i .non) u := by
  have hl := r.length
  have hi : i < xs.length := by have := (List.getElem?_eq_some_iff.mp h).1; omega
  obtain ⟨u', e, q⟩ := r.get (List.getElem?_eq_getElem hi)
  rw [h] at e
  cases e
  rw [List.getD_eq_getElem?_getD, List.getElem?_eq_getElem hi]
  exact q
/-- enumerate of a tuple -/
def iEnumT (K : PySem.W.Frag) (ta : TA) : TI := fun σ H R => ta σ H fun vs H1 => ∃ a xs, vs = [.ref a] ∧ SqT K H1 a xs ∧ R (ItF xs.length (fun i => [.int (i : Nat), xs.getD i .non]) fun H => SqT K H a xs) H1
theorem pi_enumTK {X : Cx} (K : PySem.W.Frag) {e : Expr} {ta : TA} {p pos tpos : Pos} {elts : List Expr} {kk : Nat} (hg : Gl X "enumerate") (hm : X.mg "enumerate" = none) (ha : PA X [e] ta) (hs : starEach [e] X.env = [(false, eval e X.env)] := by rfl) (hK : X.K = K := by rfl) :
    PI X (.Tuple elts kk tpos) (.Call (.Name "enumerate" p) [e] [] pos) (iEnumT K ta) := by
  subst hK
  refine ⟨fun pins s σ H R I h => ?_⟩
  refine Call_ (ld_blt I hg hm boot_enumerate (PyProof.Rows.callWith_type1 (thn (ha.run pos pins s σ H _ I h) fun us s1 ⟨vs, H1, I1, r1, q1⟩ => ?_) hs rfl))
  obtain ⟨a, xs, ex, hq, q⟩ := q1
  subst ex
  cases r1 with
  | cons r rr =>
    cases rr
    cases r
    obtain ⟨its, rv, p', hz⟩ := I1.tuple hq
    have p1 : s1.heap.IsTuple a its.toArray := p'
    have hal : a < s1.heap.objs.size := by obtain ⟨o, ho, _⟩ := p1; exact Heap.lt_size ho
    refine enum_begins1 (begins_tuple a its.toArray) p1 fun h' he hit hsz hk => wpAny_pyIter_enum he ?_
    have I2 : Inv X pins σ H1 { s1 with heap := h' } := I1.kept (t' := s1.toks) hk
    have hne : s1.heap.objs.size + 1 ≠ s1.heap.objs.size := Nat.succ_ne_self _
    refine ⟨s1.heap.objs.size + 1, [s1.heap.objs.size + 1, s1.heap.objs.size], fun i h => (∃ old, IsEnum h (s1.heap.objs.size + 1) s1.heap.objs.size (0 + (i : Int)) old) ∧ h.IsTupleIter s1.heap.objs.size a i, _, H1, rfl, I2,
      turn_itF _ (by simp) (fun i h st b hb => ?_) (fun i h h' st k => ?_) (fun A i s Q E st h => let ⟨⟨_, he⟩, _⟩ := st; wpAny_pyIter_enum he h) (fun i => by show 2 ≤ sizeLine; decide) ?_, ⟨⟨.none, he⟩, ⟨_, hit, rfl, rfl⟩⟩, fun b hb => ?_, q⟩
    · obtain ⟨⟨old, he⟩, ⟨o, ho, _, hd⟩⟩ := st
      have e' : b = s1.heap.objs.size + 1 ∨ b = s1.heap.objs.size := by simpa using hb
      rcases e' with z | z
      · rw [z]; exact ⟨_, he, fun v q => nomatch q⟩
      · rw [z]; exact ⟨o, ho, fun v q => by rw [hd] at q; cases q⟩
    · obtain ⟨⟨old, he⟩, hi⟩ := st
      exact ⟨⟨old, k _ (by simp) _ he⟩, hi.at fun o q => k _ (by simp) o q⟩
    · intro Y hP hw hK hc pins' s' σ' H' I' hG
      obtain ⟨its', rv', p2, _⟩ := I'.tuple (by rw [hK]; exact hG)
      have hl := rv'.length
      have hn : its'.toArray.size = xs.length := by rw [hl]; simp
      have hm' : s1.heap.objs.size + 1 ∉ [s1.heap.objs.size, a] := by
        intro hm'
        have e' : s1.heap.objs.size + 1 = s1.heap.objs.size ∨ s1.heap.objs.size + 1 = a := by simpa using hm'
        rcases e' with z | z
        · exact hne z
        · rw [← z] at hal; exact absurd hal (Nat.not_lt.mpr (Nat.le_succ _))
      have W := GoesN.enumFrom (elts := elts) (x1 := kk) (pos := tpos) 0 (Draws.tuple (prog := Y.prog) (w := Y.w) (A := Y.A.in1) (I'.ok.hd hc) s1.heap.objs.size a (Nat.ne_of_lt hal) its'.toArray) (s1.heap.objs.size + 1) hne hm' (by simp)
      rw [hn, hP, hw] at W
      refine ⟨_, _, _, W, fun i st => ⟨st.1, st.2, p2⟩, fun i h st => ⟨st.1, st.2.1⟩, ?_⟩
      rintro i h0 v h hi ⟨T, t, x, rfl, hT, hx, hU⟩
      refine ⟨T, [.int (0 + (i : Int)) t, x], rfl, hT, hU, ?_⟩
      have hx' : its'[i]? = some x := by simpa using hx
      refine .cons ⟨t, ?_⟩ (.cons (getD_vals rv' hx') .nil)
      rw [Int.zero_add]
    · have e' : b = s1.heap.objs.size + 1 ∨ b = s1.heap.objs.size := by simpa using hb
      have hle : s1.heap.objs.size ≤ b := by
        rcases e' with z | z
        · rw [z]; exact Nat.le_add_right _ _
        · rw [z]; exact Nat.le_refl _
      exact I1.fpOk hle (I1.hok.fresh hle)

/-! zip of tuples and lists, two or three -/
theorem goesWr {prog : Program} {w : World} {A : Around} {tg : Expr} {I : Addr} {fp wr wr' : List Addr} {n : Nat} {Y : Nat → Heap → Value → Heap → Prop} {St : Nat → Heap → Prop} (W : GoesN prog w A tg I fp wr n Y St) (h1 : ∀ b, b ∈ wr → b ∈ wr') (h2 : ∀ b, b ∈ wr' → b ∈ fp) : GoesN prog w A tg I fp wr' n Y St where
  sub := h2
  frame := W.frame
  goes := fun i s Q E hi st hQ => W.goes i s Q E hi st fun v h' tk y st' hk htk => hQ v h' tk y st' (fun b o hb e => hk b o (fun z => hb (h1 b z)) e) htk
  stops := fun s Q E st hQ => W.stops s Q E st fun h' tk hk htk => hQ h' tk (fun b o hb e => hk b o (fun z => hb (h1 b z)) e) htk
  self := W.self
def ItAt : Bool → Heap → Addr → Addr → Nat → Prop
  | true, h, it, a, i => h.IsTupleIter it a i
  | false, h, it, a, i => h.IsListIter it a i
def SeqAt : Bool → Heap → Addr → Array Value → Prop
  | true, h, a, its => h.IsTuple a its
  | false, h, a, its => h.IsList a its
def SqB (K : PySem.W.Frag) : Bool → Hp → Addr → List V → Prop
  | true, H, a, xs => SqT K H a xs
  | false, H, a, xs => SqL K H a xs
def itObj : Bool → Addr → Obj
  | true, a => { cls := .type "tuple_iterator", data := .fields #[.ref a, .int 0 0] }
  | false, a => { cls := .type "list_iterator", data := .fields #[.ref a, .int 0 0] }
theorem drawsB {prog : Program} {w : World} {A : Around} (b : Bool) (hh : A.handled = none) (it a : Addr) (hne : a ≠ it) (items : Array Value) :
    Draws prog w A it [it, a] items.size (fun i v => items[i]? = some v) (fun i h => ItAt b h it a i ∧ SeqAt b h a items) := by
  cases b
  · exact Draws.list hh it a hne items
  · exact Draws.tuple hh it a hne items
theorem beginsB (b : Bool) (a : Addr) (items : Array Value) : Begins (.ref a) (itObj b a) fun h => SeqAt b h a items := by
  cases b
  · exact begins_list a items
  · exact begins_tuple a items
theorem seqB {X : Cx} {pins : List (Addr × Obj)} {σ : L2.St} {H : Hp} {s : Shared} {a : Addr} {xs : List V} {b : Bool} (I : Inv X pins σ H s) (h : SqB X.K b H a xs) : ∃ its, Vals xs its ∧ SeqAt b s.heap a its.toArray ∧ a < s.heap.objs.size := by
  cases b
  · obtain ⟨its, rv, p, _⟩ := I.list h
    exact ⟨its, rv, p.isList, p.lt⟩
  · obtain ⟨its, rv, p, _⟩ := I.tuple h
    obtain ⟨o, ho, _⟩ := id p
    exact ⟨its, rv, p, Heap.lt_size ho⟩
theorem itAt_obj {b : Bool} {h : Heap} {it a : Addr} {i : Nat} (x : ItAt b h it a i) : ∃ o, h.get? it = some o ∧ ∀ v, o.data ≠ .cell v := by
  cases b <;> obtain ⟨o, ho, _, hd⟩ := x <;> exact ⟨o, ho, fun v q => by rw [hd] at q; cases q⟩
theorem itAt_keep {b : Bool} {h h' : Heap} {it a : Addr} {i : Nat} (x : ItAt b h it a i) (k : ∀ o, h.get? it = some o → h'.get? it = some o) : ItAt b h' it a i := by
  cases b <;> obtain ⟨o, ho, q⟩ := x <;> exact ⟨o, k o ho, q⟩
theorem itAt_new {b : Bool} {h : Heap} {it a : Addr} (x : h.get? it = some (itObj b a)) : ItAt b h it a 0 := by
  cases b <;> exact ⟨_, x, rfl, rfl⟩
def iZipB (K : PySem.W.Frag) (b1 b2 : Bool) (ta : TA) : TI := fun σ H R => ta σ H fun vs H1 => ∃ a c xs ys, vs = [.ref a, .ref c] ∧ SqB K b1 H1 a xs ∧ SqB K b2 H1 c ys ∧
  R (ItF (min xs.length ys.length) (fun i => [xs.getD i .non, ys.getD i .non]) fun H => SqB K b1 H a xs ∧ SqB K b2 H c ys) H1
theorem pi_zipBK {X : Cx} (K : PySem.W.Frag) (b1 b2 : Bool) {e e2 : Expr} {ta : TA} {p pos tpos : Pos} {elts : List Expr} {kk : Nat} (hg : Gl X "zip") (hm : X.mg "zip" = none) (ha : PA X [e, e2] ta)
    (hs : starEach [e, e2] X.env = (false, eval e X.env) :: starEach [e2] X.env := by rfl) (hpl : (backTo pos (starEach [e2] X.env)).any (·.1) = false := by rfl) (hK : X.K = K := by rfl) :
    PI X (.Tuple elts kk tpos) (.Call (.Name "zip" p) [e, e2] [] pos) (iZipB K b1 b2 ta) := by
  subst hK
  refine ⟨fun pins s σ H R I h => ?_⟩
  refine Call_ (ld_blt I hg hm PyProof.Rows.boot_zip (PyProof.Rows.callWith_type1 (thn (ha.run pos pins s σ H _ I h) fun us s1 ⟨vs, H1, I1, r1, q1⟩ => ?_) hs hpl))
  obtain ⟨a, c, xs, ys, ex, hq1, hq2, q⟩ := q1
  subst ex
  cases r1 with
  | cons r rr =>
    cases rr with
    | cons r' rr =>
      cases rr
      cases r
      cases r'
      obtain ⟨its, rv, p1, la⟩ := seqB I1 hq1
      obtain ⟨its2, rv2, p2, lc⟩ := seqB I1 hq2
      generalize hN : s1.heap.objs.size = N at *
      refine zip_begins2 (beginsB b1 a its.toArray) (beginsB b2 c its2.toArray) p1 p2 fun h' hz hTI hTO h1 h2 hsz hk => ?_
      rw [hN] at hz hTI hTO h1 h2 ⊢
      refine wpAny_pyIter_zip hz ?_
      have I2 : Inv X pins σ H1 { s1 with heap := h' } := I1.kept (t' := s1.toks) hk
      have hl1 := rv.length
      have hl2 := rv2.length
      refine ⟨N + 4, [N + 4, N + 2, N + 3, N, N + 1], fun i h => IsZip h (N + 4) (N + 2) (N + 3) .none ∧ IsTupOf2 h (N + 2) (.ref N) (.ref (N + 1)) ∧ (∃ a1 a2, IsTupOf2 h (N + 3) a1 a2) ∧ ItAt b1 h N a i ∧ ItAt b2 h (N + 1) c i, _, H1, rfl, I2,
        turn_itF _ (by simp) (fun i h st b hb => ?_) (fun i h h' st k => ?_) (fun A i s Q E st h => wpAny_pyIter_zip st.1 h) (fun i => by show 2 ≤ sizeLine; decide) ?_, ⟨hz, hTI, ⟨_, _, hTO⟩, itAt_new h1, itAt_new h2⟩, fun b hb => ?_, q⟩
      · obtain ⟨z1, z2, ⟨_, _, z3⟩, z4, z5⟩ := st
        have e' : b = N + 4 ∨ b = N + 2 ∨ b = N + 3 ∨ b = N ∨ b = N + 1 := by simpa using hb
        rcases e' with z | z | z | z | z
        · rw [z]; exact ⟨_, z1, fun v q => nomatch q⟩
        · rw [z]; exact ⟨_, z2, fun v q => nomatch q⟩
        · rw [z]; exact ⟨_, z3, fun v q => nomatch q⟩
        · rw [z]; exact itAt_obj z4
        · rw [z]; exact itAt_obj z5
      · obtain ⟨z1, z2, ⟨_, _, z3⟩, z4, z5⟩ := st
        exact ⟨k _ (by simp) _ z1, k _ (by simp) _ z2, ⟨_, _, k _ (by simp) _ z3⟩, itAt_keep z4 fun o e => k _ (by simp) o e, itAt_keep z5 fun o e => k _ (by simp) o e⟩
      · intro Y hP hw hK hc pins' s' σ' H' I' hG
        obtain ⟨its', rv', p1', _⟩ := seqB I' (by rw [hK]; exact hG.1)
        obtain ⟨its2', rv2', p2', _⟩ := seqB I' (by rw [hK]; exact hG.2)
        have hl := rv'.length
        have hl2 := rv2'.length
        have hn : min its'.toArray.size its2'.toArray.size = min xs.length ys.length := by rw [hl, hl2]; simp
        have sep : ZipSep2 (N + 4) (N + 2) (N + 3) N (N + 1) [N, a] [N + 1, c] := zip_sep2 (fp1 := [a]) (fp2 := [c]) (by simpa using la) (by simpa using lc)
        have W := GoesN.zip2 (elts := elts) (x1 := kk) (pos := tpos) sep (drawsB (prog := Y.prog) (w := Y.w) (A := Y.A.in1) b1 (I'.ok.hd hc) N a (Nat.ne_of_lt la) its'.toArray)
          (drawsB (prog := Y.prog) (w := Y.w) (A := Y.A.in1) b2 (I'.ok.hd hc) (N + 1) c (Nat.ne_of_lt (Nat.lt_succ_of_lt lc)) its2'.toArray)
        rw [hn, hP, hw] at W
        refine ⟨_, _, _, goesWr W (wr' := [N + 4, N + 2, N + 3, N, N + 1]) (by simp) (by simp), fun i st => ⟨st.1, st.2.1, st.2.2.1, ⟨st.2.2.2.1, p1'⟩, ⟨st.2.2.2.2, p2'⟩⟩, fun i h st => ⟨st.1, st.2.1, st.2.2.1, st.2.2.2.1.1, st.2.2.2.2.1⟩, ?_⟩
        rintro i h0 v h hi ⟨T, x, y, rfl, hT, hx, hy, hU⟩
        refine ⟨T, [x, y], rfl, hT, hU, ?_⟩
        have hx' : its'[i]? = some x := by simpa using hx
        have hy' : its2'[i]? = some y := by simpa using hy
        exact .cons (getD_vals rv' hx') (.cons (getD_vals rv2' hy') .nil)
      · have e' : b = N + 4 ∨ b = N + 2 ∨ b = N + 3 ∨ b = N ∨ b = N + 1 := by simpa using hb
        have hle : s1.heap.objs.size ≤ b := by
          rw [hN]
          rcases e' with z | z | z | z | z <;> rw [z] <;> simp
        exact I1.fpOk hle (I1.hok.fresh hle)

def iZip3 (K : PySem.W.Frag) (ta : TA) : TI := fun σ H R => ta σ H fun vs H1 => ∃ a c d xs ys zs, vs = [.ref a, .ref c, .ref d] ∧ SqT K H1 a xs ∧ SqT K H1 c ys ∧ SqT K H1 d zs ∧
  R (ItF (min (min xs.length ys.length) zs.length) (fun i => [xs.getD i .non, ys.getD i .non, zs.getD i .non]) fun H => SqT K H a xs ∧ SqT K H c ys ∧ SqT K H d zs) H1
theorem pi_zip3TK {X : Cx} (K : PySem.W.Frag) {e e2 e3 : Expr} {ta : TA} {p pos tpos : Pos} {elts : List Expr} {kk : Nat} (hg : Gl X "zip") (hm : X.mg "zip" = none) (ha : PA X [e, e2, e3] ta)
    (hs : starEach [e, e2, e3] X.env = (false, eval e X.env) :: starEach [e2, e3] X.env := by rfl) (hpl : (backTo pos (starEach [e2, e3] X.env)).any (·.1) = false := by rfl) (hK : X.K = K := by rfl) :
    PI X (.Tuple elts kk tpos) (.Call (.Name "zip" p) [e, e2, e3] [] pos) (iZip3 K ta) := by
  subst hK
  refine ⟨fun pins s σ H R I h => ?_⟩
  refine Call_ (ld_blt I hg hm PyProof.Rows.boot_zip (PyProof.Rows.callWith_type1 (thn (ha.run pos pins s σ H _ I h) fun us s1 ⟨vs, H1, I1, r1, q1⟩ => ?_) hs hpl))
  obtain ⟨a, c, d, xs, ys, zs, ex, hq1, hq2, hq3, q⟩ := q1
  subst ex
  cases r1 with
  | cons r rr =>
    cases rr with
    | cons r' rr =>
      cases rr with
      | cons r'' rr =>
        cases rr
        cases r
        cases r'
        cases r''
        have hq1 : SqB X.K true H1 a xs := hq1
        have hq2 : SqB X.K true H1 c ys := hq2
        have hq3 : SqB X.K true H1 d zs := hq3
        obtain ⟨its, rv, p1, la⟩ := seqB I1 hq1
        obtain ⟨its2, rv2, p2, lc⟩ := seqB I1 hq2
        obtain ⟨its3, rv3, p3, ld⟩ := seqB I1 hq3
        generalize hN : s1.heap.objs.size = N at *
        refine zip_begins3 (beginsB true a its.toArray) (beginsB true c its2.toArray) (beginsB true d its3.toArray) p1 p2 p3 fun h' hz hTI hTO h1 h2 h3 hsz hk => ?_
        rw [hN] at hz hTI hTO h1 h2 h3 ⊢
        refine wpAny_pyIter_zip hz ?_
        have I2 : Inv X pins σ H1 { s1 with heap := h' } := I1.kept (t' := s1.toks) hk
        have hl1 := rv.length
        have hl2 := rv2.length
        refine ⟨N + 5, [N + 5, N + 3, N + 4, N, N + 1, N + 2], fun i h => IsZip h (N + 5) (N + 3) (N + 4) .none ∧ IsTupOf3 h (N + 3) (.ref N) (.ref (N + 1)) (.ref (N + 2)) ∧ (∃ a1 a2 a3, IsTupOf3 h (N + 4) a1 a2 a3) ∧ ItAt true h N a i ∧ ItAt true h (N + 1) c i ∧ ItAt true h (N + 2) d i, _, H1, rfl, I2,
          turn_itF _ (by simp) (fun i h st b hb => ?_) (fun i h h' st k => ?_) (fun A i s Q E st h => wpAny_pyIter_zip st.1 h) (fun i => by show 3 ≤ sizeLine; decide) ?_, ⟨hz, hTI, ⟨_, _, _, hTO⟩, itAt_new h1, itAt_new h2, itAt_new h3⟩, fun b hb => ?_, q⟩
        · obtain ⟨z1, z2, ⟨_, _, _, z3⟩, z4, z5, z6⟩ := st
          have e' : b = N + 5 ∨ b = N + 3 ∨ b = N + 4 ∨ b = N ∨ b = N + 1 ∨ b = N + 2 := by simpa using hb
          rcases e' with z | z | z | z | z | z
          · rw [z]; exact ⟨_, z1, fun v q => nomatch q⟩
          · rw [z]; exact ⟨_, z2, fun v q => nomatch q⟩
          · rw [z]; exact ⟨_, z3, fun v q => nomatch q⟩
          · rw [z]; exact itAt_obj z4
          · rw [z]; exact itAt_obj z5
          · rw [z]; exact itAt_obj z6
        · obtain ⟨z1, z2, ⟨_, _, _, z3⟩, z4, z5, z6⟩ := st
          exact ⟨k _ (by simp) _ z1, k _ (by simp) _ z2, ⟨_, _, _, k _ (by simp) _ z3⟩, itAt_keep z4 fun o e => k _ (by simp) o e, itAt_keep z5 fun o e => k _ (by simp) o e, itAt_keep z6 fun o e => k _ (by simp) o e⟩
        · intro Y hP hw hK hc pins' s' σ' H' I' hG
          obtain ⟨hG1, hG2, hG3⟩ := hG
          have hG1 : SqB Y.K true H' a xs := by rw [hK]; exact hG1
          have hG2 : SqB Y.K true H' c ys := by rw [hK]; exact hG2
          have hG3 : SqB Y.K true H' d zs := by rw [hK]; exact hG3
          obtain ⟨its', rv', p1', _⟩ := seqB I' hG1
          obtain ⟨its2', rv2', p2', _⟩ := seqB I' hG2
          obtain ⟨its3', rv3', p3', _⟩ := seqB I' hG3
          have hl := rv'.length
          have hl2 := rv2'.length
          have hl3 := rv3'.length
          have hn : min (min its'.toArray.size its2'.toArray.size) its3'.toArray.size = min (min xs.length ys.length) zs.length := by rw [hl, hl2, hl3]; simp
          have sep : ZipSep3 (N + 5) (N + 3) (N + 4) N (N + 1) (N + 2) [N, a] [N + 1, c] [N + 2, d] := zip_sep3 (fp1 := [a]) (fp2 := [c]) (fp3 := [d]) (by simpa using la) (by simpa using lc) (by simpa using ld)
          have W := GoesN.zip3 (elts := elts) (x1 := kk) (pos := tpos) sep (drawsB (prog := Y.prog) (w := Y.w) (A := Y.A.in1) true (I'.ok.hd hc) N a (Nat.ne_of_lt la) its'.toArray)
            (drawsB (prog := Y.prog) (w := Y.w) (A := Y.A.in1) true (I'.ok.hd hc) (N + 1) c (Nat.ne_of_lt (Nat.lt_succ_of_lt lc)) its2'.toArray)
            (drawsB (prog := Y.prog) (w := Y.w) (A := Y.A.in1) true (I'.ok.hd hc) (N + 2) d (Nat.ne_of_lt (Nat.lt_succ_of_lt (Nat.lt_succ_of_lt ld))) its3'.toArray)
          rw [hn, hP, hw] at W
          refine ⟨_, _, _, goesWr W (wr' := [N + 5, N + 3, N + 4, N, N + 1, N + 2]) (by simp) (by simp), fun i st => ⟨st.1, st.2.1, st.2.2.1, ⟨st.2.2.2.1, p1'⟩, ⟨st.2.2.2.2.1, p2'⟩, ⟨st.2.2.2.2.2, p3'⟩⟩,
            fun i h st => ⟨st.1, st.2.1, st.2.2.1, st.2.2.2.1.1, st.2.2.2.2.1.1, st.2.2.2.2.2.1⟩, ?_⟩
          rintro i h0 v h hi ⟨T, x, y, z, rfl, hT, hx, hy, hz, hU⟩
          refine ⟨T, [x, y, z], rfl, hT, hU, ?_⟩
          have hx' : its'[i]? = some x := by simpa using hx
          have hy' : its2'[i]? = some y := by simpa using hy
          have hz' : its3'[i]? = some z := by simpa using hz
          exact .cons (getD_vals rv' hx') (.cons (getD_vals rv2' hy') (.cons (getD_vals rv3' hz') .nil))
        · have e' : b = N + 5 ∨ b = N + 3 ∨ b = N + 4 ∨ b = N ∨ b = N + 1 ∨ b = N + 2 := by simpa using hb
          have hle : s1.heap.objs.size ≤ b := by
            rw [hN]
            rcases e' with z | z | z | z | z | z <;> rw [z] <;> simp
          exact I1.fpOk hle (I1.hok.fresh hle)
end WS
/-! Rules that the layer lacks: methods of a tuple that the run made, dict of a tuple of pairs, sorted of a tuple. -/
namespace WS
open PySem PySem.Spec PyProof.Rows L2
/-- a tuple whose object is known -/
def TupF (H : Hp) (p : Addr) (xs : List V) : Prop := ∃ o : Obj, H p = some (.frz o (.tup xs)) ∧ o.dict = none
theorem TupF.rd {H : Hp} {p : Addr} {xs : List V} (h : TupF H p xs) : Rd H p (.tup xs) := let ⟨o, e, _⟩ := h; .inr ⟨o, e⟩
theorem TupF.sq {K : PySem.W.Frag} {H : Hp} {p : Addr} {xs : List V} (h : TupF H p xs) : SqT K H p xs := .inl h.rd
theorem TupF.mono {H H' : Hp} {p : Addr} {xs : List V} (h : TupF H p xs) (s : Same H H') : TupF H' p xs := let ⟨o, e, d⟩ := h; ⟨o, s _ _ e, d⟩
section
variable {X : Cx}
/-- tuple(list), the new object known -/
def rTupleF (K : PySem.W.Frag) : List V → Hp → VK → Prop := fun xs H Q => ∃ p ys, xs = [.ref p] ∧ SqL K H p ys ∧ ∀ l o, H l = none → o.dict = none → Q (.ref l) (upd H l (.frz o (.tup ys)))
theorem call_tuple_ofFK (K : PySem.W.Frag) (hK : X.K = K := by rfl) : CallR X (.type "tuple") (rTupleF K) := by
  subst hK
  intro pins s σ H xs us Q I r h
  obtain ⟨p, ys, rfl, hq, q⟩ := h
  obtain ⟨u, rfl, rx⟩ := vals1 r
  cases rx
  obtain ⟨its, r', pl, hz⟩ := I.list hq
  have hlen := r'.length
  refine call_tuple_list pl.isList (fun h' kp => ?_) (by simp only [List.size_toArray] <;> omega)
  have I1 : Inv X pins σ H { s with heap := h' } := I.kept (t' := s.toks) kp
  have I2 : Inv X pins σ (upd H h'.objs.size (.frz { cls := .type "tuple", data := .seq its.toArray } (.tup ys))) { s with heap := h'.push { cls := .type "tuple", data := .seq its.toArray } } :=
    I1.laid (t' := s.toks) (fun b o e => Heap.get?_push_of_some _ e) (Nat.le_refl _) (show ObjOk X.prog X.w _ _ _ (.frz _ (.tup ys)) from ⟨Heap.get?_push_size _ rfl, hz, its, r', IsTup.new _ _⟩)
  exact ⟨.ref h'.objs.size, _, I2, rfl, q _ _ (I1.hok.fresh (Nat.le_refl _)) rfl⟩
/-- a tuple's method, the tuple's object known -/
def tBMT (r : V → List V → Hp → VK → Prop) (to : TE) (t : TA) : TE := fun σ H Q => to σ H fun x H1 => (∃ p xs, x = .ref p ∧ TupF H1 p xs) ∧ t σ H1 fun xs H2 => r x xs H2 Q
theorem pe_bmt {id : String} {name : Str} {apos cpos : Pos} {o e : Expr} {es : List Expr} {to : TE} {t : TA} {r : V → List V → Hp → VK → Prop} (pa : PlainAttrs "tuple") (slot : Slot "tuple" name id) (hty : typeOf (.builtin id) = pure (.type "method_descriptor")) (hm : MtR X id r) (ho : PE X o to) (ha : PA X (e :: es) t)
    (hbase : attributeBase o name X.env (eval o X.env) = eval o X.env := by rfl)
    (hfew : ((backTo cpos (starEach (e :: es) X.env)).all (fun x => !x.1) && (backToKw cpos (keywordEach [] X.env)).all (fun x => x.1.isSome)
      && decide ((e :: es).length + ([] : List Keyword).length + (if ([] : List Keyword).isEmpty then 0 else 1) < 30)) = true := by rfl)
    (hline : (apos.endLine == cpos.line) = true := by rfl) (hs : starEach (e :: es) X.env = (false, eval e X.env) :: starEach es X.env := by rfl) (hplain : (backTo cpos (starEach es X.env)).any (·.1) = false := by rfl) :
    PE X (.Call (.Attribute o name apos) (e :: es) [] cpos) (tBMT r to t) := by
  refine ⟨fun pins s σ H Q I h => ?_⟩
  refine wpAny_Call_method_late hbase hfew hline rfl (thn (ho.run pins s σ H _ I h) fun v s1 ⟨x, H1, I1, r1, ⟨p, xs, ex, ob, hp, hd⟩, q1⟩ => ?_)
  subst ex
  cases (show v = Value.ref p from r1)
  obtain ⟨e1, e2⟩ : s1.heap.get? p = some ob ∧ ObjOk X.prog X.w H1 s1.heap p (.tup xs) := I1.hok p _ hp
  obtain ⟨_, its, _, o', ho', hc, _⟩ := e2
  rw [e1] at ho'
  cases ho'
  refine ⟨"tuple", id, pa, slot, hty, ⟨ob, e1, hc⟩, fun a ha => ?_, ?_⟩
  · cases ha
    exact ⟨ob, e1, hd⟩
  have hA := ha.run cpos pins s1 σ H1 _ I1 q1
  rw [hs] at hA ⊢
  refine Calls.callWith_builtin (by show (false || (backTo cpos (starEach es X.env)).any (·.1)) = false; rw [hplain] <;> rfl) (Calls.evalArgs_plain ?_)
  exact thn hA fun us s2 ⟨vs, H2, I2, r2, q2⟩ => hm pins s2 σ H2 (.ref p) vs _ us Q I2 r1 r2 q2
theorem count_eqU {x : V} : ∀ {xs : List V} {us : List Value}, Vals xs us → xs.all flatV = true → us.countP (eqU x) = xs.countP fun y => eqV y x
  | _, _, .nil, _ => rfl
  | y :: xs, u :: us, .cons r t, f => by
    rw [List.all_cons, Bool.and_eq_true] at f
    rw [List.countP_cons, List.countP_cons, eqU_of r f.1, count_eqU t f.2]
def rCntT (K : PySem.W.Frag) : V → List V → Hp → VK → Prop := fun x xs H Q => ∃ (p : Addr) (ys : List V) (k : V), x = .ref p ∧ xs = [k] ∧ SqT K H p ys ∧ flatV k = true ∧ ys.all flatV = true ∧ Q (.int ((ys.countP fun y => eqV y k : Nat) : Int)) H
theorem mt_tcount : MtR X "tuple.count" (rCntT X.K) := by
  intro pins s σ H x xs v us Q I rx rxs h
  obtain ⟨p, ys, k, rfl, rfl, hs, fk, fy, q⟩ := h
  cases rx
  obtain ⟨u, rfl, ru⟩ := rxs.one
  obtain ⟨its, rv, ⟨⟨cls, dd, data, sl⟩, ho, hc, n, hd⟩, hlen⟩ := I.tuple hs
  simp only at hc hd
  subst hc hd
  refine call_meets PySem.F.slot_tuple_count ⟨_, ho, rfl⟩ PySem.F.entry_tuple_count (PySem.F.args_tuple_count_2 _ _)
    (SeqAt.tuple_countAt p its.toArray n dd sl u (eqU k)) ⟨ho, fun y hy => mem_eqAt ru fk rv fy y (by simpa using hy), ?_⟩
  have ec : its.toArray.toList.countP (eqU k) = ys.countP fun y => eqV y k := count_eqU rv fy
  refine ⟨.int _, H, I.tok _, ⟨s.toks, ?_⟩, q⟩
  rw [ec]
def rCntL (K : PySem.W.Frag) : V → List V → Hp → VK → Prop := fun x xs H Q => ∃ (p : Addr) (ys : List V) (k : V), x = .ref p ∧ xs = [k] ∧ SqL K H p ys ∧ flatV k = true ∧ ys.all flatV = true ∧ Q (.int ((ys.countP fun y => eqV y k : Nat) : Int)) H
theorem mt_lcountS : MtR X "list.count" (rCntL X.K) := by
  intro pins s σ H x xs v us Q I rx rxs h
  obtain ⟨p, ys, k, rfl, rfl, hs, fk, fy, q⟩ := h
  cases rx
  obtain ⟨u, rfl, ru⟩ := rxs.one
  obtain ⟨its, rv, ⟨⟨cls, dd, data, sl⟩, n, ho, hc, hdn, hd⟩, hlen⟩ := I.list hs
  simp only at hc hd
  subst hc hd
  refine call_meets PySem.F.slot_list_count ⟨_, ho, rfl⟩ PySem.F.entry_list_count (PySem.F.args_list_count_2 _ _)
    (SeqAt.list_countAt p its.toArray n dd sl u (eqU k)) ⟨ho, fun y hy => mem_eqAt ru fk rv fy y (by simpa using hy), ?_⟩
  have ec : its.toArray.toList.countP (eqU k) = ys.countP fun y => eqV y k := count_eqU rv fy
  refine ⟨.int _, H, I.tok _, ⟨s.toks, ?_⟩, q⟩
  rw [ec]
theorem mt_tcountK (K : PySem.W.Frag) (hK : X.K = K := by rfl) : MtR X "tuple.count" (rCntT K) := by subst hK; exact mt_tcount
theorem mt_lcountSK (K : PySem.W.Frag) (hK : X.K = K := by rfl) : MtR X "list.count" (rCntL K) := by subst hK; exact mt_lcountS
theorem mt_indexK (K : PySem.W.Frag) (hK : X.K = K := by rfl) : MtR X "list.index" (rIndex K) := by subst hK; exact mt_index
/-! list.remove of a text -/
def eqt (k : Str) (v : Value) : Bool := match v with
  | .str n _ => n.cps.toList == k.cps.toList
  | _ => false
theorem eqt_gives {k : Str} {t : Tok} : ∀ {ns : List Str} {us : List Value}, Vals (ns.map V.str) us → ∀ y ∈ us, MeetsSeq.EqGives y (.str k t) (eqt k y)
  | [], _, h => by cases h; exact fun y hy => by cases hy
  | n :: ns, us, h => by
    cases h with
    | cons r h =>
      obtain ⟨t', rfl⟩ := r
      intro y hy
      rcases List.mem_cons.mp hy with e | e
      · rw [e]; exact SeqRoads2.EqGives.str n k t' t
      · exact eqt_gives h y e
theorem erase_mapS : ∀ (l : List Str) (j : Nat), (l.map V.str).eraseIdx j = (l.eraseIdx j).map V.str
  | [], j => by simp
  | a :: r, 0 => by simp
  | a :: r, j + 1 => by
    have ih := erase_mapS r j
    simp [ih]
def rRemS : V → List V → Hp → VK → Prop := fun x xs H Q => ∃ (l : Addr) (ns : List Str) (k : Str) (j : Nat), x = .ref l ∧ xs = [.str k] ∧ H l = some (.lst (ns.map V.str)) ∧ ns[j]? = some k ∧ (∀ m : Nat, m < j → ns[m]? ≠ some k) ∧ Q .non (upd H l (.lst ((ns.eraseIdx j).map V.str)))
theorem str_cps {x y : Str} (h : (x.cps.toList == y.cps.toList) = true) : x = y := by
  have h := eq_of_beq h
  cases x
  cases y
  simp only at h
  congr
  exact Array.toList_inj.mp h
theorem mt_removeS : MtM X "list.remove" rRemS := by
  intro pins s σ H x xs v us Q I rx rxs h
  obtain ⟨l, ns, k, j, rfl, rfl, hH, hj, hno, q⟩ := h
  cases rx
  obtain ⟨u, rfl, ru⟩ := rxs.one
  obtain ⟨t, rfl⟩ := ru
  obtain ⟨z, its, n, r, hl, e⟩ := I.lstM hH
  rw [List.length_map] at hl z
  have hjn : j < ns.length := (List.getElem?_eq_some_iff.mp hj).1
  have hjl : j < its.toArray.size := by rw [List.size_toArray]; omega
  refine call_meets PySem.F.slot_list_remove ⟨_, e, rfl⟩ PySem.F.entry_list_remove (PySem.F.args_list_remove_2 _ _)
    (MeetsSeq.list_remove l its.toArray n (.str k t) (eqt k) (fun y hy => eqt_gives r y (by simpa using hy)) j hjl ?_ ?_ (by rw [List.size_toArray]; omega)) ⟨e, ?_⟩
  · obtain ⟨u, hu, tj, rfl⟩ := r.get (x := .str k) (by rw [List.getElem?_map, hj]; rfl)
    obtain ⟨h1, h2⟩ := List.getElem?_eq_some_iff.mp hu
    have e1 : its.toArray[j] = .str k tj := by simpa using h2
    rw [e1]
    exact beq_self_eq_true _
  · intro m hm hmj
    have hmn : m < ns.length := by omega
    obtain ⟨u, hu, tm, rfl⟩ := r.get (x := .str ns[m]) (by rw [List.getElem?_map, List.getElem?_eq_getElem hmn]; rfl)
    obtain ⟨h1, h2⟩ := List.getElem?_eq_some_iff.mp hu
    have e1 : its.toArray[m] = .str ns[m] tm := by simpa using h2
    rw [e1]
    cases hb : eqt k (.str ns[m] tm) with
    | false => rfl
    | true =>
      have := str_cps (x := ns[m]) (y := k) hb
      exact absurd (by rw [List.getElem?_eq_getElem hmn, this]) (hno m hmj)
  · have rr := r.eraseIdx j
    rw [erase_mapS] at rr
    refine ⟨.non, _, I.lset (its' := its.eraseIdx j) (t' := s.toks) hH e ?_ rr ?_, rfl, q⟩
    · show its.toArray.eraseIdxIfInBounds j = (its.eraseIdx j).toArray
      rw [List.eraseIdxIfInBounds_toArray]
    · have z2 := len_erase ns j
      rw [List.length_map]
      omega
end
end WS
/-! Rules that the layer lacks: dict of a tuple of pairs, d.update(d2), list(d.values()), sorted of a tuple of texts. -/
namespace WS
open PySem PySem.Spec PyProof.Rows L2
section
variable {X : Cx}
def rDictT (K : PySem.W.Frag) : List V → Hp → VK → Prop := fun xs H Q => ∃ (a : Addr) (ps : List Addr) (kvs : List (Key × V)), xs = [.ref a] ∧ TupF H a (ps.map V.ref) ∧ Paired (fun p kv => SqT K H p [kV kv.1, kv.2]) ps kvs ∧
  ∀ p, H p = none → Q (.ref p) (upd H p (.dK (mergeK [] kvs)))
theorem call_dictTK (K : PySem.W.Frag) (hcalm : X.calm = true) (hK : X.K = K := by rfl) : CallR X (.type "dict") (rDictT K) := by
  subst hK
  intro pins s σ H xs us Q I r q
  obtain ⟨a, ps, kvs, ex, ⟨ob, hob, hdn⟩, hp, q⟩ := q
  subst ex
  obtain ⟨u, eu, rx⟩ := vals1 r
  subst eu
  cases rx
  obtain ⟨e1, e2⟩ : s.heap.get? a = some ob ∧ ObjOk X.prog X.w H s.heap a (.tup (ps.map V.ref)) := I.hok a _ hob
  obtain ⟨hz, its, rv, o', ho', hc, n, hdat⟩ := e2
  rw [e1] at ho'
  cases ho'
  have ei := refs_at rv
  subst ei
  rw [List.length_map] at hz
  obtain ⟨prs, rel, hl, hpr⟩ := pairs_of I hp
  -- the keys' values
  have hex : ∀ j : Nat, ∃ u : Value, ∀ q : Key × Value, prs[j]? = some q → ∃ b, ps[j]? = some b ∧ IsTup s.heap b #[u, q.2] ∧ keyIs q.1 u = true := fun j => by
    cases e : prs[j]? with
    | none => exact ⟨.none, fun q e' => by cases e'⟩
    | some q =>
      obtain ⟨b, u, g1, g2, g3⟩ := hpr j q e
      exact ⟨u, fun q' e' => by cases e'; exact ⟨b, g1, g2, g3⟩⟩
  let ku : Nat → Value := fun j => Classical.choose (hex j)
  have hku : ∀ (j : Nat) (q : Key × Value), prs[j]? = some q → ∃ b, ps[j]? = some b ∧ IsTup s.heap b #[ku j, q.2] ∧ keyIs q.1 (ku j) = true := fun j q e => Classical.choose_spec (hex j) q e
  let pv : List (Value × Value) := (List.range prs.length).map fun j => (ku j, ((prs[j]?).map Prod.snd).getD .none)
  have hpvl : pv.length = prs.length := by simp [pv]
  have hpv : ∀ (j : Nat) (q : Key × Value), prs[j]? = some q → pv[j]? = some (ku j, q.2) := fun j q e => by
    have hj : j < prs.length := (List.getElem?_eq_some_iff.mp e).1
    simp [pv, hj]
    have e2 := (List.getElem?_eq_some_iff.mp e).2
    rw [← e2]
  let Ts : Nat → Addr := fun j => (ps[j]?).getD a
  have P := PairArg.tuple (prog := X.prog) (w := X.w) a (ps.map Value.ref).toArray Ts pv
  refine PySem.call_dict_pairs (knd := mixKind X.prog X.w) (kvs := prs) P (I.ok.hd hcalm) ⟨⟨ob, n, e1, hc, hdn, hdat⟩, ?_, fun j k v e => ?_⟩ ⟨hpvl.symm, fun i key v e => ?_⟩ (by rw [hpvl, hl]; exact hz) fun h' tk hd' k => ?_
  · rw [hpvl, hl]; simp
  · have hj : j < prs.length := by rw [← hpvl]; exact (List.getElem?_eq_some_iff.mp e).1
    have eq : prs[j]? = some prs[j] := List.getElem?_eq_getElem hj
    obtain ⟨b, g1, g2, g3⟩ := hku j _ eq
    have := hpv j _ eq
    rw [this] at e
    cases e
    refine ⟨by simp [Ts, g1], .inl ?_⟩
    have : Ts j = b := by simp [Ts, g1]
    rw [this]
    exact g2
  · have e : pv[i]? = some (key, v) := e
    have hj : i < prs.length := by rw [← hpvl]; exact (List.getElem?_eq_some_iff.mp e).1
    have eq : prs[i]? = some prs[i] := List.getElem?_eq_getElem hj
    obtain ⟨b, g1, g2, g3⟩ := hku i _ eq
    have := hpv i _ eq
    rw [this] at e
    cases e
    exact ⟨prs[i].1, eq, g3⟩
  · have hm : (s.heap.objs.size == sysModules) = false := beq_eq_false_iff_ne.mpr (Nat.ne_of_gt I.big)
    have hlen : (mergeK [] kvs).length ≤ sizeLine := by
      refine Nat.le_trans (length_mergeK kvs []) ?_
      rw [List.length_nil, Nat.zero_add, rel.length, hl]
      exact hz
    exact ⟨.ref s.heap.objs.size, upd H s.heap.objs.size (.dK (mergeK [] kvs)), I.laid (t' := tk) (fun b o e => k b o (by simp) e) (Nat.le_refl _) (show ObjOk X.prog X.w _ _ _ (.dK (mergeK [] kvs)) from ⟨hlen, hm, merged [] prs, KV.merge rel .nil, hd'⟩), rfl, q _ (I.hok.fresh (Nat.le_refl _))⟩
theorem kv_vals : ∀ {kvs : List (Key × V)} {vs : List (Key × Value)}, KV kvs vs → Vals (kvs.map (·.2)) (vs.map (·.2))
  | _, _, .nil => .nil
  | _, _, .cons h t => .cons h.2 (kv_vals t)
def rDUpd : V → List V → Hp → VK → Prop := fun x xs H Q => ∃ (a b : Addr) (kvs more : List (Key × V)), x = .ref a ∧ xs = [.ref b] ∧ a ≠ b ∧ H a = some (.dK kvs) ∧ Rd H b (.dK more) ∧ kvs.length + more.length ≤ sizeLine ∧ Q .non (upd H a (.dK (mergeK kvs more)))
theorem mt_dupdate : MtM X "dict.update" rDUpd := by
  intro pins s σ H x xs v us Q I rx rxs h
  obtain ⟨a, b, kvs, more, rfl, rfl, hne, ha, hb, hz, q⟩ := h
  cases rx
  obtain ⟨u, rfl, ru⟩ := rxs.one
  cases ru
  obtain ⟨z, hd, vs, rel, dd⟩ := dk_of I.hok ha
  obtain ⟨z2, hd2, vs2, rel2, dd2⟩ := dk_rd I.hok hb
  refine call_meetsIn PySem.F.slot_dict_update dd.typeIs PySem.F.entry_dict_update (PySem.F.args_dict_update_2 _ _) (meets_dict_update (mixKind X.prog X.w) a b hne hd2)
    ⟨vs, vs2, dd, dd2, by rw [← rel.length, ← rel2.length]; exact hz, fun h' dd' _ hs => ?_⟩
  have he : ∃ q, h'.get? a = some q := let ⟨q, _, _, hq, _⟩ := dd'; ⟨q, hq⟩
  exact ⟨.non, _, d_write (t' := s.toks) I (by rw [ha]; exact True.intro) hs he (dk_new (Nat.le_trans (length_mergeK more kvs) hz) hd (KV.merge rel2 rel) dd'), rfl, q⟩
/-- list(d.values()) -/
def tLstVals (td : TE) : TE := fun σ H Q => td σ H fun x H1 => ∃ a kvs, x = V.ref a ∧ H1 a = some (.dK kvs) ∧ ∀ p, H1 p = none → Q (.ref p) (upd H1 p (.lst (kvs.map (·.2))))
variable {o : Expr} {p pos apos mpos : Pos} {td : TE}
theorem pe_lstVals (hc : X.calm = true) (hg : Gl X "list") (hm : X.mg "list" = none) (hd : PE X o td) (hbase : attributeBase o "values" X.env (eval o X.env) = eval o X.env := by rfl) (hline : (apos.endLine == mpos.line) = true := by rfl)
    (hse : starEach [Expr.Call (.Attribute o "values" apos) [] [] mpos] X.env = [(false, eval (Expr.Call (.Attribute o "values" apos) [] [] mpos) X.env)] := by rfl) :
    PE X (.Call (.Name "list" p) [.Call (.Attribute o "values" apos) [] [] mpos] [] pos) (tLstVals td) := by
  refine ⟨fun pins s σ H Q I h => ?_⟩
  refine wpAny_Call_Name_kw (ld_blt I hg hm (u := .type "list") (by first | rfl | decide +kernel) ?_ (by first | decide +kernel | decide) (by first | decide +kernel | decide))
  refine PyProof.Rows.callWith_type1 ?_ hse rfl
  rw [hse]
  refine Calls.spliced_cons (wpAny_Call_method0_late hbase hline (thn (hd.run pins s σ H _ I h) fun v s1 ⟨x, H1, I1, r1, a, kvs, ex, ha, q⟩ => ?_))
  subst ex
  obtain rfl : v = Value.ref a := r1
  obtain ⟨_, hsys, vs, rel, dof⟩ := dk_of I1.hok ha
  obtain ⟨ep, dat⟩ := dof.dictAt
  have dat' := dat
  obtain ⟨ob, es, ho, ex, hdat, hko, hpr, hnd⟩ := dat'
  refine ⟨"dict", "dict.values", F.plainAttrs_dict, F.slot_dict_values, F.type_dict_values, ⟨ob, ho, ex.1⟩, fun b e => ?_, Calls.callWith_builtin rfl (PySem.evalArgs_none ?_)⟩
  · cases e
    exact ⟨ob, ho, ex.2.1⟩
  refine call_meetsIn F.slot_dict_values ⟨ob, ho, ex.1⟩ F.entry_dict_values (F.args_dict_values_1 _) (meets_dict_values (mixKind X.prog X.w) a hsys) ⟨⟨vs, dof⟩, Calls.spliced_nil ?_⟩
  have k1 : ∀ b u, s1.heap.get? b = some u → (s1.heap.push { cls := .type "dict_values", data := .fields #[.ref a] }).get? b = some u := fun b u e => Heap.get?_push_of_some _ e
  have dat1 : (s1.heap.push { cls := .type "dict_values", data := .fields #[.ref a] }).DictAt (mixKind X.prog X.w) a vs ep := dat.keep k1
  refine PySem.W.kdl_call (PySem.W.kdl_values (knd := mixKind X.prog X.w) (r := s1.heap.objs.size) (d := a) (kvs := vs) (ep := ep)) (I1.ok.hd hc) ⟨⟨_, Heap.get?_push_size _ rfl, rfl, rfl⟩, dat1⟩ ?_ fun h' tk acc' c' hk hg hit => ?_
  · rw [← rel.length]
    have := (dk_of I1.hok ha).1
    exact this
  have hsz : (s1.heap.push { cls := .type "dict_values", data := .fields #[.ref a] }).objs.size = s1.heap.objs.size + 1 := Heap.size_push _ _
  have hle : s1.heap.objs.size ≤ (s1.heap.push { cls := .type "dict_values", data := .fields #[.ref a] }).objs.size := by rw [hsz]; exact Nat.le_succ _
  have hve : acc'.toList = vs.map (·.2) := PySem.W.kdl_vals_eq acc'.toList (by rw [Array.length_toList]; exact hit.1) fun j v e => hit.2 j v (by rw [← Array.getElem?_toList]; exact e)
  have hlen : (kvs.map (·.2)).length ≤ sizeLine := by rw [List.length_map]; exact (dk_of I1.hok ha).1
  exact ⟨.ref _, upd H1 _ (.lst (kvs.map (·.2))), I1.laid (t' := tk) (fun b u e => hk b u (k1 b u e)) hle (show ObjOk X.prog X.w _ _ _ (.lst (kvs.map (·.2))) from ⟨hlen, acc'.toList, c', by rw [hve]; exact kv_vals rel, by rw [Array.toArray_toList]; exact hg⟩), rfl, q _ (I1.hok.fresh hle)⟩
end
end WS
/-! Rules that the layer lacks: sorted of a tuple of texts; sorted of a tuple by a lambda that gives two whole numbers. -/
namespace WS
open PySem PySem.Spec PyProof.Rows L2
section
variable {prog : Program} {w : World} {A : Around} {E : Value → Shared → Prop} {s : Shared}
theorem collect_tup {l : Addr} {vs : List Value} {Q : List Value → Shared → Prop} (hl : IsTup s.heap l vs.toArray)
    (h : Q vs { s with heap := (s.heap.push (seqObj "list" #[] 0)).update s.heap.objs.size (Obj.mapSeq (· ++ vs.toArray)) }) (hsz : vs.length ≤ sizeLine) :
    wpAny (model prog w) A (collect (.ref l)) Q E s := by
  obtain ⟨o, ho, hc, n, hd⟩ := id hl
  unfold collect
  refine wpAny_bind (wpAny_runValue (codeAny_builtin entry_proto_collect' ?_))
  show wpAny _ _ (do again (.builtin "list.__iadd__" ⟨[← newList [], .ref l], []⟩)) _ _ s
  refine wpAny_bind (wpAny_newList (wpAny_pure ⟨Code.quiet_builtin _ (by decide +kernel), codeAny_builtin entry_list_iadd' ?_⟩))
  show wpAny _ _ (Builtin.List.listExtendWith (.ref s.heap.objs.size) (.ref l) (.ref s.heap.objs.size)) _ _ { s with heap := s.heap.push (seqObj "list" #[] 0) }
  unfold Builtin.List.listExtendWith
  have ho' : (s.heap.push (seqObj "list" #[] 0)).get? l = some o := Heap.get?_push_of_some _ ho
  refine wpAny_bind (wpAny_typeOf (T := "tuple") ⟨o, ho', hc⟩ ?_)
  have ht : (Value.type "tuple" == Value.type "tuple") = true := by rfl
  rw [if_pos (by rw [ht]; simp)]
  refine wpAny_bind (listItems_at ho' hd ?_)
  refine wpAny_bind (listItems_at (xs := #[]) (n := 0) (Heap.get?_push_size _ rfl) rfl ?_)
  rw [if_neg (by simp)]
  refine wpAny_bind (listUpdate_at (xs := #[]) (n := 0) (Heap.get?_push_size _ rfl) rfl ?_ (Nat.zero_le _) (by show (#[] ++ vs.toArray).size ≤ sizeLine + 1; simp only [Array.size_append, List.size_toArray, List.length_nil]; omega))
  refine wpAny_pure ?_
  show wpAny (model prog w) A (do
      let o ← load s.heap.objs.size
      match o.data with
      | .seq xs _ => pure xs.toList
      | _ => unsupported "internal:collect") Q E { s with heap := (s.heap.push (seqObj "list" #[] 0)).update s.heap.objs.size (Obj.mapSeq (· ++ vs.toArray)) }
  refine wpAny_bind (wpAny_load (get?_update_seq (Heap.get?_push_size _ rfl) _) ?_)
  show wpAny _ _ (pure ((#[] : Array Value) ++ vs.toArray).toList) Q E _
  rw [show ((#[] : Array Value) ++ vs.toArray).toList = vs by simp]
  exact wpAny_pure h
open PySem.W PySem.Calls in
theorem sorted_of_sortT {l : Addr} {vs : List Value} {kw : List (Str × Value)} {Q : Value → Shared → Prop} (hl : IsTup s.heap l vs.toArray) (hL : vs.length ≤ sizeLine) (ha1 : argsOk "sorted" ⟨[.ref l], kw⟩) (ha2 : ∀ x, argsOk "list.sort" ⟨[.ref x], kw⟩)
    (body : ∀ E' : Value → Shared → Prop, wpAny (model prog w) A.in1.in1 (Builtin.«list.sort» ⟨[.ref (s.heap.objs.size + 1)], kw⟩) (fun f s' => f = .done (.ret .none) ∧ Q (.ref (s.heap.objs.size + 1)) s') E' { s with heap := copyHeap s.heap vs }) :
    wpAny (model prog w) A (call (.builtin "sorted") [.ref l] kw) Q E s := by
  refine call_function_entry_kw kind_sorted plain_sorted entry_sorted ha1 ?_
  unfold Builtin.«sorted»
  refine wpAny_bind (m := checkCount "sorted" 1 1 _) (wpAny_pure ?_)
  refine wpAny_bind (collect_tup hl ?_ hL)
  refine wpAny_bind (wpAny_newList ?_ hL)
  have hsz : ((s.heap.push (seqObj "list" #[] 0)).update s.heap.objs.size (Obj.mapSeq (· ++ vs.toArray))).objs.size = s.heap.objs.size + 1 := by
    rw [Heap.size_update, size_push']
  show wpAny _ _ _ _ _ { s with heap := copyHeap s.heap vs }
  rw [hsz]
  refine wpAny_bind (wpAny_holding (wpAny_call_entry_kw slot_list_sort ⟨_, copyHeap_at s.heap vs, rfl⟩ entry_list_sort ?body (ha2 _)))
  case body =>
    show wpAny (model prog w) A.in1.in1 (Builtin.«list.sort» ⟨[.ref (s.heap.objs.size + 1)], kw⟩) _ _ _
    refine wpAny_mono (body _) (fun f s' hf => ?_) fun _ _ e => e
    obtain ⟨rfl, hq⟩ := hf
    exact ⟨_, rfl, wpAny_pure ⟨_, rfl, hq⟩⟩
end
section
variable {X : Cx}
/-- sorted(t) of a tuple of fewer than 64 texts -/
def rSortedST (K : PySem.W.Frag) : List V → Hp → VK → Prop := fun vs H Q => ∃ (a : Addr) (xs : List Str), vs = [V.ref a] ∧ SqT K H a (xs.map V.str) ∧ xs.length < 64 ∧
  ∀ (ys : List Str) (p : Addr), ys.Perm xs → sortedS ys = true → H p = none → Q (.ref p) (upd H p (.lst (ys.map V.str)))
theorem cr_sortedSTK (K : PySem.W.Frag) (hK : X.K = K := by rfl) : CallR X (.builtin "sorted") (rSortedST K) := by
  subst hK
  intro pins s σ H vs us Q I r h
  obtain ⟨a, xs, rfl, hs, h64, q⟩ := h
  obtain ⟨its, rv, hl, hz⟩ := I.tuple hs
  rw [Vals.ref1 r]
  have hlen0 := rv.length
  rw [List.length_map] at hlen0
  have hS := rv.strs
  have hzl : its.length ≤ sizeLine := by rw [← hlen0]; rw [List.length_map] at hz; exact hz
  refine sorted_of_sortT hl hzl (PyProof.Rows.args_sorted1 _) (fun _ => PyProof.Rows.args_list_sort _) fun E' => ?_
  have hoL := PySem.W.copyHeap_at s.heap its
  refine list_sort_treeK strKind_oneLt (s := { s with heap := PySem.W.copyHeap s.heap its }) hoL hS.keysOf (fun v₁ v₂ rest e => keyKind_strs (by rw [← e]; exact hS)) (by rw [← hlen0]; exact h64) fun st' hp hs' => ⟨rfl, ?_⟩
  obtain ⟨ys, g1, g2, g3⟩ := sorted_out_str hS hp hs'
  obtain ⟨e', he'⟩ := PyProof.Rows.sortedHeap_at (vs := its) (out := (arrOf st').map (·.2)) hoL
  have hlen : (ys.map V.str).length ≤ sizeLine := by
    rw [List.length_map, g2.length_eq]
    exact Nat.le_trans (Nat.le_of_lt h64) (by decide)
  refine ⟨.ref _, upd H (s.heap.objs.size + 1) (.lst (ys.map V.str)), I.laid (t' := s.toks) (fun b u e => ?_) (Nat.le_succ _)
    (show ObjOk X.prog X.w _ _ _ (.lst (ys.map V.str)) from ⟨hlen, ((arrOf st').map (·.2)).toList, e', vals_of_strs g1, by rw [Array.toArray_toList]; exact he'⟩), rfl, q ys _ g2 g3 (I.hok.fresh (Nat.le_succ _))⟩
  have hb : b < s.heap.objs.size := Heap.lt_size e
  rw [PyProof.Rows.sortedHeap_old (Nat.ne_of_lt (Nat.lt_succ_of_lt hb)) ?_]
  · exact PySem.W.copyHeap_old e
  · exact Heap.lt_size (PySem.W.copyHeap_old e)
end
end WS
/-! sorted of a tuple by a lambda that gives the first two items of each. -/
namespace WS
open PySem PySem.Spec PyProof.Rows L2
section
variable {P : Program} {w : World} {A : Around} {s : Shared}
theorem seqIx {j n : Nat} (h : j < n) : seqIndex? (j : Int) n = some j := by
  unfold seqIndex?
  have a : ¬ ((j : Int) < 0) := by omega
  have b : (j : Int) < n := by omega
  simp [a, b]
theorem lam_key {f t c' : Addr} {name qual x : Str} {params : Arguments} {scope : Scope} {cl : List (Str × Addr)} {pm ctv : Value} {p1 p2 p3 p4 p5 p6 p7 : Pos} {k1 k2 k3 : Nat} {items : List Value} {a b : Int} {ta tb : Tok}
    (hroom : A.depth < recursionLimit) (ho : s.heap.get? f = some (PySem.W.kla_obj name qual params (.Tuple [.Subscript (.Name x p1) (.Constant (.int 0) k1 p2) p3, .Subscript (.Name x p4) (.Constant (.int 1) k2 p5) p6] k3 p7) scope cl pm c' ctv))
    (hcd : s.heap.CodeRec (.ref c') qual) (hlim : s.heap.NoLimit) (hk : scope.kind = .function) (hn : scope.names = [(x, .local)]) (hgen : scope.isGenerator = false) (hco : scope.isCoroutine = false)
    (hb : ∀ u, bindArgs (PySem.W.kla_fn name qual params (.Tuple [.Subscript (.Name x p1) (.Constant (.int 0) k1 p2) p3, .Subscript (.Name x p4) (.Constant (.int 1) k2 p5) p6] k3 p7) scope cl pm (.ref c') ctv) ⟨[u], []⟩ = pure [(x, u)]) (hdb : (x == ("__debug__" : Str)) = false)
    (ht : IsTup s.heap t items.toArray) (h0 : items[0]? = some (.int a ta)) (h1 : items[1]? = some (.int b tb)) :
    wpAny (model P w) A (call (.ref f) [.ref t]) (PySem.W.KeyPure (.tuple [.int a, .int b]) s) (fun _ _ => False) s := by
  refine wpAny_call (PySem.W.kla_callFunE hroom ho rfl hco hgen rfl hcd ?_)
  rw [hb]
  refine wpAny_pure (wpAny_newFunctionEnv (fun y hy => ?_) (fun y hy => ?_) (fun h₁ hns hsb => ⟨hlim.fresh _ hsb, ?_⟩) hk)
  · rw [hn] at hy
    have : y = (x, .local) := by simpa using hy
    rw [this]
    exact fun z => nomatch z
  · have : y = (x, .ref t) := by simpa using hy
    rw [this, hn]
    simp [List.lookup]
  · have hk₁ : ∀ b o, s.heap.get? b = some o → h₁.get? b = some o := fun b o e => hsb.extBut b o (Nat.ne_of_lt (Heap.lt_size e)) (Heap.get?_push_of_some _ e)
    have ht1 : IsTup h₁ t items.toArray := ht.keeps hk₁
    have hl0 : 2 ≤ items.length := by
      have := (List.getElem?_eq_some_iff.mp h1).1
      omega
    have hkind : ∀ (L : Addr), (PySem.W.envX qual scope L f (.ref c') cl).kindOf x = some .local := fun L => by
      show List.lookup x scope.names = some .local
      rw [hn]
      simp [List.lookup]
    have hv : (fun y => List.lookup y [(x, Value.ref t)].reverse) x = some (.ref t) := by simp [List.lookup]
    show codeAny (model P w) A (.expr (.Tuple [.Subscript (.Name x p1) (.Constant (.int 0) k1 p2) p3, .Subscript (.Name x p4) (.Constant (.int 1) k2 p5) p6] k3 p7) (PySem.W.envX qual scope s.heap.objs.size f (.ref c') cl)) _ _
    refine PySem.W.kla_codeExpr (wpAny_Tuple ?_)
    show wpAny _ _ (spliced ((false, eval (.Subscript (.Name x p1) (.Constant (.int 0) k1 p2) p3) _) :: backTo p7 (starEach [.Subscript (.Name x p4) (.Constant (.int 1) k2 p5) p6] _))) _ _ _
    refine Calls.spliced_cons (wpAny_Subscript_Constant_late (wpAny_Name (wpAny_loadName_local hk (hkind _) hns hv (wpAny_Constant_int ?_)) hdb))
    refine ⟨"tuple", _, PyProof.Rows.slot_tuple_getitem.lookup, ht1.typeIs, PyProof.Rows.getItem_tuple ht1 (by decide) (by decide) (j := 0) ?_ (by simpa using h0) ?_⟩
    · exact seqIx (j := 0) (by rw [List.size_toArray]; omega)
    show wpAny _ _ (spliced ((false, eval (.Subscript (.Name x p4) (.Constant (.int 1) k2 p5) p6) _) :: backTo p7 (starEach [] _))) _ _ _
    refine Calls.spliced_cons (wpAny_Subscript_Constant_late (wpAny_Name (wpAny_loadName_local hk (hkind _) hns hv (wpAny_Constant_int ?_)) hdb))
    refine ⟨"tuple", _, PyProof.Rows.slot_tuple_getitem.lookup, ht1.typeIs, PyProof.Rows.getItem_tuple ht1 (by decide) (by decide) (j := 1) ?_ (by simpa using h1) ?_⟩
    · exact seqIx (j := 1) (by rw [List.size_toArray]; omega)
    refine Calls.spliced_nil ⟨by show 2 ≤ sizeLine; decide, ?_⟩
    refine ⟨_, _, rfl, fun b o e => Heap.get?_push_of_some _ (hk₁ b o e), .tuple (Heap.get?_push_size _ rfl) rfl rfl ?_⟩
    exact .cons (.int a ta) (.cons (.int b tb) .nil)
end
end WS
/-! sorted(t, key=lambda x: (x[0], x[1])), t a tuple: the rule. -/
namespace WS
open PySem PySem.Spec PyProof.Rows L2
open LamX (TabS Tabs ExtN TabB CodeO lam_make2)
theorem each_of_vals {α : Type} : ∀ {bs : List (V × α)} {us : List Value}, Vals (bs.map (·.1)) us → PySem.W.EachIs (fun u b => RelV b.1 u) us bs
  | [], _, h => by cases h; exact .nil
  | b :: bs, us, h => by
    cases h with
    | cons r t => exact .cons r (each_of_vals t)
theorem vals_of_each {α : Type} : ∀ {us : List Value} {bs : List (V × α)}, PySem.W.EachIs (fun u b => RelV b.1 u) us bs → Vals (bs.map (·.1)) us
  | _, _, .nil => .nil
  | _, _, .cons r t => .cons r (vals_of_each t)
open PySem.W PySem.Calls in
theorem sorted_key_dataT {prog : Program} {w : World} {A : Around} {E : Value → Shared → Prop} {s : Shared} {β : Type} {vs : List Value} {bs : List β} {R : Value → β → Prop} {l : Addr} {f : Value} {kw : List (Str × Value)} {b : Bool} {Q : Value → Shared → Prop} (k : β → PyData) (hl : IsTup s.heap l vs.toArray) (e : EachIs R vs bs) (hal : AllAlike (bs.map k)) (hk : Sortable (bs.map k)) (hL : bs.length ≤ sizeLine)
    (hu : ∀ x, x ∈ bs → A.units + 2 + (k x).depth < cLine) (ha1 : argsOk "sorted" ⟨[.ref l], kw⟩) (ha2 : ∀ x, argsOk "list.sort" ⟨[.ref x], kw⟩) (ht : ∀ x, Builtin.«list.sort» ⟨[.ref x], kw⟩ = ksk_tree x f b)
    (turn : ∀ (v : Value) (x : β), R v x → x ∈ bs → ∀ (h : Heap) (tk : Nat), (∀ b o, s.heap.get? b = some o → h.get? b = some o) →
      wpAny (model prog w) A.in1.in1 (call f [v]) (KeyPure (k x) { s with heap := h, toks := tk }) (fun _ _ => False) { s with heap := h, toks := tk })
    (h : ∀ out c h' tk, (∀ b o, s.heap.get? b = some o → h'.get? b = some o) → s.heap.get? (s.heap.objs.size + 1) = none → h'.get? (s.heap.objs.size + 1) = some (seqObj "list" (List.toArray out) c) → out.length = bs.length → EachIs R out (bs.mergeSort (dataLe b k)) →
      Q (.ref (s.heap.objs.size + 1)) { s with heap := h', toks := tk }) :
    wpAny (model prog w) A (call (.builtin "sorted") [.ref l] kw) Q E s := by
  have fresh : s.heap.get? (s.heap.objs.size + 1) = none := Heap.get?_none_of_le (Nat.le_succ _)
  have up : ∀ {g : Heap}, KeepsBut (s.heap.objs.size + 1) (copyHeap s.heap vs) g → ∀ b o, s.heap.get? b = some o → g.get? b = some o := fun {g} kp b o q =>
    kp b o (Nat.ne_of_lt (Nat.lt_succ_of_lt (Heap.lt_size q))) (copyHeap_old q)
  refine sorted_of_sortT hl (by rw [e.length]; exact hL) ha1 ha2 fun E' => ?_
  rw [ht]
  refine keyH_tree (kz := bs.map k) (s := { s with heap := copyHeap s.heap vs }) (copyHeap_at s.heap vs) (by rw [List.length_map]; exact e.length.symm) (by rw [e.length]; exact hL) hal hk (fun d hd => ?_)
    (keyH_turns (s := { s with heap := copyHeap s.heap vs }) e fun v x hR hx h tk kp => turn v x hR hx h tk (up kp)) fun h' tk out c kp hD ko => ⟨rfl, ?_⟩
  · obtain ⟨x, hx, rfl⟩ := List.mem_map.mp hd
    exact hu x hx
  exact h out c h' tk (up kp) fresh hD ((ko.length (by rw [List.length_map]; exact e.length.symm)).trans e.length) (keyedOut_each k ko e)
/-- the order of two keys each -/
def leK {α : Type} (k : α → Int × Int) (p q : α) : Bool := decide ((k p).1 < (k q).1 ∨ ((k p).1 = (k q).1 ∧ (k p).2 ≤ (k q).2))
def tSortLam (K : PySem.W.Frag) {α : Type} (k : α → Int × Int) (P : Addr) (q : Str) (te : TE) : TE := fun σ H Q => te σ H fun v H1 => TabS H1 P q ∧ ∃ (a : Addr) (bs : List (V × α)), v = .ref a ∧ SqT K H1 a (bs.map (·.1)) ∧
  (∀ b, b ∈ bs → ∃ t r, b.1 = .ref t ∧ SqT K H1 t (.int (k b.2).1 :: .int (k b.2).2 :: r)) ∧ ∀ (H2 : Hp) (p : Addr), ExtN H1 H2 → TabS H2 P q → H2 p = none → Q (.ref p) (upd H2 p (.lst ((bs.mergeSort fun x y => leK k x.2 y.2).map (·.1))))
section
variable {X : Cx}
theorem pe_sortLam (K : PySem.W.Frag) {α : Type} (k : α → Int × Int) {c P : Addr} {q : Str} {e : Expr} {te : TE} {p pos lpos kpos p1 p2 p3 p4 p5 p6 p7 : Pos} {k1 k2 k3 kk : Nat} {x : Str} {params : Arguments} {scope : Scope} (hc : X.calm = true) (hg : Gl X "sorted") (hm : X.mg "sorted" = none) (he : PE X e te) (hr : Room kk X.A)
    (TB : TabB X.base X.mg c P) (hcode : X.env.code = .ref c) (hq : X.env.qual ++ "<lambda>" = q) (hk : scope.kind = .function) (hn : scope.names = [(x, .local)]) (hgen : scope.isGenerator = false) (hco : scope.isCoroutine = false) (hdef : defaultsOf params X.env = ([], []))
    (hb : ∀ (u : Value) (cl : List (Str × Addr)) (pm cv ctv : Value), bindArgs (PySem.W.kla_fn "<lambda>" q params (.Tuple [.Subscript (.Name x p1) (.Constant (.int 0) k1 p2) p3, .Subscript (.Name x p4) (.Constant (.int 1) k2 p5) p6] k3 p7) scope cl pm cv ctv) ⟨[u], []⟩ = pure [(x, u)]) (hdb : (x == ("__debug__" : Str)) = false)
    (hs : backTo pos (starEach [e] X.env) = (false, eval e X.env) :: backTo pos (starEach [] X.env) := by rfl) (hpl : (backTo pos (starEach [e] X.env)).any (·.1) = false := by rfl) (hK : X.K = K := by rfl) :
    PE X (.Call (.Name "sorted" p) [e] [⟨some "key", .Lambda params (.Tuple [.Subscript (.Name x p1) (.Constant (.int 0) k1 p2) p3, .Subscript (.Name x p4) (.Constant (.int 1) k2 p5) p6] k3 p7) scope lpos, kpos⟩] pos) (tSortLam K k P q te) := by
  subst hK
  refine ⟨fun pins s σ H Q I h => ?_⟩
  refine wpAny_Call_Name_kw (ld_blt I hg hm (u := .builtin "sorted") (by first | rfl | decide +kernel) ?_ (by first | decide +kernel | decide) (by first | decide +kernel | decide))
  refine PyProof.Rows.callWith_kw ?_ hs hpl (by rfl) (by rfl)
  rw [hs]
  refine Calls.spliced_cons (thn (he.run pins s σ H _ I h) fun u s1 ⟨v, H1, I1, r1, hT, a, bs, ev, ha, hx, q1⟩ => ?_)
  subst ev
  cases (show u = Value.ref a from r1)
  refine Calls.spliced_nil ?_
  show wpAny _ _ (evalAll [do let v ← eval (.Lambda params _ scope lpos) X.env; standAt pos; pure v]) _ _ s1
  refine wpAny_evalAll_cons (wpAny_bind ?_)
  have hT1 : Tabs [(P, q)] H1 := fun p hp => by
    have : p = (P, q) := by simpa using hp
    rw [this]; exact hT
  refine lam_make2 (T := [(P, q)]) I1 TB hcode (by rw [hq]; simp) (fun p hp _ => by
    have : p = (P, q) := by simpa using hp
    rw [this, hq]) hT1 hdef (fun y hy e => by
      rw [hn] at hy
      have : y = (x, .local) := by simpa using hy
      rw [this] at e
      cases e) fun f c' pm ctv H2 s2 I2 eN hT2 hf hfn hfr hcc => ?_
  rw [hq] at hf hcc
  refine wpAny_bind (wpAny_standAt (wpAny_pure (wpAny_evalAll_nil ?_)))
  have ha2 : SqT X.K H2 a (bs.map (·.1)) := by
    rcases ha with (e | ⟨o, e⟩) | e
    · exact .inl (.inl (eN _ _ e fun ps z => nomatch z))
    · exact .inl (.inr ⟨o, eN _ _ e fun ps z => nomatch z⟩)
    · exact .inr e
  obtain ⟨its, rv, hl, hz⟩ := I2.tuple ha2
  show wpAny _ _ (call (.builtin "sorted") [.ref a] [(Str.ofString "key", .ref f)]) _ _ s2
  have hcd : s2.heap.CodeRec (.ref c') q := by
    have e : ObjOk X.prog X.w H2 s2.heap c' (CodeO c' q) := I2.hok c' _ hcc
    unfold CodeO at e
    obtain ⟨⟨oc, vs, t, g1, g2, g3⟩, _⟩ := e
    exact ⟨c', oc, vs, t, rfl, g1, g2, g3⟩
  have hun := hr.un
  have hdp := hr.dp
  have hzb : bs.length ≤ sizeLine := by rw [List.length_map] at hz; exact hz
  refine sorted_key_dataT (b := false) (bs := bs) (R := fun u b => RelV b.1 u) (fun b => .tuple [.int (k b.2).1, .int (k b.2).2]) hl (each_of_vals rv) (PySem.W.AllAlike.of fun _ _ => by simp [PySem.W.alike, PySem.W.alikeAll]) (PySem.W.Sortable.tuples fun _ => ⟨_, _, rfl⟩) hzb (fun y _ => ?_) (PyProof.Rows.ksk_s1 _ _) (fun _ => PyProof.Rows.ksk_l1 _ _) (fun _ => PyProof.Rows.ksk_t1 _ _)
    (fun u y hR hy h tk kp => ?_) fun out c2 h' tk kp hfr' hD hlo eo => ?_
  · have hd : (PyData.tuple [.int (k y.2).1, .int (k y.2).2]).depth = 1 := by simp [PyData.depth, PyData.depthAll]
    omega
  · obtain ⟨t, r, e, ht⟩ := hx y hy
    rw [e] at hR
    cases (show u = Value.ref t from hR)
    have ht2 : SqT X.K H2 t (.int (k y.2).1 :: .int (k y.2).2 :: r) := by
      rcases ht with (e | ⟨o, e⟩) | e
      · exact .inl (.inl (eN _ _ e fun ps z => nomatch z))
      · exact .inl (.inr ⟨o, eN _ _ e fun ps z => nomatch z⟩)
      · exact .inr e
    obtain ⟨us, rus, hus, _⟩ := I2.tuple ht2
    cases rus with
    | cons z1 rus =>
      cases rus with
      | cons z2 rus =>
        obtain ⟨t1, rfl⟩ := z1
        obtain ⟨t2, rfl⟩ := z2
        exact lam_key (s := { s2 with heap := h, toks := tk }) (by show X.A.depth < recursionLimit; omega) (kp _ _ hf) (hcd.keeps kp) (I2.nolimit.keeps kp) hk hn hgen hco (fun u => hb u _ _ _ _) hdb (hus.keeps kp) rfl rfl
  · have hle : s2.heap.objs.size ≤ s2.heap.objs.size + 1 := Nat.le_succ _
    have ed : PySem.W.dataLe false (fun b : V × α => .tuple [.int (k b.2).1, .int (k b.2).2]) = fun x y => leK k x.2 y.2 := PySem.W.dataLe_ii (fun b : V × α => (k b.2).1) (fun b : V × α => (k b.2).2)
    rw [ed] at eo
    have rvo := vals_of_each eo
    have hzo : ((bs.mergeSort fun x y => leK k x.2 y.2).map (·.1)).length ≤ sizeLine := by rw [rvo.length, hlo]; exact hzb
    exact ⟨.ref _, upd H2 _ (.lst ((bs.mergeSort fun x y => leK k x.2 y.2).map (·.1))), I2.laid (t' := tk) kp hle (show ObjOk X.prog X.w _ _ _ (.lst _) from ⟨hzo, out, c2, rvo, hD⟩), rfl, q1 H2 _ eN (hT2 (P, q) (by simp)) (I2.hok.fresh hle)⟩
end
end WS
/-! man. -/
namespace WS
open PySem PySem.Spec PyProof.Rows L2 WM
open C8 (pe_gc pe_c pe_mk pe_mt pe_mt0)
def postN (lot : List Place) (s : Nat → Option Nat) (h : Nat) : Option Str :=
  match s h with
  | none => none
  | some p => (lot[p]?).map Place.nm
structure ManR (hs : List Hand) (lot : List Place) (st : List (Option Str)) (posts : List (Option Str)) (U V : List Int) : Prop where
  ex : ∃ s n x, FillR (probOf hs lot st) (fun _ => none, fun _ => 0) (s, n) ∧ Sit (probOf hs lot st) s n ∧ PaperR (probOf hs lot st) s n x ∧
    posts = ls hs.length (postN lot s) ∧ U = ls lot.length (priceU (probOf hs lot st) x) ∧ V = ls hs.length (priceV x) ∧ ∃ v y, Pot (probOf hs lot st) s n v y 0
theorem ManR.one {hs : List Hand} {lot : List Place} {st : List (Option Str)} {p p' : List (Option Str)} {U U' V V' : List Int} (h : ManR hs lot st p U V) (k : ManR hs lot st p' U' V') : p = p' ∧ U = U' ∧ V = V' := by
  obtain ⟨s, n, x, a1, a2, a3, rfl, rfl, rfl, _⟩ := h
  obtain ⟨s', n', x', b1, b2, b3, rfl, rfl, rfl, _⟩ := k
  have e := a1.one b1
  cases e
  have e2 := Fin.one a3 b3
  subst e2
  exact ⟨rfl, rfl, rfl⟩
open Classical in
/-- the posts that man tells -/
noncomputable def manF (hs : List Hand) (lot : List Place) (st : List (Option Str)) : List (Option Str) := if h : ∃ p U V, ManR hs lot st p U V then Classical.choose h else []
theorem ManR.is {hs : List Hand} {lot : List Place} {st : List (Option Str)} {p : List (Option Str)} {U V : List Int} (h : ManR hs lot st p U V) : p = manF hs lot st := by
  have e : ∃ p U V, ManR hs lot st p U V := ⟨p, U, V, h⟩
  unfold manF
  rw [dif_pos e]
  obtain ⟨U', V', k⟩ := Classical.choose_spec e
  exact (h.one k).1
def spMan (K : PySem.W.Frag) : Sp := fun vs H Q _ => ∃ (u v z : V) (hs : List Hand) (lot : List Place) (st : List (Option Str)), vs = [u, v, z] ∧ Dt K H u (.tuple (hs.map encH)) ∧ Dt K H v (.tuple (lot.map encP)) ∧ Dt K H z (.tuple (st.map oD)) ∧ MOk hs lot st ∧
  ∀ H' q p1 r2 posts U V, Same H H' → ManR hs lot st posts U V → SqT K H' q [.ref p1, r2] → TupF H' p1 (posts.map oS) → Dt K H' (.ref p1) (.tuple (posts.map oD)) → Dt K H' r2 (.tuple [.tuple (U.map .int), .tuple (V.map .int)]) → Q (.ref q) H'
theorem oD_all {K : PySem.W.Frag} {H : Hp} : ∀ (xs : List (Option Str)), DtAll K H (xs.map oS) (xs.map oD)
  | [] => .nil
  | none :: xs => .cons .non (oD_all xs)
  | some x :: xs => .cons (.str x) (oD_all xs)
theorem made_same {H H1 H' : Hp} {x dx C : Addr} {fs : List (Str × V)} (nx : H x = none) (nd : H dx = none) (k : Km x (upd (upd H dx (.own x)) x (.ins C dx fs)) H') : Same H H' := fun b o e =>
  k b o (ne_of_none e nx) (by rw [upd_ne (ne_of_none e nx), upd_ne (ne_of_none e nd)]; exact e)
section
variable {P : Program} {w : World} {K : PySem.W.Frag} {mg : Str → Option Value} {base : Heap} {CM CH CV aL : Addr}
theorem sc_man : FnScope ["hands", "lot", "stood", "made", "posts", "where"] ["hands", "lot", "stood"] (defScope s_man) := ⟨rfl, rfl, rfl, by decide +kernel, rfl, by decide +kernel, by decide +kernel⟩
theorem c_man (T : Txt K mg CM CH CV aL) : Cal P w K mg base 6 "man" (spMan K) := by
  have c_Manning := c_Manning (P := P) (w := w) (base := base) T
  have m_Manning_fill := m_Manning_fill (P := P) (w := w) (base := base) T
  have m_Manning_paper := m_Manning_paper (P := P) (w := w) (base := base) T
  refine cal_of T.d_man (fun _ _ _ _ _ _ us hl => match us, hl with | [_, _, _], _ => rfl) sc_man (fun vs H Q E h => ?_) (fun f cdv A outer s H vs Q E hr h => ?_)
  · obtain ⟨_, _, _, _, _, _, rfl, _⟩ := h; rfl
  · obtain ⟨u, v, z, hs, lot, st, rfl, du, dv, dz, O, k⟩ := h
    obtain ⟨va, ps, rfl, v1, v2⟩ := id dv.tup_inv
    have lps : ps.length = lot.length := by have := v2.length; rwa [List.length_map] at this
    have szH := O.szH
    have szP := O.szP
    refine ⟨_, (pss_cons (ps_set (i := 3) sc_man.nd rfl (Or.inl rfl) (pe_mk c_Manning hr (by decide) rfl (pa_cons (pv 0) (pa_cons (pv 1) (pa_cons (pv 2) pa_nil)))))
    (pss_cons (ps_expr (pe_mt0 m_Manning_fill hr (by decide) (pv 3)))
    (pss_cons (ps_set (i := 4) sc_man.nd rfl (Or.inl rfl) (pe_callTy (call_tuple_ofFK K) (by rfl) T.b_tuple (by decide +kernel) (pa_cons (pe_lc (own := [("where", 5)]) rfl sc_man.nd (pi_listK K (pe_fldK K (pv 3) rfl)) (blkOk_by (own := [("where", 5)]) (N := ["hands", "lot", "stood", "made", "posts", "where"]) (sc := defScope s_man) (by decide +kernel)) (fun _ _ _ _ _ => (pg_name (i := 5) sc_man.nd rfl (Or.inl rfl))) (fun _ _ _ _ _ => pts_nil) (fun _ _ _ _ _ => (pe_ifExp (pt_cmpR op_isN (pv 5) pe_non (nomark _)) pe_non (pe_ix (ix_tupK K) (pe_ix (ix_tupK K) (pv 1) (pv 5) (fun _ _ => rfl)) pe_int (fun _ _ => rfl))))) pa_nil)))
    (pss_one (ps_ret (pe_tup (pa_cons (pv 4) (pa_cons (pe_mt0 m_Manning_paper hr (by decide) (pv 3)) pa_nil)))))))), ?_⟩
    refine ⟨_, rfl, _, rfl, _, rfl, fun m dx nm nd ne => ?_⟩
    have s0 : Same H (upd (upd H dx (.own m)) m (.ins CM dx [])) := fun b o e => by rw [upd_ne (ne_of_none e nm), upd_ne (ne_of_none e nd)]; exact e
    refine ⟨m, dx, u, .ref va, z, hs, lot, st, rfl, upd_same, du.mono s0.tups, dv.mono s0.tups, dz.mono s0.tups, O, fun H1 a K1 M1 A1 lo0 ln0 => ⟨rfl, ?_⟩⟩
    have S1 : Same H H1 := made_same (H1 := H1) nm nd K1
    have lo0 : H a.lo = none := s0.free lo0
    have ln0 : H a.ln = none := s0.free ln0
    have Sm := prob_small O
    have nofill : (mfs a).lookup ("fill" : Str) = none := mf_no a (by decide +kernel) (by decide +kernel) (by decide +kernel) (by decide +kernel) (by decide +kernel)
    have nopaper : (mfs a).lookup ("paper" : Str) = none := mf_no a (by decide +kernel) (by decide +kernel) (by decide +kernel) (by decide +kernel) (by decide +kernel)
    refine ⟨_, rfl, m, a.dx, _, rfl, M1.ob, nofill, m, a, probOf hs lot st, _, _, rfl, M1, A1, Sm, start_sit _, ⟨_, _, _, start_pot Sm.cost (by decide) Sm.bty⟩, fun H2 s n B2 M2 hF Si hPt => ?_⟩
    have S2 : Same H H2 := fun b o e => B2 b o (ne_of_none e lo0) (ne_of_none e ln0) (S1 _ _ e)
    -- the posts
    refine ⟨_, rfl, m, CM, a.dx, _, _, rfl, M2.ob, T.cls_Manning, T.na_Manning_spots, mf_s a, a.lo, rfl, ⟨_, sql_of M2.sp⟩, fun D hD => ?_⟩
    refine lc_run (walk_list (K := K) (a := a.lo) (xs := ls (probOf hs lot st).nH fun h => oN (s h))) (H0 := H2) (fun j ac H4 => ac = ((ls hs.length (postN lot s)).map oS).take j) (Same.refl _) hD (fun _ _ => rfl) (fun H4 S4 => sql_of (S4 _ _ M2.sp)) ?_ ?_
    · rintro j x ac H4 H5 hj hD0 S4 e4 rfl ⟨rfl, hx⟩
      rw [ls_len] at hj
      have hj' : j < hs.length := hj
      have hx : (ls (probOf hs lot st).nH fun h => oN (s h))[j]? = some x := hx
      rw [ls_get hj] at hx
      have hx := Option.some.inj hx
      subst hx
      refine ⟨rfl, g_yes (iteT ?_)⟩
      have fin : ∀ y, y = oS (postN lot s j) → LcK H2 D (fun j ac H4 => ac = ((ls hs.length (postN lot s)).map oS).take j) j y H5 := fun y hy => by
        refine lc_next hD0 S4 (Same.refl _) e4 (by rw [List.length_take, List.length_map, ls_len]; omega) fun H6 _ _ _ => ?_
        rw [map_ls, ls_take hj', hy]
      refine ⟨_, rfl, rfl, _, rfl, ?_⟩
      cases hsj : s j with
      | none =>
        refine iteT ?_
        exact fin _ (by unfold postN; rw [hsj]; rfl)
      | some p =>
        obtain ⟨hp, _⟩ := Si.ok j hj p hsj
        have hp : p < lot.length := hp
        have hp1 : lot[p]? = some lot[p] := List.getElem?_eq_getElem hp
        obtain ⟨y, hy, dy⟩ := item_get v2 hp1
        obtain ⟨b, rfl, g1⟩ := place_inv dy
        have S24 := S2.trans S4
        refine iteF ?_
        refine ⟨_, rfl, _, rfl, va, _, _, .ref b, rfl, rfl, S24.tup v1, at_of rfl hy, b, _, _, .str lot[p].nm, rfl, rfl, S24.tup g1, rfl, ?_⟩
        exact fin _ (by unfold postN; rw [hsj]; simp only; rw [hp1]; rfl)
    rintro ac H3 S3 e3 rfl
    have e3 : H3 D = some (.lst ((ls hs.length (postN lot s)).map oS)) := by
      rw [e3]
      congr 2
      exact List.take_of_length_le (by rw [List.length_map, ls_len, ls_len]; exact Nat.le_refl _)
    refine ⟨D, _, rfl, sql_of e3, fun t1 o1 ht1 ho1 => newG ht1 fun H4 S4 e4 => ?_⟩
    have S34 := S3.trans S4
    have M4 := M2.mono S34
    refine ⟨_, rfl, _, rfl, m, a.dx, _, rfl, M4.ob, nopaper, m, a, probOf hs lot st, s, n, rfl, M4, Si, hPt, fun H5 q5 x S5 hP d5 => ?_⟩
    refine ⟨by show 2 ≤ sizeLine; decide, fun q hq => newG hq fun H6 S6 e6 => ?_⟩
    refine k H6 q t1 (.ref q5) _ _ _ (S2.trans (S34.trans (S5.trans S6))) ⟨s, n, x, hF, Si, hP, rfl, rfl, rfl, hPt⟩ (sqt_of e6) ⟨o1, S6 _ _ (S5 _ _ e4), ho1⟩ (.tup (.inl (.inr ⟨o1, S6 _ _ (S5 _ _ e4)⟩)) (oD_all _)) (d5.mono S6.tups)
end
end WS
/-! Hands put to seats. -/
namespace WS
open PySem PySem.Spec PyProof.Rows L2 WM
open C8 (pe_gc pe_c pe_mk pe_mt pe_mt0)
def fitS (hs : List Hand) (lot : List Place) (h k : Nat) : Bool :=
  match hs[h]?, lot[k]? with
  | some a, some p => fitF a p
  | _, _ => false
def wantS (lot : List Place) (k : Nat) : Int :=
  match lot[k]? with
  | some p => p.many
  | none => 0
theorem fitS_at {hs : List Hand} {lot : List Place} {h k : Nat} {a : Hand} {p : Place} (e1 : hs[h]? = some a) (e2 : lot[k]? = some p) : fitS hs lot h k = fitF a p := by
  unfold fitS; rw [e1, e2]
theorem wantS_at {lot : List Place} {k : Nat} {p : Place} (e2 : lot[k]? = some p) : wantS lot k = p.many := by
  unfold wantS; rw [e2]
def metK (kvs : KD) (k : Nat) : Prop := (valV kvs (.inl ((k : Nat) : Int))).isSome = true
instance (kvs : KD) (k : Nat) : Decidable (metK kvs k) := inferInstanceAs (Decidable (_ = true))
def unm (kvs : KD) (n : Nat) : Int := sumR n fun k => ind (¬ metK kvs k)
theorem met_put {kvs : KD} {k : Nat} {v : V} (j : Nat) : metK (putK kvs (.inl ((k : Nat) : Int)) v) j ↔ metK kvs j ∨ j = k := by
  unfold metK
  rw [valV_put]
  by_cases e : j = k
  · subst e; simp
  · have : ¬ ((Sum.inl ((j : Nat) : Int) : Key) = .inl ((k : Nat) : Int)) := fun z => e (by injection z with z; omega)
    rw [if_neg this]
    simp [e]
theorem unm_nonneg {kvs : KD} {n : Nat} : 0 ≤ unm kvs n := sumR_nonneg fun _ _ => ind_nonneg
theorem unm_put {kvs : KD} {k n : Nat} {v : V} (hk : k < n) (hn : ¬ metK kvs k) : unm (putK kvs (.inl ((k : Nat) : Int)) v) n = unm kvs n - 1 := by
  have e : unm (putK kvs (.inl ((k : Nat) : Int)) v) n = sumR n (up (fun j => ind (¬ metK kvs j)) k 0) := sumR_congr fun j _ => by
    by_cases q : j = k
    · subst q
      rw [up_same, ind_f]
      exact fun z => z ((met_put j).mpr (.inr rfl))
    · rw [up_ne q]
      by_cases m : metK kvs j
      · rw [ind_f (b := ¬ metK kvs j) (fun z => z m), ind_f (b := ¬ metK (putK kvs (.inl ((k : Nat) : Int)) v) j) (fun z => z ((met_put j).mpr (.inl m)))]
      · rw [ind_t (b := ¬ metK kvs j) m, ind_t (b := ¬ metK (putK kvs (.inl ((k : Nat) : Int)) v) j) fun z => by
          rcases (met_put j).mp z with z | z
          · exact m z
          · exact q z]
  rw [e, sumR_up hk, ind_t hn]
  unfold unm
  omega
theorem put_len {kvs : KD} {k : Nat} {v : V} (hn : ¬ metK kvs k) : (putK kvs (.inl ((k : Nat) : Int)) v).length = kvs.length + 1 := by
  have : valV kvs (.inl ((k : Nat) : Int)) = none := by
    cases e : valV kvs (.inl ((k : Nat) : Int)) with
    | none => rfl
    | some z => exact absurd (by unfold metK; rw [e]; rfl) hn
  rw [putK_new v this, List.length_append]
  rfl
theorem map_erase {α β : Type} (f : α → β) : ∀ (l : List α) (j : Nat), (l.map f).eraseIdx j = (l.eraseIdx j).map f
  | [], _ => rfl
  | _ :: _, 0 => rfl
  | x :: l, j + 1 => by
    rw [List.map_cons, List.eraseIdx_cons_succ, List.eraseIdx_cons_succ, List.map_cons, map_erase f l j]
def eS (l : List Nat) : List V := l.map fun h => V.int ((h : Nat) : Int)
/-- the seats: a list of lists; those met -/
structure SeatAt (Hs H : Hp) (lse lm : Addr) (qs : List Addr) (n : Nat) (Se : Nat → List Nat) (kvs : KD) : Prop where
  same : Same Hs H
  ls : Hs lse = some (.lst (qs.map V.ref))
  len : qs.length = n
  nd : qs.Nodup
  q : ∀ k q, qs[k]? = some q → Hs q = none ∧ H q = some (.lst (eS (Se k)))
  m : Hs lm = none ∧ H lm = some (.dK kvs)
  apart : lm ∉ qs
namespace SeatAt
variable {Hs H H' : Hp} {lse lm : Addr} {qs : List Addr} {n : Nat} {Se Se' : Nat → List Nat} {kvs kvs' : KD}
theorem mono (S : SeatAt Hs H lse lm qs n Se kvs) (s : Same H H') : SeatAt Hs H' lse lm qs n Se kvs :=
  ⟨S.same.trans s, S.ls, S.len, S.nd, fun k q hq => ⟨(S.q k q hq).1, s _ _ (S.q k q hq).2⟩, ⟨S.m.1, s _ _ S.m.2⟩, S.apart⟩
theorem at_ (S : SeatAt Hs H lse lm qs n Se kvs) {k : Nat} (hk : k < n) : ∃ q, qs[k]? = some q := ⟨_, List.getElem?_eq_getElem (by rw [S.len]; exact hk)⟩
theorem put (S : SeatAt Hs H lse lm qs n Se kvs) : SeatAt Hs (upd H lm (.dK kvs')) lse lm qs n Se kvs' :=
  ⟨S.same.mut S.m.1, S.ls, S.len, S.nd, fun k q hq => ⟨(S.q k q hq).1, by
    have : q ≠ lm := fun e => S.apart (e ▸ List.mem_of_getElem? hq)
    rw [upd_ne this]; exact (S.q k q hq).2⟩, ⟨S.m.1, upd_same⟩, S.apart⟩
theorem set (S : SeatAt Hs H lse lm qs n Se kvs) {k : Nat} {q : Addr} (hq : qs[k]? = some q) (l : List Nat) : SeatAt Hs (upd H q (.lst (eS l))) lse lm qs n (up Se k l) kvs :=
  ⟨S.same.mut (S.q k q hq).1, S.ls, S.len, S.nd, fun j r hr => by
    refine ⟨(S.q j r hr).1, ?_⟩
    by_cases e : j = k
    · subst e
      rw [hq] at hr
      cases hr
      rw [upd_same, up_same]
    · have : r ≠ q := fun z => by
        subst z
        have h1 := (List.getElem?_eq_some_iff.mp hr)
        have h2 := (List.getElem?_eq_some_iff.mp hq)
        obtain ⟨i1, g1⟩ := h1
        obtain ⟨i2, g2⟩ := h2
        exact e ((List.getElem_inj S.nd).mp (g1.trans g2.symm))
      rw [upd_ne this, up_ne e]
      exact (S.q j r hr).2, ⟨S.m.1, by
    have : lm ≠ q := fun e => S.apart (e ▸ List.mem_of_getElem? hq)
    rw [upd_ne this]; exact S.m.2⟩, S.apart⟩
/-- more is told to stay -/
theorem grow (S : SeatAt Hs H lse lm qs n Se kvs) {t : Addr} {o : HO} (h0 : Hs t = none) (h1 : H t = some o) (hm : t ≠ lm) (hq : t ∉ qs) : SeatAt (upd Hs t o) H lse lm qs n Se kvs :=
  ⟨fun b u e => by
    by_cases z : b = t
    · subst z; rw [upd_same] at e; cases e; exact h1
    · rw [upd_ne z] at e; exact S.same b u e, by rw [upd_ne (ne_of_none S.ls h0)]; exact S.ls, S.len, S.nd, fun k q hk => by
    have : q ≠ t := fun e => hq (e ▸ List.mem_of_getElem? hk)
    rw [upd_ne this]; exact S.q k q hk, by rw [upd_ne hm.symm]; exact S.m, S.apart⟩
theorem less (S : SeatAt (upd Hs t o) H lse lm qs n Se kvs) (h0 : Hs t = none) (hl : lse ≠ t) (hm : t ≠ lm) (hq : t ∉ qs) : SeatAt Hs H lse lm qs n Se kvs :=
  ⟨fun b u e => S.same b u (by rw [upd_ne (ne_of_none e h0)]; exact e), by have := S.ls; rwa [upd_ne hl] at this, S.len, S.nd, fun k q hk => by
    have : q ≠ t := fun e => hq (e ▸ List.mem_of_getElem? hk)
    have h := S.q k q hk
    rwa [upd_ne this] at h, by have h := S.m; rwa [upd_ne hm.symm] at h, S.apart⟩
end SeatAt
theorem eS_len (l : List Nat) : (eS l).length = l.length := by unfold eS; rw [List.length_map]
theorem eS_get {l : List Nat} {i : Nat} {x : V} (h : (eS l)[i]? = some x) : ∃ a, l[i]? = some a ∧ x = .int ((a : Nat) : Int) := by
  unfold eS at h
  rw [List.getElem?_map] at h
  cases e : l[i]? with
  | none => rw [e] at h; cases h
  | some a => rw [e] at h; exact ⟨a, rfl, (Option.some.inj h).symm⟩
def spSit (K : PySem.W.Frag) (d : Nat) : Sp := fun vs H Q _ => ∃ (u v : V) (lse lm : Addr) (hs : List Hand) (lot : List Place) (a : Nat) (Hs : Hp) (qs : List Addr) (Se : Nat → List Nat) (kvs : KD), vs = [u, v, .ref lse, .int ((a : Nat) : Int), .ref lm] ∧
  Dt K Hs u (.tuple (hs.map encH)) ∧ Dt K Hs v (.tuple (lot.map encP)) ∧ SeatAt Hs H lse lm qs lot.length Se kvs ∧ SeOk hs.length lot.length (fitS hs lot) (wantS lot) Se ∧ a < hs.length ∧ lot.length ≤ 1000 ∧ (∀ p, p ∈ lot → p.many ≤ 1000) ∧
  kvs.length + unm kvs lot.length ≤ 10000 ∧ unm kvs lot.length < d ∧
  ∀ H' Se' kvs' b, SeatAt Hs H' lse lm qs lot.length Se' kvs' → SitOut hs.length lot.length (fitS hs lot) (wantS lot) Se Se' (metK kvs) (metK kvs') a b →
    kvs'.length + unm kvs' lot.length ≤ kvs.length + unm kvs lot.length → unm kvs' lot.length ≤ unm kvs lot.length → Q (.bl b) H'
/-- the first place of a number in a list -/
theorem first_at : ∀ {l : List Nat} {o : Nat}, o ∈ l → ∃ j, l[j]? = some o ∧ (∀ m, m < j → l[m]? ≠ some o) ∧ (l.eraseIdx j).length + 1 = l.length ∧ (∀ h, (((l.eraseIdx j).count h : Nat) : Int) = ((l.count h : Nat) : Int) - ind (h = o)) ∧ ∀ h, h ∈ l.eraseIdx j → h ∈ l
  | [], _, h => by simp at h
  | x :: l, o, h => by
    by_cases e : x = o
    · subst e
      refine ⟨0, rfl, fun m hm => by omega, rfl, fun h => ?_, fun h hh => by simp at hh; simp [hh]⟩
      rw [List.eraseIdx_zero, List.tail_cons, List.count_cons]
      by_cases q : h = x
      · subst q; rw [ind_t rfl]; simp
      · rw [ind_f q]
        have : (x == h) = false := by simp; exact fun z => q z.symm
        rw [this]; simp
    · have hm : o ∈ l := by
        rcases List.mem_cons.mp h with q | q
        · exact absurd q.symm e
        · exact q
      obtain ⟨j, h1, h2, h3, h4, h5⟩ := first_at hm
      refine ⟨j + 1, by simpa using h1, fun m hm => ?_, ?_, fun h => ?_, fun h hh => ?_⟩
      · cases m with
        | zero => simp; exact e
        | succ m => simpa using h2 m (by omega)
      · simp; omega
      · have := h4 h
        rw [List.eraseIdx_cons_succ, List.count_cons, List.count_cons]
        by_cases q : (x == h) = true
        · rw [if_pos q]; omega
        · rw [if_neg q]; omega
      · rw [List.eraseIdx_cons_succ] at hh
        rcases List.mem_cons.mp hh with q | q
        · simp [q]
        · simp [h5 h q]
section
variable {P : Program} {w : World} {K : PySem.W.Frag} {mg : Str → Option Value} {base : Heap} {CM CH CV aL : Addr}
theorem sc_sit : FnScope ["hands", "lot", "seats", "at", "met", "k", "place", "other"] ["hands", "lot", "seats", "at", "met"] (defScope s_sit) := ⟨rfl, rfl, rfl, by decide +kernel, rfl, by decide +kernel, by decide +kernel⟩
theorem c_sit_all (T : Txt K mg CM CH CV aL) : ∀ d, Cal P w K mg base (d + 3) "sit" (spSit K d) := by
  have c_is_fit := c_is_fit (P := P) (w := w) (base := base) T
  intro d
  induction d with
  | zero =>
    refine cal_of T.d_sit (fun _ _ _ _ _ _ us hl => match us, hl with | [_, _, _, _, _], _ => rfl) sc_sit (fun vs H Q E h => ?_) (fun f cdv A outer s H vs Q E hr h => ?_)
    · obtain ⟨_, _, _, _, _, _, _, _, _, _, _, rfl, _⟩ := h; rfl
    · obtain ⟨_, _, _, _, _, lot, _, _, _, _, kvs, _, _, _, _, _, _, _, _, _, hu, _⟩ := h
      have := unm_nonneg (kvs := kvs) (n := lot.length)
      omega
  | succ d ih =>
    have c_sit := ih
    refine cal_of T.d_sit (fun _ _ _ _ _ _ us hl => match us, hl with | [_, _, _, _, _], _ => rfl) sc_sit (fun vs H Q E h => ?_) (fun f cdv A outer s H vs Q E hr h => ?_)
    · obtain ⟨_, _, _, _, _, _, _, _, _, _, _, rfl, _⟩ := h; rfl
    · obtain ⟨u, v, lse, lm, hs, lot, a, Hs, qs, Se, kvs, rfl, du, dv, S, ok, ha, szP, szM, szK, hu, k⟩ := h
      obtain ⟨ua, us, rfl, u1, u2⟩ := id du.tup_inv
      obtain ⟨va, ps, rfl, v1, v2⟩ := id dv.tup_inv
      have lps : ps.length = lot.length := by have := v2.length; rwa [List.length_map] at this
      have lus : us.length = hs.length := by have := u2.length; rwa [List.length_map] at this
      refine ⟨_, (pss_cons (ps_for PassesOwn.never rfl (pi_enumTK K (by rfl) T.b_enumerate (pa_cons (pv 1) pa_nil)) (pg_tupK K 2 rfl (pgs_cons (pg_name (i := 5) sc_sit.nd rfl (Or.inl rfl)) (pgs_cons (pg_name (i := 6) sc_sit.nd rfl (Or.inl rfl)) pgs_nil))) (pss_cons (ps_if (PW.pt (pw_or (pt_cmp (pc_din (hu_of hr) (pv 5) (pv 4)) rfl) (pw_or1 (pt_not (pt_val (pe_c c_is_fit hr (by omega) rfl (pa_cons (pe_ix (ix_tupK K) (pv 0) (pv 3) (fun _ _ => rfl)) (pa_cons (pv 6) pa_nil)))))))) (pss_one ps_continue) pss_nil)
    (pss_cons (ps_dput (hu_of hr) (pv 4) (pv 5) pe_bl rfl)
    (pss_cons (ps_if (pt_cmpR op_lt (pe_callB (call_len_seqK K) (by rfl) T.b_len PySem.boot_len (pa_cons (pe_ix (ix_listK K) (pv 2) (pv 5) (fun _ _ => rfl)) pa_nil)) (pe_ix (ix_tupK K) (pv 6) pe_int (fun _ _ => rfl)) (nomark _)) (pss_cons (ps_expr (pe_bmK K PySem.F.plainAttrs_list PySem.F.slot_list_append PySem.F.type_list_append mt_append (pe_ix (ix_listK K) (pv 2) (pv 5) (fun _ _ => rfl)) (pa_cons (pv 3) pa_nil)))
    (pss_one (ps_ret pe_bl))) pss_nil)
    (pss_one (ps_for PassesOwn.never rfl (pi_listK K (pe_callTy (call_list_ofK K) (by rfl) T.b_list (by decide +kernel) (pa_cons (pe_ix (ix_listK K) (pv 2) (pv 5) (fun _ _ => rfl)) pa_nil))) (pg_name (i := 7) sc_sit.nd rfl (Or.inl rfl)) (pss_one (ps_if (pt_val (pe_c c_sit hr (by omega) rfl (pa_cons (pv 0) (pa_cons (pv 1) (pa_cons (pv 2) (pa_cons (pv 7) (pa_cons (pv 4) pa_nil))))))) (pss_cons (ps_expr (pe_bmK K PySem.F.plainAttrs_list PySem.F.slot_list_remove PySem.F.type_list_remove mt_remove (pe_ix (ix_listK K) (pv 2) (pv 5) (fun _ _ => rfl)) (pa_cons (pv 7) pa_nil)))
    (pss_cons (ps_expr (pe_bmK K PySem.F.plainAttrs_list PySem.F.slot_list_append PySem.F.type_list_append mt_append (pe_ix (ix_listK K) (pv 2) (pv 5) (fun _ _ => rfl)) (pa_cons (pv 3) pa_nil)))
    (pss_one (ps_ret pe_bl)))) pss_nil))))))))
    (pss_one (ps_ret pe_bl))), ?_⟩
      refine ⟨_, rfl, va, ps, rfl, S.same.tup v1, ?_⟩
      refine for_it walk_itF (fun i σ H1 => ∃ (z5 z6 z7 : Option V) (Se' : Nat → List Nat) (kvs' : KD), σ = [some (.ref ua), some (.ref va), some (.ref lse), some (.int ((a : Nat) : Int)), some (.ref lm), z5, z6, z7] ∧ SeatAt Hs H1 lse lm qs lot.length Se' kvs' ∧
        SitI lot.length (fitS hs lot) (wantS lot) Se Se' (metK kvs) (metK kvs') a i ∧ kvs'.length + unm kvs' lot.length ≤ kvs.length + unm kvs lot.length ∧ unm kvs' lot.length ≤ unm kvs lot.length)
        ⟨_, _, _, Se, kvs, rfl, S, sitI_start, Int.le_refl _, Int.le_refl _⟩ (fun i σ H1 _ ⟨_, _, _, _, _, _, S1, _⟩ => S1.same.tup v1) ?_ ?_
      · rintro i x σ H1 H2 hi ⟨z5, z6, z7, Se', kvs', rfl, S1, I1, l1, l2⟩ ⟨t, rfl, ht, rfl⟩
        rw [lps] at hi
        have hpx : ps[i]? = some ps[i] := List.getElem?_eq_getElem (by omega)
        obtain ⟨p, hp, dp⟩ := item_inv (a := va) v2 hpx
        have hx : ps.getD i .non = ps[i] := by rw [List.getD_eq_getElem?_getD, hpx]; rfl
        rw [hx]
        generalize ps[i] = pv at *
        obtain ⟨a', ha'⟩ : ∃ h, hs[a]? = some h := ⟨_, List.getElem?_eq_getElem ha⟩
        obtain ⟨hv, hhv, dh⟩ := item_get u2 ha'
        have St : Same H1 (upd H1 t (.tup [.int ((i : Nat) : Int), pv])) := Same.new ht
        have et : upd H1 t (.tup [.int ((i : Nat) : Int), pv]) t = some (.tup [.int ((i : Nat) : Int), pv]) := upd_same
        generalize upd H1 t (.tup [.int ((i : Nat) : Int), pv]) = H2 at St et ⊢
        have S2 := S1.mono St
        have dp2 := dp.mono S2.same.tups
        obtain ⟨pa, rfl, p1⟩ := place_inv dp2
        refine ⟨t, _, rfl, sqt_of et, rfl, _, _, rfl, _, _, rfl, rfl, ?_⟩
        refine ⟨_, rfl, _, rfl, lm, _, rfl, DGet.k (k := .inl ((i : Nat) : Int)) S2.m.2, _, rfl, ?_⟩
        have skip : (fitS hs lot a i = true → metK kvs' i) → ∃ (z5' z6' z7' : Option V) (Se'' : Nat → List Nat) (kvs'' : KD), ([some (.ref ua), some (.ref va), some (.ref lse), some (.int ((a : Nat) : Int)), some (.ref lm), some (.int ((i : Nat) : Int)), some (.ref pa), z7] : L2.St) = [some (.ref ua), some (.ref va), some (.ref lse), some (.int ((a : Nat) : Int)), some (.ref lm), z5', z6', z7'] ∧ SeatAt Hs H2 lse lm qs lot.length Se'' kvs'' ∧
            SitI lot.length (fitS hs lot) (wantS lot) Se Se'' (metK kvs) (metK kvs'') a (i + 1) ∧ kvs''.length + unm kvs'' lot.length ≤ kvs.length + unm kvs lot.length ∧ unm kvs'' lot.length ≤ unm kvs lot.length :=
          fun h => ⟨_, _, _, Se', kvs', rfl, S2, I1.skip h, l1, l2⟩
        cases hm : (valV kvs' (.inl ((i : Nat) : Int))).isSome with
        | true =>
          refine iteT (iteT ?_)
          exact skip fun _ => hm
        | false =>
          have hm' : ¬ metK kvs' i := by unfold metK; rw [hm]; decide
          refine iteF ?_
          refine ⟨_, rfl, _, rfl, ua, us, _, hv, rfl, rfl, S2.same.tup u1, at_of rfl hhv, _, rfl, _, _, a', p, rfl, dh.mono S2.same.tups, dp2, ?_⟩
          rw [← fitS_at ha' hp]
          refine ⟨_, rfl, ?_⟩
          cases hf : fitS hs lot a i with
          | false =>
            refine iteT ?_
            exact skip fun e => by rw [hf] at e; cases e
          | true =>
            refine iteF ?_
            have hk0 := unm_nonneg (kvs := kvs') (n := lot.length)
            refine ⟨_, rfl, _, rfl, lm, _, rfl, DPut.k (k := .inl ((i : Nat) : Int)) S2.m.2 (sz100' (by omega)), ?_⟩
            have S3 : SeatAt Hs (upd H2 lm (.dK (putK kvs' (.inl ((i : Nat) : Int)) (.bl true)))) lse lm qs lot.length Se' (putK kvs' (.inl ((i : Nat) : Int)) (.bl true)) := S2.put
            have T23 : Tups H2 (upd H2 lm (.dK (putK kvs' (.inl ((i : Nat) : Int)) (.bl true)))) := Tups.upd (not_tup_dK S2.m.2)
            generalize upd H2 lm (.dK (putK kvs' (.inl ((i : Nat) : Int)) (.bl true))) = H3 at S3 T23 ⊢
            have hmp : ∀ j, metK (putK kvs' (.inl ((i : Nat) : Int)) (.bl true)) j ↔ metK kvs' j ∨ j = i := fun j => met_put j
            have hup := unm_put (v := .bl true) hi hm'
            have hpl := put_len (v := .bl true) hm'
            generalize putK kvs' (.inl ((i : Nat) : Int)) (.bl true) = kv3 at *
            have p3 : SqT K H3 pa _ := T23.sq p1
            obtain ⟨q, hq⟩ := S3.at_ hi
            have hqa : atI (qs.map V.ref) ((i : Nat) : Int) = some (.ref q) := at_of rfl (by rw [List.getElem?_map, hq]; rfl)
            have hql := (S3.q i q hq).2
            have hse : Se' i = Se i := I1.same i hi
            rw [hse] at hql
            have hle := ok.le i hi
            rw [wantS_at hp] at hle
            have hmm := szM p (List.mem_of_getElem? hp)
            have hls : SqL K H3 lse (qs.map V.ref) := sql_of (S3.same _ _ S3.ls)
            refine ⟨_, rfl, _, rfl, lse, _, _, .ref q, rfl, rfl, hls, hqa, q, _, rfl, .inl (sql_of hql), ?_⟩
            refine ⟨_, rfl, pa, _, _, .int p.many, rfl, rfl, p3, rfl, _, _, rfl, rfl, _, rfl, ?_⟩
            rw [eS_len]
            refine ite2 (fun c => ?_) (fun c => ?_)
            · have c : ((Se i).length : Int) < p.many := of_decide_eq_true c
              refine ⟨_, rfl, _, rfl, lse, _, _, .ref q, rfl, rfl, hls, hqa, .inl ⟨rfl, _, sql_of hql⟩, _, rfl, q, _, _, rfl, rfl, hql, sz100' (by rw [eS_len]; omega), ?_⟩
              have S4 := S3.set hq (Se i ++ [a])
              have e4 : eS (Se i ++ [a]) = eS (Se i) ++ [V.int ((a : Nat) : Int)] := by unfold eS; rw [List.map_append]; rfl
              rw [e4] at S4
              refine k _ _ kv3 true S4 (sit_put ok I1.same (fun j hj => (hmp j).mpr (.inl (I1.sub j hj))) (fun z => hm' (I1.sub i z)) hi ha hf (by rw [wantS_at hp]; exact c)) ?_ ?_
              · rw [hpl, hup]; omega
              · rw [hup]; omega
            · have c : ¬ ((Se i).length : Int) < p.many := fun z => c (decide_eq_true z)
              refine ⟨_, rfl, _, rfl, lse, _, _, .ref q, rfl, rfl, hls, hqa, q, _, rfl, .inl (sql_of hql), fun tl htl => newG htl fun H4 N4 e4 => ?_⟩
              refine ⟨tl, rfl, ⟨_, sql_of e4⟩, ?_⟩
              have S4 := S3.mono N4
              have nl : lse ≠ tl := ne_of_none (S3.same _ _ S3.ls) htl
              have nm : tl ≠ lm := (ne_of_none S3.m.2 htl).symm
              have nq : tl ∉ qs := fun z => by
                obtain ⟨j, hj⟩ := List.mem_iff_getElem?.mp z
                have := (S3.q j tl hj).2
                rw [htl] at this
                cases this
              have h0 : Hs tl = none := S3.same.free htl
              have S4' := S4.grow h0 e4 nm nq
              have sHs : Same Hs (upd Hs tl (.lst (eS (Se i)))) := Same.new h0
              refine for_list (fun o σ H5 => ∃ (z7 : Option V) (Sn : Nat → List Nat) (kvn : KD), σ = [some (.ref ua), some (.ref va), some (.ref lse), some (.int ((a : Nat) : Int)), some (.ref lm), some (.int ((i : Nat) : Int)), some (.ref pa), z7] ∧ SeatAt (upd Hs tl (.lst (eS (Se i)))) H5 lse lm qs lot.length Sn kvn ∧
                SitJ lot.length (fitS hs lot) (wantS lot) Se Sn (metK kvs) (metK kvn) a i o ∧ kvn.length + unm kvn lot.length ≤ kv3.length + unm kv3 lot.length ∧ unm kvn lot.length ≤ unm kv3 lot.length)
                ⟨_, Se', kv3, rfl, S4', sitJ_start I1 hmp, Int.le_refl _, Int.le_refl _⟩ (fun o σ H5 _ ⟨_, _, _, _, S5, _⟩ => sql_of (S5.same _ _ upd_same)) ?_ ?_
              · rintro o x σ H5 hox ⟨z7, Sn, kvn, rfl, S5, J5, m1, m2⟩
                obtain ⟨ot, hot, rfl⟩ := eS_get hox
                have hmem : ot ∈ Se i := List.mem_of_getElem? hot
                have okn : SeOk hs.length lot.length (fitS hs lot) (wantS lot) Sn := ⟨fun j hj h hh => ok.fits j hj h (by rw [← J5.same j hj]; exact hh), fun j hj => by rw [J5.same j hj]; exact ok.le j hj⟩
                refine ⟨_, rfl, _, rfl, _, rfl, _, rfl, _, rfl, _, _, lse, lm, hs, lot, ot, _, qs, Sn, kvn, rfl, du.mono sHs.tups, dv.mono sHs.tups, S5, okn, (ok.fits i hi ot hmem).1, szP, szM, by omega, by omega, fun H6 Sx kvx b S6 O6 x1 x2 => ?_⟩
                refine ⟨b, rfl, ?_⟩
                cases b with
                | false =>
                  refine iteF ?_
                  exact ⟨_, Sx, kvx, rfl, S6, J5.next hot O6, by omega, by omega⟩
                | true =>
                  refine iteT ?_
                  have h6 : Sx i = Se i := by rw [O6.kept i hi J5.here, J5.same i hi]
                  have hq6 := (S6.q i q hq).2
                  rw [h6] at hq6
                  have hl6 : SqL K H6 lse (qs.map V.ref) := sql_of (S6.same _ _ S6.ls)
                  obtain ⟨jx, f1, f2, f3, f4, f5⟩ := first_at hmem
                  have eI : eS (Se i) = ((Se i).map fun h => ((h : Nat) : Int)).map V.int := by unfold eS; rw [List.map_map]; rfl
                  refine ⟨_, rfl, _, rfl, lse, _, _, .ref q, rfl, rfl, hl6, hqa, .inl ⟨rfl, _, sql_of hq6⟩, _, rfl, q, (Se i).map fun h => ((h : Nat) : Int), _, jx, rfl, rfl, by rw [← eI]; exact hq6, by rw [List.getElem?_map, f1]; rfl, fun m hm e => ?_, ?_⟩
                  · rw [List.getElem?_map] at e
                    cases g : (Se i)[m]? with
                    | none => rw [g] at e; cases e
                    | some y =>
                      rw [g] at e
                      have e : ((y : Nat) : Int) = (ot : Nat) := Option.some.inj e
                      have : y = ot := by omega
                      exact f2 m hm (by rw [g, this])
                  have eJ : (((Se i).map fun h => ((h : Nat) : Int)).eraseIdx jx).map V.int = eS ((Se i).eraseIdx jx) := by
                    unfold eS
                    rw [map_erase, List.map_map]
                    rfl
                  rw [eJ]
                  have S7 := S6.set hq ((Se i).eraseIdx jx)
                  generalize upd H6 q (.lst (eS ((Se i).eraseIdx jx))) = H7 at S7 ⊢
                  have hq7 := (S7.q i q hq).2
                  rw [up_same] at hq7
                  have hl7 : SqL K H7 lse (qs.map V.ref) := sql_of (S7.same _ _ S7.ls)
                  refine ⟨_, rfl, _, rfl, lse, _, _, .ref q, rfl, rfl, hl7, hqa, .inl ⟨rfl, _, sql_of hq7⟩, _, rfl, q, _, _, rfl, rfl, hq7, sz100' (by rw [eS_len]; omega), ?_⟩
                  have S8 := S7.set hq ((Se i).eraseIdx jx ++ [a])
                  have e8 : eS ((Se i).eraseIdx jx ++ [a]) = eS ((Se i).eraseIdx jx) ++ [V.int ((a : Nat) : Int)] := by unfold eS; rw [List.map_append]; rfl
                  rw [e8] at S8
                  have e9 : up (up Sx i ((Se i).eraseIdx jx)) i ((Se i).eraseIdx jx ++ [a]) = up Sx i ((Se i).eraseIdx jx ++ [a]) := by
                    funext j
                    by_cases z : j = i
                    · subst z; rw [up_same, up_same]
                    · rw [up_ne z, up_ne z, up_ne z]
                  rw [e9] at S8
                  refine k _ _ kvx true (S8.less h0 nl nm nq) (sit_on ok J5.same O6 J5.sub J5.here (fun z => hm' (I1.sub i z)) hi ha hf hmem f3 f4 f5) ?_ ?_
                  · rw [hpl, hup] at m1; omega
                  · omega
              · rintro σ H5 ⟨z7, Sn, kvn, rfl, S5, J5, m1, m2⟩
                rw [eS_len] at J5
                refine ⟨_, _, _, Sn, kvn, rfl, S5.less h0 nl nm nq, J5.out (by rw [wantS_at hp]; omega), ?_, ?_⟩
                · rw [hpl, hup] at m1; omega
                · omega
      · rintro σ H1 ⟨z5, z6, z7, Se', kvs', rfl, S1, I1, l1, l2⟩
        rw [lps] at I1
        exact k _ Se' kvs' false S1 (I1.out ok) l1 l2
theorem c_sit (T : Txt K mg CM CH CV aL) : Cal P w K mg base 28 "sit" (spSit K 25) := c_sit_all T 25
end
end WS
/-! As many hands as can be; the cut; how many lack. -/
namespace WS
open PySem PySem.Spec PyProof.Rows L2 WM
open C8 (pe_gc pe_c pe_mk pe_mt pe_mt0)
structure SB (Hs H : Hp) (lse : Addr) (qs : List Addr) (n : Nat) (Se : Nat → List Nat) : Prop where
  same : Same Hs H
  ls : Hs lse = some (.lst (qs.map V.ref))
  len : qs.length = n
  nd : qs.Nodup
  q : ∀ k q, qs[k]? = some q → Hs q = none ∧ H q = some (.lst (eS (Se k)))
structure SeatsH (H : Hp) (lse : Addr) (qs : List Addr) (n : Nat) (Se : Nat → List Nat) : Prop where
  ls : H lse = some (.lst (qs.map V.ref))
  len : qs.length = n
  q : ∀ k q, qs[k]? = some q → H q = some (.lst (eS (Se k)))
section
variable {Hs H H' : Hp} {lse lm : Addr} {qs : List Addr} {n : Nat} {Se Se' : Nat → List Nat} {kvs kvs' : KD}
theorem SeatAt.sb (S : SeatAt Hs H lse lm qs n Se kvs) : SB Hs H lse qs n Se := ⟨S.same, S.ls, S.len, S.nd, S.q⟩
theorem SB.sa (S : SB Hs H lse qs n Se) (hm : H lm = none) : SeatAt Hs (upd H lm (.dK kvs)) lse lm qs n Se kvs :=
  ⟨S.same.trans (Same.new hm), S.ls, S.len, S.nd, fun k q hq => ⟨(S.q k q hq).1, (Same.new hm) _ _ (S.q k q hq).2⟩, ⟨S.same.free hm, upd_same⟩, fun z => by
    obtain ⟨j, hj⟩ := List.mem_iff_getElem?.mp z
    have := (S.q j lm hj).2
    rw [hm] at this
    cases this⟩
theorem SB.sh (S : SB Hs H lse qs n Se) : SeatsH H lse qs n Se := ⟨S.same _ _ S.ls, S.len, fun k q hq => (S.q k q hq).2⟩
theorem SeatsH.mono (S : SeatsH H lse qs n Se) (s : Same H H') : SeatsH H' lse qs n Se := ⟨s _ _ S.ls, S.len, fun k q hq => s _ _ (S.q k q hq)⟩
theorem SeatsH.at_ (S : SeatsH H lse qs n Se) {k : Nat} (hk : k < n) : ∃ q, qs[k]? = some q ∧ atI (qs.map V.ref) ((k : Nat) : Int) = some (.ref q) ∧ H q = some (.lst (eS (Se k))) := by
  have hl : k < qs.length := by rw [S.len]; exact hk
  have e : qs[k]? = some qs[k] := List.getElem?_eq_getElem hl
  exact ⟨_, e, at_of rfl (by rw [List.getElem?_map, e]; rfl), S.q k _ e⟩
end
structure LotOk (hs : List Hand) (lot : List Place) : Prop where
  szH : hs.length ≤ 1000
  szP : lot.length < 25
  many : ∀ p, p ∈ lot → 0 ≤ p.many ∧ p.many ≤ 1000
theorem LotOk.want {hs : List Hand} {lot : List Place} (O : LotOk hs lot) {k : Nat} (hk : k < lot.length) : 0 ≤ wantS lot k ∧ wantS lot k ≤ 1000 := by
  rw [wantS_at (List.getElem?_eq_getElem hk)]
  exact O.many _ (List.getElem_mem hk)
theorem unm_nil (n : Nat) : unm [] n = n := by
  unfold unm
  have : ∀ k, ind (¬ metK [] k) = 1 := fun k => ind_t (fun z => Bool.false_ne_true z)
  induction n with
  | zero => rfl
  | succ n ih => simp only [sumR]; rw [ih, this]; omega
theorem met_nil : metK [] = fun _ => False := by
  funext k
  exact propext ⟨fun z => Bool.false_ne_true z, fun z => z.elim⟩
theorem in_eS {k : Nat} : ∀ {F : List Nat}, inV (.int ((k : Nat) : Int)) (eS F) = decide (k ∈ F)
  | [] => rfl
  | f :: F => by
    have ih := in_eS (k := k) (F := F)
    show (eqV (.int ((f : Nat) : Int)) (.int ((k : Nat) : Int)) || inV (.int ((k : Nat) : Int)) (eS F)) = _
    rw [ih]
    show ((((f : Nat) : Int) == ((k : Nat) : Int)) || _) = _
    by_cases e : k = f
    · subst e; simp
    · have : (((f : Nat) : Int) == ((k : Nat) : Int)) = false := by simp; omega
      rw [this]
      simp [e]
theorem flat_eS : ∀ (F : List Nat), (eS F).all flatV = true
  | [] => rfl
  | f :: F => by
    show (flatV (.int ((f : Nat) : Int)) && (eS F).all flatV) = true
    rw [flat_eS F]; rfl
theorem eS_ints (F : List Nat) : eS F = (F.map fun h => ((h : Nat) : Int)).map V.int := by unfold eS; rw [List.map_map]; rfl
theorem eS_snoc (F : List Nat) (k : Nat) : eS (F ++ [k]) = eS F ++ [V.int ((k : Nat) : Int)] := by unfold eS; rw [List.map_append]; rfl
def spFull (K : PySem.W.Frag) : Sp := fun vs H Q _ => ∃ (u v : V) (hs : List Hand) (lot : List Place), vs = [u, v] ∧ Dt K H u (.tuple (hs.map encH)) ∧ Dt K H v (.tuple (lot.map encP)) ∧ LotOk hs lot ∧
  ∀ H' lse qs Se, Same H H' → SeatsH H' lse qs lot.length Se → Full hs.length lot.length (fitS hs lot) (wantS lot) hs.length Se → Q (.ref lse) H'
def spCome (K : PySem.W.Frag) : Sp := fun vs H Q _ => ∃ (u v : V) (lse : Addr) (qs : List Addr) (Se : Nat → List Nat) (hs : List Hand) (lot : List Place), vs = [u, v, .ref lse] ∧ Dt K H u (.tuple (hs.map encH)) ∧ Dt K H v (.tuple (lot.map encP)) ∧ LotOk hs lot ∧ SeatsH H lse qs lot.length Se ∧ SeOk hs.length lot.length (fitS hs lot) (wantS lot) Se ∧
  ∀ H' p F, Same H H' → H' p = some (.lst (eS F)) → Come lot.length (fitS hs lot) (wantS lot) Se F → F.Pairwise (· ≤ ·) → Q (.ref p) H'
structure CutR (hs : List Hand) (lot : List Place) (many : Int) (F : List Nat) : Prop where
  ex : ∃ Se, Full hs.length lot.length (fitS hs lot) (wantS lot) hs.length Se ∧ Come lot.length (fitS hs lot) (wantS lot) Se F ∧ many = sumR lot.length fun k => wantS lot k - ((Se k).length : Nat)
  srt : F.Pairwise (· ≤ ·)
def cutN (lot : List Place) (F : List Nat) : List Str := F.map fun k => ((lot[k]?).map Place.nm).getD ""
def spLacking (K : PySem.W.Frag) : Sp := fun vs H Q _ => ∃ (u v : V) (hs : List Hand) (lot : List Place), vs = [u, v] ∧ Dt K H u (.tuple (hs.map encH)) ∧ Dt K H v (.tuple (lot.map encP)) ∧ LotOk hs lot ∧
  ∀ H' q r many F, Same H H' → SqT K H' q [.int many, .ref r] → SqT K H' r ((cutN lot F).map V.str) → CutR hs lot many F → Q (.ref q) H'
section
variable {P : Program} {w : World} {K : PySem.W.Frag} {mg : Str → Option Value} {base : Heap} {CM CH CV aL : Addr}
theorem sc_fullest : FnScope ["hands", "lot", "seats", "place", "at"] ["hands", "lot"] (defScope s_fullest) := ⟨rfl, rfl, rfl, by decide +kernel, rfl, by decide +kernel, by decide +kernel⟩
theorem c_fullest (T : Txt K mg CM CH CV aL) : Cal P w K mg base 29 "fullest" (spFull K) := by
  have c_sit := c_sit (P := P) (w := w) (base := base) T
  refine cal_of T.d_fullest (fun _ _ _ _ _ _ us hl => match us, hl with | [_, _], _ => rfl) sc_fullest (fun vs H Q E h => ?_) (fun f cdv A outer s H vs Q E hr h => ?_)
  · obtain ⟨_, _, _, _, rfl, _⟩ := h; rfl
  · obtain ⟨u, v, hs, lot, rfl, du, dv, O, k⟩ := h
    obtain ⟨ua, us, rfl, u1, u2⟩ := id du.tup_inv
    obtain ⟨va, ps, rfl, v1, v2⟩ := id dv.tup_inv
    have lps : ps.length = lot.length := by have := v2.length; rwa [List.length_map] at this
    have lus : us.length = hs.length := by have := u2.length; rwa [List.length_map] at this
    have szH := O.szH
    have szP := O.szP
    refine ⟨_, (pss_cons (ps_setLc (i := 2) (own := [("place", 3)]) rfl sc_fullest.nd rfl rfl (sw_true rfl rfl rfl (by decide +kernel)) (pi_tupK K (pv 1)) (blkOk_by (own := [("place", 3)]) (N := ["hands", "lot", "seats", "place", "at"]) (sc := defScope s_fullest) (by decide +kernel)) (fun _ _ _ _ _ => (pg_name (i := 3) sc_fullest.nd rfl (Or.inl rfl))) (fun _ _ _ _ _ => pts_nil) (fun _ _ _ _ _ => (pe_lst pa_nil)))
    (pss_cons (ps_for PassesOwn.never rfl (pi_range1 (by rfl) T.b_range (pa_cons (pe_callB (call_len_seqK K) (by rfl) T.b_len PySem.boot_len (pa_cons (pv 0) pa_nil)) pa_nil)) (pg_name (i := 4) sc_fullest.nd rfl (Or.inl rfl)) (pss_one (ps_expr (pe_c c_sit hr (by decide) rfl (pa_cons (pv 0) (pa_cons (pv 1) (pa_cons (pv 2) (pa_cons (pv 4) (pa_cons pe_dnewK pa_nil)))))))))
    (pss_one (ps_ret (pv 2))))), ?_⟩
    refine ⟨_, rfl, va, rfl, ⟨_, v1⟩, fun D hD => ?_⟩
    refine lc_run (walk_tup (K := K) (a := va) (xs := ps)) (H0 := H) (fun j ac H4 => ∃ qs : List Addr, ac = qs.map V.ref ∧ qs.length = j ∧ qs.Nodup ∧ ∀ q, q ∈ qs → H q = none ∧ q ≠ D ∧ H4 q = some (.lst [])) (Same.refl _) hD (fun _ _ => ⟨[], rfl, rfl, List.nodup_nil, fun q hq => by simp at hq⟩) (fun H4 S4 => S4.tup v1) ?_ ?_
    · rintro j x ac H4 H5 hj hD0 S4 e4 ⟨qs, rfl, hl, nd, hq⟩ ⟨rfl, hx⟩
      refine ⟨rfl, g_yes (iteT ?_)⟩
      refine ⟨by show 0 ≤ sizeLine; decide, fun p hp => newG hp fun H6 S6 e6 => ?_⟩
      refine lc_next hD0 S4 S6 e4 (by rw [List.length_map]; omega) fun H7 S7 e7 k7 => ?_
      have hpD : p ≠ D := (ne_of_none e4 hp).symm
      refine ⟨qs ++ [p], by rw [List.map_append]; rfl, by rw [List.length_append, hl]; rfl, ?_, fun q hm => ?_⟩
      · refine List.nodup_append.mpr ⟨nd, by simp, fun a ha b hb => ?_⟩
        have hb : b = p := by simpa using hb
        subst hb
        rintro rfl
        have := (hq a ha).2.2
        rw [hp] at this
        cases this
      · rcases List.mem_append.mp hm with z | z
        · obtain ⟨z1, z2, z3⟩ := hq q z
          exact ⟨z1, z2, by rw [k7 q z2]; exact S6 _ _ z3⟩
        · have : q = p := by simpa using z
          subst this
          exact ⟨S4.free hp, hpD, by rw [k7 q hpD]; exact e6⟩
    · rintro ac H4 S4 e4 ⟨qs, rfl, hl, nd, hq⟩
      have S0 : SB (upd H D (.lst (qs.map V.ref))) H4 D qs lot.length fun _ => [] := ⟨fun b o e => by
        by_cases z : b = D
        · subst z; rw [upd_same] at e; cases e; exact e4
        · rw [upd_ne z] at e; exact S4 b o e, upd_same, by rw [hl, lps], nd, fun k q hk => by
        obtain ⟨z1, z2, z3⟩ := hq q (List.mem_of_getElem? hk)
        exact ⟨by rw [upd_ne z2]; exact z1, z3⟩⟩
      have sHs : Same H (upd H D (.lst (qs.map V.ref))) := Same.new hD
      generalize upd H D (.lst (qs.map V.ref)) = Hs at S0 sHs
      refine ⟨_, rfl, ua, _, rfl, .inr (S4.tup u1), _, rfl, by omega, by rw [lus]; omega, ?_⟩
      refine for_it walk_range0 (fun i σ H5 => ∃ (z3 z4 : Option V) (Se : Nat → List Nat), σ = [some (.ref ua), some (.ref va), some (.ref D), z3, z4] ∧ SB Hs H5 D qs lot.length Se ∧ Full hs.length lot.length (fitS hs lot) (wantS lot) i Se)
        ⟨_, _, _, rfl, S0, full_start fun k hk => (O.want hk).1⟩ (fun _ _ _ _ _ => trivial) ?_ ?_
      · rintro i x σ H5 H6 hi ⟨z3, z4, Se, rfl, S5, F5⟩ ⟨rfl, rfl⟩
        refine ⟨_, rfl, _, rfl, _, rfl, _, rfl, fun lm hlm => ?_⟩
        have hu := unm_nil lot.length
        refine ⟨_, _, D, lm, hs, lot, i, Hs, qs, Se, [], rfl, du.mono sHs.tups, dv.mono sHs.tups, S5.sa hlm, F5.ok, by omega, by omega, fun p hp => (O.many p hp).2, ?_, ?_, fun H7 Se' kvs' b S7 O7 _ _ => ?_⟩
        · rw [hu]; simp; omega
        · rw [hu]; omega
        · rw [met_nil] at O7
          exact ⟨_, _, Se', rfl, S7.sb, full_step F5 O7⟩
      · rintro σ H5 ⟨z3, z4, Se, rfl, S5, F5⟩
        refine ⟨_, rfl, k _ D qs Se (sHs.trans S5.same) S5.sh ?_⟩
        have e : ((us.length : Int) - 0).toNat = hs.length := by omega
        exact e ▸ F5
theorem sc_come_to : FnScope ["hands", "lot", "seats", "found", "k", "at", "one"] ["hands", "lot", "seats"] (defScope s_come_to) := ⟨rfl, rfl, rfl, by decide +kernel, rfl, by decide +kernel, by decide +kernel⟩
theorem c_come_to (T : Txt K mg CM CH CV aL) : Cal P w K mg base 3 "come_to" (spCome K) := by
  have c_is_fit := c_is_fit (P := P) (w := w) (base := base) T
  refine cal_of T.d_come_to (fun _ _ _ _ _ _ us hl => match us, hl with | [_, _, _], _ => rfl) sc_come_to (fun vs H Q E h => ?_) (fun f cdv A outer s H vs Q E hr h => ?_)
  · obtain ⟨_, _, _, _, _, _, _, rfl, _⟩ := h; rfl
  · obtain ⟨u, v, lse, qs, Se, hs, lot, rfl, du, dv, O, S, ok, k⟩ := h
    obtain ⟨ua, us, rfl, u1, u2⟩ := id du.tup_inv
    obtain ⟨va, ps, rfl, v1, v2⟩ := id dv.tup_inv
    have lps : ps.length = lot.length := by have := v2.length; rwa [List.length_map] at this
    have lus : us.length = hs.length := by have := u2.length; rwa [List.length_map] at this
    have szH := O.szH
    have szP := O.szP
    have pl : ∀ {k : Nat} {H1 : Hp}, k < lot.length → Same H H1 → ∃ p pa, lot[k]? = some p ∧ atI ps ((k : Nat) : Int) = some (.ref pa) ∧ SqT K H1 pa [.str p.nm, .str p.sk, .int p.rank, .int p.steps, .int p.many, .int p.grade] ∧ Dt K H1 (.ref pa) (encP p) := fun {k H1} hk s1 => by
      obtain ⟨x, hx, dx⟩ := item_get v2 (List.getElem?_eq_getElem hk)
      have dx := dx.mono s1.tups
      obtain ⟨pa, rfl, p1⟩ := place_inv dx
      exact ⟨_, pa, List.getElem?_eq_getElem hk, at_of rfl hx, p1, dx⟩
    have hn : ∀ (n : Nat), ((n : Int) - 0).toNat = n := fun n => by omega
    refine ⟨_, (pss_cons (ps_set (i := 3) sc_come_to.nd rfl (Or.inr rfl) (pe_lc (own := [("k", 4)]) rfl sc_come_to.nd (pi_range1 (by rfl) T.b_range (pa_cons (pe_callB (call_len_seqK K) (by rfl) T.b_len PySem.boot_len (pa_cons (pv 1) pa_nil)) pa_nil)) (blkOk_by (own := [("k", 4)]) (N := ["hands", "lot", "seats", "found", "k", "at", "one"]) (sc := defScope s_come_to) (by decide +kernel)) (fun _ _ _ _ _ => (pg_name (i := 4) sc_come_to.nd rfl (Or.inl rfl))) (fun _ _ _ _ _ => (pts_one (pt_cmpR op_lt (pe_callB (call_len_seqK K) (by rfl) T.b_len PySem.boot_len (pa_cons (pe_ix (ix_listK K) (pv 2) (pv 4) (fun _ _ => rfl)) pa_nil)) (pe_ix (ix_tupK K) (pe_ix (ix_tupK K) (pv 1) (pv 4) (fun _ _ => rfl)) pe_int (fun _ _ => rfl)) (nomark _)))) (fun _ _ _ _ _ => (pv 4))))
    (pss_cons (ps_set (i := 5) sc_come_to.nd rfl (Or.inr rfl) pe_int)
    (pss_cons (ps_while PassesOwn.never (pt_cmpR op_lt (pv 5) (pe_callB (call_len_seqK K) (by rfl) T.b_len PySem.boot_len (pa_cons (pv 3) pa_nil)) (nomark _)) (pss_cons (ps_for PassesOwn.never rfl (pi_range1 (by rfl) T.b_range (pa_cons (pe_callB (call_len_seqK K) (by rfl) T.b_len PySem.boot_len (pa_cons (pv 1) pa_nil)) pa_nil)) (pg_name (i := 4) sc_come_to.nd rfl (Or.inl rfl)) (pss_one (ps_if (PW.pt (pw_and (pt_cmpR (op_notIn_seqK K) (pv 4) (pv 3) rfl) (pw_and1 (pt_val (pe_callB (cr_anyK K rfl) (by rfl) T.b_any (by decide +kernel) (pa_cons (pe_lc (own := [("one", 6)]) rfl sc_come_to.nd (pi_listK K (pe_ix (ix_listK K) (pv 2) (pv 4) (fun _ _ => rfl))) (blkOk_by (own := [("one", 6)]) (N := ["hands", "lot", "seats", "found", "k", "at", "one"]) (sc := defScope s_come_to) (by decide +kernel)) (fun _ _ _ _ _ => (pg_name (i := 6) sc_come_to.nd rfl (Or.inl rfl))) (fun _ _ _ _ _ => pts_nil) (fun _ _ _ _ _ => (pe_c c_is_fit hr (by decide) rfl (pa_cons (pe_ix (ix_tupK K) (pv 0) (pv 6) (fun _ _ => rfl)) (pa_cons (pe_ix (ix_tupK K) (pv 1) (pe_ix (ix_listK K) (pv 3) (pv 5) (fun _ _ => rfl)) (fun _ _ => rfl)) pa_nil))))) pa_nil)))))) (pss_one (ps_expr (pe_bmK K PySem.F.plainAttrs_list PySem.F.slot_list_append PySem.F.type_list_append mt_append (pv 3) (pa_cons (pv 4) pa_nil)))) pss_nil)))
    (pss_one (ps_aug (i := 5) sc_come_to.nd rfl (Or.inr rfl) pe_int ip_add))))
    (pss_one (ps_ret (pe_callB (cr_sortedIK K) (by rfl) T.b_sorted (by decide +kernel) (pa_cons (pv 3) pa_nil))))))), ?_⟩
    refine ⟨_, rfl, va, _, rfl, .inr v1, _, rfl, by omega, by rw [lps]; omega, fun D hD => ?_⟩
    refine lc_run walk_range0 (H0 := H) (fun j ac H4 => ac = eS ((List.range j).filter fun k => decide (((Se k).length : Int) < wantS lot k))) (Same.refl _) hD (fun _ _ => rfl) (fun H4 S4 => trivial) ?_ ?_
    · rintro j x ac H4 H5 hj hD0 S4 e4 rfl ⟨rfl, rfl⟩
      have hj : j < lot.length := by omega
      obtain ⟨q, hq1, hq2, hq3⟩ := (S.mono S4).at_ hj
      obtain ⟨p, pa, hp, hp1, hp2, _⟩ := pl hj S4
      refine ⟨rfl, ?_⟩
      refine ⟨_, rfl, _, rfl, lse, _, _, .ref q, rfl, rfl, sql_of (S4 _ _ S.ls), hq2, q, _, rfl, .inl (sql_of hq3), ?_⟩
      refine ⟨_, rfl, _, rfl, va, _, _, .ref pa, rfl, rfl, S4.tup v1, hp1, pa, _, _, .int p.many, rfl, rfl, hp2, rfl, _, _, rfl, rfl, _, rfl, ?_⟩
      rw [eS_len]
      have hw := wantS_at hp
      refine ite2 (fun c => ?_) (fun c => ?_)
      · have c : ((Se j).length : Int) < p.many := of_decide_eq_true c
        refine ⟨_, rfl, ?_⟩
        refine lc_next hD0 S4 (Same.refl _) e4 (by rw [eS_len]; have := List.length_filter_le (fun k => decide (((Se k).length : Int) < wantS lot k)) (List.range j); rw [List.length_range] at this; omega) fun H6 _ _ _ => ?_
        rw [← eS_snoc]
        congr 1
        rw [List.range_succ, List.filter_append, List.filter_cons]
        rw [hw]
        simp [c]
      · have c : ¬ ((Se j).length : Int) < p.many := fun z => c (decide_eq_true z)
        refine lc_skip S4 (Same.refl _) e4 ?_
        congr 1
        rw [List.range_succ, List.filter_append, List.filter_cons]
        rw [hw]
        simp [c]
    · rintro ac H4 S4 e4 rfl
      rw [lps] at e4
      simp only [Int.sub_zero, Int.toNat_natCast] at e4
      refine wh_go (m := lot.length) (fun m σ H5 => ∃ (F : List Nat) (c : Nat) (z4 z6 : Option V), m = lot.length - c ∧ σ = [some (.ref ua), some (.ref va), some (.ref lse), some (.ref D), z4, some (.int ((c : Nat) : Int)), z6] ∧ Same H H5 ∧ H5 D = some (.lst (eS F)) ∧ c ≤ F.length ∧ ComeI lot.length (fitS hs lot) (wantS lot) Se F c)
        ⟨_, 0, _, _, rfl, rfl, S4, e4, Nat.zero_le _, comeI_start⟩ ?_
      rintro m σ H5 ⟨F, c, z4, z6, rfl, rfl, S5, e5, hc, I5⟩
      have hF := nodup_lt I5.nd I5.lt
      refine ⟨_, rfl, _, rfl, D, _, rfl, .inl (sql_of e5), _, _, rfl, rfl, _, rfl, ?_⟩
      rw [eS_len]
      refine ite2 (fun q1 => ?_) (fun q1 => ?_)
      · have q1 : ((c : Nat) : Int) < ((F.length : Nat) : Int) := of_decide_eq_true q1
        have q1 : c < F.length := by omega
        refine ⟨fun σ' H' => ∃ m', m' < lot.length - c ∧ _, fun _ _ h => h, ?_⟩
        have hf : F[c]? = some F[c] := List.getElem?_eq_getElem q1
        have hfl : F[c] < lot.length := I5.lt _ (List.getElem_mem q1)
        generalize F[c] = f at hf hfl
        refine ⟨_, rfl, va, _, rfl, .inr (S5.tup v1), _, rfl, by omega, by rw [lps]; omega, ?_⟩
        refine for_it walk_range0 (fun i σ H6 => ∃ (F : List Nat) (z4 z6 : Option V), σ = [some (.ref ua), some (.ref va), some (.ref lse), some (.ref D), z4, some (.int ((c : Nat) : Int)), z6] ∧ Same H H6 ∧ H6 D = some (.lst (eS F)) ∧ ComeJ lot.length (fitS hs lot) (wantS lot) Se F c f i)
          ⟨F, _, _, rfl, S5, e5, I5.j hf⟩ (fun _ _ _ _ _ => trivial) ?_ ?_
        · rintro i x σ H6 H7 hi ⟨F, z4, z6, rfl, S6, e6, J6⟩ ⟨rfl, rfl⟩
          have hi : i < lot.length := by omega
          refine ⟨_, rfl, _, rfl, D, _, rfl, .inl (sql_of e6), rfl, flat_eS F, _, rfl, ?_⟩
          rw [if_pos rfl, in_eS]
          by_cases hm : i ∈ F
          · rw [decide_eq_true hm]
            refine iteF (iteF ?_)
            exact ⟨F, _, _, rfl, S6, e6, J6.skip fun _ => hm⟩
          · rw [decide_eq_false hm]
            refine iteT ?_
            obtain ⟨q, hq1, hq2, hq3⟩ := (S.mono S6).at_ hi
            refine ⟨_, rfl, _, rfl, lse, _, _, .ref q, rfl, rfl, sql_of (S6 _ _ S.ls), hq2, q, rfl, ⟨_, sql_of hq3⟩, fun D2 hD2 => ?_⟩
            have hD2' : H D2 = none := S6.free hD2
            refine lc_run (walk_list (K := K) (a := q) (xs := eS (Se i))) (H0 := _) (fun j ac H4 => ac = ((Se i).take j).map fun h => V.bl (fitS hs lot h f)) (Same.refl _) hD2 (fun _ _ => rfl) (fun H4 S4 => sql_of (S4 _ _ hq3)) ?_ ?_
            · rintro j x ac H8 H9 hj hD0 S8 e8 rfl ⟨rfl, hx⟩
              obtain ⟨h, hh, rfl⟩ := eS_get hx
              have hh2 := (ok.fits i hi h (List.mem_of_getElem? hh)).1
              have S68 := S6.trans S8
              obtain ⟨p, pa, hp, hp1, hp2, hp3⟩ := pl hfl S68
              obtain ⟨hv, hhv, dh⟩ := item_get u2 (List.getElem?_eq_getElem hh2)
              have hfF : (eS F)[c]? = some (.int ((f : Nat) : Int)) := by unfold eS; rw [List.getElem?_map, J6.here]; rfl
              refine ⟨rfl, g_yes (iteT ?_)⟩
              refine ⟨_, rfl, _, rfl, ua, us, _, hv, rfl, rfl, S68.tup u1, at_of rfl hhv, _, rfl, _, rfl, _, rfl, D, _, _, _, rfl, rfl, sql_of (S8 _ _ e6), at_of rfl hfF, va, _, _, .ref pa, rfl, rfl, S68.tup v1, hp1, _, _, _, p, rfl, dh.mono S68.tups, hp3, ?_⟩
              refine lc_next hD0 S8 (Same.refl _) e8 ?_ fun H10 _ _ _ => ?_
              · rw [List.length_map, List.length_take]
                have := ok.le i hi
                have := (O.want hi).2
                omega
              · rw [List.take_add_one, hh, List.map_append, ← fitS_at (List.getElem?_eq_getElem hh2) hp]
                rfl
            · rintro ac H8 S8 e8 rfl
              rw [eS_len, List.take_length] at e8
              refine ⟨D2, (Se i).map fun h => fitS hs lot h f, rfl, sql_of (by rw [e8, List.map_map]; rfl), _, rfl, ?_⟩
              cases hb : ((Se i).map fun h => fitS hs lot h f).any id with
              | false =>
                refine iteF ?_
                refine ⟨F, _, _, rfl, S6.trans S8, S8 _ _ e6, J6.skip fun ⟨h, h1, h2⟩ => ?_⟩
                exfalso
                have : ((Se i).map fun h => fitS hs lot h f).any id = true := List.any_eq_true.mpr ⟨true, List.mem_map.mpr ⟨h, h1, h2⟩, rfl⟩
                rw [hb] at this
                cases this
              | true =>
                refine iteT ?_
                obtain ⟨b, hb1, hb2⟩ := List.any_eq_true.mp hb
                obtain ⟨h, h1, rfl⟩ := List.mem_map.mp hb1
                have hF6 := nodup_lt J6.I.nd J6.I.lt
                refine ⟨_, rfl, .inl ⟨rfl, _, sql_of (S8 _ _ e6)⟩, _, rfl, D, _, _, rfl, rfl, S8 _ _ e6, sz100' (by rw [eS_len]; omega), ?_⟩
                refine ⟨F ++ [i], _, _, rfl, (S6.trans S8).mut hD, ?_, J6.add hi hm ⟨h, h1, hb2⟩⟩
                rw [upd_same, eS_snoc]
        · rintro σ H6 ⟨F', z4, z6, rfl, S6, e6, J6⟩
          rw [lps] at J6
          simp only [Int.sub_zero, Int.toNat_natCast] at J6
          have h1 := (List.getElem?_eq_some_iff.mp J6.here).1
          refine ⟨_, rfl, _, _, rfl, rfl, ?_⟩
          refine ⟨lot.length - (c + 1), by omega, F', c + 1, _, _, rfl, rfl, S6, e6, h1, J6.out⟩
      · have q1 : ¬ ((c : Nat) : Int) < ((F.length : Nat) : Int) := fun z => q1 (decide_eq_true z)
        have C := I5.out (by omega)
        refine ⟨_, rfl, D, F.map fun h => ((h : Nat) : Int), rfl, sql_of (by rw [e5, eS_ints]), fun ns' p hp1 hp2 hp => newG hp fun H6 S6 e6 => ?_⟩
        have hex : ∃ F' : List Nat, ns' = F'.map fun h => ((h : Nat) : Int) := by
          refine ⟨ns'.map Int.toNat, ?_⟩
          rw [List.map_map]
          have : ∀ x, x ∈ ns' → ((fun h : Nat => ((h : Nat) : Int)) ∘ Int.toNat) x = x := fun x hx => by
            obtain ⟨h, _, rfl⟩ := List.mem_map.mp (hp1.mem_iff.mp hx)
            simp
          rw [List.map_congr_left this]
          simp
        obtain ⟨F', rfl⟩ := hex
        have hperm : F'.Perm F := by
          have := hp1.map Int.toNat
          rw [List.map_map, List.map_map] at this
          simpa [Function.comp_def] using this
        refine k _ p F' (S5.trans S6) (by rw [e6, eS_ints]) (C.perm hperm) ?_
        rw [List.pairwise_map] at hp2
        exact hp2.imp fun {a b} h => by omega
theorem sc_lacking : FnScope ["hands", "lot", "seats", "many", "place", "some", "k"] ["hands", "lot"] (defScope s_lacking) := ⟨rfl, rfl, rfl, by decide +kernel, rfl, by decide +kernel, by decide +kernel⟩
theorem c_lacking (T : Txt K mg CM CH CV aL) : Cal P w K mg base 30 "lacking" (spLacking K) := by
  have c_fullest := c_fullest (P := P) (w := w) (base := base) T
  have c_come_to := c_come_to (P := P) (w := w) (base := base) T
  refine cal_of T.d_lacking (fun _ _ _ _ _ _ us hl => match us, hl with | [_, _], _ => rfl) sc_lacking (fun vs H Q E h => ?_) (fun f cdv A outer s H vs Q E hr h => ?_)
  · obtain ⟨_, _, _, _, rfl, _⟩ := h; rfl
  · obtain ⟨u, v, hs, lot, rfl, du, dv, O, k⟩ := h
    obtain ⟨va, ps, rfl, v1, v2⟩ := id dv.tup_inv
    have lps : ps.length = lot.length := by have := v2.length; rwa [List.length_map] at this
    have szP := O.szP
    refine ⟨_, (pss_cons (ps_set (i := 2) sc_lacking.nd rfl (Or.inl rfl) (pe_c c_fullest hr (by decide) rfl (pa_cons (pv 0) (pa_cons (pv 1) pa_nil))))
    (pss_cons (ps_set (i := 3) sc_lacking.nd rfl (Or.inl rfl) (pe_callB (cr_sumK K rfl) (by rfl) T.b_sum (by decide +kernel) (pa_cons (pe_lc (own := [("place", 4), ("some", 5)]) rfl sc_lacking.nd (pi_zipBK K true false (by rfl) T.b_zip (pa_cons (pv 1) (pa_cons (pv 2) pa_nil))) (blkOk_by (own := [("place", 4), ("some", 5)]) (N := ["hands", "lot", "seats", "many", "place", "some", "k"]) (sc := defScope s_lacking) (by decide +kernel)) (fun _ _ _ _ _ => (pg_tupK K 2 rfl (pgs_cons (pg_name (i := 4) sc_lacking.nd rfl (Or.inl rfl)) (pgs_cons (pg_name (i := 5) sc_lacking.nd rfl (Or.inl rfl)) pgs_nil)))) (fun _ _ _ _ _ => pts_nil) (fun _ _ _ _ _ => (pe_op op_sub (pe_ix (ix_tupK K) (pv 4) pe_int (fun _ _ => rfl)) (pe_callB (call_len_seqK K) (by rfl) T.b_len PySem.boot_len (pa_cons (pv 5) pa_nil))))) pa_nil)))
    (pss_one (ps_ret (pe_tup (pa_cons (pv 3) (pa_cons (pe_callTy (call_tuple_ofK K) (by rfl) T.b_tuple (by decide +kernel) (pa_cons (pe_lc (own := [("k", 6)]) rfl sc_lacking.nd (pi_listK K (pe_c c_come_to hr (by decide) rfl (pa_cons (pv 0) (pa_cons (pv 1) (pa_cons (pv 2) pa_nil))))) (blkOk_by (own := [("k", 6)]) (N := ["hands", "lot", "seats", "many", "place", "some", "k"]) (sc := defScope s_lacking) (by decide +kernel)) (fun _ _ _ _ _ => (pg_name (i := 6) sc_lacking.nd rfl (Or.inl rfl))) (fun _ _ _ _ _ => pts_nil) (fun _ _ _ _ _ => (pe_ix (ix_tupK K) (pe_ix (ix_tupK K) (pv 1) (pv 6) (fun _ _ => rfl)) pe_int (fun _ _ => rfl)))) pa_nil)) pa_nil))))))), ?_⟩
    refine ⟨_, rfl, _, rfl, _, _, hs, lot, rfl, du, dv, O, fun H1 lse qs Se S1 SH F => ?_⟩
    have lqs := SH.len
    refine ⟨_, rfl, _, rfl, va, lse, ps, qs.map V.ref, rfl, S1.tup v1, sql_of SH.ls, fun D hD => ?_⟩
    refine lc_run walk_itF (H0 := H1) (fun j ac H4 => ac = ((List.range j).map fun k => wantS lot k - ((Se k).length : Nat)).map V.int) (Same.refl _) hD (fun _ _ => rfl) (fun H4 S4 => ⟨S4.tup (S1.tup v1), sql_of (S4 _ _ SH.ls)⟩) ?_ ?_
    · rintro j x ac H4 H5 hj hD0 S4 e4 rfl ⟨t, rfl, ht, rfl⟩
      rw [List.length_map, lps, lqs] at hj
      have hj : j < lot.length := by omega
      have SH4 := SH.mono S4
      obtain ⟨q, hq1, _, hq3⟩ := SH4.at_ hj
      obtain ⟨x, hx, dx⟩ := item_get v2 (List.getElem?_eq_getElem hj)
      have e1 : ps.getD j .non = x := by rw [List.getD_eq_getElem?_getD, hx]; rfl
      have e2 : (qs.map V.ref).getD j .non = .ref q := by rw [List.getD_eq_getElem?_getD, List.getElem?_map, hq1]; rfl
      rw [e1, e2]
      have St : Same H4 (upd H4 t (.tup [x, .ref q])) := Same.new ht
      have et : upd H4 t (.tup [x, .ref q]) t = some (.tup [x, .ref q]) := upd_same
      generalize upd H4 t (.tup [x, .ref q]) = H5 at St et ⊢
      have dx5 := dx.mono ((S1.trans S4).trans St).tups
      obtain ⟨pa, rfl, p1⟩ := place_inv dx5
      refine ⟨t, _, rfl, sqt_of et, rfl, _, _, rfl, _, _, rfl, rfl, rfl, g_yes (iteT ?_)⟩
      refine ⟨_, rfl, pa, _, _, .int lot[j].many, rfl, rfl, p1, rfl, _, rfl, q, _, rfl, .inl (sql_of (St _ _ hq3)), _, _, rfl, rfl, ?_⟩
      refine lc_next hD0 S4 St e4 (by rw [List.length_map, List.length_map, List.length_range]; omega) fun H6 _ _ _ => ?_
      rw [List.range_succ, List.map_append, List.map_append, eS_len]
      show _ = _ ++ [V.int (wantS lot j - ((Se j).length : Nat))]
      rw [wantS_at (List.getElem?_eq_getElem hj)]
    · rintro ac H4 S4 e4 rfl
      have hmin : min ps.length (qs.map V.ref).length = lot.length := by rw [List.length_map, lps, lqs]; exact Nat.min_self _
      rw [hmin] at e4
      refine ⟨D, _, rfl, sql_of e4, ?_⟩
      have hsum : ((List.range lot.length).map fun k => wantS lot k - ((Se k).length : Nat)).sum = sumR lot.length fun k => wantS lot k - ((Se k).length : Nat) := by
        have : ∀ (f : Nat → Int) n, ((List.range n).map f).sum = sumR n f := by
          intro f n
          induction n with
          | zero => rfl
          | succ n ih => rw [List.range_succ, List.map_append, List.sum_append, ih]; simp [sumR]
        exact this _ _
      rw [hsum]
      have S14 := S1.trans S4
      refine ⟨_, rfl, _, rfl, _, rfl, _, rfl, _, _, lse, qs, Se, hs, lot, rfl, du.mono S14.tups, dv.mono S14.tups, O, SH.mono S4, F.ok, fun H5 pF Fs S5 e5 C srt => ?_⟩
      refine ⟨pF, rfl, ⟨_, sql_of e5⟩, fun D2 hD2 => ?_⟩
      have S15 := S14.trans S5
      refine lc_run (walk_list (K := K) (a := pF) (xs := eS Fs)) (H0 := H5) (fun j ac H4 => ac = (cutN lot (Fs.take j)).map V.str) (Same.refl _) hD2 (fun _ _ => rfl) (fun H4 S4 => sql_of (S4 _ _ e5)) ?_ ?_
      · rintro j x ac H6 H7 hj hD0 S6 e6 rfl ⟨rfl, hx⟩
        obtain ⟨f, hf, rfl⟩ := eS_get hx
        have hfl : f < lot.length := C.lt f (List.mem_of_getElem? hf)
        obtain ⟨x, hx, dx⟩ := item_get v2 (List.getElem?_eq_getElem hfl)
        have dx5 := dx.mono (S15.trans S6).tups
        obtain ⟨pa, rfl, p1⟩ := place_inv dx5
        refine ⟨rfl, g_yes (iteT ?_)⟩
        refine ⟨_, rfl, _, rfl, va, _, _, .ref pa, rfl, rfl, (S15.trans S6).tup v1, at_of rfl hx, pa, _, _, .str lot[f].nm, rfl, rfl, p1, rfl, ?_⟩
        have hFl := nodup_lt C.nd C.lt
        refine lc_next hD0 S6 (Same.refl _) e6 (by unfold cutN; rw [List.length_map, List.length_map, List.length_take]; omega) fun H8 _ _ _ => ?_
        unfold cutN
        rw [List.take_add_one, hf, List.map_append, List.map_append]
        show _ = _ ++ [V.str (((lot[f]?).map Place.nm).getD "")]
        rw [List.getElem?_eq_getElem hfl]
        rfl
      · rintro ac H6 S6 e6 rfl
        rw [eS_len, List.take_length] at e6
        refine ⟨D2, _, rfl, .inl ⟨sql_of e6, fun r hr => newG hr fun H7 S7 e7 => ?_⟩⟩
        refine ⟨by show 2 ≤ sizeLine; decide, fun q hq => newG hq fun H8 S8 e8 => ?_⟩
        exact k _ q r _ Fs (((S15.trans S6).trans S7).trans S8) (sqt_of e8) (sqt_of (S8 _ _ e7)) ⟨⟨Se, F, C, rfl⟩, srt⟩
end
end WS
/-! Pages; dicts told by lists; sorted texts; names_in; in_order. -/
namespace WS
open PySem PySem.Spec PyProof.Rows L2 WM
open C8 (pe_gc pe_c pe_mk pe_mt pe_mt0)
open LamX (TabS Tabs ExtN TabB)
/-! ### texts, sorted -/
def leStr (a b : Str) : Bool := !ltCps b.cps.toList a.cps.toList
theorem leStr_iff {a b : Str} : leStr a b = true ↔ a.cps.toList ≤ b.cps.toList := by
  unfold leStr
  rw [ltCps_eq]
  simp
theorem leStr_trans (a b c : Str) (h : leStr a b = true) (k : leStr b c = true) : leStr a c = true := by
  rw [leStr_iff] at *
  exact List.le_trans h k
theorem leStr_total (a b : Str) : (leStr a b || leStr b a) = true := by
  rw [Bool.or_eq_true, leStr_iff, leStr_iff]
  exact List.le_total _ _
theorem str_eq {x y : Str} (h : x.cps.toList = y.cps.toList) : x = y := by
  cases x
  cases y
  simp only at h
  congr
  exact Array.toList_inj.mp h
theorem leStr_anti {a b : Str} (h : leStr a b = true) (k : leStr b a = true) : a = b := by
  rw [leStr_iff] at *
  exact str_eq (List.le_antisymm h k)
theorem rising_pw : ∀ {l : List Str} {p : Str}, risingS p l = true → (p :: l).Pairwise fun a b => leStr a b = true
  | [], p, _ => by simp
  | x :: r, p, h => by
    have h : leStr p x = true ∧ risingS x r = true := by
      have : (!ltCps x.cps.toList p.cps.toList && risingS x r) = true := h
      rw [Bool.and_eq_true] at this
      exact this
    have ih := rising_pw h.2
    refine List.pairwise_cons.mpr ⟨fun y hy => ?_, ih⟩
    rcases List.mem_cons.mp hy with rfl | hy
    · exact h.1
    · exact leStr_trans _ _ _ h.1 ((List.pairwise_cons.mp ih).1 y hy)
theorem sorted_pw : ∀ {l : List Str}, sortedS l = true → l.Pairwise fun a b => leStr a b = true
  | [], _ => .nil
  | x :: r, h => rising_pw h
def srt (ks : List Str) : List Str := ks.mergeSort leStr
theorem srt_is {ys ks : List Str} (p : ys.Perm ks) (h : sortedS ys = true) : ys = srt ks :=
  List.Perm.eq_of_pairwise (fun _ _ _ _ h k => leStr_anti h k) (sorted_pw h) (List.pairwise_mergeSort leStr_trans leStr_total ks) (p.trans (List.mergeSort_perm ks leStr).symm)
theorem srt_perm (ks : List Str) : (srt ks).Perm ks := List.mergeSort_perm ks leStr
/-! ### dicts told by lists -/
section
variable {α : Type}
def valA (l : List (Str × α)) (n : Str) : Option α := (l.find? fun p => decide (p.1 = n)).map (·.2)
def putA (l : List (Str × α)) (n : Str) (a : α) : List (Str × α) := if (l.any fun p => decide (p.1 = n)) = true then l.map (fun p => if p.1 = n then (p.1, a) else p) else l ++ [(n, a)]
def dropA (l : List (Str × α)) (n : Str) : List (Str × α) := l.filter fun p => decide (p.1 ≠ n)
def mergeA (l more : List (Str × α)) : List (Str × α) := more.foldl (fun acc p => putA acc p.1 p.2) l
def keysA (l : List (Str × α)) : List Str := l.map (·.1)
abbrev DR (R : V → α → Prop) (kvs : List (Key × V)) (l : List (Str × α)) : Prop := Paired (fun (p : Key × V) (q : Str × α) => p.1 = .inr q.1 ∧ R p.2 q.2) kvs l
variable {R R' : V → α → Prop} {kvs more : List (Key × V)} {l m : List (Str × α)} {n : Str}
theorem key_eq {p : Key × V} {q : Str × α} (h : p.1 = .inr q.1) : (p.1 = .inr n) ↔ (q.1 = n) := by
  rw [h]
  exact ⟨fun e => by injection e, fun e => by rw [e]⟩
theorem DR.mono (h : DR R kvs l) (f : ∀ v a, R v a → R' v a) : DR R' kvs l := by
  induction h with
  | nil => exact .nil
  | cons h _ ih => exact .cons ⟨h.1, f _ _ h.2⟩ ih
theorem DR.length (h : DR R kvs l) : kvs.length = l.length := by
  induction h with
  | nil => rfl
  | cons _ _ ih => rw [List.length_cons, List.length_cons, ih]
theorem DR.keys (h : DR R kvs l) : kvs.map (·.1) = (keysA l).map Sum.inr := by
  unfold keysA
  induction h with
  | nil => rfl
  | cons h _ ih => rw [List.map_cons, List.map_cons, List.map_cons, ih, h.1]
theorem DR.any (h : DR R kvs l) : (kvs.any fun p => decide (p.1 = .inr n)) = l.any fun p => decide (p.1 = n) := by
  induction h with
  | nil => rfl
  | cons h _ ih =>
    rw [List.any_cons, List.any_cons, ih]
    congr 1
    exact decide_eq_decide.mpr (key_eq h.1)
theorem DR.val (h : DR R kvs l) : (valA l n = none ∧ valV kvs (.inr n) = none) ∨ ∃ a v, valA l n = some a ∧ valV kvs (.inr n) = some v ∧ R v a := by
  induction h with
  | nil => exact .inl ⟨rfl, rfl⟩
  | @cons p q ps qs h _ ih =>
    by_cases e : q.1 = n
    · refine .inr ⟨q.2, p.2, ?_, valV_pos ((key_eq h.1).mpr e), h.2⟩
      simp [valA, List.find?_cons, e]
    · have e' : ¬ p.1 = .inr n := fun z => e ((key_eq h.1).mp z)
      rw [valV_neg e']
      have : valA (q :: qs) n = valA qs n := by simp [valA, List.find?_cons, e]
      rw [this]
      exact ih
theorem DR.repl {v : V} {a : α} (h : DR R kvs l) (r : R v a) : DR R (kvs.map fun kv => if kv.1 = .inr n then (kv.1, v) else kv) (l.map fun p => if p.1 = n then (p.1, a) else p) := by
  induction h with
  | nil => exact .nil
  | @cons p q ps qs h _ ih =>
    rw [List.map_cons, List.map_cons]
    refine .cons ?_ ih
    by_cases e : q.1 = n
    · rw [if_pos ((key_eq h.1).mpr e), if_pos e]
      exact ⟨h.1, r⟩
    · rw [if_neg (fun z => e ((key_eq h.1).mp z)), if_neg e]
      exact h
theorem DR.put {v : V} {a : α} (h : DR R kvs l) (r : R v a) : DR R (putK kvs (.inr n) v) (putA l n a) := by
  unfold putK putA
  rw [h.any]
  split
  · exact h.repl r
  · exact Paired.snoc h ⟨rfl, r⟩
theorem DR.drop (h : DR R kvs l) : DR R (dropK kvs (.inr n)) (dropA l n) := by
  unfold dropK dropA
  induction h with
  | nil => exact .nil
  | @cons p q ps qs h _ ih =>
    rw [List.filter_cons, List.filter_cons]
    by_cases e : q.1 = n
    · rw [if_neg (by simp [(key_eq h.1).mpr e]), if_neg (by simp [e])]
      exact ih
    · rw [if_pos (by simp; exact fun z => e ((key_eq h.1).mp z)), if_pos (by simp [e])]
      exact .cons h ih
theorem DR.merge (h : DR R kvs l) (k : DR R more m) : DR R (mergeK kvs more) (mergeA l m) := by
  unfold mergeK mergeA
  induction k generalizing kvs l with
  | nil => exact h
  | @cons p q ps qs r _ ih =>
    rw [List.foldl_cons, List.foldl_cons]
    refine ih ?_
    have := h.put (n := q.1) r.2
    rw [← r.1] at this
    exact this
theorem putA_len (l : List (Str × α)) (n : Str) (a : α) : (putA l n a).length ≤ l.length + 1 := by
  unfold putA
  split
  · rw [List.length_map]; omega
  · rw [List.length_append]; simp
theorem dropA_len (l : List (Str × α)) (n : Str) : (dropA l n).length ≤ l.length := List.length_filter_le _ _
theorem mergeA_len : ∀ (m l : List (Str × α)), (mergeA l m).length ≤ l.length + m.length
  | [], l => by simp [mergeA]
  | p :: m, l => by
    have h1 := mergeA_len m (putA l p.1 p.2)
    have h2 := putA_len l p.1 p.2
    have : mergeA l (p :: m) = mergeA (putA l p.1 p.2) m := rfl
    rw [this, List.length_cons]
    omega
theorem valA_mem {a : α} (h : valA l n = some a) : (n, a) ∈ l := by
  unfold valA at h
  cases e : l.find? fun p => decide (p.1 = n) with
  | none => rw [e] at h; cases h
  | some p =>
    rw [e] at h
    have h1 := List.find?_some e
    have h2 := List.mem_of_find?_eq_some e
    have h : p.2 = a := Option.some.inj h
    have h1 : p.1 = n := of_decide_eq_true h1
    rw [← h, ← h1]
    exact h2
theorem valA_none (h : valA l n = none) : ∀ p, p ∈ l → p.1 ≠ n := fun p hp e => by
  unfold valA at h
  cases e2 : l.find? fun p => decide (p.1 = n) with
  | none =>
    have := List.find?_eq_none.mp e2 p hp
    exact this (decide_eq_true e)
  | some q => rw [e2] at h; cases h
theorem valA_key (h : n ∈ keysA l) : ∃ a, valA l n = some a := by
  cases e : valA l n with
  | some a => exact ⟨a, rfl⟩
  | none =>
    obtain ⟨p, hp, rfl⟩ := List.mem_map.mp h
    exact absurd rfl (valA_none e p hp)
/-- what put, drop leave behind -/
theorem putA_mem {a : α} {p : Str × α} (h : p ∈ putA l n a) : p ∈ l ∨ p = (n, a) := by
  unfold putA at h
  split at h
  · obtain ⟨q, hq, rfl⟩ := List.mem_map.mp h
    split
    · rename_i e
      right; rw [← e]
    · exact .inl hq
  · rcases List.mem_append.mp h with z | z
    · exact .inl z
    · right; simpa using z
theorem dropA_mem {p : Str × α} (h : p ∈ dropA l n) : p ∈ l := (List.mem_filter.mp h).1
theorem mergeA_mem {p : Str × α} : ∀ {m l : List (Str × α)}, p ∈ mergeA l m → p ∈ l ∨ p ∈ m
  | [], l, h => .inl h
  | q :: m, l, h => by
    rcases mergeA_mem (m := m) (l := putA l q.1 q.2) h with z | z
    · rcases putA_mem z with z | z
      · exact .inl z
      · right; rw [z]; simp
    · right; simp [z]
theorem putA_keys {a : α} (h : (keysA l).Nodup) : (keysA (putA l n a)).Nodup := by
  unfold putA
  split
  · have : keysA (l.map fun p => if p.1 = n then (p.1, a) else p) = keysA l := by
      unfold keysA
      rw [List.map_map]
      refine List.map_congr_left fun p _ => ?_
      simp only [Function.comp]
      split <;> rfl
    rw [this]; exact h
  · rename_i hn
    unfold keysA at *
    rw [List.map_append]
    refine List.nodup_append.mpr ⟨h, by simp, fun x hx y hy => ?_⟩
    have hy : y = n := by simpa using hy
    rintro rfl
    obtain ⟨p, hp, e⟩ := List.mem_map.mp hx
    exact hn (List.any_eq_true.mpr ⟨p, hp, decide_eq_true (e.trans hy)⟩)
theorem dropA_keys (h : (keysA l).Nodup) : (keysA (dropA l n)).Nodup := by
  unfold keysA dropA at *
  exact h.sublist (List.Sublist.map _ List.filter_sublist)
theorem mergeA_keys : ∀ {m l : List (Str × α)}, (keysA l).Nodup → (keysA (mergeA l m)).Nodup
  | [], l, h => h
  | q :: m, l, h => mergeA_keys (m := m) (l := putA l q.1 q.2) (putA_keys h)
end
/-! ### pages -/
inductive Chg where
  | call (w : Str) | done (w : Str) | sick (n : Str) | well (n : Str) | leave (n : Str) | rank (n : Str) (r : Int) | section_ (n : Str) (s : Int) | many (n : Str) (m : Int) | learn (n k : Str) | join (h : Hand)
structure Page where
  bell : Int
  num : Int
  ch : Chg
def encCg : Chg → PyData
  | .call w => .tuple [.str "call", .str w]
  | .done w => .tuple [.str "done", .str w]
  | .sick n => .tuple [.str "sick", .str n]
  | .well n => .tuple [.str "well", .str n]
  | .leave n => .tuple [.str "leave", .str n]
  | .rank n r => .tuple [.str "rank", .str n, .int r]
  | .section_ n s => .tuple [.str "section", .str n, .int s]
  | .many n m => .tuple [.str "many", .str n, .int m]
  | .learn n k => .tuple [.str "learn", .str n, .str k]
  | .join h => .tuple [.str "join", encH h]
def encPg (p : Page) : PyData := .tuple [.int p.bell, .int p.num, encCg p.ch]
def pgKey (p : Page) : Int × Int := (p.bell, p.num)
def ordP (pgs : List Page) : List Page := pgs.mergeSort (leK pgKey)
section
variable {K : PySem.W.Frag} {H H' : Hp}
theorem page_inv {v : V} {p : Page} (d : Dt K H v (encPg p)) : ∃ a c, v = .ref a ∧ SqT K H a [.int p.bell, .int p.num, c] ∧ Dt K H c (encCg p.ch) := by
  obtain ⟨a, xs, rfl, h1, h2⟩ := Dt.tup_inv d
  cases h2 with
  | cons d1 h2 =>
    cases h2 with
    | cons d2 h2 =>
      cases h2 with
      | cons d3 h2 =>
        cases h2
        cases d1
        cases d2
        exact ⟨a, _, rfl, h1, d3⟩
theorem ext_tups (e : ExtN H H') : Tups H H' := fun a xs h => by
  rcases h with h | ⟨o, h⟩
  · exact .inl (e _ _ h fun ps z => nomatch z)
  · exact .inr ⟨o, e _ _ h fun ps z => nomatch z⟩
theorem ext_same (e : Same H H') : ExtN H H' := ExtN.of e
end
def spNamesIn (K : PySem.W.Frag) : Sp := fun vs H Q _ => ∃ (u : V) (lots : List (List Place)), vs = [u] ∧ Dt K H u (.tuple (lots.map fun l => .tuple (l.map encP))) ∧ (lots.flatten).length ≤ 10000 ∧
  ∀ H' p, Same H H' → H p = none → H' p = some (.lst ((lots.flatten.map Place.nm).map V.str)) → Q (.ref p) H'
def spOrder (K : PySem.W.Frag) (P : Addr) : Sp := fun vs H Q _ => ∃ (u : V) (pgs : List Page), vs = [u] ∧ Dt K H u (.tuple (pgs.map encPg)) ∧ TabS H P "in_order.<locals>.<lambda>" ∧
  ∀ H' r, ExtN H H' → TabS H' P "in_order.<locals>.<lambda>" → Dt K H' r (.tuple ((ordP pgs).map encPg)) → Q r H'
/-- the def in_order, its code object known, its table of code objects at P -/
structure LamD (K : PySem.W.Frag) (mg : Str → Option Value) (c : Addr) : Prop where
  d : ∃ (f : Addr) (oc : Value) (od : Option Addr) (kV doc pm : Value) (an : Option Addr) (ct : Value) (osl : Array (Option Value)),
    K.lookup f = some ⟨oc, od, .func (PySem.W.fnOf "in_order" "in_order" (defArgs s_in_order) (defBody s_in_order) (defScope s_in_order) .none kV doc pm an (.ref c) ct), osl⟩ ∧ PySem.W.codeIn K (.ref c) "in_order" = true ∧ PySem.W.keepIn K (.ref f) = true ∧ mg "in_order" = some (.ref f)
section
variable {P : Program} {w : World} {K : PySem.W.Frag} {mg : Str → Option Value} {base : Heap} {CM CH CV aL : Addr}
theorem sc_names_in : FnScope ["lots", "found", "lot", "place"] ["lots"] (defScope s_names_in) := ⟨rfl, rfl, rfl, by decide +kernel, rfl, by decide +kernel, by decide +kernel⟩
theorem c_names_in (T : Txt K mg CM CH CV aL) : Cal P w K mg base 1 "names_in" (spNamesIn K) := by
  refine cal_of T.d_names_in (fun _ _ _ _ _ _ us hl => match us, hl with | [_], _ => rfl) sc_names_in (fun vs H Q E h => ?_) (fun f cdv A outer s H vs Q E hr h => ?_)
  · obtain ⟨_, _, rfl, _⟩ := h; rfl
  · obtain ⟨u, lots, rfl, du, hz, k⟩ := h
    obtain ⟨ua, us, rfl, u1, u2⟩ := id du.tup_inv
    refine ⟨_, (pss_cons (ps_set (i := 1) sc_names_in.nd rfl (Or.inl rfl) (pe_lst pa_nil))
    (pss_cons (ps_for PassesOwn.never rfl (pi_tupK K (pv 0)) (pg_name (i := 2) sc_names_in.nd rfl (Or.inl rfl)) (pss_one (ps_expr (pe_bmK K PySem.F.plainAttrs_list PySem.F.slot_list_extend PySem.F.type_list_extend mt_extend (pv 1) (pa_cons (pe_lc (own := [("place", 3)]) rfl sc_names_in.nd (pi_tupK K (pv 2)) (blkOk_by (own := [("place", 3)]) (N := ["lots", "found", "lot", "place"]) (sc := defScope s_names_in) (by decide +kernel)) (fun _ _ _ _ _ => (pg_name (i := 3) sc_names_in.nd rfl (Or.inl rfl))) (fun _ _ _ _ _ => pts_nil) (fun _ _ _ _ _ => (pe_ix (ix_tupK K) (pv 3) pe_int (fun _ _ => rfl)))) pa_nil)))))
    (pss_one (ps_ret (pv 1))))), ?_⟩
    refine ⟨by show 0 ≤ sizeLine; decide, fun l hl => newG hl fun H1 S1 e1 => ?_⟩
    refine ⟨_, rfl, ua, rfl, ⟨_, S1.tup u1⟩, ?_⟩
    refine for_tup (K := K) (a := ua) (xs := us) (fun i σ H2 => ∃ (z2 z3 : Option V), σ = [some (.ref ua), some (.ref l), z2, z3] ∧ Same H H2 ∧ H2 l = some (.lst (((lots.take i).flatten.map Place.nm).map V.str))) ⟨_, _, rfl, S1, e1⟩ (fun i σ H2 _ ⟨_, _, _, S2, _⟩ => S2.tup u1) ?_ ?_
    · rintro i x σ H2 hx ⟨z2, z3, rfl, S2, e2⟩
      obtain ⟨lot, hlot, dl⟩ := item_inv (a := ua) u2 hx
      have dl := dl.mono S2.tups
      obtain ⟨la, ls, rfl, l1, l2⟩ := id dl.tup_inv
      refine ⟨_, rfl, .inl ⟨rfl, _, sql_of e2⟩, ?_⟩
      refine ⟨_, rfl, la, rfl, ⟨_, l1⟩, fun D hD => ?_⟩
      refine lc_run (walk_tup (K := K) (a := la) (xs := ls)) (H0 := H2) (fun j ac H4 => ac = ((lot.take j).map Place.nm).map V.str) (Same.refl _) hD (fun _ _ => rfl) (fun H4 S4 => S4.tup l1) ?_ ?_
      · rintro j x ac H4 H5 hj hD0 S4 e4 rfl ⟨rfl, hx⟩
        obtain ⟨p, hp, dp⟩ := item_inv (a := la) l2 hx
        obtain ⟨pa, rfl, p1⟩ := place_inv (dp.mono S4.tups)
        refine ⟨rfl, g_yes (iteT ?_)⟩
        refine ⟨_, rfl, pa, _, _, .str p.nm, rfl, rfl, p1, rfl, ?_⟩
        have hll : lot.length ≤ 10000 := by
          have h1 : lot ∈ lots := List.mem_of_getElem? hlot
          have h2 : lot.length ≤ lots.flatten.length := (List.sublist_flatten_of_mem h1).length_le
          omega
        refine lc_next hD0 S4 (Same.refl _) e4 (by rw [List.length_map, List.length_map, List.length_take]; omega) fun H6 _ _ _ => ?_
        rw [List.take_add_one, hp]
        simp
      · rintro ac H4 S4 e4 rfl
        have hlen : ls.length = lot.length := by have := l2.length; rwa [List.length_map] at this
        rw [hlen, List.take_length] at e4
        have nlD : l ≠ D := ne_of_none e2 hD
        have hfl : ((lots.take i).flatten.length + lot.length) ≤ 10000 := by
          have h1 : (lots.take (i + 1)).flatten.length = (lots.take i).flatten.length + lot.length := by rw [List.take_add_one, hlot]; simp
          have h2 : (lots.take (i + 1)).flatten.length + (lots.drop (i + 1)).flatten.length = lots.flatten.length := by
            rw [← List.length_append, ← List.flatten_append, List.take_append_drop]
          omega
        refine ⟨l, D, _, _, rfl, rfl, S4 _ _ e2, e4, sz100 (by rw [List.length_map, List.length_map, List.length_map, List.length_map]; omega), ?_⟩
        refine ⟨_, _, rfl, (S2.trans S4).mut hl, ?_⟩
        rw [upd_same, List.take_add_one, hlot]
        simp
    · rintro σ H2 ⟨z2, z3, rfl, S2, e2⟩
      have hlen : us.length = lots.length := by have := u2.length; rwa [List.length_map] at this
      rw [hlen, List.take_length] at e2
      exact ⟨_, rfl, k H2 l S2 hl e2⟩
theorem sc_in_order : FnScope ["pages"] ["pages"] (defScope s_in_order) := ⟨rfl, rfl, rfl, by decide +kernel, rfl, by decide +kernel, by decide +kernel⟩
theorem c_in_order (T : Txt K mg CM CH CV aL) {c Pt : Addr} (L : LamD K mg c) (TB : TabB base mg c Pt) : Cal P w K mg base 1 "in_order" (spOrder K Pt) := by
  obtain ⟨f, oc, od, kV, doc, pm, an, ct, osl, lk, hcd, hkp, hm⟩ := L.d
  refine ⟨f, PySem.W.fnOf "in_order" "in_order" (defArgs s_in_order) (defBody s_in_order) (defScope s_in_order) .none kV doc pm an (.ref c) ct, ["pages"], [], ?_, hm, hkp, .all (fun us hl => match us, hl with | [_], _ => rfl), .nil⟩
  refine fn_of lk hcd sc_in_order (fun vs H Q E h => ?_) fun A outer s H vs Q E hr h => ?_
  · obtain ⟨_, _, rfl, _⟩ := h; rfl
  · obtain ⟨u, pgs, rfl, du, hT, k⟩ := h
    obtain ⟨ua, us, rfl, u1, u2⟩ := id du.tup_inv
    have hlen : us.length = pgs.length := by have := u2.length; rwa [List.length_map] at this
    refine ⟨_, (pss_one (ps_ret (pe_callTy (call_tuple_ofK K) (by rfl) T.b_tuple (by decide +kernel) (pa_cons (pe_sortLam K pgKey rfl (by rfl) T.b_sorted (pv 0) hr TB rfl rfl rfl rfl rfl rfl rfl (fun _ _ _ _ _ => rfl) (by decide)) pa_nil)))), ?_⟩
    have hz1 : (us.zip pgs).map (·.1) = us := by rw [List.map_fst_zip]; omega
    have hz2 : (us.zip pgs).map (·.2) = pgs := by rw [List.map_snd_zip]; omega
    have hall : ∀ b, b ∈ us.zip pgs → Dt K H b.1 (encPg b.2) := fun b hb => by
      obtain ⟨i, hi, e⟩ := List.getElem_of_mem hb
      rw [List.getElem_zip] at e
      rw [List.length_zip] at hi
      have h1 : us[i]? = some us[i] := List.getElem?_eq_getElem (by omega)
      obtain ⟨p, hp, dp⟩ := item_inv (a := ua) u2 h1
      rw [List.getElem?_eq_getElem (by omega)] at hp
      cases hp
      rw [← e]
      exact dp
    refine ⟨_, rfl, hT, ua, us.zip pgs, rfl, by rw [hz1]; exact u1, fun b hb => ?_, fun H2 p eN hT2 hp => ?_⟩
    · obtain ⟨a, c, e1, e2, _⟩ := page_inv (hall b hb)
      exact ⟨a, [c], e1, e2⟩
    refine newG hp fun H3 S3 e3 => ?_
    refine ⟨p, _, rfl, .inl ⟨sql_of e3, fun q hq => newG hq fun H4 S4 e4 => ?_⟩⟩
    have eN2 : ExtN H H4 := eN.trans (ext_same (S3.trans S4))
    refine k H4 _ eN2 (hT2.ext (S3.trans S4)) (.tup (sqt_of e4) ?_)
    have e2 : (((us.zip pgs).mergeSort fun x y => leK pgKey x.2 y.2).map (·.2)) = ordP pgs := by
      rw [List.map_mergeSort (s := leK pgKey) (fun a _ b _ => rfl), hz2]
      rfl
    rw [← e2]
    have hL : ∀ L : List (V × Page), (∀ b, b ∈ L → Dt K H4 b.1 (encPg b.2)) → DtAll K H4 (L.map (·.1)) ((L.map (·.2)).map encPg) := by
      intro L
      induction L with
      | nil => exact fun _ => .nil
      | cons b L ih => exact fun h => .cons (h b (by simp)) (ih fun x hx => h x (by simp [hx]))
    exact hL _ fun b hb => (hall b ((List.mergeSort_perm _ _).mem_iff.mp hb)).mono (ext_tups eN2)
end
end WS
/-! What holds: the object Holding, its methods. -/
namespace WS
open PySem PySem.Spec PyProof.Rows L2 WM
open C8 (pe_gc pe_c pe_mk pe_mt pe_mt0)
open LamX (TabS Tabs ExtN TabB)
/-! ### the mathematics -/
structure HFix where
  secs : Int
  billed : List Str
  words : List Str
structure HS where
  hands : List (Str × Hand)
  ill : List (Str × Unit)
  wanted : List (Str × Int)
  up : List Str
def ofHandF (fx : HFix) (st : HS) (h : Hand) : Chg → HS
  | .sick _ => { st with ill := putA st.ill h.nm () }
  | .well _ => { st with ill := dropA st.ill h.nm }
  | .leave _ => { st with hands := dropA st.hands h.nm, ill := dropA st.ill h.nm }
  | .rank _ r => { st with hands := putA st.hands h.nm ⟨h.nm, r, h.sk, h.sec⟩ }
  | .section_ _ s => if s < fx.secs then { st with hands := putA st.hands h.nm ⟨h.nm, h.rank, h.sk, s⟩ } else st
  | .learn _ k => if h.sk.length < 4 ∧ k ∉ h.sk then { st with hands := putA st.hands h.nm ⟨h.nm, h.rank, srt (h.sk ++ [k]), h.sec⟩ } else st
  | _ => st
def takeInF (fx : HFix) (st : HS) (h : Hand) : HS := if valA st.hands h.nm = none ∧ st.hands.length < 12 ∧ h.sec < fx.secs then { st with hands := putA st.hands h.nm h } else st
/-- the name that a change of a hand bears -/
def chgName : Chg → Str
  | .sick n => n | .well n => n | .leave n => n | .rank n _ => n | .section_ n _ => n | .learn n _ => n
  | _ => ""
def onHand (fx : HFix) (st : HS) (c : Chg) : HS := match valA st.hands (chgName c) with
  | none => st
  | some h => ofHandF fx st h c
def putInF (fx : HFix) (st : HS) : Chg → HS
  | .join h => takeInF fx st h
  | .many n m => if n ∈ fx.billed then { st with wanted := putA st.wanted n m } else st
  | .call w => if w ∈ fx.words ∧ w ∉ st.up then { st with up := st.up ++ [w] } else st
  | .done w => if w ∈ st.up then { st with up := st.up.erase w } else st
  | c => onHand fx st c
/-- a hand that may be -/
structure HandOk (h : Hand) : Prop where
  sk : h.sk.length ≤ 10
  rk : 0 ≤ h.rank
  nm : PyData.strOk h.nm = true
/-- what holds of a state; N bounds its sizes -/
structure HWf (fx : HFix) (st : HS) (N : Nat) : Prop where
  nm : ∀ p, p ∈ st.hands → p.2.nm = p.1
  sz1 : st.hands.length ≤ N
  sz2 : st.ill.length ≤ N
  sz3 : st.wanted.length ≤ N
  sz4 : st.up.length ≤ N
  ok : ∀ p, p ∈ st.hands → HandOk p.2
  mn : ∀ p, p ∈ st.wanted → 0 ≤ p.2 ∧ p.2 ≤ 1000
  uw : ∀ x, x ∈ st.up → x ∈ fx.words
  nd : (keysA st.hands).Nodup
theorem srt_len (ks : List Str) : (srt ks).length = ks.length := (srt_perm ks).length_eq
theorem HWf.szk {fx : HFix} {st : HS} {N : Nat} (W : HWf fx st N) : ∀ p, p ∈ st.hands → p.2.sk.length ≤ 10 := fun p hp => (W.ok p hp).sk
theorem HWf.more {fx : HFix} {st : HS} {N M : Nat} (h : HWf fx st N) (k : N ≤ M) : HWf fx st M := ⟨h.nm, by have := h.sz1; omega, by have := h.sz2; omega, by have := h.sz3; omega, by have := h.sz4; omega, h.ok, h.mn, h.uw, h.nd⟩
theorem HWf.put {fx : HFix} {st : HS} {N : Nat} (W : HWf fx st N) {n : Str} {h : Hand} (hn : h.nm = n) (hk : HandOk h) : HWf fx { st with hands := putA st.hands n h } (N + 1) where
  nm := fun p hp => by
    rcases putA_mem hp with z | z
    · exact W.nm p z
    · rw [z]; exact hn
  sz1 := Nat.le_trans (putA_len _ _ _) (Nat.succ_le_succ W.sz1)
  sz2 := Nat.le_succ_of_le W.sz2
  sz3 := Nat.le_succ_of_le W.sz3
  sz4 := Nat.le_succ_of_le W.sz4
  ok := fun p hp => by
    rcases putA_mem hp with z | z
    · exact W.ok p z
    · rw [z]; exact hk
  mn := W.mn
  uw := W.uw
  nd := putA_keys W.nd
def ChgOk : Chg → Prop
  | .join h => HandOk h
  | .rank _ r => 0 ≤ r
  | .many _ m => 0 ≤ m ∧ m ≤ 1000
  | _ => True
theorem ofHand_wf {fx : HFix} {st : HS} {N : Nat} (W : HWf fx st N) {n : Str} {h : Hand} (hv : valA st.hands n = some h) (c : Chg) (hc : ChgOk c) : HWf fx (ofHandF fx st h c) (N + 1) := by
  have hm := valA_mem hv
  have hk := W.ok _ hm
  have W1 := W.more (Nat.le_succ N)
  cases c with
  | sick _ => exact ⟨W.nm, W1.sz1, Nat.le_trans (putA_len _ _ _) (Nat.succ_le_succ W.sz2), W1.sz3, W1.sz4, W.ok, W.mn, W.uw, W.nd⟩
  | well _ => exact ⟨W.nm, W1.sz1, Nat.le_trans (dropA_len _ _) W1.sz2, W1.sz3, W1.sz4, W.ok, W.mn, W.uw, W.nd⟩
  | leave _ => exact ⟨fun p hp => W.nm p (dropA_mem hp), Nat.le_trans (dropA_len _ _) W1.sz1, Nat.le_trans (dropA_len _ _) W1.sz2, W1.sz3, W1.sz4, fun p hp => W.ok p (dropA_mem hp), W.mn, W.uw, dropA_keys W.nd⟩
  | rank _ r => exact W.put rfl ⟨hk.sk, hc, hk.nm⟩
  | section_ _ s =>
    simp only [ofHandF]
    split
    · exact W.put rfl ⟨hk.sk, hk.rk, hk.nm⟩
    · exact W1
  | learn _ k =>
    simp only [ofHandF]
    split
    · rename_i e
      exact W.put rfl ⟨by rw [srt_len, List.length_append]; simp; omega, hk.rk, hk.nm⟩
    · exact W1
  | call _ => exact W1
  | done _ => exact W1
  | many _ _ => exact W1
  | join _ => exact W1
theorem onHand_wf {fx : HFix} {st : HS} {N : Nat} (W : HWf fx st N) (c : Chg) (hc : ChgOk c) : HWf fx (onHand fx st c) (N + 1) := by
  unfold onHand
  cases e : valA st.hands (chgName c) with
  | none => exact W.more (Nat.le_succ N)
  | some h => exact ofHand_wf W e c hc
theorem putIn_wf {fx : HFix} {st : HS} {N : Nat} (W : HWf fx st N) (c : Chg) (hc : ChgOk c) : HWf fx (putInF fx st c) (N + 1) := by
  have W1 := W.more (Nat.le_succ N)
  cases c with
  | join h =>
    show HWf fx (takeInF fx st h) (N + 1)
    unfold takeInF
    split
    · exact W.put rfl hc
    · exact W1
  | many n m =>
    simp only [putInF]
    split
    · exact ⟨W.nm, W1.sz1, W1.sz2, Nat.le_trans (putA_len _ _ _) (Nat.succ_le_succ W.sz3), W1.sz4, W.ok, fun p hp => by
        rcases putA_mem hp with z | z
        · exact W.mn p z
        · rw [z]; exact hc, W.uw, W.nd⟩
    · exact W1
  | call w =>
    simp only [putInF]
    split
    · rename_i e
      exact ⟨W.nm, W1.sz1, W1.sz2, W1.sz3, by rw [List.length_append]; exact Nat.succ_le_succ W.sz4, W.ok, W.mn, fun x hx => by
        rcases List.mem_append.mp hx with z | z
        · exact W.uw x z
        · have : x = w := by simpa using z
          rw [this]; exact e.1, W.nd⟩
    · exact W1
  | done w =>
    simp only [putInF]
    split
    · exact ⟨W.nm, W1.sz1, W1.sz2, W1.sz3, Nat.le_trans List.length_erase_le W1.sz4, W.ok, W.mn, fun x hx => W.uw x (List.mem_of_mem_erase hx), W.nd⟩
    · exact W1
  | sick n => exact onHand_wf W (.sick n) hc
  | well n => exact onHand_wf W (.well n) hc
  | leave n => exact onHand_wf W (.leave n) hc
  | rank n r => exact onHand_wf W (.rank n r) hc
  | section_ n s => exact onHand_wf W (.section_ n s) hc
  | learn n k => exact onHand_wf W (.learn n k) hc
theorem dropA_none {α : Type} {l : List (Str × α)} {n : Str} (h : valA l n = none) : dropA l n = l := List.filter_eq_self.mpr fun p hp => decide_eq_true (valA_none h p hp)
/-- what is told of a state -/
structure Told where
  roll : List Hand
  sick : List Str
  wants : List (Str × Int)
  calls : List Str
def getH (l : List (Str × Hand)) (n : Str) : Hand := (valA l n).getD ⟨n, 0, [], 0⟩
def getI (l : List (Str × Int)) (n : Str) : Int := (valA l n).getD 0
def toldF (st : HS) : Told := ⟨(srt (keysA st.hands)).map (getH st.hands), srt (keysA st.ill), (srt (keysA st.wanted)).map fun n => (n, getI st.wanted n), st.up⟩
/-! ### the heap -/
/-- all but the things of l stay -/
def ButL (l : List Addr) (H H' : Hp) : Prop := ∀ b o, b ∉ l → H b = some o → H' b = some o
theorem ButL.refl (l : List Addr) (H : Hp) : ButL l H H := fun _ _ _ h => h
theorem ButL.trans {l : List Addr} {H H1 H2 : Hp} (h : ButL l H H1) (k : ButL l H1 H2) : ButL l H H2 := fun b o hb e => k b o hb (h b o hb e)
theorem ButL.same {l : List Addr} {H H1 : Hp} (h : Same H H1) : ButL l H H1 := fun b o _ e => h b o e
theorem ButL.upd {l : List Addr} {H H1 : Hp} {p : Addr} {o : HO} (h : ButL l H H1) (hp : p ∈ l) : ButL l H (upd H1 p o) := fun b u hb e => by
  have hn : b ≠ p := fun z => hb (by rw [z]; exact hp)
  rw [upd_ne hn]; exact h b u hb e
theorem ButL.more {l l' : List Addr} {H H1 : Hp} (h : ButL l H H1) (k : ∀ b, b ∈ l → b ∈ l') : ButL l' H H1 := fun b o hb e => h b o (fun z => hb (k b z)) e
theorem ButL.tups {l : List Addr} {H H1 : Hp} (h : ButL l H H1) (k : ∀ b, b ∈ l → ∀ xs, ¬ Rd H b (.tup xs)) : Tups H H1 := fun a xs e => by
  have hn : a ∉ l := fun z => k a z xs e
  rcases e with e | ⟨o, e⟩
  · exact .inl (h _ _ hn e)
  · exact .inr ⟨o, h _ _ hn e⟩
structure HA where
  dx : Addr
  dh : Addr
  lb : Addr
  lw : Addr
  di : Addr
  dw : Addr
  lu : Addr
def HA.cells (a : HA) : List Addr := [a.dh, a.di, a.dw, a.lu]
def hfs (a : HA) (n : Int) : List (Str × V) := [("sections", .int n), ("hands_by", .ref a.dh), ("billed", .ref a.lb), ("words_kept", .ref a.lw), ("ill", .ref a.di), ("wanted", .ref a.dw), ("words_up", .ref a.lu)]
theorem hf_1 (a : HA) (n : Int) : (hfs a n).lookup ("sections" : Str) = some (.int n) := lk_hit (by decide +kernel)
theorem hf_2 (a : HA) (n : Int) : (hfs a n).lookup ("hands_by" : Str) = some (.ref a.dh) := (lk_miss (by decide +kernel)).trans (lk_hit (by decide +kernel))
theorem hf_3 (a : HA) (n : Int) : (hfs a n).lookup ("billed" : Str) = some (.ref a.lb) := (lk_miss (by decide +kernel)).trans ((lk_miss (by decide +kernel)).trans (lk_hit (by decide +kernel)))
theorem hf_4 (a : HA) (n : Int) : (hfs a n).lookup ("words_kept" : Str) = some (.ref a.lw) := (lk_miss (by decide +kernel)).trans ((lk_miss (by decide +kernel)).trans ((lk_miss (by decide +kernel)).trans (lk_hit (by decide +kernel))))
theorem hf_5 (a : HA) (n : Int) : (hfs a n).lookup ("ill" : Str) = some (.ref a.di) := (lk_miss (by decide +kernel)).trans ((lk_miss (by decide +kernel)).trans ((lk_miss (by decide +kernel)).trans ((lk_miss (by decide +kernel)).trans (lk_hit (by decide +kernel)))))
theorem hf_6 (a : HA) (n : Int) : (hfs a n).lookup ("wanted" : Str) = some (.ref a.dw) := (lk_miss (by decide +kernel)).trans ((lk_miss (by decide +kernel)).trans ((lk_miss (by decide +kernel)).trans ((lk_miss (by decide +kernel)).trans ((lk_miss (by decide +kernel)).trans (lk_hit (by decide +kernel))))))
theorem hf_7 (a : HA) (n : Int) : (hfs a n).lookup ("words_up" : Str) = some (.ref a.lu) := (lk_miss (by decide +kernel)).trans ((lk_miss (by decide +kernel)).trans ((lk_miss (by decide +kernel)).trans ((lk_miss (by decide +kernel)).trans ((lk_miss (by decide +kernel)).trans ((lk_miss (by decide +kernel)).trans (lk_hit (by decide +kernel)))))))
theorem hf_no (a : HA) (n : Int) {m : Str} (h : (((["sections", "hands_by", "billed", "words_kept", "ill", "wanted", "words_up"] : List Str).any fun f => m == f)) = false) : (hfs a n).lookup m = none := by
  simp only [List.any_cons, List.any_nil, Bool.or_eq_false_iff, Bool.or_false] at h
  obtain ⟨h1, h2, h3, h4, h5, h6, h7⟩ := h
  exact (lk_miss h1).trans ((lk_miss h2).trans ((lk_miss h3).trans ((lk_miss h4).trans ((lk_miss h5).trans ((lk_miss h6).trans (lk_miss h7))))))
structure HObj (K : PySem.W.Frag) (H : Hp) (CH m : Addr) (a : HA) (fx : HFix) (st : HS) : Prop where
  ob : H m = some (.ins CH a.dx (hfs a fx.secs))
  lb : H a.lb = some (.lst (fx.billed.map V.str))
  lw : H a.lw = some (.lst (fx.words.map V.str))
  dh : ∃ kvs, H a.dh = some (.dK kvs) ∧ DR (fun v h => Dt K H v (encH h)) kvs st.hands
  di : ∃ kvs, H a.di = some (.dK kvs) ∧ DR (fun v _ => v = .bl true) kvs st.ill
  dw : ∃ kvs, H a.dw = some (.dK kvs) ∧ DR (fun v i => v = .int i) kvs st.wanted
  lu : H a.lu = some (.lst (st.up.map V.str))
  ap : a.dh ≠ a.di ∧ a.dh ≠ a.dw ∧ a.di ≠ a.dw ∧ a.lu ≠ a.lb ∧ a.lu ≠ a.lw
theorem kd_ne {H : Hp} {p q : Addr} {o o' : HO} (h : H p = some o) (k : H q = some o') (n : o ≠ o') : p ≠ q := fun e => by
  subst e
  rw [h] at k
  exact n (Option.some.inj k)
namespace HObj
variable {K : PySem.W.Frag} {H H' : Hp} {CH m : Addr} {a : HA} {fx : HFix} {st st' : HS}
theorem mono (M : HObj K H CH m a fx st) (s : Same H H') : HObj K H' CH m a fx st :=
  ⟨s _ _ M.ob, s _ _ M.lb, s _ _ M.lw, let ⟨k, e, d⟩ := M.dh; ⟨k, s _ _ e, d.mono fun v h x => x.mono s.tups⟩, let ⟨k, e, d⟩ := M.di; ⟨k, s _ _ e, d⟩, let ⟨k, e, d⟩ := M.dw; ⟨k, s _ _ e, d⟩, s _ _ M.lu, M.ap⟩
theorem cell {b : Addr} (M : HObj K H CH m a fx st) (hb : b ∈ a.cells) : (∃ kvs, H b = some (.dK kvs)) ∨ ∃ xs, H b = some (.lst xs) := by
  obtain ⟨k1, e1, _⟩ := M.dh
  obtain ⟨k2, e2, _⟩ := M.di
  obtain ⟨k3, e3, _⟩ := M.dw
  have hb : b = a.dh ∨ b = a.di ∨ b = a.dw ∨ b = a.lu := by simpa [HA.cells] using hb
  rcases hb with rfl | rfl | rfl | rfl
  · exact .inl ⟨_, e1⟩
  · exact .inl ⟨_, e2⟩
  · exact .inl ⟨_, e3⟩
  · exact .inr ⟨_, M.lu⟩
theorem notup {b : Addr} (M : HObj K H CH m a fx st) (hb : b ∈ a.cells) : ∀ xs, ¬ Rd H b (.tup xs) := by
  rcases M.cell hb with ⟨k, e⟩ | ⟨x, e⟩
  · exact not_tup_dK e
  · exact not_tup_lst e
theorem setH (M : HObj K H CH m a fx st) {kvs : List (Key × V)} {l : List (Str × Hand)} (d : DR (fun v h => Dt K H v (encH h)) kvs l) : HObj K (upd H a.dh (.dK kvs)) CH m a fx { st with hands := l } := by
  obtain ⟨k1, e1, d1⟩ := M.dh
  obtain ⟨k2, e2, d2⟩ := M.di
  obtain ⟨k3, e3, d3⟩ := M.dw
  have t : Tups H (upd H a.dh (.dK kvs)) := Tups.upd (not_tup_dK e1)
  exact ⟨by rw [upd_ne (kd_ne M.ob e1 fun z => nomatch z)]; exact M.ob, by rw [upd_ne (kd_ne M.lb e1 fun z => nomatch z)]; exact M.lb, by rw [upd_ne (kd_ne M.lw e1 fun z => nomatch z)]; exact M.lw, ⟨kvs, upd_same, d.mono fun v h x => x.mono t⟩,
    ⟨k2, by rw [upd_ne M.ap.1.symm]; exact e2, d2⟩, ⟨k3, by rw [upd_ne M.ap.2.1.symm]; exact e3, d3⟩, by rw [upd_ne (kd_ne M.lu e1 fun z => nomatch z)]; exact M.lu, M.ap⟩
theorem setI (M : HObj K H CH m a fx st) {kvs : List (Key × V)} {l : List (Str × Unit)} (d : DR (fun v _ => v = .bl true) kvs l) : HObj K (upd H a.di (.dK kvs)) CH m a fx { st with ill := l } := by
  obtain ⟨k1, e1, d1⟩ := M.dh
  obtain ⟨k2, e2, d2⟩ := M.di
  obtain ⟨k3, e3, d3⟩ := M.dw
  have t : Tups H (upd H a.di (.dK kvs)) := Tups.upd (not_tup_dK e2)
  exact ⟨by rw [upd_ne (kd_ne M.ob e2 fun z => nomatch z)]; exact M.ob, by rw [upd_ne (kd_ne M.lb e2 fun z => nomatch z)]; exact M.lb, by rw [upd_ne (kd_ne M.lw e2 fun z => nomatch z)]; exact M.lw, ⟨k1, by rw [upd_ne M.ap.1]; exact e1, d1.mono fun v h x => x.mono t⟩,
    ⟨kvs, upd_same, d⟩, ⟨k3, by rw [upd_ne M.ap.2.2.1.symm]; exact e3, d3⟩, by rw [upd_ne (kd_ne M.lu e2 fun z => nomatch z)]; exact M.lu, M.ap⟩
theorem setW (M : HObj K H CH m a fx st) {kvs : List (Key × V)} {l : List (Str × Int)} (d : DR (fun v i => v = .int i) kvs l) : HObj K (upd H a.dw (.dK kvs)) CH m a fx { st with wanted := l } := by
  obtain ⟨k1, e1, d1⟩ := M.dh
  obtain ⟨k2, e2, d2⟩ := M.di
  obtain ⟨k3, e3, d3⟩ := M.dw
  have t : Tups H (upd H a.dw (.dK kvs)) := Tups.upd (not_tup_dK e3)
  exact ⟨by rw [upd_ne (kd_ne M.ob e3 fun z => nomatch z)]; exact M.ob, by rw [upd_ne (kd_ne M.lb e3 fun z => nomatch z)]; exact M.lb, by rw [upd_ne (kd_ne M.lw e3 fun z => nomatch z)]; exact M.lw, ⟨k1, by rw [upd_ne M.ap.2.1]; exact e1, d1.mono fun v h x => x.mono t⟩,
    ⟨k2, by rw [upd_ne M.ap.2.2.1]; exact e2, d2⟩, ⟨kvs, upd_same, d⟩, by rw [upd_ne (kd_ne M.lu e3 fun z => nomatch z)]; exact M.lu, M.ap⟩
theorem setU (M : HObj K H CH m a fx st) {l : List Str} : HObj K (upd H a.lu (.lst (l.map V.str))) CH m a fx { st with up := l } := by
  obtain ⟨k1, e1, d1⟩ := M.dh
  obtain ⟨k2, e2, d2⟩ := M.di
  obtain ⟨k3, e3, d3⟩ := M.dw
  have t : Tups H (upd H a.lu (.lst (l.map V.str))) := Tups.upd (not_tup_lst M.lu)
  exact ⟨by rw [upd_ne (kd_ne M.ob M.lu fun z => nomatch z)]; exact M.ob, by rw [upd_ne M.ap.2.2.2.1.symm]; exact M.lb, by rw [upd_ne M.ap.2.2.2.2.symm]; exact M.lw, ⟨k1, by rw [upd_ne (kd_ne e1 M.lu fun z => nomatch z)]; exact e1, d1.mono fun v h x => x.mono t⟩,
    ⟨k2, by rw [upd_ne (kd_ne e2 M.lu fun z => nomatch z)]; exact e2, d2⟩, ⟨k3, by rw [upd_ne (kd_ne e3 M.lu fun z => nomatch z)]; exact e3, d3⟩, upd_same, M.ap⟩
end HObj
theorem m1 (a : HA) : a.dh ∈ a.cells := by simp [HA.cells]
theorem m2 (a : HA) : a.di ∈ a.cells := by simp [HA.cells]
theorem m3 (a : HA) : a.dw ∈ a.cells := by simp [HA.cells]
theorem m4 (a : HA) : a.lu ∈ a.cells := by simp [HA.cells]
theorem iteNe {a b : Str} {A B : Prop} (h : (a == b) = false) (k : B) : if decide (V.str a = V.str b) = true then A else B := by
  have : ¬ V.str a = V.str b := fun e => by
    injection e with e
    rw [e] at h
    simp at h
  rw [decide_eq_false this]
  exact iteF k
theorem iteEq {a : Str} {A B : Prop} (k : A) : if decide (V.str a = V.str a) = true then A else B := by
  rw [decide_eq_true rfl]
  exact iteT k
theorem in_strs {n : Str} : ∀ {F : List Str}, inV (.str n) (F.map V.str) = decide (n ∈ F)
  | [] => rfl
  | f :: F => by
    have ih := in_strs (n := n) (F := F)
    show (eqV (.str f) (.str n) || inV (.str n) (F.map V.str)) = _
    rw [ih]
    show ((f == n) || _) = _
    by_cases e : n = f
    · subst e; simp
    · have : (f == n) = false := by simp; exact fun z => e z.symm
      rw [this]
      simp [e]
def spTakeIn (K : PySem.W.Frag) (CH : Addr) : Sp := fun vs H Q _ => ∃ (m : Addr) (a : HA) (fx : HFix) (st : HS) (v : V) (h : Hand) (N : Nat), vs = [.ref m, v] ∧ HObj K H CH m a fx st ∧ HWf fx st N ∧ N ≤ 50000 ∧ Dt K H v (encH h) ∧
  ∀ H', ButL a.cells H H' → HObj K H' CH m a fx (takeInF fx st h) → Q .non H'
def spOfHand (K : PySem.W.Frag) (CH : Addr) : Sp := fun vs H Q _ => ∃ (m : Addr) (a : HA) (fx : HFix) (st : HS) (c v : V) (ch : Chg) (h : Hand) (N : Nat), vs = [.ref m, c, v] ∧ HObj K H CH m a fx st ∧ HWf fx st N ∧ N ≤ 50000 ∧ Dt K H c (encCg ch) ∧ Dt K H v (encH h) ∧ valA st.hands (chgName ch) = some h ∧
  (match ch with | .call _ => False | .done _ => False | .many _ _ => False | .join _ => False | _ => True) ∧ ∀ H', ButL a.cells H H' → HObj K H' CH m a fx (ofHandF fx st h ch) → Q .non H'
def spPutIn (K : PySem.W.Frag) (CH : Addr) : Sp := fun vs H Q _ => ∃ (m : Addr) (a : HA) (fx : HFix) (st : HS) (c : V) (ch : Chg) (N : Nat), vs = [.ref m, c] ∧ HObj K H CH m a fx st ∧ HWf fx st N ∧ N ≤ 50000 ∧ Dt K H c (encCg ch) ∧
  ∀ H', ButL a.cells H H' → HObj K H' CH m a fx (putInF fx st ch) → Q .non H'
theorem cg2 {K : PySem.W.Frag} {H : Hp} {v : V} {w : Str} {d : PyData} (h : Dt K H v (.tuple [.str w, d])) : ∃ a x, v = .ref a ∧ SqT K H a [.str w, x] ∧ Dt K H x d := by
  obtain ⟨a, xs, rfl, h1, h2⟩ := h.tup_inv
  cases h2 with
  | cons d1 h2 =>
    cases h2 with
    | cons d2 h2 =>
      cases h2
      cases d1
      exact ⟨a, _, rfl, h1, d2⟩
theorem cg3 {K : PySem.W.Frag} {H : Hp} {v : V} {w : Str} {d e : PyData} (h : Dt K H v (.tuple [.str w, d, e])) : ∃ a x y, v = .ref a ∧ SqT K H a [.str w, x, y] ∧ Dt K H x d ∧ Dt K H y e := by
  obtain ⟨a, xs, rfl, h1, h2⟩ := h.tup_inv
  cases h2 with
  | cons d1 h2 =>
    cases h2 with
    | cons d2 h2 =>
      cases h2 with
      | cons d3 h2 =>
        cases h2
        cases d1
        exact ⟨a, _, _, rfl, h1, d2, d3⟩
section
variable {P : Program} {w : World} {K : PySem.W.Frag} {mg : Str → Option Value} {base : Heap} {CM CH CV aL : Addr}
theorem sc_Holding_take_in : FnScope ["self", "hand"] ["self", "hand"] (defScope s_Holding_take_in) := ⟨rfl, rfl, rfl, by decide +kernel, rfl, by decide +kernel, by decide +kernel⟩
theorem m_Holding_take_in (T : Txt K mg CM CH CV aL) : Met P w K mg base 1 CH "take_in" (spTakeIn K CH) := by
  refine met_of T.cls_Holding T.md_Holding_take_in (fun _ _ _ _ _ _ us hl => match us, hl with | [_, _], _ => rfl) sc_Holding_take_in (fun vs H Q E h => ?_) (fun f cdv A outer s H vs Q E hr h => ?_)
  · obtain ⟨_, _, _, _, _, _, _, rfl, _⟩ := h; rfl
  · obtain ⟨m, a, fx, st, v, h, N, rfl, M, W, hN, dh, k⟩ := h
    obtain ⟨b, s, rfl, h1, h2⟩ := hand_inv dh
    obtain ⟨kvs, e1, d1⟩ := M.dh
    have hlen := d1.length
    have sz := W.sz1
    refine ⟨_, (pss_one (ps_if (PW.pt (pw_and (pt_cmp (pc_dnotin (hu_of hr) (pe_ix (ix_tupK K) (pv 1) pe_int (fun _ _ => rfl)) (pe_fldK K (pv 0) rfl)) rfl) (pw_and (pt_cmpR op_lt (pe_callB call_lenD (by rfl) T.b_len PySem.boot_len (pa_cons (pe_fldK K (pv 0) rfl) pa_nil)) (pe_gc rfl T.g_MOST_HANDS) (nomark _)) (pw_and1 (pt_cmpR op_lt (pe_ix (ix_tupK K) (pv 1) pe_int (fun _ _ => rfl)) (pe_fldK K (pv 0) rfl) (nomark _)))))) (pss_one (ps_dput (hu_of hr) (pe_fldK K (pv 0) rfl) (pe_ix (ix_tupK K) (pv 1) pe_int (fun _ _ => rfl)) (pv 1) rfl)) pss_nil)), ?_⟩
    refine ⟨_, rfl, b, _, _, .str h.nm, rfl, rfl, h1, rfl, _, rfl, m, CH, a.dx, _, _, rfl, M.ob, T.cls_Holding, T.na_Holding_hands_by, hf_2 _ _, a.dh, _, rfl, DGet.k (k := .inr h.nm) e1, _, rfl, ?_⟩
    have no : ¬ (valA st.hands h.nm = none ∧ st.hands.length < 12 ∧ h.sec < fx.secs) → Q .non H := fun n => k H (ButL.refl _ _) (by unfold takeInF; rw [if_neg n]; exact M)
    rcases d1.val (n := h.nm) with ⟨v1, v2⟩ | ⟨x, y, v1, v2, _⟩
    · rw [v2]
      refine iteT ?_
      refine ⟨_, rfl, m, CH, a.dx, _, _, rfl, M.ob, T.cls_Holding, T.na_Holding_hands_by, hf_2 _ _, a.dh, kvs, rfl, e1, _, _, rfl, rfl, _, rfl, ?_⟩
      refine ite2 (fun c => ?_) (fun c => ?_)
      · have c : ((kvs.length : Nat) : Int) < 12 := of_decide_eq_true c
        refine ⟨_, rfl, b, _, _, .int h.sec, rfl, rfl, h1, rfl, _, rfl, m, CH, a.dx, _, _, rfl, M.ob, T.cls_Holding, T.na_Holding_sections, hf_1 _ _, _, _, rfl, rfl, _, rfl, ?_⟩
        refine ite2 (fun c2 => ?_) (fun c2 => ?_)
        · have c2 : h.sec < fx.secs := of_decide_eq_true c2
          refine ⟨_, rfl, _, rfl, m, CH, a.dx, _, _, rfl, M.ob, T.cls_Holding, T.na_Holding_hands_by, hf_2 _ _, _, rfl, b, _, _, .str h.nm, rfl, rfl, h1, rfl, a.dh, _, rfl, DPut.k (k := .inr h.nm) e1 (sz100' (by omega)), ?_⟩
          refine k _ ((ButL.refl _ _).upd (m1 a)) ?_
          unfold takeInF
          rw [if_pos ⟨v1, by omega, c2⟩]
          exact M.setH (d1.put dh)
        · exact no fun z => c2 (decide_eq_true z.2.2)
      · exact no fun z => c (decide_eq_true (by omega))
    · rw [v2]
      refine iteF (iteF ?_)
      exact no fun z => by rw [v1] at z; exact nomatch z.1
theorem sc_Holding_of_hand : FnScope ["self", "change", "hand", "name", "rank", "skills", "section", "word"] ["self", "change", "hand"] (defScope s_Holding_of_hand) := ⟨rfl, rfl, rfl, by decide +kernel, rfl, by decide +kernel, by decide +kernel⟩
theorem m_Holding_of_hand (T : Txt K mg CM CH CV aL) : Met P w K mg base 1 CH "of_hand" (spOfHand K CH) := by
  refine met_of T.cls_Holding T.md_Holding_of_hand (fun _ _ _ _ _ _ us hl => match us, hl with | [_, _, _], _ => rfl) sc_Holding_of_hand (fun vs H Q E h => ?_) (fun f cdv A outer s H vs Q E hr h => ?_)
  · obtain ⟨_, _, _, _, _, _, _, _, _, rfl, _⟩ := h; rfl
  · obtain ⟨m, a, fx, st, c, v, ch, h, N, rfl, M, W, hN, dc, dh, hv, hch, k⟩ := h
    obtain ⟨b, s, rfl, h1, h2⟩ := hand_inv dh
    obtain ⟨kvs, e1, d1⟩ := M.dh
    obtain ⟨kv2, e2, d2⟩ := M.di
    have hlen := d1.length
    have hlen2 := d2.length
    have sz := W.sz1
    have sz2 := W.sz2
    have hnm : h.nm = chgName ch := W.nm _ (valA_mem hv)
    have hskl := W.szk _ (valA_mem hv)
    have fH : NoAttr K CH "hands_by" := T.na_Holding_hands_by
    refine ⟨_, (pss_cons (ps_asg (pv 2) (pg_tupK K 4 rfl (pgs_cons (pg_name (i := 3) sc_Holding_of_hand.nd rfl (Or.inl rfl)) (pgs_cons (pg_name (i := 4) sc_Holding_of_hand.nd rfl (Or.inl rfl)) (pgs_cons (pg_name (i := 5) sc_Holding_of_hand.nd rfl (Or.inl rfl)) (pgs_cons (pg_name (i := 6) sc_Holding_of_hand.nd rfl (Or.inl rfl)) pgs_nil))))))
    (pss_cons (ps_set (i := 7) sc_Holding_of_hand.nd rfl (Or.inl rfl) (pe_ix (ix_tupK K) (pv 1) pe_int (fun _ _ => rfl)))
    (pss_one (ps_if (pt_cmpR op_eq (pv 7) pe_str (nomark _)) (pss_one (ps_dput (hu_of hr) (pe_fldK K (pv 0) rfl) (pv 3) pe_bl rfl)) (pss_one (ps_if (pt_cmpR op_eq (pv 7) pe_str (nomark _)) (pss_one (ps_expr (pe_dpop2 (pe_fldK K (pv 0) rfl) (pv 3) pe_bl ⟨rfl, rfl, rfl, rfl⟩))) (pss_one (ps_if (pt_cmpR op_eq (pv 7) pe_str (nomark _)) (pss_cons (ps_expr (pe_dpop1 (pe_fldK K (pv 0) rfl) (pv 3) ⟨rfl, rfl, rfl, rfl⟩))
    (pss_one (ps_expr (pe_dpop2 (pe_fldK K (pv 0) rfl) (pv 3) pe_bl ⟨rfl, rfl, rfl, rfl⟩)))) (pss_one (ps_if (pt_cmpR op_eq (pv 7) pe_str (nomark _)) (pss_one (ps_dput (hu_of hr) (pe_fldK K (pv 0) rfl) (pv 3) (pe_tup (pa_cons (pv 3) (pa_cons (pe_ix (ix_tupK K) (pv 1) pe_int (fun _ _ => rfl)) (pa_cons (pv 5) (pa_cons (pv 6) pa_nil))))) rfl)) (pss_one (ps_if (pt_cmpR op_eq (pv 7) pe_str (nomark _)) (pss_one (ps_if (pt_cmpR op_lt (pe_ix (ix_tupK K) (pv 1) pe_int (fun _ _ => rfl)) (pe_fldK K (pv 0) rfl) (nomark _)) (pss_one (ps_dput (hu_of hr) (pe_fldK K (pv 0) rfl) (pv 3) (pe_tup (pa_cons (pv 3) (pa_cons (pv 4) (pa_cons (pv 5) (pa_cons (pe_ix (ix_tupK K) (pv 1) pe_int (fun _ _ => rfl)) pa_nil))))) rfl)) pss_nil)) (pss_one (ps_if (PW.pt (pw_and (pt_cmpR op_lt (pe_callB (call_len_seqK K) (by rfl) T.b_len PySem.boot_len (pa_cons (pv 5) pa_nil)) (pe_gc rfl T.g_MOST_SKILLS) (nomark _)) (pw_and1 (pt_cmpR (op_notIn_seqK K) (pe_ix (ix_tupK K) (pv 1) pe_int (fun _ _ => rfl)) (pv 5) rfl)))) (pss_one (ps_dput (hu_of hr) (pe_fldK K (pv 0) rfl) (pv 3) (pe_tup (pa_cons (pv 3) (pa_cons (pv 4) (pa_cons (pe_callTy (call_tuple_ofK K) (by rfl) T.b_tuple (by decide +kernel) (pa_cons (pe_callB (cr_sortedSTK K) (by rfl) T.b_sorted (by decide +kernel) (pa_cons (pe_op (op_catAK K) (pv 5) (pe_tup (pa_cons (pe_ix (ix_tupK K) (pv 1) pe_int (fun _ _ => rfl)) pa_nil))) pa_nil)) pa_nil)) (pa_cons (pv 6) pa_nil))))) rfl)) pss_nil)))))))))))))), ?_⟩
    refine ⟨_, rfl, b, _, rfl, h1, rfl, _, _, rfl, _, _, rfl, _, _, rfl, _, _, rfl, rfl, ?_⟩
    have vH : ∃ y, valV kvs (.inr h.nm) = some y ∧ Dt K H y (encH h) := by
      rcases d1.val (n := h.nm) with ⟨v1, _⟩ | ⟨x, y, v1, v2, r⟩
      · rw [hnm, hv] at v1; cases v1
      · rw [hnm, hv] at v1
        cases v1
        exact ⟨y, v2, r⟩
    obtain ⟨yH, vH, _⟩ := vH
    cases ch with
    | call _ => exact hch.elim
    | done _ => exact hch.elim
    | many _ _ => exact hch.elim
    | join _ => exact hch.elim
    | sick n =>
      obtain ⟨ca, cx, rfl, c1, c2⟩ := cg2 dc
      refine ⟨_, rfl, ca, _, _, .str "sick", rfl, rfl, c1, rfl, ?_⟩
      refine ⟨_, rfl, rfl, _, rfl, iteEq ?_⟩
      refine ⟨_, rfl, m, CH, a.dx, _, _, rfl, M.ob, T.cls_Holding, T.na_Holding_ill, hf_5 _ _, _, rfl, a.di, _, rfl, DPut.k (k := .inr h.nm) e2 (sz100' (by omega)), ?_⟩
      exact k _ ((ButL.refl _ _).upd (m2 a)) (M.setI (d2.put rfl))
    | well n =>
      obtain ⟨ca, cx, rfl, c1, c2⟩ := cg2 dc
      refine ⟨_, rfl, ca, _, _, .str "well", rfl, rfl, c1, rfl, ?_⟩
      refine ⟨_, rfl, rfl, _, rfl, iteNe (by decide +kernel) ⟨_, rfl, rfl, _, rfl, iteEq ?_⟩⟩
      refine ⟨_, rfl, m, CH, a.dx, _, _, rfl, M.ob, T.cls_Holding, T.na_Holding_ill, hf_5 _ _, a.di, rfl, .inl ⟨_, .inl e2⟩, _, rfl, kv2, .inr h.nm, e2, rfl, fun v hv2 => ?_, fun hv2 => ?_⟩
      · exact k _ ((ButL.refl _ _).upd (m2 a)) (M.setI d2.drop)
      · refine k _ (ButL.refl _ _) ?_
        rcases d2.val (n := h.nm) with ⟨v1, _⟩ | ⟨x, y, v1, v2, _⟩
        · simp only [ofHandF]
          rw [dropA_none v1]
          exact M
        · rw [hv2] at v2; cases v2
    | leave n =>
      obtain ⟨ca, cx, rfl, c1, c2⟩ := cg2 dc
      refine ⟨_, rfl, ca, _, _, .str "leave", rfl, rfl, c1, rfl, ?_⟩
      refine ⟨_, rfl, rfl, _, rfl, iteNe (by decide +kernel) ⟨_, rfl, rfl, _, rfl, iteNe (by decide +kernel) ⟨_, rfl, rfl, _, rfl, iteEq ?_⟩⟩⟩
      refine ⟨_, rfl, m, CH, a.dx, _, _, rfl, M.ob, T.cls_Holding, T.na_Holding_hands_by, hf_2 _ _, a.dh, rfl, .inl ⟨_, .inl e1⟩, _, rfl, kvs, .inr h.nm, yH, e1, rfl, vH, ?_⟩
      have M1 := M.setH (d1.drop (n := h.nm))
      have B1 : ButL a.cells H (upd H a.dh (.dK (dropK kvs (.inr h.nm)))) := (ButL.refl _ _).upd (m1 a)
      generalize upd H a.dh (.dK (dropK kvs (.inr h.nm))) = H1 at M1 B1 ⊢
      obtain ⟨kv3, e3, d3⟩ := M1.di
      refine ⟨_, rfl, m, CH, a.dx, _, _, rfl, M1.ob, T.cls_Holding, T.na_Holding_ill, hf_5 _ _, a.di, rfl, .inl ⟨_, .inl e3⟩, _, rfl, kv3, .inr h.nm, e3, rfl, fun v hv2 => ?_, fun hv2 => ?_⟩
      · exact k _ (B1.upd (m2 a)) (M1.setI d3.drop)
      · refine k _ B1 ?_
        rcases d3.val (n := h.nm) with ⟨v1, _⟩ | ⟨x, y, v1, v2, _⟩
        · simp only [ofHandF]
          rw [dropA_none v1]
          exact M1
        · rw [hv2] at v2; cases v2
    | rank n r =>
      obtain ⟨ca, cx, cy, rfl, c1, c2, c3⟩ := cg3 dc
      cases c3
      refine ⟨_, rfl, ca, _, _, .str "rank", rfl, rfl, c1, rfl, ?_⟩
      refine ⟨_, rfl, rfl, _, rfl, iteNe (by decide +kernel) ⟨_, rfl, rfl, _, rfl, iteNe (by decide +kernel) ⟨_, rfl, rfl, _, rfl, iteNe (by decide +kernel) ⟨_, rfl, rfl, _, rfl, iteEq ?_⟩⟩⟩⟩
      refine ⟨_, rfl, _, rfl, ca, _, _, .int r, rfl, rfl, c1, rfl, _, rfl, _, rfl, by show 4 ≤ sizeLine; decide, fun p hp => newG hp fun H1 S1 q1 => ?_⟩
      have M1 := M.mono S1
      obtain ⟨kv3, f1, g1⟩ := M1.dh
      have hl3 := g1.length
      refine ⟨_, rfl, m, CH, a.dx, _, _, rfl, M1.ob, T.cls_Holding, T.na_Holding_hands_by, hf_2 _ _, _, rfl, a.dh, _, rfl, DPut.k (k := .inr h.nm) f1 (sz100' (by omega)), ?_⟩
      refine k _ ((ButL.same S1).upd (m1 a)) (M1.setH (g1.put (n := h.nm) (.tup (sqt_of q1) (.cons (.str _) (.cons (.int _) (.cons (.tup (S1.tup h2) DtAll.strs) (.cons (.int _) .nil)))))))
    | section_ n sc =>
      obtain ⟨ca, cx, cy, rfl, c1, c2, c3⟩ := cg3 dc
      cases c3
      refine ⟨_, rfl, ca, _, _, .str "section", rfl, rfl, c1, rfl, ?_⟩
      refine ⟨_, rfl, rfl, _, rfl, iteNe (by decide +kernel) ⟨_, rfl, rfl, _, rfl, iteNe (by decide +kernel) ⟨_, rfl, rfl, _, rfl, iteNe (by decide +kernel) ⟨_, rfl, rfl, _, rfl, iteNe (by decide +kernel) ⟨_, rfl, rfl, _, rfl, iteEq ?_⟩⟩⟩⟩⟩
      refine ⟨_, rfl, ca, _, _, .int sc, rfl, rfl, c1, rfl, _, rfl, m, CH, a.dx, _, _, rfl, M.ob, T.cls_Holding, T.na_Holding_sections, hf_1 _ _, _, _, rfl, rfl, _, rfl, ?_⟩
      refine ite2 (fun q => ?_) (fun q => ?_)
      · have q : sc < fx.secs := of_decide_eq_true q
        refine ⟨_, rfl, _, rfl, _, rfl, _, rfl, ca, _, _, .int sc, rfl, rfl, c1, rfl, by show 4 ≤ sizeLine; decide, fun p hp => newG hp fun H1 S1 q1 => ?_⟩
        have M1 := M.mono S1
        obtain ⟨kv3, f1, g1⟩ := M1.dh
        have hl3 := g1.length
        refine ⟨_, rfl, m, CH, a.dx, _, _, rfl, M1.ob, T.cls_Holding, T.na_Holding_hands_by, hf_2 _ _, _, rfl, a.dh, _, rfl, DPut.k (k := .inr h.nm) f1 (sz100' (by omega)), ?_⟩
        refine k _ ((ButL.same S1).upd (m1 a)) ?_
        simp only [ofHandF]
        rw [if_pos q]
        exact M1.setH (g1.put (n := h.nm) (.tup (sqt_of q1) (.cons (.str _) (.cons (.int _) (.cons (.tup (S1.tup h2) DtAll.strs) (.cons (.int _) .nil))))))
      · have q : ¬ sc < fx.secs := fun z => q (decide_eq_true z)
        refine k _ (ButL.refl _ _) ?_
        simp only [ofHandF]
        rw [if_neg q]
        exact M
    | learn n kk =>
      obtain ⟨ca, cx, cy, rfl, c1, c2, c3⟩ := cg3 dc
      cases c3
      refine ⟨_, rfl, ca, _, _, .str "learn", rfl, rfl, c1, rfl, ?_⟩
      refine ⟨_, rfl, rfl, _, rfl, iteNe (by decide +kernel) ⟨_, rfl, rfl, _, rfl, iteNe (by decide +kernel) ⟨_, rfl, rfl, _, rfl, iteNe (by decide +kernel) ⟨_, rfl, rfl, _, rfl, iteNe (by decide +kernel) ⟨_, rfl, rfl, _, rfl, iteNe (by decide +kernel) ?_⟩⟩⟩⟩⟩
      have no : ¬ (h.sk.length < 4 ∧ kk ∉ h.sk) → Q .non H := fun q => k H (ButL.refl _ _) (by simp only [ofHandF]; rw [if_neg q]; exact M)
      refine ⟨_, rfl, s, _, rfl, .inr h2, _, _, rfl, rfl, _, rfl, ?_⟩
      rw [List.length_map]
      refine ite2 (fun q => ?_) (fun q => ?_)
      · have q : ((h.sk.length : Nat) : Int) < 4 := of_decide_eq_true q
        refine ⟨_, rfl, ca, _, _, .str kk, rfl, rfl, c1, rfl, _, rfl, s, _, rfl, .inr h2, rfl, flat_strs _, _, rfl, ?_⟩
        rw [if_pos rfl, in_strs]
        by_cases hm : kk ∈ h.sk
        · rw [decide_eq_true hm]
          exact iteF (no fun z => z.2 hm)
        · rw [decide_eq_false hm]
          refine iteT ?_
          have hc : h.sk.length < 4 ∧ kk ∉ h.sk := ⟨by omega, hm⟩
          refine ⟨_, rfl, _, rfl, _, rfl, _, rfl, ca, _, _, .str kk, rfl, rfl, c1, rfl, by show 1 ≤ sizeLine; decide, fun p1 hp1 => newG hp1 fun H1 S1 q1 => ?_⟩
          refine ⟨s, p1, _, [.str kk], rfl, rfl, S1.tup h2, sqt_of q1, sz100 (by rw [List.length_map]; simp; omega), fun hx => ?_, fun _ hy => absurd hy (by simp), fun hx hy p2 hp2 => newG hp2 fun H2 S2 q2 => ?_⟩
          · refine ⟨p1, h.sk ++ [kk], rfl, (by rw [List.map_append, hx]; exact sqt_of q1), by rw [List.length_append]; simp; omega, fun ys p4 hy1 hy2 hp4 => newG hp4 fun H4 S4 q4 => ?_⟩
            refine ⟨p4, _, rfl, .inl ⟨sql_of q4, fun p5 hp5 => newG hp5 fun H5 S5 q5 => ?_⟩⟩
            refine ⟨_, rfl, by show 4 ≤ sizeLine; decide, fun p6 hp6 => newG hp6 fun H6 S6 q6 => ?_⟩
            have S46 := (S4.trans S5).trans S6
            have S16 : Same H H6 := S1.trans S46
            have M1 := M.mono S16
            obtain ⟨kv3, f1, g1⟩ := M1.dh
            have hl3 := g1.length
            have hys := srt_is hy1 hy2
            subst hys
            refine ⟨_, rfl, m, CH, a.dx, _, _, rfl, M1.ob, T.cls_Holding, T.na_Holding_hands_by, hf_2 _ _, _, rfl, a.dh, _, rfl, DPut.k (k := .inr h.nm) f1 (sz100' (by omega)), ?_⟩
            refine k _ ((ButL.same S16).upd (m1 a)) ?_
            simp only [ofHandF]
            rw [if_pos hc]
            exact M1.setH (g1.put (n := h.nm) (.tup (sqt_of q6) (.cons (.str _) (.cons (.int _) (.cons (.tup (sqt_of (S6 _ _ q5)) DtAll.strs) (.cons (.int _) .nil))))))
          · refine ⟨p2, h.sk ++ [kk], rfl, (by rw [List.map_append]; exact sqt_of q2), by rw [List.length_append]; simp; omega, fun ys p4 hy1 hy2 hp4 => newG hp4 fun H4 S4 q4 => ?_⟩
            refine ⟨p4, _, rfl, .inl ⟨sql_of q4, fun p5 hp5 => newG hp5 fun H5 S5 q5 => ?_⟩⟩
            refine ⟨_, rfl, by show 4 ≤ sizeLine; decide, fun p6 hp6 => newG hp6 fun H6 S6 q6 => ?_⟩
            have S46 := (S4.trans S5).trans S6
            have S16 : Same H H6 := (S1.trans S2).trans S46
            have M1 := M.mono S16
            obtain ⟨kv3, f1, g1⟩ := M1.dh
            have hl3 := g1.length
            have hys := srt_is hy1 hy2
            subst hys
            refine ⟨_, rfl, m, CH, a.dx, _, _, rfl, M1.ob, T.cls_Holding, T.na_Holding_hands_by, hf_2 _ _, _, rfl, a.dh, _, rfl, DPut.k (k := .inr h.nm) f1 (sz100' (by omega)), ?_⟩
            refine k _ ((ButL.same S16).upd (m1 a)) ?_
            simp only [ofHandF]
            rw [if_pos hc]
            exact M1.setH (g1.put (n := h.nm) (.tup (sqt_of q6) (.cons (.str _) (.cons (.int _) (.cons (.tup (sqt_of (S6 _ _ q5)) DtAll.strs) (.cons (.int _) .nil))))))
      · exact no fun z => q (decide_eq_true (by omega))
end
end WS
/-! What holds: changes put in; what is told; muster. -/
namespace WS
open PySem PySem.Spec PyProof.Rows L2 WM
open C8 (pe_gc pe_c pe_mk pe_mt pe_mt0)
open LamX (TabS Tabs ExtN TabB)
structure ToldAt (K : PySem.W.Frag) (H : Hp) (v : V) (t : Told) : Prop where
  ex : ∃ q r1 r2 r3 r4 ws, v = .ref q ∧ SqT K H q [.ref r1, .ref r2, .ref r3, .ref r4] ∧ Dt K H (.ref r1) (.tuple (t.roll.map encH)) ∧ Dt K H (.ref r2) (.tuple (t.sick.map .str)) ∧
    TupF H r3 (ws.map V.ref) ∧ Paired (fun p kv => SqT K H p [.str kv.1, .int kv.2]) ws t.wants ∧ Dt K H (.ref r4) (.tuple (t.calls.map .str))
theorem Paired.mono {α β : Type} {F G : α → β → Prop} {l : List α} {m : List β} (h : Paired F l m) (f : ∀ a b, F a b → G a b) : Paired G l m := by
  induction h with
  | nil => exact .nil
  | cons h _ ih => exact .cons (f _ _ h) ih
theorem idx_first {x : Str} : ∀ {l : List Str} {m : Nat}, m < l.idxOf x → l[m]? ≠ some x
  | [], m, h => by simp at h
  | y :: l, m, h => by
    by_cases e : y = x
    · subst e
      rw [List.idxOf_cons_self] at h
      omega
    · have e2 : (y :: l).idxOf x = l.idxOf x + 1 := by
        have hb : (y == x) = false := by simp; exact e
        rw [List.idxOf_cons, hb]
        rfl
      rw [e2] at h
      cases m with
      | zero => simp; exact e
      | succ m => simpa using idx_first (l := l) (m := m) (by omega)
theorem paired_len {α β : Type} {F : α → β → Prop} {l : List α} {m : List β} (h : Paired F l m) : l.length = m.length := by
  induction h with
  | nil => rfl
  | cons _ _ ih => rw [List.length_cons, List.length_cons, ih]
theorem ToldAt.keep {K : PySem.W.Frag} {H H' : Hp} {v : V} {t : Told} (h : ToldAt K H v t) (s : Tups H H') (f : ∀ a o u, H a = some (.frz o u) → H' a = some (.frz o u)) : ToldAt K H' v t := by
  obtain ⟨q, r1, r2, r3, r4, ws, rfl, a1, a2, a3, ⟨o, e, hd⟩, a5, a6⟩ := h.ex
  exact ⟨q, r1, r2, r3, r4, ws, rfl, s.sq a1, a2.mono s, a3.mono s, ⟨o, f _ _ _ e, hd⟩, a5.mono fun p kv x => s.sq x, a6.mono s⟩
theorem ToldAt.mono {K : PySem.W.Frag} {H H' : Hp} {v : V} {t : Told} (h : ToldAt K H v t) (s : Same H H') : ToldAt K H' v t := h.keep s.tups fun _ _ _ e => s _ _ e
def spMustered (K : PySem.W.Frag) (CH : Addr) : Sp := fun vs H Q _ => ∃ (m : Addr) (a : HA) (fx : HFix) (st : HS) (N : Nat), vs = [.ref m] ∧ HObj K H CH m a fx st ∧ HWf fx st N ∧ N < 64 ∧
  ∀ H' v, Same H H' → ToldAt K H' v (toldF st) → Q v H'
section
variable {P : Program} {w : World} {K : PySem.W.Frag} {mg : Str → Option Value} {base : Heap} {CM CH CV aL : Addr}
theorem sc_Holding_put_in : FnScope ["self", "change", "word"] ["self", "change"] (defScope s_Holding_put_in) := ⟨rfl, rfl, rfl, by decide +kernel, rfl, by decide +kernel, by decide +kernel⟩
theorem m_Holding_put_in (T : Txt K mg CM CH CV aL) : Met P w K mg base 2 CH "put_in" (spPutIn K CH) := by
  have m_Holding_of_hand := m_Holding_of_hand (P := P) (w := w) (base := base) T
  have m_Holding_take_in := m_Holding_take_in (P := P) (w := w) (base := base) T
  refine met_of T.cls_Holding T.md_Holding_put_in (fun _ _ _ _ _ _ us hl => match us, hl with | [_, _], _ => rfl) sc_Holding_put_in (fun vs H Q E h => ?_) (fun f cdv A outer s H vs Q E hr h => ?_)
  · obtain ⟨_, _, _, _, _, _, _, rfl, _⟩ := h; rfl
  · obtain ⟨m, a, fx, st, c, ch, N, rfl, M, W, hN, dc, k⟩ := h
    obtain ⟨kvs, e1, d1⟩ := M.dh
    obtain ⟨kv3, e3, d3⟩ := M.dw
    have hlen3 := d3.length
    have sz3 := W.sz3
    have sz4 := W.sz4
    have notake : (hfs a fx.secs).lookup ("take_in" : Str) = none := hf_no a _ (by decide +kernel)
    have noof : (hfs a fx.secs).lookup ("of_hand" : Str) = none := hf_no a _ (by decide +kernel)
    refine ⟨_, (pss_cons (ps_set (i := 2) sc_Holding_put_in.nd rfl (Or.inl rfl) (pe_ix (ix_tupK K) (pv 1) pe_int (fun _ _ => rfl)))
    (pss_one (ps_if (pt_cmpR op_eq (pv 2) pe_str (nomark _)) (pss_one (ps_expr (pe_mt m_Holding_take_in hr (by decide) (pv 0) (pa_cons (pe_ix (ix_tupK K) (pv 1) pe_int (fun _ _ => rfl)) pa_nil)))) (pss_one (ps_if (pt_cmpR op_eq (pv 2) pe_str (nomark _)) (pss_one (ps_if (pt_cmpR (op_in_seqK K) (pe_ix (ix_tupK K) (pv 1) pe_int (fun _ _ => rfl)) (pe_fldK K (pv 0) rfl) rfl) (pss_one (ps_dput (hu_of hr) (pe_fldK K (pv 0) rfl) (pe_ix (ix_tupK K) (pv 1) pe_int (fun _ _ => rfl)) (pe_ix (ix_tupK K) (pv 1) pe_int (fun _ _ => rfl)) rfl)) pss_nil)) (pss_one (ps_if (pt_cmpR op_eq (pv 2) pe_str (nomark _)) (pss_one (ps_if (PW.pt (pw_and (pt_cmpR (op_in_seqK K) (pe_ix (ix_tupK K) (pv 1) pe_int (fun _ _ => rfl)) (pe_fldK K (pv 0) rfl) rfl) (pw_and1 (pt_cmpR (op_notIn_seqK K) (pe_ix (ix_tupK K) (pv 1) pe_int (fun _ _ => rfl)) (pe_fldK K (pv 0) rfl) rfl)))) (pss_one (ps_expr (pe_bmK K PySem.F.plainAttrs_list PySem.F.slot_list_append PySem.F.type_list_append mt_append (pe_fldK K (pv 0) rfl) (pa_cons (pe_ix (ix_tupK K) (pv 1) pe_int (fun _ _ => rfl)) pa_nil)))) pss_nil)) (pss_one (ps_if (pt_cmpR op_eq (pv 2) pe_str (nomark _)) (pss_one (ps_if (pt_cmpR (op_in_seqK K) (pe_ix (ix_tupK K) (pv 1) pe_int (fun _ _ => rfl)) (pe_fldK K (pv 0) rfl) rfl) (pss_one (ps_expr (pe_bmK K PySem.F.plainAttrs_list PySem.F.slot_list_remove PySem.F.type_list_remove mt_removeS (pe_fldK K (pv 0) rfl) (pa_cons (pe_ix (ix_tupK K) (pv 1) pe_int (fun _ _ => rfl)) pa_nil)))) pss_nil)) (pss_one (ps_if (pt_cmp (pc_din (hu_of hr) (pe_ix (ix_tupK K) (pv 1) pe_int (fun _ _ => rfl)) (pe_fldK K (pv 0) rfl)) rfl) (pss_one (ps_expr (pe_mt m_Holding_of_hand hr (by decide) (pv 0) (pa_cons (pv 1) (pa_cons (pe_dget (hu_of hr) (pe_fldK K (pv 0) rfl) (pe_ix (ix_tupK K) (pv 1) pe_int (fun _ _ => rfl)) (fun _ _ => rfl)) pa_nil))))) pss_nil))))))))))), ?_⟩
    cases ch with
    | join h =>
      obtain ⟨ca, cx, rfl, c1, c2⟩ := cg2 dc
      refine ⟨_, rfl, ca, _, _, .str "join", rfl, rfl, c1, rfl, ?_⟩
      refine ⟨_, rfl, rfl, _, rfl, iteEq ?_⟩
      refine ⟨_, rfl, m, a.dx, _, rfl, M.ob, notake, _, rfl, ca, _, _, cx, rfl, rfl, c1, rfl, m, a, fx, st, cx, h, N, rfl, M, W, hN, c2, fun H1 B1 M1 => k H1 B1 M1⟩
    | many n mm =>
      obtain ⟨ca, cx, cy, rfl, c1, c2, c3⟩ := cg3 dc
      cases c2
      cases c3
      refine ⟨_, rfl, ca, _, _, .str "many", rfl, rfl, c1, rfl, ?_⟩
      refine ⟨_, rfl, rfl, _, rfl, iteNe (by decide +kernel) ⟨_, rfl, rfl, _, rfl, iteEq ?_⟩⟩
      refine ⟨_, rfl, ca, _, _, .str n, rfl, rfl, c1, rfl, _, rfl, m, CH, a.dx, _, _, rfl, M.ob, T.cls_Holding, T.na_Holding_billed, hf_3 _ _, a.lb, _, rfl, .inl (sql_of M.lb), rfl, flat_strs _, _, rfl, ?_⟩
      rw [if_neg Bool.false_ne_true, in_strs]
      by_cases hm : n ∈ fx.billed
      · rw [decide_eq_true hm]
        refine iteT ?_
        refine ⟨_, rfl, ca, _, _, .int mm, rfl, rfl, c1, rfl, _, rfl, m, CH, a.dx, _, _, rfl, M.ob, T.cls_Holding, T.na_Holding_wanted, hf_6 _ _, _, rfl, ca, _, _, .str n, rfl, rfl, c1, rfl, a.dw, _, rfl, DPut.k (k := .inr n) e3 (sz100' (by omega)), ?_⟩
        refine k _ ((ButL.refl _ _).upd (m3 a)) ?_
        simp only [putInF]
        rw [if_pos hm]
        exact M.setW (d3.put rfl)
      · rw [decide_eq_false hm]
        refine iteF (k _ (ButL.refl _ _) ?_)
        simp only [putInF]
        rw [if_neg hm]
        exact M
    | call wd =>
      obtain ⟨ca, cx, rfl, c1, c2⟩ := cg2 dc
      cases c2
      refine ⟨_, rfl, ca, _, _, .str "call", rfl, rfl, c1, rfl, ?_⟩
      refine ⟨_, rfl, rfl, _, rfl, iteNe (by decide +kernel) ⟨_, rfl, rfl, _, rfl, iteNe (by decide +kernel) ⟨_, rfl, rfl, _, rfl, iteEq ?_⟩⟩⟩
      have no : ¬ (wd ∈ fx.words ∧ wd ∉ st.up) → Q .non H := fun q => k H (ButL.refl _ _) (by simp only [putInF]; rw [if_neg q]; exact M)
      refine ⟨_, rfl, ca, _, _, .str wd, rfl, rfl, c1, rfl, _, rfl, m, CH, a.dx, _, _, rfl, M.ob, T.cls_Holding, T.na_Holding_words_kept, hf_4 _ _, a.lw, _, rfl, .inl (sql_of M.lw), rfl, flat_strs _, _, rfl, ?_⟩
      rw [if_neg Bool.false_ne_true, in_strs]
      by_cases hm : wd ∈ fx.words
      · rw [decide_eq_true hm]
        refine iteT ?_
        refine ⟨_, rfl, ca, _, _, .str wd, rfl, rfl, c1, rfl, _, rfl, m, CH, a.dx, _, _, rfl, M.ob, T.cls_Holding, T.na_Holding_words_up, hf_7 _ _, a.lu, _, rfl, .inl (sql_of M.lu), rfl, flat_strs _, _, rfl, ?_⟩
        rw [if_pos rfl, in_strs]
        by_cases hu : wd ∈ st.up
        · rw [decide_eq_true hu]
          exact iteF (no fun z => z.2 hu)
        · rw [decide_eq_false hu]
          refine iteT ?_
          refine ⟨_, rfl, m, CH, a.dx, _, _, rfl, M.ob, T.cls_Holding, T.na_Holding_words_up, hf_7 _ _, .inl ⟨rfl, _, sql_of M.lu⟩, _, rfl, ca, _, _, .str wd, rfl, rfl, c1, rfl, a.lu, _, _, rfl, rfl, M.lu, sz100' (by rw [List.length_map]; omega), ?_⟩
          have e : st.up.map V.str ++ [V.str wd] = (st.up ++ [wd]).map V.str := by rw [List.map_append]; rfl
          rw [e]
          refine k _ ((ButL.refl _ _).upd (m4 a)) ?_
          simp only [putInF]
          rw [if_pos ⟨hm, hu⟩]
          exact M.setU
      · rw [decide_eq_false hm]
        exact iteF (iteF (no fun z => hm z.1))
    | done wd =>
      obtain ⟨ca, cx, rfl, c1, c2⟩ := cg2 dc
      cases c2
      refine ⟨_, rfl, ca, _, _, .str "done", rfl, rfl, c1, rfl, ?_⟩
      refine ⟨_, rfl, rfl, _, rfl, iteNe (by decide +kernel) ⟨_, rfl, rfl, _, rfl, iteNe (by decide +kernel) ⟨_, rfl, rfl, _, rfl, iteNe (by decide +kernel) ⟨_, rfl, rfl, _, rfl, iteEq ?_⟩⟩⟩⟩
      refine ⟨_, rfl, ca, _, _, .str wd, rfl, rfl, c1, rfl, _, rfl, m, CH, a.dx, _, _, rfl, M.ob, T.cls_Holding, T.na_Holding_words_up, hf_7 _ _, a.lu, _, rfl, .inl (sql_of M.lu), rfl, flat_strs _, _, rfl, ?_⟩
      rw [if_neg Bool.false_ne_true, in_strs]
      by_cases hu : wd ∈ st.up
      · rw [decide_eq_true hu]
        refine iteT ?_
        have hi : st.up.idxOf wd < st.up.length := List.idxOf_lt_length_of_mem hu
        have hg : st.up[st.up.idxOf wd]? = some wd := by rw [List.getElem?_eq_getElem hi, List.getElem_idxOf hi]
        refine ⟨_, rfl, m, CH, a.dx, _, _, rfl, M.ob, T.cls_Holding, T.na_Holding_words_up, hf_7 _ _, .inl ⟨rfl, _, sql_of M.lu⟩, _, rfl, ca, _, _, .str wd, rfl, rfl, c1, rfl, a.lu, st.up, wd, st.up.idxOf wd, rfl, rfl, M.lu, hg, fun mm hmm e => ?_, ?_⟩
        · have h1 := (List.getElem?_eq_some_iff.mp e)
          obtain ⟨h2, h3⟩ := h1
          exact idx_first hmm (by rw [List.getElem?_eq_getElem h2, h3])
        · have e : st.up.eraseIdx (st.up.idxOf wd) = st.up.erase wd := (List.erase_eq_eraseIdx_of_idxOf rfl).symm
          rw [e]
          refine k _ ((ButL.refl _ _).upd (m4 a)) ?_
          simp only [putInF]
          rw [if_pos hu]
          exact M.setU
      · rw [decide_eq_false hu]
        refine iteF (k _ (ButL.refl _ _) ?_)
        simp only [putInF]
        rw [if_neg hu]
        exact M
    | sick n =>
      have dc0 := dc
      obtain ⟨ca, cx, rfl, c1, c2⟩ := cg2 dc
      cases c2
      refine ⟨_, rfl, ca, _, _, .str "sick", rfl, rfl, c1, rfl, ?_⟩
      refine ⟨_, rfl, rfl, _, rfl, iteNe (by decide +kernel) ⟨_, rfl, rfl, _, rfl, iteNe (by decide +kernel) ⟨_, rfl, rfl, _, rfl, iteNe (by decide +kernel) ⟨_, rfl, rfl, _, rfl, iteNe (by decide +kernel) ?_⟩⟩⟩⟩
      refine ⟨_, rfl, ca, _, _, .str n, rfl, rfl, c1, rfl, _, rfl, m, CH, a.dx, _, _, rfl, M.ob, T.cls_Holding, T.na_Holding_hands_by, hf_2 _ _, a.dh, _, rfl, DGet.k (k := .inr n) e1, _, rfl, ?_⟩
      rcases d1.val (n := n) with ⟨v1, v2⟩ | ⟨x, y, v1, v2, dy⟩
      · rw [v2]
        refine iteF (k _ (ButL.refl _ _) ?_)
        have e : putInF fx st (.sick n) = st := by
          show onHand fx st (.sick n) = st
          unfold onHand
          rw [show valA st.hands (chgName (.sick n)) = none from v1]
        rw [e]
        exact M
      · rw [v2]
        refine iteT ?_
        refine ⟨_, rfl, m, a.dx, _, rfl, M.ob, noof, _, rfl, _, rfl, m, CH, a.dx, _, _, rfl, M.ob, T.cls_Holding, T.na_Holding_hands_by, hf_2 _ _, _, rfl, ca, _, _, .str n, rfl, rfl, c1, rfl, a.dh, y, rfl, by rw [← v2]; exact DGet.k (k := .inr n) e1, ?_⟩
        refine ⟨m, a, fx, st, .ref ca, y, (.sick n), x, N, rfl, M, W, hN, dc0, dy, v1, trivial, fun H1 B1 M1 => k H1 B1 ?_⟩
        have e : putInF fx st (.sick n) = ofHandF fx st x (.sick n) := by
          show onHand fx st (.sick n) = _
          unfold onHand
          rw [show valA st.hands (chgName (.sick n)) = some x from v1]
        rw [e]
        exact M1
    | well n =>
      have dc0 := dc
      obtain ⟨ca, cx, rfl, c1, c2⟩ := cg2 dc
      cases c2
      refine ⟨_, rfl, ca, _, _, .str "well", rfl, rfl, c1, rfl, ?_⟩
      refine ⟨_, rfl, rfl, _, rfl, iteNe (by decide +kernel) ⟨_, rfl, rfl, _, rfl, iteNe (by decide +kernel) ⟨_, rfl, rfl, _, rfl, iteNe (by decide +kernel) ⟨_, rfl, rfl, _, rfl, iteNe (by decide +kernel) ?_⟩⟩⟩⟩
      refine ⟨_, rfl, ca, _, _, .str n, rfl, rfl, c1, rfl, _, rfl, m, CH, a.dx, _, _, rfl, M.ob, T.cls_Holding, T.na_Holding_hands_by, hf_2 _ _, a.dh, _, rfl, DGet.k (k := .inr n) e1, _, rfl, ?_⟩
      rcases d1.val (n := n) with ⟨v1, v2⟩ | ⟨x, y, v1, v2, dy⟩
      · rw [v2]
        refine iteF (k _ (ButL.refl _ _) ?_)
        have e : putInF fx st (.well n) = st := by
          show onHand fx st (.well n) = st
          unfold onHand
          rw [show valA st.hands (chgName (.well n)) = none from v1]
        rw [e]
        exact M
      · rw [v2]
        refine iteT ?_
        refine ⟨_, rfl, m, a.dx, _, rfl, M.ob, noof, _, rfl, _, rfl, m, CH, a.dx, _, _, rfl, M.ob, T.cls_Holding, T.na_Holding_hands_by, hf_2 _ _, _, rfl, ca, _, _, .str n, rfl, rfl, c1, rfl, a.dh, y, rfl, by rw [← v2]; exact DGet.k (k := .inr n) e1, ?_⟩
        refine ⟨m, a, fx, st, .ref ca, y, (.well n), x, N, rfl, M, W, hN, dc0, dy, v1, trivial, fun H1 B1 M1 => k H1 B1 ?_⟩
        have e : putInF fx st (.well n) = ofHandF fx st x (.well n) := by
          show onHand fx st (.well n) = _
          unfold onHand
          rw [show valA st.hands (chgName (.well n)) = some x from v1]
        rw [e]
        exact M1
    | leave n =>
      have dc0 := dc
      obtain ⟨ca, cx, rfl, c1, c2⟩ := cg2 dc
      cases c2
      refine ⟨_, rfl, ca, _, _, .str "leave", rfl, rfl, c1, rfl, ?_⟩
      refine ⟨_, rfl, rfl, _, rfl, iteNe (by decide +kernel) ⟨_, rfl, rfl, _, rfl, iteNe (by decide +kernel) ⟨_, rfl, rfl, _, rfl, iteNe (by decide +kernel) ⟨_, rfl, rfl, _, rfl, iteNe (by decide +kernel) ?_⟩⟩⟩⟩
      refine ⟨_, rfl, ca, _, _, .str n, rfl, rfl, c1, rfl, _, rfl, m, CH, a.dx, _, _, rfl, M.ob, T.cls_Holding, T.na_Holding_hands_by, hf_2 _ _, a.dh, _, rfl, DGet.k (k := .inr n) e1, _, rfl, ?_⟩
      rcases d1.val (n := n) with ⟨v1, v2⟩ | ⟨x, y, v1, v2, dy⟩
      · rw [v2]
        refine iteF (k _ (ButL.refl _ _) ?_)
        have e : putInF fx st (.leave n) = st := by
          show onHand fx st (.leave n) = st
          unfold onHand
          rw [show valA st.hands (chgName (.leave n)) = none from v1]
        rw [e]
        exact M
      · rw [v2]
        refine iteT ?_
        refine ⟨_, rfl, m, a.dx, _, rfl, M.ob, noof, _, rfl, _, rfl, m, CH, a.dx, _, _, rfl, M.ob, T.cls_Holding, T.na_Holding_hands_by, hf_2 _ _, _, rfl, ca, _, _, .str n, rfl, rfl, c1, rfl, a.dh, y, rfl, by rw [← v2]; exact DGet.k (k := .inr n) e1, ?_⟩
        refine ⟨m, a, fx, st, .ref ca, y, (.leave n), x, N, rfl, M, W, hN, dc0, dy, v1, trivial, fun H1 B1 M1 => k H1 B1 ?_⟩
        have e : putInF fx st (.leave n) = ofHandF fx st x (.leave n) := by
          show onHand fx st (.leave n) = _
          unfold onHand
          rw [show valA st.hands (chgName (.leave n)) = some x from v1]
        rw [e]
        exact M1
    | rank n r =>
      have dc0 := dc
      obtain ⟨ca, cx, cy, rfl, c1, c2, c3⟩ := cg3 dc
      cases c2
      refine ⟨_, rfl, ca, _, _, .str "rank", rfl, rfl, c1, rfl, ?_⟩
      refine ⟨_, rfl, rfl, _, rfl, iteNe (by decide +kernel) ⟨_, rfl, rfl, _, rfl, iteNe (by decide +kernel) ⟨_, rfl, rfl, _, rfl, iteNe (by decide +kernel) ⟨_, rfl, rfl, _, rfl, iteNe (by decide +kernel) ?_⟩⟩⟩⟩
      refine ⟨_, rfl, ca, _, _, .str n, rfl, rfl, c1, rfl, _, rfl, m, CH, a.dx, _, _, rfl, M.ob, T.cls_Holding, T.na_Holding_hands_by, hf_2 _ _, a.dh, _, rfl, DGet.k (k := .inr n) e1, _, rfl, ?_⟩
      rcases d1.val (n := n) with ⟨v1, v2⟩ | ⟨x, y, v1, v2, dy⟩
      · rw [v2]
        refine iteF (k _ (ButL.refl _ _) ?_)
        have e : putInF fx st (.rank n r) = st := by
          show onHand fx st (.rank n r) = st
          unfold onHand
          rw [show valA st.hands (chgName (.rank n r)) = none from v1]
        rw [e]
        exact M
      · rw [v2]
        refine iteT ?_
        refine ⟨_, rfl, m, a.dx, _, rfl, M.ob, noof, _, rfl, _, rfl, m, CH, a.dx, _, _, rfl, M.ob, T.cls_Holding, T.na_Holding_hands_by, hf_2 _ _, _, rfl, ca, _, _, .str n, rfl, rfl, c1, rfl, a.dh, y, rfl, by rw [← v2]; exact DGet.k (k := .inr n) e1, ?_⟩
        refine ⟨m, a, fx, st, .ref ca, y, (.rank n r), x, N, rfl, M, W, hN, dc0, dy, v1, trivial, fun H1 B1 M1 => k H1 B1 ?_⟩
        have e : putInF fx st (.rank n r) = ofHandF fx st x (.rank n r) := by
          show onHand fx st (.rank n r) = _
          unfold onHand
          rw [show valA st.hands (chgName (.rank n r)) = some x from v1]
        rw [e]
        exact M1
    | section_ n sc =>
      have dc0 := dc
      obtain ⟨ca, cx, cy, rfl, c1, c2, c3⟩ := cg3 dc
      cases c2
      refine ⟨_, rfl, ca, _, _, .str "section", rfl, rfl, c1, rfl, ?_⟩
      refine ⟨_, rfl, rfl, _, rfl, iteNe (by decide +kernel) ⟨_, rfl, rfl, _, rfl, iteNe (by decide +kernel) ⟨_, rfl, rfl, _, rfl, iteNe (by decide +kernel) ⟨_, rfl, rfl, _, rfl, iteNe (by decide +kernel) ?_⟩⟩⟩⟩
      refine ⟨_, rfl, ca, _, _, .str n, rfl, rfl, c1, rfl, _, rfl, m, CH, a.dx, _, _, rfl, M.ob, T.cls_Holding, T.na_Holding_hands_by, hf_2 _ _, a.dh, _, rfl, DGet.k (k := .inr n) e1, _, rfl, ?_⟩
      rcases d1.val (n := n) with ⟨v1, v2⟩ | ⟨x, y, v1, v2, dy⟩
      · rw [v2]
        refine iteF (k _ (ButL.refl _ _) ?_)
        have e : putInF fx st (.section_ n sc) = st := by
          show onHand fx st (.section_ n sc) = st
          unfold onHand
          rw [show valA st.hands (chgName (.section_ n sc)) = none from v1]
        rw [e]
        exact M
      · rw [v2]
        refine iteT ?_
        refine ⟨_, rfl, m, a.dx, _, rfl, M.ob, noof, _, rfl, _, rfl, m, CH, a.dx, _, _, rfl, M.ob, T.cls_Holding, T.na_Holding_hands_by, hf_2 _ _, _, rfl, ca, _, _, .str n, rfl, rfl, c1, rfl, a.dh, y, rfl, by rw [← v2]; exact DGet.k (k := .inr n) e1, ?_⟩
        refine ⟨m, a, fx, st, .ref ca, y, (.section_ n sc), x, N, rfl, M, W, hN, dc0, dy, v1, trivial, fun H1 B1 M1 => k H1 B1 ?_⟩
        have e : putInF fx st (.section_ n sc) = ofHandF fx st x (.section_ n sc) := by
          show onHand fx st (.section_ n sc) = _
          unfold onHand
          rw [show valA st.hands (chgName (.section_ n sc)) = some x from v1]
        rw [e]
        exact M1
    | learn n kk =>
      have dc0 := dc
      obtain ⟨ca, cx, cy, rfl, c1, c2, c3⟩ := cg3 dc
      cases c2
      refine ⟨_, rfl, ca, _, _, .str "learn", rfl, rfl, c1, rfl, ?_⟩
      refine ⟨_, rfl, rfl, _, rfl, iteNe (by decide +kernel) ⟨_, rfl, rfl, _, rfl, iteNe (by decide +kernel) ⟨_, rfl, rfl, _, rfl, iteNe (by decide +kernel) ⟨_, rfl, rfl, _, rfl, iteNe (by decide +kernel) ?_⟩⟩⟩⟩
      refine ⟨_, rfl, ca, _, _, .str n, rfl, rfl, c1, rfl, _, rfl, m, CH, a.dx, _, _, rfl, M.ob, T.cls_Holding, T.na_Holding_hands_by, hf_2 _ _, a.dh, _, rfl, DGet.k (k := .inr n) e1, _, rfl, ?_⟩
      rcases d1.val (n := n) with ⟨v1, v2⟩ | ⟨x, y, v1, v2, dy⟩
      · rw [v2]
        refine iteF (k _ (ButL.refl _ _) ?_)
        have e : putInF fx st (.learn n kk) = st := by
          show onHand fx st (.learn n kk) = st
          unfold onHand
          rw [show valA st.hands (chgName (.learn n kk)) = none from v1]
        rw [e]
        exact M
      · rw [v2]
        refine iteT ?_
        refine ⟨_, rfl, m, a.dx, _, rfl, M.ob, noof, _, rfl, _, rfl, m, CH, a.dx, _, _, rfl, M.ob, T.cls_Holding, T.na_Holding_hands_by, hf_2 _ _, _, rfl, ca, _, _, .str n, rfl, rfl, c1, rfl, a.dh, y, rfl, by rw [← v2]; exact DGet.k (k := .inr n) e1, ?_⟩
        refine ⟨m, a, fx, st, .ref ca, y, (.learn n kk), x, N, rfl, M, W, hN, dc0, dy, v1, trivial, fun H1 B1 M1 => k H1 B1 ?_⟩
        have e : putInF fx st (.learn n kk) = ofHandF fx st x (.learn n kk) := by
          show onHand fx st (.learn n kk) = _
          unfold onHand
          rw [show valA st.hands (chgName (.learn n kk)) = some x from v1]
        rw [e]
        exact M1
theorem sc_Holding_mustered : FnScope ["self", "roll", "name", "wants"] ["self"] (defScope s_Holding_mustered) := ⟨rfl, rfl, rfl, by decide +kernel, rfl, by decide +kernel, by decide +kernel⟩
theorem m_Holding_mustered (T : Txt K mg CM CH CV aL) : Met P w K mg base 1 CH "mustered" (spMustered K CH) := by
  refine met_of T.cls_Holding T.md_Holding_mustered (fun _ _ _ _ _ _ us hl => match us, hl with | [_], _ => rfl) sc_Holding_mustered (fun vs H Q E h => ?_) (fun f cdv A outer s H vs Q E hr h => ?_)
  · obtain ⟨_, _, _, _, _, rfl, _⟩ := h; rfl
  · obtain ⟨m, a, fx, st, N, rfl, M, W, hN, k⟩ := h
    obtain ⟨kvs, e1, d1⟩ := M.dh
    have sz1 := W.sz1
    have sz2 := W.sz2
    have sz3 := W.sz3
    have sz4 := W.sz4
    have kl : ∀ {α : Type} (l : List (Str × α)), (keysA l).length = l.length := fun l => by unfold keysA; rw [List.length_map]
    refine ⟨_, (pss_cons (ps_set (i := 1) sc_Holding_mustered.nd rfl (Or.inl rfl) (pe_callTy (call_tuple_ofFK K) (by rfl) T.b_tuple (by decide +kernel) (pa_cons (pe_lc (own := [("name", 2)]) rfl sc_Holding_mustered.nd (pi_listK K (pe_callB (call_sortedD rfl) (by rfl) T.b_sorted (by decide +kernel) (pa_cons (pe_fldK K (pv 0) rfl) pa_nil))) (blkOk_by (own := [("name", 2)]) (N := ["self", "roll", "name", "wants"]) (sc := defScope s_Holding_mustered) (by decide +kernel)) (fun _ _ _ _ _ => (pg_name (i := 2) sc_Holding_mustered.nd rfl (Or.inl rfl))) (fun _ _ _ _ _ => pts_nil) (fun _ _ _ _ _ => (pe_dget (hu_of hr) (pe_fldK K (pv 0) rfl) (pv 2) (fun _ _ => rfl)))) pa_nil)))
    (pss_cons (ps_set (i := 3) sc_Holding_mustered.nd rfl (Or.inl rfl) (pe_callTy (call_tuple_ofFK K) (by rfl) T.b_tuple (by decide +kernel) (pa_cons (pe_lc (own := [("name", 2)]) rfl sc_Holding_mustered.nd (pi_listK K (pe_callB (call_sortedD rfl) (by rfl) T.b_sorted (by decide +kernel) (pa_cons (pe_fldK K (pv 0) rfl) pa_nil))) (blkOk_by (own := [("name", 2)]) (N := ["self", "roll", "name", "wants"]) (sc := defScope s_Holding_mustered) (by decide +kernel)) (fun _ _ _ _ _ => (pg_name (i := 2) sc_Holding_mustered.nd rfl (Or.inl rfl))) (fun _ _ _ _ _ => pts_nil) (fun _ _ _ _ _ => (pe_tup (pa_cons (pv 2) (pa_cons (pe_dget (hu_of hr) (pe_fldK K (pv 0) rfl) (pv 2) (fun _ _ => rfl)) pa_nil))))) pa_nil)))
    (pss_one (ps_ret (pe_tup (pa_cons (pv 1) (pa_cons (pe_callTy (call_tuple_ofFK K) (by rfl) T.b_tuple (by decide +kernel) (pa_cons (pe_callB (call_sortedD rfl) (by rfl) T.b_sorted (by decide +kernel) (pa_cons (pe_fldK K (pv 0) rfl) pa_nil)) pa_nil)) (pa_cons (pv 3) (pa_cons (pe_callTy (call_tuple_ofFK K) (by rfl) T.b_tuple (by decide +kernel) (pa_cons (pe_fldK K (pv 0) rfl) pa_nil)) pa_nil))))))))), ?_⟩
    -- the roll
    refine ⟨_, rfl, m, CH, a.dx, _, _, rfl, M.ob, T.cls_Holding, T.na_Holding_hands_by, hf_2 _ _, a.dh, kvs, keysA st.hands, rfl, .inl e1, d1.keys, by rw [kl]; omega, fun ys p hy1 hy2 hp => newG hp fun H1 S1 q1 => ?_⟩
    have hys := srt_is hy1 hy2
    subst hys
    have M1 := M.mono S1
    obtain ⟨kv1, f1, g1⟩ := M1.dh
    refine ⟨p, rfl, ⟨_, sql_of q1⟩, fun D hD => ?_⟩
    refine lc_run (walk_list (K := K) (a := p) (xs := (srt (keysA st.hands)).map V.str)) (H0 := H1) (fun j ac H4 => DtAll K H4 ac ((((srt (keysA st.hands)).take j).map (getH st.hands)).map encH)) (Same.refl _) hD (fun _ _ => .nil) (fun H4 S4 => sql_of (S4 _ _ q1)) ?_ ?_
    · rintro j x ac H4 H5 hj hD0 S4 e4 hac ⟨rfl, hx⟩
      rw [List.getElem?_map] at hx
      cases hn : (srt (keysA st.hands))[j]? with
      | none => rw [hn] at hx; cases hx
      | some n =>
        rw [hn] at hx
        cases hx
        have M4 := M1.mono S4
        obtain ⟨kv4, f4, g4⟩ := M4.dh
        have hnk : n ∈ keysA st.hands := (srt_perm _).mem_iff.mp (List.mem_of_getElem? hn)
        obtain ⟨h, hh⟩ := valA_key hnk
        have hv : ∃ y, valV kv4 (.inr n) = some y ∧ Dt K H5 y (encH h) := by
          rcases g4.val (n := n) with ⟨v1, _⟩ | ⟨x, y, v1, v2, r⟩
          · rw [hh] at v1; cases v1
          · rw [hh] at v1; cases v1; exact ⟨y, v2, r⟩
        obtain ⟨y, hy, dy⟩ := hv
        refine ⟨rfl, g_yes (iteT ?_)⟩
        refine ⟨_, rfl, m, CH, a.dx, _, _, rfl, M4.ob, T.cls_Holding, T.na_Holding_hands_by, hf_2 _ _, _, rfl, a.dh, y, rfl, by rw [← hy]; exact DGet.k (k := .inr n) f4, ?_⟩
        have hal := hac.length
        rw [List.length_map, List.length_map, List.length_take] at hal
        have hsl := srt_len (keysA st.hands)
        rw [kl] at hsl
        refine lc_next hD0 S4 (Same.refl _) e4 (by omega) fun H6 S6 e6 k6 => ?_
        have t6 : Tups H5 H6 := fun b xs hb => by
          have hbD : b ≠ D := fun z => by
            subst z
            exact not_tup_lst e4 xs hb
          rcases hb with hb | ⟨o, hb⟩
          · exact .inl (by rw [k6 b hbD]; exact hb)
          · exact .inr ⟨o, by rw [k6 b hbD]; exact hb⟩
        rw [List.take_add_one, hn, List.map_append, List.map_append]
        refine (hac.mono t6).append ?_
        have : getH st.hands n = h := by unfold getH; rw [hh]; rfl
        show DtAll K H6 [y] [encH (getH st.hands n)]
        rw [this]
        exact .cons (dy.mono t6) .nil
    rintro ac H2 S2 e2 hac
    rw [List.length_map, List.take_length] at hac
    refine ⟨D, _, rfl, sql_of e2, fun r1 o1 hr1 ho1 => newG hr1 fun H3 S3 q3 => ?_⟩
    have hroll : Dt K H3 (.ref r1) (.tuple (((srt (keysA st.hands)).map (getH st.hands)).map encH)) := .tup (.inl (.inr ⟨o1, q3⟩)) (hac.mono S3.tups)
    have S03 : Same H H3 := (S1.trans S2).trans S3
    have M3 := M.mono S03
    obtain ⟨kv3, f3, g3⟩ := M3.dw
    -- wants
    refine ⟨_, rfl, m, CH, a.dx, _, _, rfl, M3.ob, T.cls_Holding, T.na_Holding_wanted, hf_6 _ _, a.dw, kv3, keysA st.wanted, rfl, .inl f3, g3.keys, by rw [kl]; omega, fun ys p2 hy1 hy2 hp2 => newG hp2 fun H4 S4 q4 => ?_⟩
    have hys := srt_is hy1 hy2
    subst hys
    have M4 := M3.mono S4
    refine ⟨p2, rfl, ⟨_, sql_of q4⟩, fun D2 hD2 => ?_⟩
    refine lc_run (walk_list (K := K) (a := p2) (xs := (srt (keysA st.wanted)).map V.str)) (H0 := H4) (fun j ac H5 => ∃ ws : List Addr, ac = ws.map V.ref ∧ Paired (fun p kv => SqT K H5 p [.str kv.1, .int kv.2]) ws (((srt (keysA st.wanted)).take j).map fun n => (n, getI st.wanted n))) (Same.refl _) hD2 (fun _ _ => ⟨[], rfl, .nil⟩) (fun H5 S5 => sql_of (S5 _ _ q4)) ?_ ?_
    · rintro j x ac H5 H6 hj hD0 S5 e5 ⟨ws, rfl, hws⟩ ⟨rfl, hx⟩
      rw [List.getElem?_map] at hx
      cases hn : (srt (keysA st.wanted))[j]? with
      | none => rw [hn] at hx; cases hx
      | some n =>
        rw [hn] at hx
        cases hx
        have M5 := M4.mono S5
        obtain ⟨kv5, f5, g5⟩ := M5.dw
        have hnk : n ∈ keysA st.wanted := (srt_perm _).mem_iff.mp (List.mem_of_getElem? hn)
        obtain ⟨i, hi⟩ := valA_key hnk
        have hv : valV kv5 (.inr n) = some (.int i) := by
          rcases g5.val (n := n) with ⟨v1, _⟩ | ⟨x, y, v1, v2, r⟩
          · rw [hi] at v1; cases v1
          · rw [hi] at v1; cases v1; rw [v2, r]
        refine ⟨rfl, g_yes (iteT ?_)⟩
        refine ⟨_, rfl, _, rfl, m, CH, a.dx, _, _, rfl, M5.ob, T.cls_Holding, T.na_Holding_wanted, hf_6 _ _, _, rfl, a.dw, .int i, rfl, by rw [← hv]; exact DGet.k (k := .inr n) f5, by show 2 ≤ sizeLine; decide, fun pt hpt => newG hpt fun H7 S7 q7 => ?_⟩
        have hal : ws.length ≤ st.wanted.length := by
          have h1 : ws.length = (((srt (keysA st.wanted)).take j).map fun n => (n, getI st.wanted n)).length := by
            exact paired_len hws
          rw [List.length_map, List.length_take] at h1
          have hsl := srt_len (keysA st.wanted)
          rw [kl] at hsl
          omega
        refine lc_next hD0 S5 S7 e5 (by rw [List.length_map]; omega) fun H8 S8 e8 k8 => ?_
        have e7 := S7 _ _ e5
        have t8 : Tups H7 H8 := fun b xs hb => by
          have hbD : b ≠ D2 := fun z => by
            subst z
            exact not_tup_lst e7 xs hb
          rcases hb with hb | ⟨o, hb⟩
          · exact .inl (by rw [k8 b hbD]; exact hb)
          · exact .inr ⟨o, by rw [k8 b hbD]; exact hb⟩
        refine ⟨ws ++ [pt], by rw [List.map_append]; rfl, ?_⟩
        rw [List.take_add_one, hn, List.map_append]
        refine Paired.snoc (hws.mono fun p kv x => t8.sq (S7.tup x)) ?_
        have : getI st.wanted n = i := by unfold getI; rw [hi]; rfl
        show SqT K H8 pt [.str n, .int (getI st.wanted n)]
        rw [this]
        exact t8.sq (sqt_of q7)
    rintro ac H5 S5 e5 ⟨ws, rfl, hws⟩
    rw [List.length_map, List.take_length] at hws
    refine ⟨D2, _, rfl, sql_of e5, fun r3 o3 hr3 ho3 => newG hr3 fun H6 S6 q6 => ?_⟩
    have S36 : Same H3 H6 := (S4.trans S5).trans S6
    have M6 := M3.mono S36
    obtain ⟨kv6, f6, g6⟩ := M6.di
    -- the sick
    refine ⟨_, rfl, _, rfl, m, CH, a.dx, _, _, rfl, M6.ob, T.cls_Holding, T.na_Holding_ill, hf_5 _ _, a.di, kv6, keysA st.ill, rfl, .inl f6, g6.keys, by rw [kl]; omega, fun ys p7 hy1 hy2 hp7 => newG hp7 fun H7 S7 q7 => ?_⟩
    have hys := srt_is hy1 hy2
    subst hys
    refine ⟨p7, _, rfl, sql_of q7, fun r2 o2 hr2 ho2 => newG hr2 fun H8 S8 q8 => ?_⟩
    have S68 := S7.trans S8
    have M8 := M6.mono S68
    refine ⟨_, rfl, _, rfl, m, CH, a.dx, _, _, rfl, M8.ob, T.cls_Holding, T.na_Holding_words_up, hf_7 _ _, a.lu, _, rfl, sql_of M8.lu, fun r4 o4 hr4 ho4 => newG hr4 fun H9 S9 q9 => ?_⟩
    refine ⟨by show 4 ≤ sizeLine; decide, fun q hq => newG hq fun H10 S10 q10 => ?_⟩
    have S8x := S9.trans S10
    have S6x := S68.trans S8x
    have S3x := S36.trans S6x
    refine k H10 (.ref q) (S03.trans S3x) ⟨q, r1, r2, r3, r4, ws, rfl, sqt_of q10, hroll.mono S3x.tups, .tup (.inl (.inr ⟨o2, S8x _ _ q8⟩)) DtAll.strs, ⟨o3, S6x _ _ q6, ho3⟩, ?_, .tup (.inl (.inr ⟨o4, S10 _ _ q9⟩)) DtAll.strs⟩
    exact hws.mono fun p kv x => S6x.tup (S6.tup x)
end
end WS
/-! Ships; Holding made; muster. -/
namespace WS
open PySem PySem.Spec PyProof.Rows L2 WM
open C8 (pe_gc pe_c pe_mk pe_mt pe_mt0)
open LamX (TabS Tabs ExtN TabB CodeO codeO_ne)
structure Book where
  word : Str
  away : Int
  lot : List Place
structure Ship where
  day : List Int
  turn : List Int
  roll : List Hand
  bills : List (List Place)
  books : List Book
def encL (l : List Place) : PyData := .tuple (l.map encP)
def encB (b : Book) : PyData := .tuple [.str b.word, .int b.away, encL b.lot]
def encS (s : Ship) : PyData := .tuple [.tuple (s.day.map .int), .tuple (s.turn.map .int), .tuple (s.roll.map encH), .tuple (s.bills.map encL), .tuple (s.books.map encB)]
theorem ship_inv {K : PySem.W.Frag} {H : Hp} {v : V} {s : Ship} (h : Dt K H v (encS s)) : ∃ a d t r b k, v = .ref a ∧ SqT K H a [d, t, r, b, k] ∧ Dt K H d (.tuple (s.day.map .int)) ∧ Dt K H t (.tuple (s.turn.map .int)) ∧ Dt K H r (.tuple (s.roll.map encH)) ∧ Dt K H b (.tuple (s.bills.map encL)) ∧ Dt K H k (.tuple (s.books.map encB)) := by
  obtain ⟨a, xs, rfl, h1, h2⟩ := h.tup_inv
  cases h2 with
  | cons d1 h2 =>
    cases h2 with
    | cons d2 h2 =>
      cases h2 with
      | cons d3 h2 =>
        cases h2 with
        | cons d4 h2 =>
          cases h2 with
          | cons d5 h2 =>
            cases h2
            exact ⟨a, _, _, _, _, _, rfl, h1, d1, d2, d3, d4, d5⟩
theorem book_inv {K : PySem.W.Frag} {H : Hp} {v : V} {b : Book} (h : Dt K H v (encB b)) : ∃ a l, v = .ref a ∧ SqT K H a [.str b.word, .int b.away, l] ∧ Dt K H l (encL b.lot) := by
  obtain ⟨a, xs, rfl, h1, h2⟩ := h.tup_inv
  cases h2 with
  | cons d1 h2 =>
    cases h2 with
    | cons d2 h2 =>
      cases h2 with
      | cons d3 h2 =>
        cases h2
        cases d1
        cases d2
        exact ⟨a, _, rfl, h1, d3⟩
def fixF (s : Ship) : HFix := ⟨(s.turn.length : Nat), s.bills.flatten.map Place.nm, s.books.map Book.word⟩
def startF (s : Ship) : HS := ⟨mergeA [] (s.roll.map fun h => (h.nm, h)), [], [], []⟩
def holdL (s : Ship) (l : List Page) : HS := l.foldl (fun st p => putInF (fixF s) st p.ch) (startF s)
def holdF (s : Ship) (pgs : List Page) (bell : Int) : HS := holdL s ((ordP pgs).filter fun p => decide (p.bell ≤ bell))
/-- sizes of a ship -/
structure ShipSz (s : Ship) : Prop where
  roll : s.roll.length ≤ 20
  ok : ∀ h, h ∈ s.roll → HandOk h
  bills : s.bills.flatten.length ≤ 1000
  turn : s.turn.length ≤ 1000
  books : s.books.length ≤ 1000
theorem start_wf {s : Ship} (h : ShipSz s) : HWf (fixF s) (startF s) 20 where
  nm := fun p hp => by
    rcases mergeA_mem hp with z | z
    · simp at z
    · obtain ⟨x, _, rfl⟩ := List.mem_map.mp z; rfl
  sz1 := Nat.le_trans (mergeA_len _ _) (by simp; exact h.roll)
  sz2 := Nat.zero_le _
  sz3 := Nat.zero_le _
  sz4 := Nat.zero_le _
  ok := fun p hp => by
    rcases mergeA_mem hp with z | z
    · simp at z
    · obtain ⟨x, hx, rfl⟩ := List.mem_map.mp z; exact h.ok x hx
  mn := fun p hp => by simp [startF] at hp
  uw := fun p hp => by simp [startF] at hp
  nd := mergeA_keys (by simp [keysA])
theorem fold_wf {fx : HFix} : ∀ {l : List Page} {st : HS} {N : Nat}, HWf fx st N → (∀ p, p ∈ l → ChgOk p.ch) → HWf fx (l.foldl (fun st p => putInF fx st p.ch) st) (N + l.length)
  | [], _, _, W, _ => W
  | p :: l, st, N, W, h => by
    have := fold_wf (fx := fx) (l := l) (putIn_wf (fx := fx) W p.ch (h p (by simp))) fun q hq => h q (by simp [hq])
    rw [List.length_cons, Nat.add_comm l.length 1, ← Nat.add_assoc]
    exact this
section
variable {K : PySem.W.Frag} {H H1 H2 H' : Hp} {CH m : Addr} {a : HA} {fx : HFix} {st : HS}
theorem HObj.ext (M : HObj K H CH m a fx st) (s : ExtN H H') : HObj K H' CH m a fx st := by
  obtain ⟨k1, e1, d1⟩ := M.dh
  obtain ⟨k2, e2, d2⟩ := M.di
  obtain ⟨k3, e3, d3⟩ := M.dw
  exact ⟨s _ _ M.ob (fun _ z => nomatch z), s _ _ M.lb (fun _ z => nomatch z), s _ _ M.lw (fun _ z => nomatch z), ⟨k1, s _ _ e1 (fun _ z => nomatch z), d1.mono fun v h x => x.mono (ext_tups s)⟩, ⟨k2, s _ _ e2 (fun _ z => nomatch z), d2⟩, ⟨k3, s _ _ e3 (fun _ z => nomatch z), d3⟩, s _ _ M.lu (fun _ z => nomatch z), M.ap⟩
theorem ext_but {l : List Addr} (e : ExtN H H1) (f : ∀ b, b ∈ l → H b = none) (b : ButL l H1 H2) : ExtN H H2 := fun x o hx hn => b x o (fun z => by rw [f x z] at hx; cases hx) (e x o hx hn)
theorem tab_but {l : List Addr} {P : Addr} {q : Str} (t : TabS H P q) (f : ∀ b, b ∈ l → (∃ kvs, H b = some (.dK kvs)) ∨ (∃ xs, H b = some (.lst xs)) ∨ ∃ C dx fs, H b = some (.ins C dx fs)) (b : ButL l H H1) : TabS H1 P q := by
  obtain ⟨ps, h1, h2, h3⟩ := t
  have ne : ∀ x o, H x = some o → (∀ kvs, o ≠ .dK kvs) → (∀ xs, o ≠ .lst xs) → (∀ C dx fs, o ≠ .ins C dx fs) → x ∉ l := fun x o e n1 n2 n3 z => by
    rcases f x z with ⟨k, q⟩ | ⟨k, q⟩ | ⟨C, dx, fs, q⟩
    · rw [e] at q; exact n1 _ (Option.some.inj q)
    · rw [e] at q; exact n2 _ (Option.some.inj q)
    · rw [e] at q; exact n3 _ _ _ (Option.some.inj q)
  refine ⟨ps, b _ _ (ne _ _ h1 (fun _ z => nomatch z) (fun _ z => nomatch z) fun _ _ _ z => nomatch z) h1, h2, fun pos cv hc => ?_⟩
  obtain ⟨c, e1, e2⟩ := h3 pos cv hc
  refine ⟨c, e1, b _ _ (ne _ _ e2 (fun _ z => ?_) (fun _ z => ?_) fun _ _ _ z => ?_) e2⟩ <;> (unfold CodeO at z; cases z)
end
def spHoldI (K : PySem.W.Frag) (CH : Addr) : Sp := fun vs H Q _ => ∃ (m dx : Addr) (u : V) (s : Ship), vs = [.ref m, u] ∧ H m = some (.ins CH dx []) ∧ Dt K H u (encS s) ∧ ShipSz s ∧
  ∀ H' a, Km m H H' → HObj K H' CH m a (fixF s) (startF s) → (∀ b, b ∈ a.lb :: a.lw :: a.cells → H b = none) → Q .non H'
def spMuster (K : PySem.W.Frag) (Pt : Addr) : Sp := fun vs H Q _ => ∃ (u v : V) (s : Ship) (pgs : List Page) (bell : Int), vs = [u, v, .int bell] ∧ Dt K H u (encS s) ∧ Dt K H v (.tuple (pgs.map encPg)) ∧ ShipSz s ∧ pgs.length ≤ 20 ∧ (∀ p, p ∈ pgs → ChgOk p.ch) ∧ TabS H Pt "in_order.<locals>.<lambda>" ∧
  ∀ H' r, ExtN H H' → TabS H' Pt "in_order.<locals>.<lambda>" → ToldAt K H' r (toldF (holdF s pgs bell)) → Q r H'
section
variable {P : Program} {w : World} {K : PySem.W.Frag} {mg : Str → Option Value} {base : Heap} {CM CH CV aL : Addr}
theorem sc_Holding_init : FnScope ["self", "ship", "hand", "book"] ["self", "ship"] (defScope s_Holding_init) := ⟨rfl, rfl, rfl, by decide +kernel, rfl, by decide +kernel, by decide +kernel⟩
theorem c_Holding (T : Txt K mg CM CH CV aL) : Mak P w K mg base 2 "Holding" CH (spHoldI K CH) := by
  have c_names_in := c_names_in (P := P) (w := w) (base := base) T
  refine mak_of T.mg_Holding T.i_Holding (fun _ _ _ _ _ _ us hl => match us, hl with | [_, _], _ => rfl) sc_Holding_init (fun vs H Q E h => ?_) (fun f cdv A outer s H vs Q E hr h => ?_)
  · obtain ⟨_, _, _, _, rfl, _⟩ := h; rfl
  · obtain ⟨m, dx, u, s, rfl, hm, du, Z, k⟩ := h
    obtain ⟨ua, d0, t0, r0, b0, k0, rfl, u1, dd, dt, dr, db, dk⟩ := ship_inv du
    obtain ⟨ta, ts, rfl, t1, t2⟩ := id dt.tup_inv
    obtain ⟨ra, rs, rfl, r1, r2⟩ := id dr.tup_inv
    obtain ⟨ka, ks, rfl, k1, k2⟩ := id dk.tup_inv
    have lts : ts.length = s.turn.length := by have := t2.length; rwa [List.length_map] at this
    have lrs : rs.length = s.roll.length := by have := r2.length; rwa [List.length_map] at this
    have lks : ks.length = s.books.length := by have := k2.length; rwa [List.length_map] at this
    have z1 := Z.roll
    have z2 := Z.bills
    have z3 := Z.turn
    have z4 := Z.books
    refine ⟨_, (pss_cons (ps_fld (pv 0) (pe_callB (call_len_seqK K) (by rfl) T.b_len PySem.boot_len (pa_cons (pe_ix (ix_tupK K) (pv 1) pe_int (fun _ _ => rfl)) pa_nil)) rfl)
    (pss_cons (ps_fld (pv 0) (pe_callTy (call_dictPK K rfl) (by rfl) T.b_dict (by decide +kernel) (pa_cons (pe_lc (own := [("hand", 2)]) rfl sc_Holding_init.nd (pi_tupK K (pe_ix (ix_tupK K) (pv 1) pe_int (fun _ _ => rfl))) (blkOk_by (own := [("hand", 2)]) (N := ["self", "ship", "hand", "book"]) (sc := defScope s_Holding_init) (by decide +kernel)) (fun _ _ _ _ _ => (pg_name (i := 2) sc_Holding_init.nd rfl (Or.inl rfl))) (fun _ _ _ _ _ => pts_nil) (fun _ _ _ _ _ => (pe_tup (pa_cons (pe_ix (ix_tupK K) (pv 2) pe_int (fun _ _ => rfl)) (pa_cons (pv 2) pa_nil))))) pa_nil)) rfl)
    (pss_cons (ps_fld (pv 0) (pe_c c_names_in hr (by decide) rfl (pa_cons (pe_ix (ix_tupK K) (pv 1) pe_int (fun _ _ => rfl)) pa_nil)) rfl)
    (pss_cons (ps_fld (pv 0) (pe_lc (own := [("book", 3)]) rfl sc_Holding_init.nd (pi_tupK K (pe_ix (ix_tupK K) (pv 1) pe_int (fun _ _ => rfl))) (blkOk_by (own := [("book", 3)]) (N := ["self", "ship", "hand", "book"]) (sc := defScope s_Holding_init) (by decide +kernel)) (fun _ _ _ _ _ => (pg_name (i := 3) sc_Holding_init.nd rfl (Or.inl rfl))) (fun _ _ _ _ _ => pts_nil) (fun _ _ _ _ _ => (pe_ix (ix_tupK K) (pv 3) pe_int (fun _ _ => rfl)))) rfl)
    (pss_cons (ps_fld (pv 0) pe_dnewK rfl)
    (pss_cons (ps_fld (pv 0) pe_dnewK rfl)
    (pss_one (ps_fld (pv 0) (pe_lst pa_nil) rfl)))))))), ?_⟩
    -- sections
    refine ⟨_, rfl, ua, _, _, .ref ta, rfl, rfl, u1, rfl, ta, _, rfl, .inr t1, ?_⟩
    refine ⟨_, rfl, m, CH, dx, _, rfl, hm, T.cls_Holding, T.na_Holding_sections, (by show 0 < 1000; decide), fldG fun H1 K1 m1 => ?_⟩
    have T1 := K1.tups hm
    rw [show putF "sections" (.int (ts.length : Nat)) [] = [(("sections" : Str), V.int (ts.length : Nat))] from rfl] at m1
    -- hands
    refine ⟨_, rfl, ua, _, _, .ref ra, rfl, rfl, T1.sq u1, rfl, ra, rfl, ⟨_, T1.sq r1⟩, fun D hD => ?_⟩
    refine lc_run (walk_tup (K := K) (a := ra) (xs := rs)) (H0 := H1) (fun j ac H4 => ∃ ps : List Addr, ac = ps.map V.ref ∧ ∃ vs : List (Key × V), Paired (fun p kv => SqT K H4 p [kV kv.1, kv.2]) ps vs ∧ DR (fun v h => Dt K H4 v (encH h)) vs ((s.roll.take j).map fun h => (h.nm, h))) (Same.refl _) hD (fun _ _ => ⟨[], rfl, [], .nil, .nil⟩) (fun H4 S4 => S4.tup (T1.sq r1)) ?_ ?_
    · rintro j x ac H4 H5 hj hD0 S4 e4 ⟨ps, rfl, vs, hp, hv⟩ ⟨rfl, hx⟩
      obtain ⟨h, hh, dh⟩ := item_inv (a := ra) r2 hx
      have dh := (dh.mono T1).mono S4.tups
      obtain ⟨ha, sa, rfl, h1, h2⟩ := hand_inv dh
      refine ⟨rfl, g_yes (iteT ?_)⟩
      refine ⟨_, rfl, ha, _, _, .str h.nm, rfl, rfl, h1, rfl, _, rfl, by show 2 ≤ sizeLine; decide, fun p hp2 => newG hp2 fun H6 S6 e6 => ?_⟩
      have hpl : ps.length ≤ 20 := by
        have l1 := paired_len hp
        have l2 := paired_len hv
        rw [List.length_map, List.length_take] at l2
        omega
      refine lc_next hD0 S4 S6 e4 (by rw [List.length_map]; omega) fun H7 S7 e7 k7 => ?_
      have e6' := S6 _ _ e4
      have t7 : Tups H6 H7 := fun b xs hb => by
        have hbD : b ≠ D := fun z => by
          subst z
          exact not_tup_lst e6' xs hb
        rcases hb with hb | ⟨o, hb⟩
        · exact .inl (by rw [k7 b hbD]; exact hb)
        · exact .inr ⟨o, by rw [k7 b hbD]; exact hb⟩
      refine ⟨ps ++ [p], by rw [List.map_append]; rfl, vs ++ [(.inr h.nm, .ref ha)], Paired.snoc (hp.mono fun p kv x => t7.sq (S6.tup x)) (t7.sq (show SqT K H6 p [kV (.inr h.nm), .ref ha] from sqt_of e6)), ?_⟩
      rw [List.take_add_one, hh, List.map_append]
      exact Paired.snoc ((DR.mono hv fun v h x => (x.mono S6.tups).mono t7)) ⟨rfl, (dh.mono S6.tups).mono t7⟩
    rintro ac H2 S2 e2 ⟨ps, rfl, vs, hp, hv⟩
    rw [lrs, List.take_length] at hv
    refine ⟨D, ps, vs, rfl, sql_of e2, hp, fun dh hdh => newG hdh fun H3 S3 e3 => ?_⟩
    have S13 := S2.trans S3
    refine ⟨_, rfl, m, CH, dx, _, rfl, S13 _ _ m1, T.cls_Holding, T.na_Holding_hands_by, (by show 1 < 1000; decide), fldG fun H4 K4 m4 => ?_⟩
    rw [putF_new (by rfl)] at m4
    have KK4 : Km m H H4 := (K1.trans (Km.same S13)).trans K4
    have ndh : dh ≠ m := (ne_of_none (S2 _ _ m1) hdh).symm
    have hdh0 : H dh = none := by
      cases q : H dh with
      | none => rfl
      | some o =>
        have := S2 _ _ (K1 _ _ ndh q)
        rw [hdh] at this
        cases this
    have T3 : Tups H2 H3 := S3.tups
    have T4 : Tups H3 H4 := K4.tups (S13 _ _ m1)
    have e4 := K4 _ _ ndh e3
    have hvF : DR (fun v h => Dt K H4 v (encH h)) (mergeK [] vs) (startF s).hands := DR.merge (l := []) .nil (DR.mono hv fun v h x => (x.mono T3).mono T4)
    have TT4 := KK4.tups hm
    -- billed
    refine ⟨_, rfl, ua, _, _, b0, rfl, rfl, TT4.sq u1, rfl, _, s.bills, rfl, db.mono TT4, by omega, fun H5 lb S5 hlb e5 => ?_⟩
    refine ⟨_, rfl, m, CH, dx, _, rfl, S5 _ _ m4, T.cls_Holding, T.na_Holding_billed, (by show 2 < 1000; decide), fldG fun H6 K6 m6 => ?_⟩
    rw [putF_new (by rfl)] at m6
    have nlb : lb ≠ m := (ne_of_none m4 hlb).symm
    have KK6 : Km m H H6 := (KK4.trans (Km.same S5)).trans K6
    have K46 : Km m H4 H6 := (Km.same S5).trans K6
    have TT6 := KK6.tups hm
    have e6 := K6 _ _ nlb e5
    -- words
    refine ⟨_, rfl, ua, _, _, .ref ka, rfl, rfl, TT6.sq u1, rfl, ka, rfl, ⟨_, TT6.sq k1⟩, fun lw hlw => ?_⟩
    refine lc_run (walk_tup (K := K) (a := ka) (xs := ks)) (H0 := H6) (fun j ac H4 => ac = ((s.books.take j).map Book.word).map V.str) (Same.refl _) hlw (fun _ _ => rfl) (fun H4 S4 => S4.tup (TT6.sq k1)) ?_ ?_
    · rintro j x ac H7 H8 hj hD0 S7 e7 rfl ⟨rfl, hx⟩
      obtain ⟨b, hb, db⟩ := item_inv (a := ka) k2 hx
      obtain ⟨ba, bl, rfl, b1, b2⟩ := book_inv ((db.mono TT6).mono S7.tups)
      refine ⟨rfl, g_yes (iteT ?_)⟩
      refine ⟨_, rfl, ba, _, _, .str b.word, rfl, rfl, b1, rfl, ?_⟩
      refine lc_next hD0 S7 (Same.refl _) e7 (by rw [List.length_map, List.length_map, List.length_take]; omega) fun H9 _ _ _ => ?_
      rw [List.take_add_one, hb]
      simp
    rintro ac H7 S7 e7 rfl
    rw [lks, List.take_length] at e7
    refine ⟨_, rfl, m, CH, dx, _, rfl, S7 _ _ m6, T.cls_Holding, T.na_Holding_words_kept, (by show 3 < 1000; decide), fldG fun H8 K8 m8 => ?_⟩
    rw [putF_new (by rfl)] at m8
    have nlw : lw ≠ m := (ne_of_none m6 hlw).symm
    have K68 : Km m H6 H8 := (Km.same S7).trans K8
    have e8 := K8 _ _ nlw e7
    -- ill
    refine fun di hdi => newG hdi fun H9 S9 e9 => ?_
    refine ⟨_, rfl, m, CH, dx, _, rfl, S9 _ _ m8, T.cls_Holding, T.na_Holding_ill, (by show 4 < 1000; decide), fldG fun H10 K10 m10 => ?_⟩
    rw [putF_new (by rfl)] at m10
    have ndi : di ≠ m := (ne_of_none m8 hdi).symm
    have K810 : Km m H8 H10 := (Km.same S9).trans K10
    have e10 := K10 _ _ ndi e9
    -- wanted
    refine fun dw hdw => newG hdw fun H11 S11 e11 => ?_
    refine ⟨_, rfl, m, CH, dx, _, rfl, S11 _ _ m10, T.cls_Holding, T.na_Holding_wanted, (by show 5 < 1000; decide), fldG fun H12 K12 m12 => ?_⟩
    rw [putF_new (by rfl)] at m12
    have ndw : dw ≠ m := (ne_of_none m10 hdw).symm
    have K1012 : Km m H10 H12 := (Km.same S11).trans K12
    have e12 := K12 _ _ ndw e11
    -- words up
    refine ⟨by show 0 ≤ sizeLine; decide, fun lu hlu => newG hlu fun H13 S13' e13 => ?_⟩
    refine ⟨_, rfl, m, CH, dx, _, rfl, S13' _ _ m12, T.cls_Holding, T.na_Holding_words_up, (by show 6 < 1000; decide), fldG fun H14 K14 m14 => ?_⟩
    rw [putF_new (by rfl)] at m14
    have nlu : lu ≠ m := (ne_of_none m12 hlu).symm
    have K1214 : Km m H12 H14 := (Km.same S13').trans K14
    have e14 := K14 _ _ nlu e13
    have K814 : Km m H8 H14 := (K810.trans K1012).trans K1214
    have K414 : Km m H4 H14 := (K46.trans K68).trans K814
    have KK14 : Km m H H14 := KK4.trans K414
    have f0 : ∀ {b : Addr} {G : Hp}, Km m H G → b ≠ m → G b = none → H b = none := fun {b G} kk hb hn => by
      cases q : H b with
      | none => rfl
      | some o =>
        have := kk _ _ hb q
        rw [hn] at this
        cases this
    have T14 : Tups H4 H14 := K414.tups m4
    have eb : (s.bills.flatten.map Place.nm).map V.str = (fixF s).billed.map V.str := rfl
    have ll : lts = lts := rfl
    refine k H14 ⟨dx, dh, lb, lw, di, dw, lu⟩ KK14 ⟨?_, (K68.trans K814) _ _ nlb e6, K814 _ _ nlw e8, ⟨_, K414 _ _ ndh e4, hvF.mono fun v h x => x.mono T14⟩, ⟨[], (K1012.trans K1214) _ _ ndi e10, .nil⟩, ⟨[], K1214 _ _ ndw e12, .nil⟩, e14, ?_, ?_, ?_, ?_, ?_⟩ fun b hb => ?_
    · rw [m14, lts]; rfl
    · exact ne_of_none (((K46.trans K68) _ _ ndh e4)) hdi
    · exact ne_of_none (((K46.trans K68).trans K810) _ _ ndh e4) hdw
    · exact ne_of_none e10 hdw
    · exact (ne_of_none (((K68.trans K810).trans K1012) _ _ nlb e6) hlu).symm
    · exact (ne_of_none ((K810.trans K1012) _ _ nlw e8) hlu).symm
    · have hb : b = lb ∨ b = lw ∨ b = dh ∨ b = di ∨ b = dw ∨ b = lu := by simpa [HA.cells] using hb
      rcases hb with rfl | rfl | rfl | rfl | rfl | rfl
      · exact f0 KK4 nlb hlb
      · exact f0 KK6 nlw hlw
      · exact hdh0
      · exact f0 ((KK6.trans K68)) ndi hdi
      · exact f0 ((KK6.trans K68).trans K810) ndw hdw
      · exact f0 (((KK6.trans K68).trans K810).trans K1012) nlu hlu
theorem sc_muster : FnScope ["ship", "pages", "bell", "holding", "page"] ["ship", "pages", "bell"] (defScope s_muster) := ⟨rfl, rfl, rfl, by decide +kernel, rfl, by decide +kernel, by decide +kernel⟩
theorem c_muster (T : Txt K mg CM CH CV aL) {c Pt : Addr} (L : LamD K mg c) (TB : TabB base mg c Pt) : Cal P w K mg base 4 "muster" (spMuster K Pt) := by
  have c_Holding := c_Holding (P := P) (w := w) (base := base) T
  have c_in_order := c_in_order (P := P) (w := w) (base := base) T L TB
  have m_Holding_put_in := m_Holding_put_in (P := P) (w := w) (base := base) T
  have m_Holding_mustered := m_Holding_mustered (P := P) (w := w) (base := base) T
  refine cal_of T.d_muster (fun _ _ _ _ _ _ us hl => match us, hl with | [_, _, _], _ => rfl) sc_muster (fun vs H Q E h => ?_) (fun f cdv A outer s H vs Q E hr h => ?_)
  · obtain ⟨_, _, _, _, _, rfl, _⟩ := h; rfl
  · obtain ⟨u, v, s, pgs, bell, rfl, du, dv, Z, hpl, hpo, hT, k⟩ := h
    have noput : ∀ (a : HA) (n : Int), (hfs a n).lookup ("put_in" : Str) = none := fun a n => hf_no a _ (by decide +kernel)
    have nomus : ∀ (a : HA) (n : Int), (hfs a n).lookup ("mustered" : Str) = none := fun a n => hf_no a _ (by decide +kernel)
    refine ⟨_, (pss_cons (ps_set (i := 3) sc_muster.nd rfl (Or.inl rfl) (pe_mk c_Holding hr (by decide) rfl (pa_cons (pv 0) pa_nil)))
    (pss_cons (ps_for PassesOwn.never rfl (pi_tupK K (pe_c c_in_order hr (by decide) rfl (pa_cons (pv 1) pa_nil))) (pg_name (i := 4) sc_muster.nd rfl (Or.inl rfl)) (pss_one (ps_if (pt_cmpR op_le (pe_ix (ix_tupK K) (pv 4) pe_int (fun _ _ => rfl)) (pv 2) (nomark _)) (pss_one (ps_expr (pe_mt m_Holding_put_in hr (by decide) (pv 3) (pa_cons (pe_ix (ix_tupK K) (pv 4) pe_int (fun _ _ => rfl)) pa_nil)))) pss_nil)))
    (pss_one (ps_ret (pe_mt0 m_Holding_mustered hr (by decide) (pv 3)))))), ?_⟩
    refine ⟨_, rfl, fun m dx nm nd ne => ?_⟩
    have s0 : Same H (upd (upd H dx (.own m)) m (.ins CH dx [])) := fun b o e => by rw [upd_ne (ne_of_none e nm), upd_ne (ne_of_none e nd)]; exact e
    refine ⟨m, dx, u, s, rfl, upd_same, du.mono s0.tups, Z, fun H1 a K1 M1 hcell => ⟨rfl, ?_⟩⟩
    have S1 : Same H H1 := made_same (H1 := H1) nm nd K1
    have hc0 : ∀ b, b ∈ a.cells → H b = none := fun b hb => s0.free (hcell b (by simp [hb]))
    refine ⟨_, rfl, _, pgs, rfl, dv.mono S1.tups, hT.ext S1, fun H2 r E2 T2 dr => ?_⟩
    obtain ⟨ra, rs, rfl, r1, r2⟩ := id dr.tup_inv
    have lrs : rs.length = (ordP pgs).length := by have := r2.length; rwa [List.length_map] at this
    have lo : (ordP pgs).length = pgs.length := (List.mergeSort_perm _ _).length_eq
    have M2 := M1.ext E2
    have E02 : ExtN H H2 := (ext_same S1).trans E2
    refine ⟨ra, rfl, ⟨_, r1⟩, ?_⟩
    refine for_tup (K := K) (a := ra) (xs := rs) (fun i σ H3 => ∃ (z4 : Option V) (st : HS), σ = [some u, some v, some (.int bell), some (.ref m), z4] ∧ HObj K H3 CH m a (fixF s) st ∧ ButL a.cells H2 H3 ∧ st = holdL s (((ordP pgs).take i).filter fun p => decide (p.bell ≤ bell)))
      ⟨_, _, rfl, M2, ButL.refl _ _, rfl⟩ (fun i σ H3 _ ⟨_, _, _, _, B3, _⟩ => (B3.tups fun b hb => M2.notup hb).sq r1) ?_ ?_
    · rintro i x σ H3 hx ⟨z4, st, rfl, M3, B3, rfl⟩
      obtain ⟨pg, hpg, dp⟩ := item_inv (a := ra) r2 hx
      have T23 := B3.tups fun b hb => M2.notup hb
      obtain ⟨pa, cv, rfl, p1, p2⟩ := page_inv (dp.mono T23)
      have hmem : pg ∈ pgs := (List.mergeSort_perm _ _).mem_iff.mp (List.mem_of_getElem? hpg)
      have hok : ∀ p, p ∈ ((ordP pgs).take i).filter (fun p => decide (p.bell ≤ bell)) → ChgOk p.ch := fun p hp => hpo p ((List.mergeSort_perm _ _).mem_iff.mp (List.mem_of_mem_take (List.mem_filter.mp hp).1))
      have W := fold_wf (fx := fixF s) (start_wf Z) hok
      have hl : (((ordP pgs).take i).filter fun p => decide (p.bell ≤ bell)).length ≤ 20 := by
        have h1 := List.length_filter_le (fun p : Page => decide (p.bell ≤ bell)) ((ordP pgs).take i)
        rw [List.length_take] at h1
        omega
      have estep : holdL s (((ordP pgs).take (i + 1)).filter fun p => decide (p.bell ≤ bell)) = if pg.bell ≤ bell then putInF (fixF s) (holdL s (((ordP pgs).take i).filter fun p => decide (p.bell ≤ bell))) pg.ch else holdL s (((ordP pgs).take i).filter fun p => decide (p.bell ≤ bell)) := by
        rw [List.take_add_one, hpg]
        show holdL s (((ordP pgs).take i ++ [pg]).filter _) = _
        rw [List.filter_append]
        by_cases q : pg.bell ≤ bell
        · rw [if_pos q]
          have : [pg].filter (fun p => decide (p.bell ≤ bell)) = [pg] := by simp [q]
          rw [this]
          unfold holdL
          rw [List.foldl_append]
          rfl
        · rw [if_neg q]
          have : [pg].filter (fun p => decide (p.bell ≤ bell)) = [] := by simp [q]
          rw [this, List.append_nil]
      refine ⟨_, rfl, pa, _, _, .int pg.bell, rfl, rfl, p1, rfl, _, rfl, _, _, rfl, rfl, _, rfl, ?_⟩
      refine ite2 (fun q => ?_) (fun q => ?_)
      · have q : pg.bell ≤ bell := of_decide_eq_true q
        refine ⟨_, rfl, m, a.dx, _, rfl, M3.ob, noput _ _, _, rfl, pa, _, _, cv, rfl, rfl, p1, rfl, m, a, fixF s, _, cv, pg.ch, _, rfl, M3, W, by omega, p2, fun H4 B4 M4 => ?_⟩
        refine ⟨_, _, rfl, M4, B3.trans B4, ?_⟩
        rw [estep, if_pos q]
      · have q : ¬ pg.bell ≤ bell := fun z => q (decide_eq_true z)
        refine ⟨_, _, rfl, M3, B3, ?_⟩
        rw [estep, if_neg q]
    · rintro σ H3 ⟨z4, st, rfl, M3, B3, rfl⟩
      rw [lrs, List.take_length] at M3
      have hok : ∀ p, p ∈ (ordP pgs).filter (fun p => decide (p.bell ≤ bell)) → ChgOk p.ch := fun p hp => hpo p ((List.mergeSort_perm _ _).mem_iff.mp (List.mem_filter.mp hp).1)
      have W := fold_wf (fx := fixF s) (start_wf Z) hok
      have hl : ((ordP pgs).filter fun p => decide (p.bell ≤ bell)).length ≤ 20 := by
        have h1 := List.length_filter_le (fun p : Page => decide (p.bell ≤ bell)) (ordP pgs)
        omega
      refine ⟨_, rfl, m, a.dx, _, rfl, M3.ob, nomus _ _, m, a, fixF s, _, _, rfl, M3, W, by omega, fun H4 r S4 hr4 => ?_⟩
      have cl : ∀ b, b ∈ a.cells → (∃ kvs, H2 b = some (.dK kvs)) ∨ (∃ xs, H2 b = some (.lst xs)) ∨ ∃ C dx fs, H2 b = some (.ins C dx fs) := fun b hb => by
        rcases M2.cell hb with z | z
        · exact .inl z
        · exact .inr (.inl z)
      exact k H4 r ((ext_but E02 hc0 B3).trans (ext_same S4)) ((tab_but T2 cl B3).ext S4) hr4
end
end WS
/-! Places that want so many; posts told by names; where a hand is. -/
namespace WS
open PySem PySem.Spec PyProof.Rows L2 WM
open C8 (pe_gc pe_c pe_mk pe_mt pe_mt0)
open LamX (TabS Tabs ExtN TabB)
def withM (p : Place) (m : Int) : Place := ⟨p.nm, p.sk, p.rank, p.steps, m, p.grade⟩
def placeL (hs : List Hand) (posts : List (Option Str)) : List (Str × Str) := (hs.zip posts).filterMap fun x => x.2.map fun n => (x.1.nm, n)
def placesF (hs : List Hand) (posts : List (Option Str)) : List (Str × Str) := mergeA [] (placeL hs posts)
inductive Wh where
  | at_ (p : Str) | sick | below
def encW : Wh → PyData
  | .at_ p => .tuple [.str "at", .str p]
  | .sick => .tuple [.str "sick"]
  | .below => .tuple [.str "below"]
def whereF (n : Str) (l : List (Str × Str)) (sick : List Str) : Wh := match valA l n with
  | some p => .at_ p
  | none => if n ∈ sick then .sick else .below
abbrev RS (v : V) (n : Str) : Prop := v = .str n
def spWithM (K : PySem.W.Frag) : Sp := fun vs H Q _ => ∃ (u : V) (p : Place) (m : Int), vs = [u, .int m] ∧ Dt K H u (encP p) ∧ ∀ H' q, Same H H' → Dt K H' (.ref q) (encP (withM p m)) → Q (.ref q) H'
def spPlaces (K : PySem.W.Frag) : Sp := fun vs H Q _ => ∃ (u v : V) (hs : List Hand) (posts : List (Option Str)), vs = [u, v] ∧ Dt K H u (.tuple (hs.map encH)) ∧ Dt K H v (.tuple (posts.map oD)) ∧ posts.length = hs.length ∧ hs.length ≤ 1000 ∧
  ∀ H' d kvs, Same H H' → H d = none → H' d = some (.dK kvs) → DR RS kvs (placesF hs posts) → Q (.ref d) H'
def spWhere (K : PySem.W.Frag) : Sp := fun vs H Q _ => ∃ (n : Str) (d : Addr) (v : V) (kvs : List (Key × V)) (l : List (Str × Str)) (sick : List Str), vs = [.str n, .ref d, v] ∧ H d = some (.dK kvs) ∧ DR RS kvs l ∧ Dt K H v (.tuple (sick.map .str)) ∧
  ∀ H' q, Same H H' → Dt K H' (.ref q) (encW (whereF n l sick)) → Q (.ref q) H'
/-- a list grows at D alone -/
theorem tups_but {H H' : Hp} {D : Addr} {xs : List V} (e : H D = some (.lst xs)) (k : ∀ b, b ≠ D → H' b = H b) : Tups H H' := fun b ys hb => by
  have hbD : b ≠ D := fun z => by
    subst z
    exact not_tup_lst e ys hb
  rcases hb with hb | ⟨o, hb⟩
  · exact .inl (by rw [k b hbD]; exact hb)
  · exact .inr ⟨o, by rw [k b hbD]; exact hb⟩
section
variable {P : Program} {w : World} {K : PySem.W.Frag} {mg : Str → Option Value} {base : Heap} {CM CH CV aL : Addr}
theorem sc_with_many : FnScope ["place", "many"] ["place", "many"] (defScope s_with_many) := ⟨rfl, rfl, rfl, by decide +kernel, rfl, by decide +kernel, by decide +kernel⟩
theorem c_with_many (T : Txt K mg CM CH CV aL) : Cal P w K mg base 1 "with_many" (spWithM K) := by
  refine cal_of T.d_with_many (fun _ _ _ _ _ _ us hl => match us, hl with | [_, _], _ => rfl) sc_with_many (fun vs H Q E h => ?_) (fun f cdv A outer s H vs Q E hr h => ?_)
  · obtain ⟨_, _, _, rfl, _⟩ := h; rfl
  · obtain ⟨u, p, m, rfl, du, k⟩ := h
    obtain ⟨pa, rfl, p1⟩ := place_inv du
    refine ⟨_, (pss_one (ps_ret (pe_op (op_catAK K) (pe_slice (sl_tupK K) (pv 0) po_none (po_some pe_int)) (pe_tup (pa_cons (pv 1) (pa_cons (pe_ix (ix_tupK K) (pv 0) pe_int (fun _ _ => rfl)) pa_nil)))))), ?_⟩
    refine ⟨_, rfl, 4, rfl, pa, _, rfl, p1, (show ¬ (HT.sIx 6 0 none = 0 ∧ HT.sIx 6 6 (some 4) = 6) by decide), fun q1 hq1 => newG hq1 fun H1 S1 e1 => ?_⟩
    refine ⟨_, rfl, _, rfl, pa, _, _, .int p.grade, rfl, rfl, S1.tup p1, rfl, by show 2 ≤ sizeLine; decide, fun q2 hq2 => newG hq2 fun H2 S2 e2 => ?_⟩
    refine ⟨q1, q2, _, _, rfl, rfl, sqt_of (S2 _ _ e1), sqt_of e2, sz100 (by show (6 : Nat) ≤ 100000; decide), fun h => ?_, fun _ h => ?_, fun _ _ q hq => newG hq fun H3 S3 e3 => ?_⟩
    · exact nomatch h
    · exact nomatch h
    · refine k H3 q ((S1.trans S2).trans S3) (.tup (sqt_of e3) ?_)
      exact .cons (.str _) (.cons (.str _) (.cons (.int _) (.cons (.int _) (.cons (.int _) (.cons (.int _) .nil)))))
theorem sc_places_of : FnScope ["hands", "posts", "hand", "name"] ["hands", "posts"] (defScope s_places_of) := ⟨rfl, rfl, rfl, by decide +kernel, rfl, by decide +kernel, by decide +kernel⟩
theorem c_places_of (T : Txt K mg CM CH CV aL) : Cal P w K mg base 1 "places_of" (spPlaces K) := by
  refine cal_of T.d_places_of (fun _ _ _ _ _ _ us hl => match us, hl with | [_, _], _ => rfl) sc_places_of (fun vs H Q E h => ?_) (fun f cdv A outer s H vs Q E hr h => ?_)
  · obtain ⟨_, _, _, _, rfl, _⟩ := h; rfl
  · obtain ⟨u, v, hs, posts, rfl, du, dv, hl, hz, k⟩ := h
    obtain ⟨ua, us, rfl, u1, u2⟩ := id du.tup_inv
    obtain ⟨va, ws, rfl, v1, v2⟩ := id dv.tup_inv
    have lus : us.length = hs.length := by have := u2.length; rwa [List.length_map] at this
    have ews := oD_inv v2
    subst ews
    refine ⟨_, (pss_one (ps_ret (pe_callTy (call_dictPK K rfl) (by rfl) T.b_dict (by decide +kernel) (pa_cons (pe_lc (own := [("hand", 2), ("name", 3)]) rfl sc_places_of.nd (pi_zipAK K (by rfl) T.b_zip (pa_cons (pv 0) (pa_cons (pv 1) pa_nil))) (blkOk_by (own := [("hand", 2), ("name", 3)]) (N := ["hands", "posts", "hand", "name"]) (sc := defScope s_places_of) (by decide +kernel)) (fun _ _ _ _ _ => (pg_tupK K 2 rfl (pgs_cons (pg_name (i := 2) sc_places_of.nd rfl (Or.inl rfl)) (pgs_cons (pg_name (i := 3) sc_places_of.nd rfl (Or.inl rfl)) pgs_nil)))) (fun _ _ _ _ _ => (pts_one (pt_cmpR op_notN (pv 3) pe_non (nomark _)))) (fun _ _ _ _ _ => (pe_tup (pa_cons (pe_ix (ix_tupK K) (pv 2) pe_int (fun _ _ => rfl)) (pa_cons (pv 3) pa_nil))))) pa_nil)))), ?_⟩
    refine ⟨_, rfl, _, rfl, ua, va, us, _, rfl, .inr ⟨u1, v1, fun D hD => ?_⟩⟩
    refine lc_run (walk_zipT (K := K) (a := ua) (b := va) (xs := us) (ys := posts.map oS) rfl) (H0 := H) (fun j ac H4 => ∃ ps : List Addr, ac = ps.map V.ref ∧ ∃ vs : List (Key × V), Paired (fun p kv => SqT K H4 p [kV kv.1, kv.2]) ps vs ∧ DR RS vs (((hs.zip posts).take j).filterMap fun x => x.2.map fun n => (x.1.nm, n))) (Same.refl _) hD (fun _ _ => ⟨[], rfl, [], .nil, .nil⟩) (fun H4 S4 => ⟨S4.tup u1, S4.tup v1⟩) ?_ ?_
    · rintro j x ac H4 H5 hj hD0 S4 e4 ⟨ps, rfl, vs, hp, hv⟩ ⟨t, x1, x2, rfl, ht, rfl, hx1, hx2⟩
      have hx1 : us[j]? = some x1 := hx1
      have hx2 : (posts.map oS)[j]? = some x2 := hx2
      obtain ⟨h, hh, dh⟩ := item_inv (a := ua) u2 hx1
      have hjp : j < posts.length := by
        rw [List.length_map] at hj
        omega
      have hpj : posts[j]? = some posts[j] := List.getElem?_eq_getElem hjp
      rw [List.getElem?_map, hpj] at hx2
      have hx2 : oS posts[j] = x2 := Option.some.inj hx2
      generalize posts[j] = o at hpj hx2
      subst hx2
      have St : Same H4 (upd H4 t (.tup [x1, oS o])) := Same.new ht
      have et : upd H4 t (.tup [x1, oS o]) t = some (.tup [x1, oS o]) := upd_same
      generalize upd H4 t (.tup [x1, oS o]) = H5 at St et ⊢
      have dh5 := (dh.mono S4.tups).mono St.tups
      obtain ⟨ha, sa, rfl, h1, h2⟩ := hand_inv dh5
      have hzip : (hs.zip posts)[j]? = some (h, o) := by rw [List.getElem?_zip_eq_some]; exact ⟨hh, hpj⟩
      have hpl : ps.length ≤ 1000 := by
        have l1 := paired_len hp
        have l2 := paired_len hv
        have l3 := List.length_filterMap_le (fun x : Hand × Option Str => x.2.map fun n => (x.1.nm, n)) ((hs.zip posts).take j)
        rw [List.length_take, List.length_zip] at l3
        omega
      refine ⟨t, _, rfl, sqt_of et, rfl, _, _, rfl, _, _, rfl, rfl, rfl, ?_⟩
      cases o with
      | none =>
        refine ⟨_, rfl, rfl, _, rfl, iteF ?_⟩
        refine lc_skip S4 St e4 ⟨ps, rfl, vs, hp.mono fun p kv x => St.tup x, ?_⟩
        rw [List.take_add_one, hzip, List.filterMap_append]
        simpa using hv
      | some n =>
        refine ⟨_, rfl, rfl, _, rfl, iteT ?_⟩
        refine ⟨_, rfl, ha, _, _, .str h.nm, rfl, rfl, h1, rfl, _, rfl, by show 2 ≤ sizeLine; decide, fun p hp2 => newG hp2 fun H6 S6 e6 => ?_⟩
        refine lc_next hD0 S4 (St.trans S6) e4 (by rw [List.length_map]; omega) fun H7 S7 e7 k7 => ?_
        have t7 := tups_but ((St.trans S6) _ _ e4) k7
        refine ⟨ps ++ [p], by rw [List.map_append]; rfl, vs ++ [(.inr h.nm, .str n)], Paired.snoc (hp.mono fun p kv x => t7.sq ((St.trans S6).tup x)) (t7.sq (show SqT K H6 p [kV (.inr h.nm), .str n] from sqt_of e6)), ?_⟩
        rw [List.take_add_one, hzip, List.filterMap_append]
        exact Paired.snoc hv ⟨rfl, rfl⟩
    rintro ac H2 S2 e2 ⟨ps, rfl, vs, hp, hv⟩
    have hmin : min us.length (posts.map oS).length = (hs.zip posts).length := by rw [List.length_map, List.length_zip]; omega
    rw [hmin, List.take_length] at hv
    refine ⟨D, ps, vs, rfl, sql_of e2, hp, fun dh hdh => newG hdh fun H3 S3 e3 => ?_⟩
    exact k H3 dh _ (S2.trans S3) (S2.free hdh) e3 (DR.merge (l := []) .nil hv)
theorem sc_where_of : FnScope ["name", "there", "sick"] ["name", "there", "sick"] (defScope s_where_of) := ⟨rfl, rfl, rfl, by decide +kernel, rfl, by decide +kernel, by decide +kernel⟩
theorem c_where_of (T : Txt K mg CM CH CV aL) : Cal P w K mg base 1 "where_of" (spWhere K) := by
  refine cal_of T.d_where_of (fun _ _ _ _ _ _ us hl => match us, hl with | [_, _, _], _ => rfl) sc_where_of (fun vs H Q E h => ?_) (fun f cdv A outer s H vs Q E hr h => ?_)
  · obtain ⟨_, _, _, _, _, _, rfl, _⟩ := h; rfl
  · obtain ⟨n, d, v, kvs, l, sick, rfl, e1, d1, dv, k⟩ := h
    obtain ⟨va, vs, rfl, v1, v2⟩ := id dv.tup_inv
    have evs := v2.strs_inv
    subst evs
    refine ⟨_, (pss_cons (ps_if (pt_cmp (pc_din (hu_of hr) (pv 0) (pv 1)) rfl) (pss_one (ps_ret (pe_tup (pa_cons pe_str (pa_cons (pe_dget (hu_of hr) (pv 1) (pv 0) (fun _ _ => rfl)) pa_nil))))) pss_nil)
    (pss_cons (ps_if (pt_cmpR (op_in_seqK K) (pv 0) (pv 2) rfl) (pss_one (ps_ret (pe_tup (pa_cons pe_str pa_nil)))) pss_nil)
    (pss_one (ps_ret (pe_tup (pa_cons pe_str pa_nil)))))), ?_⟩
    refine ⟨_, rfl, _, rfl, d, _, rfl, DGet.k (k := .inr n) e1, _, rfl, ?_⟩
    unfold whereF at k
    rcases d1.val (n := n) with ⟨w1, w2⟩ | ⟨x, y, w1, w2, hr1⟩
    · rw [w2]
      rw [w1] at k
      simp only at k
      refine iteF ⟨_, rfl, _, rfl, va, _, rfl, .inr v1, rfl, flat_strs _, _, rfl, ?_⟩
      rw [if_neg Bool.false_ne_true, in_strs]
      by_cases hm : n ∈ sick
      · rw [if_pos hm] at k
        rw [decide_eq_true hm]
        refine iteT ⟨by show 1 ≤ sizeLine; decide, fun q hq => newG hq fun H1 S1 e1 => ?_⟩
        exact k H1 q S1 (.tup (sqt_of e1) (.cons (.str _) .nil))
      · rw [if_neg hm] at k
        rw [decide_eq_false hm]
        refine iteF ⟨by show 1 ≤ sizeLine; decide, fun q hq => newG hq fun H1 S1 e1 => ?_⟩
        exact k H1 q S1 (.tup (sqt_of e1) (.cons (.str _) .nil))
    · rw [w2]
      rw [w1] at k
      simp only at k
      subst hr1
      refine iteT ⟨_, rfl, _, rfl, d, .str x, rfl, by rw [← w2]; exact DGet.k (k := .inr n) e1, by show 2 ≤ sizeLine; decide, fun q hq => newG hq fun H1 S1 e1 => ?_⟩
      exact k H1 q S1 (.tup (sqt_of e1) (.cons (.str _) (.cons (.str _) .nil)))
end
end WS
/-! The voyage: the object, what comes, the lots, what man is asked. -/
namespace WS
open PySem PySem.Spec PyProof.Rows L2 WM
open C8 (pe_gc pe_c pe_mk pe_mt pe_mt0)
open LamX (TabS Tabs ExtN TabB)
/-! ### the mathematics -/
structure Ask where
  hands : List Hand
  lot : List Place
  stood : List (Option Str)
structure VS where
  coming : List Page
  hs : HS
  bell : Int
  stn : List (Str × Str)
  was : List (Str × Str)
  told : Told
def comeL (fx : HFix) (b : Int) : List Page → HS → List Page × HS
  | [], h => ([], h)
  | p :: r, h => if p.bell ≤ b then comeL fx b r (putInF fx h p.ch) else (p :: r, h)
def comeF (s : Ship) (st : VS) : VS := { st with coming := (comeL (fixF s) st.bell st.coming st.hs).1, hs := (comeL (fixF s) st.bell st.coming st.hs).2, told := toldF (comeL (fixF s) st.bell st.coming st.hs).2 }
def watchNo (s : Ship) (b : Int) : Nat := watF s.day (b % s.day.sum)
def lotW (s : Ship) (st : VS) : List Place := (s.bills.getD (watchNo s st.bell) []).map fun p => withM p ((valA (mergeA [] st.told.wants) p.nm).getD p.many)
def billH (s : Ship) (st : VS) : List Hand := st.told.roll.filter fun h => decide (h.sec = keeperF s.day s.turn st.bell) && !decide (h.nm ∈ st.told.sick)
def billF (s : Ship) (st : VS) : Ask := ⟨billH s st, lotW s st, (billH s st).map fun h => valA st.stn h.nm⟩
def heldP (s : Ship) (calls : List Str) : List Str := (s.books.filter fun b => decide (b.away = 1) && decide (b.word ∈ calls)).flatMap fun b => b.lot.map Place.nm
def heldL (s : Ship) (st : VS) : List (Str × Str) := st.told.roll.filterMap fun h => match valA st.was h.nm with
  | some p => if p ∈ heldP s st.told.calls then some (h.nm, p) else none
  | none => none
def heldF (s : Ship) (st : VS) : List (Str × Str) := mergeA [] (heldL s st)
def addPl (found : List Place) (p : Place) : List Place := if p.nm ∈ found.map Place.nm then found.set ((found.map Place.nm).idxOf p.nm) p else found ++ [p]
def lotsA (s : Ship) : List (Str × List Place) := mergeA [] (s.books.map fun b => (b.word, b.lot))
def callsL (s : Ship) (st : VS) (calls : List Str) : List Place := calls.foldl (fun f w => ((valA (lotsA s) w).getD []).foldl addPl f) (lotW s st)
def lotC (s : Ship) (st : VS) (gone : List Str) : List Place := (callsL s st st.told.calls).map fun p => withM p (p.many - (gone.count p.nm : Nat))
def callsH (s : Ship) (st : VS) : List Hand := st.told.roll.filter fun h => !decide (h.nm ∈ st.told.sick) && !decide (h.nm ∈ keysA (heldF s st))
def callsF (s : Ship) (st : VS) : Ask := ⟨callsH s st, lotC s st ((heldF s st).map (·.2)), (callsH s st).map fun h => valA st.was h.nm⟩
def askF (s : Ship) (st : VS) : Ask := if st.told.calls = [] then billF s st else callsF s st
/-! ### what a ship and a state must keep -/
structure PlOk (p : Place) : Prop where
  gr : 0 ≤ p.grade ∧ p.grade ≤ 2
  rk : p.rank ≤ 7
  mn : 0 ≤ p.many ∧ p.many ≤ 1000
  nm : PyData.strOk p.nm = true
structure ShipG (s : Ship) : Prop where
  sz : ShipSz s
  day : GoodDay s.day
  turn : s.turn ∈ goodTurns
  bl : s.bills.length = s.day.length
  lotB : ∀ l, l ∈ s.bills → l.length ≤ 10
  lotK : ∀ b, b ∈ s.books → b.lot.length ≤ 10
  nk : s.books.length ≤ 5
  wok : ∀ b, b ∈ s.books → PyData.strOk b.word = true
  plB : ∀ l, l ∈ s.bills → ∀ p, p ∈ l → PlOk p
  plK : ∀ b, b ∈ s.books → ∀ p, p ∈ b.lot → PlOk p
structure ToldG (s : Ship) (t : Told) : Prop where
  roll : t.roll.length ≤ 64
  calls : t.calls.length ≤ 64
  words : ∀ x, x ∈ t.calls → x ∈ s.books.map Book.word
  ok : ∀ h, h ∈ t.roll → HandOk h
/-! ### the heap -/
structure VA where
  dx : Addr
  u : V
  lc : Addr
  mh : Addr
  a : HA
  ds : Addr
  dwa : Addr
  tv : V
def vfs (x : VA) (bell : Int) : List (Str × V) := [("ship_here", x.u), ("coming", .ref x.lc), ("holding", .ref x.mh), ("bell_now", .int bell), ("station_by", .ref x.ds), ("was_at", .ref x.dwa), ("told_now", x.tv)]
theorem vf_1 (a : VA) (n : Int) : (vfs a n).lookup ("ship_here" : Str) = some a.u := lk_hit (by decide +kernel)
theorem vf_2 (a : VA) (n : Int) : (vfs a n).lookup ("coming" : Str) = some (.ref a.lc) := (lk_miss (by decide +kernel)).trans (lk_hit (by decide +kernel))
theorem vf_3 (a : VA) (n : Int) : (vfs a n).lookup ("holding" : Str) = some (.ref a.mh) := (lk_miss (by decide +kernel)).trans ((lk_miss (by decide +kernel)).trans (lk_hit (by decide +kernel)))
theorem vf_4 (a : VA) (n : Int) : (vfs a n).lookup ("bell_now" : Str) = some (.int n) := (lk_miss (by decide +kernel)).trans ((lk_miss (by decide +kernel)).trans ((lk_miss (by decide +kernel)).trans (lk_hit (by decide +kernel))))
theorem vf_5 (a : VA) (n : Int) : (vfs a n).lookup ("station_by" : Str) = some (.ref a.ds) := (lk_miss (by decide +kernel)).trans ((lk_miss (by decide +kernel)).trans ((lk_miss (by decide +kernel)).trans ((lk_miss (by decide +kernel)).trans (lk_hit (by decide +kernel)))))
theorem vf_6 (a : VA) (n : Int) : (vfs a n).lookup ("was_at" : Str) = some (.ref a.dwa) := (lk_miss (by decide +kernel)).trans ((lk_miss (by decide +kernel)).trans ((lk_miss (by decide +kernel)).trans ((lk_miss (by decide +kernel)).trans ((lk_miss (by decide +kernel)).trans (lk_hit (by decide +kernel))))))
theorem vf_7 (a : VA) (n : Int) : (vfs a n).lookup ("told_now" : Str) = some a.tv := (lk_miss (by decide +kernel)).trans ((lk_miss (by decide +kernel)).trans ((lk_miss (by decide +kernel)).trans ((lk_miss (by decide +kernel)).trans ((lk_miss (by decide +kernel)).trans ((lk_miss (by decide +kernel)).trans (lk_hit (by decide +kernel)))))))
theorem vf_no (a : VA) (n : Int) {m : Str} (h : (((["ship_here", "coming", "holding", "bell_now", "station_by", "was_at", "told_now"] : List Str).any fun f => m == f)) = false) : (vfs a n).lookup m = none := by
  simp only [List.any_cons, List.any_nil, Bool.or_eq_false_iff, Bool.or_false] at h
  obtain ⟨h1, h2, h3, h4, h5, h6, h7⟩ := h
  exact (lk_miss h1).trans ((lk_miss h2).trans ((lk_miss h3).trans ((lk_miss h4).trans ((lk_miss h5).trans ((lk_miss h6).trans (lk_miss h7))))))
structure VObj (K : PySem.W.Frag) (H : Hp) (CV CH m : Addr) (x : VA) (s : Ship) (st : VS) : Prop where
  ob : H m = some (.ins CV x.dx (vfs x st.bell))
  sh : Dt K H x.u (encS s)
  co : ∃ xs, H x.lc = some (.lst xs) ∧ DtAll K H xs (st.coming.map encPg)
  ho : HObj K H CH x.mh x.a (fixF s) st.hs
  ds : ∃ kvs, H x.ds = some (.dK kvs) ∧ DR RS kvs st.stn
  wa : ∃ kvs, H x.dwa = some (.dK kvs) ∧ DR RS kvs st.was
  to : ToldAt K H x.tv st.told
  ap : m ≠ x.mh ∧ x.lc ≠ x.a.lb ∧ x.lc ≠ x.a.lw ∧ x.lc ≠ x.a.lu ∧ x.ds ≠ x.dwa ∧ x.ds ∉ x.a.cells ∧ x.dwa ∉ x.a.cells
def VA.cells (x : VA) (m : Addr) : List Addr := m :: x.lc :: x.ds :: x.a.cells
theorem VObj.mono {K : PySem.W.Frag} {H H' : Hp} {CV CH m : Addr} {x : VA} {s : Ship} {st : VS} (M : VObj K H CV CH m x s st) (e : Same H H') : VObj K H' CV CH m x s st := by
  obtain ⟨xs, e1, d1⟩ := M.co
  obtain ⟨k2, e2, d2⟩ := M.ds
  obtain ⟨k3, e3, d3⟩ := M.wa
  exact ⟨e _ _ M.ob, M.sh.mono e.tups, ⟨xs, e _ _ e1, d1.mono e.tups⟩, M.ho.mono e, ⟨k2, e _ _ e2, d2⟩, ⟨k3, e _ _ e3, d3⟩, M.to.mono e, M.ap⟩
structure AskAt (K : PySem.W.Frag) (H : Hp) (q : Addr) (k : Ask) : Prop where
  ex : ∃ r1 r2 r3, SqT K H q [.ref r1, .ref r2, .ref r3] ∧ Dt K H (.ref r1) (.tuple (k.hands.map encH)) ∧ Dt K H (.ref r2) (.tuple (k.lot.map encP)) ∧ Dt K H (.ref r3) (.tuple (k.stood.map oD))
theorem AskAt.tups {K : PySem.W.Frag} {H H' : Hp} {q : Addr} {k : Ask} (h : AskAt K H q k) (e : Tups H H') : AskAt K H' q k := by
  obtain ⟨r1, r2, r3, a, b, c, d⟩ := h.ex
  exact ⟨r1, r2, r3, e.sq a, b.mono e, c.mono e, d.mono e⟩
theorem paired_map {α β γ : Type} {F : α → β → Prop} {G : α → γ → Prop} {f : β → γ} {l : List α} {m : List β} (h : Paired F l m) (k : ∀ a b, F a b → G a (f b)) : Paired G l (m.map f) := by
  induction h with
  | nil => exact .nil
  | cons h _ ih => exact .cons (k _ _ h) ih
theorem oS_get {l : List (Str × Str)} {kvs : List (Key × V)} {n : Str} (d : DR RS kvs l) : (valV kvs (.inr n)).getD .non = oS (valA l n) := by
  rcases d.val (n := n) with ⟨w1, w2⟩ | ⟨x, y, w1, w2, hr⟩
  · rw [w1, w2]; rfl
  · rw [w1, w2, hr]; rfl
def spLotW (K : PySem.W.Frag) (CV CH : Addr) : Sp := fun vs H Q _ => ∃ (m : Addr) (x : VA) (s : Ship) (st : VS), vs = [.ref m] ∧ VObj K H CV CH m x s st ∧ ShipG s ∧ 0 ≤ st.bell ∧
  ∀ H' l xs, Same H H' → H l = none → H' l = some (.lst xs) → DtAll K H' xs ((lotW s st).map encP) → Q (.ref l) H'
def spBill (K : PySem.W.Frag) (CV CH : Addr) : Sp := fun vs H Q _ => ∃ (m : Addr) (x : VA) (s : Ship) (st : VS), vs = [.ref m] ∧ VObj K H CV CH m x s st ∧ ShipG s ∧ ToldG s st.told ∧ 0 ≤ st.bell ∧
  ∀ H' q, Same H H' → AskAt K H' q (billF s st) → Q (.ref q) H'
section
variable {P : Program} {w : World} {K : PySem.W.Frag} {mg : Str → Option Value} {base : Heap} {CM CH CV aL : Addr}
theorem sc_Voyage_lot_of_watch : FnScope ["self", "number", "watch", "bell", "wants", "place"] ["self"] (defScope s_Voyage_lot_of_watch) := ⟨rfl, rfl, rfl, by decide +kernel, rfl, by decide +kernel, by decide +kernel⟩
theorem m_Voyage_lot_of_watch (T : Txt K mg CM CH CV aL) : Met P w K mg base 3 CV "lot_of_watch" (spLotW K CV CH) := by
  have c_watch_at := c_watch_at (P := P) (w := w) (base := base) T
  have c_with_many := c_with_many (P := P) (w := w) (base := base) T
  refine met_of T.cls_Voyage T.md_Voyage_lot_of_watch (fun _ _ _ _ _ _ us hl => match us, hl with | [_], _ => rfl) sc_Voyage_lot_of_watch (fun vs H Q E h => ?_) (fun f cdv A outer s H vs Q E hr h => ?_)
  · obtain ⟨_, _, _, _, rfl, _⟩ := h; rfl
  · obtain ⟨m, x, s, st, rfl, M, G, hb, k⟩ := h
    obtain ⟨ua, d0, t0, r0, b0, k0, eu, u1, dd, dt, dr, db, dk⟩ := ship_inv M.sh
    obtain ⟨ba, bs, rfl, b1, b2⟩ := id db.tup_inv
    have lbs : bs.length = s.bills.length := by have := b2.length; rwa [List.length_map] at this
    obtain ⟨g0, g1, g2⟩ := G.day
    obtain ⟨s1, s2⟩ := sum_bd g1
    have hl : 0 < s.day.length := List.length_pos_iff.mpr g0
    have hw : watchNo s st.bell < s.bills.length := by
      rw [G.bl]
      exact watF_lt (Int.emod_nonneg _ (by omega)) (Int.emod_lt_of_pos _ (by omega))
    obtain ⟨q, r1, r2, r3, r4, ws, et, a1, a2, a3, a4, a5, a6⟩ := M.to.ex
    refine ⟨_, (pss_cons (ps_asg (pe_c c_watch_at hr (by decide) rfl (pa_cons (pe_ix (ix_tupK K) (pe_fldK K (pv 0) rfl) pe_int (fun _ _ => rfl)) (pa_cons (pe_fldK K (pv 0) rfl) pa_nil))) (pg_tupK K 3 rfl (pgs_cons (pg_name (i := 1) sc_Voyage_lot_of_watch.nd rfl (Or.inl rfl)) (pgs_cons (pg_name (i := 2) sc_Voyage_lot_of_watch.nd rfl (Or.inl rfl)) (pgs_cons (pg_name (i := 3) sc_Voyage_lot_of_watch.nd rfl (Or.inl rfl)) pgs_nil)))))
    (pss_cons (ps_set (i := 4) sc_Voyage_lot_of_watch.nd rfl (Or.inr rfl) (pe_callTy (call_dictTK K rfl) (by rfl) T.b_dict (by decide +kernel) (pa_cons (pe_ix (ix_tupK K) (pe_fldK K (pv 0) rfl) pe_int (fun _ _ => rfl)) pa_nil)))
    (pss_one (ps_ret (pe_lc (own := [("place", 5)]) rfl sc_Voyage_lot_of_watch.nd (pi_tupK K (pe_ix (ix_tupK K) (pe_ix (ix_tupK K) (pe_fldK K (pv 0) rfl) pe_int (fun _ _ => rfl)) (pv 2) (fun _ _ => rfl))) (blkOk_by (own := [("place", 5)]) (N := ["self", "number", "watch", "bell", "wants", "place"]) (sc := defScope s_Voyage_lot_of_watch) (by decide +kernel)) (fun _ _ _ _ _ => (pg_name (i := 5) sc_Voyage_lot_of_watch.nd rfl (Or.inl rfl))) (fun _ _ _ _ _ => pts_nil) (fun _ _ _ _ _ => (pe_c c_with_many hr (by decide) rfl (pa_cons (pv 5) (pa_cons (pe_dget2 (hu_of hr) (pv 4) (pe_ix (ix_tupK K) (pv 5) pe_int (fun _ _ => rfl)) (pe_ix (ix_tupK K) (pv 5) pe_int (fun _ _ => rfl)) ⟨rfl, rfl, rfl, rfl⟩) pa_nil))))))))), ?_⟩
    refine ⟨_, rfl, m, CV, x.dx, _, _, rfl, M.ob, T.cls_Voyage, T.na_Voyage_ship_here, vf_1 _ _, ua, _, _, d0, eu, rfl, u1, rfl, _, rfl, m, CV, x.dx, _, _, rfl, M.ob, T.cls_Voyage, T.na_Voyage_bell_now, vf_4 _ _, _, s.day, st.bell, rfl, dd, G.day, hb, fun H1 p S1 hp => ?_⟩
    have M1 := M.mono S1
    refine ⟨p, _, rfl, hp, rfl, _, _, rfl, _, _, rfl, _, _, rfl, rfl, ?_⟩
    have hpair : Paired (fun p kv => SqT K H1 p [kV kv.1, kv.2]) ws (st.told.wants.map fun x => ((.inr x.1, .int x.2) : Key × V)) := by
      exact paired_map a5 fun p kv z => S1.tup z
    have hdr : DR (fun v i => v = V.int i) (st.told.wants.map fun x => ((.inr x.1, .int x.2) : Key × V)) st.told.wants := by
      generalize st.told.wants = l
      induction l with
      | nil => exact .nil
      | cons y l ih => exact .cons ⟨rfl, rfl⟩ ih
    refine ⟨_, rfl, m, CV, x.dx, _, _, rfl, M1.ob, T.cls_Voyage, T.na_Voyage_told_now, vf_7 _ _, q, _, _, .ref r3, et, rfl, S1.tup a1, rfl, r3, ws, _, rfl, a4.mono S1, hpair, fun dw hdw => newG hdw fun H2 S2 e2 => ?_⟩
    have M2 := M1.mono S2
    have S12 := S1.trans S2
    have hdm : DR (fun v i => v = V.int i) (mergeK [] (st.told.wants.map fun x => ((.inr x.1, .int x.2) : Key × V))) (mergeA [] st.told.wants) := DR.merge (l := []) .nil hdr
    generalize mergeK [] (st.told.wants.map fun x => ((.inr x.1, .int x.2) : Key × V)) = kvs at e2 hdm
    have hbw : s.bills[watchNo s st.bell]? = some (s.bills[watchNo s st.bell]) := List.getElem?_eq_getElem hw
    have hgd : s.bills.getD (watchNo s st.bell) [] = s.bills[watchNo s st.bell] := by rw [List.getD_eq_getElem?_getD, hbw]; rfl
    have hlt : (s.bills[watchNo s st.bell]).length ≤ 10 := G.lotB _ (List.getElem_mem hw)
    have elw : lotW s st = (s.bills[watchNo s st.bell]).map fun p => withM p ((valA (mergeA [] st.told.wants) p.nm).getD p.many) := by unfold lotW; rw [hgd]
    generalize s.bills[watchNo s st.bell] = lot at hbw hlt elw
    obtain ⟨y, hy, dy⟩ := item_get b2 hbw
    obtain ⟨la, ls, rfl, l1, l2⟩ := id (Dt.tup_inv dy)
    have lls : ls.length = lot.length := by have := l2.length; rwa [List.length_map] at this
    refine ⟨_, rfl, m, CV, x.dx, _, _, rfl, M2.ob, T.cls_Voyage, T.na_Voyage_ship_here, vf_1 _ _, ua, _, _, .ref ba, eu, rfl, S12.tup u1, rfl, _, rfl, ba, _, _, .ref la, rfl, rfl, S12.tup b1, at_of rfl hy, la, rfl, ⟨_, S12.tup l1⟩, fun D hD => ?_⟩
    refine lc_run (walk_tup (K := K) (a := la) (xs := ls)) (H0 := H2) (fun j ac H4 => DtAll K H4 ac (((lot.take j).map fun p => withM p ((valA (mergeA [] st.told.wants) p.nm).getD p.many)).map encP)) (Same.refl _) hD (fun _ _ => .nil) (fun H4 S4 => S4.tup (S12.tup l1)) ?_ ?_
    · rintro j z ac H4 H5 hj hD0 S4 e4 hac ⟨rfl, hx⟩
      obtain ⟨pl, hpl, dp⟩ := item_inv (a := la) l2 hx
      have dp := (dp.mono S12.tups).mono S4.tups
      obtain ⟨pa, rfl, p1⟩ := place_inv dp
      have hal := hac.length
      rw [List.length_map, List.length_map, List.length_take] at hal
      refine ⟨rfl, g_yes (iteT ?_)⟩
      refine ⟨_, rfl, _, rfl, dw, rfl, .inl ⟨_, .inl (S4 _ _ e2)⟩, _, rfl, pa, _, _, .str pl.nm, rfl, rfl, p1, rfl, _, rfl, pa, _, _, .int pl.many, rfl, rfl, p1, rfl, _, DGet.k (k := .inr pl.nm) (S4 _ _ e2), ?_⟩
      have eg : (valV kvs (.inr pl.nm)).getD (.int pl.many) = .int ((valA (mergeA [] st.told.wants) pl.nm).getD pl.many) := by
        rcases hdm.val (n := pl.nm) with ⟨w1, w2⟩ | ⟨x, y, w1, w2, hr⟩
        · rw [w1, w2]; rfl
        · rw [w1, w2, hr]; rfl
      rw [eg]
      refine ⟨_, pl, _, rfl, dp, fun H6 q6 S6 d6 => ?_⟩
      refine lc_next hD0 S4 S6 e4 (by omega) fun H7 S7 e7 k7 => ?_
      have t7 := tups_but (S6 _ _ e4) k7
      rw [List.take_add_one, hpl, List.map_append, List.map_append]
      exact ((hac.mono S6.tups).mono t7).append (.cons (d6.mono t7) .nil)
    rintro ac H3 S3 e3 hac
    rw [lls, List.take_length] at hac
    exact k H3 D ac (S12.trans S3) (S12.free hD) e3 (by rw [elw]; exact hac)
theorem sc_Voyage_by_bill : FnScope ["self", "roll", "sick", "wants", "calls", "section", "hands", "hand"] ["self"] (defScope s_Voyage_by_bill) := ⟨rfl, rfl, rfl, by decide +kernel, rfl, by decide +kernel, by decide +kernel⟩
theorem m_Voyage_by_bill (T : Txt K mg CM CH CV aL) : Met P w K mg base 7 CV "by_bill" (spBill K CV CH) := by
  have c_keeper := c_keeper (P := P) (w := w) (base := base) T
  have m_Voyage_lot_of_watch := m_Voyage_lot_of_watch (P := P) (w := w) (base := base) T
  refine met_of T.cls_Voyage T.md_Voyage_by_bill (fun _ _ _ _ _ _ us hl => match us, hl with | [_], _ => rfl) sc_Voyage_by_bill (fun vs H Q E h => ?_) (fun f cdv A outer s H vs Q E hr h => ?_)
  · obtain ⟨_, _, _, _, rfl, _⟩ := h; rfl
  · obtain ⟨m, x, s, st, rfl, M, G, TG, hb, k⟩ := h
    obtain ⟨ua, d0, t0, r0, b0, k0, eu, u1, dd, dt, dr, db, dk⟩ := ship_inv M.sh
    obtain ⟨q, r1, r2, r3, r4, ws, et, a1, a2, a3, a4, a5, a6⟩ := M.to.ex
    obtain ⟨_, rs, e1, c1, c2⟩ := id a2.tup_inv
    cases e1
    obtain ⟨_, ss, e2, s1, s2⟩ := id a3.tup_inv
    cases e2
    have es := s2.strs_inv
    subst es
    have lrs : rs.length = st.told.roll.length := by have := c2.length; rwa [List.length_map] at this
    have hroll := TG.roll
    have nolot : (vfs x st.bell).lookup ("lot_of_watch" : Str) = none := vf_no x _ (by decide +kernel)
    refine ⟨_, (pss_cons (ps_asg (pe_fldK K (pv 0) rfl) (pg_tupK K 4 rfl (pgs_cons (pg_name (i := 1) sc_Voyage_by_bill.nd rfl (Or.inl rfl)) (pgs_cons (pg_name (i := 2) sc_Voyage_by_bill.nd rfl (Or.inr rfl)) (pgs_cons (pg_name (i := 3) sc_Voyage_by_bill.nd rfl (Or.inl rfl)) (pgs_cons (pg_name (i := 4) sc_Voyage_by_bill.nd rfl (Or.inl rfl)) pgs_nil))))))
    (pss_cons (ps_set (i := 5) sc_Voyage_by_bill.nd rfl (Or.inr rfl) (pe_c c_keeper hr (by decide) rfl (pa_cons (pe_ix (ix_tupK K) (pe_fldK K (pv 0) rfl) pe_int (fun _ _ => rfl)) (pa_cons (pe_ix (ix_tupK K) (pe_fldK K (pv 0) rfl) pe_int (fun _ _ => rfl)) (pa_cons (pe_fldK K (pv 0) rfl) pa_nil)))))
    (pss_cons (ps_set (i := 6) sc_Voyage_by_bill.nd rfl (Or.inl rfl) (pe_callTy (call_tuple_ofK K) (by rfl) T.b_tuple (by decide +kernel) (pa_cons (pe_lc (own := [("hand", 7)]) rfl sc_Voyage_by_bill.nd (pi_tupK K (pv 1)) (blkOk_by (own := [("hand", 7)]) (N := ["self", "roll", "sick", "wants", "calls", "section", "hands", "hand"]) (sc := defScope s_Voyage_by_bill) (by decide +kernel)) (fun _ _ _ _ _ => (pg_name (i := 7) sc_Voyage_by_bill.nd rfl (Or.inl rfl))) (fun _ _ _ _ _ => (pts_one (PW.pt (pw_and (pt_cmpR op_eq (pe_ix (ix_tupK K) (pv 7) pe_int (fun _ _ => rfl)) (pv 5) (nomark _)) (pw_and1 (pt_cmpR (op_notIn_seqK K) (pe_ix (ix_tupK K) (pv 7) pe_int (fun _ _ => rfl)) (pv 2) rfl)))))) (fun _ _ _ _ _ => (pv 7))) pa_nil)))
    (pss_one (ps_ret (pe_tup (pa_cons (pv 6) (pa_cons (pe_callTy (call_tuple_ofK K) (by rfl) T.b_tuple (by decide +kernel) (pa_cons (pe_mt0 m_Voyage_lot_of_watch hr (by decide) (pv 0)) pa_nil)) (pa_cons (pe_callTy (call_tuple_ofK K) (by rfl) T.b_tuple (by decide +kernel) (pa_cons (pe_lc (own := [("hand", 7)]) rfl sc_Voyage_by_bill.nd (pi_tupK K (pv 6)) (blkOk_by (own := [("hand", 7)]) (N := ["self", "roll", "sick", "wants", "calls", "section", "hands", "hand"]) (sc := defScope s_Voyage_by_bill) (by decide +kernel)) (fun _ _ _ _ _ => (pg_name (i := 7) sc_Voyage_by_bill.nd rfl (Or.inl rfl))) (fun _ _ _ _ _ => pts_nil) (fun _ _ _ _ _ => (pe_dget1 (hu_of hr) (pe_fldK K (pv 0) rfl) (pe_ix (ix_tupK K) (pv 7) pe_int (fun _ _ => rfl)) ⟨rfl, rfl, rfl, rfl⟩))) pa_nil)) pa_nil))))))))), ?_⟩
    refine ⟨_, rfl, m, CV, x.dx, _, _, rfl, M.ob, T.cls_Voyage, T.na_Voyage_told_now, vf_7 _ _, q, _, et, a1, rfl, _, _, rfl, _, _, rfl, _, _, rfl, _, _, rfl, rfl, ?_⟩
    refine ⟨_, rfl, m, CV, x.dx, _, _, rfl, M.ob, T.cls_Voyage, T.na_Voyage_ship_here, vf_1 _ _, ua, _, _, d0, eu, rfl, u1, rfl, _, rfl, m, CV, x.dx, _, _, rfl, M.ob, T.cls_Voyage, T.na_Voyage_ship_here, vf_1 _ _, ua, _, _, t0, eu, rfl, u1, rfl, _, rfl, m, CV, x.dx, _, _, rfl, M.ob, T.cls_Voyage, T.na_Voyage_bell_now, vf_4 _ _, _, _, s.day, s.turn, st.bell, rfl, dd, G.day, dt, G.turn, hb, fun H1 S1 => ?_⟩
    refine ⟨_, rfl, r1, rfl, ⟨_, S1.tup c1⟩, fun D hD => ?_⟩
    refine lc_run (walk_tup (K := K) (a := r1) (xs := rs)) (H0 := H1) (fun j ac H4 => DtAll K H4 ac (((st.told.roll.take j).filter fun h => decide (h.sec = keeperF s.day s.turn st.bell) && !decide (h.nm ∈ st.told.sick)).map encH)) (Same.refl _) hD (fun _ _ => .nil) (fun H4 S4 => S4.tup (S1.tup c1)) ?_ ?_
    · rintro j z ac H4 H5 hj hD0 S4 e4 hac ⟨rfl, hx⟩
      obtain ⟨h, hh, dh⟩ := item_inv (a := r1) c2 hx
      have dh := (dh.mono S1.tups).mono S4.tups
      obtain ⟨ha, sa, rfl, h1, h2⟩ := hand_inv dh
      have hal := hac.length
      rw [List.length_map] at hal
      have hfl := List.length_filter_le (fun h : Hand => decide (h.sec = keeperF s.day s.turn st.bell) && !decide (h.nm ∈ st.told.sick)) (st.told.roll.take j)
      rw [List.length_take] at hfl
      have skip : (decide (h.sec = keeperF s.day s.turn st.bell) && !decide (h.nm ∈ st.told.sick)) = false → DtAll K H5 ac (((st.told.roll.take (j + 1)).filter fun h => decide (h.sec = keeperF s.day s.turn st.bell) && !decide (h.nm ∈ st.told.sick)).map encH) := fun hf => by
        rw [List.take_add_one, hh, List.filter_append]
        show DtAll K H5 ac ((_ ++ [h].filter _).map encH)
        rw [List.filter_cons, if_neg (by rw [hf]; decide)]
        simpa using hac
      refine ⟨rfl, ?_⟩
      refine ⟨_, rfl, ha, _, _, .int h.sec, rfl, rfl, h1, rfl, _, rfl, rfl, _, rfl, ?_⟩
      refine ite2 (fun c => ?_) (fun c => ?_)
      · have c : h.sec = keeperF s.day s.turn st.bell := by
          have := of_decide_eq_true c
          injection this
        refine ⟨_, rfl, ha, _, _, .str h.nm, rfl, rfl, h1, rfl, _, rfl, r2, _, rfl, .inr (S4.tup (S1.tup s1)), rfl, flat_strs _, _, rfl, ?_⟩
        rw [if_pos rfl, in_strs]
        by_cases hm : h.nm ∈ st.told.sick
        · rw [decide_eq_true hm]
          refine iteF (lc_skip S4 (Same.refl _) e4 (skip (by rw [decide_eq_true hm]; simp)))
        · rw [decide_eq_false hm]
          refine iteT ⟨_, rfl, ?_⟩
          refine lc_next hD0 S4 (Same.refl _) e4 (by omega) fun H7 S7 e7 k7 => ?_
          have t7 := tups_but e4 k7
          rw [List.take_add_one, hh, List.filter_append, List.map_append]
          refine (hac.mono t7).append ?_
          show DtAll K H7 [.ref ha] (([h].filter _).map encH)
          rw [List.filter_cons, if_pos (by rw [decide_eq_true c, decide_eq_false hm]; rfl)]
          exact .cons (dh.mono t7) .nil
      · have c : ¬ h.sec = keeperF s.day s.turn st.bell := fun z => c (decide_eq_true (congrArg V.int z))
        refine iteF (lc_skip S4 (Same.refl _) e4 (skip (by rw [decide_eq_false c]; rfl)))
    rintro ac H2 S2 e2 hac
    rw [lrs, List.take_length] at hac
    have hac : DtAll K H2 ac ((billH s st).map encH) := hac
    refine ⟨D, _, rfl, .inl ⟨sql_of e2, fun th hth => newG hth fun H3 S3 e3 => ?_⟩⟩
    have S13 : Same H H3 := (S1.trans S2).trans S3
    have M3 := M.mono S13
    have hacL := hac.length
    rw [List.length_map] at hacL
    have hbl : (billH s st).length ≤ 64 := Nat.le_trans (List.length_filter_le _ _) hroll
    refine ⟨_, rfl, _, rfl, m, x.dx, _, rfl, M3.ob, nolot, m, x, s, st, rfl, M3, G, hb, fun H4 l xs S4 hl e4 dl => ?_⟩
    refine ⟨l, _, rfl, .inl ⟨sql_of e4, fun tl htl => newG htl fun H5 S5 e5 => ?_⟩⟩
    have S35 := S4.trans S5
    have M5 := M3.mono S35
    refine ⟨_, rfl, th, rfl, ⟨_, sqt_of (S35 _ _ e3)⟩, fun D2 hD2 => ?_⟩
    obtain ⟨kvs, f1, g1⟩ := M5.ds
    refine lc_run (walk_tup (K := K) (a := th) (xs := ac)) (H0 := H5) (fun j ac H4 => ac = (((billH s st).take j).map fun h => valA st.stn h.nm).map oS) (Same.refl _) hD2 (fun _ _ => rfl) (fun H4 S4 => sqt_of (S4 _ _ (S35 _ _ e3))) ?_ ?_
    · rintro j z ac2 H6 H7 hj hD0 S6 e6 rfl ⟨rfl, hx⟩
      obtain ⟨h, hh, dh⟩ := item_inv (a := th) hac hx
      have dh := ((dh.mono S3.tups).mono S35.tups).mono S6.tups
      obtain ⟨ha, sa, rfl, h1, h2⟩ := hand_inv dh
      have M6 := M5.mono S6
      refine ⟨rfl, g_yes (iteT ?_)⟩
      refine ⟨_, rfl, m, CV, x.dx, _, _, rfl, M6.ob, T.cls_Voyage, T.na_Voyage_station_by, vf_5 _ _, x.ds, rfl, .inl ⟨_, .inl (S6 _ _ f1)⟩, _, rfl, ha, _, _, .str h.nm, rfl, rfl, h1, rfl, _, DGet.k (k := .inr h.nm) (S6 _ _ f1), ?_⟩
      rw [oS_get g1]
      refine lc_next hD0 S6 (Same.refl _) e6 (by rw [List.length_map, List.length_map, List.length_take]; omega) fun H8 _ _ _ => ?_
      rw [List.take_add_one, hh]
      simp
    rintro ac2 H6 S6 e6 rfl
    rw [hacL, List.take_length] at e6
    refine ⟨D2, _, rfl, .inl ⟨sql_of e6, fun t3 ht3 => newG ht3 fun H7 S7 e7 => ?_⟩⟩
    refine ⟨by show 3 ≤ sizeLine; decide, fun q8 hq8 => newG hq8 fun H8 S8 e8 => ?_⟩
    have S68 := S7.trans S8
    have S58 := S6.trans S68
    refine k H8 q8 (S13.trans (S35.trans S58)) ⟨th, tl, t3, sqt_of e8, .tup (sqt_of (S58 _ _ (S35 _ _ e3))) (hac.mono ((S3.trans S35).trans S58).tups), .tup (sqt_of (S58 _ _ e5)) (dl.mono (S5.trans S58).tups), .tup (sqt_of (S8 _ _ e7)) (oD_all _)⟩
end
end WS
/-! The voyage: those held, the lot of the calls, what man is asked where calls stand. -/
namespace WS
open PySem PySem.Spec PyProof.Rows L2 WM
open C8 (pe_gc pe_c pe_mk pe_mt pe_mt0)
open LamX (TabS Tabs ExtN TabB)
def spHeld (K : PySem.W.Frag) (CV CH : Addr) : Sp := fun vs H Q _ => ∃ (m : Addr) (x : VA) (s : Ship) (st : VS), vs = [.ref m] ∧ VObj K H CV CH m x s st ∧ ShipG s ∧ ToldG s st.told ∧
  ∀ H' d kvs, Same H H' → H d = none → H' d = some (.dK kvs) → DR RS kvs (heldF s st) → Q (.ref d) H'
theorem heldP_len {s : Ship} (G : ShipG s) (n : Nat) (calls : List Str) : (((s.books.take n).filter fun b => decide (b.away = 1) && decide (b.word ∈ calls)).flatMap fun b => b.lot.map Place.nm).length ≤ 50 := by
  have h : ∀ l : List Book, (∀ b, b ∈ l → b.lot.length ≤ 10) → ((l.filter fun b => decide (b.away = 1) && decide (b.word ∈ calls)).flatMap fun b => b.lot.map Place.nm).length ≤ 10 * l.length := by
    intro l
    induction l with
    | nil => exact fun _ => Nat.le_refl _
    | cons b l ih =>
      intro hl
      have h1 := ih fun x hx => hl x (by simp [hx])
      have h2 := hl b (by simp)
      rw [List.filter_cons, List.length_cons]
      split
      · rw [List.flatMap_cons, List.length_append, List.length_map]
        omega
      · omega
  have h1 := h (s.books.take n) fun b hb => G.lotK b (List.mem_of_mem_take hb)
  have h2 := G.nk
  rw [List.length_take] at h1
  omega
section
variable {P : Program} {w : World} {K : PySem.W.Frag} {mg : Str → Option Value} {base : Heap} {CM CH CV aL : Addr}
theorem sc_Voyage_held_by : FnScope ["self", "roll", "sick", "wants", "calls", "places", "word", "away", "lot", "place", "hand"] ["self"] (defScope s_Voyage_held_by) := ⟨rfl, rfl, rfl, by decide +kernel, rfl, by decide +kernel, by decide +kernel⟩
theorem m_Voyage_held_by (T : Txt K mg CM CH CV aL) : Met P w K mg base 1 CV "held_by" (spHeld K CV CH) := by
  refine met_of T.cls_Voyage T.md_Voyage_held_by (fun _ _ _ _ _ _ us hl => match us, hl with | [_], _ => rfl) sc_Voyage_held_by (fun vs H Q E h => ?_) (fun f cdv A outer s H vs Q E hr h => ?_)
  · obtain ⟨_, _, _, _, rfl, _⟩ := h; rfl
  · obtain ⟨m, x, s, st, rfl, M, G, TG, k⟩ := h
    obtain ⟨ua, d0, t0, r0, b0, k0, eu, u1, dd, dt, dr, db, dk⟩ := ship_inv M.sh
    obtain ⟨ka, ks, rfl, k1, k2⟩ := id dk.tup_inv
    obtain ⟨q, r1, r2, r3, r4, ws, et, a1, a2, a3, a4, a5, a6⟩ := M.to.ex
    obtain ⟨_, rs, e1, c1, c2⟩ := id a2.tup_inv
    cases e1
    obtain ⟨_, cs, e2, s1, s2⟩ := id a6.tup_inv
    cases e2
    have es := s2.strs_inv
    subst es
    have lrs : rs.length = st.told.roll.length := by have := c2.length; rwa [List.length_map] at this
    have lks : ks.length = s.books.length := by have := k2.length; rwa [List.length_map] at this
    have hroll := TG.roll
    refine ⟨_, (pss_cons (ps_asg (pe_fldK K (pv 0) rfl) (pg_tupK K 4 rfl (pgs_cons (pg_name (i := 1) sc_Voyage_held_by.nd rfl (Or.inl rfl)) (pgs_cons (pg_name (i := 2) sc_Voyage_held_by.nd rfl (Or.inl rfl)) (pgs_cons (pg_name (i := 3) sc_Voyage_held_by.nd rfl (Or.inl rfl)) (pgs_cons (pg_name (i := 4) sc_Voyage_held_by.nd rfl (Or.inl rfl)) pgs_nil))))))
    (pss_cons (ps_set (i := 5) sc_Voyage_held_by.nd rfl (Or.inr rfl) (pe_lst pa_nil))
    (pss_cons (ps_for PassesOwn.never rfl (pi_tupK K (pe_ix (ix_tupK K) (pe_fldK K (pv 0) rfl) pe_int (fun _ _ => rfl))) (pg_tupK K 3 rfl (pgs_cons (pg_name (i := 6) sc_Voyage_held_by.nd rfl (Or.inl rfl)) (pgs_cons (pg_name (i := 7) sc_Voyage_held_by.nd rfl (Or.inl rfl)) (pgs_cons (pg_name (i := 8) sc_Voyage_held_by.nd rfl (Or.inl rfl)) pgs_nil)))) (pss_one (ps_if (PW.pt (pw_and (pt_cmpR op_eq (pv 7) pe_int (nomark _)) (pw_and1 (pt_cmpR (op_in_seqK K) (pv 6) (pv 4) rfl)))) (pss_one (ps_expr (pe_bmK K PySem.F.plainAttrs_list PySem.F.slot_list_extend PySem.F.type_list_extend mt_extend (pv 5) (pa_cons (pe_lc (own := [("place", 9)]) rfl sc_Voyage_held_by.nd (pi_tupK K (pv 8)) (blkOk_by (own := [("place", 9)]) (N := ["self", "roll", "sick", "wants", "calls", "places", "word", "away", "lot", "place", "hand"]) (sc := defScope s_Voyage_held_by) (by decide +kernel)) (fun _ _ _ _ _ => (pg_name (i := 9) sc_Voyage_held_by.nd rfl (Or.inl rfl))) (fun _ _ _ _ _ => pts_nil) (fun _ _ _ _ _ => (pe_ix (ix_tupK K) (pv 9) pe_int (fun _ _ => rfl)))) pa_nil)))) pss_nil)))
    (pss_one (ps_ret (pe_callTy (call_dictPK K rfl) (by rfl) T.b_dict (by decide +kernel) (pa_cons (pe_lc (own := [("hand", 10)]) rfl sc_Voyage_held_by.nd (pi_tupK K (pv 1)) (blkOk_by (own := [("hand", 10)]) (N := ["self", "roll", "sick", "wants", "calls", "places", "word", "away", "lot", "place", "hand"]) (sc := defScope s_Voyage_held_by) (by decide +kernel)) (fun _ _ _ _ _ => (pg_name (i := 10) sc_Voyage_held_by.nd rfl (Or.inl rfl))) (fun _ _ _ _ _ => (pts_one (pt_cmpR (op_in_seqK K) (pe_dget1 (hu_of hr) (pe_fldK K (pv 0) rfl) (pe_ix (ix_tupK K) (pv 10) pe_int (fun _ _ => rfl)) ⟨rfl, rfl, rfl, rfl⟩) (pv 5) rfl))) (fun _ _ _ _ _ => (pe_tup (pa_cons (pe_ix (ix_tupK K) (pv 10) pe_int (fun _ _ => rfl)) (pa_cons (pe_dget (hu_of hr) (pe_fldK K (pv 0) rfl) (pe_ix (ix_tupK K) (pv 10) pe_int (fun _ _ => rfl)) (fun _ _ => rfl)) pa_nil))))) pa_nil))))))), ?_⟩
    refine ⟨_, rfl, m, CV, x.dx, _, _, rfl, M.ob, T.cls_Voyage, T.na_Voyage_told_now, vf_7 _ _, q, _, et, a1, rfl, _, _, rfl, _, _, rfl, _, _, rfl, _, _, rfl, rfl, ?_⟩
    refine ⟨by show 0 ≤ sizeLine; decide, fun lp hlp => newG hlp fun H1 S1 f1 => ?_⟩
    have M1 := M.mono S1
    refine ⟨_, rfl, m, CV, x.dx, _, _, rfl, M1.ob, T.cls_Voyage, T.na_Voyage_ship_here, vf_1 _ _, ua, _, _, .ref ka, eu, rfl, S1.tup u1, rfl, ka, rfl, ⟨_, S1.tup k1⟩, ?_⟩
    refine for_tup (K := K) (a := ka) (xs := ks) (fun i σ H2 => ∃ (z6 z7 z8 : Option V), σ = [some (.ref m), some (.ref r1), some (.ref r2), some (.ref r3), some (.ref r4), some (.ref lp), z6, z7, z8, none, none] ∧ Same H H2 ∧ H2 lp = some (.lst ((((s.books.take i).filter fun b => decide (b.away = 1) && decide (b.word ∈ st.told.calls)).flatMap fun b => b.lot.map Place.nm).map V.str)))
      ⟨_, _, _, rfl, S1, f1⟩ (fun i σ H2 _ ⟨_, _, _, _, S2, _⟩ => S2.tup k1) ?_ ?_
    · rintro i z σ H2 hx ⟨z6, z7, z8, rfl, S2, f2⟩
      obtain ⟨b, hb, dB⟩ := item_inv (a := ka) k2 hx
      obtain ⟨ba, lv, rfl, b1, b2⟩ := book_inv (dB.mono S2.tups)
      obtain ⟨la, ls, rfl, l1, l2⟩ := id (Dt.tup_inv b2)
      have lls : ls.length = b.lot.length := by have := l2.length; rwa [List.length_map] at this
      have hbl := G.lotK b (List.mem_of_getElem? hb)
      have hcp := heldP_len G i st.told.calls
      have step : ∀ c, c = (decide (b.away = 1) && decide (b.word ∈ st.told.calls)) → ((s.books.take (i + 1)).filter fun b => decide (b.away = 1) && decide (b.word ∈ st.told.calls)).flatMap (fun b => b.lot.map Place.nm) =
          ((s.books.take i).filter fun b => decide (b.away = 1) && decide (b.word ∈ st.told.calls)).flatMap (fun b => b.lot.map Place.nm) ++ (if c = true then b.lot.map Place.nm else []) := fun c hc => by
        rw [List.take_add_one, hb, List.filter_append, List.flatMap_append]
        congr 1
        show (([b].filter _).flatMap _) = _
        rw [List.filter_cons, ← hc]
        cases c <;> simp
      have skip : (decide (b.away = 1) && decide (b.word ∈ st.told.calls)) = false → H2 lp = some (.lst ((((s.books.take (i + 1)).filter fun b => decide (b.away = 1) && decide (b.word ∈ st.told.calls)).flatMap fun b => b.lot.map Place.nm).map V.str)) := fun hf => by
        rw [step _ rfl, hf, if_neg (by decide), List.append_nil]
        exact f2
      refine ⟨ba, _, rfl, b1, rfl, _, _, rfl, _, _, rfl, _, _, rfl, rfl, ?_⟩
      refine ⟨_, rfl, rfl, _, rfl, ?_⟩
      refine ite2 (fun c => ?_) (fun c => ?_)
      · have c : b.away = 1 := by
          have := of_decide_eq_true c
          injection this
        refine ⟨_, rfl, _, rfl, r4, _, rfl, .inr (S2.tup s1), rfl, flat_strs _, _, rfl, ?_⟩
        rw [if_neg Bool.false_ne_true, in_strs]
        by_cases hm : b.word ∈ st.told.calls
        · rw [decide_eq_true hm]
          refine iteT ?_
          refine ⟨_, rfl, .inl ⟨rfl, _, sql_of f2⟩, ?_⟩
          refine ⟨_, rfl, la, rfl, ⟨_, l1⟩, fun D hD => ?_⟩
          refine lc_run (walk_tup (K := K) (a := la) (xs := ls)) (H0 := H2) (fun j ac H4 => ac = ((b.lot.take j).map Place.nm).map V.str) (Same.refl _) hD (fun _ _ => rfl) (fun H4 S4 => S4.tup l1) ?_ ?_
          · rintro j y ac H4 H5 hj hD0 S4 e4 rfl ⟨rfl, hy⟩
            obtain ⟨p, hp, dp⟩ := item_inv (a := la) l2 hy
            obtain ⟨pa, rfl, p1⟩ := place_inv (dp.mono S4.tups)
            refine ⟨rfl, g_yes (iteT ?_)⟩
            refine ⟨_, rfl, pa, _, _, .str p.nm, rfl, rfl, p1, rfl, ?_⟩
            refine lc_next hD0 S4 (Same.refl _) e4 (by rw [List.length_map, List.length_map, List.length_take]; omega) fun H6 _ _ _ => ?_
            rw [List.take_add_one, hp]
            simp
          rintro ac H4 S4 e4 rfl
          rw [lls, List.take_length] at e4
          refine ⟨lp, D, _, _, rfl, rfl, S4 _ _ f2, e4, sz100 (by rw [List.length_map, List.length_map, List.length_map]; omega), ?_⟩
          refine ⟨_, _, _, rfl, (S2.trans S4).mut hlp, ?_⟩
          rw [upd_same, step true (by rw [decide_eq_true c, decide_eq_true hm]; rfl), if_pos rfl, List.map_append]
        · rw [decide_eq_false hm]
          exact iteF ⟨_, _, _, rfl, S2, skip (by rw [decide_eq_false hm, Bool.and_false])⟩
      · have c : ¬ b.away = 1 := fun z => c (decide_eq_true (congrArg V.int z))
        exact iteF ⟨_, _, _, rfl, S2, skip (by rw [decide_eq_false c]; rfl)⟩
    rintro σ H2 ⟨z6, z7, z8, rfl, S2, f2⟩
    rw [lks, List.take_length] at f2
    have f2 : H2 lp = some (.lst ((heldP s st.told.calls).map V.str)) := f2
    have M2 := M.mono S2
    obtain ⟨kw, g1, g2⟩ := M2.wa
    refine ⟨_, rfl, r1, rfl, ⟨_, S2.tup c1⟩, fun D hD => ?_⟩
    refine lc_run (walk_tup (K := K) (a := r1) (xs := rs)) (H0 := H2) (fun j ac H4 => ∃ ps : List Addr, ac = ps.map V.ref ∧ ∃ vs : List (Key × V), Paired (fun p kv => SqT K H4 p [kV kv.1, kv.2]) ps vs ∧ DR RS vs ((st.told.roll.take j).filterMap fun h => match valA st.was h.nm with
      | some p => if p ∈ heldP s st.told.calls then some (h.nm, p) else none
      | none => none)) (Same.refl _) hD (fun _ _ => ⟨[], rfl, [], .nil, .nil⟩) (fun H4 S4 => S4.tup (S2.tup c1)) ?_ ?_
    · rintro j z ac H4 H5 hj hD0 S4 e4 ⟨ps, rfl, vs, hp, hv⟩ ⟨rfl, hx⟩
      obtain ⟨h, hh, dh⟩ := item_inv (a := r1) c2 hx
      obtain ⟨ha, sa, rfl, h1, h2⟩ := hand_inv ((dh.mono S2.tups).mono S4.tups)
      have M4 := M2.mono S4
      have hpl : ps.length ≤ 64 := by
        have l1 := paired_len hp
        have l2 := paired_len hv
        have l3 := List.length_filterMap_le (fun h : Hand => match valA st.was h.nm with
          | some p => if p ∈ heldP s st.told.calls then some (h.nm, p) else none
          | none => none) (st.told.roll.take j)
        rw [List.length_take] at l3
        omega
      refine ⟨rfl, ?_⟩
      refine ⟨_, rfl, m, CV, x.dx, _, _, rfl, M4.ob, T.cls_Voyage, T.na_Voyage_was_at, vf_6 _ _, x.dwa, rfl, .inl ⟨_, .inl (S4 _ _ g1)⟩, _, rfl, ha, _, _, .str h.nm, rfl, rfl, h1, rfl, _, DGet.k (k := .inr h.nm) (S4 _ _ g1), ?_⟩
      rw [oS_get g2]
      refine ⟨_, rfl, lp, _, rfl, .inl (sql_of (S4 _ _ f2)), by cases valA st.was h.nm <;> rfl, flat_strs _, _, rfl, ?_⟩
      rw [if_neg Bool.false_ne_true]
      have skip : (match valA st.was h.nm with
          | some p => if p ∈ heldP s st.told.calls then some (h.nm, p) else none
          | none => none) = none → DR RS vs ((st.told.roll.take (j + 1)).filterMap fun h => match valA st.was h.nm with
          | some p => if p ∈ heldP s st.told.calls then some (h.nm, p) else none
          | none => none) := fun hn => by
        rw [List.take_add_one, hh, List.filterMap_append]
        show DR RS vs (_ ++ [h].filterMap _)
        rw [List.filterMap_cons, hn]
        simpa using hv
      cases hw : valA st.was h.nm with
      | none =>
        have e0 : inV (oS (none : Option Str)) ((heldP s st.told.calls).map V.str) = false := by
          generalize heldP s st.told.calls = l
          induction l with
          | nil => rfl
          | cons y l ih => show (eqV (.str y) .non || inV .non (l.map V.str)) = false; rw [show inV V.non (l.map V.str) = false from ih]; rfl
        rw [e0]
        exact iteF (lc_skip S4 (Same.refl _) e4 ⟨ps, rfl, vs, hp, skip (by rw [hw])⟩)
      | some p =>
        show if inV (.str p) ((heldP s st.told.calls).map V.str) = true then _ else _
        rw [in_strs]
        by_cases hm : p ∈ heldP s st.told.calls
        · rw [decide_eq_true hm]
          refine iteT ?_
          have hwv : valV kw (.inr h.nm) = some (.str p) := by
            rcases g2.val (n := h.nm) with ⟨w1, w2⟩ | ⟨y, z, w1, w2, hr⟩
            · rw [hw] at w1; cases w1
            · rw [hw] at w1; cases w1; rw [w2, hr]
          refine ⟨_, rfl, ha, _, _, .str h.nm, rfl, rfl, h1, rfl, _, rfl, m, CV, x.dx, _, _, rfl, M4.ob, T.cls_Voyage, T.na_Voyage_was_at, vf_6 _ _, _, rfl, ha, _, _, .str h.nm, rfl, rfl, h1, rfl, x.dwa, .str p, rfl, by rw [← hwv]; exact DGet.k (k := .inr h.nm) (S4 _ _ g1), by show 2 ≤ sizeLine; decide, fun pt hpt => newG hpt fun H6 S6 e6 => ?_⟩
          refine lc_next hD0 S4 S6 e4 (by rw [List.length_map]; omega) fun H7 S7 e7 k7 => ?_
          have t7 := tups_but (S6 _ _ e4) k7
          refine ⟨ps ++ [pt], by rw [List.map_append]; rfl, vs ++ [(.inr h.nm, .str p)], Paired.snoc (hp.mono fun p kv x => t7.sq (S6.tup x)) (t7.sq (show SqT K H6 pt [kV (.inr h.nm), .str p] from sqt_of e6)), ?_⟩
          rw [List.take_add_one, hh, List.filterMap_append]
          show DR RS _ (_ ++ [h].filterMap _)
          rw [List.filterMap_cons, hw]
          simp only [if_pos hm]
          exact Paired.snoc hv ⟨rfl, rfl⟩
        · rw [decide_eq_false hm]
          exact iteF (lc_skip S4 (Same.refl _) e4 ⟨ps, rfl, vs, hp, skip (by rw [hw]; exact if_neg hm)⟩)
    rintro ac H3 S3 e3 ⟨ps, rfl, vs, hp, hv⟩
    rw [lrs, List.take_length] at hv
    refine ⟨D, ps, vs, rfl, sql_of e3, hp, fun dh hdh => newG hdh fun H4 S4 e4 => ?_⟩
    exact k H4 dh _ ((S2.trans S3).trans S4) ((S2.trans S3).free hdh) e4 (DR.merge (l := []) .nil hv)
end
end WS
/-! The voyage: the lot of the calls, what man is asked. -/
namespace WS
open PySem PySem.Spec PyProof.Rows L2 WM
open C8 (pe_gc pe_c pe_mk pe_mt pe_mt0)
open LamX (TabS Tabs ExtN TabB)
theorem addPl_len (f : List Place) (p : Place) : (addPl f p).length ≤ f.length + 1 := by
  unfold addPl
  split
  · rw [List.length_set]; omega
  · rw [List.length_append]; simp
theorem addPls_len : ∀ (l f : List Place), (l.foldl addPl f).length ≤ f.length + l.length
  | [], f => by simp
  | p :: l, f => by
    have h1 := addPls_len l (addPl f p)
    have h2 := addPl_len f p
    rw [List.foldl_cons, List.length_cons]
    omega
theorem lotsA_len {s : Ship} (G : ShipG s) (x : Str) : ((valA (lotsA s) x).getD []).length ≤ 10 := by
  cases e : valA (lotsA s) x with
  | none => simp
  | some l =>
    rcases mergeA_mem (valA_mem e) with z | z
    · simp at z
    · obtain ⟨b, hb, q⟩ := List.mem_map.mp z
      have := G.lotK b hb
      injection q with q1 q2
      rw [← q2]
      exact this
theorem callsL_len {s : Ship} (G : ShipG s) {st : VS} : ∀ (calls : List Str) (f : List Place), (calls.foldl (fun f w => ((valA (lotsA s) w).getD []).foldl addPl f) f).length ≤ f.length + 10 * calls.length
  | [], f => by simp
  | x :: calls, f => by
    have h1 := callsL_len (st := st) G calls (((valA (lotsA s) x).getD []).foldl addPl f)
    have h2 := addPls_len ((valA (lotsA s) x).getD []) f
    have h3 := lotsA_len G x
    rw [List.foldl_cons, List.length_cons]
    omega
theorem lotW_len {s : Ship} (G : ShipG s) (st : VS) : (lotW s st).length ≤ 10 := by
  unfold lotW
  rw [List.length_map, List.getD_eq_getElem?_getD]
  cases e : s.bills[watchNo s st.bell]? with
  | none => simp
  | some l => exact G.lotB l (List.mem_of_getElem? e)
theorem ixN_nat {n j : Nat} (h : j < n) : ixN n (j : Int) = some j := by
  unfold ixN
  rw [if_pos (by omega), if_pos (by omega)]
  simp
theorem DtAll.set {K : PySem.W.Frag} {H : Hp} : ∀ {vs : List V} {ds : List PyData} {j : Nat} {v : V} {d : PyData}, DtAll K H vs ds → Dt K H v d → DtAll K H (vs.set j v) (ds.set j d)
  | _, _, _, _, _, .nil, _ => .nil
  | _, _, 0, _, _, .cons _ h2, h => .cons h h2
  | _, _, j + 1, _, _, .cons h1 h2, h => .cons h1 (DtAll.set h2 h)
theorem dr_vals : ∀ {kvs : List (Key × V)} {l : List (Str × Str)}, DR RS kvs l → kvs.map (·.2) = (l.map (·.2)).map V.str
  | _, _, .nil => rfl
  | _, _, .cons h t => by
    rw [List.map_cons, List.map_cons, List.map_cons, dr_vals t, h.2]
theorem strs_lay {l : List Str} (h : ∀ x, x ∈ l → PyData.strOk x = true) : PyData.canLayAll0 (l.map .str) = true := by
  induction l with
  | nil => rfl
  | cons x l ih => simp [PyData.canLayAll0, PyData.canLay0, h x (by simp), ih fun y hy => h y (by simp [hy])]
theorem strs_dep : ∀ (l : List Str), PyData.depthAll (l.map .str) = 0
  | [] => rfl
  | x :: l => by simp [PyData.depthAll, PyData.depth, strs_dep l]
theorem strs_shaped {l : List Str} (h : ∀ x, x ∈ l → PyData.strOk x = true) : SeqAt.shaped (.tuple (l.map .str)) = true := by
  simp [SeqAt.shaped, PyData.canLay0, PyData.depth, strs_lay h, strs_dep]
theorem calls_shaped {s : Ship} {t : Told} (G : ShipG s) (TG : ToldG s t) : SeqAt.shaped (.tuple (t.calls.map .str)) = true := strs_shaped fun x hx => by
  obtain ⟨b, hb, rfl⟩ := List.mem_map.mp (TG.words x hx)
  exact G.wok b hb
theorem calls_eqv (l : List Str) : PyData.eqv (.tuple (l.map .str)) (.tuple []) = decide (l = []) := by
  cases l with
  | nil => rfl
  | cons x l => simp [PyData.eqv, PyData.eqvAll]
def spLotC (K : PySem.W.Frag) (CV CH : Addr) : Sp := fun vs H Q _ => ∃ (m g : Addr) (x : VA) (s : Ship) (st : VS) (gone : List Str), vs = [.ref m, .ref g] ∧ VObj K H CV CH m x s st ∧ ShipG s ∧ ToldG s st.told ∧ 0 ≤ st.bell ∧ H g = some (.lst (gone.map V.str)) ∧
  ∀ H' r, Same H H' → Dt K H' (.ref r) (.tuple ((lotC s st gone).map encP)) → Q (.ref r) H'
def spCalls (K : PySem.W.Frag) (CV CH : Addr) : Sp := fun vs H Q _ => ∃ (m : Addr) (x : VA) (s : Ship) (st : VS), vs = [.ref m] ∧ VObj K H CV CH m x s st ∧ ShipG s ∧ ToldG s st.told ∧ 0 ≤ st.bell ∧
  ∀ H' q, Same H H' → AskAt K H' q (callsF s st) → Q (.ref q) H'
def spAskN (K : PySem.W.Frag) (CV CH : Addr) : Sp := fun vs H Q _ => ∃ (m : Addr) (x : VA) (s : Ship) (st : VS), vs = [.ref m] ∧ VObj K H CV CH m x s st ∧ ShipG s ∧ ToldG s st.told ∧ 0 ≤ st.bell ∧
  ∀ H' q, Same H H' → AskAt K H' q (askF s st) → Q (.ref q) H'
section
variable {P : Program} {w : World} {K : PySem.W.Frag} {mg : Str → Option Value} {base : Heap} {CM CH CV aL : Addr}
theorem sc_Voyage_lot_of_calls : FnScope ["self", "gone", "found", "lots", "word", "away", "lot", "place", "names", "one"] ["self", "gone"] (defScope s_Voyage_lot_of_calls) := ⟨rfl, rfl, rfl, by decide +kernel, rfl, by decide +kernel, by decide +kernel⟩
theorem m_Voyage_lot_of_calls (T : Txt K mg CM CH CV aL) : Met P w K mg base 4 CV "lot_of_calls" (spLotC K CV CH) := by
  have c_with_many := c_with_many (P := P) (w := w) (base := base) T
  have m_Voyage_lot_of_watch := m_Voyage_lot_of_watch (P := P) (w := w) (base := base) T
  refine met_of T.cls_Voyage T.md_Voyage_lot_of_calls (fun _ _ _ _ _ _ us hl => match us, hl with | [_, _], _ => rfl) sc_Voyage_lot_of_calls (fun vs H Q E h => ?_) (fun f cdv A outer s H vs Q E hr h => ?_)
  · obtain ⟨_, _, _, _, _, _, rfl, _⟩ := h; rfl
  · obtain ⟨m, g, x, s, st, gone, rfl, M, G, TG, hb, hg, k⟩ := h
    obtain ⟨ua, d0, t0, r0, b0, k0, eu, u1, dd, dt, dr, db, dk⟩ := ship_inv M.sh
    obtain ⟨ka, ks, rfl, k1, k2⟩ := id dk.tup_inv
    obtain ⟨q, r1, r2, r3, r4, ws, et, a1, a2, a3, a4, a5, a6⟩ := M.to.ex
    obtain ⟨_, cs, e2, s1, s2⟩ := id a6.tup_inv
    cases e2
    have es := s2.strs_inv
    subst es
    have lks : ks.length = s.books.length := by have := k2.length; rwa [List.length_map] at this
    have hnk := G.nk
    have hcl := TG.calls
    have hlw := lotW_len G st
    have nolot : (vfs x st.bell).lookup ("lot_of_watch" : Str) = none := vf_no x _ (by decide +kernel)
    refine ⟨_, (pss_cons (ps_set (i := 2) sc_Voyage_lot_of_calls.nd rfl (Or.inl rfl) (pe_mt0 m_Voyage_lot_of_watch hr (by decide) (pv 0)))
    (pss_cons (ps_set (i := 3) sc_Voyage_lot_of_calls.nd rfl (Or.inl rfl) (pe_callTy (call_dictPK K rfl) (by rfl) T.b_dict (by decide +kernel) (pa_cons (pe_lc (own := [("word", 4), ("away", 5), ("lot", 6)]) rfl sc_Voyage_lot_of_calls.nd (pi_tupK K (pe_ix (ix_tupK K) (pe_fldK K (pv 0) rfl) pe_int (fun _ _ => rfl))) (blkOk_by (own := [("word", 4), ("away", 5), ("lot", 6)]) (N := ["self", "gone", "found", "lots", "word", "away", "lot", "place", "names", "one"]) (sc := defScope s_Voyage_lot_of_calls) (by decide +kernel)) (fun _ _ _ _ _ => (pg_tupK K 3 rfl (pgs_cons (pg_name (i := 4) sc_Voyage_lot_of_calls.nd rfl (Or.inl rfl)) (pgs_cons (pg_name (i := 5) sc_Voyage_lot_of_calls.nd rfl (Or.inl rfl)) (pgs_cons (pg_name (i := 6) sc_Voyage_lot_of_calls.nd rfl (Or.inl rfl)) pgs_nil))))) (fun _ _ _ _ _ => pts_nil) (fun _ _ _ _ _ => (pe_tup (pa_cons (pv 4) (pa_cons (pv 6) pa_nil))))) pa_nil)))
    (pss_cons (ps_for PassesOwn.never rfl (pi_tupK K (pe_ix (ix_tupK K) (pe_fldK K (pv 0) rfl) pe_int (fun _ _ => rfl))) (pg_name (i := 4) sc_Voyage_lot_of_calls.nd rfl (Or.inl rfl)) (pss_one (ps_for PassesOwn.never rfl (pi_tupK K (pe_dget (hu_of hr) (pv 3) (pv 4) (fun _ _ => rfl))) (pg_name (i := 7) sc_Voyage_lot_of_calls.nd rfl (Or.inl rfl)) (pss_cons (ps_setLc (i := 8) (own := [("one", 9)]) rfl sc_Voyage_lot_of_calls.nd rfl rfl (sw_true rfl rfl rfl (by decide +kernel)) (pi_listK K (pv 2)) (blkOk_by (own := [("one", 9)]) (N := ["self", "gone", "found", "lots", "word", "away", "lot", "place", "names", "one"]) (sc := defScope s_Voyage_lot_of_calls) (by decide +kernel)) (fun _ _ _ _ _ => (pg_name (i := 9) sc_Voyage_lot_of_calls.nd rfl (Or.inl rfl))) (fun _ _ _ _ _ => pts_nil) (fun _ _ _ _ _ => (pe_ix (ix_tupK K) (pv 9) pe_int (fun _ _ => rfl))))
    (pss_one (ps_if (pt_cmpR (op_in_seqK K) (pe_ix (ix_tupK K) (pv 7) pe_int (fun _ _ => rfl)) (pv 8) rfl) (pss_one (ps_asg (pv 7) (pg_sub (pv 2) (pe_bmK K PySem.F.plainAttrs_list PySem.F.slot_list_index PySem.F.type_list_index (mt_indexK K) (pv 8) (pa_cons (pe_ix (ix_tupK K) (pv 7) pe_int (fun _ _ => rfl)) pa_nil)) set_list))) (pss_one (ps_expr (pe_bmK K PySem.F.plainAttrs_list PySem.F.slot_list_append PySem.F.type_list_append mt_append (pv 2) (pa_cons (pv 7) pa_nil))))))))))
    (pss_one (ps_ret (pe_callTy (call_tuple_ofK K) (by rfl) T.b_tuple (by decide +kernel) (pa_cons (pe_lc (own := [("place", 7)]) rfl sc_Voyage_lot_of_calls.nd (pi_listK K (pv 2)) (blkOk_by (own := [("place", 7)]) (N := ["self", "gone", "found", "lots", "word", "away", "lot", "place", "names", "one"]) (sc := defScope s_Voyage_lot_of_calls) (by decide +kernel)) (fun _ _ _ _ _ => (pg_name (i := 7) sc_Voyage_lot_of_calls.nd rfl (Or.inl rfl))) (fun _ _ _ _ _ => pts_nil) (fun _ _ _ _ _ => (pe_c c_with_many hr (by decide) rfl (pa_cons (pv 7) (pa_cons (pe_op op_sub (pe_ix (ix_tupK K) (pv 7) pe_int (fun _ _ => rfl)) (pe_bmK K PySem.F.plainAttrs_list PySem.F.slot_list_count PySem.F.type_list_count (mt_lcountSK K) (pv 1) (pa_cons (pe_ix (ix_tupK K) (pv 7) pe_int (fun _ _ => rfl)) pa_nil))) pa_nil))))) pa_nil))))))), ?_⟩
    refine ⟨_, rfl, m, x.dx, _, rfl, M.ob, nolot, m, x, s, st, rfl, M, G, hb, fun H1 lf xs1 S1 hlf e1 d1 => ?_⟩
    have M1 := M.mono S1
    refine ⟨_, rfl, m, CV, x.dx, _, _, rfl, M1.ob, T.cls_Voyage, T.na_Voyage_ship_here, vf_1 _ _, ua, _, _, .ref ka, eu, rfl, S1.tup u1, rfl, ka, rfl, ⟨_, S1.tup k1⟩, fun D hD => ?_⟩
    refine lc_run (walk_tup (K := K) (a := ka) (xs := ks)) (H0 := H1) (fun j ac H4 => ∃ ps : List Addr, ac = ps.map V.ref ∧ ∃ vs : List (Key × V), Paired (fun p kv => SqT K H4 p [kV kv.1, kv.2]) ps vs ∧ DR (fun v l => Dt K H4 v (encL l)) vs ((s.books.take j).map fun b => (b.word, b.lot))) (Same.refl _) hD (fun _ _ => ⟨[], rfl, [], .nil, .nil⟩) (fun H4 S4 => S4.tup (S1.tup k1)) ?_ ?_
    · rintro j z ac H4 H5 hj hD0 S4 e4 ⟨ps, rfl, vs, hp, hv⟩ ⟨rfl, hx⟩
      obtain ⟨b, hb, dB⟩ := item_inv (a := ka) k2 hx
      obtain ⟨ba, lv, rfl, b1, b2⟩ := book_inv ((dB.mono S1.tups).mono S4.tups)
      have hpl : ps.length ≤ 5 := by
        have l1 := paired_len hp
        have l2 := paired_len hv
        rw [List.length_map, List.length_take] at l2
        omega
      refine ⟨ba, _, rfl, b1, rfl, _, _, rfl, _, _, rfl, _, _, rfl, rfl, rfl, g_yes (iteT ?_)⟩
      refine ⟨_, rfl, _, rfl, by show 2 ≤ sizeLine; decide, fun pt hpt => newG hpt fun H6 S6 e6 => ?_⟩
      refine lc_next hD0 S4 S6 e4 (by rw [List.length_map]; omega) fun H7 S7 e7 k7 => ?_
      have t7 := tups_but (S6 _ _ e4) k7
      refine ⟨ps ++ [pt], by rw [List.map_append]; rfl, vs ++ [(.inr b.word, lv)], Paired.snoc (hp.mono fun p kv x => t7.sq (S6.tup x)) (t7.sq (show SqT K H6 pt [kV (.inr b.word), lv] from sqt_of e6)), ?_⟩
      rw [List.take_add_one, hb, List.map_append]
      exact Paired.snoc (DR.mono hv fun v h x => (x.mono S6.tups).mono t7) ⟨rfl, (b2.mono S6.tups).mono t7⟩
    rintro ac H2 S2 f2 ⟨ps, rfl, vs, hp, hv⟩
    rw [lks, List.take_length] at hv
    refine ⟨D, ps, vs, rfl, sql_of f2, hp, fun dl hdl => newG hdl fun H3 S3 e3 => ?_⟩
    have S13 := S2.trans S3
    have S03 := S1.trans S13
    have hvl : DR (fun v l => Dt K H3 v (encL l)) (mergeK [] vs) (lotsA s) := DR.merge (l := []) .nil (DR.mono hv fun v l x => x.mono S3.tups)
    generalize mergeK [] vs = kvs at e3 hvl
    have nld : lf ≠ dl := ne_of_none (S2 _ _ e1) hdl
    have hdl0 : H dl = none := (S1.trans S2).free hdl
    have M3 := M.mono S03
    refine ⟨_, rfl, m, CV, x.dx, _, _, rfl, M3.ob, T.cls_Voyage, T.na_Voyage_told_now, vf_7 _ _, q, _, _, .ref r4, et, rfl, S03.tup a1, rfl, r4, rfl, ⟨_, S03.tup s1⟩, ?_⟩
    refine for_tup (K := K) (a := r4) (xs := st.told.calls.map V.str) (fun i σ H4 => ∃ (z4 z7 z8 : Option V) (xs : List V), σ = [some (.ref m), some (.ref g), some (.ref lf), some (.ref dl), z4, none, none, z7, z8, none] ∧ Same H H4 ∧ Tups H3 H4 ∧ H4 dl = some (.dK kvs) ∧ H4 lf = some (.lst xs) ∧ DtAll K H4 xs ((callsL s st (st.told.calls.take i)).map encP))
      ⟨_, _, _, xs1, rfl, S03, Tups.refl _, e3, S13 _ _ e1, d1.mono S13.tups⟩ (fun i σ H4 _ ⟨_, _, _, _, _, S4, _⟩ => S4.tup s1) ?_ ?_
    · rintro i z σ H4 hx ⟨z4, z7, z8, xs, rfl, S4, t4, e4, f4, d4⟩
      rw [List.getElem?_map] at hx
      cases hw : st.told.calls[i]? with
      | none => rw [hw] at hx; cases hx
      | some wd =>
        rw [hw] at hx
        cases hx
        have hin : ∃ l, valA (lotsA s) wd = some l := by
          obtain ⟨b, hb, e⟩ := List.mem_map.mp (TG.words wd (List.mem_of_getElem? hw))
          have h1 : wd ∈ keysA (lotsA s) := by
            rcases Classical.em (wd ∈ keysA (lotsA s)) with z | z
            · exact z
            · exfalso
              have key : ∀ (l : List Book) (acc : List (Str × List Place)), (b ∈ l ∨ wd ∈ keysA acc) → wd ∈ keysA (mergeA acc (l.map fun b => (b.word, b.lot))) := by
                intro l
                induction l with
                | nil =>
                  intro acc h
                  rcases h with h | h
                  · simp at h
                  · exact h
                | cons y l ih =>
                  intro acc h
                  refine ih (putA acc y.word y.lot) ?_
                  rcases h with h | h
                  · rcases List.mem_cons.mp h with h | h
                    · right
                      subst h
                      rw [e]
                      unfold putA keysA
                      split
                      · rename_i ha
                        obtain ⟨p, hp, hpe⟩ := List.any_eq_true.mp ha
                        refine List.mem_map.mpr ⟨_, List.mem_map.mpr ⟨p, hp, rfl⟩, ?_⟩
                        rw [if_pos (of_decide_eq_true hpe)]
                        exact of_decide_eq_true hpe
                      · simp
                    · exact .inl h
                  · right
                    unfold putA keysA at *
                    split
                    · rw [List.map_map]
                      obtain ⟨p, hp, hpe⟩ := List.mem_map.mp h
                      refine List.mem_map.mpr ⟨p, hp, ?_⟩
                      simp only [Function.comp]
                      split <;> exact hpe
                    · rw [List.map_append]
                      exact List.mem_append_left _ h
              exact z (key s.books [] (.inl hb))
          exact valA_key h1
        obtain ⟨lot, hlot⟩ := hin
        have hkv : ∃ y, valV kvs (.inr wd) = some y ∧ Dt K H4 y (encL lot) := by
          rcases hvl.val (n := wd) with ⟨w1, _⟩ | ⟨a, y, w1, w2, hr⟩
          · rw [hlot] at w1; cases w1
          · rw [hlot] at w1; cases w1; exact ⟨y, w2, hr.mono t4⟩
        obtain ⟨y, hy, dy⟩ := hkv
        obtain ⟨la, ls, rfl, l1, l2⟩ := id (Dt.tup_inv dy)
        have lls : ls.length = lot.length := by have := l2.length; rwa [List.length_map] at this
        have hll : lot.length ≤ 10 := by
          have := lotsA_len G wd
          rw [hlot] at this
          exact this
        have hci := callsL_len (st := st) G (st.told.calls.take i) (lotW s st)
        rw [List.length_take] at hci
        refine ⟨_, rfl, _, rfl, dl, .ref la, rfl, by rw [← hy]; exact DGet.k (k := .inr wd) e4, la, rfl, ⟨_, l1⟩, ?_⟩
        refine for_tup (K := K) (a := la) (xs := ls) (fun j σ H5 => ∃ (z7 z8 : Option V) (xs : List V), σ = [some (.ref m), some (.ref g), some (.ref lf), some (.ref dl), some (.str wd), none, none, z7, z8, none] ∧ Same H H5 ∧ Tups H4 H5 ∧ H5 dl = some (.dK kvs) ∧ H5 lf = some (.lst xs) ∧ DtAll K H5 xs (((lot.take j).foldl addPl (callsL s st (st.told.calls.take i))).map encP))
          ⟨_, _, xs, rfl, S4, Tups.refl _, e4, f4, d4⟩ (fun j σ H5 _ ⟨_, _, _, _, _, t5, _⟩ => t5.sq l1) ?_ ?_
        · rintro j z σ H5 hz ⟨z7, z8, xs, rfl, S5, t5, e5, f5, d5⟩
          obtain ⟨p, hp, dp⟩ := item_inv (a := la) l2 hz
          have dp5 := dp.mono t5
          obtain ⟨pa, rfl, p1⟩ := place_inv dp5
          have hfl := addPls_len (lot.take j) (callsL s st (st.told.calls.take i))
          rw [List.length_take] at hfl
          have estep : (lot.take (j + 1)).foldl addPl (callsL s st (st.told.calls.take i)) = addPl ((lot.take j).foldl addPl (callsL s st (st.told.calls.take i))) p := foldl_take_succ hp
          have hfc : (callsL s st (st.told.calls.take i)).length ≤ 700 := by
            show ((st.told.calls.take i).foldl _ (lotW s st)).length ≤ 700
            omega
          generalize hF : (lot.take j).foldl addPl (callsL s st (st.told.calls.take i)) = F at d5 estep hfl
          have lxs : xs.length = F.length := by have := d5.length; rwa [List.length_map] at this
          refine ⟨_, rfl, lf, rfl, ⟨_, sql_of f5⟩, fun D2 hD2 => ?_⟩
          refine lc_run (walk_list (K := K) (a := lf) (xs := xs)) (H0 := H5) (fun jj ac H6 => ac = ((F.take jj).map Place.nm).map V.str) (Same.refl _) hD2 (fun _ _ => rfl) (fun H6 S6 => sql_of (S6 _ _ f5)) ?_ ?_
          · rintro jj z2 ac H6 H7 hj2 hD0 S6 e6 rfl ⟨rfl, hy2⟩
            obtain ⟨p2, hp2, dp2⟩ := item_inv (a := lf) d5 hy2
            obtain ⟨pb, rfl, pb1⟩ := place_inv (dp2.mono S6.tups)
            refine ⟨rfl, g_yes (iteT ?_)⟩
            refine ⟨_, rfl, pb, _, _, .str p2.nm, rfl, rfl, pb1, rfl, ?_⟩
            refine lc_next hD0 S6 (Same.refl _) e6 (by rw [List.length_map, List.length_map, List.length_take]; omega) fun H8 _ _ _ => ?_
            rw [List.take_add_one, hp2]
            simp
          rintro ac H6 S6 e6 rfl
          rw [lxs, List.take_length] at e6
          have p16 := S6.tup p1
          have f6 := S6 _ _ f5
          refine ⟨_, rfl, pa, _, _, .str p.nm, rfl, rfl, p16, rfl, _, rfl, D2, _, rfl, .inl (sql_of e6), rfl, flat_strs _, _, rfl, ?_⟩
          rw [if_neg Bool.false_ne_true, in_strs]
          have dpx := dp5.mono S6.tups
          have d6 := d5.mono S6.tups
          by_cases hm : p.nm ∈ F.map Place.nm
          · rw [decide_eq_true hm]
            refine iteT ?_
            have hi : (F.map Place.nm).idxOf p.nm < (F.map Place.nm).length := List.idxOf_lt_length_of_mem hm
            have hg2 : (F.map Place.nm)[(F.map Place.nm).idxOf p.nm]? = some p.nm := by rw [List.getElem?_eq_getElem hi, List.getElem_idxOf hi]
            have hix : (F.map Place.nm).idxOf p.nm < xs.length := by rw [lxs]; rw [List.length_map] at hi; exact hi
            have eadd : addPl F p = F.set ((F.map Place.nm).idxOf p.nm) p := by unfold addPl; rw [if_pos hm]
            have hfirst : ∀ (mm : Nat) (z' : V), mm < (F.map Place.nm).idxOf p.nm → ((F.map Place.nm).map V.str)[mm]? = some z' → eqV z' (.str p.nm) = false := fun mm z' hmm hz' => by
              rw [List.getElem?_map] at hz'
              cases e : (F.map Place.nm)[mm]? with
              | none => rw [e] at hz'; cases hz'
              | some n =>
                rw [e] at hz'
                cases hz'
                have := idx_first hmm
                rw [e] at this
                show (n == p.nm) = false
                simp
                exact fun z => this (by rw [z])
            generalize (F.map Place.nm).idxOf p.nm = ix at hi hg2 hix eadd hfirst
            refine ⟨_, rfl, _, rfl, _, rfl, .inl ⟨rfl, _, sql_of e6⟩, _, rfl, pa, _, _, .str p.nm, rfl, rfl, p16, rfl, D2, _, .str p.nm, ix, .str p.nm, rfl, rfl, sql_of e6, rfl, flat_strs _, by rw [List.getElem?_map, hg2]; rfl, by show (p.nm == p.nm) = true; simp, hfirst, ?_⟩
            refine ⟨lf, xs, _, ix, rfl, rfl, f6, ixN_nat hix, ?_⟩
            have t7 : Tups H6 (upd H6 lf (.lst (xs.set ix (.ref pa)))) := Tups.upd (not_tup_lst f6)
            refine ⟨_, _, xs.set ix (.ref pa), rfl, (S5.trans S6).mut hlf, (t5.trans S6.tups).trans t7, by rw [upd_ne nld.symm]; exact S6 _ _ e5, upd_same, ?_⟩
            rw [estep, eadd, List.map_set]
            exact (d6.mono t7).set (dpx.mono t7)
          · rw [decide_eq_false hm]
            refine iteF ?_
            have eadd : addPl F p = F ++ [p] := by unfold addPl; rw [if_neg hm]
            refine ⟨_, rfl, .inl ⟨rfl, _, sql_of f6⟩, _, rfl, lf, _, _, rfl, rfl, f6, sz100' (by omega), ?_⟩
            have t7 : Tups H6 (upd H6 lf (.lst (xs ++ [.ref pa]))) := Tups.upd (not_tup_lst f6)
            refine ⟨_, _, xs ++ [.ref pa], rfl, (S5.trans S6).mut hlf, (t5.trans S6.tups).trans t7, by rw [upd_ne nld.symm]; exact S6 _ _ e5, upd_same, ?_⟩
            rw [estep, eadd, List.map_append]
            exact (d6.mono t7).append (.cons (dpx.mono t7) .nil)
        · rintro σ H5 ⟨z7, z8, xs, rfl, S5, t5, e5, f5, d5⟩
          rw [lls, List.take_length] at d5
          refine ⟨_, _, _, xs, rfl, S5, t4.trans t5, e5, f5, ?_⟩
          have e : callsL s st (st.told.calls.take (i + 1)) = lot.foldl addPl (callsL s st (st.told.calls.take i)) := by
            unfold callsL
            rw [foldl_take_succ hw, hlot]
            rfl
          rw [e]
          exact d5
    rintro σ H4 ⟨z4, z7, z8, xs, rfl, S4, t4, e4, f4, d4⟩
    rw [List.length_map, List.take_length] at d4
    have hcl2 := callsL_len (st := st) G st.told.calls (lotW s st)
    have hcl3 : (callsL s st st.told.calls).length ≤ 700 := by
      show (st.told.calls.foldl _ (lotW s st)).length ≤ 700
      omega
    have lxs : xs.length = (callsL s st st.told.calls).length := by have := d4.length; rwa [List.length_map] at this
    refine ⟨_, rfl, lf, rfl, ⟨_, sql_of f4⟩, fun D3 hD3 => ?_⟩
    refine lc_run (walk_list (K := K) (a := lf) (xs := xs)) (H0 := H4) (fun j ac H5 => DtAll K H5 ac ((((callsL s st st.told.calls).take j).map fun p => withM p (p.many - (gone.count p.nm : Nat))).map encP)) (Same.refl _) hD3 (fun _ _ => .nil) (fun H5 S5 => sql_of (S5 _ _ f4)) ?_ ?_
    · rintro j z ac H5 H6 hj hD0 S5 e5 hac ⟨rfl, hy⟩
      obtain ⟨p, hp, dp⟩ := item_inv (a := lf) d4 hy
      have dp := dp.mono S5.tups
      obtain ⟨pa, rfl, p1⟩ := place_inv dp
      have hal := hac.length
      rw [List.length_map, List.length_map, List.length_take] at hal
      have hg5 := S5 _ _ (S4 _ _ hg)
      refine ⟨rfl, g_yes (iteT ?_)⟩
      refine ⟨_, rfl, _, rfl, pa, _, _, .int p.many, rfl, rfl, p1, rfl, _, rfl, .inl ⟨rfl, _, sql_of hg5⟩, _, rfl, pa, _, _, .str p.nm, rfl, rfl, p1, rfl, g, _, .str p.nm, rfl, rfl, sql_of hg5, rfl, flat_strs _, _, _, rfl, rfl, ?_⟩
      have ec : ((gone.map V.str).countP fun y => eqV y (.str p.nm)) = gone.count p.nm := by
        clear hg5
        induction gone with
        | nil => rfl
        | cons y l ih =>
          rw [List.map_cons, List.countP_cons, List.count_cons]
          have : ((l.map V.str).countP fun y => eqV y (.str p.nm)) = l.count p.nm := by
            have aux : ∀ l : List Str, ((l.map V.str).countP fun y => eqV y (.str p.nm)) = l.count p.nm := by
              intro l
              induction l with
              | nil => rfl
              | cons y l ih => rw [List.map_cons, List.countP_cons, List.count_cons, ih]; rfl
            exact aux l
          rw [this]
          rfl
      rw [ec]
      refine ⟨_, p, _, rfl, dp, fun H7 q7 S7 d7 => ?_⟩
      refine lc_next hD0 S5 S7 e5 (by omega) fun H8 S8 e8 k8 => ?_
      have t8 := tups_but (S7 _ _ e5) k8
      rw [List.take_add_one, hp, List.map_append, List.map_append]
      exact ((hac.mono S7.tups).mono t8).append (.cons (d7.mono t8) .nil)
    rintro ac H5 S5 e5 hac
    rw [lxs, List.take_length] at hac
    refine ⟨D3, _, rfl, .inl ⟨sql_of e5, fun r hr => newG hr fun H6 S6 e6 => ?_⟩⟩
    exact k H6 r ((S4.trans S5).trans S6) (.tup (sqt_of e6) (hac.mono S6.tups))
theorem sc_Voyage_by_calls : FnScope ["self", "roll", "sick", "wants", "calls", "stay", "hands", "hand", "lot"] ["self"] (defScope s_Voyage_by_calls) := ⟨rfl, rfl, rfl, by decide +kernel, rfl, by decide +kernel, by decide +kernel⟩
theorem m_Voyage_by_calls (T : Txt K mg CM CH CV aL) : Met P w K mg base 5 CV "by_calls" (spCalls K CV CH) := by
  have m_Voyage_held_by := m_Voyage_held_by (P := P) (w := w) (base := base) T
  have m_Voyage_lot_of_calls := m_Voyage_lot_of_calls (P := P) (w := w) (base := base) T
  refine met_of T.cls_Voyage T.md_Voyage_by_calls (fun _ _ _ _ _ _ us hl => match us, hl with | [_], _ => rfl) sc_Voyage_by_calls (fun vs H Q E h => ?_) (fun f cdv A outer s H vs Q E hr h => ?_)
  · obtain ⟨_, _, _, _, rfl, _⟩ := h; rfl
  · obtain ⟨m, x, s, st, rfl, M, G, TG, hb, k⟩ := h
    obtain ⟨q, r1, r2, r3, r4, ws, et, a1, a2, a3, a4, a5, a6⟩ := M.to.ex
    obtain ⟨_, rs, e1, c1, c2⟩ := id a2.tup_inv
    cases e1
    obtain ⟨_, ss, e2, s1, s2⟩ := id a3.tup_inv
    cases e2
    have es := s2.strs_inv
    subst es
    have lrs : rs.length = st.told.roll.length := by have := c2.length; rwa [List.length_map] at this
    have hroll := TG.roll
    have noheld : (vfs x st.bell).lookup ("held_by" : Str) = none := vf_no x _ (by decide +kernel)
    have nolot : (vfs x st.bell).lookup ("lot_of_calls" : Str) = none := vf_no x _ (by decide +kernel)
    refine ⟨_, (pss_cons (ps_asg (pe_fldK K (pv 0) rfl) (pg_tupK K 4 rfl (pgs_cons (pg_name (i := 1) sc_Voyage_by_calls.nd rfl (Or.inl rfl)) (pgs_cons (pg_name (i := 2) sc_Voyage_by_calls.nd rfl (Or.inr rfl)) (pgs_cons (pg_name (i := 3) sc_Voyage_by_calls.nd rfl (Or.inl rfl)) (pgs_cons (pg_name (i := 4) sc_Voyage_by_calls.nd rfl (Or.inl rfl)) pgs_nil))))))
    (pss_cons (ps_set (i := 5) sc_Voyage_by_calls.nd rfl (Or.inr rfl) (pe_mt0 m_Voyage_held_by hr (by decide) (pv 0)))
    (pss_cons (ps_set (i := 6) sc_Voyage_by_calls.nd rfl (Or.inl rfl) (pe_callTy (call_tuple_ofK K) (by rfl) T.b_tuple (by decide +kernel) (pa_cons (pe_lc (own := [("hand", 7)]) rfl sc_Voyage_by_calls.nd (pi_tupK K (pv 1)) (blkOk_by (own := [("hand", 7)]) (N := ["self", "roll", "sick", "wants", "calls", "stay", "hands", "hand", "lot"]) (sc := defScope s_Voyage_by_calls) (by decide +kernel)) (fun _ _ _ _ _ => (pg_name (i := 7) sc_Voyage_by_calls.nd rfl (Or.inl rfl))) (fun _ _ _ _ _ => (pts_one (PW.pt (pw_and (pt_cmpR (op_notIn_seqK K) (pe_ix (ix_tupK K) (pv 7) pe_int (fun _ _ => rfl)) (pv 2) rfl) (pw_and1 (pt_cmp (pc_dnotin (hu_of hr) (pe_ix (ix_tupK K) (pv 7) pe_int (fun _ _ => rfl)) (pv 5)) rfl)))))) (fun _ _ _ _ _ => (pv 7))) pa_nil)))
    (pss_cons (ps_set (i := 8) sc_Voyage_by_calls.nd rfl (Or.inl rfl) (pe_mt m_Voyage_lot_of_calls hr (by decide) (pv 0) (pa_cons (pe_lstVals rfl (by rfl) T.b_list (pv 5)) pa_nil)))
    (pss_one (ps_ret (pe_tup (pa_cons (pv 6) (pa_cons (pv 8) (pa_cons (pe_callTy (call_tuple_ofK K) (by rfl) T.b_tuple (by decide +kernel) (pa_cons (pe_lc (own := [("hand", 7)]) rfl sc_Voyage_by_calls.nd (pi_tupK K (pv 6)) (blkOk_by (own := [("hand", 7)]) (N := ["self", "roll", "sick", "wants", "calls", "stay", "hands", "hand", "lot"]) (sc := defScope s_Voyage_by_calls) (by decide +kernel)) (fun _ _ _ _ _ => (pg_name (i := 7) sc_Voyage_by_calls.nd rfl (Or.inl rfl))) (fun _ _ _ _ _ => pts_nil) (fun _ _ _ _ _ => (pe_dget1 (hu_of hr) (pe_fldK K (pv 0) rfl) (pe_ix (ix_tupK K) (pv 7) pe_int (fun _ _ => rfl)) ⟨rfl, rfl, rfl, rfl⟩))) pa_nil)) pa_nil)))))))))), ?_⟩
    refine ⟨_, rfl, m, CV, x.dx, _, _, rfl, M.ob, T.cls_Voyage, T.na_Voyage_told_now, vf_7 _ _, q, _, et, a1, rfl, _, _, rfl, _, _, rfl, _, _, rfl, _, _, rfl, rfl, ?_⟩
    refine ⟨_, rfl, m, x.dx, _, rfl, M.ob, noheld, m, x, s, st, rfl, M, G, TG, fun H1 dhx kvh S1 hdh e1 g1 => ?_⟩
    have M1 := M.mono S1
    refine ⟨_, rfl, r1, rfl, ⟨_, S1.tup c1⟩, fun D hD => ?_⟩
    refine lc_run (walk_tup (K := K) (a := r1) (xs := rs)) (H0 := H1) (fun j ac H4 => DtAll K H4 ac (((st.told.roll.take j).filter fun h => !decide (h.nm ∈ st.told.sick) && !decide (h.nm ∈ keysA (heldF s st))).map encH)) (Same.refl _) hD (fun _ _ => .nil) (fun H4 S4 => S4.tup (S1.tup c1)) ?_ ?_
    · rintro j z ac H4 H5 hj hD0 S4 e4 hac ⟨rfl, hx⟩
      obtain ⟨h, hh, dh⟩ := item_inv (a := r1) c2 hx
      have dh := (dh.mono S1.tups).mono S4.tups
      obtain ⟨ha, sa, rfl, h1, h2⟩ := hand_inv dh
      have hal := hac.length
      rw [List.length_map] at hal
      have hfl := List.length_filter_le (fun h : Hand => !decide (h.nm ∈ st.told.sick) && !decide (h.nm ∈ keysA (heldF s st))) (st.told.roll.take j)
      rw [List.length_take] at hfl
      have skip : (!decide (h.nm ∈ st.told.sick) && !decide (h.nm ∈ keysA (heldF s st))) = false → DtAll K H5 ac (((st.told.roll.take (j + 1)).filter fun h => !decide (h.nm ∈ st.told.sick) && !decide (h.nm ∈ keysA (heldF s st))).map encH) := fun hf => by
        rw [List.take_add_one, hh, List.filter_append]
        show DtAll K H5 ac ((_ ++ [h].filter _).map encH)
        rw [List.filter_cons, if_neg (by rw [hf]; decide)]
        simpa using hac
      refine ⟨rfl, ?_⟩
      refine ⟨_, rfl, ha, _, _, .str h.nm, rfl, rfl, h1, rfl, _, rfl, r2, _, rfl, .inr (S4.tup (S1.tup s1)), rfl, flat_strs _, _, rfl, ?_⟩
      rw [if_pos rfl, in_strs]
      by_cases hm : h.nm ∈ st.told.sick
      · rw [decide_eq_true hm]
        refine iteF (iteF (lc_skip S4 (Same.refl _) e4 (skip (by rw [decide_eq_true hm]; rfl))))
      · rw [decide_eq_false hm]
        refine iteT ⟨_, rfl, ha, _, _, .str h.nm, rfl, rfl, h1, rfl, _, rfl, dhx, _, rfl, DGet.k (k := .inr h.nm) (S4 _ _ e1), _, rfl, ?_⟩
        have hkey : (valV kvh (.inr h.nm)).isSome = decide (h.nm ∈ keysA (heldF s st)) := by
          rcases g1.val (n := h.nm) with ⟨w1, w2⟩ | ⟨y, z, w1, w2, hr⟩
          · rw [w2]
            have : h.nm ∉ keysA (heldF s st) := fun z => by
              obtain ⟨a, ha⟩ := valA_key z
              rw [w1] at ha
              cases ha
            rw [decide_eq_false this]
            rfl
          · rw [w2]
            have : h.nm ∈ keysA (heldF s st) := List.mem_map.mpr ⟨_, valA_mem w1, rfl⟩
            rw [decide_eq_true this]
            rfl
        rw [hkey]
        by_cases hk : h.nm ∈ keysA (heldF s st)
        · rw [decide_eq_true hk]
          refine iteF (lc_skip S4 (Same.refl _) e4 (skip (by rw [decide_eq_true hk]; simp)))
        · rw [decide_eq_false hk]
          refine iteT ⟨_, rfl, ?_⟩
          refine lc_next hD0 S4 (Same.refl _) e4 (by omega) fun H7 S7 e7 k7 => ?_
          have t7 := tups_but e4 k7
          rw [List.take_add_one, hh, List.filter_append, List.map_append]
          refine (hac.mono t7).append ?_
          show DtAll K H7 [.ref ha] (([h].filter _).map encH)
          rw [List.filter_cons, if_pos (by rw [decide_eq_false hm, decide_eq_false hk]; rfl)]
          exact .cons (dh.mono t7) .nil
    rintro ac H2 S2 e2 hac
    rw [lrs, List.take_length] at hac
    have hac : DtAll K H2 ac ((callsH s st).map encH) := hac
    refine ⟨D, _, rfl, .inl ⟨sql_of e2, fun th hth => newG hth fun H3 S3 e3 => ?_⟩⟩
    have S13 : Same H H3 := (S1.trans S2).trans S3
    have M3 := M.mono S13
    have hacL := hac.length
    rw [List.length_map] at hacL
    have hbl : (callsH s st).length ≤ 64 := Nat.le_trans (List.length_filter_le _ _) hroll
    have hvals : kvh.map (·.2) = ((heldF s st).map (·.2)).map V.str := dr_vals g1
    refine ⟨_, rfl, m, x.dx, _, rfl, M3.ob, nolot, _, rfl, dhx, kvh, rfl, (S2.trans S3) _ _ e1, fun lv hlv => newG hlv fun H4 S4 e4 => ?_⟩
    have S14 := S13.trans S4
    have M4 := M.mono S14
    rw [hvals] at e4
    refine ⟨m, lv, x, s, st, (heldF s st).map (·.2), rfl, M4, G, TG, hb, e4, fun H5 tl S5 dl => ?_⟩
    have S35 := S4.trans S5
    have M5 := M3.mono S35
    refine ⟨_, rfl, _, rfl, _, rfl, th, rfl, ⟨_, sqt_of (S35 _ _ e3)⟩, fun D2 hD2 => ?_⟩
    obtain ⟨kvs, f1, g2⟩ := M5.wa
    refine lc_run (walk_tup (K := K) (a := th) (xs := ac)) (H0 := H5) (fun j ac H4 => ac = (((callsH s st).take j).map fun h => valA st.was h.nm).map oS) (Same.refl _) hD2 (fun _ _ => rfl) (fun H4 S4 => sqt_of (S4 _ _ (S35 _ _ e3))) ?_ ?_
    · rintro j z ac2 H6 H7 hj hD0 S6 e6 rfl ⟨rfl, hx⟩
      obtain ⟨h, hh, dh⟩ := item_inv (a := th) hac hx
      have dh := ((dh.mono S3.tups).mono S35.tups).mono S6.tups
      obtain ⟨ha, sa, rfl, h1, h2⟩ := hand_inv dh
      have M6 := M5.mono S6
      refine ⟨rfl, g_yes (iteT ?_)⟩
      refine ⟨_, rfl, m, CV, x.dx, _, _, rfl, M6.ob, T.cls_Voyage, T.na_Voyage_was_at, vf_6 _ _, x.dwa, rfl, .inl ⟨_, .inl (S6 _ _ f1)⟩, _, rfl, ha, _, _, .str h.nm, rfl, rfl, h1, rfl, _, DGet.k (k := .inr h.nm) (S6 _ _ f1), ?_⟩
      rw [oS_get g2]
      refine lc_next hD0 S6 (Same.refl _) e6 (by rw [List.length_map, List.length_map, List.length_take]; omega) fun H8 _ _ _ => ?_
      rw [List.take_add_one, hh]
      simp
    rintro ac2 H6 S6 e6 rfl
    rw [hacL, List.take_length] at e6
    refine ⟨D2, _, rfl, .inl ⟨sql_of e6, fun t3 ht3 => newG ht3 fun H7 S7 e7 => ?_⟩⟩
    refine ⟨by show 3 ≤ sizeLine; decide, fun q8 hq8 => newG hq8 fun H8 S8 e8 => ?_⟩
    have S68 := S7.trans S8
    have S58 := S6.trans S68
    refine k H8 q8 (S13.trans (S35.trans S58)) ⟨th, tl, t3, sqt_of e8, .tup (sqt_of (S58 _ _ (S35 _ _ e3))) (hac.mono ((S3.trans S35).trans S58).tups), dl.mono S58.tups, .tup (sqt_of (S8 _ _ e7)) (oD_all _)⟩
theorem sc_Voyage_asked_now : FnScope ["self"] ["self"] (defScope s_Voyage_asked_now) := ⟨rfl, rfl, rfl, by decide +kernel, rfl, by decide +kernel, by decide +kernel⟩
theorem m_Voyage_asked_now (T : Txt K mg CM CH CV aL) : Met P w K mg base 8 CV "asked_now" (spAskN K CV CH) := by
  have m_Voyage_by_bill := m_Voyage_by_bill (P := P) (w := w) (base := base) T
  have m_Voyage_by_calls := m_Voyage_by_calls (P := P) (w := w) (base := base) T
  refine met_of T.cls_Voyage T.md_Voyage_asked_now (fun _ _ _ _ _ _ us hl => match us, hl with | [_], _ => rfl) sc_Voyage_asked_now (fun vs H Q E h => ?_) (fun f cdv A outer s H vs Q E hr h => ?_)
  · obtain ⟨_, _, _, _, rfl, _⟩ := h; rfl
  · obtain ⟨m, x, s, st, rfl, M, G, TG, hb, k⟩ := h
    obtain ⟨q, r1, r2, r3, r4, ws, et, a1, a2, a3, a4, a5, a6⟩ := M.to.ex
    have nobill : (vfs x st.bell).lookup ("by_bill" : Str) = none := vf_no x _ (by decide +kernel)
    have nocalls : (vfs x st.bell).lookup ("by_calls" : Str) = none := vf_no x _ (by decide +kernel)
    refine ⟨_, (pss_cons (ps_if (pt_cmpR (op_eqDK K hr.units) (pe_ix (ix_tupK K) (pe_fldK K (pv 0) rfl) pe_int (fun _ _ => rfl)) (pe_tup pa_nil) (nomark _)) (pss_one (ps_ret (pe_mt0 m_Voyage_by_bill hr (by decide) (pv 0)))) pss_nil)
    (pss_one (ps_ret (pe_mt0 m_Voyage_by_calls hr (by decide) (pv 0))))), ?_⟩
    refine ⟨_, rfl, m, CV, x.dx, _, _, rfl, M.ob, T.cls_Voyage, T.na_Voyage_told_now, vf_7 _ _, q, _, _, .ref r4, et, rfl, a1, rfl, by show 0 ≤ sizeLine; decide, fun p hp => newG hp fun H1 S1 e1 => ?_⟩
    have M1 := M.mono S1
    refine ⟨_, _, (a6.mono S1.tups).dp, (Dt.tup (ds := []) (sqt_of e1) .nil).dp, calls_shaped G TG, rfl, _, rfl, ?_⟩
    rw [calls_eqv]
    unfold askF at k
    refine ite2 (fun c => ?_) (fun c => ?_)
    · have c : st.told.calls = [] := of_decide_eq_true c
      rw [if_pos c] at k
      exact ⟨_, rfl, m, x.dx, _, rfl, M1.ob, nobill, m, x, s, st, rfl, M1, G, TG, hb, fun H2 q2 S2 A2 => k H2 q2 (S1.trans S2) A2⟩
    · have c : ¬ st.told.calls = [] := fun z => c (decide_eq_true z)
      rw [if_neg c] at k
      exact ⟨_, rfl, m, x.dx, _, rfl, M1.ob, nocalls, m, x, s, st, rfl, M1, G, TG, hb, fun H2 q2 S2 A2 => k H2 q2 (S1.trans S2) A2⟩
end
end WS
/-! The voyage: what comes by a bell. -/
namespace WS
open PySem PySem.Spec PyProof.Rows L2 WM
open C8 (pe_gc pe_c pe_mk pe_mt pe_mt0)
open LamX (TabS Tabs ExtN TabB)
structure PgOk (p : Page) : Prop where
  lay : PyData.canLay0 (encPg p) = true
  ok : ChgOk p.ch
theorem dep_h (h : Hand) : (encH h).depth ≤ 2 := by simp [encH, PyData.depth, PyData.depthAll, strs_dep]
theorem dep_cg (c : Chg) : (encCg c).depth ≤ 3 := by
  cases c with
  | join h =>
    have := dep_h h
    simp [encCg, PyData.depth, PyData.depthAll]
    omega
  | _ => simp [encCg, PyData.depth, PyData.depthAll]
theorem dep_pg (p : Page) : (encPg p).depth ≤ 4 := by
  have := dep_cg p.ch
  simp [encPg, PyData.depth, PyData.depthAll]
  omega
theorem pgs_shaped {l : List Page} (h : ∀ p, p ∈ l → PgOk p) : SeqAt.shaped (.list (l.map encPg)) = true := by
  have e1 : PyData.canLayAll0 (l.map encPg) = true := by
    induction l with
    | nil => rfl
    | cons x l ih => simp [PyData.canLayAll0, (h x (by simp)).lay, ih fun y hy => h y (by simp [hy])]
  have e2 : PyData.depthAll (l.map encPg) ≤ 4 := by
    clear e1 h
    induction l with
    | nil => simp [PyData.depthAll]
    | cons x l ih =>
      have := dep_pg x
      simp [PyData.depthAll]
      omega
  simp [SeqAt.shaped, PyData.canLay0, PyData.depth, e1]
  omega
theorem pgs_eqv (l : List Page) : PyData.eqv (.list (l.map encPg)) (.list []) = decide (l = []) := by
  cases l with
  | nil => rfl
  | cons x l => simp [PyData.eqv, PyData.eqvAll]
theorem come_wf {fx : HFix} {b : Int} : ∀ {l : List Page} {h : HS} {N : Nat}, HWf fx h N → (∀ p, p ∈ l → PgOk p) → ∃ N', HWf fx (comeL fx b l h).2 N' ∧ N' + (comeL fx b l h).1.length = N + l.length ∧ ∀ p, p ∈ (comeL fx b l h).1 → p ∈ l
  | [], h, N, W, _ => ⟨N, W, rfl, fun _ z => z⟩
  | p :: r, h, N, W, ok => by
    unfold comeL
    split
    · obtain ⟨N', a, c, d⟩ := come_wf (b := b) (l := r) (putIn_wf (fx := fx) W p.ch (ok p (by simp)).ok) fun q hq => ok q (by simp [hq])
      exact ⟨N', a, by rw [c, List.length_cons]; omega, fun q hq => List.mem_cons_of_mem _ (d q hq)⟩
    · exact ⟨N, W, rfl, fun _ z => z⟩
section
variable {K : PySem.W.Frag} {H H' : Hp} {CV CH m : Addr} {x : VA} {s : Ship} {st : VS}
theorem HObj.keepB {a : HA} {fx : HFix} {hs : HS} {mh : Addr} (M : HObj K H CH mh a fx hs) (t : Tups H H') (k : ∀ b, b = mh ∨ b = a.lb ∨ b = a.lw ∨ b ∈ a.cells → H' b = H b) : HObj K H' CH mh a fx hs := by
  obtain ⟨k1, e1, d1⟩ := M.dh
  obtain ⟨k2, e2, d2⟩ := M.di
  obtain ⟨k3, e3, d3⟩ := M.dw
  exact ⟨by rw [k _ (.inl rfl)]; exact M.ob, by rw [k _ (.inr (.inl rfl))]; exact M.lb, by rw [k _ (.inr (.inr (.inl rfl)))]; exact M.lw, ⟨k1, by rw [k _ (.inr (.inr (.inr (m1 a))))]; exact e1, d1.mono fun v h x => x.mono t⟩,
    ⟨k2, by rw [k _ (.inr (.inr (.inr (m2 a))))]; exact e2, d2⟩, ⟨k3, by rw [k _ (.inr (.inr (.inr (m3 a))))]; exact e3, d3⟩, by rw [k _ (.inr (.inr (.inr (m4 a))))]; exact M.lu, M.ap⟩
theorem VObj.lcNot (M : VObj K H CV CH m x s st) : x.lc ∉ x.a.cells := fun z => by
  obtain ⟨xs, e, _⟩ := M.co
  obtain ⟨k1, e1, _⟩ := M.ho.dh
  obtain ⟨k2, e2, _⟩ := M.ho.di
  obtain ⟨k3, e3, _⟩ := M.ho.dw
  have hb : x.lc = x.a.dh ∨ x.lc = x.a.di ∨ x.lc = x.a.dw ∨ x.lc = x.a.lu := by simpa [HA.cells] using z
  rcases hb with q | q | q | q
  · rw [q, e1] at e; cases e
  · rw [q, e2] at e; cases e
  · rw [q, e3] at e; cases e
  · exact M.ap.2.2.2.1 q
theorem VObj.mNot (M : VObj K H CV CH m x s st) : m ∉ x.a.cells := fun z => by
  rcases M.ho.cell z with ⟨k, e⟩ | ⟨k, e⟩ <;> (rw [M.ob] at e; cases e)
theorem VObj.hold (M : VObj K H CV CH m x s st) (B : ButL x.a.cells H H') {hs' : HS} (h : HObj K H' CH x.mh x.a (fixF s) hs') : VObj K H' CV CH m x s { st with hs := hs' } := by
  have t : Tups H H' := B.tups fun b hb => M.ho.notup hb
  obtain ⟨xs, e1, d1⟩ := M.co
  obtain ⟨k2, e2, d2⟩ := M.ds
  obtain ⟨k3, e3, d3⟩ := M.wa
  refine ⟨B _ _ M.mNot M.ob, M.sh.mono t, ⟨xs, B _ _ M.lcNot e1, d1.mono t⟩, h, ⟨k2, B _ _ M.ap.2.2.2.2.2.1 e2, d2⟩, ⟨k3, B _ _ M.ap.2.2.2.2.2.2 e3, d3⟩, M.to.keep t fun a o u e => B _ _ (fun z => ?_) e, M.ap⟩
  rcases M.ho.cell z with ⟨k, q⟩ | ⟨k, q⟩ <;> (rw [e] at q; cases q)
theorem VObj.pop (M : VObj K H CV CH m x s st) {xs : List V} {c : List Page} (d : DtAll K H xs (c.map encPg)) : VObj K (upd H x.lc (.lst xs)) CV CH m x s { st with coming := c } := by
  obtain ⟨ys, e1, d1⟩ := M.co
  have t : Tups H (upd H x.lc (.lst xs)) := Tups.upd (not_tup_lst e1)
  obtain ⟨k2, e2, d2⟩ := M.ds
  obtain ⟨k3, e3, d3⟩ := M.wa
  refine ⟨by rw [upd_ne (kd_ne M.ob e1 fun z => nomatch z)]; exact M.ob, M.sh.mono t, ⟨xs, upd_same, d.mono t⟩, M.ho.keepB t fun b hb => ?_, ⟨k2, by rw [upd_ne (kd_ne e2 e1 fun z => nomatch z)]; exact e2, d2⟩, ⟨k3, by rw [upd_ne (kd_ne e3 e1 fun z => nomatch z)]; exact e3, d3⟩, M.to.keep t fun a o u e => ?_, M.ap⟩
  · refine upd_ne fun z => ?_
    subst z
    rcases hb with q | q | q | q
    · rw [q, M.ho.ob] at e1; cases e1
    · exact M.ap.2.1 q
    · exact M.ap.2.2.1 q
    · exact M.lcNot q
  · rw [upd_ne (kd_ne e e1 fun z => nomatch z)]; exact e
/-- a field of the voyage is set -/
theorem VObj.fld (M : VObj K H CV CH m x s st) {b' : Int} {dwa' : Addr} {tv' : V} {was' : List (Str × Str)} {told' : Told} (K1 : Km m H H') (e : H' m = some (.ins CV x.dx (vfs { x with dwa := dwa', tv := tv' } b')))
    (w : ∃ kvs, H' dwa' = some (.dK kvs) ∧ DR RS kvs was') (to : ToldAt K H' tv' told') (a1 : x.ds ≠ dwa') (a2 : dwa' ∉ x.a.cells) : VObj K H' CV CH m { x with dwa := dwa', tv := tv' } s { st with bell := b', was := was', told := told' } := by
  have t : Tups H H' := K1.tups M.ob
  obtain ⟨xs, e1, d1⟩ := M.co
  obtain ⟨k2, e2, d2⟩ := M.ds
  have hne : ∀ {b : Addr} {o : HO}, H b = some o → (∀ C dx fs, o ≠ .ins C dx fs) → b ≠ m := fun {b o} q n z => by
    subst z
    rw [M.ob] at q
    exact n _ _ _ (Option.some.inj q).symm
  refine ⟨e, M.sh.mono t, ⟨xs, K1 _ _ (hne e1 fun _ _ _ z => nomatch z) e1, d1.mono t⟩, M.ho.keepB t fun b hb => ?_, ⟨k2, K1 _ _ (hne e2 fun _ _ _ z => nomatch z) e2, d2⟩, w, to, ⟨M.ap.1, M.ap.2.1, M.ap.2.2.1, M.ap.2.2.2.1, a1, M.ap.2.2.2.2.2.1, a2⟩⟩
  have hx : ∀ o, H b = some o → b ≠ m → H' b = H b := fun o q n => by rw [K1 _ _ n q, q]
  rcases hb with q | q | q | q
  · subst q; exact hx _ M.ho.ob M.ap.1.symm
  · subst q; exact hx _ M.ho.lb (hne M.ho.lb fun _ _ _ z => nomatch z)
  · subst q; exact hx _ M.ho.lw (hne M.ho.lw fun _ _ _ z => nomatch z)
  · rcases M.ho.cell q with ⟨k, z⟩ | ⟨k, z⟩
    · exact hx _ z (hne z fun _ _ _ z => nomatch z)
    · exact hx _ z (hne z fun _ _ _ z => nomatch z)
end
theorem putF_told (x : VA) (b : Int) (v : V) : putF "told_now" v (vfs x b) = vfs { x with tv := v } b := rfl
def spComeTo (K : PySem.W.Frag) (CV CH : Addr) : Sp := fun vs H Q _ => ∃ (m : Addr) (x : VA) (s : Ship) (st : VS) (N : Nat), vs = [.ref m] ∧ VObj K H CV CH m x s st ∧ HWf (fixF s) st.hs N ∧ N + st.coming.length ≤ 60 ∧ (∀ p, p ∈ st.coming → PgOk p) ∧
  ∀ H' tv, ButL (x.cells m) H H' → VObj K H' CV CH m { x with tv := tv } s (comeF s st) → Q .non H'
theorem vc1 (x : VA) (m : Addr) : m ∈ x.cells m := by simp [VA.cells]
theorem vc2 (x : VA) (m : Addr) : x.lc ∈ x.cells m := by simp [VA.cells]
theorem vc3 (x : VA) (m : Addr) : x.ds ∈ x.cells m := by simp [VA.cells]
theorem vc4 (x : VA) (m : Addr) {b : Addr} (h : b ∈ x.a.cells) : b ∈ x.cells m := by simp [VA.cells, h]
section
variable {P : Program} {w : World} {K : PySem.W.Frag} {mg : Str → Option Value} {base : Heap} {CM CH CV aL : Addr}
theorem sc_Voyage_come_to : FnScope ["self"] ["self"] (defScope s_Voyage_come_to) := ⟨rfl, rfl, rfl, by decide +kernel, rfl, by decide +kernel, by decide +kernel⟩
theorem m_Voyage_come_to (T : Txt K mg CM CH CV aL) : Met P w K mg base 3 CV "come_to" (spComeTo K CV CH) := by
  have m_Holding_put_in := m_Holding_put_in (P := P) (w := w) (base := base) T
  have m_Holding_mustered := m_Holding_mustered (P := P) (w := w) (base := base) T
  refine met_of T.cls_Voyage T.md_Voyage_come_to (fun _ _ _ _ _ _ us hl => match us, hl with | [_], _ => rfl) sc_Voyage_come_to (fun vs H Q E h => ?_) (fun f cdv A outer s H vs Q E hr h => ?_)
  · obtain ⟨_, _, _, _, _, rfl, _⟩ := h; rfl
  · obtain ⟨m, x, s, st, N, rfl, M, W, hN, hpg, k⟩ := h
    have noput : ∀ (a : HA) (n : Int), (hfs a n).lookup ("put_in" : Str) = none := fun a n => hf_no a _ (by decide +kernel)
    have nomus : ∀ (a : HA) (n : Int), (hfs a n).lookup ("mustered" : Str) = none := fun a n => hf_no a _ (by decide +kernel)
    refine ⟨_, (pss_cons (ps_while PassesOwn.never (PW.pt (pw_and (pt_cmpR (op_neDK K hr.units) (pe_fldK K (pv 0) rfl) (pe_lst pa_nil) (nomark _)) (pw_and1 (pt_cmpR op_le (pe_ix (ix_tupK K) (pe_ix (ix_listK K) (pe_fldK K (pv 0) rfl) pe_int (fun _ _ => rfl)) pe_int (fun _ _ => rfl)) (pe_fldK K (pv 0) rfl) (nomark _))))) (pss_one (ps_expr (pe_mt m_Holding_put_in hr (by decide) (pe_fldK K (pv 0) rfl) (pa_cons (pe_ix (ix_tupK K) (pe_bmK K PySem.F.plainAttrs_list PySem.F.slot_list_pop PySem.F.type_list_pop mt_popAt (pe_fldK K (pv 0) rfl) (pa_cons pe_int pa_nil)) pe_int (fun _ _ => rfl)) pa_nil)))))
    (pss_one (ps_fld (pv 0) (pe_mt0 m_Holding_mustered hr (by decide) (pe_fldK K (pv 0) rfl)) rfl))), ?_⟩
    refine wh_go (m := st.coming.length) (fun i σ H1 => ∃ (c : List Page) (h : HS) (N1 : Nat), i = c.length ∧ σ = [some (.ref m)] ∧ VObj K H1 CV CH m x s { st with coming := c, hs := h } ∧ ButL (x.cells m) H H1 ∧ comeL (fixF s) st.bell st.coming st.hs = comeL (fixF s) st.bell c h ∧ HWf (fixF s) h N1 ∧ N1 + c.length ≤ 60 ∧ ∀ p, p ∈ c → PgOk p)
      ⟨st.coming, st.hs, N, rfl, rfl, M, ButL.refl _ _, rfl, W, hN, hpg⟩ ?_
    rintro i σ H1 ⟨c, h, N1, rfl, rfl, M1, B1, eq1, W1, hN1, hp1⟩
    obtain ⟨xs, e1, d1⟩ := M1.co
    have lxs : xs.length = c.length := by have := d1.length; rwa [List.length_map] at this
    refine ⟨_, rfl, m, CV, x.dx, _, _, rfl, M1.ob, T.cls_Voyage, T.na_Voyage_coming, vf_2 _ _, by show 0 ≤ sizeLine; decide, fun pl hpl => newG hpl fun H2 S2 e2 => ?_⟩
    have M2 := M1.mono S2
    have f1 := S2 _ _ e1
    have dd1 := d1.mono S2.tups
    refine ⟨_, _, .lst (sql_of f1) dd1.dp, .lst (sql_of e2) .nil, pgs_shaped hp1, rfl, _, rfl, ?_⟩
    rw [pgs_eqv]
    have fin : comeL (fixF s) st.bell c h = (c, h) → (∀ (H3 : Hp), ButL (x.cells m) H H3 → VObj K H3 CV CH m x s { st with coming := c, hs := h } → ∀ v H4, Same H3 H4 → ToldAt K H4 v (toldF h) → ∀ H5, Km m H4 H5 → H5 m = some (.ins CV x.dx (vfs { x with tv := v } st.bell)) → Q .non H5) := fun hc H3 B3 M3 v H4 S4 T4 H5 K5 e5 => by
      have M4 := M3.mono S4
      have ef : comeF s st = { st with coming := c, hs := h, told := toldF h } := by unfold comeF; rw [eq1, hc]
      refine k H5 v ((B3.trans (ButL.same S4)).trans fun b o hb e => K5 b o (fun z => hb (by rw [z]; exact vc1 x m)) e) ?_
      rw [ef]
      obtain ⟨k3, q3, d3⟩ := M4.wa
      refine M4.fld (b' := st.bell) (dwa' := x.dwa) (tv' := v) (was' := st.was) (told' := toldF h) K5 e5 ⟨k3, K5 _ _ (kd_ne q3 M4.ob fun z => nomatch z) q3, d3⟩ (T4.keep (K5.tups M4.ob) fun a o u e => K5 _ _ (kd_ne e M4.ob fun z => nomatch z) e) M4.ap.2.2.2.2.1 M4.ap.2.2.2.2.2.2
    cases c with
    | nil =>
      refine iteF (iteF ?_)
      refine ⟨_, rfl, m, CV, x.dx, _, _, rfl, M2.ob, T.cls_Voyage, T.na_Voyage_holding, vf_3 _ _, x.mh, x.a.dx, _, rfl, M2.ho.ob, nomus _ _, x.mh, x.a, fixF s, h, N1, rfl, M2.ho, W1, by simp at hN1; omega, fun H3 v S3 T3 => ?_⟩
      refine ⟨_, rfl, m, CV, x.dx, _, rfl, S3 _ _ M2.ob, T.cls_Voyage, T.na_Voyage_told_now, (by show 7 < 1000; decide), fldG fun H4 K4 m4 => ?_⟩
      rw [putF_told] at m4
      exact fin rfl H2 (B1.trans (ButL.same S2)) M2 v H3 S3 T3 H4 K4 m4
    | cons p r =>
      refine iteT ?_
      cases d1 with
      | @cons pv vs _ _ dp dr =>
        obtain ⟨pa, cv, rfl, p1, p2⟩ := page_inv (dp.mono S2.tups)
        refine ⟨_, rfl, m, CV, x.dx, _, _, rfl, M2.ob, T.cls_Voyage, T.na_Voyage_coming, vf_2 _ _, x.lc, _, _, .ref pa, rfl, rfl, sql_of f1, at_of (j := 0) rfl rfl, pa, _, _, .int p.bell, rfl, rfl, p1, rfl, _, rfl, m, CV, x.dx, _, _, rfl, M2.ob, T.cls_Voyage, T.na_Voyage_bell_now, vf_4 _ _, _, _, rfl, rfl, _, rfl, ?_⟩
        refine ite2 (fun q => ?_) (fun q => ?_)
        · have q : p.bell ≤ st.bell := of_decide_eq_true q
          refine ⟨fun σ' H' => ∃ m', m' < (p :: r).length ∧ _, fun _ _ h => h, ?_⟩
          refine ⟨_, rfl, m, CV, x.dx, _, _, rfl, M2.ob, T.cls_Voyage, T.na_Voyage_holding, vf_3 _ _, x.mh, x.a.dx, _, rfl, M2.ho.ob, noput _ _, _, rfl, m, CV, x.dx, _, _, rfl, M2.ob, T.cls_Voyage, T.na_Voyage_coming, vf_2 _ _, .inl ⟨rfl, _, sql_of f1⟩, x.lc, _, 0, 0, .ref pa, rfl, rfl, f1, by decide, by decide, seqIx (j := 0) (by simp), rfl, ?_⟩
          have M3 := M2.pop (c := r) (xs := vs) (dr.mono S2.tups)
          have T3 : Tups H2 (upd H2 x.lc (.lst vs)) := Tups.upd (not_tup_lst f1)
          have B3 : ButL (x.cells m) H2 (upd H2 x.lc (.lst vs)) := (ButL.refl _ _).upd (vc2 x m)
          rw [show (V.ref pa :: vs).eraseIdx 0 = vs from rfl]
          generalize upd H2 x.lc (.lst vs) = H3 at M3 T3 B3 ⊢
          refine ⟨pa, _, _, cv, rfl, rfl, T3.sq p1, rfl, x.mh, x.a, fixF s, h, cv, p.ch, N1, rfl, M3.ho, W1, by simp at hN1; omega, p2.mono T3, fun H4 B4 M4 => ?_⟩
          have M5 := M3.hold B4 M4
          refine ⟨r.length, by simp, r, putInF (fixF s) h p.ch, N1 + 1, rfl, rfl, M5, ((B1.trans (ButL.same S2)).trans B3).trans (B4.more fun b hb => vc4 x m hb), ?_, putIn_wf W1 p.ch (hp1 p (by simp)).ok, by simp at hN1; omega, fun y hy => hp1 y (by simp [hy])⟩
          rw [eq1]
          simp only [comeL]
          rw [if_pos q]
        · have q : ¬ p.bell ≤ st.bell := fun z => q (decide_eq_true z)
          refine ⟨_, rfl, m, CV, x.dx, _, _, rfl, M2.ob, T.cls_Voyage, T.na_Voyage_holding, vf_3 _ _, x.mh, x.a.dx, _, rfl, M2.ho.ob, nomus _ _, x.mh, x.a, fixF s, h, N1, rfl, M2.ho, W1, by simp at hN1; omega, fun H3 v S3 T3 => ?_⟩
          refine ⟨_, rfl, m, CV, x.dx, _, rfl, S3 _ _ M2.ob, T.cls_Voyage, T.na_Voyage_told_now, (by show 7 < 1000; decide), fldG fun H4 K4 m4 => ?_⟩
          rw [putF_told] at m4
          exact fin (by simp [comeL, q]) H2 (B1.trans (ButL.same S2)) M2 v H3 S3 T3 H4 K4 m4
end
end WS
/-! The voyage goes on from bell to bell. -/
namespace WS
open PySem PySem.Spec PyProof.Rows L2 WM
open C8 (pe_gc pe_c pe_mk pe_mt pe_mt0)
open LamX (TabS Tabs ExtN TabB)
noncomputable def askP (k : Ask) : List (Option Str) := manF k.hands k.lot k.stood
noncomputable def thereB (s : Ship) (st : VS) : List (Str × Str) := placesF (billH s st) (askP (billF s st))
noncomputable def stB (s : Ship) (st : VS) : VS := { st with stn := mergeA st.stn (thereB s st) }
noncomputable def thereC (s : Ship) (st : VS) : List (Str × Str) := mergeA (placesF (callsH s st) (askP (callsF s st))) (heldF s st)
noncomputable def thereF (s : Ship) (st : VS) : List (Str × Str) := if st.told.calls = [] then thereB s st else thereC s st
noncomputable def goF (s : Ship) (st : VS) : VS := comeF s { stB s st with was := thereF s st, bell := st.bell + 1 }
noncomputable def rowsF (s : Ship) (st : VS) : List (Str × Wh) := st.told.roll.map fun h => (h.nm, whereF h.nm (thereF s st) st.told.sick)
def encRow (r : Str × Wh) : PyData := .tuple [.str r.1, encW r.2]
structure RowsAt (K : PySem.W.Frag) (H : Hp) (r : Addr) (rows : List (Str × Wh)) : Prop where
  ex : ∃ ws : List Addr, TupF H r (ws.map V.ref) ∧ DtAll K H (ws.map V.ref) (rows.map encRow)
def PlG (p : Place) : Prop := 0 ≤ p.grade ∧ p.grade ≤ 2 ∧ p.rank ≤ 7
theorem lotW_pl {s : Ship} (G : ShipG s) (st : VS) : ∀ p, p ∈ lotW s st → PlG p := fun p hp => by
  obtain ⟨q, hq, rfl⟩ := List.mem_map.mp hp
  rw [List.getD_eq_getElem?_getD] at hq
  cases e : s.bills[watchNo s st.bell]? with
  | none => rw [e] at hq; simp at hq
  | some l =>
    rw [e] at hq
    have := G.plB l (List.mem_of_getElem? e) q hq
    exact ⟨this.gr.1, this.gr.2, this.rk⟩
theorem addPl_mem {f : List Place} {p q : Place} (h : q ∈ addPl f p) : q ∈ f ∨ q = p := by
  unfold addPl at h
  split at h
  · exact (List.mem_or_eq_of_mem_set h)
  · rcases List.mem_append.mp h with z | z
    · exact .inl z
    · right; simpa using z
theorem addPls_mem : ∀ {l f : List Place} {q : Place}, q ∈ l.foldl addPl f → q ∈ f ∨ q ∈ l
  | [], f, q, h => .inl h
  | p :: l, f, q, h => by
    rcases addPls_mem (l := l) (f := addPl f p) h with z | z
    · rcases addPl_mem z with z | z
      · exact .inl z
      · right; simp [z]
    · right; simp [z]
theorem lotsA_mem {s : Ship} {x : Str} {q : Place} (h : q ∈ (valA (lotsA s) x).getD []) : ∃ b, b ∈ s.books ∧ b.word = x ∧ q ∈ b.lot := by
  cases e : valA (lotsA s) x with
  | none => rw [e] at h; simp at h
  | some l =>
    rw [e] at h
    rcases mergeA_mem (valA_mem e) with z | z
    · simp at z
    · obtain ⟨b, hb, q1⟩ := List.mem_map.mp z
      injection q1 with q1 q2
      exact ⟨b, hb, q1, by rw [q2]; exact h⟩
theorem callsL_mem {s : Ship} : ∀ {calls : List Str} {f : List Place} {q : Place}, q ∈ calls.foldl (fun f w => ((valA (lotsA s) w).getD []).foldl addPl f) f → q ∈ f ∨ ∃ b, b ∈ s.books ∧ b.word ∈ calls ∧ q ∈ b.lot
  | [], f, q, h => .inl h
  | x :: calls, f, q, h => by
    rcases callsL_mem (calls := calls) (f := ((valA (lotsA s) x).getD []).foldl addPl f) h with z | ⟨b, h1, h2, h3⟩
    · rcases addPls_mem z with z | z
      · exact .inl z
      · obtain ⟨b, h1, h2, h3⟩ := lotsA_mem z
        exact .inr ⟨b, h1, by simp [h2], h3⟩
    · exact .inr ⟨b, h1, by simp [h2], h3⟩
theorem lotC_pl {s : Ship} (G : ShipG s) (st : VS) (gone : List Str) : ∀ p, p ∈ lotC s st gone → PlG p := fun p hp => by
  obtain ⟨q, hq, rfl⟩ := List.mem_map.mp hp
  rcases callsL_mem hq with z | ⟨b, h1, _, h3⟩
  · exact lotW_pl G st q z
  · have := G.plK b h1 q h3
    exact ⟨this.gr.1, this.gr.2, this.rk⟩
theorem lotC_len {s : Ship} (G : ShipG s) {st : VS} (TG : ToldG s st.told) (gone : List Str) : (lotC s st gone).length ≤ 700 := by
  have h1 := callsL_len (st := st) G st.told.calls (lotW s st)
  have h2 := lotW_len G st
  have h3 := TG.calls
  unfold lotC callsL
  rw [List.length_map]
  omega
theorem mok_bill {s : Ship} {st : VS} (G : ShipG s) (TG : ToldG s st.told) : MOk (billF s st).hands (billF s st).lot (billF s st).stood where
  len := by show ((billH s st).map _).length = _; rw [List.length_map]; rfl
  szH := by have := TG.roll; have := List.length_filter_le (fun h : Hand => decide (h.sec = keeperF s.day s.turn st.bell) && !decide (h.nm ∈ st.told.sick)) st.told.roll; show (billH s st).length ≤ 1000; unfold billH; omega
  szP := by have := lotW_len G st; show (lotW s st).length ≤ 1000; omega
  pl := lotW_pl G st
  hd := fun h hh => (TG.ok h (List.mem_filter.mp hh).1).rk
theorem mok_calls {s : Ship} {st : VS} (G : ShipG s) (TG : ToldG s st.told) : MOk (callsF s st).hands (callsF s st).lot (callsF s st).stood where
  len := by show ((callsH s st).map _).length = _; rw [List.length_map]; rfl
  szH := by have := TG.roll; have := List.length_filter_le (fun h : Hand => !decide (h.nm ∈ st.told.sick) && !decide (h.nm ∈ keysA (heldF s st))) st.told.roll; show (callsH s st).length ≤ 1000; unfold callsH; omega
  szP := by have := lotC_len G TG ((heldF s st).map (·.2)); show (lotC s st _).length ≤ 1000; omega
  pl := lotC_pl G st _
  hd := fun h hh => (TG.ok h (List.mem_filter.mp hh).1).rk
theorem manR_len {hs : List Hand} {lot : List Place} {st : List (Option Str)} {p : List (Option Str)} {U W : List Int} (h : ManR hs lot st p U W) : p.length = hs.length := by
  obtain ⟨s, n, x, _, _, _, rfl, _⟩ := h.ex
  rw [ls_len]
theorem VObj.stn {K : PySem.W.Frag} {H : Hp} {CV CH m : Addr} {x : VA} {s : Ship} {st : VS} (M : VObj K H CV CH m x s st) {kvs : List (Key × V)} {l : List (Str × Str)} (d : DR RS kvs l) : VObj K (upd H x.ds (.dK kvs)) CV CH m x s { st with stn := l } := by
  obtain ⟨ys, e1, d1⟩ := M.co
  obtain ⟨k2, e2, d2⟩ := M.ds
  obtain ⟨k3, e3, d3⟩ := M.wa
  have t : Tups H (upd H x.ds (.dK kvs)) := Tups.upd (not_tup_dK e2)
  refine ⟨by rw [upd_ne (kd_ne M.ob e2 fun z => nomatch z)]; exact M.ob, M.sh.mono t, ⟨ys, by rw [upd_ne (kd_ne e1 e2 fun z => nomatch z)]; exact e1, d1.mono t⟩, M.ho.keepB t fun b hb => ?_, ⟨kvs, upd_same, d⟩, ⟨k3, by rw [upd_ne M.ap.2.2.2.2.1.symm]; exact e3, d3⟩, M.to.keep t fun a o u e => ?_, M.ap⟩
  · refine upd_ne fun z => ?_
    subst z
    rcases hb with q | q | q | q
    · rw [q, M.ho.ob] at e2; cases e2
    · rw [q, M.ho.lb] at e2; cases e2
    · rw [q, M.ho.lw] at e2; cases e2
    · exact M.ap.2.2.2.2.2.1 q
  · rw [upd_ne (kd_ne e e2 fun z => nomatch z)]; exact e
theorem st_norm {F : L2.St → Hp → Prop} {σ σ' : L2.St} {H : Hp} (e : σ = σ') (k : F σ' H) : F σ H := e ▸ k
theorem vnotup {K : PySem.W.Frag} {H : Hp} {CV CH m : Addr} {x : VA} {s : Ship} {st : VS} (M : VObj K H CV CH m x s st) : ∀ b, b ∈ x.cells m → ∀ xs, ¬ Rd H b (.tup xs) := fun b hb => by
  obtain ⟨ys, e1, d1⟩ := M.co
  obtain ⟨k2, e2, d2⟩ := M.ds
  have hb : b = m ∨ b = x.lc ∨ b = x.ds ∨ b ∈ x.a.cells := by simpa [VA.cells] using hb
  rcases hb with rfl | rfl | rfl | hb
  · intro xs e
    rcases e with e | ⟨_, e⟩ <;> (rw [M.ob] at e; cases e)
  · exact not_tup_lst e1
  · exact not_tup_dK e2
  · exact M.ho.notup hb
theorem putF_was (x : VA) (b : Int) (d : Addr) : putF "was_at" (.ref d) (vfs x b) = vfs { x with dwa := d } b := rfl
theorem putF_bell (x : VA) (b c : Int) : putF "bell_now" (.int c) (vfs x b) = vfs x c := rfl
theorem placesF_len (hs : List Hand) (ps : List (Option Str)) : (placesF hs ps).length ≤ hs.length := by
  have h1 := mergeA_len (placeL hs ps) []
  have h2 := List.length_filterMap_le (fun x : Hand × Option Str => x.2.map fun n => (x.1.nm, n)) (hs.zip ps)
  rw [List.length_zip] at h2
  unfold placesF
  unfold placeL at h1 ⊢
  simp at h1
  omega
theorem heldF_len (s : Ship) (st : VS) : (heldF s st).length ≤ st.told.roll.length := by
  have h1 := mergeA_len (heldL s st) []
  have h2 : (heldL s st).length ≤ st.told.roll.length := List.length_filterMap_le _ _
  unfold heldF
  simp at h1
  omega
def spGoOn (K : PySem.W.Frag) (CV CH : Addr) : Sp := fun vs H Q _ => ∃ (m : Addr) (x : VA) (s : Ship) (st : VS) (N : Nat), vs = [.ref m] ∧ VObj K H CV CH m x s st ∧ ShipG s ∧ ToldG s st.told ∧ 0 ≤ st.bell ∧ HWf (fixF s) st.hs N ∧ N + st.coming.length ≤ 60 ∧ (∀ p, p ∈ st.coming → PgOk p) ∧ st.stn.length ≤ 5000 ∧
  ∀ H' dwa tv r, ButL (x.cells m) H H' → VObj K H' CV CH m { x with dwa := dwa, tv := tv } s (goF s st) → RowsAt K H' r (rowsF s st) → Q (.ref r) H'
section
variable {P : Program} {w : World} {K : PySem.W.Frag} {mg : Str → Option Value} {base : Heap} {CM CH CV aL : Addr}
theorem sc_Voyage_go_on : FnScope ["self", "roll", "sick", "wants", "calls", "hands", "lot", "stood", "there", "stay", "hand"] ["self"] (defScope s_Voyage_go_on) := ⟨rfl, rfl, rfl, by decide +kernel, rfl, by decide +kernel, by decide +kernel⟩
theorem m_Voyage_go_on (T : Txt K mg CM CH CV aL) : Met P w K mg base 8 CV "go_on" (spGoOn K CV CH) := by
  have m_Voyage_by_bill := m_Voyage_by_bill (P := P) (w := w) (base := base) T
  have m_Voyage_by_calls := m_Voyage_by_calls (P := P) (w := w) (base := base) T
  have m_Voyage_held_by := m_Voyage_held_by (P := P) (w := w) (base := base) T
  have m_Voyage_come_to := m_Voyage_come_to (P := P) (w := w) (base := base) T
  have c_places_of := c_places_of (P := P) (w := w) (base := base) T
  have c_man := c_man (P := P) (w := w) (base := base) T
  have c_where_of := c_where_of (P := P) (w := w) (base := base) T
  refine met_of T.cls_Voyage T.md_Voyage_go_on (fun _ _ _ _ _ _ us hl => match us, hl with | [_], _ => rfl) sc_Voyage_go_on (fun vs H Q E h => ?_) (fun f cdv A outer s H vs Q E hr h => ?_)
  · obtain ⟨_, _, _, _, _, rfl, _⟩ := h; rfl
  · obtain ⟨m, x, s, st, N, rfl, M, G, TG, hb, W, hN, hpg, hst, k⟩ := h
    obtain ⟨q, r1, r2, r3, r4, ws, et, a1, a2, a3, a4, a5, a6⟩ := M.to.ex
    have noBB : ∀ (x : VA) (n : Int), (vfs x n).lookup ("by_bill" : Str) = none := fun x n => vf_no x _ (by decide +kernel)
    have noBC : ∀ (x : VA) (n : Int), (vfs x n).lookup ("by_calls" : Str) = none := fun x n => vf_no x _ (by decide +kernel)
    have noHB : ∀ (x : VA) (n : Int), (vfs x n).lookup ("held_by" : Str) = none := fun x n => vf_no x _ (by decide +kernel)
    have noCT : ∀ (x : VA) (n : Int), (vfs x n).lookup ("come_to" : Str) = none := fun x n => vf_no x _ (by decide +kernel)
    have mokB := mok_bill (st := st) G TG
    refine ⟨_, (pss_cons (ps_asg (pe_fldK K (pv 0) rfl) (pg_tupK K 4 rfl (pgs_cons (pg_name (i := 1) sc_Voyage_go_on.nd rfl (Or.inl rfl)) (pgs_cons (pg_name (i := 2) sc_Voyage_go_on.nd rfl (Or.inr rfl)) (pgs_cons (pg_name (i := 3) sc_Voyage_go_on.nd rfl (Or.inl rfl)) (pgs_cons (pg_name (i := 4) sc_Voyage_go_on.nd rfl (Or.inl rfl)) pgs_nil))))))
    (pss_cons (ps_asg (pe_mt0 m_Voyage_by_bill hr (by decide) (pv 0)) (pg_tupK K 3 rfl (pgs_cons (pg_name (i := 5) sc_Voyage_go_on.nd rfl (Or.inl rfl)) (pgs_cons (pg_name (i := 6) sc_Voyage_go_on.nd rfl (Or.inl rfl)) (pgs_cons (pg_name (i := 7) sc_Voyage_go_on.nd rfl (Or.inl rfl)) pgs_nil)))))
    (pss_cons (ps_set (i := 8) sc_Voyage_go_on.nd rfl (Or.inr rfl) (pe_c c_places_of hr (by decide) rfl (pa_cons (pv 5) (pa_cons (pe_ix (ix_tupK K) (pe_c c_man hr (by decide) rfl (pa_cons (pv 5) (pa_cons (pv 6) (pa_cons (pv 7) pa_nil)))) pe_int (fun _ _ => rfl)) pa_nil))))
    (pss_cons (ps_expr (pe_bmK K PySem.F.plainAttrs_dict PySem.F.slot_dict_update PySem.F.type_dict_update mt_dupdate (pe_fldK K (pv 0) rfl) (pa_cons (pv 8) pa_nil)))
    (pss_cons (ps_if (pt_cmpR (op_neDK K hr.units) (pv 4) (pe_tup pa_nil) (nomark _)) (pss_cons (ps_set (i := 9) sc_Voyage_go_on.nd rfl (Or.inl rfl) (pe_mt0 m_Voyage_held_by hr (by decide) (pv 0)))
    (pss_cons (ps_asg (pe_mt0 m_Voyage_by_calls hr (by decide) (pv 0)) (pg_tupK K 3 rfl (pgs_cons (pg_name (i := 5) sc_Voyage_go_on.nd rfl (Or.inl rfl)) (pgs_cons (pg_name (i := 6) sc_Voyage_go_on.nd rfl (Or.inl rfl)) (pgs_cons (pg_name (i := 7) sc_Voyage_go_on.nd rfl (Or.inl rfl)) pgs_nil)))))
    (pss_cons (ps_set (i := 8) sc_Voyage_go_on.nd rfl (Or.inr rfl) (pe_c c_places_of hr (by decide) rfl (pa_cons (pv 5) (pa_cons (pe_ix (ix_tupK K) (pe_c c_man hr (by decide) rfl (pa_cons (pv 5) (pa_cons (pv 6) (pa_cons (pv 7) pa_nil)))) pe_int (fun _ _ => rfl)) pa_nil))))
    (pss_one (ps_expr (pe_bmK K PySem.F.plainAttrs_dict PySem.F.slot_dict_update PySem.F.type_dict_update mt_dupdate (pv 8) (pa_cons (pv 9) pa_nil))))))) pss_nil)
    (pss_cons (ps_fld (pv 0) (pv 8) rfl)
    (pss_cons (ps_fldaug (pv 0) pe_int in_add)
    (pss_cons (ps_expr (pe_mt0 m_Voyage_come_to hr (by decide) (pv 0)))
    (pss_one (ps_ret (pe_callTy (call_tuple_ofFK K) (by rfl) T.b_tuple (by decide +kernel) (pa_cons (pe_lc (own := [("hand", 10)]) rfl sc_Voyage_go_on.nd (pi_tupK K (pv 1)) (blkOk_by (own := [("hand", 10)]) (N := ["self", "roll", "sick", "wants", "calls", "hands", "lot", "stood", "there", "stay", "hand"]) (sc := defScope s_Voyage_go_on) (by decide +kernel)) (fun _ _ _ _ _ => (pg_name (i := 10) sc_Voyage_go_on.nd rfl (Or.inl rfl))) (fun _ _ _ _ _ => pts_nil) (fun _ _ _ _ _ => (pe_tup (pa_cons (pe_ix (ix_tupK K) (pv 10) pe_int (fun _ _ => rfl)) (pa_cons (pe_c c_where_of hr (by decide) rfl (pa_cons (pe_ix (ix_tupK K) (pv 10) pe_int (fun _ _ => rfl)) (pa_cons (pv 8) (pa_cons (pv 2) pa_nil)))) pa_nil))))) pa_nil)))))))))))), ?_⟩
    refine ⟨_, rfl, m, CV, x.dx, _, _, rfl, M.ob, T.cls_Voyage, T.na_Voyage_told_now, vf_7 _ _, q, _, et, a1, rfl, _, _, rfl, _, _, rfl, _, _, rfl, _, _, rfl, rfl, ?_⟩
    refine ⟨_, rfl, m, x.dx, _, rfl, M.ob, noBB _ _, m, x, s, st, rfl, M, G, TG, hb, fun H1 qa S1 A1 => ?_⟩
    obtain ⟨b1, b2, b3, f1, f2, f3, f4⟩ := A1.ex
    refine ⟨qa, _, rfl, f1, rfl, _, _, rfl, _, _, rfl, _, _, rfl, rfl, ?_⟩
    refine ⟨_, rfl, _, rfl, _, rfl, _, rfl, _, _, _, _, _, _, rfl, f2, f3, f4, mokB, fun H2 qm p1 pr posts U W2 S2 R2 h2 h3 h4 h5 => ?_⟩
    refine ⟨qm, _, _, .ref p1, rfl, rfl, h2, rfl, ?_⟩
    have hpl := manR_len R2
    have epo : posts = askP (billF s st) := R2.is
    subst epo
    have S12 := S1.trans S2
    refine ⟨_, _, (billF s st).hands, _, rfl, f2.mono S2.tups, h4, hpl, mokB.szH, fun H3 dB kB S3 hdB e3 d3 => ?_⟩
    have S13 := S12.trans S3
    have M3 := M.mono S13
    have d3 : DR RS kB (thereB s st) := d3
    have M2 := M.mono S12
    obtain ⟨kS, eS, dS⟩ := M3.ds
    obtain ⟨kS2, eS2, _⟩ := M2.ds
    have nds : x.ds ≠ dB := ne_of_none eS2 hdB
    have nbc : dB ∉ x.a.cells := fun z => by
      rcases M2.ho.cell z with ⟨kk, e⟩ | ⟨kk, e⟩ <;> (rw [hdB] at e; cases e)
    have l3 := d3.length
    have l4 := dS.length
    have l5 : (thereB s st).length ≤ 1000 := Nat.le_trans (placesF_len _ _) mokB.szH
    refine ⟨_, rfl, m, CV, x.dx, _, _, rfl, M3.ob, T.cls_Voyage, T.na_Voyage_station_by, vf_5 _ _, .inr (.inr (.inl ⟨rfl, .inl ⟨_, eS⟩⟩)), _, rfl, x.ds, dB, kS, kB, rfl, rfl, nds, eS, .inl e3, sz100 (by omega), ?_⟩
    have M4 : VObj K (upd H3 x.ds (.dK (mergeK kS kB))) CV CH m x s (stB s st) := M3.stn (dS.merge d3)
    have e4 : upd H3 x.ds (.dK (mergeK kS kB)) dB = some (.dK kB) := by rw [upd_ne nds.symm]; exact e3
    have B4 : ButL (x.cells m) H (upd H3 x.ds (.dK (mergeK kS kB))) := (ButL.same S13).upd (vc3 x m)
    generalize upd H3 x.ds (.dK (mergeK kS kB)) = H4 at M4 e4 B4 ⊢
    refine ⟨_, rfl, by show 0 ≤ sizeLine; decide, fun pe hpe => newG hpe fun H5 S5 e5 => ?_⟩
    have M5 := M4.mono S5
    have B5 : ButL (x.cells m) H H5 := B4.trans (ButL.same S5)
    have T5 : Tups H H5 := B5.tups (vnotup M)
    refine ⟨_, _, (a6.mono T5).dp, (Dt.tup (ds := []) (sqt_of e5) .nil).dp, calls_shaped G TG, rfl, _, rfl, ?_⟩
    rw [calls_eqv]
    by_cases hc : st.told.calls = []
    · rw [decide_eq_true hc]
      refine iteF ?_
      refine st_norm (σ' := [some (.ref m), some (.ref r1), some (.ref r2), some (.ref r3), some (.ref r4), some (.ref b1), some (.ref b2), some (.ref b3), some (.ref dB), none, none]) rfl ?_
      have e55 := S5 _ _ e4
      have dd : DR RS kB (thereF s st) := by unfold thereF; rw [if_pos hc]; exact d3
      have ads := nds
      have acell := nbc
      · have hdm : dB ≠ m := kd_ne e55 M5.ob fun z => nomatch z
        refine ⟨_, rfl, _, rfl, m, CV, x.dx, _, rfl, M5.ob, T.cls_Voyage, T.na_Voyage_was_at, (by show 7 < 1000; decide), fldG fun Ha Ka ma => ?_⟩
        rw [putF_was] at ma
        have Ma := M5.fld (b' := st.bell) (dwa' := dB) (tv' := x.tv) (was' := thereF s st) (told' := st.told) Ka ma ⟨_, Ka _ _ hdm e55, dd⟩ (M5.to.keep (Ka.tups M5.ob) fun a o u e => Ka _ _ (kd_ne e M5.ob fun z => nomatch z) e) ads acell
        refine ⟨_, rfl, m, CV, x.dx, _, _, rfl, Ma.ob, T.cls_Voyage, T.na_Voyage_bell_now, vf_4 _ _, _, _, rfl, rfl, x.dx, _, Ma.ob, (by show 7 < 1000; decide), fldG fun Hb Kb mb => ?_⟩
        rw [putF_bell] at mb
        obtain ⟨ka, ea, da⟩ := Ma.wa
        have Mb := Ma.fld (b' := st.bell + 1) (dwa' := dB) (tv' := x.tv) (was' := thereF s st) (told' := st.told) Kb mb ⟨_, Kb _ _ hdm ea, da⟩ (Ma.to.keep (Kb.tups Ma.ob) fun a o u e => Kb _ _ (kd_ne e Ma.ob fun z => nomatch z) e) ads acell
        refine ⟨_, rfl, m, x.dx, _, rfl, Mb.ob, noCT _ _, m, _, s, _, N, rfl, Mb, W, hN, hpg, fun Hc tv Bc Mc => ?_⟩
        have BB : ButL (x.cells m) H Hc := ((B5.trans fun b o hb e => Ka b o (fun z => hb (by rw [z]; exact vc1 x m)) e).trans fun b o hb e => Kb b o (fun z => hb (by rw [z]; exact vc1 x m)) e).trans Bc
        have TT : Tups H Hc := BB.tups (vnotup M)
        obtain ⟨kc, ec, dc⟩ := Mc.wa
        have dc : DR RS kc (thereF s st) := dc
        obtain ⟨_, rs, eq1, c1, c2⟩ := id a2.tup_inv
        cases eq1
        have lrs : rs.length = st.told.roll.length := by have := c2.length; rwa [List.length_map] at this
        have hroll := TG.roll
        refine ⟨_, rfl, r1, rfl, ⟨_, TT.sq c1⟩, fun D hD => ?_⟩
        refine lc_run (walk_tup (K := K) (a := r1) (xs := rs)) (H0 := Hc) (fun j ac H4 => ∃ ws : List Addr, ac = ws.map V.ref ∧ DtAll K H4 ac (((st.told.roll.take j).map fun h => (h.nm, whereF h.nm (thereF s st) st.told.sick)).map encRow)) (Same.refl _) hD (fun _ _ => ⟨[], rfl, .nil⟩) (fun H4 S4 => S4.tup (TT.sq c1)) ?_ ?_
        · rintro j z ac Hd He hj hD0 Sd ed ⟨wl, rfl, hac⟩ ⟨rfl, hx⟩
          obtain ⟨h, hh, dh⟩ := item_inv (a := r1) c2 hx
          obtain ⟨ha, sa, rfl, h1, _⟩ := hand_inv ((dh.mono TT).mono Sd.tups)
          have hal := hac.length
          rw [List.length_map, List.length_map, List.length_map, List.length_take] at hal
          refine ⟨rfl, g_yes (iteT ?_)⟩
          refine ⟨_, rfl, ha, _, _, .str h.nm, rfl, rfl, h1, rfl, _, rfl, ha, _, _, .str h.nm, rfl, rfl, h1, rfl, _, rfl, _, rfl, h.nm, dB, _, kc, thereF s st, st.told.sick, rfl, Sd _ _ ec, dc, (a3.mono TT).mono Sd.tups, fun Hf qw Sf dw => ?_⟩
          refine ⟨by show 2 ≤ sizeLine; decide, fun pt hpt => newG hpt fun Hg Sg eg => ?_⟩
          have Sfg := Sf.trans Sg
          refine lc_next hD0 Sd Sfg ed (by rw [List.length_map]; omega) fun Hh Sh eh kh => ?_
          have th := tups_but (Sfg _ _ ed) kh
          refine ⟨wl ++ [pt], by rw [List.map_append]; rfl, ?_⟩
          rw [List.take_add_one, hh, List.map_append, List.map_append]
          exact ((hac.mono Sfg.tups).mono th).append (.cons (.tup (th.sq (sqt_of eg)) (.cons (.str _) (.cons ((dw.mono Sg.tups).mono th) .nil))) .nil)
        rintro ac Hd Sd ed ⟨wl, rfl, hac⟩
        rw [lrs, List.take_length] at hac
        refine ⟨D, _, rfl, sql_of ed, fun r o hr ho => newG hr fun He Se ee => ?_⟩
        exact k He dB tv r (BB.trans (ButL.same (Sd.trans Se))) (Mc.mono (Sd.trans Se)) ⟨wl, ⟨o, ee, ho⟩, hac.mono Se.tups⟩
    · rw [decide_eq_false hc]
      refine iteT ?_
      have mokC := mok_calls (st := st) G TG
      refine ⟨_, rfl, m, x.dx, _, rfl, M5.ob, noHB _ _, m, x, s, _, rfl, M5, G, TG, fun H6 dH kH S6 hdH e6 d6 => ?_⟩
      have M6 := M5.mono S6
      refine ⟨_, rfl, m, x.dx, _, rfl, M6.ob, noBC _ _, m, x, s, _, rfl, M6, G, TG, hb, fun H7 qc S7 A7 => ?_⟩
      obtain ⟨g1, g2, g3, y1, y2, y3, y4⟩ := A7.ex
      refine ⟨qc, _, rfl, y1, rfl, _, _, rfl, _, _, rfl, _, _, rfl, rfl, ?_⟩
      refine ⟨_, rfl, _, rfl, _, rfl, _, rfl, _, _, _, (callsF s st).hands, (callsF s st).lot, (callsF s st).stood, rfl, y2, y3, y4, mokC, fun H8 qn p2 pr2 posts2 U2 W3 S8 R8 z2 z3 z4 z5 => ?_⟩
      refine ⟨qn, _, _, .ref p2, rfl, rfl, z2, rfl, ?_⟩
      have hpl2 := manR_len R8
      have epo2 : posts2 = askP (callsF s st) := R8.is
      subst epo2
      refine ⟨_, _, (callsF s st).hands, _, rfl, y2.mono S8.tups, z4, hpl2, mokC.szH, fun H9 dC kC S9 hdC e9 d9 => ?_⟩
      have S68 := S7.trans S8
      have S58 := S6.trans S68
      have eH8 := S68 _ _ e6
      have nCH : dC ≠ dH := (ne_of_none eH8 hdC).symm
      have l9 := d9.length
      have l6 := d6.length
      have l7 : (placesF (callsF s st).hands (askP (callsF s st))).length ≤ 1000 := Nat.le_trans (placesF_len _ _) mokC.szH
      have l8 := heldF_len s (stB s st)
      have l10 : (heldF s (stB s st)).length ≤ 64 := Nat.le_trans l8 TG.roll
      refine ⟨_, rfl, .inr (.inr (.inl ⟨rfl, .inl ⟨_, e9⟩⟩)), _, rfl, dC, dH, kC, kH, rfl, rfl, nCH, e9, .inl (S9 _ _ eH8), sz100 (by omega), ?_⟩
      have S8x : Same H8 (upd H9 dC (.dK (mergeK kC kH))) := S9.mut hdC
      have e55 : upd H9 dC (.dK (mergeK kC kH)) dC = some (.dK (mergeK kC kH)) := upd_same
      generalize upd H9 dC (.dK (mergeK kC kH)) = Hx at S8x e55 ⊢
      dsimp only
      refine st_norm (σ' := [some (.ref m), some (.ref r1), some (.ref r2), some (.ref r3), some (.ref r4), some (.ref g1), some (.ref g2), some (.ref g3), some (.ref dC), some (.ref dH), none]) rfl ?_
      have M8 := M5.mono S58
      have Mx := M8.mono S8x
      have Bx : ButL (x.cells m) H Hx := B5.trans (ButL.same (S58.trans S8x))
      have dd : DR RS (mergeK kC kH) (thereF s st) := by unfold thereF; rw [if_neg hc]; exact d9.merge d6
      obtain ⟨kS8, eS8, _⟩ := M8.ds
      have ads : x.ds ≠ dC := ne_of_none eS8 hdC
      have acell : dC ∉ x.a.cells := fun z => by
        rcases M8.ho.cell z with ⟨kk, e⟩ | ⟨kk, e⟩ <;> (rw [hdC] at e; cases e)
      · have hdm : dC ≠ m := kd_ne e55 Mx.ob fun z => nomatch z
        refine ⟨_, rfl, _, rfl, m, CV, x.dx, _, rfl, Mx.ob, T.cls_Voyage, T.na_Voyage_was_at, (by show 7 < 1000; decide), fldG fun Ha Ka ma => ?_⟩
        rw [putF_was] at ma
        have Ma := Mx.fld (b' := st.bell) (dwa' := dC) (tv' := x.tv) (was' := thereF s st) (told' := st.told) Ka ma ⟨_, Ka _ _ hdm e55, dd⟩ (Mx.to.keep (Ka.tups Mx.ob) fun a o u e => Ka _ _ (kd_ne e Mx.ob fun z => nomatch z) e) ads acell
        refine ⟨_, rfl, m, CV, x.dx, _, _, rfl, Ma.ob, T.cls_Voyage, T.na_Voyage_bell_now, vf_4 _ _, _, _, rfl, rfl, x.dx, _, Ma.ob, (by show 7 < 1000; decide), fldG fun Hb Kb mb => ?_⟩
        rw [putF_bell] at mb
        obtain ⟨ka, ea, da⟩ := Ma.wa
        have Mb := Ma.fld (b' := st.bell + 1) (dwa' := dC) (tv' := x.tv) (was' := thereF s st) (told' := st.told) Kb mb ⟨_, Kb _ _ hdm ea, da⟩ (Ma.to.keep (Kb.tups Ma.ob) fun a o u e => Kb _ _ (kd_ne e Ma.ob fun z => nomatch z) e) ads acell
        refine ⟨_, rfl, m, x.dx, _, rfl, Mb.ob, noCT _ _, m, _, s, _, N, rfl, Mb, W, hN, hpg, fun Hc tv Bc Mc => ?_⟩
        have BB : ButL (x.cells m) H Hc := ((Bx.trans fun b o hb e => Ka b o (fun z => hb (by rw [z]; exact vc1 x m)) e).trans fun b o hb e => Kb b o (fun z => hb (by rw [z]; exact vc1 x m)) e).trans Bc
        have TT : Tups H Hc := BB.tups (vnotup M)
        obtain ⟨kc, ec, dc⟩ := Mc.wa
        have dc : DR RS kc (thereF s st) := dc
        obtain ⟨_, rs, eq1, c1, c2⟩ := id a2.tup_inv
        cases eq1
        have lrs : rs.length = st.told.roll.length := by have := c2.length; rwa [List.length_map] at this
        have hroll := TG.roll
        refine ⟨_, rfl, r1, rfl, ⟨_, TT.sq c1⟩, fun D hD => ?_⟩
        refine lc_run (walk_tup (K := K) (a := r1) (xs := rs)) (H0 := Hc) (fun j ac H4 => ∃ ws : List Addr, ac = ws.map V.ref ∧ DtAll K H4 ac (((st.told.roll.take j).map fun h => (h.nm, whereF h.nm (thereF s st) st.told.sick)).map encRow)) (Same.refl _) hD (fun _ _ => ⟨[], rfl, .nil⟩) (fun H4 S4 => S4.tup (TT.sq c1)) ?_ ?_
        · rintro j z ac Hd He hj hD0 Sd ed ⟨wl, rfl, hac⟩ ⟨rfl, hx⟩
          obtain ⟨h, hh, dh⟩ := item_inv (a := r1) c2 hx
          obtain ⟨ha, sa, rfl, h1, _⟩ := hand_inv ((dh.mono TT).mono Sd.tups)
          have hal := hac.length
          rw [List.length_map, List.length_map, List.length_map, List.length_take] at hal
          refine ⟨rfl, g_yes (iteT ?_)⟩
          refine ⟨_, rfl, ha, _, _, .str h.nm, rfl, rfl, h1, rfl, _, rfl, ha, _, _, .str h.nm, rfl, rfl, h1, rfl, _, rfl, _, rfl, h.nm, dC, _, kc, thereF s st, st.told.sick, rfl, Sd _ _ ec, dc, (a3.mono TT).mono Sd.tups, fun Hf qw Sf dw => ?_⟩
          refine ⟨by show 2 ≤ sizeLine; decide, fun pt hpt => newG hpt fun Hg Sg eg => ?_⟩
          have Sfg := Sf.trans Sg
          refine lc_next hD0 Sd Sfg ed (by rw [List.length_map]; omega) fun Hh Sh eh kh => ?_
          have th := tups_but (Sfg _ _ ed) kh
          refine ⟨wl ++ [pt], by rw [List.map_append]; rfl, ?_⟩
          rw [List.take_add_one, hh, List.map_append, List.map_append]
          exact ((hac.mono Sfg.tups).mono th).append (.cons (.tup (th.sq (sqt_of eg)) (.cons (.str _) (.cons ((dw.mono Sg.tups).mono th) .nil))) .nil)
        rintro ac Hd Sd ed ⟨wl, rfl, hac⟩
        rw [lrs, List.take_length] at hac
        refine ⟨D, _, rfl, sql_of ed, fun r o hr ho => newG hr fun He Se ee => ?_⟩
        exact k He dC tv r (BB.trans (ButL.same (Sd.trans Se))) (Mc.mono (Sd.trans Se)) ⟨wl, ⟨o, ee, ho⟩, hac.mono Se.tups⟩
end
end WS
/-! The voyage made; a voyage at a bell; what man is asked, who is held, where all are. -/
namespace WS
open PySem PySem.Spec PyProof.Rows L2 WM
open C8 (pe_gc pe_c pe_mk pe_mt pe_mt0)
open LamX (TabS Tabs ExtN TabB)
def voy0 (s : Ship) (pgs : List Page) : VS := comeF s ⟨ordP pgs, startF s, 0, [], [], ⟨[], [], [], []⟩⟩
noncomputable def voyN (s : Ship) (pgs : List Page) : Nat → VS
  | 0 => voy0 s pgs
  | n + 1 => goF s (voyN s pgs n)
structure VWf (s : Ship) (st : VS) (b : Nat) : Prop where
  bell : st.bell = (b : Nat)
  wf : ∃ N, HWf (fixF s) st.hs N ∧ N + st.coming.length ≤ 60
  pg : ∀ p, p ∈ st.coming → PgOk p
  told : st.told = toldF st.hs
  stn : st.stn.length ≤ 64 * b
theorem fix_words (s : Ship) : (fixF s).words = s.books.map Book.word := rfl
theorem told_ok {s : Ship} {hs : HS} {N : Nat} (W : HWf (fixF s) hs N) (hN : N ≤ 64) : ToldG s (toldF hs) where
  roll := by
    show ((srt (keysA hs.hands)).map _).length ≤ 64
    rw [List.length_map, srt_len]
    have := W.sz1
    unfold keysA
    rw [List.length_map]
    omega
  calls := by have := W.sz4; show hs.up.length ≤ 64; omega
  words := W.uw
  ok := fun h hh => by
    obtain ⟨n, hn, rfl⟩ := List.mem_map.mp hh
    obtain ⟨a, ha⟩ := valA_key ((srt_perm _).mem_iff.mp hn)
    unfold getH
    rw [ha]
    exact W.ok _ (valA_mem ha)
theorem VWf.g {s : Ship} {st : VS} {b : Nat} (W : VWf s st b) : ToldG s st.told := by
  obtain ⟨N, h1, h2⟩ := W.wf
  rw [W.told]
  exact told_ok h1 (by omega)
theorem come_vwf {s : Ship} {st : VS} {b N : Nat} (hb : st.bell = (b : Nat)) (W : HWf (fixF s) st.hs N) (hN : N + st.coming.length ≤ 60) (hp : ∀ p, p ∈ st.coming → PgOk p) (hs : st.stn.length ≤ 64 * b) : VWf s (comeF s st) b := by
  obtain ⟨N', a, c, d⟩ := come_wf (b := st.bell) W hp
  exact ⟨hb, ⟨N', a, by show N' + (comeL (fixF s) st.bell st.coming st.hs).1.length ≤ 60; omega⟩, fun p h => hp p (d p h), rfl, hs⟩
theorem go_vwf {s : Ship} {st : VS} {b : Nat} (G : ShipG s) (W : VWf s st b) : VWf s (goF s st) (b + 1) := by
  obtain ⟨N, h1, h2⟩ := W.wf
  refine come_vwf (st := { stB s st with was := thereF s st, bell := st.bell + 1 }) (by show st.bell + 1 = _; rw [W.bell]; omega) h1 h2 W.pg ?_
  show (mergeA st.stn (thereB s st)).length ≤ _
  have l1 := mergeA_len (thereB s st) st.stn
  have l2 : (thereB s st).length ≤ (billH s st).length := placesF_len _ _
  have l3 : (billH s st).length ≤ st.told.roll.length := List.length_filter_le _ _
  have l4 := W.g.roll
  have l5 := W.stn
  omega
structure PgsOk (pgs : List Page) : Prop where
  len : pgs.length ≤ 20
  ok : ∀ p, p ∈ pgs → PgOk p
theorem voy0_wf {s : Ship} {pgs : List Page} (G : ShipG s) (O : PgsOk pgs) : VWf s (voy0 s pgs) 0 := by
  have lo : (ordP pgs).length = pgs.length := (List.mergeSort_perm _ _).length_eq
  refine come_vwf (N := 20) rfl (start_wf G.sz) (by show 20 + (ordP pgs).length ≤ 60; have := O.len; omega) (fun p hp => O.ok p ((List.mergeSort_perm _ _).mem_iff.mp hp)) (Nat.zero_le _)
theorem voyN_wf {s : Ship} {pgs : List Page} (G : ShipG s) (O : PgsOk pgs) : ∀ n, VWf s (voyN s pgs n) n
  | 0 => voy0_wf G O
  | n + 1 => go_vwf G (voyN_wf G O n)
/-! ### a tuple displayed, its object known -/
def tTupF (t : TA) : TE := fun σ H Q => t σ H fun xs H1 => xs.length ≤ sizeLine ∧ ∀ p o, H1 p = none → o.dict = none → Q (.ref p) (upd H1 p (.frz o (.tup xs)))
theorem pe_tupF {X : Cx} {es : List Expr} {x1 : Nat} {pos : Pos} {t : TA} (h : PA X es t) : PE X (.Tuple es x1 pos) (tTupF t) := by
  refine ⟨fun pins s σ H Q I hq => ?_⟩
  refine wpAny_Tuple_spliced (thn (h.run pos pins s σ H _ I hq) fun us s1 ⟨xs, H1, I1, r, z, q⟩ => ⟨by rw [← r.length]; exact z, ?_⟩)
  have hf : H1 s1.heap.objs.size = none := I1.hok.fresh (Nat.le_refl _)
  refine ⟨.ref s1.heap.objs.size, _, I1.laid (t' := s1.toks) (o := .frz { cls := .type "tuple", data := .seq us.toArray } (.tup xs)) (fun b u e => Heap.get?_push_of_some _ e) (Nat.le_refl _) ?_, rfl, q _ _ hf rfl⟩
  exact ⟨Heap.get?_push_size _ rfl, z, us, r, ⟨_, Heap.get?_push_size _ rfl, rfl, _, rfl⟩⟩
/-- all but m and the tables stay -/
def EKm (m : Addr) (H H' : Hp) : Prop := ∀ b o, b ≠ m → H b = some o → (∀ ps, o ≠ .tbl ps) → H' b = some o
theorem EKm.trans {m : Addr} {H H1 H2 : Hp} (h : EKm m H H1) (k : EKm m H1 H2) : EKm m H H2 := fun b o hb e n => k b o hb (h b o hb e n) n
theorem EKm.km {m : Addr} {H H1 : Hp} (h : Km m H H1) : EKm m H H1 := fun b o hb e _ => h b o hb e
theorem EKm.same {m : Addr} {H H1 : Hp} (h : Same H H1) : EKm m H H1 := fun b o _ e _ => h b o e
theorem EKm.ext {m : Addr} {H H1 : Hp} (h : ExtN H H1) : EKm m H H1 := fun b o _ e n => h b o e n
theorem EKm.tups {m : Addr} {H H1 : Hp} (h : EKm m H H1) {C dx : Addr} {fs : List (Str × V)} (e : H m = some (.ins C dx fs)) : Tups H H1 := fun a xs hx => by
  rcases hx with hx | ⟨o, hx⟩
  · exact .inl (h _ _ (kd_ne hx e fun z => nomatch z) hx fun _ z => nomatch z)
  · exact .inr ⟨o, h _ _ (kd_ne hx e fun z => nomatch z) hx fun _ z => nomatch z⟩
abbrev lamQ : Str := "in_order.<locals>.<lambda>"
def spVoyI (K : PySem.W.Frag) (CV CH Pt : Addr) : Sp := fun vs H Q _ => ∃ (m dx : Addr) (u v : V) (s : Ship) (pgs : List Page), vs = [.ref m, u, v] ∧ H m = some (.ins CV dx []) ∧ Dt K H u (encS s) ∧ Dt K H v (.tuple (pgs.map encPg)) ∧ ShipG s ∧ PgsOk pgs ∧ TabS H Pt lamQ ∧
  ∀ H' x, EKm m H H' → VObj K H' CV CH m x s (voy0 s pgs) → TabS H' Pt lamQ → (∀ b, b ∈ x.cells m → b = m ∨ ∀ o, H b = some o → ∃ ps, o = .tbl ps) → Q .non H'
theorem tab_km {m P : Addr} {q : Str} {H H1 : Hp} (t : TabS H P q) (k : Km m H H1) {C dx : Addr} {fs : List (Str × V)} (e : H m = some (.ins C dx fs)) : TabS H1 P q :=
  tab_but (l := [m]) t (fun b hb => by
    have : b = m := by simpa using hb
    subst this
    exact .inr (.inr ⟨_, _, _, e⟩)) fun b o hb e' => k b o (by simpa using hb) e'
end WS
/-! The voyage made. -/
namespace WS
open PySem PySem.Spec PyProof.Rows L2 WM
open C8 (pe_gc pe_c pe_mk pe_mt pe_mt0)
open LamX (TabS Tabs ExtN TabB)
theorem HObj.km {K : PySem.W.Frag} {H H' : Hp} {CH mh m : Addr} {a : HA} {fx : HFix} {hs : HS} (M : HObj K H CH mh a fx hs) (k : Km m H H') {C dx : Addr} {fs : List (Str × V)} (e : H m = some (.ins C dx fs)) (hne : mh ≠ m) : HObj K H' CH mh a fx hs := by
  have hx : ∀ {b : Addr} {o : HO}, H b = some o → (∀ C dx fs, o ≠ .ins C dx fs) → H' b = H b := fun {b o} q n => by
    rw [k _ _ (kd_ne q e (n _ _ _)) q, q]
  refine M.keepB (k.tups e) fun b hb => ?_
  rcases hb with q | q | q | q
  · subst q; rw [k _ _ hne M.ob, M.ob]
  · subst q; exact hx M.lb fun _ _ _ z => nomatch z
  · subst q; exact hx M.lw fun _ _ _ z => nomatch z
  · rcases M.cell q with ⟨kk, z⟩ | ⟨kk, z⟩
    · exact hx z fun _ _ _ z => nomatch z
    · exact hx z fun _ _ _ z => nomatch z
section
variable {P : Program} {w : World} {K : PySem.W.Frag} {mg : Str → Option Value} {base : Heap} {CM CH CV aL : Addr}
theorem sc_Voyage_init : FnScope ["self", "ship", "pages"] ["self", "ship", "pages"] (defScope s_Voyage_init) := ⟨rfl, rfl, rfl, by decide +kernel, rfl, by decide +kernel, by decide +kernel⟩
theorem c_Voyage (T : Txt K mg CM CH CV aL) {c Pt : Addr} (L : LamD K mg c) (TB : TabB base mg c Pt) : Mak P w K mg base 4 "Voyage" CV (spVoyI K CV CH Pt) := by
  have c_Holding := c_Holding (P := P) (w := w) (base := base) T
  have c_in_order := c_in_order (P := P) (w := w) (base := base) T L TB
  have m_Voyage_come_to := m_Voyage_come_to (P := P) (w := w) (base := base) T
  refine mak_of T.mg_Voyage T.i_Voyage (fun _ _ _ _ _ _ us hl => match us, hl with | [_, _, _], _ => rfl) sc_Voyage_init (fun vs H Q E h => ?_) (fun f cdv A outer s H vs Q E hr h => ?_)
  · obtain ⟨_, _, _, _, _, _, rfl, _⟩ := h; rfl
  · obtain ⟨m, dx, u, v, s, pgs, rfl, hm, du, dv, G, O, hT, k⟩ := h
    have noCT : ∀ (x : VA) (n : Int), (vfs x n).lookup ("come_to" : Str) = none := fun x n => vf_no x _ (by decide +kernel)
    refine ⟨_, (pss_cons (ps_fld (pv 0) (pv 1) rfl)
    (pss_cons (ps_fld (pv 0) (pe_callTy (call_list_ofK K) (by rfl) T.b_list (by decide +kernel) (pa_cons (pe_c c_in_order hr (by decide) rfl (pa_cons (pv 2) pa_nil)) pa_nil)) rfl)
    (pss_cons (ps_fld (pv 0) (pe_mk c_Holding hr (by decide) rfl (pa_cons (pv 1) pa_nil)) rfl)
    (pss_cons (ps_fld (pv 0) pe_int rfl)
    (pss_cons (ps_fld (pv 0) pe_dnewK rfl)
    (pss_cons (ps_fld (pv 0) pe_dnewK rfl)
    (pss_cons (ps_fld (pv 0) (pe_tupF (pa_cons (pe_tupF pa_nil) (pa_cons (pe_tupF pa_nil) (pa_cons (pe_tupF pa_nil) (pa_cons (pe_tupF pa_nil) pa_nil))))) rfl)
    (pss_one (ps_expr (pe_mt0 m_Voyage_come_to hr (by decide) (pv 0))))))))))), ?_⟩
    refine ⟨_, rfl, _, rfl, m, CV, dx, _, rfl, hm, T.cls_Voyage, T.na_Voyage_ship_here, (by show 0 < 1000; decide), fldG fun H1 K1 m1 => ?_⟩
    rw [show putF "ship_here" u [] = [(("ship_here" : Str), u)] from rfl] at m1
    have T1 := K1.tups hm
    have TT1 := tab_km hT K1 hm
    -- the pages
    refine ⟨_, rfl, _, pgs, rfl, dv.mono T1, TT1, fun H2 r E2 TT2 dr => ?_⟩
    obtain ⟨ra, rs, rfl, r1, r2⟩ := id dr.tup_inv
    refine ⟨ra, rs, rfl, .inr r1, fun lc hlc => newG hlc fun H3 S3 e3 => ?_⟩
    have m2 := E2 _ _ m1 fun _ z => nomatch z
    have TT3 := TT2.ext S3
    refine ⟨_, rfl, m, CV, dx, _, rfl, S3 _ _ m2, T.cls_Voyage, T.na_Voyage_coming, (by show 1 < 1000; decide), fldG fun H4 K4 m4 => ?_⟩
    rw [putF_new (by rfl)] at m4
    have nlc : lc ≠ m := (ne_of_none m2 hlc).symm
    have e4 := K4 _ _ nlc e3
    have TT4 := tab_km TT3 K4 (S3 _ _ m2)
    have EK4 : EKm m H H4 := (((EKm.km K1).trans (EKm.ext E2)).trans (EKm.same S3)).trans (EKm.km K4)
    have T4 := EK4.tups hm
    have d4 : DtAll K H4 rs ((ordP pgs).map encPg) := (r2.mono S3.tups).mono (K4.tups (S3 _ _ m2))
    -- what holds
    refine ⟨_, rfl, fun mh dxh nmh ndh neh => ?_⟩
    have s0 : Same H4 (upd (upd H4 dxh (.own mh)) mh (.ins CH dxh [])) := fun b o e => by rw [upd_ne (ne_of_none e nmh), upd_ne (ne_of_none e ndh)]; exact e
    refine ⟨mh, dxh, u, s, rfl, upd_same, (du.mono T4).mono s0.tups, G.sz, fun H5 a K5 M5 hcell => ⟨rfl, ?_⟩⟩
    have S5 : Same H4 H5 := made_same (H1 := H5) nmh ndh K5
    have nmm : m ≠ mh := ne_of_none m4 nmh
    refine ⟨_, rfl, m, CV, dx, _, rfl, S5 _ _ m4, T.cls_Voyage, T.na_Voyage_holding, (by show 2 < 1000; decide), fldG fun H6 K6 m6 => ?_⟩
    rw [putF_new (by rfl)] at m6
    have K46 : Km m H4 H6 := (Km.same S5).trans K6
    have TT6 := tab_km (TT4.ext S5) K6 (S5 _ _ m4)
    have ck : ∀ b, b ∈ a.cells → H4 b = none := fun b hb => s0.free (hcell b (by simp [hb]))
    have clb : H4 a.lb = none := s0.free (hcell _ (by simp))
    have clw : H4 a.lw = none := s0.free (hcell _ (by simp))
    have M6 := M5.km K6 (S5 _ _ m4) nmm.symm
    have e6 := K46 _ _ nlc e4
    have d6 := d4.mono (K46.tups m4)
    -- the bell, the stations, where all were
    refine ⟨_, rfl, m, CV, dx, _, rfl, m6, T.cls_Voyage, T.na_Voyage_bell_now, (by show 3 < 1000; decide), fldG fun H7 K7 m7 => ?_⟩
    rw [putF_new (by rfl)] at m7
    refine fun ds hds => newG hds fun H8 S8 e8 => ?_
    refine ⟨_, rfl, m, CV, dx, _, rfl, S8 _ _ m7, T.cls_Voyage, T.na_Voyage_station_by, (by show 4 < 1000; decide), fldG fun H9 K9 m9 => ?_⟩
    rw [putF_new (by rfl)] at m9
    have nds : ds ≠ m := (ne_of_none m7 hds).symm
    have K69 : Km m H6 H9 := (K7.trans (Km.same S8)).trans K9
    have e9 := K9 _ _ nds e8
    refine fun dw hdw => newG hdw fun H10 S10 e10 => ?_
    refine ⟨_, rfl, m, CV, dx, _, rfl, S10 _ _ m9, T.cls_Voyage, T.na_Voyage_was_at, (by show 5 < 1000; decide), fldG fun H11 K11 m11 => ?_⟩
    rw [putF_new (by rfl)] at m11
    have ndw : dw ≠ m := (ne_of_none m9 hdw).symm
    have K911 : Km m H9 H11 := (Km.same S10).trans K11
    have e11 := K11 _ _ ndw e10
    have ndd : ds ≠ dw := ne_of_none e9 hdw
    -- nothing told yet
    refine ⟨by show 0 ≤ sizeLine; decide, fun p1 o1 hp1 ho1 => newG hp1 fun HA SA eA => ⟨by show 0 ≤ sizeLine; decide, fun p2 o2 hp2 ho2 => newG hp2 fun HB SB eB => ⟨by show 0 ≤ sizeLine; decide, fun p3 o3 hp3 ho3 => newG hp3 fun HC SC eC => ⟨by show 0 ≤ sizeLine; decide, fun p4 o4 hp4 ho4 => newG hp4 fun HD SD eD =>
      ⟨by show 4 ≤ sizeLine; decide, fun q oq hq hoq => newG hq fun HE SE eE => ?_⟩⟩⟩⟩⟩
    have S11E : Same H11 HE := (((SA.trans SB).trans SC).trans SD).trans SE
    refine ⟨_, rfl, m, CV, dx, _, rfl, S11E _ _ m11, T.cls_Voyage, T.na_Voyage_told_now, (by show 6 < 1000; decide), fldG fun HG KG mG => ?_⟩
    rw [putF_new (by rfl)] at mG
    have KEG : Km m H11 HG := (Km.same S11E).trans KG
    have K9G := K911.trans KEG
    have K6G := K69.trans K9G
    have K4G := K46.trans K6G
    have TG6 : Tups H6 HG := K6G.tups m6
    have mE := S11E _ _ m11
    have tE : Tups HE HG := KG.tups mE
    have frz : ∀ {b : Addr} {o : Obj} {u : HO}, HE b = some (.frz o u) → HG b = some (.frz o u) := fun {b o u} z => KG _ _ (kd_ne z mE fun z => nomatch z) z
    have fG1 : HG p1 = some (.frz o1 (.tup [])) := frz (((SB.trans SC).trans SD).trans SE _ _ eA)
    have fG2 : HG p2 = some (.frz o2 (.tup [])) := frz ((SC.trans SD).trans SE _ _ eB)
    have fG3 : HG p3 = some (.frz o3 (.tup [])) := frz (SD.trans SE _ _ eC)
    have fG4 : HG p4 = some (.frz o4 (.tup [])) := frz (SE _ _ eD)
    have fGq : HG q = some (.frz oq (.tup [.ref p1, .ref p2, .ref p3, .ref p4])) := frz eE
    have lo : (ordP pgs).length = pgs.length := (List.mergeSort_perm _ _).length_eq
    have hlen := O.len
    have M6a : a.dh ∈ a.cells ∧ a.di ∈ a.cells ∧ a.dw ∈ a.cells ∧ a.lu ∈ a.cells := by simp [WS.HA.cells]
    have cell6 : ∀ b, b ∈ a.cells → ∃ o, H6 b = some o := fun b hb => by
      rcases M6.cell hb with ⟨kk, z⟩ | ⟨kk, z⟩ <;> exact ⟨_, z⟩
    have lcn : lc ∉ a.cells := fun z => by rw [ck lc z] at e4; cases e4
    have V0 : VObj K HG CV CH m ⟨dx, u, lc, mh, a, ds, dw, .ref q⟩ s ⟨ordP pgs, startF s, 0, [], [], ⟨[], [], [], []⟩⟩ := by
      refine ⟨mG, (du.mono T4).mono (K4G.tups m4), ⟨rs, K6G _ _ nlc e6, d6.mono TG6⟩, M6.km K6G m6 nmm.symm, ⟨[], K9G _ _ nds e9, .nil⟩, ⟨[], KEG _ _ ndw e11, .nil⟩, ⟨q, p1, p2, p3, p4, [], rfl, .inl (.inr ⟨_, fGq⟩), .tup (.inl (.inr ⟨_, fG1⟩)) .nil, .tup (.inl (.inr ⟨_, fG2⟩)) .nil, ⟨o3, fG3, ho3⟩, .nil, .tup (.inl (.inr ⟨_, fG4⟩)) .nil⟩, nmm, ?_, ?_, ?_, ndd, ?_, ?_⟩
      · exact fun z => by
          have z : lc = a.lb := z
          rw [← z, e4] at clb; cases clb
      · exact fun z => by
          have z : lc = a.lw := z
          rw [← z, e4] at clw; cases clw
      · exact fun z => lcn (by have z : lc = a.lu := z; rw [z]; exact M6a.2.2.2)
      · exact fun z => by
          obtain ⟨o, ho⟩ := cell6 ds z
          have := K7 _ _ nds ho
          rw [hds] at this
          cases this
      · exact fun z => by
          obtain ⟨o, ho⟩ := cell6 dw z
          have := K69 _ _ ndw ho
          rw [hdw] at this
          cases this
    refine ⟨_, rfl, m, dx, _, rfl, V0.ob, noCT _ _, m, _, s, _, 20, rfl, V0, start_wf G.sz, by show 20 + (ordP pgs).length ≤ 60; omega, fun p hp => O.ok p ((List.mergeSort_perm _ _).mem_iff.mp hp), fun HH tv BH MH => ?_⟩
    have TTG : TabS HG Pt lamQ := tab_km (TT6) K6G m6
    have TTH : TabS HH Pt lamQ := tab_but TTG (fun b hb => by
      have hb : b = m ∨ b = lc ∨ b = ds ∨ b ∈ a.cells := by simpa [VA.cells] using hb
      rcases hb with z | z | z | z
      · subst z; exact .inr (.inr ⟨_, _, _, V0.ob⟩)
      · subst z; exact .inr (.inl ⟨_, K6G _ _ nlc e6⟩)
      · subst z; exact .inl ⟨_, K9G _ _ nds e9⟩
      · rcases (M6.km K6G m6 nmm.symm).cell z with q1 | q1
        · exact .inl q1
        · exact .inr (.inl q1)) BH
    have old : ∀ b, b ≠ m → ∀ o, H b = some o → (∀ ps, o ≠ .tbl ps) → H4 b = some o := fun b hb o e n => EK4 b o hb e n
    have fresh : ∀ b, b ∈ (⟨dx, u, lc, mh, a, ds, dw, .ref q⟩ : VA).cells m → b = m ∨ ∀ o, H b = some o → ∃ ps, o = .tbl ps := fun b hb => by
      by_cases hbm : b = m
      · exact .inl hbm
      · refine .inr fun o e => Classical.byContradiction fun hn => ?_
        have hn : ∀ ps, o ≠ .tbl ps := fun ps z => hn ⟨ps, z⟩
        have o4 := old b hbm o e hn
        have o2 : H2 b = some o := E2 _ _ (K1 _ _ hbm e) hn
        have hb : b = m ∨ b = lc ∨ b = ds ∨ b ∈ a.cells := by simpa [VA.cells] using hb
        rcases hb with z | z | z | z
        · exact hbm z
        · subst z; rw [hlc] at o2; cases o2
        · subst z
          have := K7 _ _ hbm (K46 _ _ hbm o4)
          rw [hds] at this; cases this
        · rw [ck b z] at o4; cases o4
    refine k HH _ (fun b o hb e n => ?_) MH TTH fresh
    · refine BH b o (fun z => ?_) (K4G _ _ hb (old b hb o e n))
      rcases fresh b z with q1 | q1
      · exact hb q1
      · obtain ⟨ps, hps⟩ := q1 o e
        exact n ps hps
end
end WS
/-! A voyage at a bell; what man is asked, who is held, where all are. -/
namespace WS
open PySem PySem.Spec PyProof.Rows L2 WM
open C8 (pe_gc pe_c pe_mk pe_mt pe_mt0)
open LamX (TabS Tabs ExtN TabB)
/-- a voyage that stands at m in a heap behind H -/
structure VAt (K : PySem.W.Frag) (H0 H : Hp) (CV CH Pt m : Addr) (x : VA) (s : Ship) (st : VS) : Prop where
  ob : VObj K H CV CH m x s st
  ext : ExtN H0 H
  tab : TabS H Pt lamQ
  fresh : ∀ b, b ∈ x.cells m → ∀ o, H0 b = some o → ∃ ps, o = .tbl ps
theorem VAt.clean {K : PySem.W.Frag} {H0 H : Hp} {CV CH Pt m : Addr} {x : VA} {s : Ship} {st : VS} (A : VAt K H0 H CV CH Pt m x s st) : ∀ b, b ∈ x.cells m → (∃ kvs, H b = some (.dK kvs)) ∨ (∃ xs, H b = some (.lst xs)) ∨ ∃ C dx fs, H b = some (.ins C dx fs) := fun b hb => by
  obtain ⟨ys, e1, _⟩ := A.ob.co
  obtain ⟨k2, e2, _⟩ := A.ob.ds
  have hb : b = m ∨ b = x.lc ∨ b = x.ds ∨ b ∈ x.a.cells := by simpa [VA.cells] using hb
  rcases hb with z | z | z | z
  · subst z; exact .inr (.inr ⟨_, _, _, A.ob.ob⟩)
  · subst z; exact .inr (.inl ⟨_, e1⟩)
  · subst z; exact .inl ⟨_, e2⟩
  · rcases A.ob.ho.cell z with q | q
    · exact .inl q
    · exact .inr (.inl q)
theorem VAt.go {K : PySem.W.Frag} {H0 H H' : Hp} {CV CH Pt m dwa : Addr} {tv : V} {x : VA} {s : Ship} {st st' : VS} (A : VAt K H0 H CV CH Pt m x s st) (B : ButL (x.cells m) H H') (M : VObj K H' CV CH m { x with dwa := dwa, tv := tv } s st') : VAt K H0 H' CV CH Pt m { x with dwa := dwa, tv := tv } s st' :=
  ⟨M, fun b o e n => B b o (fun z => by obtain ⟨ps, q⟩ := A.fresh b z o e; exact n ps q) (A.ext b o e n), tab_but A.tab A.clean B, A.fresh⟩
def spSoFar (K : PySem.W.Frag) (CV CH Pt : Addr) : Sp := fun vs H Q _ => ∃ (u v : V) (s : Ship) (pgs : List Page) (n : Nat), vs = [u, v, .int ((n : Nat) : Int)] ∧ Dt K H u (encS s) ∧ Dt K H v (.tuple (pgs.map encPg)) ∧ ShipG s ∧ PgsOk pgs ∧ TabS H Pt lamQ ∧ n ≤ 50 ∧
  ∀ H' m x, VAt K H H' CV CH Pt m x s (voyN s pgs n) → Q (.ref m) H'
section
variable {P : Program} {w : World} {K : PySem.W.Frag} {mg : Str → Option Value} {base : Heap} {CM CH CV aL : Addr}
theorem sc_come_so_far : FnScope ["ship", "pages", "bell", "voyage", "turn"] ["ship", "pages", "bell"] (defScope s_come_so_far) := ⟨rfl, rfl, rfl, by decide +kernel, rfl, by decide +kernel, by decide +kernel⟩
theorem c_come_so_far (T : Txt K mg CM CH CV aL) {c Pt : Addr} (L : LamD K mg c) (TB : TabB base mg c Pt) : Cal P w K mg base 9 "come_so_far" (spSoFar K CV CH Pt) := by
  have c_Voyage := c_Voyage (P := P) (w := w) (base := base) T L TB
  have m_Voyage_go_on := m_Voyage_go_on (P := P) (w := w) (base := base) T
  refine cal_of T.d_come_so_far (fun _ _ _ _ _ _ us hl => match us, hl with | [_, _, _], _ => rfl) sc_come_so_far (fun vs H Q E h => ?_) (fun f cdv A outer s H vs Q E hr h => ?_)
  · obtain ⟨_, _, _, _, _, rfl, _⟩ := h; rfl
  · obtain ⟨u, v, s, pgs, n, rfl, du, dv, G, O, hT, hn, k⟩ := h
    have noGO : ∀ (x : VA) (n : Int), (vfs x n).lookup ("go_on" : Str) = none := fun x n => vf_no x _ (by decide +kernel)
    refine ⟨_, (pss_cons (ps_set (i := 3) sc_come_so_far.nd rfl (Or.inl rfl) (pe_mk c_Voyage hr (by decide) rfl (pa_cons (pv 0) (pa_cons (pv 1) pa_nil))))
    (pss_cons (ps_for PassesOwn.never rfl (pi_range1 (by rfl) T.b_range (pa_cons (pv 2) pa_nil)) (pg_name (i := 4) sc_come_so_far.nd rfl (Or.inl rfl)) (pss_one (ps_expr (pe_mt0 m_Voyage_go_on hr (by decide) (pv 3)))))
    (pss_one (ps_ret (pv 3))))), ?_⟩
    refine ⟨_, rfl, _, rfl, fun m dx nm nd ne => ?_⟩
    have s0 : Same H (upd (upd H dx (.own m)) m (.ins CV dx [])) := fun b o e => by rw [upd_ne (ne_of_none e nm), upd_ne (ne_of_none e nd)]; exact e
    refine ⟨m, dx, u, v, s, pgs, rfl, upd_same, du.mono s0.tups, dv.mono s0.tups, G, O, hT.ext s0, fun H1 x K1 M1 T1 fr => ⟨rfl, ?_⟩⟩
    have A1 : VAt K H H1 CV CH Pt m x s (voyN s pgs 0) := ⟨M1, fun b o e n => K1 b o (ne_of_none e nm) (s0 _ _ e) n, T1, fun b hb o e => by
      rcases fr b hb with z | z
      · subst z; rw [nm] at e; cases e
      · exact z o (s0 _ _ e)⟩
    refine ⟨_, rfl, _, rfl, by omega, by omega, ?_⟩
    refine for_it walk_range0 (fun i σ H2 => ∃ (z4 : Option V) (x : VA), σ = [some u, some v, some (.int ((n : Nat) : Int)), some (.ref m), z4] ∧ VAt K H H2 CV CH Pt m x s (voyN s pgs i)) ⟨_, x, rfl, A1⟩ (fun _ _ _ _ _ => trivial) ?_ ?_
    · rintro i z σ H2 H3 hi ⟨z4, x, rfl, A2⟩ ⟨rfl, rfl⟩
      have W := voyN_wf G O i
      obtain ⟨N, w1, w2⟩ := W.wf
      have hst := W.stn
      refine ⟨_, rfl, m, x.dx, _, rfl, A2.ob.ob, noGO _ _, m, x, s, _, N, rfl, A2.ob, G, W.g, by rw [W.bell]; omega, w1, w2, W.pg, by omega, fun H4 dwa tv r B4 M4 R4 => ?_⟩
      exact ⟨_, _, rfl, A2.go B4 M4⟩
    · rintro σ H2 ⟨z4, x, rfl, A2⟩
      have e : (((n : Nat) : Int) - 0).toNat = n := by omega
      exact ⟨_, rfl, k H2 m x (e ▸ A2)⟩
end
end WS
/-! What man is asked at a bell, who is held there, where all are. -/
namespace WS
open PySem PySem.Spec PyProof.Rows L2 WM
open C8 (pe_gc pe_c pe_mk pe_mt pe_mt0)
open LamX (TabS Tabs ExtN TabB)
theorem VObj.away {K : PySem.W.Frag} {H : Hp} {CV CH m f : Addr} {x : VA} {s : Ship} {st : VS} (M : VObj K H CV CH m x s st) {ys zs : List V} (hf : H f = some (.lst ys)) (nc : f ∉ x.cells m) (nb : f ≠ x.a.lb) (nw : f ≠ x.a.lw) : VObj K (upd H f (.lst zs)) CV CH m x s st := by
  obtain ⟨us, e1, d1⟩ := M.co
  obtain ⟨k2, e2, d2⟩ := M.ds
  obtain ⟨k3, e3, d3⟩ := M.wa
  have t : Tups H (upd H f (.lst zs)) := Tups.upd (not_tup_lst hf)
  have nc : ¬ (f = m ∨ f = x.lc ∨ f = x.ds ∨ f ∈ x.a.cells) := fun z => nc (by simpa [VA.cells] using z)
  refine ⟨by rw [upd_ne (kd_ne M.ob hf fun z => nomatch z)]; exact M.ob, M.sh.mono t, ⟨us, by rw [upd_ne fun z => nc (.inr (.inl z.symm))]; exact e1, d1.mono t⟩, M.ho.keepB t fun b hb => ?_, ⟨k2, by rw [upd_ne (kd_ne e2 hf fun z => nomatch z)]; exact e2, d2⟩, ⟨k3, by rw [upd_ne (kd_ne e3 hf fun z => nomatch z)]; exact e3, d3⟩, M.to.keep t fun a o u e => ?_, M.ap⟩
  · refine upd_ne fun z => ?_
    subst z
    rcases hb with q | q | q | q
    · rw [q, M.ho.ob] at hf; cases hf
    · exact nb q
    · exact nw q
    · exact nc (.inr (.inr (.inr q)))
  · rw [upd_ne (kd_ne e hf fun z => nomatch z)]; exact e
theorem RowsAt.keep {K : PySem.W.Frag} {H H' : Hp} {r : Addr} {rows : List (Str × Wh)} (R : RowsAt K H r rows) (t : Tups H H') (k : ∀ a o u, H a = some (.frz o u) → H' a = some (.frz o u)) : RowsAt K H' r rows := by
  obtain ⟨ws, ⟨o, e, d⟩, dd⟩ := R.ex
  exact ⟨ws, ⟨o, k _ _ _ e, d⟩, dd.mono t⟩
theorem RowsAt.mono {K : PySem.W.Frag} {H H' : Hp} {r : Addr} {rows : List (Str × Wh)} (R : RowsAt K H r rows) (t : Same H H') : RowsAt K H' r rows := R.keep t.tups fun _ _ _ e => t _ _ e
theorem paired_imp {α β : Type} {F G : α → β → Prop} {l : List α} {m : List β} (h : Paired F l m) (k : ∀ a b, F a b → G a b) : Paired G l m := by
  induction h with
  | nil => exact .nil
  | cons h _ ih => exact .cons (k _ _ h) ih
theorem paired_app {α β : Type} {F : α → β → Prop} {l l' : List α} {m m' : List β} (h : Paired F l m) (k : Paired F l' m') : Paired F (l ++ l') (m ++ m') := by
  induction h with
  | nil => exact k
  | cons h _ ih => exact .cons h ih
/-- all rows of a voyage of so many bells -/
noncomputable def allRows (s : Ship) (pgs : List Page) (n : Nat) : List (List (Str × Wh)) := (List.range n).map fun i => rowsF s (voyN s pgs i)
def Args (K : PySem.W.Frag) (H : Hp) (Pt : Addr) (u v : V) (s : Ship) (pgs : List Page) : Prop := Dt K H u (encS s) ∧ Dt K H v (.tuple (pgs.map encPg)) ∧ ShipG s ∧ PgsOk pgs ∧ TabS H Pt lamQ
def spAsked (K : PySem.W.Frag) (Pt : Addr) : Sp := fun vs H Q _ => ∃ (u v : V) (s : Ship) (pgs : List Page) (n : Nat), vs = [u, v, .int ((n : Nat) : Int)] ∧ Args K H Pt u v s pgs ∧ n ≤ 50 ∧
  ∀ H' q, ExtN H H' → TabS H' Pt lamQ → AskAt K H' q (askF s (voyN s pgs n)) → Q (.ref q) H'
def spHeldN (K : PySem.W.Frag) (Pt : Addr) : Sp := fun vs H Q _ => ∃ (u v : V) (s : Ship) (pgs : List Page) (n : Nat), vs = [u, v, .int ((n : Nat) : Int)] ∧ Args K H Pt u v s pgs ∧ n ≤ 50 ∧
  ∀ H' q, ExtN H H' → TabS H' Pt lamQ → SqT K H' q ((srt (keysA (heldF s (voyN s pgs n)))).map V.str) → Q (.ref q) H'
def spPosted (K : PySem.W.Frag) (Pt : Addr) : Sp := fun vs H Q _ => ∃ (u v : V) (s : Ship) (pgs : List Page) (n : Nat), vs = [u, v, .int ((n : Nat) : Int)] ∧ Args K H Pt u v s pgs ∧ n ≤ 50 ∧
  ∀ H' q ws, ExtN H H' → TabS H' Pt lamQ → SqT K H' q (ws.map V.ref) → Paired (fun w r => RowsAt K H' w r) ws (allRows s pgs n) → Q (.ref q) H'
theorem roll_len {s : Ship} {pgs : List Page} (G : ShipG s) (O : PgsOk pgs) (n : Nat) : (voyN s pgs n).told.roll.length ≤ 60 := by
  have W := voyN_wf G O n
  obtain ⟨N, w1, w2⟩ := W.wf
  rw [W.told]
  show ((srt (keysA (voyN s pgs n).hs.hands)).map _).length ≤ 60
  rw [List.length_map, srt_len]
  have := w1.sz1
  unfold keysA
  rw [List.length_map]
  omega
theorem tups_butL {l : List Addr} {H H1 : Hp} (B : ButL l H H1) (k : ∀ b, b ∈ l → (∃ kvs, H b = some (.dK kvs)) ∨ (∃ xs, H b = some (.lst xs)) ∨ ∃ C dx fs, H b = some (.ins C dx fs)) : ∀ a o u, H a = some (.frz o u) → H1 a = some (.frz o u) := fun a o u e => B _ _ (fun z => by
  rcases k a z with ⟨_, q⟩ | ⟨_, q⟩ | ⟨_, _, _, q⟩ <;> (rw [e] at q; cases q)) e
section
variable {P : Program} {w : World} {K : PySem.W.Frag} {mg : Str → Option Value} {base : Heap} {CM CH CV aL : Addr}
theorem sc_asked : FnScope ["ship", "pages", "bell"] ["ship", "pages", "bell"] (defScope s_asked) := ⟨rfl, rfl, rfl, by decide +kernel, rfl, by decide +kernel, by decide +kernel⟩
theorem c_asked (T : Txt K mg CM CH CV aL) {c Pt : Addr} (L : LamD K mg c) (TB : TabB base mg c Pt) : Cal P w K mg base 10 "asked" (spAsked K Pt) := by
  have c_come_so_far := c_come_so_far (P := P) (w := w) (base := base) T L TB
  have m_Voyage_asked_now := m_Voyage_asked_now (P := P) (w := w) (base := base) T
  refine cal_of T.d_asked (fun _ _ _ _ _ _ us hl => match us, hl with | [_, _, _], _ => rfl) sc_asked (fun vs H Q E h => ?_) (fun f cdv A outer s H vs Q E hr h => ?_)
  · obtain ⟨_, _, _, _, _, rfl, _⟩ := h; rfl
  · obtain ⟨u, v, s, pgs, n, rfl, ⟨du, dv, G, O, hT⟩, hn, k⟩ := h
    have noA : ∀ (x : VA) (n : Int), (vfs x n).lookup ("asked_now" : Str) = none := fun x n => vf_no x _ (by decide +kernel)
    refine ⟨_, (pss_one (ps_ret (pe_mt0 m_Voyage_asked_now hr (by decide) (pe_c c_come_so_far hr (by decide) rfl (pa_cons (pv 0) (pa_cons (pv 1) (pa_cons (pv 2) pa_nil))))))), ?_⟩
    refine ⟨_, rfl, _, rfl, _, rfl, u, v, s, pgs, n, rfl, du, dv, G, O, hT, hn, fun H1 m x A => ?_⟩
    have W := voyN_wf G O n
    refine ⟨m, x.dx, _, rfl, A.ob.ob, noA _ _, m, x, s, _, rfl, A.ob, G, W.g, by rw [W.bell]; omega, fun H2 q S2 Q2 => ?_⟩
    exact k H2 q (fun b o e n => S2 _ _ (A.ext b o e n)) (A.tab.ext S2) Q2
theorem sc_held : FnScope ["ship", "pages", "bell"] ["ship", "pages", "bell"] (defScope s_held) := ⟨rfl, rfl, rfl, by decide +kernel, rfl, by decide +kernel, by decide +kernel⟩
theorem c_held (T : Txt K mg CM CH CV aL) {c Pt : Addr} (L : LamD K mg c) (TB : TabB base mg c Pt) : Cal P w K mg base 10 "held" (spHeldN K Pt) := by
  have c_come_so_far := c_come_so_far (P := P) (w := w) (base := base) T L TB
  have m_Voyage_held_by := m_Voyage_held_by (P := P) (w := w) (base := base) T
  refine cal_of T.d_held (fun _ _ _ _ _ _ us hl => match us, hl with | [_, _, _], _ => rfl) sc_held (fun vs H Q E h => ?_) (fun f cdv A outer s H vs Q E hr h => ?_)
  · obtain ⟨_, _, _, _, _, rfl, _⟩ := h; rfl
  · obtain ⟨u, v, s, pgs, n, rfl, ⟨du, dv, G, O, hT⟩, hn, k⟩ := h
    have noA : ∀ (x : VA) (n : Int), (vfs x n).lookup ("held_by" : Str) = none := fun x n => vf_no x _ (by decide +kernel)
    refine ⟨_, (pss_one (ps_ret (pe_callTy (call_tuple_ofK K) (by rfl) T.b_tuple (by decide +kernel) (pa_cons (pe_callB (call_sortedD rfl) (by rfl) T.b_sorted (by decide +kernel) (pa_cons (pe_mt0 m_Voyage_held_by hr (by decide) (pe_c c_come_so_far hr (by decide) rfl (pa_cons (pv 0) (pa_cons (pv 1) (pa_cons (pv 2) pa_nil))))) pa_nil)) pa_nil)))), ?_⟩
    refine ⟨_, rfl, _, rfl, _, rfl, u, v, s, pgs, n, rfl, du, dv, G, O, hT, hn, fun H1 m x A => ?_⟩
    have W := voyN_wf G O n
    refine ⟨m, x.dx, _, rfl, A.ob.ob, noA _ _, m, x, s, _, rfl, A.ob, G, W.g, fun H2 d kvs S2 hd e2 R2 => ?_⟩
    have kl : (keysA (heldF s (voyN s pgs n))).length < 64 := by
      have h1 := heldF_len s (voyN s pgs n)
      have h2 := roll_len G O n
      unfold keysA
      rw [List.length_map]
      omega
    refine ⟨d, kvs, keysA (heldF s (voyN s pgs n)), rfl, .inl e2, R2.keys, kl, fun ys p hy1 hy2 hp => newG hp fun H3 S3 q3 => ?_⟩
    have hys := srt_is hy1 hy2
    subst hys
    refine ⟨p, _, rfl, .inl ⟨sql_of q3, fun l hl => newG hl fun H4 S4 q4 => ?_⟩⟩
    have S14 := (S2.trans S3).trans S4
    exact k H4 l (fun b o e n => S14 _ _ (A.ext b o e n)) (A.tab.ext S14) (sqt_of q4)
theorem sc_posted : FnScope ["ship", "pages", "bells", "voyage", "found", "turn"] ["ship", "pages", "bells"] (defScope s_posted) := ⟨rfl, rfl, rfl, by decide +kernel, rfl, by decide +kernel, by decide +kernel⟩
theorem c_posted (T : Txt K mg CM CH CV aL) {c Pt : Addr} (L : LamD K mg c) (TB : TabB base mg c Pt) : Cal P w K mg base 9 "posted" (spPosted K Pt) := by
  have c_Voyage := c_Voyage (P := P) (w := w) (base := base) T L TB
  have m_Voyage_go_on := m_Voyage_go_on (P := P) (w := w) (base := base) T
  refine cal_of T.d_posted (fun _ _ _ _ _ _ us hl => match us, hl with | [_, _, _], _ => rfl) sc_posted (fun vs H Q E h => ?_) (fun f cdv A outer s H vs Q E hr h => ?_)
  · obtain ⟨_, _, _, _, _, rfl, _⟩ := h; rfl
  · obtain ⟨u, v, s, pgs, n, rfl, ⟨du, dv, G, O, hT⟩, hn, k⟩ := h
    have noGO : ∀ (x : VA) (n : Int), (vfs x n).lookup ("go_on" : Str) = none := fun x n => vf_no x _ (by decide +kernel)
    refine ⟨_, (pss_cons (ps_set (i := 3) sc_posted.nd rfl (Or.inl rfl) (pe_mk c_Voyage hr (by decide) rfl (pa_cons (pv 0) (pa_cons (pv 1) pa_nil))))
    (pss_cons (ps_set (i := 4) sc_posted.nd rfl (Or.inl rfl) (pe_lst pa_nil))
    (pss_cons (ps_for PassesOwn.never rfl (pi_range1 (by rfl) T.b_range (pa_cons (pv 2) pa_nil)) (pg_name (i := 5) sc_posted.nd rfl (Or.inl rfl)) (pss_one (ps_expr (pe_bmK K PySem.F.plainAttrs_list PySem.F.slot_list_append PySem.F.type_list_append mt_append (pv 4) (pa_cons (pe_mt0 m_Voyage_go_on hr (by decide) (pv 3)) pa_nil)))))
    (pss_one (ps_ret (pe_callTy (call_tuple_ofK K) (by rfl) T.b_tuple (by decide +kernel) (pa_cons (pv 4) pa_nil))))))), ?_⟩
    refine ⟨_, rfl, _, rfl, fun m dx nm nd ne => ?_⟩
    have s0 : Same H (upd (upd H dx (.own m)) m (.ins CV dx [])) := fun b o e => by rw [upd_ne (ne_of_none e nm), upd_ne (ne_of_none e nd)]; exact e
    refine ⟨m, dx, u, v, s, pgs, rfl, upd_same, du.mono s0.tups, dv.mono s0.tups, G, O, hT.ext s0, fun H1 x K1 M1 T1 fr => ⟨rfl, ?_⟩⟩
    have A1 : VAt K H H1 CV CH Pt m x s (voyN s pgs 0) := ⟨M1, fun b o e n => K1 b o (ne_of_none e nm) (s0 _ _ e) n, T1, fun b hb o e => by
      rcases fr b hb with z | z
      · subst z; rw [nm] at e; cases e
      · exact z o (s0 _ _ e)⟩
    refine ⟨by show 0 ≤ sizeLine; decide, fun f hf => newG hf fun Hf Sf ef => ?_⟩
    have Af : VAt K H Hf CV CH Pt m x s (voyN s pgs 0) := ⟨M1.mono Sf, fun b o e n => Sf _ _ (A1.ext b o e n), T1.ext Sf, A1.fresh⟩
    have nc : f ∉ x.cells m := fun z => by
      rcases A1.clean f z with ⟨_, q⟩ | ⟨_, q⟩ | ⟨_, _, _, q⟩ <;> (rw [hf] at q; cases q)
    have nb : f ≠ x.a.lb := fun z => by have := M1.ho.lb; rw [← z, hf] at this; cases this
    have nw : f ≠ x.a.lw := fun z => by have := M1.ho.lw; rw [← z, hf] at this; cases this
    have fo : ∀ o, H f = some o → ∃ ps, o = .tbl ps := fun o e => Classical.byContradiction fun hn => by
      have hn : ∀ ps, o ≠ .tbl ps := fun ps z => hn ⟨ps, z⟩
      have := A1.ext f o e hn
      rw [hf] at this; cases this
    refine ⟨_, rfl, _, rfl, by omega, by omega, ?_⟩
    refine for_it walk_range0 (fun i σ H2 => ∃ (z5 : Option V) (y : VA) (ws : List Addr), σ = [some u, some v, some (.int ((n : Nat) : Int)), some (.ref m), some (.ref f), z5] ∧ VAt K H H2 CV CH Pt m y s (voyN s pgs i) ∧ y.cells m = x.cells m ∧ y.a = x.a ∧ H2 f = some (.lst (ws.map V.ref)) ∧ Paired (fun w r => RowsAt K H2 w r) ws (allRows s pgs i)) ⟨_, x, [], rfl, Af, rfl, rfl, ef, .nil⟩ (fun _ _ _ _ _ => trivial) ?_ ?_
    · rintro i z σ H2 H3 hi ⟨z5, y, ws, rfl, A2, yc, ya, f2, R2⟩ ⟨rfl, rfl⟩
      have W := voyN_wf G O i
      obtain ⟨N, w1, w2⟩ := W.wf
      have hst := W.stn
      have hi50 : i ≤ 50 := by omega
      refine ⟨_, rfl, .inl ⟨rfl, _, sql_of f2⟩, _, rfl, m, y.dx, _, rfl, A2.ob.ob, noGO _ _, m, y, s, _, N, rfl, A2.ob, G, W.g, by rw [W.bell]; omega, w1, w2, W.pg, (by have hi : i ≤ 50 := hi50; omega), fun H4 dwa tv r B4 M4 R4 => ?_⟩
      have A4 := A2.go B4 M4
      have f4 : H4 f = some (.lst (ws.map V.ref)) := B4 _ _ (by rw [yc]; exact nc) f2
      have T24 : Tups H3 H4 := B4.tups (vnotup A2.ob)
      have Fz := tups_butL B4 A2.clean
      have lw := paired_len R2
      have lw : ws.length = i := by rw [lw]; unfold allRows; rw [List.length_map, List.length_range]
      have t5 : Tups H4 (upd H4 f (.lst (ws.map V.ref ++ [.ref r]))) := Tups.upd (not_tup_lst f4)
      have z5 : ∀ a o u, H4 a = some (.frz o u) → upd H4 f (.lst (ws.map V.ref ++ [.ref r])) a = some (.frz o u) := fun a o u e => by
        rw [upd_ne (kd_ne e f4 fun z => nomatch z)]; exact e
      have nc4 : f ∉ VA.cells { y with dwa := dwa, tv := tv } m := fun z => nc (yc ▸ z)
      refine ⟨f, _, _, rfl, rfl, f4, sz100 (by rw [List.length_map]; omega), ?_⟩
      refine ⟨_, { y with dwa := dwa, tv := tv }, ws ++ [r], rfl, ⟨A4.ob.away f4 nc4 (by rw [ya]; exact nb) (by rw [ya]; exact nw), fun b o e n => ?_, ?_, A4.fresh⟩, yc, ya, by rw [List.map_append]; exact upd_same, ?_⟩
      · rw [upd_ne fun z => by subst z; exact Classical.byContradiction fun _ => by obtain ⟨ps, q⟩ := fo o e; exact n ps q]
        exact A4.ext b o e n
      · exact tab_but (l := [f]) A4.tab (fun b hb => by
          have : b = f := by simpa using hb
          subst this
          exact .inr (.inl ⟨_, f4⟩)) fun b o hb e => by rw [upd_ne (by simpa using hb)]; exact e
      · unfold allRows
        rw [List.range_succ, List.map_append]
        refine paired_app (paired_imp R2 fun a b h => (RowsAt.keep h T24 Fz).keep t5 z5) (.cons (R4.keep t5 z5) .nil)
    · rintro σ H2 ⟨z5, y, ws, rfl, A2, yc, ya, f2, R2⟩
      have e : ((n : Nat) : Int).toNat = n := by omega
      rw [e] at R2 A2
      refine ⟨_, rfl, f, _, rfl, .inl ⟨sql_of f2, fun l hl => newG hl fun H4 S4 q4 => ?_⟩⟩
      exact k H4 l ws (fun b o e n => S4 _ _ (A2.ext b o e n)) (A2.tab.ext S4) (sqt_of q4) (paired_imp R2 fun a b h => RowsAt.mono h S4)
end
end WS
/-! The law's own fitness, cost, posts, price. -/
namespace WS
open PySem PySem.Spec PyProof.Rows L2 WM
open C8 (pe_gc pe_c pe_mk pe_mt pe_mt0)
def lfitF (h : Hand) (p : Place) : Bool := inV (.str p.sk) (h.sk.map V.str) && decide (p.rank - h.rank ≤ p.steps)
theorem lfit_eq {h : Hand} {p : Place} (h0 : 0 ≤ p.steps) : lfitF h p = fitF h p := by
  unfold lfitF fitF shortF
  congr 1
  by_cases e : p.rank - h.rank > 0
  · rw [if_pos e]
  · rw [if_neg e, decide_eq_true h0, decide_eq_true (by omega)]
def lotD (lot : List Place) : List (Str × Place) := mergeA [] (lot.map fun p => (p.nm, p))
structure PostsOk (hs : List Hand) (lot : List Place) (posts : List (Option Str)) : Prop where
  len : posts.length = hs.length
  szL : lot.length ≤ 1000
  szH : hs.length ≤ 1000
  fit : ∀ (i : Nat) h n, hs[i]? = some h → posts[i]? = some (some n) → ∃ p, valA (lotD lot) n = some p ∧ lfitF h p = true
  cnt : ∀ p, p ∈ lot → ((posts.count (some p.nm) : Nat) : Int) ≤ p.many
theorem flat_oS : ∀ (l : List (Option Str)), (l.map oS).all flatV = true
  | [] => rfl
  | none :: l => flat_oS l
  | some _ :: l => flat_oS l
theorem cnt_oS (n : Str) : ∀ (l : List (Option Str)), (l.map oS).countP (fun y => eqV y (.str n)) = l.count (some n)
  | [] => rfl
  | none :: l => by
    rw [List.map_cons, List.countP_cons, List.count_cons, cnt_oS n l]
    rfl
  | some x :: l => by
    rw [List.map_cons, List.countP_cons, List.count_cons, cnt_oS n l]
    show _ + (if (x == n) = true then 1 else 0) = _
    by_cases e : x = n
    · subst e; simp
    · have e1 : (x == n) = false := by simpa using e
      have e2 : (some x == some n) = false := by simpa using e
      rw [e1, e2]
theorem tyx_sqt {K : PySem.W.Frag} {H : Hp} {a : Addr} {xs : List V} (h : SqT K H a xs) : TyX K H (.ref a) (.type "tuple") := by
  rcases h with (h | ⟨o, h⟩) | ⟨o, _, _, h, c, _⟩
  · exact .base (.tup h)
  · exact .fTuple h
  · exact .kTuple h c
theorem iteSame {v : V} {A B : Prop} (k : B) : if (!decide (v = v)) = true then A else B := by
  rw [decide_eq_true rfl]
  exact iteF k
/-- places by their names, as a comprehension makes them -/
def PlAcc (K : PySem.W.Frag) (H0 : Hp) (lot : List Place) (j : Nat) (ac : List V) (H4 : Hp) : Prop :=
  ∃ ps : List Addr, ac = ps.map V.ref ∧ ∃ vs : List (Key × V), Paired (fun p kv => SqT K H4 p [kV kv.1, kv.2]) ps vs ∧ DR (fun v p => Dt K H0 v (encP p)) vs ((lot.take j).map fun p => (p.nm, p))
theorem PlAcc.len {K : PySem.W.Frag} {H0 H4 : Hp} {lot : List Place} {j : Nat} {ac : List V} (A : PlAcc K H0 lot j ac H4) : ac.length ≤ lot.length := by
  obtain ⟨ps, rfl, vs, hp, hv⟩ := A
  have l1 := paired_len hp
  have l2 := paired_len hv
  rw [List.length_map, List.length_take] at l2
  rw [List.length_map]
  omega
theorem PlAcc.step {K : PySem.W.Frag} {H0 H4 H6 H7 : Hp} {lot : List Place} {j : Nat} {ac : List V} {D p : Addr} {pl : Place} {v : V} (A : PlAcc K H0 lot j ac H4) (e4 : H4 D = some (.lst ac)) (S46 : Same H4 H6) (e6 : H6 p = some (.tup [.str pl.nm, v])) (hp : lot[j]? = some pl) (d : Dt K H0 v (encP pl)) (k7 : ∀ b, b ≠ D → H7 b = H6 b) : PlAcc K H0 lot (j + 1) (ac ++ [.ref p]) H7 := by
  obtain ⟨ps, rfl, vs, hq, hv⟩ := A
  have t7 := tups_but (S46 _ _ e4) k7
  refine ⟨ps ++ [p], by rw [List.map_append]; rfl, vs ++ [(.inr pl.nm, v)], Paired.snoc (hq.mono fun p kv x => t7.sq (S46.tup x)) (t7.sq (show SqT K H6 p [kV (.inr pl.nm), v] from sqt_of e6)), ?_⟩
  rw [List.take_add_one, hp, List.map_append]
  exact Paired.snoc hv ⟨rfl, d⟩
section
variable {P : Program} {w : World} {K : PySem.W.Frag} {mg : Str → Option Value} {base : Heap} {CM CH CV aL : Addr}
def spLFit (K : PySem.W.Frag) : Sp := fun vs H Q _ => ∃ (u v : V) (h : Hand) (p : Place), vs = [u, v] ∧ Dt K H u (encH h) ∧ Dt K H v (encP p) ∧ Q (.bl (lfitF h p)) H
theorem sc_law_is_fit : FnScope ["_law_hand_here", "_law_place"] ["_law_hand_here", "_law_place"] (defScope s_law_is_fit) := ⟨rfl, rfl, rfl, by decide +kernel, rfl, by decide +kernel, by decide +kernel⟩
theorem c_law_is_fit (T : Txt K mg CM CH CV aL) : Cal P w K mg base 1 "_law_is_fit" (spLFit K) := by
  refine cal_of T.d_law_is_fit (fun _ _ _ _ _ _ us hl => match us, hl with | [_, _], _ => rfl) sc_law_is_fit (fun vs H Q E h => ?_) (fun f cdv A outer s H vs Q E hr h => ?_)
  · obtain ⟨_, _, _, _, rfl, _⟩ := h; rfl
  · obtain ⟨u, v, h, p, rfl, dh, dp, k⟩ := h
    obtain ⟨a, sa, rfl, h1, h2⟩ := hand_inv dh
    obtain ⟨b, rfl, g1⟩ := place_inv dp
    refine ⟨_, (pss_one (ps_ret (pe_and (pe_cmpR (op_in_seqK K) (pe_ix (ix_tupK K) (pv 1) pe_int (fun _ _ => rfl)) (pe_ix (ix_tupK K) (pv 0) pe_int (fun _ _ => rfl)) rfl) (pe_one (pe_cmpR op_le (pe_op op_sub (pe_ix (ix_tupK K) (pv 1) pe_int (fun _ _ => rfl)) (pe_ix (ix_tupK K) (pv 0) pe_int (fun _ _ => rfl))) (pe_ix (ix_tupK K) (pv 1) pe_int (fun _ _ => rfl)) (nomark _)))))), ?_⟩
    refine ⟨_, rfl, b, _, _, .str p.sk, rfl, rfl, g1, rfl, _, rfl, a, _, _, .ref sa, rfl, rfl, h1, rfl, sa, _, rfl, .inr h2, rfl, flat_strs _, inV (.str p.sk) (h.sk.map V.str), rfl, ?_⟩
    unfold lfitF at k
    cases e : inV (.str p.sk) (h.sk.map V.str) with
    | false =>
      rw [e] at k
      exact iteF k
    | true =>
      rw [e] at k
      refine iteT ?_
      exact ⟨_, rfl, b, _, _, .int p.rank, rfl, rfl, g1, rfl, _, rfl, a, _, _, .int h.rank, rfl, rfl, h1, rfl, _, _, rfl, rfl, _, rfl, b, _, _, .int p.steps, rfl, rfl, g1, rfl, _, _, rfl, rfl, k⟩
def spLCost (K : PySem.W.Frag) : Sp := fun vs H Q _ => ∃ (u v : V) (h : Hand) (p : Place) (s : Option Str), vs = [u, v, oS s] ∧ Dt K H u (encH h) ∧ Dt K H v (encP p) ∧ Q (.int (costF h p s)) H
theorem sc_law_cost : FnScope ["_law_hand_here", "_law_place", "_law_where"] ["_law_hand_here", "_law_place", "_law_where"] (defScope s_law_cost) := ⟨rfl, rfl, rfl, by decide +kernel, rfl, by decide +kernel, by decide +kernel⟩
theorem c_law_cost (T : Txt K mg CM CH CV aL) : Cal P w K mg base 1 "_law_cost" (spLCost K) := by
  refine cal_of T.d_law_cost (fun _ _ _ _ _ _ us hl => match us, hl with | [_, _, _], _ => rfl) sc_law_cost (fun vs H Q E h => ?_) (fun f cdv A outer s H vs Q E hr h => ?_)
  · obtain ⟨_, _, _, _, _, rfl, _⟩ := h; rfl
  · obtain ⟨u, v, h, p, st, rfl, dh, dp, k⟩ := h
    obtain ⟨a, sa, rfl, h1, h2⟩ := hand_inv dh
    obtain ⟨b, rfl, g1⟩ := place_inv dp
    refine ⟨_, (pss_one (ps_ret (pe_op op_add (pe_op op_mul pe_int (pe_callTy call_int1 (by rfl) T.b_int (by decide +kernel) (pa_cons (pe_cmpR op_ne (pv 2) (pe_ix (ix_tupK K) (pv 1) pe_int (fun _ _ => rfl)) (nomark _)) pa_nil))) (pe_callB (call_max2 rfl) (by rfl) T.b_max (by decide +kernel) (pa_cons pe_int (pa_cons (pe_op op_sub (pe_ix (ix_tupK K) (pv 1) pe_int (fun _ _ => rfl)) (pe_ix (ix_tupK K) (pv 0) pe_int (fun _ _ => rfl))) pa_nil)))))), ?_⟩
    refine ⟨_, rfl, _, rfl, b, _, _, .str p.nm, rfl, rfl, g1, rfl, ?_, .inr ⟨_, rfl, 100, _, rfl, rfl, .inl (by decide), _, rfl, b, _, _, .int p.rank, rfl, rfl, g1, rfl, _, rfl, a, _, _, .int h.rank, rfl, rfl, h1, rfl, _, _, rfl, rfl, _, _, rfl, _, _, rfl, rfl, k⟩⟩
    cases st <;> rfl
def spAre (K : PySem.W.Frag) : Sp := fun vs H Q _ => ∃ (u v : V) (q : Addr) (hs : List Hand) (lot : List Place) (posts : List (Option Str)), vs = [u, v, .ref q] ∧ Dt K H u (.tuple (hs.map encH)) ∧ Dt K H v (.tuple (lot.map encP)) ∧ TupF H q (posts.map oS) ∧ PostsOk hs lot posts ∧
  ∀ H', Same H H' → Q (.bl true) H'
theorem sc_law_are_posts : FnScope ["_law_hands", "_law_lot_here", "_law_posts", "_law_places", "_law_place", "_law_one", "_law_name"] ["_law_hands", "_law_lot_here", "_law_posts"] (defScope s_law_are_posts) := ⟨rfl, rfl, rfl, by decide +kernel, rfl, by decide +kernel, by decide +kernel⟩
theorem c_law_are_posts (T : Txt K mg CM CH CV aL) : Cal P w K mg base 2 "_law_are_posts" (spAre K) := by
  have c_law_is_fit := c_law_is_fit (P := P) (w := w) (base := base) T
  refine cal_of T.d_law_are_posts (fun _ _ _ _ _ _ us hl => match us, hl with | [_, _, _], _ => rfl) sc_law_are_posts (fun vs H Q E h => ?_) (fun f cdv A outer s H vs Q E hr h => ?_)
  · obtain ⟨_, _, _, _, _, _, rfl, _⟩ := h; rfl
  · obtain ⟨u, v, q, hs, lot, posts, rfl, du, dv, dq, O, k⟩ := h
    obtain ⟨ua, us, rfl, u1, u2⟩ := id du.tup_inv
    obtain ⟨va, ps, rfl, v1, v2⟩ := id dv.tup_inv
    have lps : ps.length = lot.length := by have := v2.length; rwa [List.length_map] at this
    have lus : us.length = hs.length := by have := u2.length; rwa [List.length_map] at this
    have szH := O.szH
    have szL := O.szL
    have len := O.len
    have sq0 : SqT K H q (posts.map oS) := dq.sq
    refine ⟨_, (pss_cons (ps_if (PW.pt (pw_or (pt_not (pt_val (pe_callB (call_isiK K) (by rfl) T.b_isinstance (by decide +kernel) (pa_cons (pv 2) (pa_cons (pe_bltn (v := .ty "tuple") rfl T.b_tuple PyProof.Rows.boot_tuple rfl) pa_nil))))) (pw_or1 (pt_cmpR op_ne (pe_callB (call_len_seqK K) (by rfl) T.b_len PySem.boot_len (pa_cons (pv 2) pa_nil)) (pe_callB (call_len_seqK K) (by rfl) T.b_len PySem.boot_len (pa_cons (pv 0) pa_nil)) (nomark _))))) (pss_one (ps_ret pe_bl)) pss_nil)
    (pss_cons (ps_set (i := 3) sc_law_are_posts.nd rfl (Or.inl rfl) (pe_callTy (call_dictPK K rfl) (by rfl) T.b_dict (by decide +kernel) (pa_cons (pe_lc (own := [("_law_place", 4)]) rfl sc_law_are_posts.nd (pi_tupK K (pv 1)) (blkOk_by (own := [("_law_place", 4)]) (N := ["_law_hands", "_law_lot_here", "_law_posts", "_law_places", "_law_place", "_law_one", "_law_name"]) (sc := defScope s_law_are_posts) (by decide +kernel)) (fun _ _ _ _ _ => (pg_name (i := 4) sc_law_are_posts.nd rfl (Or.inl rfl))) (fun _ _ _ _ _ => pts_nil) (fun _ _ _ _ _ => (pe_tup (pa_cons (pe_ix (ix_tupK K) (pv 4) pe_int (fun _ _ => rfl)) (pa_cons (pv 4) pa_nil))))) pa_nil)))
    (pss_cons (ps_for PassesOwn.never rfl (pi_zipBK K true true (by rfl) T.b_zip (pa_cons (pv 0) (pa_cons (pv 2) pa_nil))) (pg_tupK K 2 rfl (pgs_cons (pg_name (i := 5) sc_law_are_posts.nd rfl (Or.inl rfl)) (pgs_cons (pg_name (i := 6) sc_law_are_posts.nd rfl (Or.inl rfl)) pgs_nil))) (pss_cons (ps_if (PW.pt (pw_and (pt_cmpR op_notN (pv 6) pe_non (nomark _)) (pw_and1 (PW.pt (pw_or (pt_not (pt_val (pe_callB (call_isiK K) (by rfl) T.b_isinstance (by decide +kernel) (pa_cons (pv 6) (pa_cons (pe_bltn (v := .ty "str") rfl T.b_str PyProof.Rows.boot_str rfl) pa_nil))))) (pw_or1 (pt_cmp (pc_dnotin (hu_of hr) (pv 6) (pv 3)) rfl))))))) (pss_one (ps_ret pe_bl)) pss_nil)
    (pss_one (ps_if (PW.pt (pw_and (pt_cmpR op_notN (pv 6) pe_non (nomark _)) (pw_and1 (pt_not (pt_val (pe_c c_law_is_fit hr (by decide) rfl (pa_cons (pv 5) (pa_cons (pe_dget (hu_of hr) (pv 3) (pv 6) (fun _ _ => rfl)) pa_nil)))))))) (pss_one (ps_ret pe_bl)) pss_nil))))
    (pss_one (ps_ret (pe_callB (cr_allK K rfl) (by rfl) T.b_all (by decide +kernel) (pa_cons (pe_lc (own := [("_law_place", 4)]) rfl sc_law_are_posts.nd (pi_tupK K (pv 1)) (blkOk_by (own := [("_law_place", 4)]) (N := ["_law_hands", "_law_lot_here", "_law_posts", "_law_places", "_law_place", "_law_one", "_law_name"]) (sc := defScope s_law_are_posts) (by decide +kernel)) (fun _ _ _ _ _ => (pg_name (i := 4) sc_law_are_posts.nd rfl (Or.inl rfl))) (fun _ _ _ _ _ => pts_nil) (fun _ _ _ _ _ => (pe_cmpR op_le (pe_bmt PySem.F.plainAttrs_tuple PySem.F.slot_tuple_count PySem.F.type_tuple_count (mt_tcountK K) (pv 2) (pa_cons (pe_ix (ix_tupK K) (pv 4) pe_int (fun _ _ => rfl)) pa_nil)) (pe_ix (ix_tupK K) (pv 4) pe_int (fun _ _ => rfl)) (nomark _)))) pa_nil))))))), ?_⟩
    refine ⟨_, rfl, _, _, _, _, true, rfl, ClsV.ty _, tyx_sqt sq0, kit_ty (by decide +kernel), _, rfl, ?_⟩
    refine iteF ⟨_, rfl, q, _, rfl, .inr sq0, _, rfl, ua, _, rfl, .inr u1, rfl, _, rfl, ?_⟩
    rw [List.length_map, lus, len]
    refine iteSame ?_
    refine ⟨_, rfl, va, rfl, ⟨_, v1⟩, fun D hD => ?_⟩
    refine lc_run (walk_tup (K := K) (a := va) (xs := ps)) (H0 := H) (PlAcc K H lot) (Same.refl _) hD (fun _ _ => ⟨[], rfl, [], .nil, .nil⟩) (fun H4 S4 => S4.tup v1) ?_ ?_
    · rintro j x ac H4 H5 hj hD0 S4 e4 A ⟨rfl, hx⟩
      obtain ⟨p, hp, dp⟩ := item_inv (a := va) v2 hx
      obtain ⟨b, rfl, g1⟩ := place_inv dp
      have := A.len
      refine ⟨rfl, g_yes (iteT ?_)⟩
      refine ⟨_, rfl, b, _, _, .str p.nm, rfl, rfl, S4.tup g1, rfl, _, rfl, by show 2 ≤ sizeLine; decide, fun t ht => newG ht fun H6 S6 e6 => ?_⟩
      exact lc_next hD0 S4 S6 e4 (by omega) fun H7 S7 e7 k7 => A.step e4 S6 e6 hp dp k7
    rintro ac H2 S2 e2 ⟨qs, rfl, vs, hp, hv⟩
    refine ⟨D, qs, vs, rfl, sql_of e2, hp, fun d hd => newG hd fun H3 S3 e3 => ?_⟩
    have DR1 : DR (fun v p => Dt K H v (encP p)) (mergeK [] vs) (lotD lot) := by
      rw [lps, List.take_length] at hv
      exact DR.merge (l := []) .nil hv
    have S03 := S2.trans S3
    generalize mergeK [] vs = kvs at e3 DR1 ⊢
    refine ⟨_, rfl, _, rfl, ua, q, us, posts.map oS, rfl, S03.tup u1, S03.tup sq0, ?_⟩
    refine for_it walk_itF (fun i σ H4 => ∃ z4 z5 z6 : Option V, σ = [some (.ref ua), some (.ref va), some (.ref q), some (.ref d), z4, z5, z6] ∧ Same H H4 ∧ H4 d = some (.dK kvs)) ⟨_, _, _, rfl, S03, e3⟩ (fun i σ H4 _ ⟨_, _, _, _, S4, _⟩ => ⟨S4.tup u1, S4.tup sq0⟩) ?_ ?_
    · rintro i x σ H4 H5 hi ⟨z4, z5, z6, rfl, S4, e4⟩ ⟨t, rfl, ht, rfl⟩
      rw [lus, List.length_map, len, Nat.min_self] at hi
      have hux : us[i]? = some us[i] := List.getElem?_eq_getElem (by omega)
      obtain ⟨h, hh, dh⟩ := item_inv (a := ua) u2 hux
      have hx1 : us.getD i .non = us[i] := by rw [List.getD_eq_getElem?_getD, hux]; rfl
      have hpo : posts[i]? = some posts[i] := List.getElem?_eq_getElem (by omega)
      have hx2 : (posts.map oS).getD i .non = oS posts[i] := by rw [List.getD_eq_getElem?_getD, List.getElem?_map, hpo]; rfl
      rw [hx1, hx2]
      generalize posts[i] = o at hpo ⊢
      generalize us[i] = hv at *
      have St : Same H4 (upd H4 t (.tup [hv, oS o])) := Same.new ht
      have et : upd H4 t (.tup [hv, oS o]) t = some (.tup [hv, oS o]) := upd_same
      generalize upd H4 t (.tup [hv, oS o]) = H5 at St et ⊢
      have S5 := S4.trans St
      refine ⟨t, _, rfl, sqt_of et, rfl, _, _, rfl, _, _, rfl, rfl, ?_⟩
      cases o with
      | none =>
        refine ⟨_, rfl, rfl, _, rfl, iteF ?_⟩
        refine iteF ?_
        refine ⟨_, rfl, rfl, _, rfl, iteF ?_⟩
        exact iteF ⟨_, _, _, rfl, S5, St _ _ e4⟩
      | some n =>
        obtain ⟨p, hp1, hp2⟩ := O.fit i h n hh hpo
        rcases DR1.val (n := n) with ⟨w1, w2⟩ | ⟨p', x1, w1, w2, dp⟩
        · rw [hp1] at w1; cases w1
        · rw [hp1] at w1
          cases w1
          have e5 := St _ _ e4
          have dg : DGet H5 d (.str n) (some x1) := by rw [← w2]; exact DGet.k (k := .inr n) e5
          refine ⟨_, rfl, rfl, _, rfl, iteT ?_⟩
          refine ⟨_, rfl, _, _, _, _, true, rfl, ClsV.ty _, .base (.str n), kit_ty (by decide +kernel), _, rfl, ?_⟩
          refine iteF ⟨_, rfl, _, rfl, d, _, rfl, dg, _, rfl, ?_⟩
          refine iteF ?_
          refine ⟨_, rfl, rfl, _, rfl, iteT ?_⟩
          refine ⟨_, rfl, _, rfl, _, rfl, d, x1, rfl, dg, _, _, h, p, rfl, dh.mono S5.tups, dp.mono S5.tups, _, rfl, ?_⟩
          rw [hp2]
          refine iteF ?_
          exact ⟨_, _, _, rfl, S5, e5⟩
    · rintro σ H4 ⟨z4, z5, z6, rfl, S4, e4⟩
      refine ⟨_, rfl, va, rfl, ⟨_, S4.tup v1⟩, fun D2 hD2 => ?_⟩
      refine lc_run (walk_tup (K := K) (a := va) (xs := ps)) (H0 := H4) (fun j ac _ => ∃ bs : List Bool, ac = bs.map V.bl ∧ bs.length = j ∧ bs.all id = true) (Same.refl _) hD2 (fun _ _ => ⟨[], rfl, rfl, rfl⟩) (fun H5 S5 => (S4.trans S5).tup v1) ?_ ?_
      · rintro j x ac H5 H6 hj hD0 S5 e5 ⟨bs, rfl, hl, hb⟩ ⟨rfl, hx⟩
        have S05 := S4.trans S5
        obtain ⟨p, hp, dp⟩ := item_inv (a := va) v2 hx
        obtain ⟨b, rfl, g1⟩ := place_inv dp
        refine ⟨rfl, g_yes (iteT ?_)⟩
        refine ⟨_, rfl, ⟨q, _, rfl, dq.mono S05⟩, _, rfl, b, _, _, .str p.nm, rfl, rfl, S05.tup g1, rfl, q, _, .str p.nm, rfl, rfl, S05.tup sq0, rfl, flat_oS _, _, rfl, b, _, _, .int p.many, rfl, rfl, S05.tup g1, rfl, _, _, rfl, rfl, ?_⟩
        rw [cnt_oS]
        show LcK _ _ _ _ (.bl (decide (_ ≤ _))) _
        rw [decide_eq_true (O.cnt p (List.mem_of_getElem? hp))]
        refine lc_next hD0 S5 (Same.refl _) e5 (by rw [List.length_map]; omega) fun H7 S7 e7 k7 => ⟨bs ++ [true], by rw [List.map_append]; rfl, by rw [List.length_append, hl]; rfl, by rw [List.all_append, hb]; rfl⟩
      · rintro ac H5 S5 e5 ⟨bs, rfl, hl, hb⟩
        refine ⟨D2, bs, rfl, sql_of e5, ?_⟩
        rw [hb]
        exact k H5 (S4.trans S5)
end
end WS
/-! The law's price, its look at the paper. -/
namespace WS
open PySem PySem.Spec PyProof.Rows L2 WM
open C8 (pe_gc pe_c pe_mk pe_mt pe_mt0)
def lackI (lot : List Place) (posts : List (Option Str)) (k : Nat) : Int := match lot[k]? with
  | some p => (p.many - ((posts.count (some p.nm) : Nat) : Int)) * lackF p.grade
  | none => 0
def costI (hs : List Hand) (lot : List Place) (st posts : List (Option Str)) (i : Nat) : Int := match hs[i]?, st[i]?, posts[i]? with
  | some h, some s, some (some n) => match valA (lotD lot) n with
    | some p => costF h p s
    | none => 0
  | _, _, _ => 0
def lpriceF (hs : List Hand) (lot : List Place) (st posts : List (Option Str)) : Int := sumR lot.length (lackI lot posts) + sumR hs.length (costI hs lot st posts)
structure LotG (hs : List Hand) (lot : List Place) (st posts : List (Option Str)) : Prop where
  po : PostsOk hs lot posts
  st : st.length = hs.length
  gr : ∀ p, p ∈ lot → 0 ≤ p.grade ∧ p.grade ≤ 2
  mn : ∀ p, p ∈ lot → 0 ≤ p.many ∧ p.many ≤ 1000
structure PaperOk (hs : List Hand) (lot : List Place) (st posts : List (Option Str)) (U V : List Int) : Prop where
  lg : LotG hs lot st posts
  lu : U.length = lot.length
  lv : V.length = hs.length
  bty : ∀ (k : Nat) p u, lot[k]? = some p → U[k]? = some u → u ≤ lackF p.grade
  arc : ∀ (i k : Nat) h p s u v, hs[i]? = some h → lot[k]? = some p → st[i]? = some s → U[k]? = some u → V[i]? = some v → lfitF h p = true → u ≤ v + costF h p s
  low : ∀ v, v ∈ V → 0 ≤ v
  sum : sumR lot.length (fun k => U.getD k 0 * wantS lot k) - sumR hs.length (fun i => V.getD i 0) = lpriceF hs lot st posts
theorem getD_at {α : Type} {l : List α} {i : Nat} {x d : α} (h : l[i]? = some x) : l.getD i d = x := by rw [List.getD_eq_getElem?_getD, h]; rfl
theorem map_at {α β : Type} {f : α → β} {l : List α} {i : Nat} {x : α} (h : l[i]? = some x) : (l.map f)[i]? = some (f x) := by rw [List.getElem?_map, h]; rfl
theorem lackI_at {lot : List Place} {posts : List (Option Str)} {k : Nat} {p : Place} (h : lot[k]? = some p) : lackI lot posts k = (p.many - ((posts.count (some p.nm) : Nat) : Int)) * lackF p.grade := by unfold lackI; rw [h]
section
variable {P : Program} {w : World} {K : PySem.W.Frag} {mg : Str → Option Value} {base : Heap} {CM CH CV aL : Addr}
def spLPrice (K : PySem.W.Frag) : Sp := fun vs H Q _ => ∃ (u v z : V) (q : Addr) (hs : List Hand) (lot : List Place) (st posts : List (Option Str)), vs = [u, v, z, .ref q] ∧ Dt K H u (.tuple (hs.map encH)) ∧ Dt K H v (.tuple (lot.map encP)) ∧ Dt K H z (.tuple (st.map oD)) ∧ TupF H q (posts.map oS) ∧ LotG hs lot st posts ∧
  ∀ H', Same H H' → Q (.int (lpriceF hs lot st posts)) H'
theorem sc_law_price : FnScope ["_law_hands", "_law_lot_here", "_law_stood", "_law_posts", "_law_places", "_law_total", "_law_place", "_law_one", "_law_where", "_law_name"] ["_law_hands", "_law_lot_here", "_law_stood", "_law_posts"] (defScope s_law_price) := ⟨rfl, rfl, rfl, by decide +kernel, rfl, by decide +kernel, by decide +kernel⟩
theorem c_law_price (T : Txt K mg CM CH CV aL) : Cal P w K mg base 2 "_law_price" (spLPrice K) := by
  have c_law_cost := c_law_cost (P := P) (w := w) (base := base) T
  refine cal_of T.d_law_price (fun _ _ _ _ _ _ us hl => match us, hl with | [_, _, _, _], _ => rfl) sc_law_price (fun vs H Q E h => ?_) (fun f cdv A outer s H vs Q E hr h => ?_)
  · obtain ⟨_, _, _, _, _, _, _, _, rfl, _⟩ := h; rfl
  · obtain ⟨u, v, z, q, hs, lot, st, posts, rfl, du, dv, dz, dq, G, k⟩ := h
    obtain ⟨ua, us, rfl, u1, u2⟩ := id du.tup_inv
    obtain ⟨va, ps, rfl, v1, v2⟩ := id dv.tup_inv
    obtain ⟨za, zs, rfl, z1, z2⟩ := id dz.tup_inv
    have ezs := oD_inv z2
    subst ezs
    have lps : ps.length = lot.length := by have := v2.length; rwa [List.length_map] at this
    have lus : us.length = hs.length := by have := u2.length; rwa [List.length_map] at this
    have szH := G.po.szH
    have szL := G.po.szL
    have len := G.po.len
    have lst := G.st
    have sq0 : SqT K H q (posts.map oS) := dq.sq
    refine ⟨_, (pss_cons (ps_par (i := 4) (j := 5) rfl sc_law_price.nd rfl rfl (by decide) rfl rfl (pa_cons (pe_callTy (call_dictPK K rfl) (by rfl) T.b_dict (by decide +kernel) (pa_cons (pe_lc (own := [("_law_place", 6)]) rfl sc_law_price.nd (pi_tupK K (pv 1)) (blkOk_by (own := [("_law_place", 6)]) (N := ["_law_hands", "_law_lot_here", "_law_stood", "_law_posts", "_law_places", "_law_total", "_law_place", "_law_one", "_law_where", "_law_name"]) (sc := defScope s_law_price) (by decide +kernel)) (fun _ _ _ _ _ => (pg_name (i := 6) sc_law_price.nd rfl (Or.inl rfl))) (fun _ _ _ _ _ => pts_nil) (fun _ _ _ _ _ => (pe_tup (pa_cons (pe_ix (ix_tupK K) (pv 6) pe_int (fun _ _ => rfl)) (pa_cons (pv 6) pa_nil))))) pa_nil)) (pa_cons pe_int pa_nil)) (by rfl))
    (pss_cons (ps_for PassesOwn.never rfl (pi_tupK K (pv 1)) (pg_name (i := 6) sc_law_price.nd rfl (Or.inl rfl)) (pss_one (ps_set (i := 5) sc_law_price.nd rfl (Or.inl rfl) (pe_op op_add (pv 5) (pe_op op_mul (pe_op op_sub (pe_ix (ix_tupK K) (pv 6) pe_int (fun _ _ => rfl)) (pe_bmt PySem.F.plainAttrs_tuple PySem.F.slot_tuple_count PySem.F.type_tuple_count (mt_tcountK K) (pv 3) (pa_cons (pe_ix (ix_tupK K) (pv 6) pe_int (fun _ _ => rfl)) pa_nil))) (pe_ix (ix_listK K) (pe_lst (pa_cons pe_int (pa_cons pe_int (pa_cons pe_int pa_nil)))) (pe_ix (ix_tupK K) (pv 6) pe_int (fun _ _ => rfl)) (fun _ _ => rfl)))))))
    (pss_cons (ps_for PassesOwn.never rfl (pi_zip3TK K (by rfl) T.b_zip (pa_cons (pv 0) (pa_cons (pv 2) (pa_cons (pv 3) pa_nil)))) (pg_tupK K 3 rfl (pgs_cons (pg_name (i := 7) sc_law_price.nd rfl (Or.inl rfl)) (pgs_cons (pg_name (i := 8) sc_law_price.nd rfl (Or.inl rfl)) (pgs_cons (pg_name (i := 9) sc_law_price.nd rfl (Or.inl rfl)) pgs_nil)))) (pss_one (ps_if (pt_cmpR op_notN (pv 9) pe_non (nomark _)) (pss_one (ps_set (i := 5) sc_law_price.nd rfl (Or.inl rfl) (pe_op op_add (pv 5) (pe_c c_law_cost hr (by decide) rfl (pa_cons (pv 7) (pa_cons (pe_dget (hu_of hr) (pv 4) (pv 9) (fun _ _ => rfl)) (pa_cons (pv 8) pa_nil))))))) pss_nil)))
    (pss_one (ps_ret (pv 5)))))), ?_⟩
    refine ⟨_, rfl, va, rfl, ⟨_, v1⟩, fun D hD => ?_⟩
    refine lc_run (walk_tup (K := K) (a := va) (xs := ps)) (H0 := H) (PlAcc K H lot) (Same.refl _) hD (fun _ _ => ⟨[], rfl, [], .nil, .nil⟩) (fun H4 S4 => S4.tup v1) ?_ ?_
    · rintro j x ac H4 H5 hj hD0 S4 e4 A ⟨rfl, hx⟩
      obtain ⟨p, hp, dp⟩ := item_inv (a := va) v2 hx
      obtain ⟨b, rfl, g1⟩ := place_inv dp
      have := A.len
      refine ⟨rfl, g_yes (iteT ?_)⟩
      refine ⟨_, rfl, b, _, _, .str p.nm, rfl, rfl, S4.tup g1, rfl, _, rfl, by show 2 ≤ sizeLine; decide, fun t ht => newG ht fun H6 S6 e6 => ?_⟩
      exact lc_next hD0 S4 S6 e4 (by omega) fun H7 S7 e7 k7 => A.step e4 S6 e6 hp dp k7
    rintro ac H2 S2 e2 ⟨qs, rfl, vs, hp, hv⟩
    refine ⟨D, qs, vs, rfl, sql_of e2, hp, fun d hd => newG hd fun H3 S3 e3 => ?_⟩
    have DR1 : DR (fun v p => Dt K H v (encP p)) (mergeK [] vs) (lotD lot) := by
      rw [lps, List.take_length] at hv
      exact DR.merge (l := []) .nil hv
    have S03 := S2.trans S3
    generalize mergeK [] vs = kvs at e3 DR1 ⊢
    refine ⟨_, _, rfl, ?_⟩
    refine ⟨_, rfl, va, rfl, ⟨_, S03.tup v1⟩, ?_⟩
    refine for_it (walk_tup (K := K) (a := va) (xs := ps)) (fun i σ H4 => ∃ z6 : Option V, σ = [some (.ref ua), some (.ref va), some (.ref za), some (.ref q), some (.ref d), some (.int (sumR i (lackI lot posts))), z6, none, none, none] ∧ Same H H4 ∧ H4 d = some (.dK kvs)) ⟨_, rfl, S03, e3⟩ (fun i σ H4 _ ⟨_, _, S4, _⟩ => S4.tup v1) ?_ ?_
    · rintro i x σ H4 H5 hi ⟨z6, rfl, S4, e4⟩ ⟨rfl, hx⟩
      obtain ⟨p, hp, dp⟩ := item_inv (a := va) v2 hx
      have dp := dp.mono S4.tups
      obtain ⟨b, rfl, g1⟩ := place_inv dp
      have pm := List.mem_of_getElem? hp
      obtain ⟨g0, g2⟩ := G.gr p pm
      have lb := lack_bd g0 g2
      refine ⟨_, rfl, _, rfl, b, _, _, .int p.many, rfl, rfl, g1, rfl, _, rfl, ⟨q, _, rfl, dq.mono S4⟩, _, rfl, b, _, _, .str p.nm, rfl, rfl, g1, rfl, q, _, .str p.nm, rfl, rfl, S4.tup sq0, rfl, flat_oS _, _, _, rfl, rfl, by show 3 ≤ sizeLine; decide, fun l hl => newG hl fun H6 S6 e6 => ?_⟩
      refine ⟨_, rfl, b, _, _, .int p.grade, rfl, rfl, S6.tup g1, rfl, l, _, _, .int (lackF p.grade), rfl, rfl, sql_of e6, atI_ints (l := [10000, 1000000, 100000000]) g0 (by show p.grade < 3; omega), _, _, rfl, rfl, .inr (by omega), _, _, rfl, rfl, ?_⟩
      rw [cnt_oS]
      refine ⟨some (.ref b), ?_, S4.trans S6, S6 _ _ e4⟩
      show _ = [_, _, _, _, _, some (V.int (sumR i (lackI lot posts) + lackI lot posts i)), _, _, _, _]
      rw [lackI_at hp]
      rfl
    · rintro σ H4 ⟨z6, rfl, S4, e4⟩
      refine ⟨_, rfl, _, rfl, _, rfl, ua, za, q, us, st.map oS, posts.map oS, rfl, S4.tup u1, S4.tup z1, S4.tup sq0, ?_⟩
      have hmin : min (min us.length (st.map oS).length) (posts.map oS).length = hs.length := by rw [List.length_map, List.length_map, lus, lst, len, Nat.min_self, Nat.min_self]
      rw [hmin]
      refine for_it walk_itF (fun i σ H5 => ∃ z6 z7 z8 z9 : Option V, σ = [some (.ref ua), some (.ref va), some (.ref za), some (.ref q), some (.ref d), some (.int (sumR lot.length (lackI lot posts) + sumR i (costI hs lot st posts))), z6, z7, z8, z9] ∧ Same H H5 ∧ H5 d = some (.dK kvs)) ⟨z6, none, none, none, ?_, S4, e4⟩ (fun i σ H4 _ ⟨_, _, _, _, _, S4, _⟩ => ⟨S4.tup u1, S4.tup z1, S4.tup sq0⟩) ?_ ?_
      · rw [lps]
        show _ = [_, _, _, _, _, some (V.int (_ + 0)), _, _, _, _]
        rw [Int.add_zero]
      · rintro i x σ H5 H6 hi ⟨z6, z7, z8, z9, rfl, S5, e5⟩ ⟨t, rfl, ht, rfl⟩
        have hux : us[i]? = some us[i] := List.getElem?_eq_getElem (by omega)
        obtain ⟨h, hh, dh⟩ := item_inv (a := ua) u2 hux
        have hst : st[i]? = some st[i] := List.getElem?_eq_getElem (by omega)
        have hpo : posts[i]? = some posts[i] := List.getElem?_eq_getElem (by omega)
        rw [getD_at hux, getD_at (map_at hst), getD_at (map_at hpo)]
        have hc : costI hs lot st posts i = match posts[i] with
          | some n => match valA (lotD lot) n with
            | some p => costF h p st[i]
            | none => 0
          | none => 0 := by
          unfold costI
          rw [hh, hst, hpo]
          cases posts[i] <;> rfl
        generalize posts[i] = o at hpo hc ⊢
        generalize st[i] = s at hst hc ⊢
        generalize us[i] = hv at *
        have St : Same H5 (upd H5 t (.tup [hv, oS s, oS o])) := Same.new ht
        have et : upd H5 t (.tup [hv, oS s, oS o]) t = some (.tup [hv, oS s, oS o]) := upd_same
        generalize upd H5 t (.tup [hv, oS s, oS o]) = H6 at St et ⊢
        have S6 := S5.trans St
        have e6 := St _ _ e5
        refine ⟨t, _, rfl, sqt_of et, rfl, _, _, rfl, _, _, rfl, _, _, rfl, rfl, ?_⟩
        cases o with
        | none =>
          refine ⟨_, rfl, rfl, _, rfl, iteF ?_⟩
          refine ⟨z6, some hv, some (oS s), some .non, ?_, S6, e6⟩
          show _ = [_, _, _, _, _, some (V.int (sumR lot.length (lackI lot posts) + (sumR i (costI hs lot st posts) + costI hs lot st posts i))), _, _, _, _]
          rw [hc]
          show _ = [_, _, _, _, _, some (V.int (_ + (_ + 0))), _, _, _, _]
          rw [Int.add_zero]
          rfl
        | some n =>
          obtain ⟨p, hp1, hp2⟩ := G.po.fit i h n hh hpo
          rcases DR1.val (n := n) with ⟨w1, w2⟩ | ⟨p', x1, w1, w2, dp⟩
          · rw [hp1] at w1; cases w1
          · rw [hp1] at w1
            cases w1
            have dg : DGet H6 d (.str n) (some x1) := by rw [← w2]; exact DGet.k (k := .inr n) e6
            have hc : costI hs lot st posts i = costF h p s := by rw [hc]; simp only [hp1]
            refine ⟨_, rfl, rfl, _, rfl, iteT ?_⟩
            refine ⟨_, rfl, _, rfl, _, rfl, _, rfl, d, x1, rfl, dg, _, rfl, _, _, h, p, s, rfl, dh.mono S6.tups, dp.mono S6.tups, _, _, rfl, rfl, ?_⟩
            refine ⟨z6, some hv, some (oS s), some (.str n), ?_, S6, e6⟩
            show _ = [_, _, _, _, _, some (V.int (sumR lot.length (lackI lot posts) + (sumR i (costI hs lot st posts) + costI hs lot st posts i))), _, _, _, _]
            rw [hc, ← Int.add_assoc]
            rfl
      · rintro σ H5 ⟨z6, z7, z8, z9, rfl, S5, e5⟩
        exact ⟨_, rfl, k H5 S5⟩
def spWhole : Sp := fun vs H Q _ => ∃ i : Int, vs = [.int i] ∧ Q (.bl true) H
theorem sc_law_whole : FnScope ["_law_thing"] ["_law_thing"] (defScope s_law_whole) := ⟨rfl, rfl, rfl, by decide +kernel, rfl, by decide +kernel, by decide +kernel⟩
theorem c_law_whole (T : Txt K mg CM CH CV aL) : Cal P w K mg base 1 "_law_whole" spWhole := by
  refine cal_of T.d_law_whole (fun _ _ _ _ _ _ us hl => match us, hl with | [_], _ => rfl) sc_law_whole (fun vs H Q E h => ?_) (fun f cdv A outer s H vs Q E hr h => ?_)
  · obtain ⟨_, rfl, _⟩ := h; rfl
  · obtain ⟨i, rfl, k⟩ := h
    refine ⟨_, (pss_one (ps_ret (pe_and (pe_callB (call_isiK K) (by rfl) T.b_isinstance (by decide +kernel) (pa_cons (pv 0) (pa_cons (pe_bltn (v := .ty "int") rfl T.b_int PyProof.Rows.boot_int rfl) pa_nil))) (pe_one (pe_not (pe_callB (call_isiK K) (by rfl) T.b_isinstance (by decide +kernel) (pa_cons (pv 0) (pa_cons (pe_bltn (v := .ty "bool") rfl T.b_bool PyProof.Rows.boot_bool rfl) pa_nil)))))))), ?_⟩
    refine ⟨_, rfl, _, _, _, _, true, rfl, ClsV.ty _, .base (.int i), kit_ty (by decide +kernel), _, rfl, ?_⟩
    refine iteT ⟨_, rfl, _, _, _, _, false, rfl, ClsV.ty _, .base (.int i), kit_ty (by decide +kernel), _, rfl, ?_⟩
    exact k
def spPaperR (K : PySem.W.Frag) : Sp := fun vs H Q _ => ∃ (u v z r : V) (q : Addr) (hs : List Hand) (lot : List Place) (st posts : List (Option Str)) (U W : List Int), vs = [u, v, z, .ref q, r] ∧ Dt K H u (.tuple (hs.map encH)) ∧ Dt K H v (.tuple (lot.map encP)) ∧ Dt K H z (.tuple (st.map oD)) ∧ TupF H q (posts.map oS) ∧
  Dt K H r (.tuple [.tuple (U.map .int), .tuple (W.map .int)]) ∧ PaperOk hs lot st posts U W ∧ ∀ H', Same H H' → Q (.bl true) H'
theorem g_catA {a b : Addr} {xs ys : List V} {H : Hp} {Q : VK} (ha : SqT K H a xs) (hb : SqT K H b ys) (hz : xs.length + ys.length ≤ sizeLine) (k : ∀ H1 c, Same H H1 → SqT K H1 c (xs ++ ys) → Q (.ref c) H1) : rCatA K (.ref a) (.ref b) H Q := by
  refine ⟨a, b, xs, ys, rfl, rfl, ha, hb, hz, fun e => ?_, fun _ e => ?_, fun _ _ p hp => newG hp fun H1 S1 e1 => k H1 p S1 (sqt_of e1)⟩
  · subst e
    exact k H b (Same.refl _) hb
  · subst e
    exact k H a (Same.refl _) (by rw [List.append_nil]; exact ha)
theorem sc_law_paper_right : FnScope ["_law_hands", "_law_lot_here", "_law_stood", "_law_posts", "_law_paper", "_law_number", "_law_total", "_law_place", "_law_one", "_law_where", "_law_height"] ["_law_hands", "_law_lot_here", "_law_stood", "_law_posts", "_law_paper"] (defScope s_law_paper_right) := ⟨rfl, rfl, rfl, by decide +kernel, rfl, by decide +kernel, by decide +kernel⟩
theorem c_law_paper_right (T : Txt K mg CM CH CV aL) : Cal P w K mg base 3 "_law_paper_right" (spPaperR K) := by
  have c_law_cost := c_law_cost (P := P) (w := w) (base := base) T
  have c_law_is_fit := c_law_is_fit (P := P) (w := w) (base := base) T
  have c_law_price := c_law_price (P := P) (w := w) (base := base) T
  have c_law_whole := c_law_whole (P := P) (w := w) (base := base) T
  refine cal_of T.d_law_paper_right (fun _ _ _ _ _ _ us hl => match us, hl with | [_, _, _, _, _], _ => rfl) sc_law_paper_right (fun vs H Q E h => ?_) (fun f cdv A outer s H vs Q E hr h => ?_)
  · obtain ⟨_, _, _, _, _, _, _, _, _, _, _, rfl, _⟩ := h; rfl
  · obtain ⟨u, v, z, r, q, hs, lot, st, posts, U, W, rfl, du, dv, dz, dq, dr, G, k⟩ := h
    obtain ⟨ua, us, rfl, u1, u2⟩ := id du.tup_inv
    obtain ⟨va, ps, rfl, v1, v2⟩ := id dv.tup_inv
    obtain ⟨za, zs, rfl, z1, z2⟩ := id dz.tup_inv
    have ezs := oD_inv z2
    subst ezs
    obtain ⟨ra, rs, rfl, r1, r2⟩ := id dr.tup_inv
    obtain ⟨pa, pb, rfl, dpa, dpb⟩ : ∃ pa pb, rs = [pa, pb] ∧ Dt K H pa (.tuple (U.map .int)) ∧ Dt K H pb (.tuple (W.map .int)) := by
      cases r2 with
      | cons d1 r2 =>
        cases r2 with
        | cons d2 r2 =>
          cases r2
          exact ⟨_, _, rfl, d1, d2⟩
    obtain ⟨pa, xs, rfl, p1, p2⟩ := id dpa.tup_inv
    have exs := p2.ints_inv
    subst exs
    obtain ⟨pb, xs, rfl, w1, w2⟩ := id dpb.tup_inv
    have exs := w2.ints_inv
    subst exs
    have lps : ps.length = lot.length := by have := v2.length; rwa [List.length_map] at this
    have lus : us.length = hs.length := by have := u2.length; rwa [List.length_map] at this
    have szH := G.lg.po.szH
    have szL := G.lg.po.szL
    have len := G.lg.po.len
    have lst := G.lg.st
    have lU := G.lu
    have lW := G.lv
    refine ⟨_, (pss_cons (ps_if (PW.pt (pw_or (pt_not (pt_val (pe_callB (call_isiK K) (by rfl) T.b_isinstance (by decide +kernel) (pa_cons (pv 4) (pa_cons (pe_bltn (v := .ty "tuple") rfl T.b_tuple PyProof.Rows.boot_tuple rfl) pa_nil))))) (pw_or1 (pt_cmpR op_ne (pe_callB (call_len_seqK K) (by rfl) T.b_len PySem.boot_len (pa_cons (pv 4) pa_nil)) pe_int (nomark _))))) (pss_one (ps_ret pe_bl)) pss_nil)
    (pss_cons (ps_if (PW.pt (pw_or (pt_not (pt_val (pe_callB (call_isiK K) (by rfl) T.b_isinstance (by decide +kernel) (pa_cons (pe_ix (ix_tupK K) (pv 4) pe_int (fun _ _ => rfl)) (pa_cons (pe_bltn (v := .ty "tuple") rfl T.b_tuple PyProof.Rows.boot_tuple rfl) pa_nil))))) (pw_or1 (pt_not (pt_val (pe_callB (call_isiK K) (by rfl) T.b_isinstance (by decide +kernel) (pa_cons (pe_ix (ix_tupK K) (pv 4) pe_int (fun _ _ => rfl)) (pa_cons (pe_bltn (v := .ty "tuple") rfl T.b_tuple PyProof.Rows.boot_tuple rfl) pa_nil)))))))) (pss_one (ps_ret pe_bl)) pss_nil)
    (pss_cons (ps_if (PW.pt (pw_or (pt_cmpR op_ne (pe_callB (call_len_seqK K) (by rfl) T.b_len PySem.boot_len (pa_cons (pe_ix (ix_tupK K) (pv 4) pe_int (fun _ _ => rfl)) pa_nil)) (pe_callB (call_len_seqK K) (by rfl) T.b_len PySem.boot_len (pa_cons (pv 1) pa_nil)) (nomark _)) (pw_or1 (pt_cmpR op_ne (pe_callB (call_len_seqK K) (by rfl) T.b_len PySem.boot_len (pa_cons (pe_ix (ix_tupK K) (pv 4) pe_int (fun _ _ => rfl)) pa_nil)) (pe_callB (call_len_seqK K) (by rfl) T.b_len PySem.boot_len (pa_cons (pv 0) pa_nil)) (nomark _))))) (pss_one (ps_ret pe_bl)) pss_nil)
    (pss_cons (ps_if (pt_not (pt_val (pe_callB (cr_allK K rfl) (by rfl) T.b_all (by decide +kernel) (pa_cons (pe_lc (own := [("_law_number", 5)]) rfl sc_law_paper_right.nd (pi_tupK K (pe_op (op_catAK K) (pe_ix (ix_tupK K) (pv 4) pe_int (fun _ _ => rfl)) (pe_ix (ix_tupK K) (pv 4) pe_int (fun _ _ => rfl)))) (blkOk_by (own := [("_law_number", 5)]) (N := ["_law_hands", "_law_lot_here", "_law_stood", "_law_posts", "_law_paper", "_law_number", "_law_total", "_law_place", "_law_one", "_law_where", "_law_height"]) (sc := defScope s_law_paper_right) (by decide +kernel)) (fun _ _ _ _ _ => (pg_name (i := 5) sc_law_paper_right.nd rfl (Or.inl rfl))) (fun _ _ _ _ _ => pts_nil) (fun _ _ _ _ _ => (pe_c c_law_whole hr (by decide) rfl (pa_cons (pv 5) pa_nil)))) pa_nil)))) (pss_one (ps_ret pe_bl)) pss_nil)
    (pss_cons (ps_set (i := 6) sc_law_paper_right.nd rfl (Or.inl rfl) pe_int)
    (pss_cons (ps_for PassesOwn.never rfl (pi_zipBK K true true (by rfl) T.b_zip (pa_cons (pv 1) (pa_cons (pe_ix (ix_tupK K) (pv 4) pe_int (fun _ _ => rfl)) pa_nil))) (pg_tupK K 2 rfl (pgs_cons (pg_name (i := 7) sc_law_paper_right.nd rfl (Or.inl rfl)) (pgs_cons (pg_name (i := 5) sc_law_paper_right.nd rfl (Or.inl rfl)) pgs_nil))) (pss_cons (ps_if (pt_cmpR op_gt (pv 5) (pe_ix (ix_listK K) (pe_lst (pa_cons pe_int (pa_cons pe_int (pa_cons pe_int pa_nil)))) (pe_ix (ix_tupK K) (pv 7) pe_int (fun _ _ => rfl)) (fun _ _ => rfl)) (nomark _)) (pss_one (ps_ret pe_bl)) pss_nil)
    (pss_one (ps_set (i := 6) sc_law_paper_right.nd rfl (Or.inl rfl) (pe_op op_add (pv 6) (pe_op op_mul (pv 5) (pe_ix (ix_tupK K) (pv 7) pe_int (fun _ _ => rfl))))))))
    (pss_cons (ps_for PassesOwn.never rfl (pi_zip3TK K (by rfl) T.b_zip (pa_cons (pv 0) (pa_cons (pv 2) (pa_cons (pe_ix (ix_tupK K) (pv 4) pe_int (fun _ _ => rfl)) pa_nil)))) (pg_tupK K 3 rfl (pgs_cons (pg_name (i := 8) sc_law_paper_right.nd rfl (Or.inl rfl)) (pgs_cons (pg_name (i := 9) sc_law_paper_right.nd rfl (Or.inl rfl)) (pgs_cons (pg_name (i := 10) sc_law_paper_right.nd rfl (Or.inl rfl)) pgs_nil)))) (pss_cons (ps_set (i := 6) sc_law_paper_right.nd rfl (Or.inl rfl) (pe_op op_sub (pv 6) (pv 10)))
    (pss_cons (ps_for PassesOwn.never rfl (pi_zipBK K true true (by rfl) T.b_zip (pa_cons (pv 1) (pa_cons (pe_ix (ix_tupK K) (pv 4) pe_int (fun _ _ => rfl)) pa_nil))) (pg_tupK K 2 rfl (pgs_cons (pg_name (i := 7) sc_law_paper_right.nd rfl (Or.inl rfl)) (pgs_cons (pg_name (i := 5) sc_law_paper_right.nd rfl (Or.inl rfl)) pgs_nil))) (pss_one (ps_if (PW.pt (pw_and (pt_val (pe_c c_law_is_fit hr (by decide) rfl (pa_cons (pv 8) (pa_cons (pv 7) pa_nil)))) (pw_and1 (pt_cmpR op_gt (pv 5) (pe_op op_add (pv 10) (pe_c c_law_cost hr (by decide) rfl (pa_cons (pv 8) (pa_cons (pv 7) (pa_cons (pv 9) pa_nil))))) (nomark _))))) (pss_one (ps_ret pe_bl)) pss_nil)))
    (pss_one (ps_if (pt_cmpR op_lt (pv 10) pe_int (nomark _)) (pss_one (ps_ret pe_bl)) pss_nil)))))
    (pss_one (ps_ret (pe_cmpR op_eq (pv 6) (pe_c c_law_price hr (by decide) rfl (pa_cons (pv 0) (pa_cons (pv 1) (pa_cons (pv 2) (pa_cons (pv 3) pa_nil))))) (nomark _))))))))))), ?_⟩
    refine ⟨_, rfl, _, _, _, _, true, rfl, ClsV.ty _, tyx_sqt r1, kit_ty (by decide +kernel), _, rfl, ?_⟩
    refine iteF ⟨_, rfl, ra, _, rfl, .inr r1, rfl, _, rfl, ?_⟩
    refine iteSame ?_
    refine ⟨_, rfl, ra, _, _, .ref pa, rfl, rfl, r1, rfl, _, _, _, _, true, rfl, ClsV.ty _, tyx_sqt p1, kit_ty (by decide +kernel), _, rfl, ?_⟩
    refine iteF ⟨_, rfl, ra, _, _, .ref pb, rfl, rfl, r1, rfl, _, _, _, _, true, rfl, ClsV.ty _, tyx_sqt w1, kit_ty (by decide +kernel), _, rfl, ?_⟩
    refine iteF ?_
    refine ⟨_, rfl, ra, _, _, .ref pa, rfl, rfl, r1, rfl, pa, _, rfl, .inr p1, _, rfl, va, _, rfl, .inr v1, rfl, _, rfl, ?_⟩
    rw [List.length_map, lU, lps]
    refine iteSame ?_
    refine ⟨_, rfl, ra, _, _, .ref pb, rfl, rfl, r1, rfl, pb, _, rfl, .inr w1, _, rfl, ua, _, rfl, .inr u1, rfl, _, rfl, ?_⟩
    rw [List.length_map, lW, lus]
    refine iteSame ?_
    refine ⟨_, rfl, ra, _, _, .ref pa, rfl, rfl, r1, rfl, _, rfl, ra, _, _, .ref pb, rfl, rfl, r1, rfl, ?_⟩
    refine g_catA p1 w1 (sz100 (by rw [List.length_map, List.length_map]; omega)) fun H1 c S1 sc => ?_
    rw [← List.map_append] at sc
    refine ⟨c, rfl, ⟨_, sc⟩, fun D hD => ?_⟩
    refine lc_run (walk_tup (K := K) (a := c) (xs := (U ++ W).map V.int)) (H0 := H1) (fun j ac _ => ∃ bs : List Bool, ac = bs.map V.bl ∧ bs.length = j ∧ bs.all id = true) (Same.refl _) hD (fun _ _ => ⟨[], rfl, rfl, rfl⟩) (fun H5 S5 => S5.tup sc) ?_ ?_
    · rintro j x ac H5 H6 hj hD0 S5 e5 ⟨bs, rfl, hl, hb⟩ ⟨rfl, hx⟩
      rw [List.length_map, List.length_append] at hj
      rw [List.getElem?_map] at hx
      obtain ⟨i, hi, rfl⟩ := Option.map_eq_some_iff.mp hx
      refine ⟨rfl, g_yes (iteT ?_)⟩
      refine ⟨_, rfl, i, rfl, ?_⟩
      refine lc_next hD0 S5 (Same.refl _) e5 (by rw [List.length_map]; omega) fun H7 S7 e7 k7 => ⟨bs ++ [true], by rw [List.map_append]; rfl, by rw [List.length_append, hl]; rfl, by rw [List.all_append, hb]; rfl⟩
    rintro ac H2 S2 e2 ⟨bs, rfl, hl, hb⟩
    refine ⟨D, bs, rfl, sql_of e2, _, rfl, ?_⟩
    rw [hb]
    refine iteF ?_
    have S02 := S1.trans S2
    refine ⟨_, rfl, _, rfl, ra, _, _, .ref pa, rfl, rfl, S02.tup r1, rfl, va, pa, ps, _, rfl, S02.tup v1, S02.tup p1, ?_⟩
    have hmin : min ps.length (U.map V.int).length = lot.length := by rw [List.length_map, lps, lU, Nat.min_self]
    rw [hmin]
    refine for_it walk_itF (fun i σ H5 => ∃ z5 z7 : Option V, σ = [some (.ref ua), some (.ref va), some (.ref za), some (.ref q), some (.ref ra), z5, some (.int (sumR i fun k => U.getD k 0 * wantS lot k)), z7, none, none, none] ∧ Same H H5) ⟨_, _, rfl, S02⟩ (fun i σ H4 _ ⟨_, _, _, S4⟩ => ⟨S4.tup v1, S4.tup p1⟩) ?_ ?_
    · rintro i x σ H5 H6 hi ⟨z5, z7, rfl, S5⟩ ⟨t, rfl, ht, rfl⟩
      have hpx : ps[i]? = some ps[i] := List.getElem?_eq_getElem (by omega)
      obtain ⟨p, hp, dp⟩ := item_inv (a := va) v2 hpx
      have hU : U[i]? = some U[i] := List.getElem?_eq_getElem (by omega)
      rw [getD_at hpx, getD_at (map_at hU)]
      have hterm : U.getD i 0 * wantS lot i = U[i] * p.many := by rw [getD_at hU, wantS_at hp]
      generalize U[i] = n at hU hterm ⊢
      generalize ps[i] = pv at *
      have St : Same H5 (upd H5 t (.tup [pv, .int n])) := Same.new ht
      have et : upd H5 t (.tup [pv, .int n]) t = some (.tup [pv, .int n]) := upd_same
      generalize upd H5 t (.tup [pv, .int n]) = H6 at St et ⊢
      have S6 := S5.trans St
      have dp := dp.mono S6.tups
      obtain ⟨b, rfl, g1⟩ := place_inv dp
      have pm := List.mem_of_getElem? hp
      obtain ⟨g0, g2⟩ := G.lg.gr p pm
      obtain ⟨m0, m1⟩ := G.lg.mn p pm
      have hb := G.bty i p n hp hU
      refine ⟨t, _, rfl, sqt_of et, rfl, _, _, rfl, _, _, rfl, rfl, ?_⟩
      refine ⟨_, rfl, by show 3 ≤ sizeLine; decide, fun l hl => newG hl fun H7 S7 e7 => ?_⟩
      refine ⟨_, rfl, b, _, _, .int p.grade, rfl, rfl, S7.tup g1, rfl, l, _, _, .int (lackF p.grade), rfl, rfl, sql_of e7, atI_ints (l := [10000, 1000000, 100000000]) g0 (by show p.grade < 3; omega), _, _, rfl, rfl, _, rfl, ?_⟩
      rw [decide_eq_false (by omega)]
      refine iteF ?_
      refine ⟨_, rfl, _, rfl, _, rfl, b, _, _, .int p.many, rfl, rfl, S7.tup g1, rfl, _, _, rfl, rfl, .inr (by omega), _, _, rfl, rfl, ?_⟩
      refine ⟨some (.int n), some (.ref b), ?_, S6.trans S7⟩
      show _ = [_, _, _, _, _, _, some (V.int ((sumR i fun k => U.getD k 0 * wantS lot k) + U.getD i 0 * wantS lot i)), _, _, _, _]
      rw [hterm]
      rfl
    rintro σ H4 ⟨z5, z7, rfl, S4⟩
    refine ⟨_, rfl, _, rfl, _, rfl, ra, _, _, .ref pb, rfl, rfl, S4.tup r1, rfl, ua, za, pb, us, st.map oS, _, rfl, S4.tup u1, S4.tup z1, S4.tup w1, ?_⟩
    have hmin3 : min (min us.length (st.map oS).length) (W.map V.int).length = hs.length := by rw [List.length_map, List.length_map, lus, lst, lW, Nat.min_self, Nat.min_self]
    rw [hmin3]
    refine for_it walk_itF (fun i σ H5 => ∃ z5 z7 z8 z9 z10 : Option V, σ = [some (.ref ua), some (.ref va), some (.ref za), some (.ref q), some (.ref ra), z5, some (.int ((sumR lot.length fun k => U.getD k 0 * wantS lot k) - sumR i fun k => W.getD k 0)), z7, z8, z9, z10] ∧ Same H H5) ⟨z5, z7, none, none, none, ?_, S4⟩ (fun i σ H4 _ ⟨_, _, _, _, _, _, S4⟩ => ⟨S4.tup u1, S4.tup z1, S4.tup w1⟩) ?_ ?_
    · show _ = [_, _, _, _, _, _, some (V.int (_ - 0)), _, _, _, _]
      rw [Int.sub_zero]
    · rintro i x σ H5 H6 hi ⟨z5, z7, z8, z9, z10, rfl, S5⟩ ⟨t, rfl, ht, rfl⟩
      have hux : us[i]? = some us[i] := List.getElem?_eq_getElem (by omega)
      obtain ⟨h, hh, dh⟩ := item_inv (a := ua) u2 hux
      have hst : st[i]? = some st[i] := List.getElem?_eq_getElem (by omega)
      have hW : W[i]? = some W[i] := List.getElem?_eq_getElem (by omega)
      rw [getD_at hux, getD_at (map_at hst), getD_at (map_at hW)]
      have hterm : W.getD i 0 = W[i] := getD_at hW
      have hlow := G.low W[i] (List.getElem_mem _)
      generalize W[i] = n at hW hterm hlow ⊢
      generalize st[i] = s at hst ⊢
      generalize us[i] = hv at *
      have St : Same H5 (upd H5 t (.tup [hv, oS s, .int n])) := Same.new ht
      have et : upd H5 t (.tup [hv, oS s, .int n]) t = some (.tup [hv, oS s, .int n]) := upd_same
      generalize upd H5 t (.tup [hv, oS s, .int n]) = H6 at St et ⊢
      have S6 := S5.trans St
      refine ⟨t, _, rfl, sqt_of et, rfl, _, _, rfl, _, _, rfl, _, _, rfl, rfl, ?_⟩
      refine ⟨_, rfl, _, rfl, _, _, rfl, rfl, ?_⟩
      refine ⟨_, rfl, _, rfl, ra, _, _, .ref pa, rfl, rfl, S6.tup r1, rfl, va, pa, ps, _, rfl, S6.tup v1, S6.tup p1, ?_⟩
      rw [hmin]
      refine for_it walk_itF (fun j σ H7 => ∃ z5 z7 : Option V, σ = [some (.ref ua), some (.ref va), some (.ref za), some (.ref q), some (.ref ra), z5, some (.int ((sumR lot.length fun k => U.getD k 0 * wantS lot k) - (sumR i fun k => W.getD k 0) - n)), z7, some hv, some (oS s), some (.int n)] ∧ Same H H7) ⟨_, _, rfl, S6⟩ (fun i σ H4 _ ⟨_, _, _, S4⟩ => ⟨S4.tup v1, S4.tup p1⟩) ?_ ?_
      · rintro j x σ H7 H8 hj ⟨z5, z7, rfl, S7⟩ ⟨t2, rfl, ht2, rfl⟩
        have hpx : ps[j]? = some ps[j] := List.getElem?_eq_getElem (by omega)
        obtain ⟨p, hp, dp⟩ := item_inv (a := va) v2 hpx
        have hU : U[j]? = some U[j] := List.getElem?_eq_getElem (by omega)
        rw [getD_at hpx, getD_at (map_at hU)]
        generalize U[j] = m at hU ⊢
        generalize ps[j] = pv at *
        have Sx : Same H7 (upd H7 t2 (.tup [pv, .int m])) := Same.new ht2
        have ex : upd H7 t2 (.tup [pv, .int m]) t2 = some (.tup [pv, .int m]) := upd_same
        generalize upd H7 t2 (.tup [pv, .int m]) = H8 at Sx ex ⊢
        have S8 := S7.trans Sx
        have harc := G.arc i j h p s m n hh hp hst hU hW
        refine ⟨t2, _, rfl, sqt_of ex, rfl, _, _, rfl, _, _, rfl, rfl, ?_⟩
        refine ⟨_, rfl, _, rfl, _, _, h, p, rfl, dh.mono S8.tups, dp.mono S8.tups, _, rfl, ?_⟩
        cases hf : lfitF h p with
        | false =>
          refine iteF (iteF ?_)
          exact ⟨_, _, rfl, S8⟩
        | true =>
          have harc := harc hf
          refine iteT ?_
          refine ⟨_, rfl, _, rfl, _, rfl, _, rfl, _, rfl, _, _, h, p, s, rfl, dh.mono S8.tups, dp.mono S8.tups, _, _, rfl, rfl, _, _, rfl, rfl, _, rfl, ?_⟩
          rw [decide_eq_false (by omega)]
          refine iteF ?_
          exact ⟨_, _, rfl, S8⟩
      · rintro σ H7 ⟨z5, z7, rfl, S7⟩
        refine ⟨_, rfl, _, _, rfl, rfl, _, rfl, ?_⟩
        rw [decide_eq_false (by omega)]
        refine iteF ?_
        refine ⟨z5, z7, some hv, some (oS s), some (.int n), ?_, S7⟩
        show _ = [_, _, _, _, _, _, some (V.int ((sumR lot.length fun k => U.getD k 0 * wantS lot k) - ((sumR i fun k => W.getD k 0) + W.getD i 0))), _, _, _, _]
        rw [hterm, Int.sub_sub]
    · rintro σ H5 ⟨z5, z7, z8, z9, z10, rfl, S5⟩
      refine ⟨_, rfl, _, rfl, _, rfl, _, rfl, _, rfl, _, _, _, q, hs, lot, st, posts, rfl, du.mono S5.tups, dv.mono S5.tups, dz.mono S5.tups, dq.mono S5, G.lg, fun H6 S6 => ?_⟩
      refine ⟨rfl, ?_⟩
      rw [G.sum, decide_eq_true rfl]
      exact k H6 (S5.trans S6)
end
end WS
/-! The law's look at the cut; the rows that are due. -/
namespace WS
open PySem PySem.Spec PyProof.Rows L2 WM
open C8 (pe_gc pe_c pe_mk pe_mt pe_mt0)
/-- the places of a lot that a cut names -/
def cutP (lot : List Place) (names : List Str) : List Place := lot.filter fun p => decide (p.nm ∈ names)
structure CutOk (hs : List Hand) (lot : List Place) (many : Int) (names : List Str) : Prop where
  szL : lot.length ≤ 1000
  szH : hs.length ≤ 1000
  list : (cutP lot names).map Place.nm = names
  ok : ∀ x, x ∈ names → PyData.strOk x = true
  sum : ((cutP lot names).map Place.many).sum - (((hs.filter fun h => (cutP lot names).any fun p => lfitF h p).length : Nat) : Int) = many
theorem eqv_strs : ∀ (xs : List Str), PyData.eqvAll (xs.map .str) (xs.map .str) = true
  | [] => by simp [PyData.eqvAll]
  | x :: xs => by
    simp only [List.map_cons, PyData.eqvAll, PyData.eqv, eqv_strs xs]
    simp
theorem lstrs_shaped {l : List Str} (h : ∀ x, x ∈ l → PyData.strOk x = true) : SeqAt.shaped (.list (l.map .str)) = true := by
  simp [SeqAt.shaped, PyData.canLay0, PyData.depth, strs_lay h, strs_dep]
theorem lstrs_eqv (l : List Str) : PyData.eqv (.list (l.map .str)) (.list (l.map .str)) = true := by
  simp only [PyData.eqv, eqv_strs]
theorem dp_strs {K : PySem.W.Frag} {H : Hp} {a : Addr} {l : List Str} (h : SqL K H a (l.map V.str)) : Dp K H (.ref a) (.list (l.map .str)) := .lst h (DtAll.dp DtAll.strs)
theorem cutP_take {lot : List Place} {names : List Str} {j : Nat} {p : Place} (h : lot[j]? = some p) : cutP (lot.take (j + 1)) names = cutP (lot.take j) names ++ (if p.nm ∈ names then [p] else []) := by
  unfold cutP
  rw [List.take_add_one, h, List.filter_append]
  congr 1
  show [p].filter _ = _
  rw [List.filter_cons]
  by_cases e : p.nm ∈ names
  · rw [if_pos (decide_eq_true e), if_pos e]; rfl
  · rw [if_neg (by simpa using e), if_neg e]; rfl
theorem cutP_len (lot : List Place) (names : List Str) : (cutP lot names).length ≤ lot.length := List.length_filter_le _ _
section
variable {P : Program} {w : World} {K : PySem.W.Frag} {mg : Str → Option Value} {base : Heap} {CM CH CV aL : Addr}
def spCutR (K : PySem.W.Frag) : Sp := fun vs H Q _ => ∃ (u v : V) (r : Addr) (hs : List Hand) (lot : List Place) (many : Int) (names : List Str), vs = [u, v, .int many, .ref r] ∧ Dt K H u (.tuple (hs.map encH)) ∧ Dt K H v (.tuple (lot.map encP)) ∧ SqT K H r (names.map V.str) ∧ CutOk hs lot many names ∧
  ∀ H', Same H H' → Q (.bl true) H'
theorem sc_law_cut_right : FnScope ["_law_hands", "_law_lot_here", "_law_many", "_law_cut", "_law_place", "_law_some", "_law_fit", "_law_one"] ["_law_hands", "_law_lot_here", "_law_many", "_law_cut"] (defScope s_law_cut_right) := ⟨rfl, rfl, rfl, by decide +kernel, rfl, by decide +kernel, by decide +kernel⟩
theorem c_law_cut_right (T : Txt K mg CM CH CV aL) : Cal P w K mg base 2 "_law_cut_right" (spCutR K) := by
  have c_law_is_fit := c_law_is_fit (P := P) (w := w) (base := base) T
  refine cal_of T.d_law_cut_right (fun _ _ _ _ _ _ us hl => match us, hl with | [_, _, _, _], _ => rfl) sc_law_cut_right (fun vs H Q E h => ?_) (fun f cdv A outer s H vs Q E hr h => ?_)
  · obtain ⟨_, _, _, _, _, _, _, rfl, _⟩ := h; rfl
  · obtain ⟨u, v, r, hs, lot, many, names, rfl, du, dv, sr, G, k⟩ := h
    obtain ⟨ua, us, rfl, u1, u2⟩ := id du.tup_inv
    obtain ⟨va, ps, rfl, v1, v2⟩ := id dv.tup_inv
    have lps : ps.length = lot.length := by have := v2.length; rwa [List.length_map] at this
    have lus : us.length = hs.length := by have := u2.length; rwa [List.length_map] at this
    have szH := G.szH
    have szL := G.szL
    refine ⟨_, (pss_cons (ps_if (PW.pt (pw_or (pt_not (pt_val (pe_callB (call_isiK K) (by rfl) T.b_isinstance (by decide +kernel) (pa_cons (pv 3) (pa_cons (pe_bltn (v := .ty "tuple") rfl T.b_tuple PyProof.Rows.boot_tuple rfl) pa_nil))))) (pw_or1 (pt_cmpR (op_neDK K hr.units) (pe_callTy (call_list_ofK K) (by rfl) T.b_list (by decide +kernel) (pa_cons (pv 3) pa_nil)) (pe_lc (own := [("_law_place", 4)]) rfl sc_law_cut_right.nd (pi_tupK K (pv 1)) (blkOk_by (own := [("_law_place", 4)]) (N := ["_law_hands", "_law_lot_here", "_law_many", "_law_cut", "_law_place", "_law_some", "_law_fit", "_law_one"]) (sc := defScope s_law_cut_right) (by decide +kernel)) (fun _ _ _ _ _ => (pg_name (i := 4) sc_law_cut_right.nd rfl (Or.inl rfl))) (fun _ _ _ _ _ => (pts_one (pt_cmpR (op_in_seqK K) (pe_ix (ix_tupK K) (pv 4) pe_int (fun _ _ => rfl)) (pv 3) rfl))) (fun _ _ _ _ _ => (pe_ix (ix_tupK K) (pv 4) pe_int (fun _ _ => rfl)))) (nomark _))))) (pss_one (ps_ret pe_bl)) pss_nil)
    (pss_cons (ps_set (i := 5) sc_law_cut_right.nd rfl (Or.inr rfl) (pe_lc (own := [("_law_place", 4)]) rfl sc_law_cut_right.nd (pi_tupK K (pv 1)) (blkOk_by (own := [("_law_place", 4)]) (N := ["_law_hands", "_law_lot_here", "_law_many", "_law_cut", "_law_place", "_law_some", "_law_fit", "_law_one"]) (sc := defScope s_law_cut_right) (by decide +kernel)) (fun _ _ _ _ _ => (pg_name (i := 4) sc_law_cut_right.nd rfl (Or.inl rfl))) (fun _ _ _ _ _ => (pts_one (pt_cmpR (op_in_seqK K) (pe_ix (ix_tupK K) (pv 4) pe_int (fun _ _ => rfl)) (pv 3) rfl))) (fun _ _ _ _ _ => (pv 4))))
    (pss_cons (ps_setLc (i := 6) (own := [("_law_one", 7)]) rfl sc_law_cut_right.nd rfl rfl (sw_true rfl rfl rfl (by decide +kernel)) (pi_tupK K (pv 0)) (blkOk_by (own := [("_law_one", 7)]) (N := ["_law_hands", "_law_lot_here", "_law_many", "_law_cut", "_law_place", "_law_some", "_law_fit", "_law_one"]) (sc := defScope s_law_cut_right) (by decide +kernel)) (fun _ _ _ _ _ => (pg_name (i := 7) sc_law_cut_right.nd rfl (Or.inr rfl))) (fun _ _ _ _ _ => (pts_one (pt_val (pe_callB (cr_anyK K rfl) (by rfl) T.b_any (by decide +kernel) (pa_cons (pe_lc (own := [("_law_place", 4)]) rfl sc_law_cut_right.nd (pi_listK K (pv 5)) (blkOk_by (own := [("_law_place", 4)]) (N := ["_law_hands", "_law_lot_here", "_law_many", "_law_cut", "_law_place", "_law_some", "_law_fit", "_law_one"]) (sc := ⟨.function, [(".0", .local), ("_law_one", .cell), ("any", .globalImplicit), ("_law_some", .cell)], false, false, []⟩) (by decide +kernel)) (fun _ _ _ _ _ => (pg_name (i := 4) sc_law_cut_right.nd rfl (Or.inl rfl))) (fun _ _ _ _ _ => pts_nil) (fun _ _ _ _ _ => (pe_c c_law_is_fit hr (by decide) rfl (pa_cons (pv 7) (pa_cons (pv 4) pa_nil))))) pa_nil))))) (fun _ _ _ _ _ => (pv 7)))
    (pss_one (ps_ret (pe_cmpR op_eq (pe_op op_sub (pe_callB (cr_sumK K rfl) (by rfl) T.b_sum (by decide +kernel) (pa_cons (pe_lc (own := [("_law_place", 4)]) rfl sc_law_cut_right.nd (pi_listK K (pv 5)) (blkOk_by (own := [("_law_place", 4)]) (N := ["_law_hands", "_law_lot_here", "_law_many", "_law_cut", "_law_place", "_law_some", "_law_fit", "_law_one"]) (sc := defScope s_law_cut_right) (by decide +kernel)) (fun _ _ _ _ _ => (pg_name (i := 4) sc_law_cut_right.nd rfl (Or.inl rfl))) (fun _ _ _ _ _ => pts_nil) (fun _ _ _ _ _ => (pe_ix (ix_tupK K) (pv 4) pe_int (fun _ _ => rfl)))) pa_nil)) (pe_callB (call_len_seqK K) (by rfl) T.b_len PySem.boot_len (pa_cons (pv 6) pa_nil))) (pv 2) (nomark _))))))), ?_⟩
    refine ⟨_, rfl, _, _, _, _, true, rfl, ClsV.ty _, tyx_sqt sr, kit_ty (by decide +kernel), _, rfl, ?_⟩
    refine iteF ⟨_, rfl, r, _, rfl, .inr sr, fun l hl => newG hl fun H1 S1 e1 => ?_⟩
    refine ⟨_, rfl, va, rfl, ⟨_, S1.tup v1⟩, fun D hD => ?_⟩
    refine lc_run (walk_tup (K := K) (a := va) (xs := ps)) (H0 := H1) (fun j ac _ => ac = ((cutP (lot.take j) names).map Place.nm).map V.str) (Same.refl _) hD (fun _ _ => rfl) (fun H4 S4 => S4.tup (S1.tup v1)) ?_ ?_
    · rintro j x ac H4 H5 hj hD0 S4 e4 rfl ⟨rfl, hx⟩
      obtain ⟨p, hp, dp⟩ := item_inv (a := va) v2 hx
      have S14 := S1.trans S4
      obtain ⟨b, rfl, g1⟩ := place_inv (dp.mono S14.tups)
      have hl := cutP_len (lot.take j) names
      rw [List.length_take] at hl
      refine ⟨rfl, _, rfl, b, _, _, .str p.nm, rfl, rfl, g1, rfl, _, rfl, r, _, rfl, .inr (S14.tup sr), rfl, flat_strs _, _, rfl, ?_⟩
      rw [if_neg Bool.false_ne_true, in_strs]
      by_cases hm : p.nm ∈ names
      · rw [decide_eq_true hm]
        refine iteT ⟨_, rfl, b, _, _, .str p.nm, rfl, rfl, g1, rfl, ?_⟩
        refine lc_next hD0 S4 (Same.refl _) e4 (by rw [List.length_map, List.length_map]; omega) fun H7 S7 e7 k7 => ?_
        rw [cutP_take hp, if_pos hm, List.map_append, List.map_append]
        rfl
      · rw [decide_eq_false hm]
        refine iteF (lc_skip S4 (Same.refl _) e4 ?_)
        rw [cutP_take hp, if_neg hm, List.append_nil]
    rintro ac H2 S2 e2 rfl
    rw [lps, List.take_length, G.list] at e2
    refine ⟨_, _, dp_strs (sql_of (S2 _ _ e1)), dp_strs (sql_of e2), lstrs_shaped G.ok, lstrs_shaped G.ok, _, rfl, ?_⟩
    rw [lstrs_eqv]
    refine iteF ?_
    have S02 := S1.trans S2
    refine ⟨_, rfl, va, rfl, ⟨_, S02.tup v1⟩, fun D2 hD2 => ?_⟩
    refine lc_run (walk_tup (K := K) (a := va) (xs := ps)) (H0 := H2) (fun j ac _ => DtAll K H2 ac ((cutP (lot.take j) names).map encP)) (Same.refl _) hD2 (fun _ _ => .nil) (fun H4 S4 => S4.tup (S02.tup v1)) ?_ ?_
    · rintro j x ac H4 H5 hj hD0 S4 e4 A ⟨rfl, hx⟩
      obtain ⟨p, hp, dp⟩ := item_inv (a := va) v2 hx
      have S14 := S02.trans S4
      have dp2 := dp.mono S02.tups
      obtain ⟨b, rfl, g1⟩ := place_inv (dp.mono S14.tups)
      have hl := cutP_len (lot.take j) names
      rw [List.length_take] at hl
      have hA := A.length
      rw [List.length_map] at hA
      refine ⟨rfl, _, rfl, b, _, _, .str p.nm, rfl, rfl, g1, rfl, _, rfl, r, _, rfl, .inr (S14.tup sr), rfl, flat_strs _, _, rfl, ?_⟩
      rw [if_neg Bool.false_ne_true, in_strs]
      by_cases hm : p.nm ∈ names
      · rw [decide_eq_true hm]
        refine iteT ⟨_, rfl, ?_⟩
        refine lc_next hD0 S4 (Same.refl _) e4 (by omega) fun H7 S7 e7 k7 => ?_
        rw [cutP_take hp, if_pos hm, List.map_append]
        exact A.append (.cons dp2 .nil)
      · rw [decide_eq_false hm]
        refine iteF (lc_skip S4 (Same.refl _) e4 ?_)
        rw [cutP_take hp, if_neg hm, List.append_nil]
        exact A
    rintro sm H3 S3 e3 A
    rw [lps, List.take_length] at A
    have lsm := A.length
    rw [List.length_map] at lsm
    have hcl := cutP_len lot names
    have S03 := S02.trans S3
    have A3 := A.mono S3.tups
    refine ⟨_, rfl, ua, rfl, ⟨_, S03.tup u1⟩, fun D3 hD3 => ?_⟩
    refine lc_run (walk_tup (K := K) (a := ua) (xs := us)) (H0 := H3) (fun j ac _ => ac.length = ((hs.take j).filter fun h => (cutP lot names).any fun p => lfitF h p).length) (Same.refl _) hD3 (fun _ _ => rfl) (fun H4 S4 => S4.tup (S03.tup u1)) ?_ ?_
    · rintro j x ac H4 H5 hj hD0 S4 e4 hac ⟨rfl, hx⟩
      obtain ⟨h, hh, dh⟩ := item_inv (a := ua) u2 hx
      have S04 := S03.trans S4
      refine ⟨rfl, _, rfl, D2, rfl, ⟨_, sql_of (S4 _ _ e3)⟩, fun D4 hD4 => ?_⟩
      refine lc_run (walk_list (K := K) (a := D2) (xs := sm)) (H0 := H5) (fun i ac _ => ac = ((cutP lot names).take i).map fun p => V.bl (lfitF h p)) (Same.refl _) hD4 (fun _ _ => rfl) (fun H6 S6 => sql_of (S6 _ _ (S4 _ _ e3))) ?_ ?_
      · rintro i y ac2 H6 H7 hi hD6 S6 e6 rfl ⟨rfl, hy⟩
        obtain ⟨p, hp, dp⟩ := item_inv (a := D2) A3 hy
        have T6 := (S4.trans S6).tups
        refine ⟨rfl, g_yes (iteT ?_)⟩
        refine ⟨_, rfl, _, rfl, _, _, h, p, rfl, dh.mono (S04.trans S6).tups, dp.mono T6, ?_⟩
        refine lc_next hD6 S6 (Same.refl _) e6 (by rw [List.length_map, List.length_take]; omega) fun H8 S8 e8 k8 => ?_
        rw [List.take_add_one, hp, List.map_append]
        rfl
      · rintro ac2 H6 S6 e6 rfl
        rw [lsm, List.take_length] at e6
        have eb : ((cutP lot names).map fun p => V.bl (lfitF h p)) = ((cutP lot names).map fun p => lfitF h p).map V.bl := by rw [List.map_map]; rfl
        rw [eb] at e6
        refine ⟨D4, _, rfl, sql_of e6, _, rfl, ?_⟩
        have eany : ((cutP lot names).map fun p => lfitF h p).any id = (cutP lot names).any fun p => lfitF h p := by rw [List.any_map]; rfl
        rw [eany]
        have hlen : ((hs.take j).filter fun h => (cutP lot names).any fun p => lfitF h p).length ≤ hs.length := by
          have := List.length_filter_le (fun h => (cutP lot names).any fun p => lfitF h p) (hs.take j)
          rw [List.length_take] at this
          omega
        have hnx : ((hs.take (j + 1)).filter fun h => (cutP lot names).any fun p => lfitF h p).length = ((hs.take j).filter fun h => (cutP lot names).any fun p => lfitF h p).length + (if ((cutP lot names).any fun p => lfitF h p) = true then 1 else 0) := by
          rw [List.take_add_one, hh, List.filter_append, List.length_append]
          congr 1
          show ([h].filter _).length = _
          rw [List.filter_cons]
          split <;> rfl
        cases ha : (cutP lot names).any fun p => lfitF h p with
        | true =>
          rw [ha] at hnx
          refine iteT ⟨_, rfl, ?_⟩
          refine lc_next hD0 S4 S6 e4 (by rw [hac]; omega) fun H8 S8 e8 k8 => ?_
          rw [List.length_append, hac, hnx]
          rfl
        | false =>
          rw [ha] at hnx
          refine iteF (lc_skip S4 S6 e4 ?_)
          rw [hac, hnx]
          rfl
    rintro fl H4 S4 e4 hfl
    rw [lus, List.take_length] at hfl
    have e34 := S4 _ _ e3
    have S04 := S03.trans S4
    refine ⟨_, rfl, D2, rfl, ⟨_, sql_of e34⟩, fun D5 hD5 => ?_⟩
    refine lc_run (walk_list (K := K) (a := D2) (xs := sm)) (H0 := H4) (fun i ac _ => ac = (((cutP lot names).take i).map Place.many).map V.int) (Same.refl _) hD5 (fun _ _ => rfl) (fun H6 S6 => sql_of (S6 _ _ e34)) ?_ ?_
    · rintro i y ac2 H6 H7 hi hD6 S6 e6 rfl ⟨rfl, hy⟩
      obtain ⟨p, hp, dp⟩ := item_inv (a := D2) A3 hy
      obtain ⟨b, rfl, g1⟩ := place_inv (dp.mono (S4.trans S6).tups)
      refine ⟨rfl, g_yes (iteT ?_)⟩
      refine ⟨_, rfl, b, _, _, .int p.many, rfl, rfl, g1, rfl, ?_⟩
      refine lc_next hD6 S6 (Same.refl _) e6 (by rw [List.length_map, List.length_map, List.length_take]; omega) fun H8 S8 e8 k8 => ?_
      rw [List.take_add_one, hp, List.map_append, List.map_append]
      rfl
    · rintro ac2 H6 S6 e6 rfl
      rw [lsm, List.take_length] at e6
      refine ⟨D5, _, rfl, sql_of e6, _, rfl, D3, _, rfl, .inl (sql_of (S6 _ _ e4)), _, _, rfl, rfl, _, rfl, rfl, ?_⟩
      rw [hfl]
      show Q (.bl (decide (V.int (_ - _) = V.int many))) H6
      rw [G.sum, decide_eq_true rfl]
      exact k H6 (S04.trans S6)
/-- where a hand is, as the law tells it -/
def dueF (n : Str) (sick : List Str) (there stay : List (Str × Str)) : Wh := match valA stay n with
  | some p => .at_ p
  | none => match valA there n with
    | some p => .at_ p
    | none => if n ∈ sick then .sick else .below
def dueRows (roll : List Hand) (sick : List Str) (there stay : List (Str × Str)) : List (Str × Wh) := roll.map fun h => (h.nm, dueF h.nm sick there stay)
def spDue (K : PySem.W.Frag) : Sp := fun vs H Q _ => ∃ (u v : V) (d1 d2 : Addr) (roll : List Hand) (sick : List Str) (kv1 kv2 : List (Key × V)) (there stay : List (Str × Str)), vs = [u, v, .ref d1, .ref d2] ∧ Dt K H u (.tuple (roll.map encH)) ∧ Dt K H v (.tuple (sick.map .str)) ∧ H d1 = some (.dK kv1) ∧ DR RS kv1 there ∧ H d2 = some (.dK kv2) ∧ DR RS kv2 stay ∧ roll.length ≤ 1000 ∧
  ∀ H' q, Same H H' → Dt K H' (.ref q) (.tuple ((dueRows roll sick there stay).map encRow)) → Q (.ref q) H'
theorem g_where {tA : TT} {n : Str} {sick : List Str} {σ : L2.St} {H : Hp} {Q : VK} (hA : ∀ R : Bool → Hp → Prop, R (decide (n ∈ sick)) H → tA σ H R) (k : ∀ (q : Addr) H6, Same H H6 → Dt K H6 (.ref q) (encW (if n ∈ sick then .sick else .below)) → Q (.ref q) H6) :
    tIf tA (tTup (tCons (tC (.str "sick")) tNil)) (tTup (tCons (tC (.str "below")) tNil)) σ H Q := by
  refine hA _ ?_
  by_cases e : n ∈ sick
  · rw [if_pos e] at k
    rw [if_pos (decide_eq_true e)]
    exact ⟨by show 1 ≤ sizeLine; decide, fun q hq => newG hq fun H1 S1 e1 => k q H1 S1 (.tup (sqt_of e1) (.cons (.str _) .nil))⟩
  · rw [if_neg e] at k
    rw [if_neg (by simpa using e)]
    exact ⟨by show 1 ≤ sizeLine; decide, fun q hq => newG hq fun H1 S1 e1 => k q H1 S1 (.tup (sqt_of e1) (.cons (.str _) .nil))⟩
theorem sc_law_row_due : FnScope ["_law_roll_here", "_law_sick", "_law_there", "_law_stay", "_law_found", "_law_one", "_law_where"] ["_law_roll_here", "_law_sick", "_law_there", "_law_stay"] (defScope s_law_row_due) := ⟨rfl, rfl, rfl, by decide +kernel, rfl, by decide +kernel, by decide +kernel⟩
theorem c_law_row_due (T : Txt K mg CM CH CV aL) : Cal P w K mg base 1 "_law_row_due" (spDue K) := by
  refine cal_of T.d_law_row_due (fun _ _ _ _ _ _ us hl => match us, hl with | [_, _, _, _], _ => rfl) sc_law_row_due (fun vs H Q E h => ?_) (fun f cdv A outer s H vs Q E hr h => ?_)
  · obtain ⟨_, _, _, _, _, _, _, _, _, _, rfl, _⟩ := h; rfl
  · obtain ⟨u, v, d1, d2, roll, sick, kv1, kv2, there, stay, rfl, du, dv, e1, R1, e2, R2, sz, k⟩ := h
    obtain ⟨ua, us, rfl, u1, u2⟩ := id du.tup_inv
    obtain ⟨va, vs, rfl, v1, v2⟩ := id dv.tup_inv
    have evs := v2.strs_inv
    subst evs
    have lus : us.length = roll.length := by have := u2.length; rwa [List.length_map] at this
    refine ⟨_, (pss_cons (ps_set (i := 4) sc_law_row_due.nd rfl (Or.inl rfl) (pe_lst pa_nil))
    (pss_cons (ps_for PassesOwn.never rfl (pi_tupK K (pv 0)) (pg_name (i := 5) sc_law_row_due.nd rfl (Or.inl rfl)) (pss_cons (ps_set (i := 6) sc_law_row_due.nd rfl (Or.inl rfl) (pe_ifExp (pt_cmpR (op_in_seqK K) (pe_ix (ix_tupK K) (pv 5) pe_int (fun _ _ => rfl)) (pv 1) rfl) (pe_tup (pa_cons pe_str pa_nil)) (pe_tup (pa_cons pe_str pa_nil))))
    (pss_cons (ps_if (pt_cmp (pc_din (hu_of hr) (pe_ix (ix_tupK K) (pv 5) pe_int (fun _ _ => rfl)) (pv 2)) rfl) (pss_one (ps_set (i := 6) sc_law_row_due.nd rfl (Or.inl rfl) (pe_tup (pa_cons pe_str (pa_cons (pe_dget (hu_of hr) (pv 2) (pe_ix (ix_tupK K) (pv 5) pe_int (fun _ _ => rfl)) (fun _ _ => rfl)) pa_nil))))) pss_nil)
    (pss_cons (ps_if (pt_cmp (pc_din (hu_of hr) (pe_ix (ix_tupK K) (pv 5) pe_int (fun _ _ => rfl)) (pv 3)) rfl) (pss_one (ps_set (i := 6) sc_law_row_due.nd rfl (Or.inl rfl) (pe_tup (pa_cons pe_str (pa_cons (pe_dget (hu_of hr) (pv 3) (pe_ix (ix_tupK K) (pv 5) pe_int (fun _ _ => rfl)) (fun _ _ => rfl)) pa_nil))))) pss_nil)
    (pss_one (ps_expr (pe_bmK K PySem.F.plainAttrs_list PySem.F.slot_list_append PySem.F.type_list_append mt_append (pv 4) (pa_cons (pe_tup (pa_cons (pe_ix (ix_tupK K) (pv 5) pe_int (fun _ _ => rfl)) (pa_cons (pv 6) pa_nil))) pa_nil))))))))
    (pss_one (ps_ret (pe_callTy (call_tuple_ofK K) (by rfl) T.b_tuple (by decide +kernel) (pa_cons (pv 4) pa_nil)))))), ?_⟩
    refine ⟨by show 0 ≤ sizeLine; decide, fun f hf => newG hf fun H1 S1 f1 => ?_⟩
    refine ⟨_, rfl, ua, rfl, ⟨_, S1.tup u1⟩, ?_⟩
    refine for_it (walk_tup (K := K) (a := ua) (xs := us)) (fun i σ H2 => ∃ (z5 z6 : Option V) (ws : List V), σ = [some (.ref ua), some (.ref va), some (.ref d1), some (.ref d2), some (.ref f), z5, z6] ∧ Same H H2 ∧ H2 f = some (.lst ws) ∧ DtAll K H2 ws ((dueRows (roll.take i) sick there stay).map encRow)) ⟨_, _, [], rfl, S1, f1, .nil⟩ (fun i σ H4 _ ⟨_, _, _, _, S4, _⟩ => S4.tup u1) ?_ ?_
    · rintro i x σ H2 H3 hi ⟨z5, z6, ws, rfl, S2, f2, A2⟩ ⟨rfl, hx⟩
      obtain ⟨h, hh, dh⟩ := item_inv (a := ua) u2 hx
      have dh3 := dh.mono S2.tups
      obtain ⟨ha, sa, rfl, h1, h2⟩ := hand_inv dh3
      have lws := A2.length
      rw [List.length_map] at lws
      unfold dueRows at lws
      rw [List.length_map, List.length_take] at lws
      refine g_seq (g_asg (g_where (K := K) (n := h.nm) (sick := sick) (fun R hR => ?_) fun q6 H6 S6 w6 => ?_))
      · refine ⟨_, rfl, ha, _, _, .str h.nm, rfl, rfl, h1, rfl, _, rfl, va, _, rfl, .inr (S2.tup v1), rfl, flat_strs _, _, rfl, ?_⟩
        rw [if_neg Bool.false_ne_true, in_strs]
        exact hR
      · have fin : ∀ (H7 : Hp) (wv : V), Same H6 H7 → Dt K H7 wv (encW (dueF h.nm sick there stay)) → ∀ (H8 : Hp) (r : Addr), Same H7 H8 → H8 r = some (.tup [.str h.nm, wv]) → Same H (upd H8 f (.lst (ws ++ [.ref r]))) ∧ upd H8 f (.lst (ws ++ [.ref r])) f = some (.lst (ws ++ [.ref r])) ∧ DtAll K (upd H8 f (.lst (ws ++ [.ref r]))) (ws ++ [.ref r]) ((dueRows (roll.take (i + 1)) sick there stay).map encRow) := fun H7 wv S7 D7 H8 r S8 e8 => by
          have f8 := S8 _ _ (S7 _ _ (S6 _ _ f2))
          have t8 : Tups H8 (upd H8 f (.lst (ws ++ [.ref r]))) := Tups.upd (not_tup_lst f8)
          refine ⟨(((S2.trans S6).trans S7).trans S8).mut hf, upd_same, ?_⟩
          unfold dueRows
          rw [List.take_add_one, hh, List.map_append, List.map_append]
          refine (A2.mono ((S6.trans S7).trans S8).tups |>.mono t8).append (.cons ?_ .nil)
          exact .tup (t8.sq (sqt_of e8)) (.cons (.str _) (.cons ((D7.mono S8.tups).mono t8) .nil))
        have e16 := S6 _ _ (S2 _ _ e1)
        have h16 := S6.tup h1
        refine ⟨_, rfl, ha, _, _, .str h.nm, rfl, rfl, h16, rfl, _, rfl, d1, _, rfl, DGet.k (k := .inr h.nm) e16, _, rfl, ?_⟩
        rcases R1.val (n := h.nm) with ⟨a1, a2⟩ | ⟨y1, x1, a1, a2, hr1⟩
        · rw [a2]
          refine iteF ?_
          have e26 := S6 _ _ (S2 _ _ e2)
          refine ⟨_, rfl, ha, _, _, .str h.nm, rfl, rfl, h16, rfl, _, rfl, d2, _, rfl, DGet.k (k := .inr h.nm) e26, _, rfl, ?_⟩
          rcases R2.val (n := h.nm) with ⟨b1, b2⟩ | ⟨y2, x2, b1, b2, hr2⟩
          · rw [b2]
            refine iteF ?_
            have hd : dueF h.nm sick there stay = if h.nm ∈ sick then .sick else .below := by unfold dueF; rw [b1, a1]
            rw [← hd] at w6
            refine ⟨_, rfl, .inl ⟨rfl, _, sql_of (S6 _ _ f2)⟩, _, rfl, ha, _, _, .str h.nm, rfl, rfl, h16, rfl, _, rfl, by show 2 ≤ sizeLine; decide, fun r hr => newG hr fun H8 S8 e8 => ?_⟩
            obtain ⟨g1, g2, g3⟩ := fin H6 _ (Same.refl _) w6 H8 r S8 e8
            exact ⟨f, _, _, rfl, rfl, S8 _ _ (S6 _ _ f2), sz100 (by omega), _, _, _, rfl, g1, g2, g3⟩
          · rw [b2]
            subst hr2
            refine iteT ⟨_, rfl, _, rfl, ha, _, _, .str h.nm, rfl, rfl, h16, rfl, d2, .str y2, rfl, by rw [← b2]; exact DGet.k (k := .inr h.nm) e26, by show 2 ≤ sizeLine; decide, fun q7 hq7 => newG hq7 fun H7 S7 e7 => ?_⟩
            have hd : dueF h.nm sick there stay = .at_ y2 := by unfold dueF; rw [b1]
            have w7 : Dt K H7 (.ref q7) (encW (dueF h.nm sick there stay)) := by rw [hd]; exact .tup (sqt_of e7) (.cons (.str _) (.cons (.str _) .nil))
            refine ⟨_, rfl, .inl ⟨rfl, _, sql_of (S7 _ _ (S6 _ _ f2))⟩, _, rfl, ha, _, _, .str h.nm, rfl, rfl, S7.tup h16, rfl, _, rfl, by show 2 ≤ sizeLine; decide, fun r hr => newG hr fun H8 S8 e8 => ?_⟩
            obtain ⟨g1, g2, g3⟩ := fin H7 _ S7 w7 H8 r S8 e8
            exact ⟨f, _, _, rfl, rfl, S8 _ _ (S7 _ _ (S6 _ _ f2)), sz100 (by omega), _, _, _, rfl, g1, g2, g3⟩
        · rw [a2]
          subst hr1
          refine iteT ⟨_, rfl, _, rfl, ha, _, _, .str h.nm, rfl, rfl, h16, rfl, d1, .str y1, rfl, by rw [← a2]; exact DGet.k (k := .inr h.nm) e16, by show 2 ≤ sizeLine; decide, fun q9 hq9 => newG hq9 fun H9 S9 e9 => ?_⟩
          have e29 := S9 _ _ (S6 _ _ (S2 _ _ e2))
          have h19 := S9.tup h16
          refine ⟨_, rfl, ha, _, _, .str h.nm, rfl, rfl, h19, rfl, _, rfl, d2, _, rfl, DGet.k (k := .inr h.nm) e29, _, rfl, ?_⟩
          rcases R2.val (n := h.nm) with ⟨b1, b2⟩ | ⟨y2, x2, b1, b2, hr2⟩
          · rw [b2]
            refine iteF ?_
            have hd : dueF h.nm sick there stay = .at_ y1 := by unfold dueF; rw [b1, a1]
            have w7 : Dt K H9 (.ref q9) (encW (dueF h.nm sick there stay)) := by rw [hd]; exact .tup (sqt_of e9) (.cons (.str _) (.cons (.str _) .nil))
            refine ⟨_, rfl, .inl ⟨rfl, _, sql_of (S9 _ _ (S6 _ _ f2))⟩, _, rfl, ha, _, _, .str h.nm, rfl, rfl, h19, rfl, _, rfl, by show 2 ≤ sizeLine; decide, fun r hr => newG hr fun H8 S8 e8 => ?_⟩
            obtain ⟨g1, g2, g3⟩ := fin H9 _ S9 w7 H8 r S8 e8
            exact ⟨f, _, _, rfl, rfl, S8 _ _ (S9 _ _ (S6 _ _ f2)), sz100 (by omega), _, _, _, rfl, g1, g2, g3⟩
          · rw [b2]
            subst hr2
            refine iteT ⟨_, rfl, _, rfl, ha, _, _, .str h.nm, rfl, rfl, h19, rfl, d2, .str y2, rfl, by rw [← b2]; exact DGet.k (k := .inr h.nm) e29, by show 2 ≤ sizeLine; decide, fun q7 hq7 => newG hq7 fun H7 S7 e7 => ?_⟩
            have hd : dueF h.nm sick there stay = .at_ y2 := by unfold dueF; rw [b1]
            have w7 : Dt K H7 (.ref q7) (encW (dueF h.nm sick there stay)) := by rw [hd]; exact .tup (sqt_of e7) (.cons (.str _) (.cons (.str _) .nil))
            refine ⟨_, rfl, .inl ⟨rfl, _, sql_of (S7 _ _ (S9 _ _ (S6 _ _ f2)))⟩, _, rfl, ha, _, _, .str h.nm, rfl, rfl, S7.tup h19, rfl, _, rfl, by show 2 ≤ sizeLine; decide, fun r hr => newG hr fun H8 S8 e8 => ?_⟩
            obtain ⟨g1, g2, g3⟩ := fin H7 _ (S9.trans S7) w7 H8 r S8 e8
            exact ⟨f, _, _, rfl, rfl, S8 _ _ (S7 _ _ (S9 _ _ (S6 _ _ f2))), sz100 (by omega), _, _, _, rfl, g1, g2, g3⟩
    · rintro σ H2 ⟨z5, z6, ws, rfl, S2, f2, A2⟩
      rw [lus, List.take_length] at A2
      refine ⟨_, rfl, f, _, rfl, .inl ⟨sql_of f2, fun l hl => newG hl fun H4 S4 e4 => ?_⟩⟩
      exact k H4 l (S2.trans S4) (.tup (sqt_of e4) (A2.mono S4.tups))
end
end WS
/-! What man and lacking tell answers as the law asks: posts, paper, cut. -/
namespace WS
open PySem PySem.Spec PyProof.Rows L2 WM
structure LotN (lot : List Place) : Prop where
  nd : (lot.map Place.nm).Nodup
  st : ∀ p, p ∈ lot → 0 ≤ p.steps
  mn : ∀ p, p ∈ lot → 0 ≤ p.many ∧ p.many ≤ 1000
  nm : ∀ p, p ∈ lot → PyData.strOk p.nm = true
  sz : lot.length < 25
theorem nd_at {lot : List Place} (nd : (lot.map Place.nm).Nodup) {i j : Nat} {p q : Place} (hi : lot[i]? = some p) (hj : lot[j]? = some q) (e : p.nm = q.nm) : i = j := by
  have h1 : (lot.map Place.nm)[i]? = some p.nm := map_at hi
  have h2 : (lot.map Place.nm)[j]? = some p.nm := by rw [map_at hj, e]
  have hl : i < (lot.map Place.nm).length := (List.getElem?_eq_some_iff.mp h1).1
  exact (List.getElem?_inj hl nd).mp (by rw [h1, h2])
theorem mergeA_app {α : Type} : ∀ {more l : List (Str × α)}, (keysA more).Nodup → (∀ k, k ∈ keysA more → k ∉ keysA l) → mergeA l more = l ++ more
  | [], l, _, _ => by simp [mergeA]
  | p :: more, l, nd, dj => by
    have nd : (p.1 :: keysA more).Nodup := nd
    rw [List.nodup_cons] at nd
    have hp : putA l p.1 p.2 = l ++ [p] := by
      unfold putA
      have : (l.any fun q => decide (q.1 = p.1)) = false := by
        rw [List.any_eq_false]
        intro q hq
        simp only [decide_eq_true_eq]
        intro e
        exact dj p.1 (by simp [keysA]) (by rw [← e]; exact List.mem_map.mpr ⟨q, hq, rfl⟩)
      rw [this, if_neg (by decide)]
    show mergeA (putA l p.1 p.2) more = _
    rw [hp, mergeA_app nd.2 fun k hk => ?_]
    · simp
    · intro z
      unfold keysA at z
      rw [List.map_append, List.mem_append] at z
      rcases z with z | z
      · exact dj k (by simp only [keysA, List.map_cons, List.mem_cons]; exact .inr hk) z
      · have : k = p.1 := by simpa using z
        exact nd.1 (this ▸ hk)
theorem valA_cons {α : Type} {k n : Str} {a : α} {l : List (Str × α)} : valA ((k, a) :: l) n = if k = n then some a else valA l n := by
  unfold valA
  rw [List.find?_cons]
  by_cases e : k = n
  · rw [if_pos e, decide_eq_true e]; rfl
  · rw [if_neg e, decide_eq_false e]
theorem valA_nd {α : Type} : ∀ {l : List (Str × α)} {n : Str} {a : α}, (keysA l).Nodup → (n, a) ∈ l → valA l n = some a
  | [], _, _, _, h => by simp at h
  | (k, b) :: l, n, a, nd, h => by
    have nd : (k :: keysA l).Nodup := nd
    rw [List.nodup_cons] at nd
    rw [valA_cons]
    rcases List.mem_cons.mp h with h | h
    · cases h
      rw [if_pos rfl]
    · by_cases e : k = n
      · subst e
        exact absurd (List.mem_map.mpr ⟨_, h, rfl⟩) nd.1
      · rw [if_neg e]
        exact valA_nd nd.2 h
theorem valA_no {α : Type} {l : List (Str × α)} {n : Str} (h : n ∉ keysA l) : valA l n = none := by
  cases e : valA l n with
  | none => rfl
  | some a => exact absurd (List.mem_map.mpr ⟨_, valA_mem e, rfl⟩) h
theorem valA_app {α : Type} {l m : List (Str × α)} {n : Str} : valA (l ++ m) n = (valA l n).or (valA m n) := by
  unfold valA
  rw [List.find?_append]
  cases List.find? (fun p => decide (p.1 = n)) l <;> rfl
theorem lotD_eq {lot : List Place} (nd : (lot.map Place.nm).Nodup) : lotD lot = lot.map fun p => (p.nm, p) := by
  unfold lotD
  have ek : keysA (lot.map fun p => (p.nm, p)) = lot.map Place.nm := by unfold keysA; rw [List.map_map]; rfl
  rw [mergeA_app (by rw [ek]; exact nd) (fun k _ => by simp [keysA]), List.nil_append]
theorem lotD_at {lot : List Place} (nd : (lot.map Place.nm).Nodup) {p : Place} (hp : p ∈ lot) : valA (lotD lot) p.nm = some p := by
  rw [lotD_eq nd]
  have ek : keysA (lot.map fun p => (p.nm, p)) = lot.map Place.nm := by unfold keysA; rw [List.map_map]; rfl
  exact valA_nd (by rw [ek]; exact nd) (List.mem_map.mpr ⟨p, hp, rfl⟩)
section
variable {hs : List Hand} {lot : List Place} {st posts : List (Option Str)} {U V : List Int}
/-- where a hand is put -/
theorem man_put {s : Nat → Option Nat} {n : Nat → Int} (S : Sit (probOf hs lot st) s n) {i k : Nat} (hi : i < hs.length) (e : s i = some k) : ∃ h p t, hs[i]? = some h ∧ lot[k]? = some p ∧ st[i]? = some t ∧ fitF h p = true ∧ cD (probOf hs lot st) i k = costF h p t := by
  obtain ⟨h1, h2⟩ := S.ok i hi k e
  obtain ⟨c, hc⟩ := Option.isSome_iff_exists.mp h2
  obtain ⟨a, b, t, e1, e2, e3, hf, rfl⟩ := prob_cost hc
  exact ⟨a, b, t, e1, e2, e3, hf, cD_of hc⟩
theorem post_at {s : Nat → Option Nat} {n : Nat → Int} (S : Sit (probOf hs lot st) s n) {i : Nat} (hi : i < hs.length) {x : Str} : postN lot s i = some x ↔ ∃ k p, s i = some k ∧ lot[k]? = some p ∧ p.nm = x := by
  unfold postN
  cases e : s i with
  | none => simp
  | some k =>
    obtain ⟨_, p, _, _, hp, _⟩ := man_put S hi e
    simp [hp]
theorem cnt_ls {f : Nat → Option Str} {x : Str} : ∀ n : Nat, (((ls n f).count (some x) : Nat) : Int) = sumR n fun i => ind (f i = some x)
  | 0 => rfl
  | n + 1 => by
    rw [ls_succ, List.count_append, List.count_singleton]
    simp only [sumR]
    rw [← cnt_ls n]
    by_cases e : f n = some x
    · rw [ind_t e]; simp [e]
    · rw [ind_f e]; simp [e]
theorem cnt_post {s : Nat → Option Nat} {n : Nat → Int} (S : Sit (probOf hs lot st) s n) (nd : (lot.map Place.nm).Nodup) {k : Nat} {p : Place} (hp : lot[k]? = some p) : (((ls hs.length (postN lot s)).count (some p.nm) : Nat) : Int) = n k := by
  have hk : k < lot.length := (List.getElem?_eq_some_iff.mp hp).1
  rw [cnt_ls, S.cnt k hk]
  refine sumR_congr fun i hi => ?_
  by_cases e : s i = some k
  · rw [ind_t e, ind_t ((post_at S hi).mpr ⟨k, p, e, hp, rfl⟩)]
  · rw [ind_f e, ind_f fun z => ?_]
    obtain ⟨j, q, e1, e2, e3⟩ := (post_at S hi).mp z
    exact e (by rw [e1, nd_at nd e2 hp e3])
theorem cnt_no {s : Nat → Option Nat} {n : Nat → Int} (S : Sit (probOf hs lot st) s n) {x : Str} (h : x ∉ lot.map Place.nm) : (ls hs.length (postN lot s)).count (some x) = 0 := by
  refine List.count_eq_zero.mpr fun z => ?_
  obtain ⟨i, hi, e⟩ := List.getElem_of_mem z
  rw [ls_len] at hi
  have e2 := ls_get (f := postN lot s) hi
  rw [List.getElem?_eq_getElem (by rw [ls_len]; exact hi), e] at e2
  obtain ⟨k, p, _, hp, rfl⟩ := (post_at S hi).mp (Option.some.inj e2).symm
  exact h (List.mem_map.mpr ⟨p, List.mem_of_getElem? hp, rfl⟩)
theorem want_le (N : LotN lot) {k : Nat} {p : Place} (hp : lot[k]? = some p) : (probOf hs lot st).want k = p.many := by
  show (match lot[k]? with | some b => b.many | none => 0) = _
  rw [hp]
theorem bty_at {k : Nat} {p : Place} (hp : lot[k]? = some p) : (probOf hs lot st).bty k = lackF p.grade := by
  show (match lot[k]? with | some b => lackF b.grade | none => 0) = _
  rw [hp]
theorem posts_ok (R : ManR hs lot st posts U V) (O : MOk hs lot st) (N : LotN lot) : PostsOk hs lot posts := by
  obtain ⟨s, n, x, F, S, Pp, rfl, rfl, rfl, hPot⟩ := R.ex
  refine ⟨ls_len, O.szP, O.szH, fun i h nm hh hp => ?_, fun p hp => ?_⟩
  · have hi : i < hs.length := (List.getElem?_eq_some_iff.mp hh).1
    rw [ls_get hi] at hp
    obtain ⟨k, p, e1, e2, rfl⟩ := (post_at S hi).mp (Option.some.inj hp)
    refine ⟨p, lotD_at N.nd (List.mem_of_getElem? e2), ?_⟩
    obtain ⟨h', p', t, a1, a2, _, a3, _⟩ := man_put S hi e1
    rw [hh] at a1
    rw [e2] at a2
    cases a1
    cases a2
    rw [lfit_eq (N.st p (List.mem_of_getElem? e2))]
    exact a3
  · obtain ⟨k, hk, e⟩ := List.getElem_of_mem hp
    have hk' : lot[k]? = some p := by rw [List.getElem?_eq_getElem hk, e]
    rw [cnt_post S N.nd hk']
    have h1 := S.le k hk
    rw [want_le N hk'] at h1
    have h2 := N.mn p hp
    omega
theorem paper_ok (R : ManR hs lot st posts U V) (O : MOk hs lot st) (N : LotN lot) : PaperOk hs lot st posts U V := by
  have PO := posts_ok R O N
  obtain ⟨s, n, x, F, S, Pp, rfl, rfl, rfl, hPot⟩ := R.ex
  have C := paper_end Pp
  have hw : ∀ p, p < (probOf hs lot st).nP → 0 ≤ (probOf hs lot st).want p := fun k hk => by
    have hk : k < lot.length := hk
    rw [want_le N (List.getElem?_eq_getElem hk)]
    exact (N.mn _ (List.getElem_mem hk)).1
  refine ⟨⟨PO, O.len, fun p hp => ⟨(O.pl p hp).1, (O.pl p hp).2.1⟩, N.mn⟩, ls_len, ls_len, fun k p u hp hu => ?_, fun i k h p t u v hh hp ht hu hv hf => ?_, fun v hv => ?_, ?_⟩
  · have hk : k < lot.length := (List.getElem?_eq_some_iff.mp hp).1
    rw [ls_get hk] at hu
    cases hu
    rw [← bty_at (hs := hs) (st := st) hp]
    exact paper_bty
  · have hk : k < lot.length := (List.getElem?_eq_some_iff.mp hp).1
    have hi : i < hs.length := (List.getElem?_eq_some_iff.mp hh).1
    rw [ls_get hk] at hu
    rw [ls_get hi] at hv
    cases hu
    cases hv
    rw [lfit_eq (N.st p (List.mem_of_getElem? hp))] at hf
    have hc : (probOf hs lot st).cost i k = some (costF h p t) := by
      show (match hs[i]?, lot[k]?, st[i]? with | some a, some b, some s => if fitF a b then some (costF a b s) else none | _, _, _ => none) = _
      rw [hh, hp, ht]
      simp only
      rw [if_pos hf]
    have := paper_arc C (i := i) (p := k) hi hk (by rw [hc]; rfl)
    rwa [cD_of hc] at this
  · obtain ⟨i, hi, e⟩ := List.getElem_of_mem hv
    rw [ls_len] at hi
    have e2 := ls_get (f := priceV x) hi
    rw [List.getElem?_eq_getElem (by rw [ls_len]; exact hi), e] at e2
    cases e2
    exact paper_low
  · have h := paper_sum S hw C
    have a1 : sumR lot.length (fun k => (ls lot.length (priceU (probOf hs lot st) x)).getD k 0 * wantS lot k) = sumR lot.length fun p => priceU (probOf hs lot st) x p * (probOf hs lot st).want p := sumR_congr fun k hk => by
      rw [getD_at (ls_get hk), want_le N (List.getElem?_eq_getElem hk), wantS_at (List.getElem?_eq_getElem hk)]
    have a2 : sumR hs.length (fun i => (ls hs.length (priceV x)).getD i 0) = sumR hs.length (priceV x) := sumR_congr fun i hi => getD_at (ls_get hi)
    have a3 : sumR lot.length (lackI lot (ls hs.length (postN lot s))) = sumR lot.length fun p => ((probOf hs lot st).want p - n p) * (probOf hs lot st).bty p := sumR_congr fun k hk => by
      have hp := List.getElem?_eq_getElem hk
      rw [lackI_at hp, cnt_post S N.nd hp, want_le N hp, bty_at hp]
    have a4 : sumR hs.length (costI hs lot st (ls hs.length (postN lot s))) = sumR hs.length (costAt (probOf hs lot st) s) := sumR_congr fun i hi => by
      obtain ⟨t0, hst⟩ : ∃ t, st[i]? = some t := ⟨_, List.getElem?_eq_getElem (by rw [O.len]; exact hi)⟩
      unfold costI costAt
      rw [List.getElem?_eq_getElem hi, hst, ls_get hi]
      cases e : s i with
      | none =>
        have : postN lot s i = none := by unfold postN; rw [e]
        rw [this]
      | some k =>
        obtain ⟨h, p, t, b1, b2, b3, b4, b5⟩ := man_put S hi e
        have : postN lot s i = some p.nm := (post_at S hi).mpr ⟨k, p, e, b2, rfl⟩
        rw [this]
        simp only
        rw [lotD_at N.nd (List.mem_of_getElem? b2)]
        simp only
        rw [b5]
        rw [List.getElem?_eq_getElem hi] at b1
        rw [hst] at b3
        cases b1
        cases b3
        rfl
    unfold lpriceF
    rw [a1, a2, a3, a4]
    exact h
theorem sum_ls : ∀ (n : Nat) (g : Nat → Int), (ls n g).sum = sumR n g
  | 0, _ => rfl
  | n + 1, g => by rw [ls_succ, List.sum_append, sum_ls n g]; simp [sumR]
theorem sum_map {α : Type} {l : List α} {f : α → Int} {g : Nat → Int} (h : ∀ (k : Nat) p, l[k]? = some p → f p = g k) : (l.map f).sum = sumR l.length g := by
  rw [← sum_ls]
  congr 1
  refine ls_ext (by rw [List.length_map]) fun i x hx => ?_
  rw [List.getElem?_map] at hx
  obtain ⟨p, hp, rfl⟩ := Option.map_eq_some_iff.mp hx
  exact h i p hp
/-- how many lack by the posts: as many as lacking tells -/
theorem lack_ok (R : ManR hs lot st posts U V) (O : MOk hs lot st) (N : LotN lot) {many : Int} {F : List Nat} (C : CutR hs lot many F) : (lot.map fun p => p.many - ((posts.count (some p.nm) : Nat) : Int)).sum = many := by
  obtain ⟨s, n, x, Fl, S, Pp, rfl, rfl, rfl, v, y, hPot⟩ := R.ex
  obtain ⟨Se, Fu, Co, rfl⟩ := C.ex
  have hw : ∀ p, p < (probOf hs lot st).nP → 0 ≤ (probOf hs lot st).want p := fun k hk => by
    have hk : k < lot.length := hk
    rw [want_le N (List.getElem?_eq_getElem hk)]
    exact (N.mn _ (List.getElem_mem hk)).1
  have ew : ∀ k, k < lot.length → (probOf hs lot st).want k = wantS lot k := fun k hk => by
    rw [want_le N (List.getElem?_eq_getElem hk), wantS_at (List.getElem?_eq_getElem hk)]
  have e1 : (lot.map fun p => p.many - (((ls hs.length (postN lot s)).count (some p.nm) : Nat) : Int)).sum = sumR lot.length fun k => wantS lot k - n k := sum_map fun k p hp => by
    rw [cnt_post S N.nd hp, wantS_at hp]
  rw [e1]
  have hwant : (probOf hs lot st).want = wantS lot := by
    funext k
    show (match lot[k]? with | some b => b.many | none => 0) = (match lot[k]? with | some p => p.many | none => 0)
    rfl
  have hfit : ∀ h, h < (probOf hs lot st).nH → ∀ p, p < (probOf hs lot st).nP → (((probOf hs lot st).cost h p).isSome = true ↔ fitS hs lot h p = true) := fun h hh k hk => by
    have hh : h < hs.length := hh
    have hk : k < lot.length := hk
    obtain ⟨t, ht⟩ : ∃ t, st[h]? = some t := ⟨_, List.getElem?_eq_getElem (by rw [O.len]; exact hh)⟩
    have e1 := List.getElem?_eq_getElem hh
    have e2 := List.getElem?_eq_getElem hk
    rw [fitS_at e1 e2]
    show ((match hs[h]?, lot[k]?, st[h]? with | some a, some b, some s => if fitF a b then some (costF a b s) else none | _, _, _ => none) : Option Int).isSome = true ↔ _
    rw [e1, e2, ht]
    simp only
    cases fitF hs[h] lot[k] <;> simp
  have hC : ∀ h k, h < (probOf hs lot st).nH → k < (probOf hs lot st).nP → ((probOf hs lot st).cost h k).isSome → 0 ≤ cD (probOf hs lot st) h k ∧ cD (probOf hs lot st) h k ≤ 107 := fun h k _ _ hc => by
    obtain ⟨c, hc⟩ := Option.isSome_iff_exists.mp hc
    obtain ⟨a, b, s, e1, e2, e3, hf, rfl⟩ := prob_cost hc
    rw [cD_of hc]
    exact cost_bd (O.hd a (List.mem_of_getElem? e1)) (O.pl b (List.mem_of_getElem? e2)).2.2
  have hB : ∀ k, k < (probOf hs lot st).nP → (10000 : Int) ≤ (probOf hs lot st).bty k := fun k hk => by
    have hk : k < lot.length := hk
    have e2 := List.getElem?_eq_getElem hk
    rw [bty_at e2]
    have := O.pl _ (List.getElem_mem hk)
    exact (lack_bd this.1 this.2.1).1
  have hz := N.sz
  have hn : (107 : Int) * ((probOf hs lot st).nP : Nat) + 107 < 10000 := by
    show (107 : Int) * ((lot.length : Nat) : Int) + 107 < 10000
    omega
  have := lack_eq (fit := fitS hs lot) (C := 107) (B := 10000) hPot S Fl.2 hw hfit (by decide) hC hB hn (by decide) (Se := Se) (F := F) (by rw [hwant]; exact Fu) (by rw [hwant]; exact Co)
  rw [hwant] at this
  exact this
theorem mem_cutN {F : List Nat} (lt : ∀ k, k ∈ F → k < lot.length) {x : Str} : x ∈ cutN lot F ↔ ∃ k p, k ∈ F ∧ lot[k]? = some p ∧ p.nm = x := by
  unfold cutN
  rw [List.mem_map]
  constructor
  · rintro ⟨k, hk, rfl⟩
    have e := List.getElem?_eq_getElem (lt k hk)
    exact ⟨k, _, hk, e, by rw [e]; rfl⟩
  · rintro ⟨k, p, hk, e, rfl⟩
    exact ⟨k, hk, by rw [e]; rfl⟩
/-- rising numbers below n are the range, filtered -/
theorem rise_filter : ∀ (n : Nat) {F : List Nat}, F.Nodup → F.Pairwise (· ≤ ·) → (∀ k, k ∈ F → k < n) → F = (List.range n).filter fun k => decide (k ∈ F)
  | 0, F, _, _, lt => by
    cases F with
    | nil => rfl
    | cons k F => exact absurd (lt k (by simp)) (by omega)
  | n + 1, F, nd, pw, lt => by
    by_cases e : n ∈ F
    · have hne : F ≠ [] := fun z => by rw [z] at e; simp at e
      have hl : F.getLast hne = n := by
        have h1 := lt _ (List.getLast_mem hne)
        have h2 : n ≤ F.getLast hne := by
          obtain ⟨i, hi, ei⟩ := List.getElem_of_mem e
          rw [List.getLast_eq_getElem, ← ei]
          by_cases q : i = F.length - 1
          · subst q; exact Nat.le_refl _
          · exact List.pairwise_iff_getElem.mp pw i (F.length - 1) hi (by omega) (by omega)
        omega
      have hd : F = F.dropLast ++ [n] := by rw [← hl, List.dropLast_concat_getLast]
      generalize F.dropLast = G at hd
      subst hd
      rw [List.nodup_append] at nd
      rw [List.pairwise_append] at pw
      have ltG : ∀ k, k ∈ G → k < n := fun k hk => by
        have h1 := lt k (List.mem_append_left _ hk)
        have h2 := nd.2.2 k hk n (by simp)
        omega
      rw [List.range_succ, List.filter_append]
      have e2 : [n].filter (fun k => decide (k ∈ G ++ [n])) = [n] := by rw [List.filter_cons, if_pos (by simp)]; rfl
      rw [e2]
      congr 1
      have ih := rise_filter n nd.1 pw.1 ltG
      refine ih.trans (List.filter_congr fun k hk => ?_)
      have hk : k < n := List.mem_range.mp hk
      simp only [List.mem_append, List.mem_singleton]
      rw [decide_eq_decide]
      exact ⟨fun z => .inl z, fun z => z.elim id fun q => absurd q (by omega)⟩
    · have lt2 : ∀ k, k ∈ F → k < n := fun k hk => by
        have := lt k hk
        by_cases q : k = n
        · subst q; exact absurd hk e
        · omega
      rw [List.range_succ, List.filter_append]
      have e2 : [n].filter (fun k => decide (k ∈ F)) = [] := by rw [List.filter_cons, if_neg (by simpa using e)]; rfl
      rw [e2, List.append_nil]
      exact rise_filter n nd pw lt2
theorem ls_self (lot : List Place) (d : Place) : lot = (List.range lot.length).map fun k => lot.getD k d := ls_ext rfl fun i x hx => (getD_at hx).symm
theorem cut_list (nd : (lot.map Place.nm).Nodup) {F : List Nat} (fn : F.Nodup) (pw : F.Pairwise (· ≤ ·)) (lt : ∀ k, k ∈ F → k < lot.length) : cutP lot (cutN lot F) = F.map fun k => lot.getD k ⟨"", "", 0, 0, 0, 0⟩ := by
  unfold cutP
  have hm : ∀ x, x ∈ cutN lot F ↔ ∃ k p, k ∈ F ∧ lot[k]? = some p ∧ p.nm = x := fun x => mem_cutN lt
  generalize cutN lot F = names at hm ⊢
  conv => lhs; rw [ls_self lot ⟨"", "", 0, 0, 0, 0⟩]
  rw [List.filter_map]
  conv => rhs; rw [rise_filter lot.length fn pw lt]
  congr 1
  refine List.filter_congr fun k hk => ?_
  have hk : k < lot.length := List.mem_range.mp hk
  have e := List.getElem?_eq_getElem hk
  show decide ((lot.getD k _).nm ∈ names) = decide (k ∈ F)
  rw [decide_eq_decide, hm, getD_at e]
  constructor
  · rintro ⟨j, p, hj, ej, en⟩
    rw [← nd_at nd ej e en]
    exact hj
  · intro h
    exact ⟨k, _, h, e, rfl⟩
theorem sum_filter {α : Type} {c : α → Bool} {f : α → Int} : ∀ l : List α, ((l.filter c).map f).sum = (l.map fun p => if c p = true then f p else 0).sum
  | [] => rfl
  | p :: l => by
    rw [List.filter_cons, List.map_cons, List.sum_cons, ← sum_filter l]
    by_cases e : c p = true
    · rw [if_pos e, if_pos e, List.map_cons, List.sum_cons]
    · rw [if_neg e, if_neg e]; omega
theorem len_filter {α : Type} {c : α → Bool} (l : List α) : (((l.filter c).length : Nat) : Int) = (l.map fun p => if c p = true then (1 : Int) else 0).sum := by
  rw [← sum_filter (c := c) (f := fun _ => 1) l]
  induction l.filter c with
  | nil => rfl
  | cons x l ih => rw [List.map_cons, List.sum_cons, ← ih, List.length_cons]; omega
theorem cut_ok2 (N : LotN lot) (hz : hs.length ≤ 1000) {many : Int} {F : List Nat} (C : CutR hs lot many F) : CutOk hs lot many (cutN lot F) := by
  obtain ⟨Se, Fu, Co, rfl⟩ := C.ex
  have hz2 := N.sz
  have hcut := cut_list N.nd Co.nd C.srt Co.lt
  have hname : (cutP lot (cutN lot F)).map Place.nm = cutN lot F := by
    rw [hcut, List.map_map]
    unfold cutN
    refine List.map_congr_left fun k hk => ?_
    have e := List.getElem?_eq_getElem (Co.lt k hk)
    show (lot.getD k _).nm = _
    rw [getD_at e, e]
    rfl
  refine ⟨by omega, hz, hname, fun x hx => ?_, ?_⟩
  · obtain ⟨k, p, _, e, rfl⟩ := (mem_cutN Co.lt).mp hx
    exact N.nm p (List.mem_of_getElem? e)
  · rw [← cut_ok Fu Co]
    unfold defi
    rw [len_filter]
    congr 1
    · unfold cutP
      rw [sum_filter]
      refine sum_map fun k p hp => ?_
      rw [wantS_at hp]
      have hk : p.nm ∈ cutN lot F ↔ k ∈ F := by
        rw [mem_cutN Co.lt]
        constructor
        · rintro ⟨j, q, hj, ej, en⟩
          rw [← nd_at N.nd ej hp en]
          exact hj
        · intro h
          exact ⟨k, p, h, hp, rfl⟩
      by_cases e : k ∈ F
      · rw [if_pos (decide_eq_true (hk.mpr e)), ind_t (decide_eq_true e), Int.one_mul]
      · rw [if_neg (by simpa using fun z => e (hk.mp z)), ind_f (by simpa using e), Int.zero_mul]
    · refine sum_map fun i h hh => ?_
      have hi : i < hs.length := (List.getElem?_eq_some_iff.mp hh).1
      have key : ((cutP lot (cutN lot F)).any fun p => lfitF h p) = true ↔ ∃ k, k < lot.length ∧ decide (k ∈ F) = true ∧ fitS hs lot i k = true := by
        rw [hcut, List.any_map, List.any_eq_true]
        constructor
        · rintro ⟨k, hk, e⟩
          have ek := List.getElem?_eq_getElem (Co.lt k hk)
          refine ⟨k, Co.lt k hk, decide_eq_true hk, ?_⟩
          rw [fitS_at hh ek]
          have e : lfitF h (lot.getD k _) = true := e
          rw [getD_at ek, lfit_eq (N.st _ (List.getElem_mem _))] at e
          exact e
        · rintro ⟨k, hk, e1, e2⟩
          have ek := List.getElem?_eq_getElem hk
          refine ⟨k, of_decide_eq_true e1, ?_⟩
          show lfitF h (lot.getD k _) = true
          rw [getD_at ek, lfit_eq (N.st _ (List.getElem_mem _))]
          rw [fitS_at hh ek] at e2
          exact e2
      unfold fitG
      by_cases e : ∃ k, k < lot.length ∧ decide (k ∈ F) = true ∧ fitS hs lot i k = true
      · rw [if_pos (key.mpr e), ind_t e]
      · rw [if_neg fun z => e (key.mp z), ind_f e]
end
end WS
/-! The voyage keeps what the law asks at each bell. -/
namespace WS
open PySem PySem.Spec PyProof.Rows L2 WM
structure ShipX (s : Ship) : Prop where
  g : ShipG s
  nms : ∃ names : List Str, names.length ≤ 10 ∧ (∀ l, l ∈ s.bills → ∀ p, p ∈ l → p.nm ∈ names) ∧ ∀ b, b ∈ s.books → ∀ p, p ∈ b.lot → p.nm ∈ names
  ndB : ∀ l, l ∈ s.bills → (l.map Place.nm).Nodup
  ndK : ∀ b, b ∈ s.books → (b.lot.map Place.nm).Nodup
  stB : ∀ l, l ∈ s.bills → ∀ p, p ∈ l → 0 ≤ p.steps
  stK : ∀ b, b ∈ s.books → ∀ p, p ∈ b.lot → 0 ≤ p.steps
  wd : (s.books.map Book.word).Nodup
  apB : ∀ b, b ∈ s.books → b.away = 1 → ∀ p, p ∈ b.lot → ∀ l, l ∈ s.bills → p.nm ∉ l.map Place.nm
  apK : ∀ b, b ∈ s.books → b.away = 1 → ∀ c, c ∈ s.books → c.word ≠ b.word → ∀ p, p ∈ b.lot → p.nm ∉ c.lot.map Place.nm
theorem nd_len : ∀ {l names : List Str}, l.Nodup → (∀ x, x ∈ l → x ∈ names) → l.length ≤ names.length
  | [], _, _, _ => Nat.zero_le _
  | x :: l, names, nd, h => by
    rw [List.nodup_cons] at nd
    have hx := h x (by simp)
    have ih := nd_len (l := l) (names := names.erase x) nd.2 fun y hy => by
      have hne : y ≠ x := fun e => nd.1 (e ▸ hy)
      exact (List.mem_erase_of_ne hne).mpr (h y (by simp [hy]))
    rw [List.length_erase_of_mem hx] at ih
    have : 0 < names.length := List.length_pos_of_mem hx
    rw [List.length_cons]
    omega
theorem countP_or {α : Type} {p q r : α → Bool} (h : ∀ n, p n = true → q n = true ∨ r n = true) : ∀ R : List α, R.countP p ≤ R.countP q + R.countP r
  | [] => by simp
  | n :: R => by
    have ih := countP_or h R
    rw [List.countP_cons, List.countP_cons, List.countP_cons]
    have hn := h n
    cases e1 : p n <;> cases e2 : q n <;> cases e3 : r n <;> simp [e1, e2, e3] at hn ⊢ <;> omega
theorem map_inj {α β : Type} {f : α → β} {l : List α} (nd : (l.map f).Nodup) {a b : α} (ha : a ∈ l) (hb : b ∈ l) (e : f a = f b) : a = b := by
  obtain ⟨i, hi, ei⟩ := List.getElem_of_mem ha
  obtain ⟨j, hj, ej⟩ := List.getElem_of_mem hb
  have h1 : (l.map f)[i]? = some (f a) := map_at (by rw [List.getElem?_eq_getElem hi, ei])
  have h2 : (l.map f)[j]? = some (f a) := by rw [map_at (f := f) (x := b) (by rw [List.getElem?_eq_getElem hj, ej]), e]
  have hl : i < (l.map f).length := (List.getElem?_eq_some_iff.mp h1).1
  have : i = j := (List.getElem?_inj hl nd).mp (by rw [h1, h2])
  subst this
  rw [← ei, ej]
/-! ### the lot of the watch, the lot of the calls -/
section
variable {s : Ship} {st : VS} {b : Nat}
theorem wants_ok (W : VWf s st b) {n : Str} {m : Int} (h : valA (mergeA [] st.told.wants) n = some m) : 0 ≤ m ∧ m ≤ 1000 := by
  obtain ⟨N, w1, w2⟩ := W.wf
  rcases mergeA_mem (valA_mem h) with z | z
  · simp at z
  · rw [W.told] at z
    obtain ⟨k, hk, e⟩ := List.mem_map.mp z
    obtain ⟨a, ha⟩ := valA_key ((srt_perm _).mem_iff.mp hk)
    have e2 : m = a := by
      have := congrArg Prod.snd e
      have e3 : getI st.hs.wanted k = a := by unfold getI; rw [ha]; rfl
      exact (e3 ▸ this).symm
    rw [e2]
    exact w1.mn _ (valA_mem ha)
theorem bill_mem (w : Nat) {p : Place} (h : p ∈ s.bills.getD w []) : ∃ l, l ∈ s.bills ∧ s.bills.getD w [] = l ∧ p ∈ l := by
  rw [List.getD_eq_getElem?_getD] at h ⊢
  cases e : s.bills[w]? with
  | none => rw [e] at h; simp at h
  | some l => rw [e] at h; exact ⟨l, List.mem_of_getElem? e, rfl, h⟩
theorem lotW_names : (lotW s st).map Place.nm = (s.bills.getD (watchNo s st.bell) []).map Place.nm := by
  unfold lotW
  rw [List.map_map]
  rfl
theorem lotW_nd (X : ShipX s) : ((lotW s st).map Place.nm).Nodup := by
  rw [lotW_names, List.getD_eq_getElem?_getD]
  cases e : s.bills[watchNo s st.bell]? with
  | none => exact List.nodup_nil
  | some l => exact X.ndB l (List.mem_of_getElem? e)
structure PlX (p : Place) : Prop where
  st : 0 ≤ p.steps
  mn : 0 ≤ p.many ∧ p.many ≤ 1000
  nm : PyData.strOk p.nm = true
theorem lotW_x (X : ShipX s) (W : VWf s st b) : ∀ p, p ∈ lotW s st → PlX p := fun p hp => by
  obtain ⟨q, hq, rfl⟩ := List.mem_map.mp hp
  obtain ⟨l, hl, _, hql⟩ := bill_mem _ hq
  have po := X.g.plB l hl q hql
  refine ⟨X.stB l hl q hql, ?_, po.nm⟩
  show 0 ≤ (valA (mergeA [] st.told.wants) q.nm).getD q.many ∧ (valA (mergeA [] st.told.wants) q.nm).getD q.many ≤ 1000
  cases e : valA (mergeA [] st.told.wants) q.nm with
  | none => exact po.mn
  | some m => exact wants_ok W e
theorem book_x (X : ShipX s) {k : Book} (hk : k ∈ s.books) : ∀ p, p ∈ k.lot → PlX p := fun p hp =>
  ⟨X.stK k hk p hp, (X.g.plK k hk p hp).mn, (X.g.plK k hk p hp).nm⟩
theorem addPl_names (f : List Place) (p : Place) : (addPl f p).map Place.nm = if p.nm ∈ f.map Place.nm then f.map Place.nm else f.map Place.nm ++ [p.nm] := by
  unfold addPl
  by_cases e : p.nm ∈ f.map Place.nm
  · rw [if_pos e, if_pos e, List.map_set]
    refine List.ext_getElem? fun i => ?_
    rw [List.getElem?_set]
    have hl := List.idxOf_lt_length_iff.mpr e
    split
    · rename_i h
      subst h
      have : (f.map Place.nm)[(f.map Place.nm).idxOf p.nm]? = some p.nm := by
        rw [List.getElem?_eq_getElem hl, List.getElem_idxOf hl]
      rw [this]
    · rfl
  · rw [if_neg e, if_neg e, List.map_append]
    rfl
theorem addPl_nd {f : List Place} {p : Place} (h : (f.map Place.nm).Nodup) : ((addPl f p).map Place.nm).Nodup := by
  rw [addPl_names]
  split
  · exact h
  · rename_i e
    refine List.nodup_append.mpr ⟨h, by simp, fun a ha b hb => ?_⟩
    have : b = p.nm := by simpa using hb
    subst this
    rintro rfl
    exact e ha
theorem addPls_nd : ∀ {l f : List Place}, (f.map Place.nm).Nodup → ((l.foldl addPl f).map Place.nm).Nodup
  | [], _, h => h
  | p :: l, f, h => addPls_nd (l := l) (addPl_nd h)
theorem callsL_nd (X : ShipX s) : ∀ {calls : List Str} {f : List Place}, (f.map Place.nm).Nodup → ((calls.foldl (fun f w => ((valA (lotsA s) w).getD []).foldl addPl f) f).map Place.nm).Nodup
  | [], _, h => h
  | w :: calls, f, h => callsL_nd X (calls := calls) (addPls_nd h)
theorem lotC_names (gone : List Str) : (lotC s st gone).map Place.nm = (callsL s st st.told.calls).map Place.nm := by
  unfold lotC
  rw [List.map_map]
  rfl
theorem lotC_nd (X : ShipX s) (gone : List Str) : ((lotC s st gone).map Place.nm).Nodup := by
  rw [lotC_names]
  exact callsL_nd X (lotW_nd X)
theorem callsL_from {p : Place} (h : p ∈ callsL s st st.told.calls) : p ∈ lotW s st ∨ ∃ k, k ∈ s.books ∧ k.word ∈ st.told.calls ∧ p ∈ k.lot := callsL_mem h
theorem callsL_x (X : ShipX s) (W : VWf s st b) : ∀ p, p ∈ callsL s st st.told.calls → PlX p := fun p hp => by
  rcases callsL_from hp with h | ⟨k, hk, _, h⟩
  · exact lotW_x X W p h
  · exact book_x X hk p h
/-- a place of an away book stands as it is in the lot of the calls, where its name stands -/
theorem away_one (X : ShipX s) {k : Book} (hk : k ∈ s.books) (ha : k.away = 1) {p q : Place} (hp : p ∈ k.lot) (hq : q ∈ callsL s st st.told.calls) (e : q.nm = p.nm) : q = p := by
  rcases callsL_from hq with h | ⟨c, hc, _, h⟩
  · obtain ⟨r, hr, rfl⟩ := List.mem_map.mp h
    obtain ⟨l, hl, _, hrl⟩ := bill_mem _ hr
    have e : r.nm = p.nm := e
    exact absurd (List.mem_map.mpr ⟨r, hrl, e⟩) (X.apB k hk ha p hp l hl)
  · by_cases w : c.word = k.word
    · have : c = k := map_inj X.wd hc hk w
      subst this
      exact map_inj (X.ndK c hc) h hp e
    · exact absurd (List.mem_map.mpr ⟨q, h, e⟩) (X.apK k hk ha c hc w p hp)
theorem lot_sz (X : ShipX s) {l : List Place} (nd : (l.map Place.nm).Nodup) (h : ∀ p, p ∈ l → (∃ m, m ∈ s.bills ∧ p.nm ∈ m.map Place.nm) ∨ ∃ k, k ∈ s.books ∧ p.nm ∈ k.lot.map Place.nm) : l.length < 25 := by
  obtain ⟨names, n1, n2, n3⟩ := X.nms
  have := nd_len (names := names) nd fun x hx => by
    obtain ⟨p, hp, rfl⟩ := List.mem_map.mp hx
    rcases h p hp with ⟨m, hm, z⟩ | ⟨k, hk, z⟩
    · obtain ⟨q, hq, e⟩ := List.mem_map.mp z
      rw [← e]
      exact n2 m hm q hq
    · obtain ⟨q, hq, e⟩ := List.mem_map.mp z
      rw [← e]
      exact n3 k hk q hq
  rw [List.length_map] at this
  omega
theorem lotW_from {p : Place} (h : p ∈ lotW s st) : ∃ m, m ∈ s.bills ∧ p.nm ∈ m.map Place.nm := by
  obtain ⟨r, hr, rfl⟩ := List.mem_map.mp h
  obtain ⟨l, hl, _, hrl⟩ := bill_mem _ hr
  exact ⟨l, hl, List.mem_map.mpr ⟨r, hrl, rfl⟩⟩
theorem lotN_bill (X : ShipX s) (W : VWf s st b) : LotN (lotW s st) where
  nd := lotW_nd X
  st := fun p hp => (lotW_x X W p hp).st
  mn := fun p hp => (lotW_x X W p hp).mn
  nm := fun p hp => (lotW_x X W p hp).nm
  sz := lot_sz X (lotW_nd X) fun p hp => .inl (lotW_from hp)
/-! ### those who are held -/
theorem roll_names {fx : HFix} {hs : HS} {N : Nat} (W : HWf fx hs N) : (toldF hs).roll.map Hand.nm = srt (keysA hs.hands) := by
  show ((srt (keysA hs.hands)).map (getH hs.hands)).map Hand.nm = _
  rw [List.map_map]
  have : ∀ n, n ∈ srt (keysA hs.hands) → (Hand.nm ∘ getH hs.hands) n = id n := fun n hn => by
    obtain ⟨a, ha⟩ := valA_key ((srt_perm _).mem_iff.mp hn)
    show (getH hs.hands n).nm = n
    unfold getH
    rw [ha]
    exact W.nm _ (valA_mem ha)
  rw [List.map_congr_left this, List.map_id]
theorem roll_nd (W : VWf s st b) : (st.told.roll.map Hand.nm).Nodup := by
  obtain ⟨N, w1, w2⟩ := W.wf
  rw [W.told, roll_names w1]
  exact (srt_perm _).nodup_iff.mpr w1.nd
theorem heldL_sub : (keysA (heldL s st)).Sublist (st.told.roll.map Hand.nm) := by
  unfold heldL keysA
  induction st.told.roll with
  | nil => exact .slnil
  | cons h l ih =>
    rw [List.filterMap_cons]
    have ih := ih
    cases e : valA st.was h.nm with
    | none => exact .cons _ ih
    | some p =>
      simp only
      by_cases c : p ∈ heldP s st.told.calls
      · rw [if_pos c]
        exact .cons₂ _ ih
      · rw [if_neg c]
        exact .cons _ ih
theorem heldL_nd (W : VWf s st b) : (keysA (heldL s st)).Nodup := (roll_nd W).sublist heldL_sub
theorem heldF_eq (W : VWf s st b) : heldF s st = heldL s st := by
  unfold heldF
  rw [mergeA_app (heldL_nd W) (fun k _ => by simp [keysA]), List.nil_append]
theorem heldL_in {n p : Str} (h : (n, p) ∈ heldL s st) : n ∈ st.told.roll.map Hand.nm ∧ valA st.was n = some p ∧ p ∈ heldP s st.told.calls := by
  unfold heldL at h
  obtain ⟨a, ha, e⟩ := List.mem_filterMap.mp h
  cases ew : valA st.was a.nm with
  | none => rw [ew] at e; cases e
  | some q =>
    rw [ew] at e
    simp only at e
    split at e
    · rename_i hq
      cases e
      exact ⟨List.mem_map.mpr ⟨a, ha, rfl⟩, ew, hq⟩
    · cases e
theorem cnt_was (R : List Str) (nd : R.Nodup) (x : Str) : ∀ w : List (Str × Str), R.countP (fun n => decide (valA w n = some x)) ≤ (w.map (·.2)).count x
  | [] => by
    have : R.countP (fun n => decide (valA ([] : List (Str × Str)) n = some x)) = 0 := List.countP_eq_zero.mpr fun n _ => by simp [valA]
    omega
  | (k, v) :: w => by
    have ih := cnt_was R nd x w
    rw [List.map_cons, List.count_cons]
    have h1 : R.countP (fun n => decide (valA ((k, v) :: w) n = some x)) ≤ R.countP (fun n => decide (n = k ∧ v = x)) + R.countP (fun n => decide (valA w n = some x)) := countP_or (fun n hn => by
      have hn := of_decide_eq_true hn
      rw [valA_cons] at hn
      split at hn
      · rename_i e
        exact .inl (decide_eq_true ⟨e.symm, Option.some.inj hn⟩)
      · exact .inr (decide_eq_true hn)) R
    have h2 : R.countP (fun n => decide (n = k ∧ v = x)) ≤ if (v == x) = true then 1 else 0 := by
      by_cases e2 : v = x
      · have : (fun n => decide (n = k ∧ v = x)) = fun n => n == k := by funext n; simp [e2]; rfl
        rw [this]
        have hc := List.nodup_iff_count.mp nd k
        rw [if_pos (by simpa using e2)]
        exact hc
      · have : R.countP (fun n => decide (n = k ∧ v = x)) = 0 := List.countP_eq_zero.mpr fun n _ => by simp [e2]
        omega
    have h3 : (if ((k, v).snd == x) = true then 1 else 0) = if (v == x) = true then 1 else 0 := rfl
    omega
theorem held_cnt (W : VWf s st b) (x : Str) : ((heldL s st).map (·.2)).count x ≤ (st.was.map (·.2)).count x := by
  refine Nat.le_trans ?_ (cnt_was (st.told.roll.map Hand.nm) (roll_nd W) x st.was)
  unfold heldL
  induction st.told.roll with
  | nil => exact Nat.le_refl _
  | cons h l ih =>
    rw [List.filterMap_cons, List.map_cons, List.countP_cons]
    cases e : valA st.was h.nm with
    | none =>
      simp only
      exact Nat.le_trans ih (Nat.le_add_right _ _)
    | some p =>
      simp only
      by_cases c : p ∈ heldP s st.told.calls
      · rw [if_pos c]
        simp only
        rw [List.map_cons, List.count_cons]
        refine Nat.add_le_add ih ?_
        by_cases e2 : p = x
        · rw [if_pos (by simpa using e2), if_pos (decide_eq_true (congrArg some e2))]
          exact Nat.le_refl _
        · rw [if_neg (by simpa using e2)]
          exact Nat.zero_le _
      · rw [if_neg c]
        exact Nat.le_trans ih (Nat.le_add_right _ _)
/-! ### what is kept from bell to bell -/
/-- at an away book's place no more were than it wants -/
def Away (s : Ship) (w : List (Str × Str)) : Prop := ∀ k, k ∈ s.books → k.away = 1 → ∀ p, p ∈ k.lot → (((w.map (·.2)).count p.nm : Nat) : Int) ≤ p.many
theorem heldP_in {calls : List Str} {x : Str} (h : x ∈ heldP s calls) : ∃ k, k ∈ s.books ∧ k.away = 1 ∧ k.word ∈ calls ∧ ∃ p, p ∈ k.lot ∧ p.nm = x := by
  unfold heldP at h
  obtain ⟨k, hk, hx⟩ := List.mem_flatMap.mp h
  obtain ⟨h1, h2⟩ := List.mem_filter.mp hk
  simp only [Bool.and_eq_true, decide_eq_true_eq] at h2
  obtain ⟨p, hp, e⟩ := List.mem_map.mp hx
  exact ⟨k, h1, h2.1, h2.2, p, hp, e⟩
theorem gone_le (X : ShipX s) (W : VWf s st b) (A : Away s st.was) {q : Place} (hq : q ∈ callsL s st st.told.calls) : ((((heldF s st).map (·.2)).count q.nm : Nat) : Int) ≤ q.many := by
  rw [heldF_eq W]
  by_cases e : q.nm ∈ (heldL s st).map (·.2)
  · obtain ⟨⟨n, p⟩, hp, ep⟩ := List.mem_map.mp e
    obtain ⟨_, _, h3⟩ := heldL_in hp
    have ep : p = q.nm := ep
    rw [ep] at h3
    obtain ⟨k, hk, ha, _, r, hr, er⟩ := heldP_in h3
    have : q = r := away_one X hk ha hr hq er.symm
    subst this
    have h1 := held_cnt W q.nm
    have h2 := A k hk ha q hr
    omega
  · rw [List.count_eq_zero.mpr e]
    exact (callsL_x X W q hq).mn.1
theorem lotN_calls (X : ShipX s) (W : VWf s st b) (A : Away s st.was) : LotN (lotC s st ((heldF s st).map (·.2))) where
  nd := lotC_nd X _
  st := fun p hp => by
    obtain ⟨q, hq, rfl⟩ := List.mem_map.mp hp
    exact (callsL_x X W q hq).st
  mn := fun p hp => by
    obtain ⟨q, hq, rfl⟩ := List.mem_map.mp hp
    have h1 := gone_le X W A hq
    have h2 := (callsL_x X W q hq).mn
    show 0 ≤ q.many - _ ∧ q.many - _ ≤ 1000
    omega
  nm := fun p hp => by
    obtain ⟨q, hq, rfl⟩ := List.mem_map.mp hp
    exact (callsL_x X W q hq).nm
  sz := lot_sz X (lotC_nd X _) fun p hp => by
    obtain ⟨q, hq, rfl⟩ := List.mem_map.mp hp
    show (∃ m, m ∈ s.bills ∧ q.nm ∈ m.map Place.nm) ∨ ∃ k, k ∈ s.books ∧ q.nm ∈ k.lot.map Place.nm
    rcases callsL_from hq with h | ⟨k, hk, _, h⟩
    · exact .inl (lotW_from h)
    · exact .inr ⟨k, hk, List.mem_map.mpr ⟨q, h, rfl⟩⟩
theorem lotN_ask (X : ShipX s) (W : VWf s st b) (A : Away s st.was) : LotN (askF s st).lot := by
  unfold askF
  split
  · exact lotN_bill X W
  · exact lotN_calls X W A
theorem mok_ask (X : ShipX s) (W : VWf s st b) : MOk (askF s st).hands (askF s st).lot (askF s st).stood := by
  unfold askF
  split
  · exact mok_bill X.g W.g
  · exact mok_calls X.g W.g
theorem askP_cases (k : Ask) : askP k = [] ∨ ∃ U V, ManR k.hands k.lot k.stood (askP k) U V := by
  by_cases e : ∃ p U V, ManR k.hands k.lot k.stood p U V
  · obtain ⟨p, U, V, h⟩ := e
    have := h.is
    subst this
    exact .inr ⟨U, V, h⟩
  · refine .inl ?_
    unfold askP manF
    rw [dif_neg e]
theorem placeL_sub : ∀ (hs : List Hand) (ps : List (Option Str)), (keysA (placeL hs ps)).Sublist (hs.map Hand.nm)
  | [], _ => .slnil
  | _ :: _, [] => List.nil_sublist _
  | h :: hs, none :: ps => .cons _ (placeL_sub hs ps)
  | h :: hs, some n :: ps => .cons₂ _ (placeL_sub hs ps)
theorem placeL_cnt (x : Str) : ∀ (hs : List Hand) (ps : List (Option Str)), ((placeL hs ps).map (·.2)).count x ≤ ps.count (some x)
  | [], _ => by simp [placeL]
  | _ :: _, [] => by simp [placeL]
  | h :: hs, none :: ps => by
    have ih := placeL_cnt x hs ps
    rw [List.count_cons]
    show ((placeL hs ps).map (·.2)).count x ≤ _
    omega
  | h :: hs, some n :: ps => by
    have ih := placeL_cnt x hs ps
    show (((h.nm, n) :: placeL hs ps).map (·.2)).count x ≤ _
    rw [List.map_cons, List.count_cons, List.count_cons]
    by_cases e : n = x
    · subst e; simp; exact ih
    · simp [e]; exact ih
theorem placesF_eq {hs : List Hand} {ps : List (Option Str)} (nd : (hs.map Hand.nm).Nodup) : placesF hs ps = placeL hs ps := by
  unfold placesF
  rw [mergeA_app (nd.sublist (placeL_sub hs ps)) (fun k _ => by simp [keysA]), List.nil_append]
theorem ask_cnt {k : Ask} (O : MOk k.hands k.lot k.stood) (N : LotN k.lot) (x : Str) : (askP k).count (some x) = 0 ∨ ∃ p, p ∈ k.lot ∧ p.nm = x ∧ (((askP k).count (some x) : Nat) : Int) ≤ p.many := by
  rcases askP_cases k with e | ⟨U, V, R⟩
  · rw [e]; exact .inl rfl
  · by_cases h : x ∈ k.lot.map Place.nm
    · obtain ⟨p, hp, rfl⟩ := List.mem_map.mp h
      exact .inr ⟨p, hp, rfl, (posts_ok R O N).cnt p hp⟩
    · obtain ⟨s, n, y, _, S, _, ep, _⟩ := R.ex
      rw [ep]
      exact .inl (cnt_no S h)
theorem billH_sub : ((billH s st).map Hand.nm).Sublist (st.told.roll.map Hand.nm) := List.filter_sublist.map _
theorem callsH_sub : ((callsH s st).map Hand.nm).Sublist (st.told.roll.map Hand.nm) := List.filter_sublist.map _
theorem callsH_not {n : Str} (h : n ∈ (callsH s st).map Hand.nm) : n ∉ keysA (heldF s st) := by
  obtain ⟨a, ha, rfl⟩ := List.mem_map.mp h
  have := (List.mem_filter.mp ha).2
  simp only [Bool.and_eq_true, Bool.not_eq_true', decide_eq_false_iff_not] at this
  exact this.2
theorem thereC_eq (W : VWf s st b) : thereC s st = placeL (callsH s st) (askP (callsF s st)) ++ heldL s st := by
  unfold thereC
  rw [placesF_eq ((roll_nd W).sublist callsH_sub), heldF_eq W]
  refine mergeA_app (heldL_nd W) fun k hk z => ?_
  have := callsH_not ((placeL_sub _ _).mem z)
  rw [heldF_eq W] at this
  exact this hk
theorem thereB_eq (W : VWf s st b) : thereB s st = placeL (billH s st) (askP (billF s st)) := placesF_eq ((roll_nd W).sublist billH_sub)
theorem away_go (X : ShipX s) (W : VWf s st b) (A : Away s st.was) : Away s (thereF s st) := fun k hk ha p hp => by
  have hm := (book_x X hk p hp).mn.1
  unfold thereF
  split
  · rw [thereB_eq W]
    have h1 := placeL_cnt p.nm (billH s st) (askP (billF s st))
    rcases ask_cnt (k := billF s st) (mok_bill X.g W.g) (lotN_bill X W) p.nm with e | ⟨q, hq, e, _⟩
    · omega
    · obtain ⟨m, hm2, z⟩ := lotW_from hq
      rw [e] at z
      exact absurd z (X.apB k hk ha p hp m hm2)
  · rw [thereC_eq W, List.map_append, List.count_append]
    have h1 := placeL_cnt p.nm (callsH s st) (askP (callsF s st))
    have h2 := held_cnt W p.nm
    have h3 := A k hk ha p hp
    rcases ask_cnt (k := callsF s st) (mok_calls X.g W.g) (lotN_calls X W A) p.nm with e | ⟨q, hq, e, h4⟩
    · omega
    · obtain ⟨r, hr, rfl⟩ := List.mem_map.mp hq
      have e : r.nm = p.nm := e
      have : r = p := away_one X hk ha hp hr e
      subst this
      have h4 : _ ≤ r.many - (((heldF s st).map (·.2)).count r.nm : Nat) := h4
      rw [heldF_eq W] at h4
      omega
end
theorem away_voy {s : Ship} {pgs : List Page} (X : ShipX s) (O : PgsOk pgs) : ∀ n, Away s (voyN s pgs n).was
  | 0 => fun k hk _ p hp => (book_x X hk p hp).mn.1
  | n + 1 => away_go X (voyN_wf X.g O n) (away_voy X O n)
/-! ### the pages that have come -/
theorem come_pre (fx : HFix) (b : Int) : ∀ (l : List Page) (h : HS), ∃ pre, l = pre ++ (comeL fx b l h).1 ∧ (comeL fx b l h).2 = pre.foldl (fun st p => putInF fx st p.ch) h ∧ (∀ p, p ∈ pre → p.bell ≤ b) ∧ ∀ p r, (comeL fx b l h).1 = p :: r → ¬ p.bell ≤ b
  | [], h => ⟨[], rfl, rfl, fun _ z => by simp at z, fun _ _ z => by cases z⟩
  | p :: l, h => by
    unfold comeL
    by_cases e : p.bell ≤ b
    · rw [if_pos e]
      obtain ⟨pre, h1, h2, h3, h4⟩ := come_pre fx b l (putInF fx h p.ch)
      refine ⟨p :: pre, by rw [List.cons_append, ← h1], by rw [List.foldl_cons]; exact h2, fun q hq => ?_, h4⟩
      rcases List.mem_cons.mp hq with rfl | hq
      · exact e
      · exact h3 q hq
    · rw [if_neg e]
      exact ⟨[], rfl, rfl, fun _ z => by simp at z, fun q r z => by cases z; exact e⟩
theorem ordP_sorted (pgs : List Page) : (ordP pgs).Pairwise fun a b => a.bell ≤ b.bell := by
  have := List.pairwise_mergeSort (le := leK pgKey) (fun a b c h1 h2 => by
    unfold leK at *
    have h1 := of_decide_eq_true h1
    have h2 := of_decide_eq_true h2
    refine decide_eq_true ?_
    omega) (fun a b => by
    unfold leK
    rw [Bool.or_eq_true, decide_eq_true_eq, decide_eq_true_eq]
    omega) pgs
  refine this.imp fun {a b} h => ?_
  have h : (pgKey a).1 < (pgKey b).1 ∨ _ := of_decide_eq_true h
  have e1 : (pgKey a).1 = a.bell := rfl
  have e2 : (pgKey b).1 = b.bell := rfl
  omega
theorem voy_hold {s : Ship} {pgs : List Page} (G : ShipG s) (O : PgsOk pgs) (n : Nat) : (voyN s pgs n).hs = holdF s pgs ((n : Nat) : Int) := by
  have I : ∃ pre, ordP pgs = pre ++ (voyN s pgs n).coming ∧ (voyN s pgs n).hs = pre.foldl (fun st p => putInF (fixF s) st p.ch) (startF s) ∧ (∀ p, p ∈ pre → p.bell ≤ ((n : Nat) : Int)) ∧ ∀ p r, (voyN s pgs n).coming = p :: r → ¬ p.bell ≤ ((n : Nat) : Int) := by
    induction n with
    | zero => exact come_pre (fixF s) 0 (ordP pgs) (startF s)
    | succ n ih =>
      obtain ⟨pre, h1, h2, h3, h4⟩ := ih
      have hb : (voyN s pgs n).bell + 1 = (((n + 1 : Nat)) : Int) := by rw [(voyN_wf G O n).bell]; omega
      obtain ⟨pre2, k1, k2, k3, k4⟩ := come_pre (fixF s) ((voyN s pgs n).bell + 1) (voyN s pgs n).coming (voyN s pgs n).hs
      rw [hb] at k1 k2 k3 k4
      refine ⟨pre ++ pre2, ?_, ?_, fun p hp => ?_, fun p r e => ?_⟩
      · rw [h1, List.append_assoc]
        congr 1
        show _ = pre2 ++ (comeL (fixF s) ((voyN s pgs n).bell + 1) (voyN s pgs n).coming (voyN s pgs n).hs).1
        rw [hb]
        exact k1
      · rw [List.foldl_append, ← h2]
        show (comeL (fixF s) ((voyN s pgs n).bell + 1) (voyN s pgs n).coming (voyN s pgs n).hs).2 = _
        rw [hb]
        exact k2
      · rcases List.mem_append.mp hp with z | z
        · have := h3 p z; omega
        · exact k3 p z
      · refine k4 p r ?_
        have e : (comeL (fixF s) ((voyN s pgs n).bell + 1) (voyN s pgs n).coming (voyN s pgs n).hs).1 = p :: r := e
        rwa [hb] at e
  obtain ⟨pre, h1, h2, h3, h4⟩ := I
  unfold holdF holdL
  rw [h2]
  have hs := ordP_sorted pgs
  rw [h1] at hs ⊢
  rw [List.pairwise_append] at hs
  rw [List.filter_append]
  have e1 : pre.filter (fun p => decide (p.bell ≤ ((n : Nat) : Int))) = pre := List.filter_eq_self.mpr fun p hp => decide_eq_true (h3 p hp)
  have e2 : (voyN s pgs n).coming.filter (fun p => decide (p.bell ≤ ((n : Nat) : Int))) = [] := List.filter_eq_nil_iff.mpr fun p hp => by
    simp only [decide_eq_true_eq]
    cases e : (voyN s pgs n).coming with
    | nil => rw [e] at hp; simp at hp
    | cons q r =>
      have hq := h4 q r e
      rw [e] at hp hs
      rcases List.mem_cons.mp hp with rfl | z
      · exact hq
      · have := (List.pairwise_cons.mp hs.2.1).1 p z
        omega
  rw [e1, e2, List.append_nil]
end WS
/-! A bell of the voyage, as the law looks at it. -/
namespace WS
open PySem PySem.Spec PyProof.Rows L2 WM
def stayF (s : Ship) (st : VS) : List (Str × Str) := (srt (keysA (heldF s st))).map fun n => (n, (valA (heldF s st) n).getD "")
section
variable {s : Ship} {st : VS} {b : Nat}
theorem stay_keys : keysA (stayF s st) = srt (keysA (heldF s st)) := by
  unfold stayF keysA
  rw [List.map_map]
  have : ∀ n, n ∈ srt ((heldF s st).map (·.1)) → (Prod.fst ∘ fun n => (n, (valA (heldF s st) n).getD "")) n = id n := fun n _ => rfl
  exact (List.map_congr_left this).trans (List.map_id _)
theorem heldF_nd (W : VWf s st b) : (keysA (heldF s st)).Nodup := by rw [heldF_eq W]; exact heldL_nd W
theorem stay_nd (W : VWf s st b) : (keysA (stayF s st)).Nodup := by
  rw [stay_keys]
  exact (srt_perm _).nodup_iff.mpr (heldF_nd W)
theorem stay_val (W : VWf s st b) (n : Str) : valA (stayF s st) n = valA (heldF s st) n := by
  by_cases h : n ∈ keysA (heldF s st)
  · obtain ⟨p, hp⟩ := valA_key h
    rw [hp]
    refine valA_nd (stay_nd W) (List.mem_map.mpr ⟨n, (srt_perm _).mem_iff.mpr h, ?_⟩)
    rw [hp]
    rfl
  · rw [valA_no h, valA_no]
    rw [stay_keys]
    exact fun z => h ((srt_perm _).mem_iff.mp z)
theorem held_none (W : VWf s st b) (e : st.told.calls = []) : heldF s st = [] := by
  rw [heldF_eq W]
  refine List.eq_nil_iff_forall_not_mem.mpr fun ⟨n, p⟩ h => ?_
  obtain ⟨_, _, h3⟩ := heldL_in h
  obtain ⟨k, _, _, hw, _⟩ := heldP_in h3
  rw [e] at hw
  simp at hw
theorem there_keys (W : VWf s st b) {n : Str} (h : n ∈ keysA (thereF s st)) : n ∈ st.told.roll.map Hand.nm := by
  unfold thereF at h
  split at h
  · rw [thereB_eq W] at h
    exact billH_sub.mem ((placeL_sub _ _).mem h)
  · rw [thereC_eq W] at h
    unfold keysA at h
    rw [List.map_append, List.mem_append] at h
    rcases h with h | h
    · exact callsH_sub.mem ((placeL_sub _ _).mem h)
    · exact heldL_sub.mem h
theorem rows_keys : keysA (rowsF s st) = st.told.roll.map Hand.nm := by
  unfold rowsF keysA
  rw [List.map_map]
  rfl
theorem rows_val (W : VWf s st b) {n p : Str} (h : valA (thereF s st) n = some p) : valA (rowsF s st) n = some (.at_ p) := by
  have hk := there_keys W (List.mem_map.mpr ⟨_, valA_mem h, rfl⟩)
  obtain ⟨a, ha, e⟩ := List.mem_map.mp hk
  have e : a.nm = n := e
  refine valA_nd (by rw [rows_keys]; exact roll_nd W) (List.mem_map.mpr ⟨a, ha, ?_⟩)
  show (a.nm, whereF a.nm (thereF s st) st.told.sick) = _
  rw [e]
  unfold whereF
  rw [h]
theorem ask_not (W : VWf s st b) {n : Str} (h : n ∈ (askF s st).hands.map Hand.nm) : n ∉ keysA (heldF s st) := by
  unfold askF at h
  split at h
  · rename_i e
    rw [held_none W e]
    simp [keysA]
  · exact callsH_not h
theorem rows_due (W : VWf s st b) : rowsF s st = dueRows st.told.roll st.told.sick (placesF (askF s st).hands (askP (askF s st))) (stayF s st) := by
  unfold rowsF dueRows
  refine List.map_congr_left fun h _ => ?_
  congr 1
  unfold whereF dueF
  rw [stay_val W]
  by_cases e : st.told.calls = []
  · have e1 : askF s st = billF s st := if_pos e
    have e2 : thereF s st = thereB s st := if_pos e
    rw [e1, e2, held_none W e]
    rfl
  · have e1 : askF s st = callsF s st := if_neg e
    have e2 : thereF s st = thereC s st := if_neg e
    have e3 : placesF (callsF s st).hands (askP (callsF s st)) = placeL (callsH s st) (askP (callsF s st)) := placesF_eq ((roll_nd W).sublist callsH_sub)
    rw [e1, e2, e3, thereC_eq W, valA_app, heldF_eq W]
    cases e4 : valA (heldL s st) h.nm with
    | none => cases valA (placeL (callsH s st) (askP (callsF s st))) h.nm <;> rfl
    | some p =>
      have : valA (placeL (callsH s st) (askP (callsF s st))) h.nm = none := valA_no fun z => by
        have := callsH_not ((placeL_sub _ _).mem z)
        rw [heldF_eq W] at this
        exact this (List.mem_map.mpr ⟨_, valA_mem e4, rfl⟩)
      rw [this]
      rfl
end
def RowOk (r : Str × Wh) : Prop := PyData.strOk r.1 = true ∧ ∀ p, r.2 = .at_ p → PyData.strOk p = true
theorem placeL_in {hs : List Hand} {ps : List (Option Str)} {n p : Str} (h : (n, p) ∈ placeL hs ps) : 0 < ps.count (some p) := by
  have h1 := placeL_cnt p hs ps
  have h2 : 0 < ((placeL hs ps).map (·.2)).count p := List.count_pos_iff.mpr (List.mem_map.mpr ⟨_, h, rfl⟩)
  omega
theorem post_ok {k : Ask} (O : MOk k.hands k.lot k.stood) (N : LotN k.lot) {n p : Str} (h : (n, p) ∈ placeL k.hands (askP k)) : PyData.strOk p = true := by
  have h1 := placeL_in h
  rcases ask_cnt O N p with e | ⟨q, hq, e, _⟩
  · omega
  · rw [← e]
    exact N.nm q hq
theorem there_ok {s : Ship} {st : VS} {b : Nat} (X : ShipX s) (W : VWf s st b) (A : Away s st.was) {n p : Str} (h : (n, p) ∈ thereF s st) : PyData.strOk p = true := by
  unfold thereF at h
  split at h
  · rw [thereB_eq W] at h
    exact post_ok (k := billF s st) (mok_bill X.g W.g) (lotN_bill X W) h
  · rw [thereC_eq W] at h
    rcases List.mem_append.mp h with h | h
    · exact post_ok (k := callsF s st) (mok_calls X.g W.g) (lotN_calls X W A) h
    · obtain ⟨_, _, h3⟩ := heldL_in h
      obtain ⟨k, hk, _, _, q, hq, e⟩ := heldP_in h3
      rw [← e]
      exact (book_x X hk q hq).nm
theorem rows_ok {s : Ship} {st : VS} {b : Nat} (X : ShipX s) (W : VWf s st b) (A : Away s st.was) : ∀ r, r ∈ rowsF s st → RowOk r := fun r hr => by
  obtain ⟨h, hh, rfl⟩ := List.mem_map.mp hr
  refine ⟨(W.g.ok h hh).nm, fun p e => ?_⟩
  have e : whereF h.nm (thereF s st) st.told.sick = .at_ p := e
  unfold whereF at e
  cases ev : valA (thereF s st) h.nm with
  | none =>
    rw [ev] at e
    simp only at e
    split at e <;> cases e
  | some q =>
    rw [ev] at e
    cases e
    exact there_ok X W A (valA_mem ev)
/-- what the law finds at a bell -/
structure BellOk (s : Ship) (pgs : List Page) (n : Nat) : Prop where
  told : toldF (holdF s pgs ((n : Nat) : Int)) = (voyN s pgs n).told
  mok : MOk (askF s (voyN s pgs n)).hands (askF s (voyN s pgs n)).lot (askF s (voyN s pgs n)).stood
  lot : LotN (askF s (voyN s pgs n)).lot
  none : n = 0 → heldF s (voyN s pgs n) = []
  ahead : ∀ m, n = m + 1 → ∀ x p, valA (heldF s (voyN s pgs n)) x = some p → valA (mergeA [] (rowsF s (voyN s pgs m))) x = some (.at_ p)
  apart : ∀ x, x ∈ (askF s (voyN s pgs n)).hands.map Hand.nm → x ∉ keysA (heldF s (voyN s pgs n))
  hnd : ((askF s (voyN s pgs n)).hands.map Hand.nm).Nodup
  rows : rowsF s (voyN s pgs n) = dueRows (voyN s pgs n).told.roll (voyN s pgs n).told.sick (placesF (askF s (voyN s pgs n)).hands (askP (askF s (voyN s pgs n)))) (stayF s (voyN s pgs n))
  stay : (keysA (stayF s (voyN s pgs n))).Nodup
  ok : ∀ r, r ∈ rowsF s (voyN s pgs n) → RowOk r
theorem ask_sub (s : Ship) (st : VS) : ((askF s st).hands.map Hand.nm).Sublist (st.told.roll.map Hand.nm) := by
  unfold askF
  split
  · exact billH_sub
  · exact callsH_sub
theorem bell_ok {s : Ship} {pgs : List Page} (X : ShipX s) (O : PgsOk pgs) (n : Nat) : BellOk s pgs n where
  told := by rw [(voyN_wf X.g O n).told, voy_hold X.g O n]
  mok := mok_ask X (voyN_wf X.g O n)
  lot := lotN_ask X (voyN_wf X.g O n) (away_voy X O n)
  none := fun e => by
    subst e
    rw [heldF_eq (voyN_wf X.g O 0)]
    refine List.eq_nil_iff_forall_not_mem.mpr fun ⟨n, p⟩ h => ?_
    obtain ⟨_, h2, _⟩ := heldL_in h
    have h2 : valA ([] : List (Str × Str)) n = some p := h2
    cases h2
  ahead := fun m e x p h => by
    subst e
    rw [heldF_eq (voyN_wf X.g O (m + 1))] at h
    obtain ⟨_, h2, _⟩ := heldL_in (valA_mem h)
    have W := voyN_wf X.g O m
    rw [mergeA_app (by rw [rows_keys]; exact roll_nd W) (fun k _ => by simp [keysA]), List.nil_append]
    exact rows_val W h2
  apart := fun x h => ask_not (voyN_wf X.g O n) h
  hnd := (roll_nd (voyN_wf X.g O n)).sublist (ask_sub _ _)
  rows := rows_due (voyN_wf X.g O n)
  stay := stay_nd (voyN_wf X.g O n)
  ok := rows_ok X (voyN_wf X.g O n) (away_voy X O n)
end WS
/-! The law's look at a bell. -/
namespace WS
open PySem PySem.Spec PyProof.Rows L2 WM
open C8 (pe_gc pe_c pe_mk pe_mt pe_mt0)
open LamX (TabS Tabs ExtN TabB)
theorem extN_tups {H H' : Hp} (e : ExtN H H') : Tups H H' := fun a xs h => by
  rcases h with h | ⟨o, h⟩
  · exact .inl (e _ _ h fun _ z => nomatch z)
  · exact .inr ⟨o, e _ _ h fun _ z => nomatch z⟩
theorem extN_frz {H H' : Hp} (e : ExtN H H') : ∀ a o u, H a = some (.frz o u) → H' a = some (.frz o u) := fun _ _ _ h => e _ _ h fun _ z => nomatch z
theorem extN_tupF {H H' : Hp} (e : ExtN H H') {p : Addr} {xs : List V} (h : TupF H p xs) : TupF H' p xs := by
  obtain ⟨o, h1, h2⟩ := h
  exact ⟨o, extN_frz e _ _ _ h1, h2⟩
theorem extN_same {H H' : Hp} (e : Same H H') : ExtN H H' := fun b o h _ => e b o h
theorem g_if2 {c : TT} {ta tb : TE} {σ : L2.St} {H : Hp} {Q : VK} (P : V → Hp → Prop) (h : ((∀ R : Bool → Hp → Prop, R true H → c σ H R) ∧ ∀ Q' : VK, (∀ v H', P v H' → Q' v H') → ta σ H Q') ∨ ((∀ R : Bool → Hp → Prop, R false H → c σ H R) ∧ ∀ Q' : VK, (∀ v H', P v H' → Q' v H') → tb σ H Q')) (k : ∀ v H', P v H' → Q v H') : tIf c ta tb σ H Q := by
  rcases h with ⟨h1, h2⟩ | ⟨h1, h2⟩
  · exact h1 _ (iteT (h2 _ k))
  · exact h1 _ (iteF (h2 _ k))
theorem rows_kvs {K : PySem.W.Frag} {H : Hp} : ∀ {ws : List Addr} {rows : List (Str × Wh)}, DtAll K H (ws.map V.ref) (rows.map encRow) → ∃ kvs : List (Key × V), Paired (fun p kv => SqT K H p [kV kv.1, kv.2]) ws kvs ∧ DR (fun v w => Dt K H v (encW w)) kvs rows
  | [], [], _ => ⟨[], .nil, .nil⟩
  | [], _ :: _, h => by cases h
  | _ :: _, [], h => by cases h
  | w :: ws, r :: rows, h => by
    cases h with
    | cons h1 h2 =>
      obtain ⟨kvs, a1, a2⟩ := rows_kvs h2
      obtain ⟨a, xs, e, q1, q2⟩ := Dt.tup_inv h1
      cases e
      cases q2 with
      | cons d1 q2 =>
        cases q2 with
        | cons d2 q2 =>
          cases q2
          cases d1
          exact ⟨(.inr r.1, _) :: kvs, .cons q1 a1, .cons ⟨rfl, d2⟩ a2⟩
theorem putA_new {α : Type} {l : List (Str × α)} {n : Str} {a : α} (h : n ∉ keysA l) : putA l n a = l ++ [(n, a)] := by
  have := mergeA_app (more := [(n, a)]) (l := l) (by simp [keysA]) fun k hk => by
    have : k = n := by simpa [keysA] using hk
    rw [this]; exact h
  exact this
theorem paired_at {α β : Type} {F : α → β → Prop} {l : List α} {m : List β} (h : Paired F l m) : ∀ {i : Nat} {b : β}, m[i]? = some b → ∃ a, l[i]? = some a ∧ F a b := by
  induction h with
  | nil => intro i b e; simp at e
  | cons h _ ih =>
    intro i b e
    cases i with
    | zero =>
      have e := Option.some.inj e
      subst e
      exact ⟨_, rfl, h⟩
    | succ i => exact ih (i := i) e
theorem allRows_at {s : Ship} {pgs : List Page} {N m : Nat} (h : m < N) : (allRows s pgs N)[m]? = some (rowsF s (voyN s pgs m)) := by
  unfold allRows
  rw [List.getElem?_map, List.getElem?_range h]
  rfl
theorem km_tups {d : Addr} {H H' : Hp} (k : Km d H H') {kv : List (Key × V)} (e : H d = some (.dK kv)) : Tups H H' := fun a xs h => by
  have hn : a ≠ d := fun z => by subst z; exact not_tup_dK e _ h
  rcases h with h | ⟨o, h⟩
  · exact .inl (k _ _ hn h)
  · exact .inr ⟨o, k _ _ hn h⟩
theorem eqv_rows : ∀ (rows : List (Str × Wh)), PyData.eqvAll (rows.map encRow) (rows.map encRow) = true
  | [] => by simp [PyData.eqvAll]
  | (n, w) :: rows => by
    simp only [List.map_cons, PyData.eqvAll, eqv_rows rows]
    cases w <;> simp [encRow, encW, PyData.eqv, PyData.eqvAll]
theorem rows_lay : ∀ {rows : List (Str × Wh)}, (∀ r, r ∈ rows → RowOk r) → PyData.canLayAll0 (rows.map encRow) = true
  | [], _ => rfl
  | (n, w) :: rows, h => by
    have h1 := h (n, w) (by simp)
    have h2 := rows_lay (rows := rows) fun r hr => h r (by simp [hr])
    have e1 : PyData.strOk n = true := h1.1
    have ea : PyData.strOk ("at" : Str) = true := by decide +kernel
    have es : PyData.strOk ("sick" : Str) = true := by decide +kernel
    have eb : PyData.strOk ("below" : Str) = true := by decide +kernel
    cases w with
    | at_ p =>
      have e2 : PyData.strOk p = true := h1.2 p rfl
      simp [encRow, encW, PyData.canLayAll0, PyData.canLay0, h2, e1, e2, ea]
    | sick => simp [encRow, encW, PyData.canLayAll0, PyData.canLay0, h2, e1, es]
    | below => simp [encRow, encW, PyData.canLayAll0, PyData.canLay0, h2, e1, eb]
theorem rows_dep : ∀ (rows : List (Str × Wh)), PyData.depthAll (rows.map encRow) ≤ 2
  | [] => Nat.zero_le _
  | (n, w) :: rows => by
    have ih := rows_dep rows
    cases w <;> simp [encRow, encW, PyData.depthAll, PyData.depth] <;> omega
theorem rows_shaped {rows : List (Str × Wh)} (h : ∀ r, r ∈ rows → RowOk r) : SeqAt.shaped (.tuple (rows.map encRow)) = true := by
  have := rows_dep rows
  simp [SeqAt.shaped, PyData.canLay0, PyData.depth, rows_lay h]
  omega
section
variable {P : Program} {w : World} {K : PySem.W.Frag} {mg : Str → Option Value} {base : Heap} {CM CH CV aL : Addr}
def spBellR (K : PySem.W.Frag) (Pt : Addr) : Sp := fun vs H Q _ => ∃ (u v : V) (r : Addr) (s : Ship) (pgs : List Page) (n N : Nat) (ws : List Addr), vs = [u, v, .int ((n : Nat) : Int), .ref r] ∧ Args K H Pt u v s pgs ∧ n < N ∧ N ≤ 50 ∧ BellOk s pgs n ∧ SqT K H r (ws.map V.ref) ∧ Paired (fun w r => RowsAt K H w r) ws (allRows s pgs N) ∧
  ∀ H', ExtN H H' → TabS H' Pt lamQ → Q (.bl true) H'
theorem sc_law_bell_right : FnScope ["_law_ship_here", "_law_pages_here", "_law_bell", "_law_rows", "_law_roll_here", "_law_sick", "_law_wants", "_law_calls", "_law_hands", "_law_lot_here", "_law_stood", "_law_posts", "_law_paper", "_law_many", "_law_cut", "_law_lack", "_law_place", "_law_there", "_law_one", "_law_name", "_law_ahead", "_law_stay"] ["_law_ship_here", "_law_pages_here", "_law_bell", "_law_rows"] (defScope s_law_bell_right) := ⟨rfl, rfl, rfl, by decide +kernel, rfl, by decide +kernel, by decide +kernel⟩
theorem c_law_bell_right (T : Txt K mg CM CH CV aL) {c Pt : Addr} (L : LamD K mg c) (TB : TabB base mg c Pt) : Cal P w K mg base 31 "_law_bell_right" (spBellR K Pt) := by
  have c_muster := c_muster (P := P) (w := w) (base := base) T L TB
  have c_asked := c_asked (P := P) (w := w) (base := base) T L TB
  have c_held := c_held (P := P) (w := w) (base := base) T L TB
  have c_man := c_man (P := P) (w := w) (base := base) T
  have c_lacking := c_lacking (P := P) (w := w) (base := base) T
  have c_law_are_posts := c_law_are_posts (P := P) (w := w) (base := base) T
  have c_law_paper_right := c_law_paper_right (P := P) (w := w) (base := base) T
  have c_law_cut_right := c_law_cut_right (P := P) (w := w) (base := base) T
  have c_law_row_due := c_law_row_due (P := P) (w := w) (base := base) T
  refine cal_of T.d_law_bell_right (fun _ _ _ _ _ _ us hl => match us, hl with | [_, _, _, _], _ => rfl) sc_law_bell_right (fun vs H Q E h => ?_) (fun f cdv A outer s H vs Q E hr h => ?_)
  · obtain ⟨_, _, _, _, _, _, _, _, rfl, _⟩ := h; rfl
  · obtain ⟨u, v, r, s, pgs, n, N, rws, rfl, ⟨du, dv, G, O, hT⟩, hn, hN, B, sr, PR, k⟩ := h
    have W := voyN_wf G O n
    refine ⟨_, (pss_cons (ps_asg (pe_c c_muster hr (by decide) rfl (pa_cons (pv 0) (pa_cons (pv 1) (pa_cons (pv 2) pa_nil)))) (pg_tupK K 4 rfl (pgs_cons (pg_name (i := 4) sc_law_bell_right.nd rfl (Or.inl rfl)) (pgs_cons (pg_name (i := 5) sc_law_bell_right.nd rfl (Or.inl rfl)) (pgs_cons (pg_name (i := 6) sc_law_bell_right.nd rfl (Or.inl rfl)) (pgs_cons (pg_name (i := 7) sc_law_bell_right.nd rfl (Or.inl rfl)) pgs_nil))))))
    (pss_cons (ps_asg (pe_c c_asked hr (by decide) rfl (pa_cons (pv 0) (pa_cons (pv 1) (pa_cons (pv 2) pa_nil)))) (pg_tupK K 3 rfl (pgs_cons (pg_name (i := 8) sc_law_bell_right.nd rfl (Or.inl rfl)) (pgs_cons (pg_name (i := 9) sc_law_bell_right.nd rfl (Or.inl rfl)) (pgs_cons (pg_name (i := 10) sc_law_bell_right.nd rfl (Or.inl rfl)) pgs_nil)))))
    (pss_cons (ps_asg (pe_c c_man hr (by decide) rfl (pa_cons (pv 8) (pa_cons (pv 9) (pa_cons (pv 10) pa_nil)))) (pg_tupK K 2 rfl (pgs_cons (pg_name (i := 11) sc_law_bell_right.nd rfl (Or.inr rfl)) (pgs_cons (pg_name (i := 12) sc_law_bell_right.nd rfl (Or.inl rfl)) pgs_nil))))
    (pss_cons (ps_if (PW.pt (pw_or (pt_not (pt_val (pe_c c_law_are_posts hr (by decide) rfl (pa_cons (pv 8) (pa_cons (pv 9) (pa_cons (pv 11) pa_nil)))))) (pw_or1 (pt_not (pt_val (pe_c c_law_paper_right hr (by decide) rfl (pa_cons (pv 8) (pa_cons (pv 9) (pa_cons (pv 10) (pa_cons (pv 11) (pa_cons (pv 12) pa_nil))))))))))) (pss_one (ps_ret pe_bl)) pss_nil)
    (pss_cons (ps_asg (pe_c c_lacking hr (by decide) rfl (pa_cons (pv 8) (pa_cons (pv 9) pa_nil))) (pg_tupK K 2 rfl (pgs_cons (pg_name (i := 13) sc_law_bell_right.nd rfl (Or.inl rfl)) (pgs_cons (pg_name (i := 14) sc_law_bell_right.nd rfl (Or.inl rfl)) pgs_nil))))
    (pss_cons (ps_set (i := 15) sc_law_bell_right.nd rfl (Or.inl rfl) (pe_callB (cr_sumK K rfl) (by rfl) T.b_sum (by decide +kernel) (pa_cons (pe_lc (own := [("_law_place", 16)]) rfl sc_law_bell_right.nd (pi_tupK K (pv 9)) (blkOk_by (own := [("_law_place", 16)]) (N := ["_law_ship_here", "_law_pages_here", "_law_bell", "_law_rows", "_law_roll_here", "_law_sick", "_law_wants", "_law_calls", "_law_hands", "_law_lot_here", "_law_stood", "_law_posts", "_law_paper", "_law_many", "_law_cut", "_law_lack", "_law_place", "_law_there", "_law_one", "_law_name", "_law_ahead", "_law_stay"]) (sc := defScope s_law_bell_right) (by decide +kernel)) (fun _ _ _ _ _ => (pg_name (i := 16) sc_law_bell_right.nd rfl (Or.inl rfl))) (fun _ _ _ _ _ => pts_nil) (fun _ _ _ _ _ => (pe_op op_sub (pe_ix (ix_tupK K) (pv 16) pe_int (fun _ _ => rfl)) (pe_bmt PySem.F.plainAttrs_tuple PySem.F.slot_tuple_count PySem.F.type_tuple_count (mt_tcountK K) (pv 11) (pa_cons (pe_ix (ix_tupK K) (pv 16) pe_int (fun _ _ => rfl)) pa_nil))))) pa_nil)))
    (pss_cons (ps_if (PW.pt (pw_or (pt_cmpR op_ne (pv 15) (pv 13) (nomark _)) (pw_or1 (pt_not (pt_val (pe_c c_law_cut_right hr (by decide) rfl (pa_cons (pv 8) (pa_cons (pv 9) (pa_cons (pv 13) (pa_cons (pv 14) pa_nil)))))))))) (pss_one (ps_ret pe_bl)) pss_nil)
    (pss_cons (ps_set (i := 17) sc_law_bell_right.nd rfl (Or.inl rfl) (pe_callTy (call_dictPK K rfl) (by rfl) T.b_dict (by decide +kernel) (pa_cons (pe_lc (own := [("_law_one", 18), ("_law_name", 19)]) rfl sc_law_bell_right.nd (pi_zipAK K (by rfl) T.b_zip (pa_cons (pv 8) (pa_cons (pv 11) pa_nil))) (blkOk_by (own := [("_law_one", 18), ("_law_name", 19)]) (N := ["_law_ship_here", "_law_pages_here", "_law_bell", "_law_rows", "_law_roll_here", "_law_sick", "_law_wants", "_law_calls", "_law_hands", "_law_lot_here", "_law_stood", "_law_posts", "_law_paper", "_law_many", "_law_cut", "_law_lack", "_law_place", "_law_there", "_law_one", "_law_name", "_law_ahead", "_law_stay"]) (sc := defScope s_law_bell_right) (by decide +kernel)) (fun _ _ _ _ _ => (pg_tupK K 2 rfl (pgs_cons (pg_name (i := 18) sc_law_bell_right.nd rfl (Or.inl rfl)) (pgs_cons (pg_name (i := 19) sc_law_bell_right.nd rfl (Or.inl rfl)) pgs_nil)))) (fun _ _ _ _ _ => (pts_one (pt_cmpR op_notN (pv 19) pe_non (nomark _)))) (fun _ _ _ _ _ => (pe_tup (pa_cons (pe_ix (ix_tupK K) (pv 18) pe_int (fun _ _ => rfl)) (pa_cons (pv 19) pa_nil))))) pa_nil)))
    (pss_cons (ps_par (i := 20) (j := 21) rfl sc_law_bell_right.nd rfl rfl (by decide) rfl rfl (pa_cons (pe_ifExp (pt_cmpR op_gt (pv 2) pe_int (nomark _)) (pe_callTy (call_dictTK K rfl) (by rfl) T.b_dict (by decide +kernel) (pa_cons (pe_ix (ix_tupK K) (pv 3) (pe_op op_sub (pv 2) pe_int) (fun _ _ => rfl)) pa_nil)) pe_dnewK) (pa_cons pe_dnewK pa_nil)) (by rfl))
    (pss_cons (ps_for PassesOwn.never rfl (pi_tupK K (pe_c c_held hr (by decide) rfl (pa_cons (pv 0) (pa_cons (pv 1) (pa_cons (pv 2) pa_nil))))) (pg_name (i := 19) sc_law_bell_right.nd rfl (Or.inl rfl)) (pss_cons (ps_if (PW.pt (pw_or (pt_cmp (pc_dnotin (hu_of hr) (pv 19) (pv 20)) rfl) (pw_or (pt_cmpR op_ne (pe_ix (ix_tupK K) (pe_dget (hu_of hr) (pv 20) (pv 19) (fun _ _ => rfl)) pe_int (fun _ _ => rfl)) pe_str (nomark _)) (pw_or1 (pt_cmpR (op_in_seqK K) (pv 19) (pe_lc (own := [("_law_one", 18)]) rfl sc_law_bell_right.nd (pi_tupK K (pv 8)) (blkOk_by (own := [("_law_one", 18)]) (N := ["_law_ship_here", "_law_pages_here", "_law_bell", "_law_rows", "_law_roll_here", "_law_sick", "_law_wants", "_law_calls", "_law_hands", "_law_lot_here", "_law_stood", "_law_posts", "_law_paper", "_law_many", "_law_cut", "_law_lack", "_law_place", "_law_there", "_law_one", "_law_name", "_law_ahead", "_law_stay"]) (sc := defScope s_law_bell_right) (by decide +kernel)) (fun _ _ _ _ _ => (pg_name (i := 18) sc_law_bell_right.nd rfl (Or.inl rfl))) (fun _ _ _ _ _ => pts_nil) (fun _ _ _ _ _ => (pe_ix (ix_tupK K) (pv 18) pe_int (fun _ _ => rfl)))) rfl))))) (pss_one (ps_ret pe_bl)) pss_nil)
    (pss_one (ps_dput (hu_of hr) (pv 21) (pv 19) (pe_ix (ix_tupK K) (pe_dget (hu_of hr) (pv 20) (pv 19) (fun _ _ => rfl)) pe_int (fun _ _ => rfl)) rfl))))
    (pss_one (ps_ret (pe_cmpR (op_eqDK K hr.units) (pe_ix (ix_tupK K) (pv 3) (pv 2) (fun _ _ => rfl)) (pe_c c_law_row_due hr (by decide) rfl (pa_cons (pv 4) (pa_cons (pv 5) (pa_cons (pv 17) (pa_cons (pv 21) pa_nil))))) (nomark _)))))))))))))), ?_⟩
    refine ⟨_, rfl, _, rfl, _, rfl, u, v, s, pgs, ((n : Nat) : Int), rfl, du, dv, G.sz, O.len, fun p hp => (O.ok p hp).ok, hT, fun H1 tv E1 T1 TA => ?_⟩
    rw [B.told] at TA
    obtain ⟨q, r1, r2, r3, r4, wws, rfl, a1, a2, a3, a4, a5, a6⟩ := TA.ex
    refine ⟨q, _, rfl, a1, rfl, _, _, rfl, _, _, rfl, _, _, rfl, _, _, rfl, rfl, ?_⟩
    have du1 := du.mono (extN_tups E1)
    have dv1 := dv.mono (extN_tups E1)
    refine ⟨_, rfl, _, rfl, _, rfl, u, v, s, pgs, n, rfl, ⟨du1, dv1, G, O, T1⟩, by omega, fun H2 aq E2 T2 AA => ?_⟩
    obtain ⟨b1, b2, b3, c1, c2, c3, c4⟩ := AA.ex
    refine ⟨aq, _, rfl, c1, rfl, _, _, rfl, _, _, rfl, _, _, rfl, rfl, ?_⟩
    have MO := B.mok
    have LN := B.lot
    have hap := B.apart
    have hnd := B.hnd
    have hrows := B.rows
    have eask : askP (askF s (voyN s pgs n)) = manF (askF s (voyN s pgs n)).hands (askF s (voyN s pgs n)).lot (askF s (voyN s pgs n)).stood := rfl
    generalize ek : askF s (voyN s pgs n) = kk at *
    have szh := MO.szH
    refine ⟨_, rfl, _, rfl, _, rfl, _, _, _, kk.hands, kk.lot, kk.stood, rfl, c2, c3, c4, MO, fun H3 mq p1 r2' posts U VV S3 R3 m1 m2 m3 m4 => ?_⟩
    refine ⟨mq, _, rfl, m1, rfl, _, _, rfl, _, _, rfl, rfl, ?_⟩
    refine st_norm (σ' := [some u, some v, some (.int ((n : Nat) : Int)), some (.ref r), some (.ref r1), some (.ref r2), some (.ref r3), some (.ref r4), some (.ref b1), some (.ref b2), some (.ref b3), some (.ref p1), some r2', none, none, none, none, none, none, none, none, none]) rfl ?_
    have c23 := c2.mono S3.tups
    have c33 := c3.mono S3.tups
    have c43 := c4.mono S3.tups
    refine ⟨_, rfl, _, rfl, _, rfl, _, _, p1, kk.hands, kk.lot, posts, rfl, c23, c33, m2, posts_ok R3 MO LN, fun H4 S4 => ⟨_, rfl, iteF ?_⟩⟩
    refine ⟨_, rfl, _, rfl, _, rfl, _, rfl, _, rfl, _, _, _, _, p1, kk.hands, kk.lot, kk.stood, posts, U, VV, rfl, c23.mono S4.tups, c33.mono S4.tups, c43.mono S4.tups, m2.mono S4, m4.mono S4.tups, paper_ok R3 MO LN, fun H5 S5 => ⟨_, rfl, iteF ?_⟩⟩
    have S35 := S4.trans S5
    have c25 := c23.mono S35.tups
    have c35 := c33.mono S35.tups
    refine ⟨_, rfl, _, rfl, _, _, kk.hands, kk.lot, rfl, c25, c35, ⟨szh, LN.sz, LN.mn⟩, fun H6 lq cr many F S6 l1 l2 CC => ?_⟩
    refine ⟨lq, _, rfl, l1, rfl, _, _, rfl, _, _, rfl, rfl, ?_⟩
    refine st_norm (σ' := [some u, some v, some (.int ((n : Nat) : Int)), some (.ref r), some (.ref r1), some (.ref r2), some (.ref r3), some (.ref r4), some (.ref b1), some (.ref b2), some (.ref b3), some (.ref p1), some r2', some (.int many), some (.ref cr), none, none, none, none, none, none, none]) rfl ?_
    have S36 := S35.trans S6
    have c26 := c25.mono S6.tups
    have c36 := c35.mono S6.tups
    have m26 := m2.mono S36
    obtain ⟨vb, ps, eb, v1, v2⟩ := id c36.tup_inv
    have lps : ps.length = kk.lot.length := by have := v2.length; rwa [List.length_map] at this
    have lsz := LN.sz
    refine ⟨_, rfl, vb, eb, ⟨_, v1⟩, fun D hD => ?_⟩
    refine lc_run (walk_tup (K := K) (a := vb) (xs := ps)) (H0 := H6) (fun j ac _ => ac = ((kk.lot.take j).map fun p => p.many - ((posts.count (some p.nm) : Nat) : Int)).map V.int) (Same.refl _) hD (fun _ _ => rfl) (fun H4 S4 => S4.tup v1) ?_ ?_
    · rintro j x ac H7 H8 hj hD0 S7 e7 rfl ⟨rfl, hx⟩
      obtain ⟨p, hp, dp⟩ := item_inv (a := vb) v2 hx
      obtain ⟨b, rfl, g1⟩ := place_inv (dp.mono S7.tups)
      refine ⟨rfl, g_yes (iteT ?_)⟩
      refine ⟨_, rfl, b, _, _, .int p.many, rfl, rfl, g1, rfl, _, rfl, ⟨p1, _, rfl, m26.mono S7⟩, _, rfl, b, _, _, .str p.nm, rfl, rfl, g1, rfl, p1, _, .str p.nm, rfl, rfl, (m26.mono S7).sq, rfl, flat_oS _, _, _, rfl, rfl, ?_⟩
      rw [cnt_oS]
      refine lc_next hD0 S7 (Same.refl _) e7 (by rw [List.length_map, List.length_map, List.length_take]; omega) fun H9 S9 e9 k9 => ?_
      rw [List.take_add_one, hp, List.map_append, List.map_append]
      rfl
    rintro ac H7 S7 e7 rfl
    rw [lps, List.take_length] at e7
    refine ⟨D, _, rfl, sql_of e7, ?_⟩
    rw [lack_ok R3 MO LN CC]
    refine st_norm (σ' := [some u, some v, some (.int ((n : Nat) : Int)), some (.ref r), some (.ref r1), some (.ref r2), some (.ref r3), some (.ref r4), some (.ref b1), some (.ref b2), some (.ref b3), some (.ref p1), some r2', some (.int many), some (.ref cr), some (.int many), none, none, none, none, none, none]) rfl ?_
    refine ⟨_, rfl, _, rfl, rfl, _, rfl, iteSame ?_⟩
    have c27 := c26.mono S7.tups
    have c37 := c36.mono S7.tups
    refine ⟨_, rfl, _, rfl, _, rfl, _, rfl, _, _, cr, kk.hands, kk.lot, many, cutN kk.lot F, rfl, c27, c37, S7.tup l2, cut_ok2 LN szh CC, fun H8 S8 => ⟨_, rfl, iteF ?_⟩⟩
    have S38 := (S36.trans S7).trans S8
    have c28 := c27.mono S8.tups
    have m28 := (m26.mono S7).mono S8
    obtain ⟨ub, us, eu, u1, u2⟩ := id c28.tup_inv
    have lus : us.length = kk.hands.length := by have := u2.length; rwa [List.length_map] at this
    have lpo : posts.length = kk.hands.length := (posts_ok R3 MO LN).len
    refine ⟨_, rfl, _, rfl, ub, p1, us, posts.map oS, by rw [eu], .inr ⟨u1, m28.sq, fun D2 hD2 => ?_⟩⟩
    refine lc_run (walk_zipT (K := K) (a := ub) (b := p1) (xs := us) (ys := posts.map oS) rfl) (H0 := H8) (fun j ac H4 => ∃ ps : List Addr, ac = ps.map V.ref ∧ ∃ vs : List (Key × V), Paired (fun p kv => SqT K H4 p [kV kv.1, kv.2]) ps vs ∧ DR RS vs (((kk.hands.zip posts).take j).filterMap fun x => x.2.map fun n => (x.1.nm, n))) (Same.refl _) hD2 (fun _ _ => ⟨[], rfl, [], .nil, .nil⟩) (fun H4 S4 => ⟨S4.tup u1, S4.tup m28.sq⟩) ?_ ?_
    · rintro j x ac H9 H10 hj hD0 S9 e9 ⟨ps, rfl, vs, hp, hv⟩ ⟨t, x1, x2, rfl, ht, rfl, hx1, hx2⟩
      have hx1 : us[j]? = some x1 := hx1
      have hx2 : (posts.map oS)[j]? = some x2 := hx2
      obtain ⟨h, hh, dh⟩ := item_inv (a := ub) u2 hx1
      have hjp : j < posts.length := by
        rw [List.length_map] at hj
        omega
      have hpj : posts[j]? = some posts[j] := List.getElem?_eq_getElem hjp
      rw [List.getElem?_map, hpj] at hx2
      have hx2 : oS posts[j] = x2 := Option.some.inj hx2
      generalize posts[j] = o at hpj hx2
      subst hx2
      have St : Same H9 (upd H9 t (.tup [x1, oS o])) := Same.new ht
      have et : upd H9 t (.tup [x1, oS o]) t = some (.tup [x1, oS o]) := upd_same
      generalize upd H9 t (.tup [x1, oS o]) = H10 at St et ⊢
      have dh5 := (dh.mono S9.tups).mono St.tups
      obtain ⟨ha, sa, rfl, h1, h2⟩ := hand_inv dh5
      have hzip : (kk.hands.zip posts)[j]? = some (h, o) := by rw [List.getElem?_zip_eq_some]; exact ⟨hh, hpj⟩
      have hpl : ps.length ≤ 1000 := by
        have l1 := paired_len hp
        have l2 := paired_len hv
        have l3 := List.length_filterMap_le (fun x : Hand × Option Str => x.2.map fun n => (x.1.nm, n)) ((kk.hands.zip posts).take j)
        rw [List.length_take, List.length_zip] at l3
        omega
      refine ⟨t, _, rfl, sqt_of et, rfl, _, _, rfl, _, _, rfl, rfl, rfl, ?_⟩
      cases o with
      | none =>
        refine ⟨_, rfl, rfl, _, rfl, iteF ?_⟩
        refine lc_skip S9 St e9 ⟨ps, rfl, vs, hp.mono fun p kv x => St.tup x, ?_⟩
        rw [List.take_add_one, hzip, List.filterMap_append]
        simpa using hv
      | some x =>
        refine ⟨_, rfl, rfl, _, rfl, iteT ?_⟩
        refine ⟨_, rfl, ha, _, _, .str h.nm, rfl, rfl, h1, rfl, _, rfl, by show 2 ≤ sizeLine; decide, fun p hp2 => newG hp2 fun H6 S6 e6 => ?_⟩
        refine lc_next hD0 S9 (St.trans S6) e9 (by rw [List.length_map]; omega) fun H7 S7 e7 k7 => ?_
        have t7 := tups_but ((St.trans S6) _ _ e9) k7
        refine ⟨ps ++ [p], by rw [List.map_append]; rfl, vs ++ [(.inr h.nm, .str x)], Paired.snoc (hp.mono fun p kv x => t7.sq ((St.trans S6).tup x)) (t7.sq (show SqT K H6 p [kV (.inr h.nm), .str x] from sqt_of e6)), ?_⟩
        rw [List.take_add_one, hzip, List.filterMap_append]
        exact Paired.snoc hv ⟨rfl, rfl⟩
    rintro ac H9 S9 e9 ⟨ps2, rfl, vs, hp, hv⟩
    have hmin : min us.length (posts.map oS).length = (kk.hands.zip posts).length := by rw [List.length_map, List.length_zip]; omega
    rw [hmin, List.take_length] at hv
    refine ⟨D2, ps2, vs, rfl, sql_of e9, hp, fun dh hdh => newG hdh fun H10 S10 e10 => ?_⟩
    have R17 : DR RS (mergeK [] vs) (placesF kk.hands posts) := DR.merge (l := []) .nil hv
    generalize mergeK [] vs = kv17 at e10 R17
    have E12 := E1.trans E2
    have S210 := ((S3.trans S38).trans S9).trans S10
    have E10 : ExtN H H10 := E12.trans (extN_same S210)
    dsimp only [gName]
    refine st_norm (σ' := [some u, some v, some (.int ((n : Nat) : Int)), some (.ref r), some (.ref r1), some (.ref r2), some (.ref r3), some (.ref r4), some (.ref b1), some (.ref b2), some (.ref b3), some (.ref p1), some r2', some (.int many), some (.ref cr), some (.int many), none, some (.ref dh), none, none, none, none]) rfl ?_
    have sr10 : SqT K H10 r (rws.map V.ref) := (extN_tups E10).sq sr
    have PR10 : Paired (fun w r => RowsAt K H10 w r) rws (allRows s pgs N) := paired_imp PR fun a b h => RowsAt.keep h (extN_tups E10) (extN_frz E10)
    refine g_seq ?_
    show tCons (tIf _ _ _) _ _ _ _
    refine g_cons (g_if2 (fun z H' => ∃ d kv, z = .ref d ∧ Same H10 H' ∧ H' d = some (.dK kv) ∧ ∀ x p, valA (heldF s (voyN s pgs n)) x = some p → ∃ vv, valV kv (.inr x) = some vv ∧ Dt K H' vv (encW (.at_ p))) ?_ ?_)
    · cases n with
      | zero =>
        refine .inr ⟨fun R hR => ⟨_, rfl, _, _, rfl, rfl, _, rfl, ?_⟩, fun Q' hQ d hd => newG hd fun H11 S11 e11 => hQ _ _ ⟨d, [], rfl, S11, e11, fun x p h => ?_⟩⟩
        · rw [decide_eq_false (by decide)]
          exact hR
        · rw [B.none rfl] at h
          cases h
      | succ m =>
        refine .inl ⟨fun R hR => ⟨_, rfl, _, _, rfl, rfl, _, rfl, ?_⟩, fun Q' hQ => ?_⟩
        · rw [decide_eq_true (by omega)]
          exact hR
        · obtain ⟨wm, hwm, RA⟩ := paired_at PR10 (allRows_at (s := s) (pgs := pgs) (N := N) (m := m) (by omega))
          obtain ⟨wps, tf, td⟩ := RA.ex
          obtain ⟨kvs, kp, kd⟩ := rows_kvs td
          have em : (((m + 1 : Nat)) : Int) - 1 = ((m : Nat) : Int) := by omega
          refine ⟨_, rfl, _, rfl, _, _, rfl, rfl, r, _, _, .ref wm, rfl, rfl, sr10, by rw [em]; exact at_of rfl (map_at hwm), wm, wps, kvs, rfl, tf, kp, fun d hd => newG hd fun H11 S11 e11 => hQ _ _ ⟨d, _, rfl, S11, e11, fun x p h => ?_⟩⟩
          have DRM : DR (fun v w => Dt K H10 v (encW w)) (mergeK [] kvs) (mergeA [] (rowsF s (voyN s pgs m))) := DR.merge (l := []) .nil kd
          have ha := B.ahead m rfl x p h
          rcases DRM.val (n := x) with ⟨w1, w2⟩ | ⟨wh, vv, w1, w2, dw⟩
          · rw [ha] at w1; cases w1
          · rw [ha] at w1
            cases w1
            exact ⟨vv, w2, dw.mono S11.tups⟩
    rintro _ H11 ⟨d20, kv20, rfl, S11, e11, hA⟩
    refine fun d21 hd21 => newG hd21 fun H12 S12 e12 => ⟨_, _, rfl, ?_⟩
    dsimp only [gName]
    refine st_norm (σ' := [some u, some v, some (.int ((n : Nat) : Int)), some (.ref r), some (.ref r1), some (.ref r2), some (.ref r3), some (.ref r4), some (.ref b1), some (.ref b2), some (.ref b3), some (.ref p1), some r2', some (.int many), some (.ref cr), some (.int many), none, some (.ref dh), none, none, some (.ref d20), some (.ref d21)]) rfl ?_
    have S1012 := S11.trans S12
    have S212 := S210.trans S1012
    have E012 : ExtN H H12 := E10.trans (extN_same S1012)
    refine ⟨_, rfl, _, rfl, _, rfl, u, v, s, pgs, n, rfl, ⟨du.mono (extN_tups E012), dv.mono (extN_tups E012), G, O, T2.ext S212⟩, by omega, fun H13 hq E13 T13 sh => ⟨hq, rfl, ⟨_, sh⟩, ?_⟩⟩
    have e20 : H13 d20 = some (.dK kv20) := E13 _ _ (S12 _ _ e11) fun _ z => nomatch z
    have e21 : H13 d21 = some (.dK []) := E13 _ _ e12 fun _ z => nomatch z
    have e17 : H13 dh = some (.dK kv17) := E13 _ _ (S1012 _ _ e10) fun _ z => nomatch z
    have n20 : d20 ≠ d21 := ne_of_none e11 hd21
    have n17 : dh ≠ d21 := ne_of_none (S11 _ _ e10) hd21
    have T1013 : Tups H10 H13 := S1012.tups.trans (extN_tups E13)
    have hA13 : ∀ x p, valA (heldF s (voyN s pgs n)) x = some p → ∃ vv, valV kv20 (.inr x) = some vv ∧ Dt K H13 vv (encW (.at_ p)) := fun x p h => by
      obtain ⟨vv, q1, q2⟩ := hA x p h
      exact ⟨vv, q1, (q2.mono S12.tups).mono (extN_tups E13)⟩
    have c13 := (c28.mono (S9.trans S10).tups).mono T1013
    have lnames : (srt (keysA (heldF s (voyN s pgs n)))).length ≤ 60 := by
      have h1 := heldF_len s (voyN s pgs n)
      have h2 := roll_len G O n
      rw [srt_len]
      unfold keysA
      rw [List.length_map]
      omega
    refine for_it (walk_tup (K := K) (a := hq) (xs := (srt (keysA (heldF s (voyN s pgs n)))).map V.str)) (fun i σ H14 => ∃ (z18 z19 : Option V) (kv : List (Key × V)), σ = [some u, some v, some (.int ((n : Nat) : Int)), some (.ref r), some (.ref r1), some (.ref r2), some (.ref r3), some (.ref r4), some (.ref b1), some (.ref b2), some (.ref b3), some (.ref p1), some r2', some (.int many), some (.ref cr), some (.int many), none, some (.ref dh), z18, z19, some (.ref d20), some (.ref d21)] ∧ Km d21 H13 H14 ∧ H14 d21 = some (.dK kv) ∧ DR RS kv ((stayF s (voyN s pgs n)).take i)) ⟨_, _, [], rfl, Km.same (Same.refl _), e21, .nil⟩ (fun i σ H14 _ ⟨_, _, _, _, k14, _, _⟩ => (km_tups k14 e21).sq sh) ?_ ?_
    · rintro i x σ H14b H14 hi ⟨z18, z19, kv, rfl, k14, e14, R14⟩ ⟨rfl, hx⟩
      rw [List.getElem?_map] at hx
      obtain ⟨nm, hnm, rfl⟩ := Option.map_eq_some_iff.mp hx
      have T14 := km_tups k14 e21
      have hkey := (srt_perm _).mem_iff.mp (List.mem_of_getElem? hnm)
      obtain ⟨p, hp⟩ := valA_key hkey
      obtain ⟨vv, q1, q2⟩ := hA13 nm p hp
      obtain ⟨t, txs, rfl, tq, td⟩ := Dt.tup_inv (q2.mono T14)
      have htx : txs = [.str "at", .str p] := by
        cases td with
        | cons d1 td =>
          cases td with
          | cons d2 td =>
            cases td
            cases d1
            cases d2
            rfl
      subst htx
      have e20' := k14 _ _ n20 e20
      have dg : DGet H14 d20 (.str nm) (some (.ref t)) := by rw [← q1]; exact DGet.k (k := .inr nm) e20'
      refine ⟨_, rfl, _, rfl, d20, _, rfl, dg, _, rfl, ?_⟩
      refine iteF ⟨_, rfl, _, rfl, d20, .ref t, rfl, dg, t, _, _, .str "at", rfl, rfl, tq, rfl, rfl, _, rfl, ?_⟩
      refine iteSame ?_
      have c14 := c13.mono T14
      obtain ⟨ub2, us2, eu2, y1, y2⟩ := id c14.tup_inv
      have lus2 : us2.length = kk.hands.length := by have := y2.length; rwa [List.length_map] at this
      refine ⟨_, rfl, _, rfl, ub2, eu2, ⟨_, y1⟩, fun D5 hD5 => ?_⟩
      refine lc_run (walk_tup (K := K) (a := ub2) (xs := us2)) (H0 := H14) (fun j ac _ => ac = ((kk.hands.take j).map Hand.nm).map V.str) (Same.refl _) hD5 (fun _ _ => rfl) (fun H6 S6 => S6.tup y1) ?_ ?_
      · rintro j x ac H15 H16 hj hD0 S15 e15 rfl ⟨rfl, hx⟩
        obtain ⟨h, hh, dh⟩ := item_inv (a := ub2) y2 hx
        obtain ⟨ha, sa, rfl, h1, h2⟩ := hand_inv (dh.mono S15.tups)
        refine ⟨rfl, g_yes (iteT ?_)⟩
        refine ⟨_, rfl, ha, _, _, .str h.nm, rfl, rfl, h1, rfl, ?_⟩
        refine lc_next hD0 S15 (Same.refl _) e15 (by rw [List.length_map, List.length_map, List.length_take]; omega) fun H17 S17 e17 k17 => ?_
        rw [List.take_add_one, hh, List.map_append, List.map_append]
        rfl
      rintro ac H15 S15 e15 rfl
      rw [lus2, List.take_length] at e15
      refine ⟨D5, _, rfl, .inl (sql_of e15), rfl, flat_strs _, _, rfl, ?_⟩
      rw [if_neg Bool.false_ne_true, in_strs, decide_eq_false fun z => hap nm z hkey]
      refine iteF ?_
      have dg5 : DGet H15 d20 (.str nm) (some (.ref t)) := by rw [← q1]; exact DGet.k (k := .inr nm) (S15 _ _ e20')
      have e215 := S15 _ _ e14
      have hst : (stayF s (voyN s pgs n))[i]? = some (nm, p) := by
        unfold stayF
        rw [map_at hnm, hp]
        rfl
      have hni : nm ∉ keysA ((stayF s (voyN s pgs n)).take i) := fun z => by
        have hnd2 := B.stay
        have hl : i < (stayF s (voyN s pgs n)).length := (List.getElem?_eq_some_iff.mp hst).1
        have e3 : stayF s (voyN s pgs n) = (stayF s (voyN s pgs n)).take i ++ (nm, p) :: (stayF s (voyN s pgs n)).drop (i + 1) := by
          have e4 := List.drop_eq_getElem_cons hl
          have e5 := List.getElem_of_getElem? hst
          obtain ⟨_, e5⟩ := e5
          rw [e5] at e4
          rw [← e4, List.take_append_drop]
        rw [e3] at hnd2
        unfold keysA at hnd2
        rw [List.map_append, List.nodup_append] at hnd2
        exact hnd2.2.2 nm z nm (by simp) rfl
      have lkv := paired_len R14
      have lst : (stayF s (voyN s pgs n)).length ≤ 60 := by unfold stayF; rw [List.length_map]; exact lnames
      rw [List.length_take] at lkv
      refine ⟨_, rfl, _, rfl, d20, .ref t, rfl, dg5, t, _, _, .str p, rfl, rfl, S15.tup tq, rfl, _, rfl, _, rfl, d21, _, rfl, DPut.k (k := .inr nm) e215 (sz100' (by omega)), ?_⟩
      refine ⟨_, _, _, rfl, fun b o hb e => by rw [upd_ne hb]; exact S15 _ _ (k14 b o hb e), upd_same, ?_⟩
      rw [List.take_add_one, hst]
      have := R14.put (n := nm) (a := p) (v := .str p) rfl
      rw [putA_new hni] at this
      exact this
    · rintro σ H14 ⟨z18, z19, kv, rfl, k14, e14, R14⟩
      have hlen : ((srt (keysA (heldF s (voyN s pgs n)))).map V.str).length = (stayF s (voyN s pgs n)).length := by unfold stayF; rw [List.length_map, List.length_map]
      rw [hlen, List.take_length] at R14
      have T14 := km_tups k14 e21
      have E14 : ExtN H H14 := fun b o hb hn => by
        have h13 := E13 _ _ (E012 _ _ hb hn) hn
        have hne : b ≠ d21 := fun z => by
          have h11 : H11 b = some o := S11 _ _ (E10 _ _ hb hn)
          rw [z, hd21] at h11
          cases h11
        exact k14 _ _ hne h13
      have TT14 : TabS H14 Pt lamQ := tab_but (l := [d21]) T13 (fun b hb => by
        have : b = d21 := by simpa using hb
        subst this
        exact .inl ⟨_, e21⟩) fun b o hb e => k14 b o (by simpa using hb) e
      obtain ⟨wn, hwn, RA⟩ := paired_at PR (allRows_at (s := s) (pgs := pgs) (N := N) (m := n) hn)
      obtain ⟨wps, tf, td⟩ := RA.ex
      have T014 := extN_tups E14
      have T114 : Tups H1 H14 := ((((extN_tups E2).trans S212.tups).trans (extN_tups E13)).trans T14)
      have eR := R3.is
      have hrow := hrows
      rw [eask, ← eR] at hrow
      have hroll := roll_len G O n
      refine ⟨_, rfl, _, rfl, r, _, _, .ref wn, rfl, rfl, T014.sq sr, at_of rfl (map_at hwn), ?_⟩
      refine ⟨_, rfl, _, rfl, _, rfl, _, rfl, _, _, dh, d21, (voyN s pgs n).told.roll, (voyN s pgs n).told.sick, kv17, kv, placesF kk.hands posts, stayF s (voyN s pgs n), rfl, a2.mono T114, a3.mono T114, k14 _ _ n17 e17, R17, e14, R14, by omega, fun H16 q S16 dq => ?_⟩
      rw [← hrow] at dq
      have dw : Dt K H16 (.ref wn) (.tuple ((rowsF s (voyN s pgs n)).map encRow)) := .tup (S16.tup (T014.sq tf.sq)) ((td.mono T014).mono S16.tups)
      refine ⟨_, _, dw.dp, dq.dp, rows_shaped B.ok, rows_shaped B.ok, ?_⟩
      have ee : PyData.eqv (.tuple ((rowsF s (voyN s pgs n)).map encRow)) (.tuple ((rowsF s (voyN s pgs n)).map encRow)) = true := by simp only [PyData.eqv, eqv_rows]
      rw [ee]
      exact k H16 (E14.trans (extN_same S16)) (TT14.ext S16)
end
end WS
/-! The law's draws: a hand, a number, one of some, an order. -/
namespace WS
open PySem PySem.Spec PyProof.Rows L2 WM
open C8 (pe_gc pe_c pe_mk pe_mt pe_mt0)
/-- a hand that draws: b bounds how often it has mixed -/
def HandAt (H : Hp) (h : Addr) (b : Nat) : Prop := ∃ d0 d1 d2 : Int, H h = some (.lst [.int d0, .int d1, .int d2]) ∧ 0 ≤ d1 ∧ d1 < 4611686018427387904 ∧ 0 ≤ d2 ∧ d2 ≤ ((b : Nat) : Int)
theorem HandAt.up {H : Hp} {h : Addr} {b c : Nat} (A : HandAt H h b) (hbc : b ≤ c) : HandAt H h c := by
  obtain ⟨d0, d1, d2, e, a1, a2, a3, a4⟩ := A
  exact ⟨d0, d1, d2, e, a1, a2, a3, by omega⟩
theorem HandAt.same {H H' : Hp} {h : Addr} {b : Nat} (A : HandAt H h b) (s : Same H H') : HandAt H' h b := by
  obtain ⟨d0, d1, d2, e, a⟩ := A
  exact ⟨d0, d1, d2, s _ _ e, a⟩
theorem HandAt.lst {H : Hp} {h : Addr} {b : Nat} (A : HandAt H h b) : ∃ xs, H h = some (.lst xs) := by
  obtain ⟨d0, d1, d2, e, a⟩ := A
  exact ⟨_, e⟩
theorem km_lst {h : Addr} {H H' : Hp} (k : Km h H H') {xs : List V} (e : H h = some (.lst xs)) : Tups H H' := fun a ys r => by
  have hn : a ≠ h := fun z => by subst z; exact not_tup_lst e _ r
  rcases r with r | ⟨o, r⟩
  · exact .inl (k _ _ hn r)
  · exact .inr ⟨o, k _ _ hn r⟩
theorem HandAt.tups {H H' : Hp} {h : Addr} {b : Nat} (A : HandAt H h b) (k : Km h H H') : Tups H H' := by
  obtain ⟨xs, e⟩ := A.lst
  exact km_lst k e
theorem HandAt.ne {H : Hp} {h p : Addr} {b : Nat} (A : HandAt H h b) (hp : H p = none) : p ≠ h := fun e => by
  obtain ⟨xs, q⟩ := A.lst
  rw [← e, hp] at q
  cases q
theorem HandAt.eq {H H' : Hp} {h : Addr} {b : Nat} (A : HandAt H h b) (e : H' h = H h) : HandAt H' h b := by
  obtain ⟨d0, d1, d2, q, a⟩ := A
  exact ⟨d0, d1, d2, by rw [e]; exact q, a⟩
theorem pick_perm {α : Type} : ∀ (l : List α) (j : Nat) (hj : j < l.length), (l[j] :: l.eraseIdx j).Perm l
  | [], _, h => by simp at h
  | x :: l, 0, _ => List.Perm.refl _
  | x :: l, j + 1, h => by
    have hj : j < l.length := by simpa using h
    have ih := pick_perm l j hj
    show (l[j] :: x :: l.eraseIdx j).Perm (x :: l)
    exact (List.Perm.swap _ _ _).trans (ih.cons x)
/-! ### comprehensions whose turns change things -/
def LcPvB (B : List Addr) (H0 : Hp) (D : Addr) (Acc : Nat → List V → Hp → Prop) (i : Nat) (H : Hp) : Prop := ∃ ac, ButL B H0 H ∧ H D = some (.lst ac) ∧ Acc i ac H
def LcKB (B : List Addr) (H0 : Hp) (D : Addr) (Acc : Nat → List V → Hp → Prop) (i : Nat) (y : V) (H : Hp) : Prop := ∃ acc, H D = some (.lst acc) ∧ acc.length < sizeLine ∧ LcPvB B H0 D Acc (i + 1) (upd H D (.lst (acc ++ [y])))
theorem lcB_next {B : List Addr} {H0 H4 : Hp} {D : Addr} {Acc : Nat → List V → Hp → Prop} {i : Nat} {y : V} {ac : List V} (hD : H0 D = none) (s : ButL B H0 H4) (e : H4 D = some (.lst ac)) (hl : ac.length < 100000)
    (a : ∀ H5, H5 D = some (.lst (ac ++ [y])) → (∀ b, b ≠ D → H5 b = H4 b) → Acc (i + 1) (ac ++ [y]) H5) : LcKB B H0 D Acc i y H4 :=
  ⟨ac, e, sz100' hl, ac ++ [y], fun b o hb h => by rw [upd_ne (ne_of_none h hD)]; exact s b o hb h, upd_same, a _ upd_same fun _ hb => upd_ne hb⟩
theorem lcB_skip {B : List Addr} {H0 H4 : Hp} {D : Addr} {Acc : Nat → List V → Hp → Prop} {i : Nat} {ac : List V} (s : ButL B H0 H4) (e : H4 D = some (.lst ac)) (a : Acc (i + 1) ac H4) : LcPvB B H0 D Acc (i + 1) H4 :=
  ⟨ac, s, e, a⟩
theorem lc_runB {J : It} {n : Nat} {G : Hp → Prop} {Y : Nat → Hp → V → Hp → Prop} (w : Walk J n G Y) {g : TG} {tt : TT} {te : TE} {vs : List Nat} {σ : L2.St} {H1 : Hp} {D : Addr} {Qd : Hp → Prop} (B : List Addr) (Acc : Nat → List V → Hp → Prop)
    (hD : H1 D = none) (h0 : ∀ H, Same H1 H → Acc 0 [] H) (hG : ∀ H, ButL B H1 H → G H)
    (hs : ∀ i x ac H H', i < n → H1 D = none → ButL B H1 H → H D = some (.lst ac) → Acc i ac H → Y i H x H' → g x (wipe σ vs) H' fun σ2 H2 => wipe σ2 vs = wipe σ vs ∧ tt σ2 H2 fun b H3 =>
      if b = true then te σ2 H3 (LcKB B H1 D Acc i) else LcPvB B H1 D Acc (i + 1) H3)
    (hd : ∀ ac H, ButL B H1 H → H D = some (.lst ac) → Acc n ac H → Qd H) :
    ∃ W : Nat → Nat → Hp → Prop, (∃ m, W 0 m (upd H1 D (.lst []))) ∧ ∀ i m H, W i m H →
      (J.stop i H ∧ Qd H) ∨ (J.go i H ∧ ∃ Nx : Hp → Prop, (∀ H', Nx H' → ∃ m', m' < m ∧ W (i + 1) m' H') ∧ ∀ x H', J.yld i H x H' → g x (wipe σ vs) H' fun σ2 H2 => wipe σ2 vs = wipe σ vs ∧ tt σ2 H2 fun b H3 =>
        if b = true then te σ2 H3 fun y H4 => ∃ acc, H4 D = some (.lst acc) ∧ acc.length < sizeLine ∧ Nx (upd H4 D (.lst (acc ++ [y]))) else Nx H3) := by
  refine lc_it w (H1 := H1) (LcPvB B H1 D Acc) ⟨[], fun b o _ h => (Same.new hD) b o h, upd_same, h0 _ (Same.new hD)⟩ (fun i H _ ⟨_, s, _⟩ => hG H s) ?_ (fun H ⟨ac, s, e, a⟩ => hd ac H s e a)
  rintro i x H H' hi ⟨ac, s, e, a⟩ y
  exact hs i x ac H H' hi hD s e a y
theorem butL_same {B : List Addr} {H H' : Hp} (s : Same H H') : ButL B H H' := fun b o _ e => s b o e
theorem butL_trans {B : List Addr} {H H1 H2 : Hp} (s : ButL B H H1) (t : ButL B H1 H2) : ButL B H H2 := fun b o hb e => t b o hb (s b o hb e)
theorem butL_km {h : Addr} {B : List Addr} {H H' : Hp} (k : Km h H H') (hm : h ∈ B) : ButL B H H' := fun b o hb e => k b o (fun z => hb (z ▸ hm)) e
theorem km_butL {h : Addr} {H H' : Hp} (k : ButL [h] H H') : Km h H H' := fun b o hb e => k b o (by simpa using hb) e
theorem at_lt {α : Type} {xs : List α} {r : Int} (h0 : 0 ≤ r) (h1 : r < ((xs.length : Nat) : Int)) : ∃ x, atI xs r = some x ∧ x ∈ xs := by
  obtain ⟨i, rfl⟩ : ∃ i : Nat, r = ((i : Nat) : Int) := ⟨r.toNat, by omega⟩
  have hi : i < xs.length := by omega
  exact ⟨xs[i], atI_nat (List.getElem?_eq_getElem hi), List.getElem_mem hi⟩
section
variable {P : Program} {w : World} {K : PySem.W.Frag} {mg : Str → Option Value} {base : Heap} {CM CH CV aL : Addr}
def spLHand (K : PySem.W.Frag) : Sp := fun vs H Q _ => ∃ (a : Addr) (xs : List Int) (k : Int), vs = [.ref a, .int k] ∧ SqL K H a (xs.map V.int) ∧ 0 ≤ k ∧ k ≤ 1 ∧
  ∀ H' h, Same H H' → H h = none → HandAt H' h 0 → Q (.ref h) H'
theorem sc_law_hand : FnScope ["_law_script", "_law_k", "_law_cell"] ["_law_script", "_law_k"] (defScope s_law_hand) := ⟨rfl, rfl, rfl, by decide +kernel, rfl, by decide +kernel, by decide +kernel⟩
theorem c_law_hand (T : Txt K mg CM CH CV aL) : Cal P w K mg base 1 "_law_hand" (spLHand K) := by
  refine cal_of T.d_law_hand (fun _ _ _ _ _ _ us hl => match us, hl with | [_, _], _ => rfl) sc_law_hand (fun vs H Q E h => ?_) (fun f cdv A outer s H vs Q E hr h => ?_)
  · obtain ⟨_, _, _, rfl, _⟩ := h; rfl
  · obtain ⟨a, xs, k0, rfl, sa, h0, h1, k⟩ := h
    refine ⟨_, (pss_cons (ps_set (i := 2) sc_law_hand.nd rfl (Or.inl rfl) (pe_ifExp (pt_cmpR op_lt (pv 1) (pe_callB (call_len_seqK K) (by rfl) T.b_len PySem.boot_len (pa_cons (pv 0) pa_nil)) (nomark _)) (pe_ix (ix_listK K) (pv 0) (pv 1) (fun _ _ => rfl)) pe_int))
    (pss_one (ps_ret (pe_lst (pa_cons (pe_op op_mul (pe_op op_mod (pv 2) (pe_op op_mulW (pe_op op_pow pe_int pe_int) (pe_op op_pow pe_int pe_int))) (pe_callTy call_int1 (by rfl) T.b_int (by decide +kernel) (pa_cons (pe_cmpR op_ge (pv 2) (pe_op op_pow pe_int pe_int) (nomark _)) pa_nil))) (pa_cons (pe_op op_add (pe_op op_add (pe_op op_mod (pv 2) pe_int) (pe_op op_mul pe_int (pv 1))) pe_int) (pa_cons pe_int pa_nil))))))), ?_⟩
    refine g_seq (g_asg (g_if2 (fun z H' => H' = H ∧ ∃ c, z = V.int c) ?_ ?_))
    · by_cases e : k0 < ((xs.map V.int).length : Nat)
      · refine .inl ⟨fun R hR => ⟨_, rfl, _, rfl, a, _, rfl, .inl sa, _, _, rfl, rfl, _, rfl, ?_⟩, fun Q' hQ => ?_⟩
        · rw [decide_eq_true e]
          exact hR
        · obtain ⟨x, ex, mx⟩ := at_lt h0 e
          obtain ⟨c, _, rfl⟩ := List.mem_map.mp mx
          exact ⟨_, rfl, _, rfl, a, _, _, _, rfl, rfl, sa, ex, hQ _ _ ⟨rfl, _, rfl⟩⟩
      · refine .inr ⟨fun R hR => ⟨_, rfl, _, rfl, a, _, rfl, .inl sa, _, _, rfl, rfl, _, rfl, ?_⟩, fun Q' hQ => hQ _ _ ⟨rfl, 0, rfl⟩⟩
        rw [decide_eq_false e]
        exact hR
    · rintro _ _ ⟨rfl, cl, rfl⟩
      have cm1 := Int.emod_nonneg cl (b := 2305843009213693951) (by decide)
      have cm2 := Int.emod_lt_of_pos cl (b := 2305843009213693951) (by decide)
      refine ⟨_, rfl, _, _, rfl, rfl, ⟨by decide, by decide, by decide⟩, _, _, rfl, rfl, ⟨by decide, by decide, by decide⟩, _, _, rfl, rfl, wide_mul (a := 150) (b := 150) (by decide +kernel) (by decide +kernel) (by decide) (by decide) (by decide), _, _, rfl, rfl, (show (0 : Int) < 10 ^ 45 * 10 ^ 45 by decide +kernel), ?_⟩
      refine ⟨_, rfl, _, _, rfl, rfl, ⟨by decide, by decide, by decide⟩, _, _, rfl, rfl, .inr ⟨_, rfl, ?_⟩⟩
      refine ⟨_, _, rfl, rfl, .inr (by split <;> omega), ?_⟩
      refine ⟨_, rfl, _, _, rfl, rfl, (show (0 : Int) < 2305843009213693951 by decide), _, rfl, _, _, rfl, rfl, .inl (by decide), _, _, rfl, rfl, _, _, rfl, rfl, by show 3 ≤ sizeLine; decide, fun p hp => ?_⟩
      exact k _ p (Same.new hp) hp ⟨_, _, _, upd_same, by omega, by omega, by omega, by omega⟩
def spTake : Sp := fun vs H Q _ => ∃ (h : Addr) (b : Nat) (many : Int), vs = [.ref h, .int many] ∧ HandAt H h b ∧ b ≤ 1000000 ∧ 0 < many ∧ many < 1073741824 ∧
  ∀ H' r, Km h H H' → HandAt H' h (b + 1) → 0 ≤ r → r < many → Q (.int r) H'
theorem prime_at {i : Int} (h0 : 0 ≤ i) (h8 : i < 8) : ∃ q, atI ([.int 2147483647, .int 2147483629, .int 2147483587, .int 2147483579, .int 2147483563, .int 2147483549, .int 2147483543, .int 2147483497] : List V) i = some (.int q) ∧ 2147483497 ≤ q ∧ q ≤ 2147483647 := by
  have : i = 0 ∨ i = 1 ∨ i = 2 ∨ i = 3 ∨ i = 4 ∨ i = 5 ∨ i = 6 ∨ i = 7 := by omega
  rcases this with rfl | rfl | rfl | rfl | rfl | rfl | rfl | rfl <;> exact ⟨_, rfl, by decide, by decide⟩
theorem sc_law_take : FnScope ["_law_hand_here", "_law_many", "_law_digit", "_law_primes", "_law_prime", "_law_drawn"] ["_law_hand_here", "_law_many"] (defScope s_law_take) := ⟨rfl, rfl, rfl, by decide +kernel, rfl, by decide +kernel, by decide +kernel⟩
theorem c_law_take (T : Txt K mg CM CH CV aL) : Cal P w K mg base 1 "_law_take" spTake := by
  refine cal_of T.d_law_take (fun _ _ _ _ _ _ us hl => match us, hl with | [_, _], _ => rfl) sc_law_take (fun vs H Q E h => ?_) (fun f cdv A outer s H vs Q E hr h => ?_)
  · obtain ⟨_, _, _, rfl, _⟩ := h; rfl
  · obtain ⟨h, b, many, rfl, ⟨d0, d1, d2, e, a1, a2, a3, a4⟩, hb, m0, m1, k⟩ := h
    refine ⟨_, (pss_cons (ps_if (pt_cmpR op_gt (pe_ix (ix_listK K) (pv 0) pe_int (fun _ _ => rfl)) pe_int (nomark _)) (pss_cons (ps_set (i := 2) sc_law_take.nd rfl (Or.inl rfl) (pe_op op_mod (pe_ix (ix_listK K) (pv 0) pe_int (fun _ _ => rfl)) (pv 1)))
    (pss_cons (ps_asg (pe_op op_fdiv (pe_ix (ix_listK K) (pv 0) pe_int (fun _ _ => rfl)) (pv 1)) (pg_sub (pv 0) pe_int set_list))
    (pss_one (ps_ret (pv 2))))) pss_nil)
    (pss_cons (ps_asg (pe_op op_add (pe_ix (ix_listK K) (pv 0) pe_int (fun _ _ => rfl)) pe_int) (pg_sub (pv 0) pe_int set_list))
    (pss_cons (ps_set (i := 3) sc_law_take.nd rfl (Or.inl rfl) (pe_lst (pa_cons pe_int (pa_cons pe_int (pa_cons pe_int (pa_cons pe_int (pa_cons pe_int (pa_cons pe_int (pa_cons pe_int (pa_cons pe_int pa_nil))))))))))
    (pss_cons (ps_set (i := 4) sc_law_take.nd rfl (Or.inl rfl) (pe_ix (ix_listK K) (pv 3) (pe_op op_mod (pe_ix (ix_listK K) (pv 0) pe_int (fun _ _ => rfl)) pe_int) (fun _ _ => rfl)))
    (pss_cons (ps_set (i := 5) sc_law_take.nd rfl (Or.inl rfl) (pe_op op_mod (pe_op op_pow (pe_op op_add (pe_ix (ix_listK K) (pv 0) pe_int (fun _ _ => rfl)) (pe_op op_mul pe_int (pe_ix (ix_listK K) (pv 0) pe_int (fun _ _ => rfl)))) pe_int) (pv 4)))
    (pss_one (ps_ret (pe_op op_mod (pe_op op_fdiv (pe_op op_mod (pe_op op_mul (pv 5) (pe_op op_add (pe_op op_mod (pv 5) pe_int) (pe_ix (ix_listK K) (pv 0) pe_int (fun _ _ => rfl)))) (pv 4)) pe_int) (pv 1))))))))), ?_⟩
    refine ⟨_, rfl, h, _, _, .int d0, rfl, rfl, sql_of e, rfl, _, _, rfl, rfl, _, rfl, ?_⟩
    by_cases c : 0 < d0
    · rw [decide_eq_true c]
      refine iteT ⟨_, rfl, h, _, _, .int d0, rfl, rfl, sql_of e, rfl, _, rfl, _, _, rfl, rfl, m0, ?_⟩
      refine ⟨_, rfl, h, _, _, .int d0, rfl, rfl, sql_of e, rfl, _, rfl, _, _, rfl, rfl, ⟨m0, m1⟩, _, rfl, h, _, _, 0, rfl, rfl, e, rfl, ?_⟩
      refine ⟨_, rfl, k _ _ (fun b o hb e => by rw [upd_ne hb]; exact e) ⟨_, _, _, upd_same, a1, a2, a3, by omega⟩ (Int.emod_nonneg _ (by omega)) (Int.emod_lt_of_pos _ m0)⟩
    · rw [decide_eq_false c]
      refine iteF ⟨_, rfl, h, _, _, .int d2, rfl, rfl, sql_of e, rfl, _, _, rfl, rfl, _, rfl, h, _, _, 2, rfl, rfl, e, rfl, ?_⟩
      have k1 : Km h H (upd H h (.lst ([V.int d0, .int d1, .int d2].set 2 (.int (d2 + 1))))) := fun b o hb e => by rw [upd_ne hb]; exact e
      have e1 : upd H h (.lst ([V.int d0, .int d1, .int d2].set 2 (.int (d2 + 1)))) h = some (.lst [.int d0, .int d1, .int (d2 + 1)]) := upd_same
      generalize upd H h (.lst ([V.int d0, .int d1, .int d2].set 2 (.int (d2 + 1)))) = H1 at k1 e1 ⊢
      refine ⟨by show 8 ≤ sizeLine; decide, fun p hp => newG hp fun H2 S2 e2 => ?_⟩
      have e12 := S2 _ _ e1
      have hm1 := Int.emod_nonneg (d2 + 1) (b := 8) (by decide)
      have hm2 := Int.emod_lt_of_pos (d2 + 1) (b := 8) (by decide)
      obtain ⟨q, hq, q1, q2⟩ := prime_at hm1 hm2
      refine ⟨_, rfl, _, rfl, h, _, _, .int (d2 + 1), rfl, rfl, sql_of e12, rfl, _, _, rfl, rfl, (show (0 : Int) < 8 by decide), p, _, _, .int q, rfl, rfl, sql_of e2, hq, ?_⟩
      refine ⟨_, rfl, h, _, _, .int d1, rfl, rfl, sql_of e12, rfl, _, rfl, h, _, _, .int (d2 + 1), rfl, rfl, sql_of e12, rfl, _, _, rfl, rfl, .inl (by decide), _, _, rfl, rfl, _, _, rfl, rfl, ⟨by decide, by decide, by omega⟩, _, rfl, _, _, rfl, rfl, (show (0 : Int) < q by omega), ?_⟩
      have hd1 := Int.emod_nonneg ((d1 + 7919 * (d2 + 1)) ^ (5 : Int).toNat) (b := q) (by omega)
      have hd2 := Int.emod_lt_of_pos ((d1 + 7919 * (d2 + 1)) ^ (5 : Int).toNat) (b := q) (by omega)
      refine ⟨_, rfl, _, rfl, _, _, rfl, rfl, (show (0 : Int) < 1009 by decide), _, rfl, h, _, _, .int (d2 + 1), rfl, rfl, sql_of e12, rfl, _, _, rfl, rfl, _, _, rfl, rfl, .inl (show -(2 : Int) ^ 64 < (d1 + 7919 * (d2 + 1)) ^ (5 : Int).toNat % q ∧ (d1 + 7919 * (d2 + 1)) ^ (5 : Int).toNat % q < 2 ^ 64 by omega), _, rfl, _, _, rfl, rfl, (show (0 : Int) < q by omega), _, _, rfl, rfl, ⟨by decide, by decide⟩, _, rfl, _, _, rfl, rfl, m0, ?_⟩
      exact k _ _ (k1.trans (Km.same S2)) ⟨_, _, _, e12, a1, a2, by omega, by omega⟩ (Int.emod_nonneg _ (by omega)) (Int.emod_lt_of_pos _ m0)
/-- one of some: of a list, of a text -/
def spOf : Sp := fun vs H Q _ => (∃ (h l : Addr) (b : Nat) (xs : List V), vs = [.ref h, .ref l] ∧ HandAt H h b ∧ b ≤ 1000000 ∧ H l = some (.lst xs) ∧ l ≠ h ∧ xs ≠ [] ∧ xs.length ≤ 1000 ∧
    ∀ H' x, Km h H H' → HandAt H' h (b + 1) → x ∈ xs → Q x H') ∨
  ∃ (h : Addr) (b : Nat) (z : Str), vs = [.ref h, .str z] ∧ HandAt H h b ∧ b ≤ 1000000 ∧ 0 < z.length ∧ z.length ≤ 1000 ∧
    ∀ H' c, Km h H H' → HandAt H' h (b + 1) → c ∈ z.cps.toList → Q (.str ⟨#[c]⟩) H'
theorem sc_law_of : FnScope ["_law_hand_here", "_law_some"] ["_law_hand_here", "_law_some"] (defScope s_law_of) := ⟨rfl, rfl, rfl, by decide +kernel, rfl, by decide +kernel, by decide +kernel⟩
theorem c_law_of (T : Txt K mg CM CH CV aL) : Cal P w K mg base 2 "_law_of" spOf := by
  have c_law_take := c_law_take (P := P) (w := w) (base := base) T
  refine cal_of T.d_law_of (fun _ _ _ _ _ _ us hl => match us, hl with | [_, _], _ => rfl) sc_law_of (fun vs H Q E h => ?_) (fun f cdv A outer s H vs Q E hr h => ?_)
  · rcases h with ⟨_, _, _, _, rfl, _⟩ | ⟨_, _, _, rfl, _⟩ <;> rfl
  · rcases h with ⟨h, l, b, xs, rfl, A, hb, el, hl, hx, hz, k⟩ | ⟨h, b, z, rfl, A, hb, z0, z1, k⟩
    · refine ⟨_, (pss_one (ps_ret (pe_ix (ix_listK K) (pv 1) (pe_c c_law_take hr (by decide) rfl (pa_cons (pv 0) (pa_cons (pe_callB (call_len_seqK K) (by rfl) T.b_len PySem.boot_len (pa_cons (pv 1) pa_nil)) pa_nil))) (fun _ _ => rfl)))), ?_⟩
      have x0 : 0 < xs.length := List.length_pos_iff.mpr hx
      refine ⟨_, rfl, _, rfl, _, rfl, l, _, rfl, .inl (sql_of el), h, b, _, rfl, A, hb, by omega, by omega, fun H1 r k1 A1 r0 r1 => ?_⟩
      obtain ⟨x, ex, mx⟩ := at_lt r0 r1
      exact ⟨l, _, _, x, rfl, rfl, sql_of (k1 _ _ hl el), ex, k H1 x k1 A1 mx⟩
    · refine ⟨_, (pss_one (ps_ret (pe_ix (ix_str) (pv 1) (pe_c c_law_take hr (by decide) rfl (pa_cons (pv 0) (pa_cons (pe_callB (call_len_str) (by rfl) T.b_len PySem.boot_len (pa_cons (pv 1) pa_nil)) pa_nil))) (fun _ _ => rfl)))), ?_⟩
      refine ⟨_, rfl, _, rfl, _, rfl, z, rfl, sz100 (by omega), h, b, _, rfl, A, hb, by omega, by omega, fun H1 r k1 A1 r0 r1 => ?_⟩
      have hl : z.cps.toList.length = z.length := by simp [Str.length]
      obtain ⟨c, ec, mc⟩ := at_lt (xs := z.cps.toList) r0 (by rw [hl]; exact r1)
      exact ⟨z, _, c, rfl, rfl, sz100 (by omega), ec, k H1 c k1 A1 mc⟩
/-- the same things in an order drawn -/
def spLOrd (K : PySem.W.Frag) : Sp := fun vs H Q _ => ∃ (h l : Addr) (b : Nat) (xs : List V), vs = [.ref h, .ref l] ∧ HandAt H h b ∧ b + xs.length ≤ 1000000 ∧ H l = some (.lst xs) ∧ l ≠ h ∧ xs.length ≤ 1000 ∧
    ∀ H' q ys, Km h H H' → HandAt H' h (b + xs.length) → H q = none → H' q = some (.lst ys) → ys.Perm xs → Q (.ref q) H'
theorem sc_law_order : FnScope ["_law_hand_here", "_law_some", "_law_left", "_law_k"] ["_law_hand_here", "_law_some"] (defScope s_law_order) := ⟨rfl, rfl, rfl, by decide +kernel, rfl, by decide +kernel, by decide +kernel⟩
theorem c_law_order (T : Txt K mg CM CH CV aL) : Cal P w K mg base 2 "_law_order" (spLOrd K) := by
  have c_law_take := c_law_take (P := P) (w := w) (base := base) T
  refine cal_of T.d_law_order (fun _ _ _ _ _ _ us hl => match us, hl with | [_, _], _ => rfl) sc_law_order (fun vs H Q E h => ?_) (fun f cdv A outer s H vs Q E hr h => ?_)
  · obtain ⟨_, _, _, _, rfl, _⟩ := h; rfl
  · obtain ⟨h, l, b, xs, rfl, A, hb, el, hl, hz, k⟩ := h
    refine ⟨_, (pss_cons (ps_set (i := 2) sc_law_order.nd rfl (Or.inr rfl) (pe_callTy (call_list_ofK K) (by rfl) T.b_list (by decide +kernel) (pa_cons (pv 1) pa_nil)))
    (pss_one (ps_ret (pe_lc (own := [("_law_k", 3)]) rfl sc_law_order.nd (pi_range1 (by rfl) T.b_range (pa_cons (pe_callB (call_len_seqK K) (by rfl) T.b_len PySem.boot_len (pa_cons (pv 1) pa_nil)) pa_nil)) (blkOk_by (own := [("_law_k", 3)]) (N := ["_law_hand_here", "_law_some", "_law_left", "_law_k"]) (sc := defScope s_law_order) (by decide +kernel)) (fun _ _ _ _ _ => (pg_name (i := 3) sc_law_order.nd rfl (Or.inl rfl))) (fun _ _ _ _ _ => pts_nil) (fun _ _ _ _ _ => (pe_bmK K PySem.F.plainAttrs_list PySem.F.slot_list_pop PySem.F.type_list_pop mt_popAt (pv 2) (pa_cons (pe_c c_law_take hr (by decide) rfl (pa_cons (pv 0) (pa_cons (pe_callB (call_len_seqK K) (by rfl) T.b_len PySem.boot_len (pa_cons (pv 2) pa_nil)) pa_nil))) pa_nil))))))), ?_⟩
    refine ⟨_, rfl, l, _, rfl, .inl (sql_of el), fun lf hlf => newG hlf fun H1 S1 e1 => ?_⟩
    have A1 := A.same S1
    refine ⟨_, rfl, l, _, rfl, .inl (sql_of (S1 _ _ el)), _, rfl, by omega, by omega, fun D hD => ?_⟩
    have nlf : lf ≠ h := A.ne hlf
    have nD : D ≠ h := A1.ne hD
    have nDl : D ≠ lf := (ne_of_none e1 hD).symm
    have en : ((xs.length : Nat) : Int).toNat = xs.length := by omega
    refine lc_runB walk_range0 [h, lf] (fun i ac H4 => ∃ left : List V, H4 lf = some (.lst left) ∧ HandAt H4 h (b + i) ∧ (ac ++ left).Perm xs ∧ ac.length = i) hD (fun H4 S4 => ⟨xs, S4 _ _ e1, A1.same S4, List.Perm.refl _, rfl⟩) (fun _ _ => trivial) ?_ ?_
    · rintro i x ac H4 H5 hi hD0 B4 e4 ⟨left, elf, A4, hp, hac⟩ ⟨rfl, rfl⟩
      rw [en] at hi
      have hlen := hp.length_eq
      rw [List.length_append] at hlen
      refine ⟨rfl, g_yes (iteT ?_)⟩
      refine ⟨_, rfl, .inl ⟨rfl, _, sql_of elf⟩, _, rfl, _, rfl, lf, _, rfl, .inl (sql_of elf), h, b + i, _, rfl, A4, by omega, by omega, by omega, fun H6 r k6 A6 r0 r1 => ?_⟩
      obtain ⟨j, rfl⟩ : ∃ j : Nat, r = ((j : Nat) : Int) := ⟨r.toNat, by omega⟩
      have hj : j < left.length := by omega
      have elf6 := k6 _ _ nlf elf
      refine ⟨lf, left, _, j, left[j], rfl, rfl, elf6, by omega, by omega, by rw [PySem.seqIndex_of (by omega) (by omega)]; simp, List.getElem?_eq_getElem hj, ?_⟩
      refine lcB_next hD0 (fun c o hc q => ?_) (by rw [upd_ne nDl]; exact k6 _ _ nD e4) (by omega) fun H7 e7 k7 => ?_
      · have c1 : c ≠ h := fun z => hc (by simp [z])
        have c2 : c ≠ lf := fun z => hc (by simp [z])
        rw [upd_ne c2]
        exact k6 _ _ c1 (B4 c o hc q)
      · refine ⟨left.eraseIdx j, by rw [k7 _ nDl.symm, upd_same], (A6.eq (by rw [k7 _ nD.symm, upd_ne nlf.symm])).up (by omega), ?_, by rw [List.length_append, hac]; rfl⟩
        refine List.Perm.trans ?_ hp
        rw [List.append_assoc]
        exact List.Perm.append_left _ (pick_perm left j hj)
    · rintro ac H4 B4 e4 ⟨left, elf, A4, hp, hac⟩
      rw [en] at A4 hac
      have hlen := hp.length_eq
      rw [List.length_append] at hlen
      have hnil : left = [] := List.length_eq_zero_iff.mp (by omega)
      rw [hnil, List.append_nil] at hp
      refine k H4 D ac (fun c o hc q => ?_) A4 (S1.free hD) e4 hp
      by_cases e : c = lf
      · subst e; rw [hlf] at q; cases q
      · exact B4 c o (by simp [hc, e]) (S1 _ _ q)
end
end WS
/-! Unlike names. -/
namespace WS
open PySem PySem.Spec PyProof.Rows L2 WM
open C8 (pe_gc pe_c pe_mk pe_mt pe_mt0)
theorem strOk_iff {x : Str} : PyData.strOk x = true ↔ ∀ c, c ∈ x.cps.toList → c < 0x110000 := by
  unfold PyData.strOk
  rw [← Array.all_toList, List.all_eq_true]
  constructor
  · intro h c hc
    exact of_decide_eq_true (h c hc)
  · intro h c hc
    exact decide_eq_true (h c hc)
theorem cps_app (a b : Str) : (a ++ b).cps.toList = a.cps.toList ++ b.cps.toList := by
  show (a.cps ++ b.cps).toList = _
  rw [Array.toList_append]
theorem strOk_app {a b : Str} (h : PyData.strOk a = true) (k : PyData.strOk b = true) : PyData.strOk (a ++ b) = true := by
  rw [strOk_iff] at h k ⊢
  intro c hc
  rw [cps_app, List.mem_append] at hc
  exact hc.elim (h c) (k c)
theorem strOk_cut {a : Str} {lo hi : Option Int} (h : PyData.strOk a = true) : PyData.strOk (cutS a lo hi) = true := by
  rw [strOk_iff] at h ⊢
  intro c hc
  exact h c (List.mem_of_mem_drop (List.mem_of_mem_take hc))
theorem strOk_join : ∀ {ys : List Str}, (∀ y, y ∈ ys → PyData.strOk y = true) → PyData.strOk (Str.join "" ys) = true
  | [], _ => by decide +kernel
  | [y], h => h y (by simp)
  | y :: z :: r, h => by
    show PyData.strOk (y ++ "" ++ Str.join "" (z :: r)) = true
    exact strOk_app (strOk_app (h y (by simp)) (by decide +kernel)) (strOk_join fun x hx => h x (by simp at hx ⊢; exact .inr hx))
def NmP (x : Str) : Prop := PyData.strOk x = true ∧ x.length ≤ 1000
def abc : Str := "abcdefghijklmnopqrstuvwxyz"
theorem abc_ok : ∀ c, c ∈ abc.cps.toList → c < 0x110000 := by decide +kernel
theorem abc_nd : abc.cps.toList.Nodup := by decide +kernel
theorem abc_len : abc.cps.toList.length = 26 := by decide +kernel
theorem abc_size : abc.cps.size = 26 := by decide +kernel
theorem one_ok {c : Nat} (h : c ∈ abc.cps.toList) : PyData.strOk ⟨#[c]⟩ = true := by
  rw [strOk_iff]
  intro d hd
  have : d = c := by simpa using hd
  rw [this]
  exact abc_ok c h
/-- a name's start with a sign behind -/
def candS (z : Str) (c : Nat) : Str := cutS z none (some 5) ++ ⟨#[c]⟩
theorem cand_inj {z : Str} {c d : Nat} (e : candS z c = candS z d) : c = d := by
  have := congrArg (fun s : Str => s.cps.toList) e
  unfold candS at this
  simp only [cps_app] at this
  have := List.append_cancel_left this
  simpa using this
theorem cand_ok {z : Str} (h : NmP z) {c : Nat} (hc : c ∈ abc.cps.toList) : NmP (candS z c) := by
  refine ⟨strOk_app (strOk_cut h.1) (one_ok hc), ?_⟩
  unfold candS
  rw [Str.length_append]
  have h1 : (cutS z none (some 5)).length ≤ 5 := by
    unfold cutS Str.length
    simp only [List.size_toArray, List.length_take]
    have : HT.sIx z.cps.size z.cps.size (some 5) = min 5 z.cps.size := HT.sIx_nat _ _ 5
    have h2 : HT.sIx z.length z.length (some 5) = min 5 z.length := HT.sIx_nat _ _ 5
    omega
  have h2 : (⟨#[c]⟩ : Str).length = 1 := rfl
  omega
/-- of the signs one makes a name that is free -/
theorem cand_free {z : Str} {ns : List Str} (h : ns.length < 26) : (abc.cps.toList.map (candS z)).filter (fun x => decide (x ∉ ns)) ≠ [] := fun e => by
  have hall : ∀ x, x ∈ abc.cps.toList.map (candS z) → x ∈ ns := fun x hx => by
    have := List.filter_eq_nil_iff.mp e x hx
    simpa using this
  have hn : (abc.cps.toList.map (candS z)).Nodup := by
    refine List.Pairwise.map _ (fun a b hab e => hab (cand_inj e)) abc_nd
  have := nd_len hn hall
  rw [List.length_map, abc_len] at this
  omega
theorem join_len {cs : List Nat} (h : cs.length ≤ 6) : (Str.join "" (cs.map fun c => (⟨#[c]⟩ : Str))).length ≤ 6 := by
  have h1 := StrLaws.join_length_le "" (cs.map fun c => (⟨#[c]⟩ : Str))
  have h2 : ∀ cs : List Nat, ((cs.map fun c => (⟨#[c]⟩ : Str)).map (·.length)).sum = cs.length := by
    intro cs
    induction cs with
    | nil => rfl
    | cons c cs ih => rw [List.map_cons, List.map_cons, List.sum_cons, ih, List.length_cons]; show 1 + _ = _; omega
  have h3 : ("" : Str).length = 0 := rfl
  rw [h2, h3] at h1
  omega
section
variable {P : Program} {w : World} {K : PySem.W.Frag} {mg : Str → Option Value} {base : Heap} {CM CH CV aL : Addr}
def spNames : Sp := fun vs H Q _ => ∃ (h : Addr) (b n : Nat), vs = [.ref h, .int ((n : Nat) : Int)] ∧ HandAt H h b ∧ b + 7 * n ≤ 1000000 ∧ n ≤ 20 ∧
  ∀ (H' : Hp) (q : Addr) (ns : List Str), Km h H H' → HandAt H' h (b + 7 * n) → H q = none → H' q = some (.lst (ns.map V.str)) → ns.length = n → ns.Nodup → (∀ x, x ∈ ns → NmP x) → Q (.ref q) H'
theorem sc_law_names : FnScope ["_law_hand_here", "_law_many", "_law_letters", "_law_found", "_law_k", "_law_long", "_law_name", "_law_j", "_law_free", "_law_sign"] ["_law_hand_here", "_law_many"] (defScope s_law_names) := ⟨rfl, rfl, rfl, by decide +kernel, rfl, by decide +kernel, by decide +kernel⟩
theorem c_law_names (T : Txt K mg CM CH CV aL) : Cal P w K mg base 3 "_law_names" spNames := by
  have c_law_of := c_law_of (P := P) (w := w) (base := base) T
  refine cal_of T.d_law_names (fun _ _ _ _ _ _ us hl => match us, hl with | [_, _], _ => rfl) sc_law_names (fun vs H Q E h => ?_) (fun f cdv A outer s H vs Q E hr h => ?_)
  · obtain ⟨_, _, _, rfl, _⟩ := h; rfl
  · obtain ⟨h, b, n, rfl, A, hb, hn, k⟩ := h
    refine ⟨_, (pss_cons (ps_asg (pe_tup (pa_cons pe_str (pa_cons (pe_lst pa_nil) pa_nil))) (pg_tupK K 2 rfl (pgs_cons (pg_name (i := 2) sc_law_names.nd rfl (Or.inr rfl)) (pgs_cons (pg_name (i := 3) sc_law_names.nd rfl (Or.inr rfl)) pgs_nil))))
    (pss_cons (ps_for PassesOwn.never rfl (pi_range1 (by rfl) T.b_range (pa_cons (pv 1) pa_nil)) (pg_name (i := 4) sc_law_names.nd rfl (Or.inl rfl)) (pss_cons (ps_set (i := 5) sc_law_names.nd rfl (Or.inl rfl) (pe_c c_law_of hr (by decide) rfl (pa_cons (pv 0) (pa_cons (pe_lst (pa_cons pe_int (pa_cons pe_int (pa_cons pe_int (pa_cons pe_int (pa_cons pe_int (pa_cons pe_int pa_nil))))))) pa_nil))))
    (pss_cons (ps_set (i := 6) sc_law_names.nd rfl (Or.inr rfl) (pe_join pe_str (pe_lc (own := [("_law_j", 7)]) rfl sc_law_names.nd (pi_range1 (by rfl) T.b_range (pa_cons (pv 5) pa_nil)) (blkOk_by (own := [("_law_j", 7)]) (N := ["_law_hand_here", "_law_many", "_law_letters", "_law_found", "_law_k", "_law_long", "_law_name", "_law_j", "_law_free", "_law_sign"]) (sc := defScope s_law_names) (by decide +kernel)) (fun _ _ _ _ _ => (pg_name (i := 7) sc_law_names.nd rfl (Or.inl rfl))) (fun _ _ _ _ _ => pts_nil) (fun _ _ _ _ _ => (pe_c c_law_of hr (by decide) rfl (pa_cons (pv 0) (pa_cons (pv 2) pa_nil)))))))
    (pss_cons (ps_setLc (i := 8) (own := [("_law_sign", 9)]) rfl sc_law_names.nd rfl rfl (sw_true rfl rfl rfl (by decide +kernel)) (pi_str (pv 2)) (blkOk_by (own := [("_law_sign", 9)]) (N := ["_law_hand_here", "_law_many", "_law_letters", "_law_found", "_law_k", "_law_long", "_law_name", "_law_j", "_law_free", "_law_sign"]) (sc := defScope s_law_names) (by decide +kernel)) (fun _ _ _ _ _ => (pg_name (i := 9) sc_law_names.nd rfl (Or.inl rfl))) (fun _ _ _ _ _ => (pts_one (pt_cmpR (op_notIn_seqK K) (pe_op op_add_str (pe_slice sl_str (pv 6) po_none (po_some pe_int)) (pv 9)) (pv 3) rfl))) (fun _ _ _ _ _ => (pe_op op_add_str (pe_slice sl_str (pv 6) po_none (po_some pe_int)) (pv 9))))
    (pss_one (ps_expr (pe_bmK K PySem.F.plainAttrs_list PySem.F.slot_list_append PySem.F.type_list_append mt_append (pv 3) (pa_cons (pe_ifExp (pt_cmpR (op_notIn_seqK K) (pv 6) (pv 3) rfl) (pv 6) (pe_ix (ix_listK K) (pv 8) pe_int (fun _ _ => rfl))) pa_nil))))))))
    (pss_one (ps_ret (pv 3))))), ?_⟩
    refine ⟨by show 0 ≤ sizeLine; decide, fun f hf => newG hf fun H1 S1 e1 => ⟨by show 2 ≤ sizeLine; decide, fun t ht => newG ht fun H2 S2 e2 => ⟨t, _, rfl, sqt_of e2, rfl, _, _, rfl, _, _, rfl, rfl, ?_⟩⟩⟩
    have nf : f ≠ h := A.ne hf
    have A2 := (A.same S1).same S2
    refine ⟨_, rfl, _, rfl, by omega, by omega, ?_⟩
    refine for_it walk_range0 (fun i σ H3 => ∃ (z4 z5 z6 z7 z8 z9 : Option V) (ns : List Str), σ = [some (.ref h), some (.int ((n : Nat) : Int)), some (.str abc), some (.ref f), z4, z5, z6, z7, z8, z9] ∧ HandAt H3 h (b + 7 * i) ∧ H3 f = some (.lst (ns.map V.str)) ∧ ns.length = i ∧ ns.Nodup ∧ (∀ x, x ∈ ns → NmP x) ∧ Km h H H3)
      ⟨_, _, _, _, _, _, [], rfl, A2, S2 _ _ e1, rfl, List.nodup_nil, fun x hx => by simp at hx, Km.same (S1.trans S2)⟩ (fun _ _ _ _ _ => trivial) ?_ ?_
    · rintro i x σ H3 H4 hi ⟨z4, z5, z6, z7, z8, z9, ns, rfl, A4, f4, ln, nd, ok, k4⟩ ⟨rfl, rfl⟩
      have hi : i < n := by omega
      refine ⟨_, rfl, by show 6 ≤ sizeLine; decide, fun l hl => newG hl fun H5 S5 e5 => .inl ⟨h, l, b + 7 * i, _, rfl, A4.same S5, by omega, e5, A4.ne hl, by simp, by show 6 ≤ 1000; decide, fun H6 x k6 A6 mx => ?_⟩⟩
      obtain ⟨lg, rfl, l1, l6⟩ : ∃ lg : Nat, x = .int ((lg : Nat) : Int) ∧ 1 ≤ lg ∧ lg ≤ 6 := by
        simp only [List.mem_cons, List.not_mem_nil, or_false] at mx
        rcases mx with rfl | rfl | rfl | rfl | rfl | rfl
        · exact ⟨1, rfl, by decide, by decide⟩
        · exact ⟨1, rfl, by decide, by decide⟩
        · exact ⟨2, rfl, by decide, by decide⟩
        · exact ⟨3, rfl, by decide, by decide⟩
        · exact ⟨5, rfl, by decide, by decide⟩
        · exact ⟨6, rfl, by decide, by decide⟩
      have f6 := k6 _ _ nf (S5 _ _ f4)
      refine ⟨⟨_, rfl⟩, _, rfl, _, rfl, by omega, by omega, fun D hD => ?_⟩
      have nD : D ≠ h := A6.ne hD
      have elg : ((lg : Nat) : Int).toNat = lg := by omega
      refine lc_runB walk_range0 [h] (fun j ac H7 => HandAt H7 h (b + 7 * i + 1 + j) ∧ ∃ cs : List Nat, ac = (cs.map fun c => (⟨#[c]⟩ : Str)).map V.str ∧ cs.length = j ∧ ∀ c, c ∈ cs → c ∈ abc.cps.toList) hD (fun H7 S7 => ⟨A6.same S7, [], rfl, rfl, fun c hc => by simp at hc⟩) (fun _ _ => trivial) ?_ ?_
      · rintro j x ac H7 H8 hj hD0 B7 e7 ⟨A7, cs, rfl, lcs, hcs⟩ ⟨rfl, rfl⟩
        rw [elg] at hj
        refine ⟨rfl, g_yes (iteT ?_)⟩
        refine ⟨_, rfl, _, rfl, .inr ⟨h, _, abc, rfl, A7, by omega, by decide +kernel, by decide +kernel, fun H9 c k9 A9 mc => ?_⟩⟩
        refine lcB_next hD0 (butL_trans B7 (butL_km k9 (by simp))) (k9 _ _ nD e7) (by rw [List.length_map, List.length_map]; omega) fun H10 e10 k10 => ⟨A9.eq (k10 _ nD.symm), cs ++ [c], by rw [List.map_append, List.map_append]; rfl, by rw [List.length_append, lcs]; rfl, fun d hd => ?_⟩
        rcases List.mem_append.mp hd with z | z
        · exact hcs d z
        · have : d = c := by simpa using z
          rw [this]; exact mc
      rintro ac H7 B7 e7 ⟨A7, cs, rfl, lcs, hcs⟩
      rw [elg] at A7 lcs
      have f7 := B7 _ _ (by simpa using nf) f6
      have hok : ∀ y, y ∈ cs.map (fun c => (⟨#[c]⟩ : Str)) → PyData.strOk y = true := fun y hy => by
        obtain ⟨c, hc, rfl⟩ := List.mem_map.mp hy
        exact one_ok (hcs c hc)
      have hnm : NmP (Txt.join "" (cs.map fun c => (⟨#[c]⟩ : Str))) := by
        have ej : Txt.join "" (cs.map fun c => (⟨#[c]⟩ : Str)) = Str.join "" (cs.map fun c => (⟨#[c]⟩ : Str)) := StrLaws.glued_eq_join _ _
        rw [ej]
        have := join_len (cs := cs) (by omega)
        exact ⟨strOk_join hok, by omega⟩
      refine ⟨"", D, cs.map fun c => (⟨#[c]⟩ : Str), rfl, rfl, .inl (sql_of e7), ?_, ?_⟩
      · have h2 : ∀ cs : List Nat, ((cs.map fun c => (⟨#[c]⟩ : Str)).map (·.length)).sum = cs.length := by
          intro cs
          induction cs with
          | nil => rfl
          | cons c cs ih => rw [List.map_cons, List.map_cons, List.sum_cons, ih, List.length_cons]; show 1 + _ = _; omega
        rw [h2, List.length_map]
        show cs.length + cs.length * 0 ≤ 16777216
        omega
      generalize Txt.join "" (cs.map fun c => (⟨#[c]⟩ : Str)) = nm at hnm ⊢
      have hlen5 : (cutS nm none (some 5)).length ≤ 1000 := Nat.le_trans (cutS_length nm none (some 5)) hnm.2
      refine ⟨_, rfl, abc, rfl, fun D2 hD2 => ?_⟩
      have nD2 : D2 ≠ h := A7.ne hD2
      refine lc_run (walk_str (z := abc)) (H0 := H7) (fun j ac _ => ac = (((abc.cps.toList.take j).map (candS nm)).filter fun x => decide (x ∉ ns)).map V.str) (Same.refl _) hD2 (fun _ _ => rfl) (fun _ _ => trivial) ?_ ?_
      · rintro j x ac H8 H9 hj hD0 S8 e8 rfl ⟨rfl, c, hc, rfl⟩
        rw [abc_size] at hj
        have hc : abc.cps.toList[j]? = some c := by rw [Array.getElem?_toList]; exact hc
        have f8 := S8 _ _ f7
        have hcl : ((((abc.cps.toList.take j).map (candS nm)).filter fun x => decide (x ∉ ns)).map V.str).length < 100000 := by
          rw [List.length_map]
          have := List.length_filter_le (fun x => decide (x ∉ ns)) ((abc.cps.toList.take j).map (candS nm))
          rw [List.length_map, List.length_take] at this
          omega
        have hstep : ((abc.cps.toList.take (j + 1)).map (candS nm)).filter (fun x => decide (x ∉ ns)) = ((abc.cps.toList.take j).map (candS nm)).filter (fun x => decide (x ∉ ns)) ++ (if candS nm c ∈ ns then [] else [candS nm c]) := by
          rw [List.take_add_one, hc, List.map_append, List.filter_append]
          congr 1
          show [candS nm c].filter _ = _
          rw [List.filter_cons]
          by_cases e : candS nm c ∈ ns
          · rw [if_neg (by simpa using e), if_pos e]; rfl
          · rw [if_pos (by simpa using e), if_neg e]; rfl
        have l1 : (⟨#[c]⟩ : Str).length = 1 := rfl
        refine ⟨rfl, _, rfl, 5, rfl, nm, rfl, sz100 (by have := hnm.2; omega), _, rfl, _, _, rfl, rfl, sz100 (by rw [l1]; omega), _, rfl, f, _, rfl, .inl (sql_of f8), rfl, flat_strs _, _, rfl, ?_⟩
        rw [if_pos rfl, in_strs]
        show if (!decide (candS nm c ∈ ns)) = true then _ else _
        by_cases e : candS nm c ∈ ns
        · rw [decide_eq_true e]
          refine iteF (lc_skip S8 (Same.refl _) e8 ?_)
          rw [hstep, if_pos e, List.append_nil]
        · rw [decide_eq_false e]
          refine iteT ⟨_, rfl, 5, rfl, nm, rfl, sz100 (by have := hnm.2; omega), _, rfl, _, _, rfl, rfl, sz100 (by rw [l1]; omega), ?_⟩
          refine lc_next hD0 S8 (Same.refl _) e8 hcl fun H10 _ _ _ => ?_
          rw [hstep, if_neg e, List.map_append]
          rfl
      rintro ac H8 S8 e8 rfl
      have et : abc.cps.toList.take abc.cps.size = abc.cps.toList := List.take_of_length_le (by rw [abc_len, abc_size]; exact Nat.le_refl _)
      rw [et] at e8
      have A8 := A7.same S8
      have f8 := S8 _ _ f7
      have hfree := cand_free (z := nm) (ns := ns) (by omega)
      have hfmem : ∀ x, x ∈ (abc.cps.toList.map (candS nm)).filter (fun x => decide (x ∉ ns)) → x ∉ ns ∧ NmP x := fun x hx => by
        obtain ⟨h1, h2⟩ := List.mem_filter.mp hx
        obtain ⟨c, hc, rfl⟩ := List.mem_map.mp h1
        exact ⟨of_decide_eq_true h2, cand_ok hnm hc⟩
      generalize (abc.cps.toList.map (candS nm)).filter (fun x => decide (x ∉ ns)) = fr at e8 hfree hfmem
      refine ⟨_, rfl, .inl ⟨rfl, _, sql_of f8⟩, ?_⟩
      refine g_cons (g_if2 (fun z H' => H' = H8 ∧ ∃ x, z = V.str x ∧ x ∉ ns ∧ NmP x) ?_ ?_)
      · by_cases e : nm ∈ ns
        · refine .inr ⟨fun R hR => ⟨_, rfl, _, rfl, f, _, rfl, .inl (sql_of f8), rfl, flat_strs _, _, rfl, ?_⟩, fun Q' hQ => ?_⟩
          · rw [if_pos rfl, in_strs, decide_eq_true e]
            exact hR
          · cases fr with
            | nil => exact absurd rfl hfree
            | cons x fr =>
              obtain ⟨g1, g2⟩ := hfmem x (by simp)
              exact ⟨_, rfl, D2, _, _, .str x, rfl, rfl, sql_of e8, atI_nat (j := 0) rfl, hQ _ _ ⟨rfl, x, rfl, g1, g2⟩⟩
        · refine .inl ⟨fun R hR => ⟨_, rfl, _, rfl, f, _, rfl, .inl (sql_of f8), rfl, flat_strs _, _, rfl, ?_⟩, fun Q' hQ => ⟨_, rfl, hQ _ _ ⟨rfl, nm, rfl, e, hnm⟩⟩⟩
          rw [if_pos rfl, in_strs, decide_eq_false e]
          exact hR
      · rintro _ _ ⟨rfl, x, rfl, hx, hxn⟩
        refine ⟨f, _, _, rfl, rfl, f8, sz100' (by rw [List.length_map]; omega), ?_⟩
        refine ⟨_, _, _, _, _, _, ns ++ [x], rfl, (A8.eq (upd_ne nf.symm)).up (by omega), by rw [List.map_append]; exact upd_same, by rw [List.length_append, ln]; rfl, ?_, fun y hy => ?_, fun c o hc q => ?_⟩
        · refine List.nodup_append.mpr ⟨nd, by simp, fun a ha c hc => ?_⟩
          have : c = x := by simpa using hc
          subst this
          rintro rfl
          exact hx ha
        · rcases List.mem_append.mp hy with z | z
          · exact ok y z
          · have : y = x := by simpa using z
            rw [this]; exact hxn
        · have c2 : c ≠ f := ne_of_none q hf
          rw [upd_ne c2]
          exact S8 _ _ (B7 _ _ (by simpa using hc) (k6 _ _ hc (S5 _ _ (k4 _ _ hc q))))
    · rintro σ H3 ⟨z4, z5, z6, z7, z8, z9, ns, rfl, A3, f3, ln, nd, ok, k3⟩
      have en : ((n : Nat) : Int).toNat = n := by omega
      rw [en] at A3 ln
      exact ⟨_, rfl, k H3 f ns k3 A3 hf f3 ln nd ok⟩
end
end WS
/-! A lot, a roll. -/
namespace WS
open PySem PySem.Spec PyProof.Rows L2 WM
open C8 (pe_gc pe_c pe_mk pe_mt pe_mt0)
theorem mem_ints {l : List Int} {x : V} (h : x ∈ l.map V.int) : ∃ i, x = .int i ∧ i ∈ l := by
  obtain ⟨i, hi, rfl⟩ := List.mem_map.mp h
  exact ⟨i, rfl, hi⟩
theorem mem_strs {l : List Str} {x : V} (h : x ∈ l.map V.str) : ∃ i, x = .str i ∧ i ∈ l := by
  obtain ⟨i, hi, rfl⟩ := List.mem_map.mp h
  exact ⟨i, rfl, hi⟩
structure LotD (lot : List Place) (ns : List Str) : Prop where
  nm : lot.map Place.nm = ns
  ok : ∀ p, p ∈ lot → (0 ≤ p.grade ∧ p.grade ≤ 2) ∧ p.rank ≤ 7 ∧ 0 ≤ p.steps ∧ 0 ≤ p.many ∧ p.many ≤ 3
structure RollD (roll : List Hand) (n : Nat) (pool : List Str) (secs : Int) : Prop where
  len : roll.length = n
  ok : ∀ h, h ∈ roll → NmP h.nm ∧ 0 ≤ h.rank ∧ h.sk.length ≤ 4 ∧ (∀ k, k ∈ h.sk → k ∈ pool) ∧ 0 ≤ h.sec ∧ h.sec < secs
section
variable {P : Program} {w : World} {K : PySem.W.Frag} {mg : Str → Option Value} {base : Heap} {CM CH CV aL : Addr}
def spLLot (K : PySem.W.Frag) : Sp := fun vs H Q _ => ∃ (h l p : Addr) (b : Nat) (ns pool : List Str), vs = [.ref h, .ref l, .ref p] ∧ HandAt H h b ∧ b + 5 * ns.length ≤ 1000000 ∧ H l = some (.lst (ns.map V.str)) ∧ l ≠ h ∧ ns.length ≤ 100 ∧ H p = some (.lst (pool.map V.str)) ∧ p ≠ h ∧ pool ≠ [] ∧ pool.length ≤ 100 ∧
  ∀ (H' : Hp) (q : Addr) (lot : List Place), Km h H H' → HandAt H' h (b + 5 * ns.length) → Dt K H' (.ref q) (.tuple (lot.map encP)) → LotD lot ns → Q (.ref q) H'
theorem sc_law_lot : FnScope ["_law_hand_here", "_law_names_here", "_law_pool", "_law_found", "_law_name", "_law_rank", "_law_steps", "_law_wants"] ["_law_hand_here", "_law_names_here", "_law_pool"] (defScope s_law_lot) := ⟨rfl, rfl, rfl, by decide +kernel, rfl, by decide +kernel, by decide +kernel⟩
theorem c_law_lot (T : Txt K mg CM CH CV aL) : Cal P w K mg base 3 "_law_lot" (spLLot K) := by
  have c_law_take := c_law_take (P := P) (w := w) (base := base) T
  have c_law_of := c_law_of (P := P) (w := w) (base := base) T
  refine cal_of T.d_law_lot (fun _ _ _ _ _ _ us hl => match us, hl with | [_, _, _], _ => rfl) sc_law_lot (fun vs H Q E h => ?_) (fun f cdv A outer s H vs Q E hr h => ?_)
  · obtain ⟨_, _, _, _, _, _, rfl, _⟩ := h; rfl
  · obtain ⟨h, l, p, b, ns, pool, rfl, A, hb, el, hl, hn, ep, hp, pne, psz, k⟩ := h
    have pne' : pool.map V.str ≠ [] := by simpa using pne
    refine ⟨_, (pss_cons (ps_set (i := 3) sc_law_lot.nd rfl (Or.inl rfl) (pe_lst pa_nil))
    (pss_cons (ps_for PassesOwn.never rfl (pi_listK K (pv 1)) (pg_name (i := 4) sc_law_lot.nd rfl (Or.inl rfl)) (pss_cons (ps_par (i := 5) (j := 6) rfl sc_law_lot.nd rfl rfl (by decide) rfl rfl (pa_cons (pe_c c_law_take hr (by decide) rfl (pa_cons (pv 0) (pa_cons pe_int pa_nil))) (pa_cons (pe_c c_law_of hr (by decide) rfl (pa_cons (pv 0) (pa_cons (pe_lst (pa_cons pe_int (pa_cons pe_int (pa_cons pe_int (pa_cons pe_int (pa_cons pe_int pa_nil)))))) pa_nil))) pa_nil)) (by rfl))
    (pss_cons (ps_set (i := 7) sc_law_lot.nd rfl (Or.inl rfl) (pe_c c_law_of hr (by decide) rfl (pa_cons (pv 0) (pa_cons (pe_lst (pa_cons pe_int (pa_cons pe_int (pa_cons pe_int (pa_cons pe_int (pa_cons pe_int (pa_cons pe_int (pa_cons pe_int pa_nil)))))))) pa_nil))))
    (pss_one (ps_expr (pe_bmK K PySem.F.plainAttrs_list PySem.F.slot_list_append PySem.F.type_list_append mt_append (pv 3) (pa_cons (pe_tup (pa_cons (pv 4) (pa_cons (pe_c c_law_of hr (by decide) rfl (pa_cons (pv 0) (pa_cons (pv 2) pa_nil))) (pa_cons (pv 5) (pa_cons (pv 6) (pa_cons (pv 7) (pa_cons (pe_c c_law_of hr (by decide) rfl (pa_cons (pv 0) (pa_cons (pe_lst (pa_cons pe_int (pa_cons pe_int (pa_cons pe_int (pa_cons pe_int (pa_cons pe_int pa_nil)))))) pa_nil))) pa_nil))))))) pa_nil)))))))
    (pss_one (ps_ret (pe_callTy (call_tuple_ofK K) (by rfl) T.b_tuple (by decide +kernel) (pa_cons (pv 3) pa_nil)))))), ?_⟩
    refine ⟨by show 0 ≤ sizeLine; decide, fun f hf => newG hf fun H1 S1 f1 => ?_⟩
    have nf : f ≠ h := A.ne hf
    refine ⟨_, rfl, l, rfl, ⟨_, sql_of (S1 _ _ el)⟩, ?_⟩
    refine for_it (walk_list (K := K) (a := l) (xs := ns.map V.str)) (fun i σ H2 => ∃ (z4 z5 z6 z7 : Option V) (ws : List V) (lot : List Place), σ = [some (.ref h), some (.ref l), some (.ref p), some (.ref f), z4, z5, z6, z7] ∧ HandAt H2 h (b + 5 * i) ∧ H2 f = some (.lst ws) ∧ DtAll K H2 ws (lot.map encP) ∧ LotD lot (ns.take i) ∧ Km h H H2)
      ⟨_, _, _, _, [], [], rfl, A.same S1, f1, .nil, ⟨rfl, fun p hp => by simp at hp⟩, Km.same S1⟩ (fun i σ H2 _ ⟨_, _, _, _, _, _, _, _, _, _, _, k2⟩ => sql_of (k2 _ _ hl el)) ?_ ?_
    · rintro i x σ H2b H2 hi ⟨z4, z5, z6, z7, ws, lot, rfl, A2, f2, D2, L2, k2⟩ ⟨rfl, hx⟩
      rw [List.length_map] at hi
      rw [List.getElem?_map] at hx
      obtain ⟨nm, hnm, rfl⟩ := Option.map_eq_some_iff.mp hx
      refine ⟨_, rfl, h, _, _, rfl, A2, by omega, by decide, by decide, fun H3 rk k3 A3 r0 r1 => ?_⟩
      have T23 := A2.tups k3
      have f3 := k3 _ _ nf f2
      refine ⟨_, rfl, by show 5 ≤ sizeLine; decide, fun l2 hl2 => newG hl2 fun H4 S4 e4 => .inl ⟨h, l2, _, _, rfl, A3.same S4, by omega, e4, A3.ne hl2, by simp, by show 5 ≤ 1000; decide, fun H5 x k5 A5 mx => ⟨_, _, rfl, ?_⟩⟩⟩
      obtain ⟨sp, rfl, msp⟩ := mem_ints (l := [0, 1, 2, 7, 7]) mx
      have hsp : 0 ≤ sp := (by decide : ∀ i, i ∈ ([0, 1, 2, 7, 7] : List Int) → 0 ≤ i) sp msp
      have T35 := S4.tups.trans ((A3.same S4).tups k5)
      have f5 := k5 _ _ nf (S4 _ _ f3)
      refine ⟨_, rfl, by show 7 ≤ sizeLine; decide, fun l3 hl3 => newG hl3 fun H6 S6 e6 => .inl ⟨h, l3, _, _, rfl, A5.same S6, by omega, e6, A5.ne hl3, by simp, by show 7 ≤ 1000; decide, fun H7 x k7 A7 mx => ?_⟩⟩
      obtain ⟨wn, rfl, mwn⟩ := mem_ints (l := [1, 1, 1, 2, 2, 0, 3]) mx
      have hwn : 0 ≤ wn ∧ wn ≤ 3 := (by decide : ∀ i, i ∈ ([1, 1, 1, 2, 2, 0, 3] : List Int) → 0 ≤ i ∧ i ≤ 3) wn mwn
      have T57 := S6.tups.trans ((A5.same S6).tups k7)
      have f7 := k7 _ _ nf (S6 _ _ f5)
      have k37 : Km h H2 H7 := (((k3.trans (Km.same S4)).trans k5).trans (Km.same S6)).trans k7
      have ep7 := k37 _ _ hp (k2 _ _ hp ep)
      refine ⟨_, rfl, .inl ⟨rfl, _, sql_of f7⟩, _, rfl, _, rfl, _, rfl, .inl ⟨h, p, _, _, rfl, A7, by omega, ep7, hp, pne', by rw [List.length_map]; omega, fun H8 x k8 A8 mx => ?_⟩⟩
      obtain ⟨sk, rfl, msk⟩ := mem_strs mx
      have T78 := A7.tups k8
      have f8 := k8 _ _ nf f7
      refine ⟨_, rfl, _, rfl, _, rfl, _, rfl, by show 5 ≤ sizeLine; decide, fun l4 hl4 => newG hl4 fun H9 S9 e9 => .inl ⟨h, l4, _, _, rfl, A8.same S9, by omega, e9, A8.ne hl4, by simp, by show 5 ≤ 1000; decide, fun H10 x k10 A10 mx => ?_⟩⟩
      obtain ⟨gr, rfl, mgr⟩ := mem_ints (l := [0, 0, 0, 1, 2]) mx
      have hgr : 0 ≤ gr ∧ gr ≤ 2 := (by decide : ∀ i, i ∈ ([0, 0, 0, 1, 2] : List Int) → 0 ≤ i ∧ i ≤ 2) gr mgr
      have T810 := S9.tups.trans ((A8.same S9).tups k10)
      have f10 := k10 _ _ nf (S9 _ _ f8)
      refine ⟨by show 6 ≤ sizeLine; decide, fun t ht => newG ht fun H11 S11 e11 => ?_⟩
      have f11 := S11 _ _ f10
      have lws := D2.length
      have lnm := congrArg List.length L2.nm
      rw [List.length_map] at lws
      rw [List.length_map, List.length_take] at lnm
      refine ⟨f, _, _, rfl, rfl, f11, sz100' (by omega), ?_⟩
      have t11 : Tups H11 (upd H11 f (.lst (ws ++ [.ref t]))) := Tups.upd (not_tup_lst f11)
      have T211 : Tups H2 (upd H11 f (.lst (ws ++ [.ref t]))) := (((((T23.trans T35).trans T57).trans T78).trans T810).trans S11.tups).trans t11
      have k211 : Km h H H11 := k2.trans (((k37.trans k8).trans ((Km.same S9).trans k10)).trans (Km.same S11))
      refine ⟨_, _, _, _, ws ++ [.ref t], lot ++ [⟨nm, sk, rk, sp, wn, gr⟩], rfl, ((A10.same S11).eq (upd_ne nf.symm)).up (by omega), upd_same, ?_, ⟨?_, fun q hq => ?_⟩, fun c o hc q => ?_⟩
      · rw [List.map_append]
        exact (D2.mono T211).append (.cons (.tup (t11.sq (sqt_of e11)) (.cons (.str _) (.cons (.str _) (.cons (.int _) (.cons (.int _) (.cons (.int _) (.cons (.int _) .nil))))))) .nil)
      · rw [List.map_append, L2.nm, List.take_add_one, hnm]
        rfl
      · rcases List.mem_append.mp hq with z | z
        · exact L2.ok q z
        · have : q = ⟨nm, sk, rk, sp, wn, gr⟩ := by simpa using z
          subst this
          exact ⟨hgr, (show rk ≤ 7 by omega), hsp, hwn⟩
      · rw [upd_ne (ne_of_none q hf)]
        exact k211 _ _ hc q
    · rintro σ H2 ⟨z4, z5, z6, z7, ws, lot, rfl, A2, f2, D2, L2, k2⟩
      rw [List.length_map] at A2 L2
      rw [List.take_length] at L2
      refine ⟨_, rfl, f, _, rfl, .inl ⟨sql_of f2, fun q hq => newG hq fun H4 S4 e4 => ?_⟩⟩
      exact k H4 q lot (k2.trans (Km.same S4)) (A2.same S4) (.tup (sqt_of e4) (D2.mono S4.tups)) L2
def spLRoll (K : PySem.W.Frag) : Sp := fun vs H Q _ => ∃ (h p : Addr) (b n : Nat) (pool : List Str) (secs : Int), vs = [.ref h, .int ((n : Nat) : Int), .ref p, .int secs] ∧ HandAt H h b ∧ b + 7 * n + n * (2 + pool.length) ≤ 1000000 ∧ n ≤ 20 ∧ H p = some (.lst (pool.map V.str)) ∧ p ≠ h ∧ pool.length ≤ 50 ∧ 0 < secs ∧ secs < 1000 ∧
  ∀ (H' : Hp) (q : Addr) (roll : List Hand), Km h H H' → HandAt H' h (b + 7 * n + n * (2 + pool.length)) → Dt K H' (.ref q) (.tuple (roll.map encH)) → RollD roll n pool secs → Q (.ref q) H'
theorem cut4 {α : Type} (xs : List V) : cutV xs none (some 4) = xs.take 4 := by
  unfold cutV
  have h1 : HT.sIx xs.length 0 none = 0 := rfl
  have h2 : HT.sIx xs.length xs.length (some 4) = min 4 xs.length := HT.sIx_nat _ _ 4
  rw [h1, h2, List.drop_zero, Nat.sub_zero]
  by_cases e : 4 ≤ xs.length
  · rw [Nat.min_eq_left e]
  · rw [Nat.min_eq_right (by omega), List.take_of_length_le (Nat.le_refl _), List.take_of_length_le (by omega)]
theorem sc_law_roll : FnScope ["_law_hand_here", "_law_many", "_law_pool", "_law_sections", "_law_found", "_law_name", "_law_rank", "_law_section", "_law_some", "_law_skill"] ["_law_hand_here", "_law_many", "_law_pool", "_law_sections"] (defScope s_law_roll) := ⟨rfl, rfl, rfl, by decide +kernel, rfl, by decide +kernel, by decide +kernel⟩
theorem c_law_roll (T : Txt K mg CM CH CV aL) : Cal P w K mg base 4 "_law_roll" (spLRoll K) := by
  have c_law_take := c_law_take (P := P) (w := w) (base := base) T
  have c_law_names := c_law_names (P := P) (w := w) (base := base) T
  refine cal_of T.d_law_roll (fun _ _ _ _ _ _ us hl => match us, hl with | [_, _, _, _], _ => rfl) sc_law_roll (fun vs H Q E h => ?_) (fun f cdv A outer s H vs Q E hr h => ?_)
  · obtain ⟨_, _, _, _, _, _, rfl, _⟩ := h; rfl
  · obtain ⟨h, p, b, n, pool, secs, rfl, A, hb, hn, ep, hp, psz, s0, s1, k⟩ := h
    refine ⟨_, (pss_cons (ps_set (i := 4) sc_law_roll.nd rfl (Or.inl rfl) (pe_lst pa_nil))
    (pss_cons (ps_for PassesOwn.never rfl (pi_listK K (pe_callB (cr_sortedSK K) (by rfl) T.b_sorted (by decide +kernel) (pa_cons (pe_c c_law_names hr (by decide) rfl (pa_cons (pv 0) (pa_cons (pv 1) pa_nil))) pa_nil))) (pg_name (i := 5) sc_law_roll.nd rfl (Or.inl rfl)) (pss_cons (ps_par (i := 6) (j := 7) rfl sc_law_roll.nd rfl rfl (by decide) rfl rfl (pa_cons (pe_c c_law_take hr (by decide) rfl (pa_cons (pv 0) (pa_cons pe_int pa_nil))) (pa_cons (pe_c c_law_take hr (by decide) rfl (pa_cons (pv 0) (pa_cons (pv 3) pa_nil))) pa_nil)) (by rfl))
    (pss_cons (ps_set (i := 8) sc_law_roll.nd rfl (Or.inl rfl) (pe_callB (cr_sortedSK K) (by rfl) T.b_sorted (by decide +kernel) (pa_cons (pe_lc (own := [("_law_skill", 9)]) rfl sc_law_roll.nd (pi_listK K (pv 2)) (blkOk_by (own := [("_law_skill", 9)]) (N := ["_law_hand_here", "_law_many", "_law_pool", "_law_sections", "_law_found", "_law_name", "_law_rank", "_law_section", "_law_some", "_law_skill"]) (sc := defScope s_law_roll) (by decide +kernel)) (fun _ _ _ _ _ => (pg_name (i := 9) sc_law_roll.nd rfl (Or.inl rfl))) (fun _ _ _ _ _ => (pts_one (pt_cmpR op_gt (pe_c c_law_take hr (by decide) rfl (pa_cons (pv 0) (pa_cons pe_int pa_nil))) pe_int (nomark _)))) (fun _ _ _ _ _ => (pv 9))) pa_nil)))
    (pss_one (ps_expr (pe_bmK K PySem.F.plainAttrs_list PySem.F.slot_list_append PySem.F.type_list_append mt_append (pv 4) (pa_cons (pe_tup (pa_cons (pv 5) (pa_cons (pv 6) (pa_cons (pe_callTy (call_tuple_ofK K) (by rfl) T.b_tuple (by decide +kernel) (pa_cons (pe_slice (sl_listK K) (pv 8) po_none (po_some pe_int)) pa_nil)) (pa_cons (pv 7) pa_nil))))) pa_nil)))))))
    (pss_one (ps_ret (pe_callTy (call_tuple_ofK K) (by rfl) T.b_tuple (by decide +kernel) (pa_cons (pv 4) pa_nil)))))), ?_⟩
    refine ⟨by show 0 ≤ sizeLine; decide, fun f hf => newG hf fun H1 S1 f1 => ?_⟩
    have nf : f ≠ h := A.ne hf
    refine ⟨_, rfl, _, rfl, h, b, n, rfl, A.same S1, by omega, hn, fun H2 nl ns k2 A2 hnl e2 ln nd ok => ?_⟩
    have f2 := k2 _ _ nf f1
    refine ⟨nl, ns, rfl, sql_of e2, by omega, fun ys a hy1 hy2 ha => newG ha fun H3 S3 e3 => ?_⟩
    have na : a ≠ h := A2.ne ha
    have ly := hy1.length_eq
    refine ⟨a, rfl, ⟨_, sql_of e3⟩, ?_⟩
    have k13 : Km h H H3 := ((Km.same S1).trans k2).trans (Km.same S3)
    refine for_it (walk_list (K := K) (a := a) (xs := ys.map V.str)) (fun i σ H4 => ∃ (z5 z6 z7 z8 z9 : Option V) (ws : List V) (roll : List Hand), σ = [some (.ref h), some (.int ((n : Nat) : Int)), some (.ref p), some (.int secs), some (.ref f), z5, z6, z7, z8, z9] ∧ HandAt H4 h (b + 7 * n + i * (2 + pool.length)) ∧ H4 f = some (.lst ws) ∧ DtAll K H4 ws (roll.map encH) ∧ RollD roll i pool secs ∧ Km h H H4 ∧ H4 a = some (.lst (ys.map V.str)))
      ⟨_, _, _, _, _, [], [], rfl, (A2.same S3).up (by omega), S3 _ _ f2, .nil, ⟨rfl, fun p hp => by simp at hp⟩, k13, e3⟩ (fun i σ H4 _ ⟨_, _, _, _, _, _, _, _, _, _, _, _, _, q⟩ => sql_of q) ?_ ?_
    · rintro i x σ H4b H4 hi ⟨z5, z6, z7, z8, z9, ws, roll, rfl, A4, f4, D4, R4, k4, e4⟩ ⟨rfl, hx⟩
      rw [List.length_map] at hi
      have hin : i < n := by omega
      have hmul : (i + 1) * (2 + pool.length) ≤ n * (2 + pool.length) := Nat.mul_le_mul_right _ hin
      have hmul2 : (i + 1) * (2 + pool.length) = i * (2 + pool.length) + (2 + pool.length) := Nat.succ_mul _ _
      rw [List.getElem?_map] at hx
      obtain ⟨nm, hnm, rfl⟩ := Option.map_eq_some_iff.mp hx
      have hok := ok nm (hy1.mem_iff.mp (List.mem_of_getElem? hnm))
      refine ⟨_, rfl, h, _, _, rfl, A4, by omega, by decide, by decide, fun H5 rk k5 A5 r0 r1 => ?_⟩
      refine ⟨_, rfl, _, rfl, h, _, _, rfl, A5, by omega, s0, by omega, fun H6 sec k6 A6 c0 c1 => ⟨_, _, rfl, ?_⟩⟩
      have T46 := (A4.tups k5).trans (A5.tups k6)
      have k46 := k5.trans k6
      have f6 := k46 _ _ nf f4
      have e6 := k46 _ _ na e4
      have ep6 := k46 _ _ hp (k4 _ _ hp ep)
      refine ⟨_, rfl, p, rfl, ⟨_, sql_of ep6⟩, fun D hD => ?_⟩
      have nD : D ≠ h := A6.ne hD
      refine lc_runB (walk_list (K := K) (a := p) (xs := pool.map V.str)) [h] (fun j ac H7 => HandAt H7 h (b + 7 * n + i * (2 + pool.length) + 2 + j) ∧ ∃ sk : List Str, ac = sk.map V.str ∧ sk.length ≤ j ∧ ∀ x, x ∈ sk → x ∈ pool) hD (fun H7 S7 => ⟨A6.same S7, [], rfl, Nat.le_refl _, fun x hx => by simp at hx⟩) (fun H7 B7 => sql_of (B7 _ _ (by simpa using hp) ep6)) ?_ ?_
      · rintro j x ac H7b H7 hj hD0 B7 e7 ⟨A7, sk, rfl, lsk, hsk⟩ ⟨rfl, hx⟩
        rw [List.length_map] at hj
        rw [List.getElem?_map] at hx
        obtain ⟨s1', hs1, rfl⟩ := Option.map_eq_some_iff.mp hx
        refine ⟨rfl, _, rfl, h, _, _, rfl, A7, by omega, by decide, by decide, fun H8 r8 k8 A8 q0 q1 => ?_⟩
        refine ⟨_, _, rfl, rfl, _, rfl, ?_⟩
        have e8 := k8 _ _ nD e7
        have B8 := butL_trans B7 (butL_km k8 (by simp) : ButL [h] _ _)
        by_cases c : 0 < r8
        · rw [decide_eq_true c]
          refine iteT ⟨_, rfl, ?_⟩
          refine lcB_next hD0 B8 e8 (by rw [List.length_map]; omega) fun H9 e9 k9 => ⟨A8.eq (k9 _ nD.symm), sk ++ [s1'], by rw [List.map_append]; rfl, by rw [List.length_append]; exact Nat.succ_le_succ lsk, fun x hx => ?_⟩
          rcases List.mem_append.mp hx with z | z
          · exact hsk x z
          · have : x = s1' := by simpa using z
            rw [this]
            exact List.mem_of_getElem? hs1
        · rw [decide_eq_false c]
          exact iteF (lcB_skip B8 e8 ⟨A8, sk, rfl, by omega, hsk⟩)
      rintro ac H7 B7 e7 ⟨A7, sk, rfl, lsk, hsk⟩
      rw [List.length_map] at A7 lsk
      have T67 : Tups H6 H7 := A6.tups (km_butL B7)
      have f7 := B7 _ _ (by simpa using nf) f6
      have e7a := B7 _ _ (by simpa using na) e6
      refine ⟨D, sk, rfl, sql_of e7, by omega, fun sks sq hs1 hs2 hsq => newG hsq fun H8 S8 e8 => ?_⟩
      have f8 := S8 _ _ f7
      refine ⟨_, rfl, .inl ⟨rfl, _, sql_of f8⟩, _, rfl, _, rfl, _, rfl, 4, rfl, sq, _, rfl, sql_of e8, fun c hc => newG hc fun H9 S9 e9 => ?_⟩
      rw [cut4 (α := Unit), ← List.map_take] at e9
      refine ⟨c, _, rfl, .inl ⟨sql_of e9, fun tp htp => newG htp fun H10 S10 e10 => ?_⟩⟩
      refine ⟨_, rfl, by show 4 ≤ sizeLine; decide, fun t ht => newG ht fun H11 S11 e11 => ?_⟩
      have S811 := (S9.trans S10).trans S11
      have f11 := S811 _ _ f8
      have lws := D4.length
      have lr := R4.len
      rw [List.length_map] at lws
      refine ⟨f, _, _, rfl, rfl, f11, sz100' (by omega), ?_⟩
      have t11 : Tups H11 (upd H11 f (.lst (ws ++ [.ref t]))) := Tups.upd (not_tup_lst f11)
      have T411 : Tups H4 (upd H11 f (.lst (ws ++ [.ref t]))) := (((T46.trans T67).trans S8.tups).trans S811.tups).trans t11
      have k411 : Km h H4 H11 := ((k46.trans (km_butL B7)).trans (Km.same S8)).trans (Km.same S811)
      have na2 : a ≠ f := (ne_of_none f2 ha).symm
      refine ⟨_, _, _, _, _, ws ++ [.ref t], roll ++ [⟨nm, rk, sks.take 4, sec⟩], rfl, ((((A7.same S8).same S811)).eq (upd_ne nf.symm)).up (by omega), upd_same, ?_, ⟨by rw [List.length_append, lr]; rfl, fun q hq => ?_⟩, fun c o hc q => ?_, by rw [upd_ne na2]; exact S811 _ _ (S8 _ _ e7a)⟩
      · rw [List.map_append]
        refine (D4.mono T411).append (.cons (.tup (t11.sq (sqt_of e11)) (.cons (.str _) (.cons (.int _) (.cons (.tup (t11.sq (sqt_of (S11 _ _ e10))) DtAll.strs) (.cons (.int _) .nil))))) .nil)
      · rcases List.mem_append.mp hq with z | z
        · exact R4.ok q z
        · have : q = ⟨nm, rk, sks.take 4, sec⟩ := by simpa using z
          subst this
          refine ⟨hok, r0, ?_, fun x hx => hsk x (hs1.mem_iff.mp (List.mem_of_mem_take hx)), c0, c1⟩
          show (sks.take 4).length ≤ 4
          rw [List.length_take]
          omega
      · rw [upd_ne (ne_of_none q hf)]
        exact k411 _ _ hc (k4 _ _ hc q)
    · rintro σ H4 ⟨z5, z6, z7, z8, z9, ws, roll, rfl, A4, f4, D4, R4, k4, e4⟩
      rw [List.length_map, ly, ln] at A4 R4
      refine ⟨_, rfl, f, _, rfl, .inl ⟨sql_of f4, fun q hq => newG hq fun H5 S5 e5 => ?_⟩⟩
      exact k H5 q roll (k4.trans (Km.same S5)) (A4.same S5) (.tup (sqt_of e5) (D4.mono S5.tups)) R4
end
end WS
/-! A ship of the law's. -/
namespace WS
open PySem PySem.Spec PyProof.Rows L2 WM
open C8 (pe_gc pe_c pe_mk pe_mt pe_mt0)
def inSeg (N : List Str) (i j : Nat) (x : Str) : Prop := ∃ k, i ≤ k ∧ k < j ∧ N[k]? = some x
theorem seg_apart {N : List Str} (nd : N.Nodup) {i j k l : Nat} {x : Str} (h1 : inSeg N i j x) (h2 : inSeg N k l x) (h : j ≤ k ∨ l ≤ i) : False := by
  obtain ⟨a, a1, a2, a3⟩ := h1
  obtain ⟨c, c1, c2, c3⟩ := h2
  have hl : a < N.length := (List.getElem?_eq_some_iff.mp a3).1
  have : a = c := (List.getElem?_inj hl nd).mp (by rw [a3, c3])
  omega
theorem seg_mem {N : List Str} {i j : Nat} {x : Str} (h : inSeg N i j x) : x ∈ N := by
  obtain ⟨a, _, _, a3⟩ := h
  exact List.mem_of_getElem? a3
theorem perm_strs {l : List Str} {ys : List V} (h : ys.Perm (l.map V.str)) : ∃ os : List Str, ys = os.map V.str ∧ os.Perm l := by
  refine ⟨ys.map fun v => match v with | .str x => x | _ => "", ?_, ?_⟩
  · rw [List.map_map]
    refine (List.map_id ys).symm.trans (List.map_congr_left fun v hv => ?_)
    obtain ⟨x, _, rfl⟩ := List.mem_map.mp (h.mem_iff.mp hv)
    rfl
  · have := h.map fun v => match v with | .str x => x | _ => ""
    rw [List.map_map] at this
    exact this.trans (by
      have : (l.map ((fun v : V => match v with | .str x => x | _ => "") ∘ V.str)) = l := (List.map_congr_left fun x _ => rfl).trans (List.map_id l)
      rw [this])
theorem perm_ints {l : List Int} {ys : List V} (h : ys.Perm (l.map V.int)) : ∃ os : List Int, ys = os.map V.int ∧ os.Perm l := by
  refine ⟨ys.map fun v => match v with | .int x => x | _ => 0, ?_, ?_⟩
  · rw [List.map_map]
    refine (List.map_id ys).symm.trans (List.map_congr_left fun v hv => ?_)
    obtain ⟨x, _, rfl⟩ := List.mem_map.mp (h.mem_iff.mp hv)
    rfl
  · have := h.map fun v => match v with | .int x => x | _ => 0
    rw [List.map_map] at this
    exact this.trans (by
      have : (l.map ((fun v : V => match v with | .int x => x | _ => 0) ∘ V.int)) = l := (List.map_congr_left fun x _ => rfl).trans (List.map_id l)
      rw [this])
theorem perm3 {t : List Int} : (t.Perm [0] → t ∈ goodTurns) ∧ (t.Perm [0, 1] → t ∈ goodTurns) ∧ (t.Perm [0, 1, 2] → t ∈ goodTurns) := by
  refine ⟨fun h => ?_, fun h => ?_, fun h => ?_⟩
  · rw [List.perm_singleton.mp h]
    decide
  · match t, h.length_eq with
    | [x, y], _ =>
      have hx := h.mem_iff.mp (show x ∈ [x, y] by simp)
      have hy := h.mem_iff.mp (show y ∈ [x, y] by simp)
      simp only [List.mem_cons, List.not_mem_nil, or_false] at hx hy
      rcases hx with rfl | rfl <;> rcases hy with rfl | rfl <;> first | decide | (exfalso; revert h; decide)
  · match t, h.length_eq with
    | [x, y, z], _ =>
      have hx := h.mem_iff.mp (show x ∈ [x, y, z] by simp)
      have hy := h.mem_iff.mp (show y ∈ [x, y, z] by simp)
      have hz := h.mem_iff.mp (show z ∈ [x, y, z] by simp)
      simp only [List.mem_cons, List.not_mem_nil, or_false] at hx hy hz
      rcases hx with rfl | rfl | rfl <;> rcases hy with rfl | rfl | rfl <;> rcases hz with rfl | rfl | rfl <;> first | decide | (exfalso; revert h; decide)
theorem turn_good {r : Int} (h0 : 0 ≤ r) (h3 : r < 3) {ys : List V} (h : ys.Perm (rgV 0 (1 + r))) : ∃ t : List Int, ys = t.map V.int ∧ t ∈ goodTurns := by
  have : r = 0 ∨ r = 1 ∨ r = 2 := by omega
  rcases this with rfl | rfl | rfl
  · obtain ⟨t, e, p⟩ := perm_ints (l := [0]) h
    exact ⟨t, e, perm3.1 p⟩
  · obtain ⟨t, e, p⟩ := perm_ints (l := [0, 1]) h
    exact ⟨t, e, perm3.2.1 p⟩
  · obtain ⟨t, e, p⟩ := perm_ints (l := [0, 1, 2]) h
    exact ⟨t, e, perm3.2.2 p⟩
/-- a cut of a list of texts -/
theorem cut_strs (l : List Str) (lo hi : Option Int) : cutV (l.map V.str) lo hi = ((l.drop (HT.sIx l.length 0 lo)).take (HT.sIx l.length l.length hi - HT.sIx l.length 0 lo)).map V.str := by
  unfold cutV
  rw [List.length_map, List.map_take, List.map_drop]
theorem cut_seg {N : List Str} {i j : Nat} {lo hi : Option Int} (h1 : HT.sIx N.length 0 lo = i) (h2 : HT.sIx N.length N.length hi = j) : ∃ ns : List Str, cutV (N.map V.str) lo hi = ns.map V.str ∧ ns.Sublist N ∧ ∀ x, x ∈ ns → inSeg N i j x := by
  refine ⟨_, cut_strs N lo hi, (List.take_sublist _ _).trans (List.drop_sublist _ _), fun x hx => ?_⟩
  rw [h1, h2] at hx
  obtain ⟨k, hk, e⟩ := List.getElem_of_mem hx
  rw [List.length_take, List.length_drop] at hk
  refine ⟨i + k, by omega, by omega, ?_⟩
  rw [List.getElem_take, List.getElem_drop] at e
  rw [List.getElem?_eq_getElem (by omega), e]
theorem cut_sub (l : List Str) (hi : Option Int) : ∃ ns : List Str, cutV (l.map V.str) none hi = ns.map V.str ∧ ns.Sublist l :=
  ⟨_, cut_strs l none hi, (List.take_sublist _ _).trans (List.drop_sublist _ _)⟩
structure ShipD (s : Ship) : Prop where
  x : ShipX s
  two : ∃ b0 b1, s.books = [b0, b1]
  roll : ∀ h, h ∈ s.roll → NmP h.nm ∧ h.sk.length ≤ 4 ∧ ∀ k, k ∈ h.sk → NmP k
  len : s.roll.length ≤ 5
  bl : s.bills.length ≤ 3
  nmB : ∀ l, l ∈ s.bills → ∀ p, p ∈ l → NmP p.nm
  nmK : ∀ b, b ∈ s.books → ∀ p, p ∈ b.lot → NmP p.nm
theorem flat_len {α : Type} {c : Nat} : ∀ {l : List (List α)}, (∀ x, x ∈ l → x.length ≤ c) → l.flatten.length ≤ c * l.length
  | [], _ => by simp
  | x :: l, h => by
    have ih := flat_len (l := l) fun y hy => h y (by simp [hy])
    have h1 := h x (by simp)
    rw [List.flatten_cons, List.length_append, List.length_cons, Nat.mul_succ]
    omega
theorem lotD_mem {lot : List Place} {ns : List Str} (L : LotD lot ns) {p : Place} (hp : p ∈ lot) : p.nm ∈ ns := by
  rw [← L.nm]
  exact List.mem_map.mpr ⟨p, hp, rfl⟩
theorem lotD_pl {lot : List Place} {ns : List Str} (L : LotD lot ns) (ok : ∀ x, x ∈ ns → NmP x) {p : Place} (hp : p ∈ lot) : PlOk p := by
  obtain ⟨h1, h2, h3, h4, h5⟩ := L.ok p hp
  exact ⟨h1, h2, ⟨h4, by omega⟩, (ok _ (lotD_mem L hp)).1⟩
/-- the places of an away book, of another -/
def segK (N : List Str) (a1 : Int) (x : Str) : Prop := inSeg N 7 9 x ∨ (a1 ≠ 1 ∧ inSeg N 2 4 x)
theorem ship_d {day turn : List Int} {roll : List Hand} {bills : List (List Place)} {lot0 lot1 : List Place} {a1 : Int} {N ns0 ns1 pool : List Str} {n : Nat} {secs : Int} (hN : N.length = 9) (nd : N.Nodup) (ok : ∀ x, x ∈ N → NmP x) (okp : ∀ x, x ∈ pool → NmP x)
    (hday : day ≠ [] ∧ (∀ d, d ∈ day → 1 ≤ d ∧ d ≤ 3) ∧ day.length ≤ 3) (ht : turn ∈ goodTurns) (R : RollD roll n pool secs) (hn : n ≤ 5) (hbl : bills.length = day.length)
    (hb : ∀ l, l ∈ bills → ∃ ns, LotD l ns ∧ ns.Nodup ∧ ∀ x, x ∈ ns → inSeg N 0 4 x) (L0 : LotD lot0 ns0) (n0 : ns0.Nodup) (s0 : ∀ x, x ∈ ns0 → inSeg N 4 7 x) (L1 : LotD lot1 ns1) (n1 : ns1.Nodup) (s1 : ∀ x, x ∈ ns1 → segK N a1 x) :
    ShipD ⟨day, turn, roll, bills, [⟨"boats", 1, lot0⟩, ⟨"fire", a1, lot1⟩]⟩ := by
  have ok0 : ∀ x, x ∈ ns0 → NmP x := fun x hx => ok x (seg_mem (s0 x hx))
  have m1 : ∀ x, x ∈ ns1 → x ∈ N := fun x hx => (s1 x hx).elim seg_mem fun z => seg_mem z.2
  have ok1 : ∀ x, x ∈ ns1 → NmP x := fun x hx => ok x (m1 x hx)
  have okb : ∀ l, l ∈ bills → ∀ p, p ∈ l → NmP p.nm := fun l hl p hp => by
    obtain ⟨ns, L, _, sg⟩ := hb l hl
    exact ok _ (seg_mem (sg _ (lotD_mem L hp)))
  have lenb : ∀ l, l ∈ bills → l.length ≤ 9 := fun l hl => by
    obtain ⟨ns, L, nn, sg⟩ := hb l hl
    have h1 := nd_len nn fun x hx => seg_mem (sg x hx)
    have h2 := congrArg List.length L.nm
    rw [List.length_map] at h2
    omega
  have len0 : lot0.length ≤ 9 := by
    have h1 := nd_len n0 fun x hx => seg_mem (s0 x hx)
    have h2 := congrArg List.length L0.nm
    rw [List.length_map] at h2
    omega
  have len1 : lot1.length ≤ 9 := by
    have h1 := nd_len n1 m1
    have h2 := congrArg List.length L1.nm
    rw [List.length_map] at h2
    omega
  have hk : ∀ b, b ∈ ([⟨"boats", 1, lot0⟩, ⟨"fire", a1, lot1⟩] : List Book) → b = ⟨"boats", 1, lot0⟩ ∨ b = ⟨"fire", a1, lot1⟩ := fun b hb => by simpa using hb
  have nb : ¬ ("boats" : Str) = "fire" := by decide
  have lr := R.len
  have gl := good_len ht
  have hlb : bills.length ≤ 3 := by rw [hbl]; exact hday.2.2
  refine ⟨⟨⟨⟨?_, ?_, ?_, ?_, ?_⟩, ?_, ht, hbl, ?_, ?_, ?_, ?_, ?_, ?_⟩, ?_, ?_, ?_, ?_, ?_, ?_, ?_, ?_⟩, ⟨_, _, rfl⟩, ?_, ?_, hlb, okb, ?_⟩
  · show roll.length ≤ 20; omega
  · intro h hh
    obtain ⟨h1, h2, h3, _⟩ := R.ok h hh
    exact ⟨by omega, h2, h1.1⟩
  · have := flat_len (l := bills) (c := 9) lenb
    show bills.flatten.length ≤ 1000
    omega
  · show turn.length ≤ 1000; omega
  · show 2 ≤ 1000; decide
  · exact ⟨hday.1, fun d hd => by have := hday.2.1 d hd; omega, by show day.length ≤ 8; have := hday.2.2; omega⟩
  · intro l hl; have := lenb l hl; omega
  · intro b hb
    rcases hk b hb with rfl | rfl
    · show lot0.length ≤ 10; omega
    · show lot1.length ≤ 10; omega
  · show 2 ≤ 5; decide
  · intro b hb
    rcases hk b hb with rfl | rfl
    · show PyData.strOk ("boats" : Str) = true; decide +kernel
    · show PyData.strOk ("fire" : Str) = true; decide +kernel
  · intro l hl p hp
    obtain ⟨ns, L, _, sg⟩ := hb l hl
    exact lotD_pl L (fun x hx => ok _ (seg_mem (sg x hx))) hp
  · intro b hb p hp
    rcases hk b hb with rfl | rfl
    · exact lotD_pl L0 ok0 hp
    · exact lotD_pl L1 ok1 hp
  · refine ⟨N, by omega, fun l hl p hp => ?_, fun b hb p hp => ?_⟩
    · obtain ⟨ns, L, _, sg⟩ := hb l hl
      exact seg_mem (sg _ (lotD_mem L hp))
    · rcases hk b hb with rfl | rfl
      · exact seg_mem (s0 _ (lotD_mem L0 hp))
      · exact m1 _ (lotD_mem L1 hp)
  · intro l hl
    obtain ⟨ns, L, nn, _⟩ := hb l hl
    rw [L.nm]; exact nn
  · intro b hb
    rcases hk b hb with rfl | rfl
    · show (lot0.map Place.nm).Nodup; rw [L0.nm]; exact n0
    · show (lot1.map Place.nm).Nodup; rw [L1.nm]; exact n1
  · intro l hl p hp
    obtain ⟨ns, L, _, _⟩ := hb l hl
    exact (L.ok p hp).2.2.1
  · intro b hb p hp
    rcases hk b hb with rfl | rfl
    · exact (L0.ok p hp).2.2.1
    · exact (L1.ok p hp).2.2.1
  · show (["boats", "fire"] : List Str).Nodup; decide
  · intro b hbk ha p hp l hl z
    obtain ⟨ns, L, _, sg⟩ := hb l hl
    rw [L.nm] at z
    have z := sg _ z
    rcases hk b hbk with rfl | rfl
    · exact seg_apart nd (s0 _ (lotD_mem L0 hp)) z (.inr (by decide))
    · rcases s1 _ (lotD_mem L1 hp) with q | q
      · exact seg_apart nd q z (.inr (by decide))
      · exact q.1 ha
  · intro b hbk ha c hck hw p hp z
    rcases hk b hbk with rfl | rfl
    · rcases hk c hck with rfl | rfl
      · exact hw rfl
      · have z : p.nm ∈ lot1.map Place.nm := z
        rw [L1.nm] at z
        rcases s1 _ z with q | q
        · exact seg_apart nd (s0 _ (lotD_mem L0 hp)) q (.inl (by decide))
        · exact seg_apart nd (s0 _ (lotD_mem L0 hp)) q.2 (.inr (by decide))
    · rcases hk c hck with rfl | rfl
      · have z : p.nm ∈ lot0.map Place.nm := z
        rw [L0.nm] at z
        rcases s1 _ (lotD_mem L1 hp) with q | q
        · exact seg_apart nd q (s0 _ z) (.inr (by decide))
        · exact q.1 ha
      · exact hw rfl
  · intro h hh
    obtain ⟨h1, h2, h3, h4, _⟩ := R.ok h hh
    exact ⟨h1, h3, fun k hk => okp k (h4 k hk)⟩
  · show roll.length ≤ 5; omega
  · intro b hbk p hp
    rcases hk b hbk with rfl | rfl
    · exact ok0 _ (lotD_mem L0 hp)
    · exact ok1 _ (lotD_mem L1 hp)
/-! ### the heap goes on: all but a hand stays -/
structure Go (h : Addr) (H H' : Hp) : Prop where
  km : Km h H H'
  t : Tups H H'
theorem Go.same {h : Addr} {H H' : Hp} (s : Same H H') : Go h H H' := ⟨Km.same s, s.tups⟩
theorem Go.trans {h : Addr} {H H1 H2 : Hp} (a : Go h H H1) (b : Go h H1 H2) : Go h H H2 := ⟨a.km.trans b.km, a.t.trans b.t⟩
theorem HandAt.go {H H' : Hp} {h : Addr} {b : Nat} (A : HandAt H h b) (k : Km h H H') : Go h H H' := ⟨k, A.tups k⟩
theorem Go.lst {h l : Addr} {H H' : Hp} (g : Go h H H') {xs : List V} (hl : l ≠ h) (e : H l = some (.lst xs)) : H' l = some (.lst xs) := g.km _ _ hl e
theorem g_ifS2 {c : TT} {t : TS} {D : Ends} {σ : L2.St} {H : Hp} (P : L2.St → Hp → Prop) (h : ((∀ R : Bool → Hp → Prop, R true H → c σ H R) ∧ ∀ D' : Ends, (∀ σ' H', P σ' H' → D'.nx σ' H') → t D' σ H) ∨ ((∀ R : Bool → Hp → Prop, R false H → c σ H R) ∧ P σ H)) (k : ∀ σ' H', P σ' H' → D.nx σ' H') : tIfS c t tNext D σ H := by
  rcases h with ⟨h1, h2⟩ | ⟨h1, h2⟩
  · exact h1 _ (iteT (h2 _ k))
  · exact h1 _ (iteF (k _ _ h2))
section
variable {P : Program} {w : World} {K : PySem.W.Frag} {mg : Str → Option Value} {base : Heap} {CM CH CV aL : Addr}
def spLShip (K : PySem.W.Frag) : Sp := fun vs H Q _ => ∃ (h : Addr) (b : Nat), vs = [.ref h] ∧ HandAt H h b ∧ b + 2000 ≤ 1000000 ∧
  ∀ (H' : Hp) (q : Addr) (s : Ship), Km h H H' → HandAt H' h (b + 1000) → Dt K H' (.ref q) (encS s) → ShipD s → Q (.ref q) H'
theorem sc_law_ship : FnScope ["_law_hand_here", "_law_day", "_law_watch", "_law_turn", "_law_pool", "_law_names_here", "_law_roll_here", "_law_bills", "_law_books", "_law_some"] ["_law_hand_here"] (defScope s_law_ship) := ⟨rfl, rfl, rfl, by decide +kernel, rfl, by decide +kernel, by decide +kernel⟩
theorem c_law_ship (T : Txt K mg CM CH CV aL) : Cal P w K mg base 5 "_law_ship" (spLShip K) := by
  have c_law_take := c_law_take (P := P) (w := w) (base := base) T
  have c_law_order := c_law_order (P := P) (w := w) (base := base) T
  have c_law_names := c_law_names (P := P) (w := w) (base := base) T
  have c_law_lot := c_law_lot (P := P) (w := w) (base := base) T
  have c_law_roll := c_law_roll (P := P) (w := w) (base := base) T
  refine cal_of T.d_law_ship (fun _ _ _ _ _ _ us hl => match us, hl with | [_], _ => rfl) sc_law_ship (fun vs H Q E h => ?_) (fun f cdv A outer s H vs Q E hr h => ?_)
  · obtain ⟨_, _, rfl, _⟩ := h; rfl
  · obtain ⟨h, b, rfl, A, hb, k⟩ := h
    refine ⟨_, (pss_cons (ps_set (i := 1) sc_law_ship.nd rfl (Or.inl rfl) (pe_callTy (call_tuple_ofK K) (by rfl) T.b_tuple (by decide +kernel) (pa_cons (pe_lc (own := [("_law_watch", 2)]) rfl sc_law_ship.nd (pi_range1 (by rfl) T.b_range (pa_cons (pe_op op_add pe_int (pe_c c_law_take hr (by decide) rfl (pa_cons (pv 0) (pa_cons pe_int pa_nil)))) pa_nil)) (blkOk_by (own := [("_law_watch", 2)]) (N := ["_law_hand_here", "_law_day", "_law_watch", "_law_turn", "_law_pool", "_law_names_here", "_law_roll_here", "_law_bills", "_law_books", "_law_some"]) (sc := defScope s_law_ship) (by decide +kernel)) (fun _ _ _ _ _ => (pg_name (i := 2) sc_law_ship.nd rfl (Or.inl rfl))) (fun _ _ _ _ _ => pts_nil) (fun _ _ _ _ _ => (pe_op op_add pe_int (pe_c c_law_take hr (by decide) rfl (pa_cons (pv 0) (pa_cons pe_int pa_nil)))))) pa_nil)))
    (pss_cons (ps_set (i := 3) sc_law_ship.nd rfl (Or.inl rfl) (pe_callTy (call_tuple_ofK K) (by rfl) T.b_tuple (by decide +kernel) (pa_cons (pe_c c_law_order hr (by decide) rfl (pa_cons (pv 0) (pa_cons (pe_listRg rfl rfl T.b_list (prg_1 rfl T.b_range (pe_op op_add pe_int (pe_c c_law_take hr (by decide) rfl (pa_cons (pv 0) (pa_cons pe_int pa_nil)))))) pa_nil))) pa_nil)))
    (pss_cons (ps_par (i := 4) (j := 5) rfl sc_law_ship.nd rfl rfl (by decide) rfl rfl (pa_cons (pe_c c_law_names hr (by decide) rfl (pa_cons (pv 0) (pa_cons (pe_op op_add pe_int (pe_c c_law_take hr (by decide) rfl (pa_cons (pv 0) (pa_cons pe_int pa_nil)))) pa_nil))) (pa_cons (pe_c c_law_names hr (by decide) rfl (pa_cons (pv 0) (pa_cons pe_int pa_nil))) pa_nil)) (by rfl))
    (pss_cons (ps_set (i := 6) sc_law_ship.nd rfl (Or.inl rfl) (pe_c c_law_roll hr (by decide) rfl (pa_cons (pv 0) (pa_cons (pe_op op_add pe_int (pe_c c_law_take hr (by decide) rfl (pa_cons (pv 0) (pa_cons pe_int pa_nil)))) (pa_cons (pv 4) (pa_cons (pe_callB (call_len_seqK K) (by rfl) T.b_len PySem.boot_len (pa_cons (pv 3) pa_nil)) pa_nil))))))
    (pss_cons (ps_set (i := 7) sc_law_ship.nd rfl (Or.inl rfl) (pe_lst pa_nil))
    (pss_cons (ps_for PassesOwn.never rfl (pi_tupK K (pv 1)) (pg_name (i := 2) sc_law_ship.nd rfl (Or.inl rfl)) (pss_one (ps_expr (pe_bmK K PySem.F.plainAttrs_list PySem.F.slot_list_append PySem.F.type_list_append mt_append (pv 7) (pa_cons (pe_c c_law_lot hr (by decide) rfl (pa_cons (pv 0) (pa_cons (pe_slice (sl_listK K) (pe_c c_law_order hr (by decide) rfl (pa_cons (pv 0) (pa_cons (pe_slice (sl_listK K) (pv 5) po_none (po_some pe_int)) pa_nil))) po_none (po_some (pe_c c_law_take hr (by decide) rfl (pa_cons (pv 0) (pa_cons pe_int pa_nil))))) (pa_cons (pv 4) pa_nil)))) pa_nil)))))
    (pss_cons (ps_set (i := 8) sc_law_ship.nd rfl (Or.inl rfl) (pe_lst (pa_cons (pe_tup (pa_cons pe_str (pa_cons pe_int (pa_cons (pe_c c_law_lot hr (by decide) rfl (pa_cons (pv 0) (pa_cons (pe_slice (sl_listK K) (pv 5) (po_some pe_int) (po_some (pe_op op_add pe_int (pe_c c_law_take hr (by decide) rfl (pa_cons (pv 0) (pa_cons pe_int pa_nil)))))) (pa_cons (pv 4) pa_nil)))) pa_nil)))) pa_nil)))
    (pss_cons (ps_expr (pe_bmK K PySem.F.plainAttrs_list PySem.F.slot_list_append PySem.F.type_list_append mt_append (pv 8) (pa_cons (pe_tup (pa_cons pe_str (pa_cons (pe_c c_law_take hr (by decide) rfl (pa_cons (pv 0) (pa_cons pe_int pa_nil))) (pa_cons (pe_c c_law_lot hr (by decide) rfl (pa_cons (pv 0) (pa_cons (pe_slice (sl_listK K) (pv 5) (po_some pe_int) (po_some (pe_op op_add pe_int (pe_c c_law_take hr (by decide) rfl (pa_cons (pv 0) (pa_cons pe_int pa_nil)))))) (pa_cons (pv 4) pa_nil)))) pa_nil)))) pa_nil)))
    (pss_cons (ps_if (pt_cmpR op_eq (pe_ix (ix_tupK K) (pe_ix (ix_listK K) (pv 8) pe_int (fun _ _ => rfl)) pe_int (fun _ _ => rfl)) pe_int (nomark _)) (pss_cons (ps_set (i := 9) sc_law_ship.nd rfl (Or.inl rfl) (pe_c c_law_order hr (by decide) rfl (pa_cons (pv 0) (pa_cons (pe_op op_cat (pe_slice (sl_listK K) (pv 5) (po_some pe_int) (po_some pe_int)) (pe_slice (sl_listK K) (pv 5) (po_some pe_int) po_none)) pa_nil))))
    (pss_one (ps_asg (pe_tup (pa_cons pe_str (pa_cons pe_int (pa_cons (pe_c c_law_lot hr (by decide) rfl (pa_cons (pv 0) (pa_cons (pe_slice (sl_listK K) (pv 9) po_none (po_some (pe_c c_law_take hr (by decide) rfl (pa_cons (pv 0) (pa_cons pe_int pa_nil))))) (pa_cons (pv 4) pa_nil)))) pa_nil)))) (pg_sub (pv 8) pe_int set_list)))) pss_nil)
    (pss_one (ps_ret (pe_tup (pa_cons (pv 1) (pa_cons (pv 3) (pa_cons (pv 6) (pa_cons (pe_callTy (call_tuple_ofK K) (by rfl) T.b_tuple (by decide +kernel) (pa_cons (pv 7) pa_nil)) (pa_cons (pe_callTy (call_tuple_ofK K) (by rfl) T.b_tuple (by decide +kernel) (pa_cons (pv 8) pa_nil)) pa_nil))))))))))))))))), ?_⟩
    -- the day
    refine ⟨_, rfl, h, _, _, rfl, A, by omega, by decide, by decide, fun H1 d k1 A1 d0 d1 => ⟨_, _, rfl, rfl, _, rfl, by omega, by omega, fun D hD => ?_⟩⟩
    have nD : D ≠ h := A1.ne hD
    have ed : (1 + d).toNat = (1 + d).toNat := rfl
    refine lc_runB walk_range0 [h] (fun j ac H2 => HandAt H2 h (b + 1 + j) ∧ ∃ ds : List Int, ac = ds.map V.int ∧ ds.length = j ∧ ∀ x, x ∈ ds → 1 ≤ x ∧ x ≤ 3) hD (fun H2 S2 => ⟨A1.same S2, [], rfl, rfl, fun x hx => by simp at hx⟩) (fun _ _ => trivial) ?_ ?_
    · rintro j x ac H2 H3 hj hD0 B2 e2 ⟨A2, ds, rfl, lds, hds⟩ ⟨rfl, rfl⟩
      have hj : j < (1 + d).toNat := hj
      refine ⟨rfl, g_yes (iteT ?_)⟩
      refine ⟨_, rfl, h, _, _, rfl, A2, by omega, by decide, by decide, fun H4 r k4 A4 r0 r1 => ⟨_, _, rfl, rfl, ?_⟩⟩
      refine lcB_next hD0 (butL_trans B2 (butL_km k4 (by simp))) (k4 _ _ nD e2) (by rw [List.length_map]; omega) fun H5 e5 k5 => ⟨A4.eq (k5 _ nD.symm), ds ++ [1 + r], by rw [List.map_append]; rfl, by rw [List.length_append, lds]; rfl, fun x hx => ?_⟩
      rcases List.mem_append.mp hx with z | z
      · exact hds x z
      · have : x = 1 + r := by simpa using z
        omega
    rintro ac H2 B2 e2 ⟨A2, ds, rfl, lds, hds⟩
    have lds : ds.length = (1 + d).toNat := lds
    have A2 := A2.up (show b + 1 + (1 + d).toNat ≤ b + 10 by omega)
    refine ⟨D, _, rfl, .inl ⟨sql_of e2, fun td htd => newG htd fun H3 S3 e3 => ?_⟩⟩
    have G13 : Go h H H3 := ((A.go k1).trans (A1.go (km_butL B2))).trans (Go.same S3)
    have A3 := A2.same S3
    -- the turn
    refine ⟨_, rfl, _, rfl, h, _, _, rfl, A3, by omega, by decide, by decide, fun H4 r k4 A4 r0 r1 => ⟨_, _, rfl, rfl, _, rfl, RgOk.of_le (by decide) (by omega) (by decide) (by omega), fun lq hlq => newG hlq fun H5 S5 e5 => ?_⟩⟩
    have lrg : (rgV 0 (1 + r)).length ≤ 3 := by rw [rgV_length]; omega
    refine ⟨h, lq, _, _, rfl, A4.same S5, by omega, e5, A4.ne hlq, by omega, fun H6 oq ys k6 A6 hoq eo hp => ⟨oq, _, rfl, .inl ⟨sql_of eo, fun tt htt => newG htt fun H7 S7 e7 => ?_⟩⟩⟩
    obtain ⟨tn, rfl, htn⟩ := turn_good r0 r1 hp
    have A7 := (A6.same S7).up (show b + 10 + 1 + (rgV 0 (1 + r)).length ≤ b + 20 by omega)
    have G37 : Go h H3 H7 := ((A3.go k4).trans (Go.same S5)).trans (((A4.same S5).go k6).trans (Go.same S7))
    -- the names
    refine ⟨_, rfl, _, rfl, h, _, _, rfl, A7, by omega, by decide, by decide, fun H8 r2 k8 A8 q0 q1 => ?_⟩
    obtain ⟨n1, hn1⟩ : ∃ n : Nat, 1 + r2 = ((n : Nat) : Int) := ⟨(1 + r2).toNat, by omega⟩
    refine ⟨_, _, rfl, rfl, h, _, n1, by rw [← hn1]; rfl, A8, by omega, by omega, fun H9 pl pool k9 A9 hpl ep lp ndp okp => ?_⟩
    have npl : pl ≠ h := A8.ne hpl
    refine ⟨_, rfl, h, _, 9, rfl, A9, by omega, by decide, fun H10 nl N k10 A10 hnl en lN ndN okN => ⟨_, _, rfl, ?_⟩⟩
    have nnl : nl ≠ h := A9.ne hnl
    have ep10 := k10 _ _ npl ep
    have G710 : Go h H7 H10 := ((A7.go k8).trans (A8.go k9)).trans (A9.go k10)
    have A10 := A10.up (show b + 20 + 1 + 7 * n1 + 7 * 9 ≤ b + 110 by omega)
    have pne : pool ≠ [] := fun z => by rw [z] at lp; simp at lp; omega
    -- the roll
    refine ⟨_, rfl, _, rfl, h, _, _, rfl, A10, by omega, by decide, by decide, fun H11 r3 k11 A11 c0 c1 => ?_⟩
    obtain ⟨n3, hn3⟩ : ∃ n : Nat, 1 + r3 = ((n : Nat) : Int) := ⟨(1 + r3).toNat, by omega⟩
    have G711 := G710.trans (A10.go k11)
    have e7t : SqT K H11 tt (tn.map V.int) := G711.t.sq (sqt_of e7)
    have gl := good_len htn
    have hmul : n3 * (2 + pool.length) ≤ 5 * 4 := Nat.mul_le_mul (by omega) (by omega)
    refine ⟨_, _, rfl, rfl, _, rfl, _, rfl, tt, _, rfl, .inr e7t, h, pl, _, n3, pool, _, by rw [← hn3]; rfl, A11, by omega, by omega, k11 _ _ npl ep10, npl, by omega, by rw [List.length_map]; omega, by rw [List.length_map]; omega, fun H12 rq roll k12 A12 drl RD => ?_⟩
    have A12 := A12.up (show b + 110 + 1 + 7 * n3 + n3 * (2 + pool.length) ≤ b + 250 by omega)
    have G712 := G711.trans (A11.go k12)
    have ep12 := k12 _ _ npl (k11 _ _ npl ep10)
    have en12 := k12 _ _ nnl (k11 _ _ nnl en)
    -- the bills
    refine ⟨by show 0 ≤ sizeLine; decide, fun bl hbl => newG hbl fun H13 S13 e13 => ?_⟩
    have nbl : bl ≠ h := A12.ne hbl
    have G312 : Go h H3 H12 := G37.trans G712
    have etd12 : SqT K H12 td (ds.map V.int) := G312.t.sq (sqt_of e3)
    refine ⟨_, rfl, td, rfl, ⟨_, S13.tup etd12⟩, ?_⟩
    have sub4 : ∀ k : Nat, k ≤ 9 → HT.sIx N.length N.length (some ((k : Nat) : Int)) = k := fun k hk => by rw [HT.sIx_nat, lN]; omega
    have sub0 : ∀ k : Nat, k ≤ 9 → HT.sIx N.length 0 (some ((k : Nat) : Int)) = k := fun k hk => by rw [HT.sIx_nat, lN]; omega
    refine for_it (walk_tup (K := K) (a := td) (xs := ds.map V.int)) (fun i σ H2 => ∃ (z2 : Option V) (bws : List V) (lots : List (List Place)), σ = [some (.ref h), some (.ref td), z2, some (.ref tt), some (.ref pl), some (.ref nl), some (.ref rq), some (.ref bl), none, none] ∧ HandAt H2 h (b + 250 + i * 60) ∧ H2 bl = some (.lst bws) ∧ DtAll K H2 bws (lots.map encL) ∧ lots.length = i ∧ (∀ l, l ∈ lots → ∃ ns, LotD l ns ∧ ns.Nodup ∧ ∀ x, x ∈ ns → inSeg N 0 4 x) ∧ Go h H12 H2)
      ⟨none, [], [], rfl, (A12.same S13).up (by omega), e13, .nil, rfl, fun l hl => by simp at hl, Go.same S13⟩ (fun i σ H2 _ ⟨_, _, _, _, _, _, _, _, _, g⟩ => g.t.sq etd12) ?_ ?_
    · rintro i x σ H2b H2 hi ⟨z2, bws, lots, rfl, A2, fb, Db, ll, hl, G2⟩ ⟨rfl, hx⟩
      rw [List.length_map] at hi
      have hi3 : i < 3 := by omega
      have en2 := G2.lst nnl en12
      refine ⟨_, rfl, .inl ⟨rfl, _, sql_of fb⟩, _, rfl, _, rfl, _, rfl, 4, rfl, nl, _, rfl, sql_of en2, fun c1 hc1 => newG hc1 fun Ha Sa ea => ?_⟩
      obtain ⟨n4, e4c, sl4, sg4⟩ := cut_seg (N := N) (i := 0) (j := 4) (lo := none) (hi := some 4) rfl (sub4 4 (by decide))
      rw [e4c] at ea
      have l4 := sl4.length_le
      refine ⟨h, c1, _, _, rfl, A2.same Sa, by rw [List.length_map]; omega, ea, A2.ne hc1, by rw [List.length_map]; omega, fun Hb oq ys kb Ab hoq eo hp => ?_⟩
      rw [List.length_map] at Ab
      have noq : oq ≠ h := (A2.same Sa).ne hoq
      obtain ⟨os, rfl, po⟩ := perm_strs hp
      refine ⟨_, rfl, h, _, _, rfl, Ab, by omega, by decide, by decide, fun Hc r kc Ac r0 r1 => ⟨_, rfl, oq, _, rfl, sql_of (kc _ _ noq eo), fun c2 hc2 => newG hc2 fun Hd Sd ed => ?_⟩⟩
      obtain ⟨ns2, e2c, sl2⟩ := cut_sub os (some r)
      rw [e2c] at ed
      have lo2 := po.length_eq
      have l2 := sl2.length_le
      have G2d : Go h H2 Hd := ((Go.same Sa).trans ((A2.same Sa).go kb)).trans ((Ab.go kc).trans (Go.same Sd))
      refine ⟨_, rfl, h, c2, pl, _, ns2, pool, rfl, Ac.same Sd, by omega, ed, Ac.ne hc2, by omega, G2d.lst npl (G2.lst npl ep12), npl, pne, by omega, fun He lq lot ke Ae dl L => ⟨bl, _, _, rfl, rfl, (G2d.trans ((Ac.same Sd).go ke)).lst nbl fb, sz100' ?_, ?_⟩⟩
      · have := Db.length
        rw [List.length_map] at this
        omega
      have G2e := G2d.trans ((Ac.same Sd).go ke)
      have fbe := G2e.lst nbl fb
      have te : Tups He (upd He bl (.lst (bws ++ [.ref lq]))) := Tups.upd (not_tup_lst fbe)
      refine ⟨_, bws ++ [.ref lq], lots ++ [lot], rfl, (Ae.eq (upd_ne nbl.symm)).up (by omega), upd_same, ?_, by rw [List.length_append, ll]; rfl, fun l hm => ?_, ⟨fun c o hc q => ?_, (G2.t.trans G2e.t).trans te⟩⟩
      · rw [List.map_append]
        exact (Db.mono (G2e.t.trans te)).append (.cons (dl.mono te) .nil)
      · rcases List.mem_append.mp hm with z | z
        · exact hl l z
        · have : l = lot := by simpa using z
          subst this
          exact ⟨ns2, L, ((sl4.nodup ndN).perm po.symm).sublist sl2, fun x hx => sg4 x (po.mem_iff.mp (sl2.mem hx))⟩
      · rw [upd_ne (ne_of_none q hbl)]
        exact G2e.km _ _ hc (G2.km _ _ hc q)
    rintro σ H20 ⟨z2, bws, lots, rfl, A20, fb, Db, ll, hl, G20⟩
    rw [List.length_map] at A20 ll
    have A20 := A20.up (show b + 250 + ds.length * 60 ≤ b + 450 by omega)
    have en20 := G20.lst nnl en12
    have ep20 := G20.lst npl ep12
    -- the boats
    refine ⟨_, rfl, _, rfl, 4, rfl, _, rfl, h, _, _, rfl, A20, by omega, by decide, by decide, fun H21 r5 k21 A21 g0 g1 => ⟨_, _, rfl, rfl, _, rfl, nl, _, rfl, sql_of (k21 _ _ nnl en20), fun c3 hc3 => newG hc3 fun H22 S22 e22 => ?_⟩⟩
    obtain ⟨m5, hm5⟩ : ∃ m : Nat, 5 + r5 = ((m : Nat) : Int) := ⟨(5 + r5).toNat, by omega⟩
    obtain ⟨ns0, e0c, sl0, sg0⟩ := cut_seg (N := N) (i := 4) (j := m5) (lo := some 4) (hi := some (5 + r5)) (sub0 4 (by decide)) (by rw [hm5]; exact sub4 m5 (by omega))
    rw [e0c] at e22
    have l0 := sl0.length_le
    have G2022 : Go h H20 H22 := (A20.go k21).trans (Go.same S22)
    refine ⟨_, rfl, h, c3, pl, _, ns0, pool, rfl, A21.same S22, by omega, e22, A21.ne hc3, by omega, G2022.lst npl ep20, npl, pne, by omega, fun H23 lq0 lot0 k23 A23 dl0 L0 => ⟨by show 3 ≤ sizeLine; decide, fun t0 ht0 => newG ht0 fun H24 S24 e24 => ⟨by show 1 ≤ sizeLine; decide, fun kl hkl => newG hkl fun H25 S25 e25 => ?_⟩⟩⟩
    have A24 := (A23.same S24).up (show b + 450 + 1 + 5 * ns0.length ≤ b + 500 by omega)
    have nkl : kl ≠ h := A24.ne hkl
    have G2024 : Go h H20 H24 := G2022.trans (((A21.same S22).go k23).trans (Go.same S24))
    have d0 : Dt K H24 (.ref t0) (encB ⟨"boats", 1, lot0⟩) := .tup (sqt_of e24) (.cons (.str _) (.cons (.int _) (.cons (dl0.mono S24.tups) .nil)))
    have A25 := A24.same S25
    have en25 := S25 _ _ (G2024.lst nnl en20)
    -- the fire
    refine ⟨_, rfl, .inl ⟨rfl, _, sql_of e25⟩, _, rfl, h, _, _, rfl, A25, by omega, by decide, by decide, fun H26 a1 k26 A26 a10 a11 => ⟨_, rfl, _, rfl, 7, rfl, _, rfl, h, _, _, rfl, A26, by omega, by decide, by decide, fun H27 r7 k27 A27 j0 j1 => ⟨_, _, rfl, rfl, _, rfl, nl, _, rfl, sql_of (k27 _ _ nnl (k26 _ _ nnl en25)), fun c4 hc4 => newG hc4 fun H28 S28 e28 => ?_⟩⟩⟩
    obtain ⟨m8, hm8⟩ : ∃ m : Nat, 8 + r7 = ((m : Nat) : Int) := ⟨(8 + r7).toNat, by omega⟩
    obtain ⟨ns1, e1c, sl1, sg1⟩ := cut_seg (N := N) (i := 7) (j := m8) (lo := some 7) (hi := some (8 + r7)) (sub0 7 (by decide)) (by rw [hm8]; exact sub4 m8 (by omega))
    rw [e1c] at e28
    have l1 := sl1.length_le
    have G2528 : Go h H25 H28 := ((A25.go k26).trans (A26.go k27)).trans (Go.same S28)
    refine ⟨_, rfl, h, c4, pl, _, ns1, pool, rfl, A27.same S28, by omega, e28, A27.ne hc4, by omega, G2528.lst npl (S25 _ _ (G2024.lst npl ep20)), npl, pne, by omega, fun H29 lq1 lot1 k29 A29 dl1 L1 => ⟨by show 3 ≤ sizeLine; decide, fun t1 ht1 => newG ht1 fun H30 S30 e30 => ⟨kl, [.ref t0], _, rfl, rfl, ?_, sz100' (by show 1 < 100000; decide), ?_⟩⟩⟩
    · exact S30 _ _ ((G2528.trans ((A27.same S28).go k29)).lst nkl e25)
    have G2430 : Go h H24 H30 := (Go.same S25).trans ((G2528.trans ((A27.same S28).go k29)).trans (Go.same S30))
    have f30 : H30 kl = some (.lst [.ref t0]) := S30 _ _ ((G2528.trans ((A27.same S28).go k29)).lst nkl e25)
    have d1 : Dt K H30 (.ref t1) (encB ⟨"fire", a1, lot1⟩) := .tup (sqt_of e30) (.cons (.str _) (.cons (.int _) (.cons (dl1.mono S30.tups) .nil)))
    have A30 := (A29.same S30).up (show b + 500 + 1 + 1 + 5 * ns1.length ≤ b + 550 by omega)
    have t31 : Tups H30 (upd H30 kl (.lst ([.ref t0] ++ [.ref t1]))) := Tups.upd (not_tup_lst f30)
    have G2431 : Go h H24 (upd H30 kl (.lst ([.ref t0] ++ [.ref t1]))) := ⟨fun c o hc q => by rw [upd_ne (ne_of_none q hkl)]; exact G2430.km _ _ hc q, G2430.t.trans t31⟩
    have A31 : HandAt (upd H30 kl (.lst ([.ref t0] ++ [.ref t1]))) h (b + 550) := A30.eq (upd_ne nkl.symm)
    have f31 : upd H30 kl (.lst ([.ref t0] ++ [.ref t1])) kl = some (.lst [.ref t0, .ref t1]) := upd_same
    have d1 := d1.mono t31
    have e31 : SqT K (upd H30 kl (.lst ([.ref t0] ++ [.ref t1]))) t1 [.str "fire", .int a1, .ref lq1] := t31.sq (sqt_of e30)
    generalize upd H30 kl (.lst ([.ref t0] ++ [.ref t1])) = H31 at t31 G2431 A31 f31 d1 e31 ⊢
    have n1 : ns1.Nodup := sl1.nodup ndN
    have s1 : ∀ x, x ∈ ns1 → inSeg N 7 9 x := fun x hx => by
      obtain ⟨k, q1, q2, q3⟩ := sg1 x hx
      exact ⟨k, q1, by omega, q3⟩
    have s0 : ∀ x, x ∈ ns0 → inSeg N 4 7 x := fun x hx => by
      obtain ⟨k, q1, q2, q3⟩ := sg0 x hx
      exact ⟨k, q1, by omega, q3⟩
    dsimp only
    refine st_norm (σ' := [some (.ref h), some (.ref td), z2, some (.ref tt), some (.ref pl), some (.ref nl), some (.ref rq), some (.ref bl), some (.ref kl), none]) rfl ?_
    refine g_seq (g_ifS2 (fun σ' H' => ∃ (z9 : Option V) (t2 : Addr) (lot2 : List Place) (a2 : Int) (ns2 : List Str), σ' = [some (.ref h), some (.ref td), z2, some (.ref tt), some (.ref pl), some (.ref nl), some (.ref rq), some (.ref bl), some (.ref kl), z9] ∧ HandAt H' h (b + 900) ∧ H' kl = some (.lst [.ref t0, .ref t2]) ∧ Dt K H' (.ref t2) (encB ⟨"fire", a2, lot2⟩) ∧ LotD lot2 ns2 ∧ ns2.Nodup ∧ (∀ x, x ∈ ns2 → segK N a2 x) ∧ Go h H24 H') ?_ ?_)
    · by_cases ha : a1 = 0
      · refine .inl ⟨fun R hR => ⟨_, rfl, kl, _, _, .ref t1, rfl, rfl, sql_of f31, rfl, t1, _, _, .int a1, rfl, rfl, e31, rfl, rfl, _, rfl, ?_⟩, fun D' hD' => ?_⟩
        · rw [decide_eq_true (by rw [ha])]
          exact hR
        · have en31 := G2431.lst nnl (G2024.lst nnl en20)
          have ep31 := G2431.lst npl (G2024.lst npl ep20)
          refine ⟨_, rfl, _, rfl, 2, rfl, 4, rfl, nl, _, rfl, sql_of en31, fun c5 hc5 => newG hc5 fun H32 S32 e32 => ⟨_, rfl, 7, rfl, nl, _, rfl, sql_of (S32 _ _ en31), fun c6 hc6 => newG hc6 fun H33 S33 e33 => ⟨c5, c6, _, _, rfl, rfl, S33 _ _ e32, e33, ?_, fun c7 hc7 => newG hc7 fun H34 S34 e34 => ?_⟩⟩⟩
          · obtain ⟨na, ea, sla, _⟩ := cut_seg (N := N) (i := 2) (j := 4) (lo := some 2) (hi := some 4) (sub0 2 (by decide)) (sub4 4 (by decide))
            obtain ⟨nb, eb, slb, _⟩ := cut_seg (N := N) (i := 7) (j := N.length) (lo := some 7) (hi := none) (sub0 7 (by decide)) rfl
            have := sla.length_le
            have := slb.length_le
            rw [ea, eb, List.length_map, List.length_map]
            exact sz100 (by omega)
          obtain ⟨na, ea, sla, sga⟩ := cut_seg (N := N) (i := 2) (j := 4) (lo := some 2) (hi := some 4) (sub0 2 (by decide)) (sub4 4 (by decide))
          obtain ⟨nb, eb, slb, sgb⟩ := cut_seg (N := N) (i := 7) (j := N.length) (lo := some 7) (hi := none) (sub0 7 (by decide)) rfl
          rw [lN] at sgb
          have la := sla.length_le
          have lb := slb.length_le
          rw [ea, eb, ← List.map_append] at e34
          have A34 := ((A31.same S32).same S33).same S34
          have G3134 : Go h H31 H34 := ((Go.same S32).trans (Go.same S33)).trans (Go.same S34)
          refine ⟨h, c7, _, _, rfl, A34, by rw [List.length_map, List.length_append]; omega, e34, ((A31.same S32).same S33).ne hc7, by rw [List.length_map, List.length_append]; omega, fun H35 oq ys k35 A35 hoq eo hp => ?_⟩
          rw [List.length_map, List.length_append] at A35
          have noq : oq ≠ h := A34.ne hoq
          obtain ⟨os, rfl, po⟩ := perm_strs hp
          have lo := po.length_eq
          rw [List.length_append] at lo
          refine ⟨_, rfl, _, rfl, _, rfl, h, _, _, rfl, A35, by omega, by decide, by decide, fun H36 r9 k36 A36 x0 x1 => ⟨_, rfl, oq, _, rfl, sql_of (k36 _ _ noq eo), fun c8 hc8 => newG hc8 fun H37 S37 e37 => ?_⟩⟩
          obtain ⟨ns2, e2c, sl2⟩ := cut_sub os (some r9)
          rw [e2c] at e37
          have l2 := sl2.length_le
          have G3137 : Go h H31 H37 := G3134.trans (((A34.go k35).trans (A35.go k36)).trans (Go.same S37))
          refine ⟨_, rfl, h, c8, pl, _, ns2, pool, rfl, A36.same S37, by omega, e37, A36.ne hc8, by omega, G3137.lst npl ep31, npl, pne, by omega, fun H38 lq2 lot2 k38 A38 dl2 L2 => ⟨by show 3 ≤ sizeLine; decide, fun t2 ht2 => newG ht2 fun H39 S39 e39 => ?_⟩⟩
          have G3139 : Go h H31 H39 := G3137.trans (((A36.same S37).go k38).trans (Go.same S39))
          have f39 := G3139.lst nkl f31
          have d2 : Dt K H39 (.ref t2) (encB ⟨"fire", 0, lot2⟩) := .tup (sqt_of e39) (.cons (.str _) (.cons (.int _) (.cons (dl2.mono S39.tups) .nil)))
          have t40 : Tups H39 (upd H39 kl (.lst ([V.ref t0, .ref t1].set 1 (.ref t2)))) := Tups.upd (not_tup_lst f39)
          refine ⟨_, rfl, kl, _, _, 1, rfl, rfl, f39, rfl, hD' _ _ ⟨_, t2, lot2, 0, ns2, rfl, ((A38.same S39).eq (upd_ne nkl.symm)).up (by omega), upd_same, d2.mono t40, L2, ?_, fun x hx => ?_, ⟨fun c o hc q => ?_, (G2431.t.trans G3139.t).trans t40⟩⟩⟩
          · refine List.Nodup.sublist sl2 (List.Nodup.perm ?_ po.symm)
            refine List.nodup_append.mpr ⟨sla.nodup ndN, slb.nodup ndN, fun x hx y hy => ?_⟩
            rintro rfl
            exact seg_apart ndN (sga x hx) (sgb x hy) (.inl (by decide))
          · rcases List.mem_append.mp (po.mem_iff.mp (sl2.mem hx)) with z | z
            · exact .inr ⟨by decide, sga x z⟩
            · exact .inl (sgb x z)
          · rw [upd_ne (ne_of_none q hkl)]
            exact G3139.km _ _ hc (G2431.km _ _ hc q)
      · refine .inr ⟨fun R hR => ⟨_, rfl, kl, _, _, .ref t1, rfl, rfl, sql_of f31, rfl, t1, _, _, .int a1, rfl, rfl, e31, rfl, rfl, _, rfl, ?_⟩, ⟨_, t1, lot1, a1, ns1, rfl, A31.up (by omega), f31, d1, L1, n1, fun x hx => .inl (s1 x hx), G2431⟩⟩
        rw [decide_eq_false fun z => ha (by injection z)]
        exact hR
    · rintro σ' H' ⟨z9, t2, lot2, a2, ns2, rfl, A', fk, d2, L2, n2, s2, G'⟩
      have fb' := G'.lst nbl (G2024.lst nbl fb)
      have Db' := (Db.mono G2024.t).mono G'.t
      refine ⟨_, rfl, _, rfl, _, rfl, _, rfl, bl, _, rfl, .inl ⟨sql_of fb', fun tb htb => newG htb fun H41 S41 e41 => ⟨_, rfl, kl, _, rfl, .inl ⟨sql_of (S41 _ _ fk), fun tk htk => newG htk fun H42 S42 e42 => ⟨by show 5 ≤ sizeLine; decide, fun t ht => newG ht fun H43 S43 e43 => ?_⟩⟩⟩⟩⟩
      have S4143 := S42.trans S43
      have S'43 := S41.trans S4143
      have G2043 : Go h H20 H43 := (G2024.trans G').trans (Go.same S'43)
      have G1243 : Go h H12 H43 := G20.trans G2043
      refine k H43 t ⟨ds, tn, roll, lots, [⟨"boats", 1, lot0⟩, ⟨"fire", a2, lot2⟩]⟩ (((G13.trans G312).trans G1243).km) ((A'.same S'43).up (by omega)) (.tup (sqt_of e43) (.cons (.tup ((G312.trans G1243).t.sq (sqt_of e3)) DtAll.ints) (.cons (.tup ((G712.trans G1243).t.sq (sqt_of e7)) DtAll.ints) (.cons (drl.mono G1243.t) (.cons (.tup (S4143.tup (sqt_of e41)) (Db'.mono S'43.tups)) (.cons (.tup (S43.tup (sqt_of e42)) (.cons ((d0.mono G'.t).mono S'43.tups) (.cons (d2.mono S'43.tups) .nil))) .nil))))))
        (ship_d lN ndN okN okp ⟨?_, hds, by omega⟩ htn RD (by omega) (by omega) hl L0 (sl0.nodup ndN) s0 L2 n2 s2)
      intro z
      rw [z] at lds
      simp at lds
      omega
end
end WS
/-! Changes and pages of the law's. -/
namespace WS
open PySem PySem.Spec PyProof.Rows L2 WM
open C8 (pe_gc pe_c pe_mk pe_mt pe_mt0)
structure CgOk (c : Chg) : Prop where
  lay : PyData.canLay0 (encCg c) = true
  ok : ChgOk c
theorem sk_call : PyData.strOk ("call" : Str) = true := by decide +kernel
theorem sk_done : PyData.strOk ("done" : Str) = true := by decide +kernel
theorem sk_sick : PyData.strOk ("sick" : Str) = true := by decide +kernel
theorem sk_well : PyData.strOk ("well" : Str) = true := by decide +kernel
theorem sk_leave : PyData.strOk ("leave" : Str) = true := by decide +kernel
theorem sk_rank : PyData.strOk ("rank" : Str) = true := by decide +kernel
theorem sk_section : PyData.strOk ("section" : Str) = true := by decide +kernel
theorem sk_many : PyData.strOk ("many" : Str) = true := by decide +kernel
theorem sk_learn : PyData.strOk ("learn" : Str) = true := by decide +kernel
theorem sk_join : PyData.strOk ("join" : Str) = true := by decide +kernel
theorem sk_zz : NmP "zz" := ⟨by decide +kernel, by decide +kernel⟩
theorem zz_ok : ∀ x, x ∈ (["zz"] : List Str) → NmP x := fun x hx => by
  have : x = "zz" := by simpa using hx
  rw [this]
  exact sk_zz
theorem cg_call {w : Str} (h : PyData.strOk w = true) : CgOk (.call w) := ⟨by simp [encCg, PyData.canLay0, PyData.canLayAll0, sk_call, h], trivial⟩
theorem cg_done {w : Str} (h : PyData.strOk w = true) : CgOk (.done w) := ⟨by simp [encCg, PyData.canLay0, PyData.canLayAll0, sk_done, h], trivial⟩
theorem cg_sick {w : Str} (h : PyData.strOk w = true) : CgOk (.sick w) := ⟨by simp [encCg, PyData.canLay0, PyData.canLayAll0, sk_sick, h], trivial⟩
theorem cg_well {w : Str} (h : PyData.strOk w = true) : CgOk (.well w) := ⟨by simp [encCg, PyData.canLay0, PyData.canLayAll0, sk_well, h], trivial⟩
theorem cg_leave {w : Str} (h : PyData.strOk w = true) : CgOk (.leave w) := ⟨by simp [encCg, PyData.canLay0, PyData.canLayAll0, sk_leave, h], trivial⟩
theorem cg_rank {w : Str} {r : Int} (h : PyData.strOk w = true) (h0 : 0 ≤ r) : CgOk (.rank w r) := ⟨by simp [encCg, PyData.canLay0, PyData.canLayAll0, sk_rank, h], h0⟩
theorem cg_section {w : Str} {r : Int} (h : PyData.strOk w = true) : CgOk (.section_ w r) := ⟨by simp [encCg, PyData.canLay0, PyData.canLayAll0, sk_section, h], trivial⟩
theorem cg_many {w : Str} {r : Int} (h : PyData.strOk w = true) (h0 : 0 ≤ r) (h1 : r ≤ 1000) : CgOk (.many w r) := ⟨by simp [encCg, PyData.canLay0, PyData.canLayAll0, sk_many, h], h0, h1⟩
theorem cg_learn {w x : Str} (h : PyData.strOk w = true) (k : PyData.strOk x = true) : CgOk (.learn w x) := ⟨by simp [encCg, PyData.canLay0, PyData.canLayAll0, sk_learn, h, k], trivial⟩
theorem cg_join {w x : Str} {r c : Int} (h : PyData.strOk w = true) (k : PyData.strOk x = true) (h0 : 0 ≤ r) : CgOk (.join ⟨w, r, [x], c⟩) := ⟨by simp [encCg, encH, PyData.canLay0, PyData.canLayAll0, sk_join, h, k], by show (1 : Nat) ≤ 10; decide, h0, h⟩
theorem two_inv {K : PySem.W.Frag} {H : Hp} {xs : List V} {b0 b1 : Book} (h : DtAll K H xs ([b0, b1].map encB)) : ∃ k0 k1, xs = [k0, k1] ∧ Dt K H k0 (encB b0) ∧ Dt K H k1 (encB b1) := by
  cases h with
  | cons d1 h =>
    cases h with
    | cons d2 h =>
      cases h
      exact ⟨_, _, rfl, d1, d2⟩
section
variable {P : Program} {w : World} {K : PySem.W.Frag} {mg : Str → Option Value} {base : Heap} {CM CH CV aL : Addr}
def spLChg (K : PySem.W.Frag) : Sp := fun vs H Q _ => ∃ (h : Addr) (b : Nat) (u : V) (s : Ship) (way : Int), vs = [.ref h, u, .int way] ∧ HandAt H h b ∧ b + 100 ≤ 1000000 ∧ Dt K H u (encS s) ∧ ShipD s ∧ 0 ≤ way ∧ way ≤ 13 ∧
  ∀ (H' : Hp) (q : Addr) (c : Chg), Km h H H' → HandAt H' h (b + 100) → Dt K H' (.ref q) (encCg c) → CgOk c → Q (.ref q) H'
theorem sc_law_change : FnScope ["_law_hand_here", "_law_ship_here", "_law_way", "_law_name", "_law_one", "_law_word", "_law_places", "_law_lot_here", "_law_place", "_law_skills", "_law_rank"] ["_law_hand_here", "_law_ship_here", "_law_way"] (defScope s_law_change) := ⟨rfl, rfl, rfl, by decide +kernel, rfl, by decide +kernel, by decide +kernel⟩
theorem c_law_change (T : Txt K mg CM CH CV aL) : Cal P w K mg base 3 "_law_change" (spLChg K) := by
  have c_law_take := c_law_take (P := P) (w := w) (base := base) T
  have c_law_of := c_law_of (P := P) (w := w) (base := base) T
  refine cal_of T.d_law_change (fun _ _ _ _ _ _ us hl => match us, hl with | [_, _, _], _ => rfl) sc_law_change (fun vs H Q E h => ?_) (fun f cdv A outer s H vs Q E hr h => ?_)
  · obtain ⟨_, _, _, _, _, rfl, _⟩ := h; rfl
  · obtain ⟨h, b, u, s, way, rfl, A, hb, du, X, w0, w13, k⟩ := h
    obtain ⟨b0, b1, hbk⟩ := X.two
    obtain ⟨ua, dA, tA, rA, bA, kA, rfl, u1, dd, dt, dr, db, dk⟩ := ship_inv du
    obtain ⟨ra, rs, rfl, r1, r2⟩ := id dr.tup_inv
    have lrs : rs.length = s.roll.length := by have := r2.length; rwa [List.length_map] at this
    have hlen := X.len
    refine ⟨_, (pss_cons (ps_set (i := 3) sc_law_change.nd rfl (Or.inl rfl) (pe_c c_law_of hr (by decide) rfl (pa_cons (pv 0) (pa_cons (pe_op op_cat (pe_lc (own := [("_law_one", 4)]) rfl sc_law_change.nd (pi_tupK K (pe_ix (ix_tupK K) (pv 1) pe_int (fun _ _ => rfl))) (blkOk_by (own := [("_law_one", 4)]) (N := ["_law_hand_here", "_law_ship_here", "_law_way", "_law_name", "_law_one", "_law_word", "_law_places", "_law_lot_here", "_law_place", "_law_skills", "_law_rank"]) (sc := defScope s_law_change) (by decide +kernel)) (fun _ _ _ _ _ => (pg_name (i := 4) sc_law_change.nd rfl (Or.inl rfl))) (fun _ _ _ _ _ => pts_nil) (fun _ _ _ _ _ => (pe_ix (ix_tupK K) (pv 4) pe_int (fun _ _ => rfl)))) (pe_lst (pa_cons pe_str pa_nil))) pa_nil))))
    (pss_cons (ps_set (i := 5) sc_law_change.nd rfl (Or.inl rfl) (pe_c c_law_of hr (by decide) rfl (pa_cons (pv 0) (pa_cons (pe_lst (pa_cons pe_str (pa_cons pe_str (pa_cons pe_str (pa_cons pe_str pa_nil))))) pa_nil))))
    (pss_cons (ps_if (pt_cmpR op_lt (pv 2) pe_int (nomark _)) (pss_one (ps_ret (pe_tup (pa_cons pe_str (pa_cons (pv 5) pa_nil))))) pss_nil)
    (pss_cons (ps_if (pt_cmpR op_lt (pv 2) pe_int (nomark _)) (pss_one (ps_ret (pe_tup (pa_cons pe_str (pa_cons (pv 5) pa_nil))))) pss_nil)
    (pss_cons (ps_if (pt_cmpR op_lt (pv 2) pe_int (nomark _)) (pss_one (ps_ret (pe_ix (ix_listK K) (pe_lst (pa_cons (pe_tup (pa_cons pe_str (pa_cons (pv 3) pa_nil))) (pa_cons (pe_tup (pa_cons pe_str (pa_cons (pv 3) pa_nil))) (pa_cons (pe_tup (pa_cons pe_str (pa_cons (pv 3) pa_nil))) pa_nil)))) (pe_op op_sub (pv 2) pe_int) (fun _ _ => rfl)))) pss_nil)
    (pss_cons (ps_if (pt_cmpR op_eq (pv 2) pe_int (nomark _)) (pss_one (ps_ret (pe_tup (pa_cons pe_str (pa_cons (pv 3) (pa_cons (pe_c c_law_take hr (by decide) rfl (pa_cons (pv 0) (pa_cons pe_int pa_nil))) pa_nil)))))) pss_nil)
    (pss_cons (ps_if (pt_cmpR op_eq (pv 2) pe_int (nomark _)) (pss_one (ps_ret (pe_tup (pa_cons pe_str (pa_cons (pv 3) (pa_cons (pe_c c_law_take hr (by decide) rfl (pa_cons (pv 0) (pa_cons pe_int pa_nil))) pa_nil)))))) pss_nil)
    (pss_cons (ps_if (pt_cmpR op_eq (pv 2) pe_int (nomark _)) (pss_cons (ps_set (i := 6) sc_law_change.nd rfl (Or.inl rfl) (pe_lst (pa_cons pe_str pa_nil)))
    (pss_cons (ps_for PassesOwn.never rfl (pi_tupK K (pe_op (op_catAK K) (pe_ix (ix_tupK K) (pv 1) pe_int (fun _ _ => rfl)) (pe_tup (pa_cons (pe_ix (ix_tupK K) (pe_ix (ix_tupK K) (pe_ix (ix_tupK K) (pv 1) pe_int (fun _ _ => rfl)) pe_int (fun _ _ => rfl)) pe_int (fun _ _ => rfl)) pa_nil)))) (pg_name (i := 7) sc_law_change.nd rfl (Or.inl rfl)) (pss_one (ps_set (i := 6) sc_law_change.nd rfl (Or.inl rfl) (pe_op op_cat (pv 6) (pe_lc (own := [("_law_place", 8)]) rfl sc_law_change.nd (pi_tupK K (pv 7)) (blkOk_by (own := [("_law_place", 8)]) (N := ["_law_hand_here", "_law_ship_here", "_law_way", "_law_name", "_law_one", "_law_word", "_law_places", "_law_lot_here", "_law_place", "_law_skills", "_law_rank"]) (sc := defScope s_law_change) (by decide +kernel)) (fun _ _ _ _ _ => (pg_name (i := 8) sc_law_change.nd rfl (Or.inl rfl))) (fun _ _ _ _ _ => pts_nil) (fun _ _ _ _ _ => (pe_ix (ix_tupK K) (pv 8) pe_int (fun _ _ => rfl))))))))
    (pss_one (ps_ret (pe_tup (pa_cons pe_str (pa_cons (pe_c c_law_of hr (by decide) rfl (pa_cons (pv 0) (pa_cons (pv 6) pa_nil))) (pa_cons (pe_c c_law_take hr (by decide) rfl (pa_cons (pv 0) (pa_cons pe_int pa_nil))) pa_nil)))))))) pss_nil)
    (pss_cons (ps_set (i := 9) sc_law_change.nd rfl (Or.inl rfl) (pe_lst (pa_cons pe_str pa_nil)))
    (pss_cons (ps_for PassesOwn.never rfl (pi_tupK K (pe_ix (ix_tupK K) (pv 1) pe_int (fun _ _ => rfl))) (pg_name (i := 4) sc_law_change.nd rfl (Or.inl rfl)) (pss_one (ps_set (i := 9) sc_law_change.nd rfl (Or.inl rfl) (pe_op op_cat (pv 9) (pe_callTy (call_list_ofK K) (by rfl) T.b_list (by decide +kernel) (pa_cons (pe_ix (ix_tupK K) (pv 4) pe_int (fun _ _ => rfl)) pa_nil))))))
    (pss_cons (ps_if (pt_cmpR op_eq (pv 2) pe_int (nomark _)) (pss_one (ps_ret (pe_tup (pa_cons pe_str (pa_cons (pv 3) (pa_cons (pe_c c_law_of hr (by decide) rfl (pa_cons (pv 0) (pa_cons (pv 9) pa_nil))) pa_nil)))))) pss_nil)
    (pss_cons (ps_par (i := 3) (j := 10) rfl sc_law_change.nd rfl rfl (by decide) rfl rfl (pa_cons (pe_c c_law_of hr (by decide) rfl (pa_cons (pv 0) (pa_cons (pe_lst (pa_cons pe_str (pa_cons (pv 3) pa_nil))) pa_nil))) (pa_cons (pe_c c_law_take hr (by decide) rfl (pa_cons (pv 0) (pa_cons pe_int pa_nil))) pa_nil)) (by rfl))
    (pss_one (ps_ret (pe_tup (pa_cons pe_str (pa_cons (pe_tup (pa_cons (pv 3) (pa_cons (pv 10) (pa_cons (pe_tup (pa_cons (pe_c c_law_of hr (by decide) rfl (pa_cons (pv 0) (pa_cons (pv 9) pa_nil))) pa_nil)) (pa_cons (pe_c c_law_take hr (by decide) rfl (pa_cons (pv 0) (pa_cons pe_int pa_nil))) pa_nil))))) pa_nil))))))))))))))))), ?_⟩
    -- a name
    refine ⟨_, rfl, _, rfl, ua, _, _, .ref ra, rfl, rfl, u1, rfl, ra, rfl, ⟨_, r1⟩, fun D hD => ?_⟩
    refine lc_run (walk_tup (K := K) (a := ra) (xs := rs)) (H0 := H) (fun j ac _ => ac = ((s.roll.take j).map Hand.nm).map V.str) (Same.refl _) hD (fun _ _ => rfl) (fun H4 S4 => S4.tup r1) ?_ ?_
    · rintro j x ac H4 H5 hj hD0 S4 e4 rfl ⟨rfl, hx⟩
      obtain ⟨hd, hh, dh⟩ := item_inv (a := ra) r2 hx
      obtain ⟨ha, sa, rfl, h1, h2⟩ := hand_inv (dh.mono S4.tups)
      refine ⟨rfl, g_yes (iteT ?_)⟩
      refine ⟨_, rfl, ha, _, _, .str hd.nm, rfl, rfl, h1, rfl, ?_⟩
      refine lc_next hD0 S4 (Same.refl _) e4 (by rw [List.length_map, List.length_map, List.length_take]; omega) fun H7 S7 e7 k7 => ?_
      rw [List.take_add_one, hh, List.map_append, List.map_append]
      rfl
    rintro ac H1 S1 e1 rfl
    rw [lrs, List.take_length] at e1
    refine ⟨by show 1 ≤ sizeLine; decide, fun l hl => newG hl fun H2 S2 e2 => ⟨D, l, _, [.str "zz"], rfl, rfl, S2 _ _ e1, e2, sz100 (by rw [List.length_map, List.length_map]; show _ + 1 ≤ _; omega), fun c hc => newG hc fun H3 S3 e3 => ?_⟩⟩
    have A3 := ((A.same S1).same S2).same S3
    have nc : c ≠ h := ((A.same S1).same S2).ne hc
    refine .inl ⟨h, c, b, _, rfl, A3, by omega, e3, nc, by simp, by rw [List.length_append, List.length_map, List.length_map]; show _ + 1 ≤ _; omega, fun H4 x k4 A4 mx => ?_⟩
    obtain ⟨nm, rfl, hnm⟩ : ∃ nm, x = .str nm ∧ NmP nm := by
      rcases List.mem_append.mp mx with z | z
      · obtain ⟨y, rfl, hy⟩ := mem_strs z
        obtain ⟨hd, hh, rfl⟩ := List.mem_map.mp hy
        exact ⟨_, rfl, (X.roll hd hh).1⟩
      · have : x = .str "zz" := by simpa using z
        exact ⟨_, this, sk_zz⟩
    have G04 : Go h H H4 := ((Go.same S1).trans (Go.same S2)).trans ((Go.same S3).trans (A3.go k4))
    -- a word
    refine ⟨_, rfl, by show 4 ≤ sizeLine; decide, fun l2 hl2 => newG hl2 fun H5 S5 e5 => .inl ⟨h, l2, _, _, rfl, A4.same S5, by omega, e5, A4.ne hl2, by simp, by show 4 ≤ 1000; decide, fun H6 x k6 A6 mx => ?_⟩⟩
    obtain ⟨wd, rfl, hwd⟩ : ∃ wd, x = .str wd ∧ PyData.strOk wd = true := by
      obtain ⟨y, rfl, hy⟩ := mem_strs (l := ["boats", "boats", "fire", "zz"]) mx
      refine ⟨y, rfl, ?_⟩
      simp only [List.mem_cons, List.not_mem_nil, or_false] at hy
      rcases hy with rfl | rfl | rfl | rfl <;> decide +kernel
    have G06 : Go h H H6 := G04.trans ((Go.same S5).trans ((A4.same S5).go k6))
    have u6 := G06.t.sq u1
    have r6 := G06.t.sq r1
    refine ⟨_, rfl, _, _, rfl, rfl, _, rfl, ?_⟩
    by_cases c4 : way < 4
    · rw [decide_eq_true c4]
      exact iteT ⟨_, rfl, by show 2 ≤ sizeLine; decide, fun t ht => newG ht fun H7 S7 e7 => k H7 t (.call wd) (G06.trans (Go.same S7)).km ((A6.same S7).up (by omega)) (.tup (sqt_of e7) (.cons (.str _) (.cons (.str _) .nil))) (cg_call hwd)⟩
    rw [decide_eq_false c4]
    refine iteF ⟨_, rfl, _, _, rfl, rfl, _, rfl, ?_⟩
    by_cases c6 : way < 6
    · rw [decide_eq_true c6]
      exact iteT ⟨_, rfl, by show 2 ≤ sizeLine; decide, fun t ht => newG ht fun H7 S7 e7 => k H7 t (.done wd) (G06.trans (Go.same S7)).km ((A6.same S7).up (by omega)) (.tup (sqt_of e7) (.cons (.str _) (.cons (.str _) .nil))) (cg_done hwd)⟩
    rw [decide_eq_false c6]
    refine iteF ⟨_, rfl, _, _, rfl, rfl, _, rfl, ?_⟩
    by_cases c9 : way < 9
    · rw [decide_eq_true c9]
      refine iteT ⟨_, rfl, by show 2 ≤ sizeLine; decide, fun t1 ht1 => newG ht1 fun H7 S7 e7 => ⟨_, rfl, by show 2 ≤ sizeLine; decide, fun t2 ht2 => newG ht2 fun H8 S8 e8 => ⟨_, rfl, by show 2 ≤ sizeLine; decide, fun t3 ht3 => newG ht3 fun H9 S9 e9 => ⟨by show 3 ≤ sizeLine; decide, fun l3 hl3 => newG hl3 fun H10 S10 e10 => ?_⟩⟩⟩⟩
      have S610 := ((S7.trans S8).trans S9).trans S10
      have A10 := (A6.same S610).up (show b + 1 + 1 ≤ b + 100 by omega)
      have G10 := (G06.trans (Go.same S610)).km
      have hw : way = 6 ∨ way = 7 ∨ way = 8 := by omega
      rcases hw with rfl | rfl | rfl
      · exact ⟨_, rfl, _, _, rfl, rfl, l3, _, _, .ref t1, rfl, rfl, sql_of e10, rfl, k H10 t1 (.sick nm) G10 A10 (.tup (sqt_of (((S8.trans S9).trans S10) _ _ e7)) (.cons (.str _) (.cons (.str _) .nil))) (cg_sick hnm.1)⟩
      · exact ⟨_, rfl, _, _, rfl, rfl, l3, _, _, .ref t2, rfl, rfl, sql_of e10, rfl, k H10 t2 (.well nm) G10 A10 (.tup (sqt_of ((S9.trans S10) _ _ e8)) (.cons (.str _) (.cons (.str _) .nil))) (cg_well hnm.1)⟩
      · exact ⟨_, rfl, _, _, rfl, rfl, l3, _, _, .ref t3, rfl, rfl, sql_of e10, rfl, k H10 t3 (.leave nm) G10 A10 (.tup (sqt_of (S10 _ _ e9)) (.cons (.str _) (.cons (.str _) .nil))) (cg_leave hnm.1)⟩
    rw [decide_eq_false c9]
    refine iteF ⟨_, rfl, rfl, _, rfl, ?_⟩
    by_cases e9 : way = 9
    · rw [decide_eq_true (by rw [e9])]
      exact iteT ⟨_, rfl, _, rfl, h, _, _, rfl, A6, by omega, by decide, by decide, fun H7 r k7 A7 q0 q1 => ⟨by show 3 ≤ sizeLine; decide, fun t ht => newG ht fun H8 S8 e8 => k H8 t (.rank nm r) ((G06.trans (A6.go k7)).trans (Go.same S8)).km ((A7.same S8).up (by omega)) (.tup (sqt_of e8) (.cons (.str _) (.cons (.str _) (.cons (.int _) .nil)))) (cg_rank hnm.1 q0)⟩⟩
    rw [decide_eq_false fun z => e9 (by injection z)]
    refine iteF ⟨_, rfl, rfl, _, rfl, ?_⟩
    by_cases e10 : way = 10
    · rw [decide_eq_true (by rw [e10])]
      exact iteT ⟨_, rfl, _, rfl, h, _, _, rfl, A6, by omega, by decide, by decide, fun H7 r k7 A7 q0 q1 => ⟨by show 3 ≤ sizeLine; decide, fun t ht => newG ht fun H8 S8 e8 => k H8 t (.section_ nm r) ((G06.trans (A6.go k7)).trans (Go.same S8)).km ((A7.same S8).up (by omega)) (.tup (sqt_of e8) (.cons (.str _) (.cons (.str _) (.cons (.int _) .nil)))) (cg_section hnm.1)⟩⟩
    rw [decide_eq_false fun z => e10 (by injection z)]
    refine iteF ⟨_, rfl, rfl, _, rfl, ?_⟩
    by_cases e11 : way = 11
    · rw [decide_eq_true (by rw [e11])]
      refine iteT ⟨by show 1 ≤ sizeLine; decide, fun l3 hl3 => newG hl3 fun H7 S7 e7 => ?_⟩
      have u7 := S7.tup u6
      obtain ⟨ba, bs, rfl, ba1, ba2⟩ := id db.tup_inv
      obtain ⟨ka, ks, rfl, ka1, ka2⟩ := id dk.tup_inv
      rw [hbk] at ka2
      obtain ⟨k0, k1, rfl, dk0, dk1⟩ := two_inv ka2
      obtain ⟨kb, kl, rfl, kb1, kb2⟩ := book_inv dk1
      have T07 := G06.t.trans S7.tups
      have lbs : bs.length = s.bills.length := by have := ba2.length; rwa [List.length_map] at this
      have hbl := X.bl
      refine ⟨_, rfl, ua, _, _, .ref ba, rfl, rfl, u7, rfl, _, rfl, ua, _, _, .ref ka, rfl, rfl, u7, rfl, ka, _, _, .ref kb, rfl, rfl, T07.sq ka1, rfl, kb, _, _, kl, rfl, rfl, T07.sq kb1, rfl, by show 1 ≤ sizeLine; decide, fun tq htq => newG htq fun H8 S8 e8 => ?_⟩
      refine g_catA (S8.tup (T07.sq ba1)) (sqt_of e8) (sz100 (by show bs.length + 1 ≤ 100000; omega)) fun H9 cq S9 sc => ?_
      have T09 := (T07.trans S8.tups).trans S9.tups
      have G69 : Go h H6 H9 := ((Go.same S7).trans (Go.same S8)).trans (Go.same S9)
      have dall : DtAll K H (bs ++ [kl]) ((s.bills ++ [b1.lot]).map encL) := by
        rw [List.map_append]
        exact ba2.append (.cons kb2 .nil)
      have nl3 : l3 ≠ h := A6.ne hl3
      refine ⟨cq, rfl, ⟨_, sc⟩, ?_⟩
      have hlots : ∀ l, l ∈ s.bills ++ [b1.lot] → l.length ≤ 10 ∧ ∀ p, p ∈ l → NmP p.nm := fun l hl => by
        rcases List.mem_append.mp hl with z | z
        · exact ⟨X.x.g.lotB l z, X.nmB l z⟩
        · have hb1 : b1 ∈ s.books := by rw [hbk]; simp
          have : l = b1.lot := by simpa using z
          rw [this]
          exact ⟨X.x.g.lotK b1 hb1, X.nmK b1 hb1⟩
      refine for_it (walk_tup (K := K) (a := cq) (xs := bs ++ [kl])) (fun i σ H2 => ∃ (z7 z8 : Option V) (pa : Addr) (ns : List Str), σ = [some (.ref h), some (.ref ua), some (.int way), some (.str nm), none, some (.str wd), some (.ref pa), z7, z8, none, none] ∧ HandAt H2 h (b + 2) ∧ pa ≠ h ∧ H2 pa = some (.lst (ns.map V.str)) ∧ ns.length ≤ 1 + 10 * i ∧ ns ≠ [] ∧ (∀ x, x ∈ ns → NmP x) ∧ Same H9 H2)
        ⟨_, _, l3, ["zz"], rfl, ((A6.same S7).same S8).same S9, nl3, S9 _ _ (S8 _ _ e7), by decide, by simp, zz_ok, Same.refl _⟩ (fun i σ H2 _ ⟨_, _, _, _, _, _, _, _, _, _, _, S2⟩ => S2.tup sc) ?_ ?_
      · rintro i x σ H2b H2 hi ⟨z7, z8, pa, ns, rfl, A2, npa, ep, ln, nne, ok, S2⟩ ⟨rfl, hx⟩
        rw [List.length_append] at hi
        have hi : i < bs.length + 1 := hi
        obtain ⟨lot, hlot, dl⟩ := item_inv (a := cq) dall hx
        have dl2 := (dl.mono T09).mono S2.tups
        obtain ⟨la, ls', rfl, la1, la2⟩ := id (Dt.tup_inv dl2)
        have lls : ls'.length = lot.length := by have := la2.length; rwa [List.length_map] at this
        obtain ⟨q1, q2⟩ := hlots lot (List.mem_of_getElem? hlot)
        refine ⟨_, rfl, _, rfl, la, rfl, ⟨_, la1⟩, fun D5 hD5 => ?_⟩
        refine lc_run (walk_tup (K := K) (a := la) (xs := ls')) (H0 := H2) (fun j ac _ => ac = ((lot.take j).map Place.nm).map V.str) (Same.refl _) hD5 (fun _ _ => rfl) (fun H4 S4 => S4.tup la1) ?_ ?_
        · rintro j x ac H4 H5 hj hD0 S4 e4 rfl ⟨rfl, hx⟩
          obtain ⟨p, hp, dp⟩ := item_inv (a := la) la2 hx
          obtain ⟨pb, rfl, g1⟩ := place_inv (dp.mono S4.tups)
          refine ⟨rfl, g_yes (iteT ?_)⟩
          refine ⟨_, rfl, pb, _, _, .str p.nm, rfl, rfl, g1, rfl, ?_⟩
          refine lc_next hD0 S4 (Same.refl _) e4 (by rw [List.length_map, List.length_map, List.length_take]; omega) fun H7 S7 e7 k7 => ?_
          rw [List.take_add_one, hp, List.map_append, List.map_append]
          rfl
        rintro ac H4 S4 e4 rfl
        rw [lls, List.take_length] at e4
        refine ⟨pa, D5, _, _, rfl, rfl, S4 _ _ ep, e4, sz100 (by rw [List.length_map, List.length_map, List.length_map]; omega), fun c5 hc5 => newG hc5 fun H5 S5 e5 => ?_⟩
        rw [← List.map_append] at e5
        refine ⟨_, _, c5, ns ++ lot.map Place.nm, rfl, (A2.same S4).same S5, (A2.same S4).ne hc5, e5, by rw [List.length_append, List.length_map]; omega, by simp [nne], fun x hx => ?_, (S2.trans S4).trans S5⟩
        rcases List.mem_append.mp hx with z | z
        · exact ok x z
        · obtain ⟨p, hp, rfl⟩ := List.mem_map.mp z
          exact q2 p hp
      · rintro σ H2 ⟨z7, z8, pa, ns, rfl, A2, npa, ep, ln, nne, ok, S2⟩
        rw [List.length_append] at ln
        have ln : ns.length ≤ 1 + 10 * (bs.length + 1) := ln
        refine ⟨_, rfl, _, rfl, .inl ⟨h, pa, _, _, rfl, A2, by omega, ep, npa, by simpa using nne, by rw [List.length_map]; omega, fun H3 x k3 A3 mx => ?_⟩⟩
        obtain ⟨pn, rfl, hpn⟩ := mem_strs mx
        refine ⟨_, rfl, h, _, _, rfl, A3, by omega, by decide, by decide, fun H4 r k4 A4 q0 q1 => ⟨by show 3 ≤ sizeLine; decide, fun t ht => newG ht fun H5 S5 e5 => ?_⟩⟩
        exact k H5 t (.many pn r) (((G06.trans G69).trans ((Go.same S2).trans (A2.go k3))).trans ((A3.go k4).trans (Go.same S5))).km ((A4.same S5).up (by omega)) (.tup (sqt_of e5) (.cons (.str _) (.cons (.str _) (.cons (.int _) .nil)))) (cg_many (ok pn hpn).1 q0 (by omega))
    rw [decide_eq_false fun z => e11 (by injection z)]
    refine iteF ⟨by show 1 ≤ sizeLine; decide, fun l3 hl3 => newG hl3 fun H7 S7 e7 => ?_⟩
    have u7 := S7.tup u6
    have r7 := S7.tup r6
    have T07 := G06.t.trans S7.tups
    have nl3 : l3 ≠ h := A6.ne hl3
    refine ⟨_, rfl, ua, _, _, .ref ra, rfl, rfl, u7, rfl, ra, rfl, ⟨_, r7⟩, ?_⟩
    refine for_it (walk_tup (K := K) (a := ra) (xs := rs)) (fun i σ H2 => ∃ (z4 : Option V) (pa : Addr) (ns : List Str), σ = [some (.ref h), some (.ref ua), some (.int way), some (.str nm), z4, some (.str wd), none, none, none, some (.ref pa), none] ∧ HandAt H2 h (b + 2) ∧ pa ≠ h ∧ H2 pa = some (.lst (ns.map V.str)) ∧ ns.length ≤ 1 + 4 * i ∧ ns ≠ [] ∧ (∀ x, x ∈ ns → NmP x) ∧ Same H7 H2)
      ⟨_, l3, ["zz"], rfl, A6.same S7, nl3, e7, by decide, by simp, zz_ok, Same.refl _⟩ (fun i σ H2 _ ⟨_, _, _, _, _, _, _, _, _, _, S2⟩ => S2.tup r7) ?_ ?_
    · rintro i x σ H2b H2 hi ⟨z4, pa, ns, rfl, A2, npa, ep, ln, nne, ok, S2⟩ ⟨rfl, hx⟩
      obtain ⟨hd, hh, dh⟩ := item_inv (a := ra) r2 hx
      obtain ⟨ha, sa, rfl, h1, h2⟩ := hand_inv ((dh.mono T07).mono S2.tups)
      obtain ⟨_, q2, q3⟩ := X.roll hd (List.mem_of_getElem? hh)
      refine ⟨_, rfl, _, rfl, ha, _, _, .ref sa, rfl, rfl, h1, rfl, sa, _, rfl, .inr h2, fun l5 hl5 => newG hl5 fun H4 S4 e4 => ⟨pa, l5, _, _, rfl, rfl, S4 _ _ ep, e4, sz100 (by rw [List.length_map, List.length_map]; omega), fun c5 hc5 => newG hc5 fun H5 S5 e5 => ?_⟩⟩
      rw [← List.map_append] at e5
      refine ⟨_, c5, ns ++ hd.sk, rfl, (A2.same S4).same S5, (A2.same S4).ne hc5, e5, by rw [List.length_append]; omega, by simp [nne], fun x hx => ?_, (S2.trans S4).trans S5⟩
      rcases List.mem_append.mp hx with z | z
      · exact ok x z
      · exact q3 x z
    · rintro σ H2 ⟨z4, pa, ns, rfl, A2, npa, ep, ln, nne, ok, S2⟩
      rw [lrs] at ln
      have G02 : Go h H H2 := (G06.trans (Go.same S7)).trans (Go.same S2)
      refine ⟨_, rfl, rfl, _, rfl, ?_⟩
      by_cases e12 : way = 12
      · rw [decide_eq_true (by rw [e12])]
        refine iteT ⟨_, rfl, _, rfl, _, rfl, .inl ⟨h, pa, _, _, rfl, A2, by omega, ep, npa, by simpa using nne, by rw [List.length_map]; omega, fun H3 x k3 A3 mx => ?_⟩⟩
        obtain ⟨pn, rfl, hpn⟩ := mem_strs mx
        refine ⟨by show 3 ≤ sizeLine; decide, fun t ht => newG ht fun H5 S5 e5 => ?_⟩
        exact k H5 t (.learn nm pn) (G02.trans ((A2.go k3).trans (Go.same S5))).km ((A3.same S5).up (by omega)) (.tup (sqt_of e5) (.cons (.str _) (.cons (.str _) (.cons (.str _) .nil)))) (cg_learn hnm.1 (ok pn hpn).1)
      rw [decide_eq_false fun z => e12 (by injection z)]
      refine iteF ⟨_, rfl, _, rfl, by show 2 ≤ sizeLine; decide, fun l5 hl5 => newG hl5 fun H3 S3 e3 => .inl ⟨h, l5, _, _, rfl, A2.same S3, by omega, e3, A2.ne hl5, by simp, by show 2 ≤ 1000; decide, fun H4 x k4 A4 mx => ?_⟩⟩
      obtain ⟨n2, rfl, hn2⟩ : ∃ n2, x = .str n2 ∧ NmP n2 := by
        obtain ⟨y, rfl, hy⟩ := mem_strs (l := ["zz", nm]) mx
        refine ⟨y, rfl, ?_⟩
        simp only [List.mem_cons, List.not_mem_nil, or_false] at hy
        rcases hy with rfl | rfl
        · exact sk_zz
        · exact hnm
      refine ⟨_, rfl, h, _, _, rfl, A4, by omega, by decide, by decide, fun H5 rk k5 A5 q0 q1 => ⟨_, _, rfl, ?_⟩⟩
      have G24 : Go h H2 H5 := ((Go.same S3).trans ((A2.same S3).go k4)).trans (A4.go k5)
      refine ⟨_, rfl, _, rfl, _, rfl, _, rfl, .inl ⟨h, pa, _, _, rfl, A5, by omega, G24.lst npa ep, npa, by simpa using nne, by rw [List.length_map]; omega, fun H6 x k6 A6 mx => ?_⟩⟩
      obtain ⟨pn, rfl, hpn⟩ := mem_strs mx
      refine ⟨by show 1 ≤ sizeLine; decide, fun t1 ht1 => newG ht1 fun H7 S7 e7 => ⟨_, rfl, h, _, _, rfl, A6.same S7, by omega, by decide, by decide, fun H8 sc k8 A8 x0 x1 => ⟨by show 4 ≤ sizeLine; decide, fun t2 ht2 => newG ht2 fun H9 S9 e9 => ⟨by show 2 ≤ sizeLine; decide, fun t3 ht3 => newG ht3 fun H10 S10 e10 => ?_⟩⟩⟩⟩
      have G68 : Go h H7 H8 := (A6.same S7).go k8
      exact k H10 t3 (.join ⟨n2, rk, [pn], sc⟩) (((G02.trans G24).trans ((A5.go k6).trans (Go.same S7))).trans ((G68.trans (Go.same S9)).trans (Go.same S10))).km (((A8.same S9).same S10).up (by omega))
        (.tup (sqt_of e10) (.cons (.str _) (.cons (.tup (sqt_of (S10 _ _ e9)) (.cons (.str _) (.cons (.int _) (.cons (.tup (S10.tup (S9.tup (G68.t.sq (sqt_of e7)))) (.cons (.str _) .nil)) (.cons (.int _) .nil))))) .nil))) (cg_join hn2.1 (ok pn hpn).1 q0)
end
end WS
/-! Pages of the law's; the law. -/
namespace WS
open PySem PySem.Spec PyProof.Rows L2 WM
open C8 (pe_gc pe_c pe_mk pe_mt pe_mt0)
open LamX (TabS Tabs ExtN TabB)
section
variable {P : Program} {w : World} {K : PySem.W.Frag} {mg : Str → Option Value} {base : Heap} {CM CH CV aL : Addr}
def spLPages (K : PySem.W.Frag) : Sp := fun vs H Q _ => ∃ (h : Addr) (b : Nat) (u : V) (s : Ship) (n : Nat) (bells : Int), vs = [.ref h, u, .int ((n : Nat) : Int), .int bells] ∧ HandAt H h b ∧ b + 2000 ≤ 1000000 ∧ Dt K H u (encS s) ∧ ShipD s ∧ n ≤ 9 ∧ 0 < bells ∧ bells < 1000 ∧
  ∀ (H' : Hp) (q : Addr) (pgs : List Page), Km h H H' → HandAt H' h (b + 2000) → Dt K H' (.ref q) (.tuple (pgs.map encPg)) → PgsOk pgs → Q (.ref q) H'
theorem pg_ok {bell num : Int} {c : Chg} (h : CgOk c) : PgOk ⟨bell, num, c⟩ := ⟨by simp [encPg, PyData.canLay0, PyData.canLayAll0, h.lay], h.ok⟩
theorem sc_law_pages : FnScope ["_law_hand_here", "_law_ship_here", "_law_many", "_law_bells", "_law_found", "_law_numbers", "_law_k", "_law_way", "_law_bell"] ["_law_hand_here", "_law_ship_here", "_law_many", "_law_bells"] (defScope s_law_pages) := ⟨rfl, rfl, rfl, by decide +kernel, rfl, by decide +kernel, by decide +kernel⟩
theorem c_law_pages (T : Txt K mg CM CH CV aL) : Cal P w K mg base 4 "_law_pages" (spLPages K) := by
  have c_law_take := c_law_take (P := P) (w := w) (base := base) T
  have c_law_order := c_law_order (P := P) (w := w) (base := base) T
  have c_law_change := c_law_change (P := P) (w := w) (base := base) T
  refine cal_of T.d_law_pages (fun _ _ _ _ _ _ us hl => match us, hl with | [_, _, _, _], _ => rfl) sc_law_pages (fun vs H Q E h => ?_) (fun f cdv A outer s H vs Q E hr h => ?_)
  · obtain ⟨_, _, _, _, _, _, rfl, _⟩ := h; rfl
  · obtain ⟨h, b, u, s, n, bells, rfl, A, hb, du, X, hn, b0, b1, k⟩ := h
    refine ⟨_, (pss_cons (ps_par (i := 4) (j := 5) rfl sc_law_pages.nd rfl rfl (by decide) rfl rfl (pa_cons (pe_lst pa_nil) (pa_cons (pe_c c_law_order hr (by decide) rfl (pa_cons (pv 0) (pa_cons (pe_lst (pa_cons pe_int (pa_cons pe_int (pa_cons pe_int (pa_cons pe_int (pa_cons pe_int (pa_cons pe_int (pa_cons pe_int (pa_cons pe_int (pa_cons pe_int pa_nil)))))))))) pa_nil))) pa_nil)) (by rfl))
    (pss_cons (ps_for PassesOwn.never rfl (pi_range1 (by rfl) T.b_range (pa_cons (pv 2) pa_nil)) (pg_name (i := 6) sc_law_pages.nd rfl (Or.inl rfl)) (pss_cons (ps_par (i := 7) (j := 8) rfl sc_law_pages.nd rfl rfl (by decide) rfl rfl (pa_cons (pe_c c_law_take hr (by decide) rfl (pa_cons (pv 0) (pa_cons pe_int pa_nil))) (pa_cons (pe_c c_law_take hr (by decide) rfl (pa_cons (pv 0) (pa_cons (pv 3) pa_nil))) pa_nil)) (by rfl))
    (pss_one (ps_expr (pe_bmK K PySem.F.plainAttrs_list PySem.F.slot_list_append PySem.F.type_list_append mt_append (pv 4) (pa_cons (pe_tup (pa_cons (pv 8) (pa_cons (pe_ix (ix_listK K) (pv 5) (pv 6) (fun _ _ => rfl)) (pa_cons (pe_c c_law_change hr (by decide) rfl (pa_cons (pv 0) (pa_cons (pv 1) (pa_cons (pv 7) pa_nil)))) pa_nil)))) pa_nil))))))
    (pss_one (ps_ret (pe_callTy (call_tuple_ofK K) (by rfl) T.b_tuple (by decide +kernel) (pa_cons (pv 4) pa_nil)))))), ?_⟩
    refine ⟨by show 0 ≤ sizeLine; decide, fun f hf => newG hf fun H1 S1 e1 => ⟨_, rfl, by show 9 ≤ sizeLine; decide, fun l hl => newG hl fun H2 S2 e2 => ?_⟩⟩
    have A2 := (A.same S1).same S2
    have nf : f ≠ h := A.ne hf
    refine ⟨h, l, b, _, rfl, A2, by show b + 9 ≤ 1000000; omega, e2, (A.same S1).ne hl, by show 9 ≤ 1000; decide, fun H3 oq ys k3 A3 hoq eo hp => ⟨_, _, rfl, ?_⟩⟩
    obtain ⟨os, rfl, po⟩ := perm_ints (l := [1, 2, 9, 10, 11, 99, 100, 998, 999]) hp
    have los : os.length = 9 := po.length_eq
    have noq : oq ≠ h := A2.ne hoq
    have A3 : HandAt H3 h (b + 9) := A3
    have G13 : Go h H1 H3 := (Go.same S2).trans (A2.go k3)
    have f3 := G13.lst nf e1
    have noqf : oq ≠ f := fun z => by rw [z, S2 _ _ e1] at hoq; cases hoq
    refine ⟨_, rfl, _, rfl, by omega, by omega, ?_⟩
    refine for_it walk_range0 (fun i σ H4 => ∃ (z6 z7 z8 : Option V) (ws : List V) (pgs : List Page), σ = [some (.ref h), some u, some (.int ((n : Nat) : Int)), some (.int bells), some (.ref f), some (.ref oq), z6, z7, z8] ∧ HandAt H4 h (b + 9 + 110 * i) ∧ H4 f = some (.lst ws) ∧ DtAll K H4 ws (pgs.map encPg) ∧ pgs.length = i ∧ (∀ p, p ∈ pgs → PgOk p) ∧ Go h H H4 ∧ H4 oq = some (.lst (os.map V.int)))
      ⟨_, _, _, [], [], rfl, A3, f3, .nil, rfl, fun p hp => by simp at hp, (Go.same S1).trans G13, eo⟩ (fun _ _ _ _ _ => trivial) ?_ ?_
    · rintro i x σ H4b H4 hi ⟨z6, z7, z8, ws, pgs, rfl, A4, f4, D4, lp, ok, G4, eo4⟩ ⟨rfl, rfl⟩
      have hi : i < n := by omega
      refine ⟨_, rfl, h, _, _, rfl, A4, by omega, by decide, by decide, fun H5 way k5 A5 w0 w1 => ⟨_, rfl, _, rfl, h, _, _, rfl, A5, by omega, b0, by omega, fun H6 bell k6 A6 q0 q1 => ⟨_, _, rfl, ?_⟩⟩⟩
      have G46 : Go h H4 H6 := (A4.go k5).trans (A5.go k6)
      have f6 := G46.lst nf f4
      have eo6 := G46.lst noq eo4
      have hio : (os.map V.int)[i]? = some (.int os[i]) := map_at (List.getElem?_eq_getElem (by omega))
      refine ⟨_, rfl, .inl ⟨rfl, _, sql_of f6⟩, _, rfl, _, rfl, _, rfl, oq, _, _, .int os[i], rfl, rfl, sql_of eo6, atI_nat hio, _, rfl, _, rfl, _, rfl, h, _, u, s, way, rfl, A6, by omega, (du.mono G4.t).mono G46.t, X, w0, by omega, fun H7 cq cg k7 A7 dc okc => ⟨by show 3 ≤ sizeLine; decide, fun t ht => newG ht fun H8 S8 e8 => ?_⟩⟩
      have G48 : Go h H4 H8 := (G46.trans (A6.go k7)).trans (Go.same S8)
      have f8 := G48.lst nf f4
      have lws := D4.length
      rw [List.length_map] at lws
      refine ⟨f, _, _, rfl, rfl, f8, sz100' (by omega), ?_⟩
      have t8 : Tups H8 (upd H8 f (.lst (ws ++ [.ref t]))) := Tups.upd (not_tup_lst f8)
      refine ⟨_, _, _, ws ++ [.ref t], pgs ++ [⟨bell, os[i], cg⟩], rfl, ((A7.same S8).eq (upd_ne nf.symm)).up (by omega), upd_same, ?_, by rw [List.length_append, lp]; rfl, fun p hp => ?_, ⟨fun c o hc q => ?_, (G4.t.trans G48.t).trans t8⟩, by rw [upd_ne noqf]; exact G48.lst noq eo4⟩
      · rw [List.map_append]
        exact (D4.mono (G48.t.trans t8)).append (.cons (.tup (t8.sq (sqt_of e8)) (.cons (.int _) (.cons (.int _) (.cons ((dc.mono S8.tups).mono t8) .nil)))) .nil)
      · rcases List.mem_append.mp hp with z | z
        · exact ok p z
        · have : p = ⟨bell, os[i], cg⟩ := by simpa using z
          rw [this]
          exact pg_ok okc
      · rw [upd_ne (ne_of_none q hf)]
        exact G48.km _ _ hc (G4.km _ _ hc q)
    · rintro σ H4 ⟨z6, z7, z8, ws, pgs, rfl, A4, f4, D4, lp, ok, G4, eo4⟩
      have en : ((n : Nat) : Int).toNat = n := by omega
      rw [en] at A4 lp
      refine ⟨_, rfl, f, _, rfl, .inl ⟨sql_of f4, fun q hq => newG hq fun H5 S5 e5 => ?_⟩⟩
      exact k H5 q pgs (G4.trans (Go.same S5)).km ((A4.same S5).up (by omega)) (.tup (sqt_of e5) (D4.mono S5.tups)) ⟨by omega, ok⟩
def spLaw (K : PySem.W.Frag) (Pt : Addr) : Sp := fun vs H Q _ => ∃ (a : Addr) (xs : List Int), vs = [.ref a] ∧ SqL K H a (xs.map V.int) ∧ TabS H Pt lamQ ∧
  ∀ H', ExtN H H' → TabS H' Pt lamQ → Q (.bl true) H'
theorem extN_sql {H H' : Hp} (e : ExtN H H') {a : Addr} {xs : List V} (h : SqL K H a xs) : SqL K H' a xs := by
  rcases h with (h | ⟨o, h⟩) | h
  · exact .inl (.inl (e _ _ h fun _ z => nomatch z))
  · exact .inl (.inr ⟨o, e _ _ h fun _ z => nomatch z⟩)
  · exact .inr h
theorem sc_law : FnScope ["_law_script", "_law_k", "_law_hand_here", "_law_bells", "_law_many", "_law_ship_here", "_law_pages_here", "_law_rows", "_law_bell"] ["_law_script"] (defScope s_law) := ⟨rfl, rfl, rfl, by decide +kernel, rfl, by decide +kernel, by decide +kernel⟩
theorem ok_law (T : Txt K mg CM CH CV aL) {c Pt : Addr} (L : LamD K mg c) (TB : TabB base mg c Pt) {f : Addr} {fd : FuncData} (F : Fun K "law" "law" s_law f fd) : FnOk P w K mg base CX0 32 f fd ["_law_script"] (spLaw K Pt) := by
  have c_law_take := c_law_take (P := P) (w := w) (base := base) T
  have c_law_hand := c_law_hand (P := P) (w := w) (base := base) T
  have c_law_ship := c_law_ship (P := P) (w := w) (base := base) T
  have c_law_pages := c_law_pages (P := P) (w := w) (base := base) T
  have c_posted := c_posted (P := P) (w := w) (base := base) T L TB
  have c_law_bell_right := c_law_bell_right (P := P) (w := w) (base := base) T L TB
  refine F.ok sc_law (fun vs H Q E h => ?_) (fun cdv A outer s H vs Q E hr h => ?_)
  · obtain ⟨_, _, rfl, _⟩ := h; rfl
  · obtain ⟨a, xs, rfl, sa, hT, k⟩ := h
    refine ⟨_, (pss_cons (ps_for PassesOwn.never rfl (pi_range1 (by rfl) T.b_range (pa_cons (pe_callB (call_max2 rfl) (by rfl) T.b_max (by decide +kernel) (pa_cons pe_int (pa_cons (pe_callB (call_min2 rfl) (by rfl) T.b_min (by decide +kernel) (pa_cons (pe_callB (call_len_seqK K) (by rfl) T.b_len PySem.boot_len (pa_cons (pv 0) pa_nil)) (pa_cons pe_int pa_nil))) pa_nil))) pa_nil)) (pg_name (i := 1) sc_law.nd rfl (Or.inl rfl)) (pss_cons (ps_set (i := 2) sc_law.nd rfl (Or.inl rfl) (pe_c c_law_hand hr (by decide) rfl (pa_cons (pv 0) (pa_cons (pv 1) pa_nil))))
    (pss_cons (ps_par (i := 3) (j := 4) rfl sc_law.nd rfl rfl (by decide) rfl rfl (pa_cons (pe_op op_add pe_int (pe_c c_law_take hr (by decide) rfl (pa_cons (pv 2) (pa_cons pe_int pa_nil)))) (pa_cons (pe_c c_law_take hr (by decide) rfl (pa_cons (pv 2) (pa_cons pe_int pa_nil))) pa_nil)) (by rfl))
    (pss_cons (ps_set (i := 5) sc_law.nd rfl (Or.inr rfl) (pe_c c_law_ship hr (by decide) rfl (pa_cons (pv 2) pa_nil)))
    (pss_cons (ps_set (i := 6) sc_law.nd rfl (Or.inr rfl) (pe_c c_law_pages hr (by decide) rfl (pa_cons (pv 2) (pa_cons (pv 5) (pa_cons (pv 4) (pa_cons (pv 3) pa_nil))))))
    (pss_cons (ps_set (i := 7) sc_law.nd rfl (Or.inr rfl) (pe_c c_posted hr (by decide) rfl (pa_cons (pv 5) (pa_cons (pv 6) (pa_cons (pv 3) pa_nil)))))
    (pss_cons (ps_if (PW.pt (pw_or (pt_not (pt_val (pe_callB (call_isiK K) (by rfl) T.b_isinstance (by decide +kernel) (pa_cons (pv 7) (pa_cons (pe_bltn (v := .ty "tuple") rfl T.b_tuple PyProof.Rows.boot_tuple rfl) pa_nil))))) (pw_or1 (pt_cmpR op_ne (pe_callB (call_len_seqK K) (by rfl) T.b_len PySem.boot_len (pa_cons (pv 7) pa_nil)) (pv 3) (nomark _))))) (pss_one (ps_ret pe_bl)) pss_nil)
    (pss_one (ps_if (pt_not (pt_val (pe_callB (cr_allK K rfl) (by rfl) T.b_all (by decide +kernel) (pa_cons (pe_lc (own := [("_law_bell", 8)]) rfl sc_law.nd (pi_range1 (by rfl) T.b_range (pa_cons (pv 3) pa_nil)) (blkOk_by (own := [("_law_bell", 8)]) (N := ["_law_script", "_law_k", "_law_hand_here", "_law_bells", "_law_many", "_law_ship_here", "_law_pages_here", "_law_rows", "_law_bell"]) (sc := defScope s_law) (by decide +kernel)) (fun _ _ _ _ _ => (pg_name (i := 8) sc_law.nd rfl (Or.inl rfl))) (fun _ _ _ _ _ => pts_nil) (fun _ _ _ _ _ => (pe_c c_law_bell_right hr (by decide) rfl (pa_cons (pv 5) (pa_cons (pv 6) (pa_cons (pv 8) (pa_cons (pv 7) pa_nil))))))) pa_nil)))) (pss_one (ps_ret pe_bl)) pss_nil)))))))))
    (pss_one (ps_ret pe_bl))), ?_⟩
    have hm : ∀ z : Int, (if (if (2 : Int) < z then 2 else z) > 1 then (if (2 : Int) < z then 2 else z) else 1) = 1 ∨ (if (if (2 : Int) < z then 2 else z) > 1 then (if (2 : Int) < z then 2 else z) else 1) = 2 := fun z => by
      by_cases e : (2 : Int) < z
      · rw [if_pos e]; exact .inr rfl
      · rw [if_neg e]
        by_cases e2 : z > 1
        · rw [if_pos e2]; right; omega
        · rw [if_neg e2]; exact .inl rfl
    have hm := hm (((xs.map V.int).length : Nat) : Int)
    refine ⟨_, rfl, a, _, rfl, .inl sa, _, _, rfl, _, _, rfl, _, rfl, ?_, ?_, ?_⟩
    · rcases hm with e | e <;> rw [e] <;> decide
    · rcases hm with e | e <;> rw [e] <;> decide
    generalize (if (if (2 : Int) < (((xs.map V.int).length : Nat) : Int) then 2 else (((xs.map V.int).length : Nat) : Int)) > 1 then (if (2 : Int) < (((xs.map V.int).length : Nat) : Int) then 2 else (((xs.map V.int).length : Nat) : Int)) else 1) = m at hm ⊢
    refine for_it walk_range0 (fun i σ H1 => ∃ z1 z2 z3 z4 z5 z6 z7 z8 : Option V, σ = [some (.ref a), z1, z2, z3, z4, z5, z6, z7, z8] ∧ ExtN H H1 ∧ TabS H1 Pt lamQ) ⟨_, _, _, _, _, _, _, _, rfl, ExtN.refl H, hT⟩ (fun _ _ _ _ _ => trivial) ?_ ?_
    · rintro i x σ H1b H1 hi ⟨z1, z2, z3, z4, z5, z6, z7, z8, rfl, E1, T1⟩ ⟨rfl, rfl⟩
      have hi2 : i < 2 := by
        have hi : i < m.toNat := hi
        rcases hm with e | e <;> rw [e] at hi <;> exact (by omega)
      refine ⟨_, rfl, _, rfl, a, xs, _, rfl, extN_sql E1 sa, by omega, by omega, fun H2 h S2 hh A2 => ?_⟩
      refine ⟨_, rfl, h, _, _, rfl, A2, by decide, by decide, by decide, fun H3 r3 k3 A3 p0 p1 => ⟨_, _, rfl, rfl, _, rfl, h, _, _, rfl, A3, by decide, by decide, by decide, fun H4 r4 k4 A4 q0 q1 => ⟨_, _, rfl, ?_⟩⟩⟩
      obtain ⟨N, hN⟩ : ∃ n : Nat, 1 + r3 = ((n : Nat) : Int) := ⟨(1 + r3).toNat, by omega⟩
      obtain ⟨M, rfl⟩ : ∃ n : Nat, r4 = ((n : Nat) : Int) := ⟨r4.toNat, by omega⟩
      have G24 : Go h H2 H4 := (A2.go k3).trans (A3.go k4)
      dsimp only
      refine st_norm (σ' := [some (.ref a), some (.int ((i : Nat) : Int)), some (.ref h), some (.int ((N : Nat) : Int)), some (.int ((M : Nat) : Int)), z5, z6, z7, z8]) (by rw [← hN]; rfl) ?_
      refine ⟨_, rfl, h, _, rfl, A4, by decide, fun H5 sq s k5 A5 ds X => ?_⟩
      refine ⟨_, rfl, _, rfl, _, rfl, _, rfl, h, _, _, s, M, _, rfl, A5, by decide, ds, X, by omega, by omega, by omega, fun H6 pq pgs k6 A6 dp O => ?_⟩
      have G56 : Go h H5 H6 := A5.go k6
      have G26 : Go h H2 H6 := (G24.trans (A4.go k5)).trans G56
      obtain ⟨hxs, eh⟩ := A2.lst
      have T6 : TabS H6 Pt lamQ := tab_but (l := [h]) (T1.ext S2) (fun c hc => by
        have : c = h := by simpa using hc
        rw [this]
        exact .inr (.inl ⟨_, eh⟩)) fun c o hc q => G26.km c o (by simpa using hc) q
      have E16 : ExtN H1 H6 := fun c o q _ => G26.km c o (ne_of_none q hh) (S2 _ _ q)
      have ds6 := ds.mono G56.t
      have n50 : N ≤ 50 := by omega
      refine ⟨_, rfl, _, rfl, _, rfl, _, _, s, pgs, N, rfl, ⟨ds6, dp, X.x.g, O, T6⟩, n50, fun H7 q ws E7 T7 sw PR => ?_⟩
      have E17 : ExtN H1 H7 := E16.trans E7
      have lws : (ws.map V.ref).length = N := by
        rw [List.length_map, paired_len PR]
        unfold allRows
        rw [List.length_map, List.length_range]
      refine ⟨_, rfl, _, _, _, _, true, rfl, ClsV.ty _, tyx_sqt sw, kit_ty (by decide +kernel), _, rfl, ?_⟩
      refine iteF ⟨_, rfl, q, _, rfl, .inr sw, _, rfl, rfl, _, rfl, ?_⟩
      rw [lws]
      refine iteSame ?_
      have du7 := ds6.mono (extN_tups E7)
      have dp7 := dp.mono (extN_tups E7)
      have eN : ((N : Nat) : Int).toNat = N := by omega
      refine ⟨_, rfl, _, rfl, by omega, by omega, fun D hD => ?_⟩
      refine lc_it (walk_range0 (n := ((N : Nat) : Int).toNat)) (H1 := H7) (fun j H8 => ∃ bs : List Bool, H8 D = some (.lst (bs.map V.bl)) ∧ bs.length = j ∧ bs.all id = true ∧ ExtN H7 H8 ∧ TabS H8 Pt lamQ) ⟨[], upd_same, rfl, rfl, extN_same (Same.new hD), T7.ext (Same.new hD)⟩ (fun _ _ _ _ => trivial) ?_ ?_
      · rintro j x H8b H8 hj ⟨bs, e8, lb, hb, E8, T8⟩ ⟨rfl, rfl⟩
        rw [eN] at hj
        refine ⟨rfl, g_yes (iteT ?_)⟩
        refine ⟨_, rfl, _, rfl, _, rfl, _, rfl, _, _, q, s, pgs, j, N, ws, rfl, ⟨du7.mono (extN_tups E8), dp7.mono (extN_tups E8), X.x.g, O, T8⟩, hj, n50, bell_ok X.x O j, (extN_tups E8).sq sw, paired_imp PR fun c d r => RowsAt.keep r (extN_tups E8) (extN_frz E8), fun H9 E9 T9 => ?_⟩
        have e9 := E9 _ _ e8 fun _ z => nomatch z
        refine ⟨_, e9, sz100' (by rw [List.length_map]; omega), bs ++ [true], by rw [List.map_append]; exact upd_same, by rw [List.length_append, lb]; rfl, by rw [List.all_append, hb]; rfl, fun c o q1 q2 => ?_, ?_⟩
        · rw [upd_ne (ne_of_none q1 hD)]
          exact E9 _ _ (E8 _ _ q1 q2) q2
        · refine tab_but (l := [D]) T9 (fun c hc => ?_) fun c o hc q1 => by rw [upd_ne (by simpa using hc)]; exact q1
          have : c = D := by simpa using hc
          rw [this]
          exact .inr (.inl ⟨_, e9⟩)
      · rintro H8 ⟨bs, e8, lb, hb, E8, T8⟩
        refine ⟨D, bs, rfl, sql_of e8, _, rfl, ?_⟩
        rw [hb]
        refine iteF ?_
        exact ⟨_, _, _, _, _, _, _, _, rfl, (E1.trans E17).trans E8, T8⟩
    · rintro σ H1 ⟨z1, z2, z3, z4, z5, z6, z7, z8, rfl, E1, T1⟩
      exact k H1 E1 T1
end
end WS
/-! The head: what the program's top has left, and the law's row. -/
namespace WS
open PySem PySem.Spec PyProof.Rows L2 WM
open LamX (TabS Tabs ExtN TabB)
section
variable {K : PySem.W.Frag} {mg : Str → Option Value} {h : Heap}
theorem def_mk {x : Str} {st : Stmt} {f : Addr} {oc : Value} {od an : Option Addr} {osl : Array (Option Value)} {kV doc pm cdv ct : Value} (X : K.In h) (G : h.Ns mainGlobals mg) (a : PySem.W.nsIn K mainGlobals x = some (some (.ref f)))
    (l : K.lookup f = some ⟨oc, od, .func (PySem.W.fnOf x x (defArgs st) (defBody st) (defScope st) .none kV doc pm an cdv ct), osl⟩) (c : PySem.W.codeIn K cdv x = true) (k : PySem.W.keepIn K (.ref f) = true) : Def K mg x st :=
  ⟨f, _, fun_mk (st := st) l c k, PySem.W.mg_of X G a⟩
theorem mdef_mk {C : Addr} {m qual : Str} {st : Stmt} {f : Addr} {oc : Value} {od an : Option Addr} {osl : Array (Option Value)} {kV doc pm cdv ct : Value} (a : PySem.W.findIn K (.ref C) m = some (some (.ref f))) (i : PySem.W.isFn K (.ref f) = true)
    (l : K.lookup f = some ⟨oc, od, .func (PySem.W.fnOf m qual (defArgs st) (defBody st) (defScope st) .none kV doc pm an cdv ct), osl⟩) (c : PySem.W.codeIn K cdv qual = true) (k : PySem.W.keepIn K (.ref f) = true) : MDef K C m qual st :=
  ⟨f, _, fun_mk (st := st) l c k, ⟨a, i, k⟩⟩
theorem idef_mk {C : Addr} {qual : Str} {st : Stmt} {f : Addr} {oc : Value} {od an : Option Addr} {osl : Array (Option Value)} {kV doc pm cdv ct : Value} (a : PySem.W.findIn K (.ref C) "__init__" = some (some (.ref f))) (i : PySem.W.isFn K (.ref f) = true)
    (l : K.lookup f = some ⟨oc, od, .func (PySem.W.fnOf "__init__" qual (defArgs st) (defBody st) (defScope st) .none kV doc pm an cdv ct), osl⟩) (c : PySem.W.codeIn K cdv qual = true) (k : PySem.W.keepIn K (.ref f) = true) (mk : PySem.W.makesIn K C = true) (kc : PySem.W.keepIn K (.ref C) = true) : IDef K C qual st :=
  ⟨f, _, fun_mk (st := st) l c k, ⟨mk, a, i, kc⟩⟩
theorem lam_mk {f c : Addr} {oc : Value} {od an : Option Addr} {osl : Array (Option Value)} {kV doc pm ct : Value} (X : K.In h) (G : h.Ns mainGlobals mg) (a : PySem.W.nsIn K mainGlobals "in_order" = some (some (.ref f)))
    (l : K.lookup f = some ⟨oc, od, .func (PySem.W.fnOf "in_order" "in_order" (defArgs s_in_order) (defBody s_in_order) (defScope s_in_order) .none kV doc pm an (.ref c) ct), osl⟩) (cd : PySem.W.codeIn K (.ref c) "in_order" = true) (k : PySem.W.keepIn K (.ref f) = true) : LamD K mg c :=
  ⟨f, oc, od, kV, doc, pm, an, ct, osl, l, cd, k, PySem.W.mg_of X G a⟩
end
/-- the end of the row with tables, the loose names' values at hand -/
theorem walk_x {l : PySem.W.OpenLaw} {n k : Nat} {q : Program} {loose : List Str} {XP : (Str → Option Value) → Heap → Prop} {YP : World → Heap → Prop} {d : DefRec} {CX : World → CXT} {x : Str}
    (hn : l.most = some n) (hn2 : n ≤ sizeLine) (hdf : d.params.defaults = []) (hr : Room k callerA)
    (F : ∀ (w : World) (mg : Str → Option Value) (fa : Addr) (h : Heap), YP w h → h.Ns mainGlobals mg → XP mg h → mg d.name = some (.ref fa) → ∃ K : PySem.W.Frag, K.In h ∧ LamX.LawAtS l w K (CX w) k n x mg fa h)
    (hCX : ∀ (w : World) (H : Hp) (s : Shared) (e : Value) (s' : Shared), CX w [] H s (fun _ _ _ => False) e s' → False) :
    PySem.W.WalkO q loose XP YP l.row.toRowW d [] (fun f vs => PySem.call f vs) := by
  refine Att.attach_callB hn hdf fun w s₀ s₁ mg mb fa o pm cd doc a vs ns G Y ho hd hcd hmg hobj hints hlen hbits hg => ?_
  obtain ⟨K, KX, fd, cs, sp, hT, nT, C, hb, hsp, hF⟩ := F w mg fa _ Y G.T.g G.X hmg
  exact LamX.law_callTs KX G.T.g G.T.b G.T.builtins G.T.nolimit hg hT nT C G.T.bmain hobj hints (Nat.le_trans hlen hn2) hr hF hb (fun H hH hS => hsp H a ns hlen hbits hH hS) fun H e s' => hCX w H s₁ e s'
theorem far_of {p : Program} {mg : Str → Option Value} {h : Heap} (X : PySem.W.XL p [(Str.ofString "FAR", PySem.W.WData.int 1000000000000)] mg h) : ∃ u, mg "FAR" = some u ∧ RelV (.int 1000000000000) u := by
  obtain ⟨v, e, r⟩ := X.2.val (Str.ofString "FAR", PySem.W.WData.int 1000000000000) (by simp)
  refine ⟨v, e, ?_⟩
  cases r with
  | int i t => exact ⟨t, rfl⟩
theorem head_all {l : PySem.W.OpenLaw} {w : World} {K : PySem.W.Frag} {mg : Str → Option Value} {h : Heap} {fa CM CH CV aL cO Pt : Addr} {odL : Option Addr} {itL : Array Value} {nL : Nat} {slL : Array (Option Value)} {tg_MOVED_PRICE tg_MOST_HANDS tg_MOST_SKILLS : Tok}
    (X : K.In h) (G : h.Ns mainGlobals mg) (hFAR : ∃ u, mg "FAR" = some u ∧ RelV (.int 1000000000000) u) (hfa : mg "law" = some (.ref fa))
    (b_all : PySem.W.nsIn K mainGlobals "all" = some none)
    (b_any : PySem.W.nsIn K mainGlobals "any" = some none)
    (b_bool : PySem.W.nsIn K mainGlobals "bool" = some none)
    (b_dict : PySem.W.nsIn K mainGlobals "dict" = some none)
    (b_divmod : PySem.W.nsIn K mainGlobals "divmod" = some none)
    (b_enumerate : PySem.W.nsIn K mainGlobals "enumerate" = some none)
    (b_int : PySem.W.nsIn K mainGlobals "int" = some none)
    (b_isinstance : PySem.W.nsIn K mainGlobals "isinstance" = some none)
    (b_len : PySem.W.nsIn K mainGlobals "len" = some none)
    (b_list : PySem.W.nsIn K mainGlobals "list" = some none)
    (b_max : PySem.W.nsIn K mainGlobals "max" = some none)
    (b_min : PySem.W.nsIn K mainGlobals "min" = some none)
    (b_range : PySem.W.nsIn K mainGlobals "range" = some none)
    (b_sorted : PySem.W.nsIn K mainGlobals "sorted" = some none)
    (b_str : PySem.W.nsIn K mainGlobals "str" = some none)
    (b_sum : PySem.W.nsIn K mainGlobals "sum" = some none)
    (b_tuple : PySem.W.nsIn K mainGlobals "tuple" = some none)
    (b_zip : PySem.W.nsIn K mainGlobals "zip" = some none)
    (g_MOVED_PRICE : PySem.W.nsIn K mainGlobals "MOVED_PRICE" = some (some (.int 100 tg_MOVED_PRICE)))
    (g_LACK_PRICES : PySem.W.nsIn K mainGlobals "LACK_PRICES" = some (some (.ref aL)))
    (g_MOST_HANDS : PySem.W.nsIn K mainGlobals "MOST_HANDS" = some (some (.int 12 tg_MOST_HANDS)))
    (g_MOST_SKILLS : PySem.W.nsIn K mainGlobals "MOST_SKILLS" = some (some (.int 4 tg_MOST_SKILLS)))
    (lpL : K.lookup aL = some ⟨.type "tuple", odL, .seq itL nL, slL⟩)
    (lpZ : itL.size ≤ sizeLine)
    (lpV : Vals [.int 10000, .int 1000000, .int 100000000] itL.toList)
    (mg_Manning : PySem.W.nsIn K mainGlobals "Manning" = some (some (.ref CM)))
    (pgCM : PySem.W.plainGet K CM Str.empty = true)
    (hdCM : PySem.W.hasDictIn K CM = true)
    (poCM : PySem.W.plainOver K CM = true)
    (saCM : PySem.W.findIn K (.ref CM) "__setattr__" = some (some (.builtin "object.__setattr__")))
    (na_Manning_wanted : PySem.W.findIn K (.ref CM) "wanted" = some none)
    (na_Manning_bounty : PySem.W.findIn K (.ref CM) "bounty" = some none)
    (na_Manning_costs : PySem.W.findIn K (.ref CM) "costs" = some none)
    (na_Manning_spots : PySem.W.findIn K (.ref CM) "spots" = some none)
    (na_Manning_named : PySem.W.findIn K (.ref CM) "named" = some none)
    (mg_Holding : PySem.W.nsIn K mainGlobals "Holding" = some (some (.ref CH)))
    (pgCH : PySem.W.plainGet K CH Str.empty = true)
    (hdCH : PySem.W.hasDictIn K CH = true)
    (poCH : PySem.W.plainOver K CH = true)
    (saCH : PySem.W.findIn K (.ref CH) "__setattr__" = some (some (.builtin "object.__setattr__")))
    (na_Holding_sections : PySem.W.findIn K (.ref CH) "sections" = some none)
    (na_Holding_hands_by : PySem.W.findIn K (.ref CH) "hands_by" = some none)
    (na_Holding_billed : PySem.W.findIn K (.ref CH) "billed" = some none)
    (na_Holding_words_kept : PySem.W.findIn K (.ref CH) "words_kept" = some none)
    (na_Holding_ill : PySem.W.findIn K (.ref CH) "ill" = some none)
    (na_Holding_wanted : PySem.W.findIn K (.ref CH) "wanted" = some none)
    (na_Holding_words_up : PySem.W.findIn K (.ref CH) "words_up" = some none)
    (mg_Voyage : PySem.W.nsIn K mainGlobals "Voyage" = some (some (.ref CV)))
    (pgCV : PySem.W.plainGet K CV Str.empty = true)
    (hdCV : PySem.W.hasDictIn K CV = true)
    (poCV : PySem.W.plainOver K CV = true)
    (saCV : PySem.W.findIn K (.ref CV) "__setattr__" = some (some (.builtin "object.__setattr__")))
    (na_Voyage_ship_here : PySem.W.findIn K (.ref CV) "ship_here" = some none)
    (na_Voyage_coming : PySem.W.findIn K (.ref CV) "coming" = some none)
    (na_Voyage_holding : PySem.W.findIn K (.ref CV) "holding" = some none)
    (na_Voyage_bell_now : PySem.W.findIn K (.ref CV) "bell_now" = some none)
    (na_Voyage_station_by : PySem.W.findIn K (.ref CV) "station_by" = some none)
    (na_Voyage_was_at : PySem.W.findIn K (.ref CV) "was_at" = some none)
    (na_Voyage_told_now : PySem.W.findIn K (.ref CV) "told_now" = some none)
    (d_bells_in : Def K mg "bells_in" s_bells_in)
    (d_watch_at : Def K mg "watch_at" s_watch_at)
    (d_cycle_from : Def K mg "cycle_from" s_cycle_from)
    (d_cycles : Def K mg "cycles" s_cycles)
    (d_divisor : Def K mg "divisor" s_divisor)
    (d_round_of : Def K mg "round_of" s_round_of)
    (d_order_at : Def K mg "order_at" s_order_at)
    (d_kept_by : Def K mg "kept_by" s_kept_by)
    (d_keeper : Def K mg "keeper" s_keeper)
    (d_short : Def K mg "short" s_short)
    (d_is_fit : Def K mg "is_fit" s_is_fit)
    (d_lack_price : Def K mg "lack_price" s_lack_price)
    (d_cost_of : Def K mg "cost_of" s_cost_of)
    (d_costs_of : Def K mg "costs_of" s_costs_of)
    (i_Manning : IDef K CM "Manning.__init__" s_Manning_init)
    (md_Manning_fit_places : MDef K CM "fit_places" "Manning.fit_places" s_Manning_fit_places)
    (md_Manning_relax : MDef K CM "relax" "Manning.relax" s_Manning_relax)
    (md_Manning_cheapest : MDef K CM "cheapest" "Manning.cheapest" s_Manning_cheapest)
    (md_Manning_put_along : MDef K CM "put_along" "Manning.put_along" s_Manning_put_along)
    (md_Manning_fill : MDef K CM "fill" "Manning.fill" s_Manning_fill)
    (md_Manning_hand_down : MDef K CM "hand_down" "Manning.hand_down" s_Manning_hand_down)
    (md_Manning_place_down : MDef K CM "place_down" "Manning.place_down" s_Manning_place_down)
    (md_Manning_levelled : MDef K CM "levelled" "Manning.levelled" s_Manning_levelled)
    (md_Manning_paper : MDef K CM "paper" "Manning.paper" s_Manning_paper)
    (d_man : Def K mg "man" s_man)
    (d_names_in : Def K mg "names_in" s_names_in)
    (d_in_order : Def K mg "in_order" s_in_order)
    (i_Holding : IDef K CH "Holding.__init__" s_Holding_init)
    (md_Holding_put_in : MDef K CH "put_in" "Holding.put_in" s_Holding_put_in)
    (md_Holding_take_in : MDef K CH "take_in" "Holding.take_in" s_Holding_take_in)
    (md_Holding_of_hand : MDef K CH "of_hand" "Holding.of_hand" s_Holding_of_hand)
    (md_Holding_mustered : MDef K CH "mustered" "Holding.mustered" s_Holding_mustered)
    (d_muster : Def K mg "muster" s_muster)
    (d_with_many : Def K mg "with_many" s_with_many)
    (d_places_of : Def K mg "places_of" s_places_of)
    (d_where_of : Def K mg "where_of" s_where_of)
    (i_Voyage : IDef K CV "Voyage.__init__" s_Voyage_init)
    (md_Voyage_come_to : MDef K CV "come_to" "Voyage.come_to" s_Voyage_come_to)
    (md_Voyage_lot_of_watch : MDef K CV "lot_of_watch" "Voyage.lot_of_watch" s_Voyage_lot_of_watch)
    (md_Voyage_by_bill : MDef K CV "by_bill" "Voyage.by_bill" s_Voyage_by_bill)
    (md_Voyage_held_by : MDef K CV "held_by" "Voyage.held_by" s_Voyage_held_by)
    (md_Voyage_lot_of_calls : MDef K CV "lot_of_calls" "Voyage.lot_of_calls" s_Voyage_lot_of_calls)
    (md_Voyage_by_calls : MDef K CV "by_calls" "Voyage.by_calls" s_Voyage_by_calls)
    (md_Voyage_asked_now : MDef K CV "asked_now" "Voyage.asked_now" s_Voyage_asked_now)
    (md_Voyage_go_on : MDef K CV "go_on" "Voyage.go_on" s_Voyage_go_on)
    (d_come_so_far : Def K mg "come_so_far" s_come_so_far)
    (d_asked : Def K mg "asked" s_asked)
    (d_held : Def K mg "held" s_held)
    (d_posted : Def K mg "posted" s_posted)
    (d_sit : Def K mg "sit" s_sit)
    (d_fullest : Def K mg "fullest" s_fullest)
    (d_come_to : Def K mg "come_to" s_come_to)
    (d_lacking : Def K mg "lacking" s_lacking)
    (d_law_hand : Def K mg "_law_hand" s_law_hand)
    (d_law_take : Def K mg "_law_take" s_law_take)
    (d_law_of : Def K mg "_law_of" s_law_of)
    (d_law_order : Def K mg "_law_order" s_law_order)
    (d_law_names : Def K mg "_law_names" s_law_names)
    (d_law_lot : Def K mg "_law_lot" s_law_lot)
    (d_law_roll : Def K mg "_law_roll" s_law_roll)
    (d_law_ship : Def K mg "_law_ship" s_law_ship)
    (d_law_change : Def K mg "_law_change" s_law_change)
    (d_law_pages : Def K mg "_law_pages" s_law_pages)
    (d_law_is_fit : Def K mg "_law_is_fit" s_law_is_fit)
    (d_law_cost : Def K mg "_law_cost" s_law_cost)
    (d_law_are_posts : Def K mg "_law_are_posts" s_law_are_posts)
    (d_law_price : Def K mg "_law_price" s_law_price)
    (d_law_whole : Def K mg "_law_whole" s_law_whole)
    (d_law_paper_right : Def K mg "_law_paper_right" s_law_paper_right)
    (d_law_cut_right : Def K mg "_law_cut_right" s_law_cut_right)
    (d_law_row_due : Def K mg "_law_row_due" s_law_row_due)
    (d_law_bell_right : Def K mg "_law_bell_right" s_law_bell_right)
    (d_law : Def K mg "law" s_law)
    (lamd : LamD K mg cO)
    (ht0 : h.get? Pt = some (PySem.W.tabObj #[]))
    (hd0 : PySem.W.codeHdIn K cO Pt = true)
    (hn0 : K.lookup Pt = none)
    : LamX.LawAtS l w K CX0 32 63 "_law_script" mg fa h := by
  have T : Txt K mg CM CH CV aL := {
    b_all := PySem.W.mg_none_of X G b_all,
    b_any := PySem.W.mg_none_of X G b_any,
    b_bool := PySem.W.mg_none_of X G b_bool,
    b_dict := PySem.W.mg_none_of X G b_dict,
    b_divmod := PySem.W.mg_none_of X G b_divmod,
    b_enumerate := PySem.W.mg_none_of X G b_enumerate,
    b_int := PySem.W.mg_none_of X G b_int,
    b_isinstance := PySem.W.mg_none_of X G b_isinstance,
    b_len := PySem.W.mg_none_of X G b_len,
    b_list := PySem.W.mg_none_of X G b_list,
    b_max := PySem.W.mg_none_of X G b_max,
    b_min := PySem.W.mg_none_of X G b_min,
    b_range := PySem.W.mg_none_of X G b_range,
    b_sorted := PySem.W.mg_none_of X G b_sorted,
    b_str := PySem.W.mg_none_of X G b_str,
    b_sum := PySem.W.mg_none_of X G b_sum,
    b_tuple := PySem.W.mg_none_of X G b_tuple,
    b_zip := PySem.W.mg_none_of X G b_zip,
    g_FAR := hFAR,
    g_MOVED_PRICE := ⟨_, PySem.W.mg_of X G g_MOVED_PRICE, ⟨_, rfl⟩⟩,
    g_LACK_PRICES := ⟨_, PySem.W.mg_of X G g_LACK_PRICES, rfl⟩,
    g_MOST_HANDS := ⟨_, PySem.W.mg_of X G g_MOST_HANDS, ⟨_, rfl⟩⟩,
    g_MOST_SKILLS := ⟨_, PySem.W.mg_of X G g_MOST_SKILLS, ⟨_, rfl⟩⟩,
    lp := fun _ => .inr ⟨_, itL, nL, lpL, rfl, rfl, lpZ, lpV⟩,
    cls_Manning := ⟨pgCM, hdCM, poCM, saCM⟩,
    mg_Manning := PySem.W.mg_of X G mg_Manning,
    na_Manning_wanted := na_Manning_wanted,
    na_Manning_bounty := na_Manning_bounty,
    na_Manning_costs := na_Manning_costs,
    na_Manning_spots := na_Manning_spots,
    na_Manning_named := na_Manning_named,
    cls_Holding := ⟨pgCH, hdCH, poCH, saCH⟩,
    mg_Holding := PySem.W.mg_of X G mg_Holding,
    na_Holding_sections := na_Holding_sections,
    na_Holding_hands_by := na_Holding_hands_by,
    na_Holding_billed := na_Holding_billed,
    na_Holding_words_kept := na_Holding_words_kept,
    na_Holding_ill := na_Holding_ill,
    na_Holding_wanted := na_Holding_wanted,
    na_Holding_words_up := na_Holding_words_up,
    cls_Voyage := ⟨pgCV, hdCV, poCV, saCV⟩,
    mg_Voyage := PySem.W.mg_of X G mg_Voyage,
    na_Voyage_ship_here := na_Voyage_ship_here,
    na_Voyage_coming := na_Voyage_coming,
    na_Voyage_holding := na_Voyage_holding,
    na_Voyage_bell_now := na_Voyage_bell_now,
    na_Voyage_station_by := na_Voyage_station_by,
    na_Voyage_was_at := na_Voyage_was_at,
    na_Voyage_told_now := na_Voyage_told_now,
    d_bells_in := d_bells_in,
    d_watch_at := d_watch_at,
    d_cycle_from := d_cycle_from,
    d_cycles := d_cycles,
    d_divisor := d_divisor,
    d_round_of := d_round_of,
    d_order_at := d_order_at,
    d_kept_by := d_kept_by,
    d_keeper := d_keeper,
    d_short := d_short,
    d_is_fit := d_is_fit,
    d_lack_price := d_lack_price,
    d_cost_of := d_cost_of,
    d_costs_of := d_costs_of,
    i_Manning := i_Manning,
    md_Manning_fit_places := md_Manning_fit_places,
    md_Manning_relax := md_Manning_relax,
    md_Manning_cheapest := md_Manning_cheapest,
    md_Manning_put_along := md_Manning_put_along,
    md_Manning_fill := md_Manning_fill,
    md_Manning_hand_down := md_Manning_hand_down,
    md_Manning_place_down := md_Manning_place_down,
    md_Manning_levelled := md_Manning_levelled,
    md_Manning_paper := md_Manning_paper,
    d_man := d_man,
    d_names_in := d_names_in,
    d_in_order := d_in_order,
    i_Holding := i_Holding,
    md_Holding_put_in := md_Holding_put_in,
    md_Holding_take_in := md_Holding_take_in,
    md_Holding_of_hand := md_Holding_of_hand,
    md_Holding_mustered := md_Holding_mustered,
    d_muster := d_muster,
    d_with_many := d_with_many,
    d_places_of := d_places_of,
    d_where_of := d_where_of,
    i_Voyage := i_Voyage,
    md_Voyage_come_to := md_Voyage_come_to,
    md_Voyage_lot_of_watch := md_Voyage_lot_of_watch,
    md_Voyage_by_bill := md_Voyage_by_bill,
    md_Voyage_held_by := md_Voyage_held_by,
    md_Voyage_lot_of_calls := md_Voyage_lot_of_calls,
    md_Voyage_by_calls := md_Voyage_by_calls,
    md_Voyage_asked_now := md_Voyage_asked_now,
    md_Voyage_go_on := md_Voyage_go_on,
    d_come_so_far := d_come_so_far,
    d_asked := d_asked,
    d_held := d_held,
    d_posted := d_posted,
    d_sit := d_sit,
    d_fullest := d_fullest,
    d_come_to := d_come_to,
    d_lacking := d_lacking,
    d_law_hand := d_law_hand,
    d_law_take := d_law_take,
    d_law_of := d_law_of,
    d_law_order := d_law_order,
    d_law_names := d_law_names,
    d_law_lot := d_law_lot,
    d_law_roll := d_law_roll,
    d_law_ship := d_law_ship,
    d_law_change := d_law_change,
    d_law_pages := d_law_pages,
    d_law_is_fit := d_law_is_fit,
    d_law_cost := d_law_cost,
    d_law_are_posts := d_law_are_posts,
    d_law_price := d_law_price,
    d_law_whole := d_law_whole,
    d_law_paper_right := d_law_paper_right,
    d_law_cut_right := d_law_cut_right,
    d_law_row_due := d_law_row_due,
    d_law_bell_right := d_law_bell_right,
    d_law := d_law }
  obtain ⟨f, fd, F, hm⟩ := T.d_law.ex
  have e := hm.symm.trans hfa
  cases e
  refine ⟨fd, [(cO, Pt)], spLaw K Pt, fun p hp => ?_, fun p hp => ?_, fun p hp => ?_, fun s v => ?_, fun H a ns hl _ hT hS => ?_, fun base hb hns hTB => ?_⟩
  · have : p = (cO, Pt) := by simpa using hp
    subst this
    exact ht0
  · have : p = (cO, Pt) := by simpa using hp
    subst this
    exact hn0
  · have : p = (cO, Pt) := by simpa using hp
    subst this
    exact PySem.W.codeHd_of_K X hd0
  · obtain ⟨oc, od, kV, doc, pm, an, cdv, ct, osl, rfl, _, _⟩ := F.ex
    exact .of_eq rfl
  · exact ⟨a, ns, rfl, hS, TabS.nil (hT (cO, Pt) (by simp)), fun H' _ _ => rfl⟩
  · exact ok_law T lamd (hTB (cO, Pt) (by simp)) F
end WS
open PySem PySem.W PyProof.Rows in
set_option maxRecDepth 100000 in
set_option maxHeartbeats 0 in
theorem PySem.Challenge.cw_watchstations_k90_whole_papers_at_each_b_holds : PySem.Challenge.rw_watchstations_k90_whole_papers_at_each_b.Holds := by
  w_on; o_law; k_head; (case hw => w_witness2)
  k_fill
  refine WS.walk_x (l := PySem.Challenge.rw_watchstations_k90_whole_papers_at_each_b) (n := 63) (k := 32) (x := "_law_script") (CX := fun _ => L2.CX0) rfl (by decide) rfl ⟨rfl, by decide, by decide⟩ ?F (fun _ _ _ _ _ z => z)
  case F =>
    intro w mg fa h Y G X hmg
    have KX := PySem.W.km_in_of Y
    have KT := PySem.W.km_tabs_of Y
    refine ⟨_, KX, ?_⟩
    refine' WS.head_all KX G (WS.far_of X) hmg ?b_all ?b_any ?b_bool ?b_dict ?b_divmod ?b_enumerate ?b_int ?b_isinstance ?b_len ?b_list ?b_max ?b_min ?b_range ?b_sorted ?b_str ?b_sum ?b_tuple ?b_zip ?g_MOVED_PRICE ?g_LACK_PRICES ?g_MOST_HANDS ?g_MOST_SKILLS ?lpL ?lpZ ?lpV ?mg_Manning ?pgCM ?hdCM ?poCM ?saCM ?na_Manning_wanted ?na_Manning_bounty ?na_Manning_costs ?na_Manning_spots ?na_Manning_named ?mg_Holding ?pgCH ?hdCH ?poCH ?saCH ?na_Holding_sections ?na_Holding_hands_by ?na_Holding_billed ?na_Holding_words_kept ?na_Holding_ill ?na_Holding_wanted ?na_Holding_words_up ?mg_Voyage ?pgCV ?hdCV ?poCV ?saCV ?na_Voyage_ship_here ?na_Voyage_coming ?na_Voyage_holding ?na_Voyage_bell_now ?na_Voyage_station_by ?na_Voyage_was_at ?na_Voyage_told_now ?d_bells_in ?d_watch_at ?d_cycle_from ?d_cycles ?d_divisor ?d_round_of ?d_order_at ?d_kept_by ?d_keeper ?d_short ?d_is_fit ?d_lack_price ?d_cost_of ?d_costs_of ?i_Manning ?md_Manning_fit_places ?md_Manning_relax ?md_Manning_cheapest ?md_Manning_put_along ?md_Manning_fill ?md_Manning_hand_down ?md_Manning_place_down ?md_Manning_levelled ?md_Manning_paper ?d_man ?d_names_in ?d_in_order ?i_Holding ?md_Holding_put_in ?md_Holding_take_in ?md_Holding_of_hand ?md_Holding_mustered ?d_muster ?d_with_many ?d_places_of ?d_where_of ?i_Voyage ?md_Voyage_come_to ?md_Voyage_lot_of_watch ?md_Voyage_by_bill ?md_Voyage_held_by ?md_Voyage_lot_of_calls ?md_Voyage_by_calls ?md_Voyage_asked_now ?md_Voyage_go_on ?d_come_so_far ?d_asked ?d_held ?d_posted ?d_sit ?d_fullest ?d_come_to ?d_lacking ?d_law_hand ?d_law_take ?d_law_of ?d_law_order ?d_law_names ?d_law_lot ?d_law_roll ?d_law_ship ?d_law_change ?d_law_pages ?d_law_is_fit ?d_law_cost ?d_law_are_posts ?d_law_price ?d_law_whole ?d_law_paper_right ?d_law_cut_right ?d_law_row_due ?d_law_bell_right ?d_law ?lamd ?ht0 ?hd0 ?hn0
    (case b_all => k_is)
    (case b_any => k_is)
    (case b_bool => k_is)
    (case b_dict => k_is)
    (case b_divmod => k_is)
    (case b_enumerate => k_is)
    (case b_int => k_is)
    (case b_isinstance => k_is)
    (case b_len => k_is)
    (case b_list => k_is)
    (case b_max => k_is)
    (case b_min => k_is)
    (case b_range => k_is)
    (case b_sorted => k_is)
    (case b_str => k_is)
    (case b_sum => k_is)
    (case b_tuple => k_is)
    (case b_zip => k_is)
    (case g_MOVED_PRICE => k_is)
    (case g_LACK_PRICES => k_is)
    (case g_MOST_HANDS => k_is)
    (case g_MOST_SKILLS => k_is)
    (case lpL => k_is)
    (case lpZ => decide)
    (case lpV => exact .cons ⟨_, rfl⟩ (.cons ⟨_, rfl⟩ (.cons ⟨_, rfl⟩ .nil)))
    (case mg_Manning => k_is)
    (case pgCM => k_is)
    (case hdCM => k_is)
    (case poCM => k_is)
    (case saCM => k_is)
    (case na_Manning_wanted => k_is)
    (case na_Manning_bounty => k_is)
    (case na_Manning_costs => k_is)
    (case na_Manning_spots => k_is)
    (case na_Manning_named => k_is)
    (case mg_Holding => k_is)
    (case pgCH => k_is)
    (case hdCH => k_is)
    (case poCH => k_is)
    (case saCH => k_is)
    (case na_Holding_sections => k_is)
    (case na_Holding_hands_by => k_is)
    (case na_Holding_billed => k_is)
    (case na_Holding_words_kept => k_is)
    (case na_Holding_ill => k_is)
    (case na_Holding_wanted => k_is)
    (case na_Holding_words_up => k_is)
    (case mg_Voyage => k_is)
    (case pgCV => k_is)
    (case hdCV => k_is)
    (case poCV => k_is)
    (case saCV => k_is)
    (case na_Voyage_ship_here => k_is)
    (case na_Voyage_coming => k_is)
    (case na_Voyage_holding => k_is)
    (case na_Voyage_bell_now => k_is)
    (case na_Voyage_station_by => k_is)
    (case na_Voyage_was_at => k_is)
    (case na_Voyage_told_now => k_is)
    (case d_bells_in => (refine' WS.def_mk KX G ?a ?l ?c ?k; (case a => k_is); (case l => k_is); (case c => k_is); (case k => k_is)))
    (case d_watch_at => (refine' WS.def_mk KX G ?a ?l ?c ?k; (case a => k_is); (case l => k_is); (case c => k_is); (case k => k_is)))
    (case d_cycle_from => (refine' WS.def_mk KX G ?a ?l ?c ?k; (case a => k_is); (case l => k_is); (case c => k_is); (case k => k_is)))
    (case d_cycles => (refine' WS.def_mk KX G ?a ?l ?c ?k; (case a => k_is); (case l => k_is); (case c => k_is); (case k => k_is)))
    (case d_divisor => (refine' WS.def_mk KX G ?a ?l ?c ?k; (case a => k_is); (case l => k_is); (case c => k_is); (case k => k_is)))
    (case d_round_of => (refine' WS.def_mk KX G ?a ?l ?c ?k; (case a => k_is); (case l => k_is); (case c => k_is); (case k => k_is)))
    (case d_order_at => (refine' WS.def_mk KX G ?a ?l ?c ?k; (case a => k_is); (case l => k_is); (case c => k_is); (case k => k_is)))
    (case d_kept_by => (refine' WS.def_mk KX G ?a ?l ?c ?k; (case a => k_is); (case l => k_is); (case c => k_is); (case k => k_is)))
    (case d_keeper => (refine' WS.def_mk KX G ?a ?l ?c ?k; (case a => k_is); (case l => k_is); (case c => k_is); (case k => k_is)))
    (case d_short => (refine' WS.def_mk KX G ?a ?l ?c ?k; (case a => k_is); (case l => k_is); (case c => k_is); (case k => k_is)))
    (case d_is_fit => (refine' WS.def_mk KX G ?a ?l ?c ?k; (case a => k_is); (case l => k_is); (case c => k_is); (case k => k_is)))
    (case d_lack_price => (refine' WS.def_mk KX G ?a ?l ?c ?k; (case a => k_is); (case l => k_is); (case c => k_is); (case k => k_is)))
    (case d_cost_of => (refine' WS.def_mk KX G ?a ?l ?c ?k; (case a => k_is); (case l => k_is); (case c => k_is); (case k => k_is)))
    (case d_costs_of => (refine' WS.def_mk KX G ?a ?l ?c ?k; (case a => k_is); (case l => k_is); (case c => k_is); (case k => k_is)))
    (case i_Manning => (refine' WS.idef_mk ?a ?i ?l ?c ?k ?mk ?kc; (case a => k_is); (case i => k_is); (case l => k_is); (case c => k_is); (case k => k_is); (case mk => k_is); (case kc => k_is)))
    (case md_Manning_fit_places => (refine' WS.mdef_mk ?a ?i ?l ?c ?k; (case a => k_is); (case i => k_is); (case l => k_is); (case c => k_is); (case k => k_is)))
    (case md_Manning_relax => (refine' WS.mdef_mk ?a ?i ?l ?c ?k; (case a => k_is); (case i => k_is); (case l => k_is); (case c => k_is); (case k => k_is)))
    (case md_Manning_cheapest => (refine' WS.mdef_mk ?a ?i ?l ?c ?k; (case a => k_is); (case i => k_is); (case l => k_is); (case c => k_is); (case k => k_is)))
    (case md_Manning_put_along => (refine' WS.mdef_mk ?a ?i ?l ?c ?k; (case a => k_is); (case i => k_is); (case l => k_is); (case c => k_is); (case k => k_is)))
    (case md_Manning_fill => (refine' WS.mdef_mk ?a ?i ?l ?c ?k; (case a => k_is); (case i => k_is); (case l => k_is); (case c => k_is); (case k => k_is)))
    (case md_Manning_hand_down => (refine' WS.mdef_mk ?a ?i ?l ?c ?k; (case a => k_is); (case i => k_is); (case l => k_is); (case c => k_is); (case k => k_is)))
    (case md_Manning_place_down => (refine' WS.mdef_mk ?a ?i ?l ?c ?k; (case a => k_is); (case i => k_is); (case l => k_is); (case c => k_is); (case k => k_is)))
    (case md_Manning_levelled => (refine' WS.mdef_mk ?a ?i ?l ?c ?k; (case a => k_is); (case i => k_is); (case l => k_is); (case c => k_is); (case k => k_is)))
    (case md_Manning_paper => (refine' WS.mdef_mk ?a ?i ?l ?c ?k; (case a => k_is); (case i => k_is); (case l => k_is); (case c => k_is); (case k => k_is)))
    (case d_man => (refine' WS.def_mk KX G ?a ?l ?c ?k; (case a => k_is); (case l => k_is); (case c => k_is); (case k => k_is)))
    (case d_names_in => (refine' WS.def_mk KX G ?a ?l ?c ?k; (case a => k_is); (case l => k_is); (case c => k_is); (case k => k_is)))
    (case d_in_order => (refine' WS.def_mk KX G ?a ?l ?c ?k; (case a => k_is); (case l => k_is); (case c => k_is); (case k => k_is)))
    (case i_Holding => (refine' WS.idef_mk ?a ?i ?l ?c ?k ?mk ?kc; (case a => k_is); (case i => k_is); (case l => k_is); (case c => k_is); (case k => k_is); (case mk => k_is); (case kc => k_is)))
    (case md_Holding_put_in => (refine' WS.mdef_mk ?a ?i ?l ?c ?k; (case a => k_is); (case i => k_is); (case l => k_is); (case c => k_is); (case k => k_is)))
    (case md_Holding_take_in => (refine' WS.mdef_mk ?a ?i ?l ?c ?k; (case a => k_is); (case i => k_is); (case l => k_is); (case c => k_is); (case k => k_is)))
    (case md_Holding_of_hand => (refine' WS.mdef_mk ?a ?i ?l ?c ?k; (case a => k_is); (case i => k_is); (case l => k_is); (case c => k_is); (case k => k_is)))
    (case md_Holding_mustered => (refine' WS.mdef_mk ?a ?i ?l ?c ?k; (case a => k_is); (case i => k_is); (case l => k_is); (case c => k_is); (case k => k_is)))
    (case d_muster => (refine' WS.def_mk KX G ?a ?l ?c ?k; (case a => k_is); (case l => k_is); (case c => k_is); (case k => k_is)))
    (case d_with_many => (refine' WS.def_mk KX G ?a ?l ?c ?k; (case a => k_is); (case l => k_is); (case c => k_is); (case k => k_is)))
    (case d_places_of => (refine' WS.def_mk KX G ?a ?l ?c ?k; (case a => k_is); (case l => k_is); (case c => k_is); (case k => k_is)))
    (case d_where_of => (refine' WS.def_mk KX G ?a ?l ?c ?k; (case a => k_is); (case l => k_is); (case c => k_is); (case k => k_is)))
    (case i_Voyage => (refine' WS.idef_mk ?a ?i ?l ?c ?k ?mk ?kc; (case a => k_is); (case i => k_is); (case l => k_is); (case c => k_is); (case k => k_is); (case mk => k_is); (case kc => k_is)))
    (case md_Voyage_come_to => (refine' WS.mdef_mk ?a ?i ?l ?c ?k; (case a => k_is); (case i => k_is); (case l => k_is); (case c => k_is); (case k => k_is)))
    (case md_Voyage_lot_of_watch => (refine' WS.mdef_mk ?a ?i ?l ?c ?k; (case a => k_is); (case i => k_is); (case l => k_is); (case c => k_is); (case k => k_is)))
    (case md_Voyage_by_bill => (refine' WS.mdef_mk ?a ?i ?l ?c ?k; (case a => k_is); (case i => k_is); (case l => k_is); (case c => k_is); (case k => k_is)))
    (case md_Voyage_held_by => (refine' WS.mdef_mk ?a ?i ?l ?c ?k; (case a => k_is); (case i => k_is); (case l => k_is); (case c => k_is); (case k => k_is)))
    (case md_Voyage_lot_of_calls => (refine' WS.mdef_mk ?a ?i ?l ?c ?k; (case a => k_is); (case i => k_is); (case l => k_is); (case c => k_is); (case k => k_is)))
    (case md_Voyage_by_calls => (refine' WS.mdef_mk ?a ?i ?l ?c ?k; (case a => k_is); (case i => k_is); (case l => k_is); (case c => k_is); (case k => k_is)))
    (case md_Voyage_asked_now => (refine' WS.mdef_mk ?a ?i ?l ?c ?k; (case a => k_is); (case i => k_is); (case l => k_is); (case c => k_is); (case k => k_is)))
    (case md_Voyage_go_on => (refine' WS.mdef_mk ?a ?i ?l ?c ?k; (case a => k_is); (case i => k_is); (case l => k_is); (case c => k_is); (case k => k_is)))
    (case d_come_so_far => (refine' WS.def_mk KX G ?a ?l ?c ?k; (case a => k_is); (case l => k_is); (case c => k_is); (case k => k_is)))
    (case d_asked => (refine' WS.def_mk KX G ?a ?l ?c ?k; (case a => k_is); (case l => k_is); (case c => k_is); (case k => k_is)))
    (case d_held => (refine' WS.def_mk KX G ?a ?l ?c ?k; (case a => k_is); (case l => k_is); (case c => k_is); (case k => k_is)))
    (case d_posted => (refine' WS.def_mk KX G ?a ?l ?c ?k; (case a => k_is); (case l => k_is); (case c => k_is); (case k => k_is)))
    (case d_sit => (refine' WS.def_mk KX G ?a ?l ?c ?k; (case a => k_is); (case l => k_is); (case c => k_is); (case k => k_is)))
    (case d_fullest => (refine' WS.def_mk KX G ?a ?l ?c ?k; (case a => k_is); (case l => k_is); (case c => k_is); (case k => k_is)))
    (case d_come_to => (refine' WS.def_mk KX G ?a ?l ?c ?k; (case a => k_is); (case l => k_is); (case c => k_is); (case k => k_is)))
    (case d_lacking => (refine' WS.def_mk KX G ?a ?l ?c ?k; (case a => k_is); (case l => k_is); (case c => k_is); (case k => k_is)))
    (case d_law_hand => (refine' WS.def_mk KX G ?a ?l ?c ?k; (case a => k_is); (case l => k_is); (case c => k_is); (case k => k_is)))
    (case d_law_take => (refine' WS.def_mk KX G ?a ?l ?c ?k; (case a => k_is); (case l => k_is); (case c => k_is); (case k => k_is)))
    (case d_law_of => (refine' WS.def_mk KX G ?a ?l ?c ?k; (case a => k_is); (case l => k_is); (case c => k_is); (case k => k_is)))
    (case d_law_order => (refine' WS.def_mk KX G ?a ?l ?c ?k; (case a => k_is); (case l => k_is); (case c => k_is); (case k => k_is)))
    (case d_law_names => (refine' WS.def_mk KX G ?a ?l ?c ?k; (case a => k_is); (case l => k_is); (case c => k_is); (case k => k_is)))
    (case d_law_lot => (refine' WS.def_mk KX G ?a ?l ?c ?k; (case a => k_is); (case l => k_is); (case c => k_is); (case k => k_is)))
    (case d_law_roll => (refine' WS.def_mk KX G ?a ?l ?c ?k; (case a => k_is); (case l => k_is); (case c => k_is); (case k => k_is)))
    (case d_law_ship => (refine' WS.def_mk KX G ?a ?l ?c ?k; (case a => k_is); (case l => k_is); (case c => k_is); (case k => k_is)))
    (case d_law_change => (refine' WS.def_mk KX G ?a ?l ?c ?k; (case a => k_is); (case l => k_is); (case c => k_is); (case k => k_is)))
    (case d_law_pages => (refine' WS.def_mk KX G ?a ?l ?c ?k; (case a => k_is); (case l => k_is); (case c => k_is); (case k => k_is)))
    (case d_law_is_fit => (refine' WS.def_mk KX G ?a ?l ?c ?k; (case a => k_is); (case l => k_is); (case c => k_is); (case k => k_is)))
    (case d_law_cost => (refine' WS.def_mk KX G ?a ?l ?c ?k; (case a => k_is); (case l => k_is); (case c => k_is); (case k => k_is)))
    (case d_law_are_posts => (refine' WS.def_mk KX G ?a ?l ?c ?k; (case a => k_is); (case l => k_is); (case c => k_is); (case k => k_is)))
    (case d_law_price => (refine' WS.def_mk KX G ?a ?l ?c ?k; (case a => k_is); (case l => k_is); (case c => k_is); (case k => k_is)))
    (case d_law_whole => (refine' WS.def_mk KX G ?a ?l ?c ?k; (case a => k_is); (case l => k_is); (case c => k_is); (case k => k_is)))
    (case d_law_paper_right => (refine' WS.def_mk KX G ?a ?l ?c ?k; (case a => k_is); (case l => k_is); (case c => k_is); (case k => k_is)))
    (case d_law_cut_right => (refine' WS.def_mk KX G ?a ?l ?c ?k; (case a => k_is); (case l => k_is); (case c => k_is); (case k => k_is)))
    (case d_law_row_due => (refine' WS.def_mk KX G ?a ?l ?c ?k; (case a => k_is); (case l => k_is); (case c => k_is); (case k => k_is)))
    (case d_law_bell_right => (refine' WS.def_mk KX G ?a ?l ?c ?k; (case a => k_is); (case l => k_is); (case c => k_is); (case k => k_is)))
    (case d_law => (refine' WS.def_mk KX G ?a ?l ?c ?k; (case a => k_is); (case l => k_is); (case c => k_is); (case k => k_is)))
    (case lamd => (refine' WS.lam_mk KX G ?a ?l ?cd ?k; (case a => k_is); (case l => k_is); (case cd => k_is); (case k => k_is)))
    (case ht0 => exact KT _ (List.Mem.head _))
    (case hd0 => kernel_rfl)
    (case hn0 => kernel_rfl)
