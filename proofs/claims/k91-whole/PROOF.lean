import PyProof.Rows.All
import Wide.All
import OpenK.AllK
import Wide.FinOn
import PyProof.EqAt
import PyProof.EqKinds
import PyProof.InstEq
import KE.KFmtOwn
import KE.KOpsOwn
import HandS.ForMost
import HandS.OwnEq
import HandS.Star
import HandS.Property
import HandS.ClsMeth
import HandS.DictComp
import HandS.IsInst
import HandS.Conv
import HandS.Codes
import HandS.Style
import HandS.FStr
import HandS.SortInts
import HandS.Walk
import HandS.Defaults
import HandS.DictTup
import HandS.GenList
import HandS.HeadHook1
import HandS.HeadHook2
import KE.GoesEnum
import KE.KDictDisplayH
import HandS.TupLen
import PyProof.ReprDict
import PyProof.FString
import HandS.WordsDict
import HandS.Head0
import HandS.Head1
import HandS.Head2
import HandS.HeadEnd
import HandS.Ends
import PySem.Challenge.RW_chainmaps_k91_whole_words_and_inverses
set_option Elab.async false
-- part M1
/-! Partial one-to-one maps, words, the search with words: plain mathematics. -/
namespace CM
set_option linter.unusedVariables false
/-! ### lists -/
theorem nodup_len {α : Type} : ∀ {l u : List α}, l.Nodup → (∀ x, x ∈ l → x ∈ u) → l.length ≤ u.length
  | [], _, _, _ => Nat.zero_le _
  | a :: r, u, h, s => by
    obtain ⟨h1, h2⟩ := List.nodup_cons.mp h
    obtain ⟨p, q, e⟩ := List.append_of_mem (s a List.mem_cons_self)
    have hr : r.length ≤ (p ++ q).length := nodup_len h2 fun x hx => by
      have hxu := s x (List.mem_cons_of_mem _ hx)
      rw [e] at hxu
      rcases List.mem_append.mp hxu with z | z
      · exact List.mem_append_left _ z
      · rcases List.mem_cons.mp z with z | z
        · exact absurd (z ▸ hx) h1
        · exact List.mem_append_right _ z
    rw [e]
    simp only [List.length_cons, List.length_append] at hr ⊢
    omega
theorem nodup_len_eq {α : Type} {l u : List α} (h : l.Nodup) (k : u.Nodup) (s : ∀ x, x ∈ l ↔ x ∈ u) : l.length = u.length :=
  Nat.le_antisymm (nodup_len h fun x hx => (s x).mp hx) (nodup_len k fun x hx => (s x).mpr hx)
theorem nodup_snoc {α : Type} {l : List α} {a : α} (h : l.Nodup) (k : ¬ a ∈ l) : (l ++ [a]).Nodup := by
  rw [List.nodup_append]
  refine ⟨h, by simp, ?_⟩
  intro x hx y hy
  rw [List.mem_singleton] at hy
  rintro rfl
  exact k (hy ▸ hx)
theorem nodup_ix {α : Type} {l : List α} (h : l.Nodup) {i j : Nat} {x : α} (a : l[i]? = some x) (b : l[j]? = some x) : i = j := by
  obtain ⟨h1, e1⟩ := List.getElem?_eq_some_iff.mp a
  obtain ⟨h2, e2⟩ := List.getElem?_eq_some_iff.mp b
  exact (List.getElem_inj h).mp (e1.trans e2.symm)
theorem map_nodup {α β : Type} {f : α → β} (hf : ∀ a b, f a = f b → a = b) : ∀ {l : List α}, l.Nodup → (l.map f).Nodup
  | [], _ => List.nodup_nil
  | a :: r, h => by
    obtain ⟨h1, h2⟩ := List.nodup_cons.mp h
    rw [List.map_cons, List.nodup_cons]
    refine ⟨fun hm => ?_, map_nodup hf h2⟩
    obtain ⟨b, hb, e⟩ := List.mem_map.mp hm
    exact h1 (hf _ _ e ▸ hb)
theorem map_nodup_on {α β : Type} {f : α → β} : ∀ {l : List α}, (∀ a, a ∈ l → ∀ b, b ∈ l → f a = f b → a = b) → l.Nodup → (l.map f).Nodup
  | [], _, _ => List.nodup_nil
  | a :: r, hf, h => by
    obtain ⟨h1, h2⟩ := List.nodup_cons.mp h
    rw [List.map_cons, List.nodup_cons]
    refine ⟨fun hm => ?_, map_nodup_on (fun x hx y hy => hf x (List.mem_cons_of_mem _ hx) y (List.mem_cons_of_mem _ hy)) h2⟩
    obtain ⟨b, hb, e⟩ := List.mem_map.mp hm
    exact h1 (hf _ (List.mem_cons_of_mem _ hb) _ List.mem_cons_self e ▸ hb)
/-- two ascending lists with the same members -/
theorem asc_eq : ∀ {l u : List Nat}, l.Pairwise (· < ·) → u.Pairwise (· < ·) → (∀ x, x ∈ l ↔ x ∈ u) → l = u
  | [], [], _, _, _ => rfl
  | [], b :: r, _, _, s => by
    have := (s b).mpr List.mem_cons_self
    cases this
  | a :: r, [], _, _, s => by
    have := (s a).mp List.mem_cons_self
    cases this
  | a :: r, b :: t, h, k, s => by
    obtain ⟨h1, h2⟩ := List.pairwise_cons.mp h
    obtain ⟨k1, k2⟩ := List.pairwise_cons.mp k
    have e : a = b := by
      rcases List.mem_cons.mp ((s a).mp List.mem_cons_self) with z | z
      · exact z
      · rcases List.mem_cons.mp ((s b).mpr List.mem_cons_self) with y | y
        · exact y.symm
        · have := k1 a z
          have := h1 b y
          omega
    subst e
    rw [asc_eq h2 k2 fun x => ⟨fun hx => ?_, fun hx => ?_⟩]
    · rcases List.mem_cons.mp ((s x).mp (List.mem_cons_of_mem _ hx)) with z | z
      · have := h1 x hx
        omega
      · exact z
    · rcases List.mem_cons.mp ((s x).mpr (List.mem_cons_of_mem _ hx)) with z | z
      · have := k1 x hx
        omega
      · exact z
theorem range_asc (n : Nat) : (List.range n).Pairwise (· < ·) := List.pairwise_lt_range
theorem filter_asc {l : List Nat} (h : l.Pairwise (· < ·)) (p : Nat → Bool) : (l.filter p).Pairwise (· < ·) := h.filter p
theorem asc_nodup {l : List Nat} (h : l.Pairwise (· < ·)) : l.Nodup := h.imp fun z => Nat.ne_of_lt z
/-- an ascending list of numbers below n -/
theorem asc_filter {n : Nat} {l : List Nat} (h : l.Pairwise (· < ·)) (k : ∀ x, x ∈ l → x < n) : l = (List.range n).filter fun x => decide (x ∈ l) := by
  refine asc_eq h (filter_asc (range_asc n) _) fun x => ?_
  rw [List.mem_filter, List.mem_range, decide_eq_true_iff]
  exact ⟨fun hx => ⟨k x hx, hx⟩, fun z => z.2⟩

/-! ### partial maps -/
abbrev PF := Nat → Option Nat
def noF : PF := fun _ => none
structure WF (n : Nat) (f : PF) : Prop where
  dom : ∀ i j, f i = some j → i < n ∧ j < n
  inj : ∀ i k j, f i = some j → f k = some j → i = k
def idF (n : Nat) : PF := fun i => if i < n then some i else none
def cmp (f g : PF) : PF := fun i => (f i).bind g
def inv (n : Nat) (f : PF) : PF := fun j => (List.range n).find? fun i => decide (f i = some j)
theorem idF_some {n i j : Nat} : idF n i = some j ↔ i < n ∧ i = j := by
  unfold idF
  split
  · rename_i h
    simp [h]
  · rename_i h
    simp [h]
theorem wf_id (n : Nat) : WF n (idF n) := ⟨fun i j h => by
  obtain ⟨h, e⟩ := idF_some.mp h
  exact ⟨h, e ▸ h⟩, fun i k j h1 h2 => by
  obtain ⟨_, rfl⟩ := idF_some.mp h1
  obtain ⟨_, e⟩ := idF_some.mp h2
  exact e.symm⟩
theorem wf_no (n : Nat) : WF n noF := ⟨fun i j h => by simp [noF] at h, fun i k j h => by simp [noF] at h⟩
theorem cmp_some {f g : PF} {i k : Nat} : cmp f g i = some k ↔ ∃ j, f i = some j ∧ g j = some k := by
  unfold cmp
  cases h : f i with
  | none => simp
  | some j => simp
theorem wf_cmp {n : Nat} {f g : PF} (hf : WF n f) (hg : WF n g) : WF n (cmp f g) := ⟨fun i k h => by
  obtain ⟨j, h1, h2⟩ := cmp_some.mp h
  exact ⟨(hf.dom i j h1).1, (hg.dom j k h2).2⟩, fun i i' k h h' => by
  obtain ⟨j, h1, h2⟩ := cmp_some.mp h
  obtain ⟨j', h1', h2'⟩ := cmp_some.mp h'
  have e := hg.inj j j' k h2 h2'
  subst e
  exact hf.inj i i' j h1 h1'⟩
theorem inv_some {n : Nat} {f : PF} (hf : WF n f) {i j : Nat} : inv n f j = some i ↔ f i = some j := by
  unfold inv
  constructor
  · intro h
    have e := List.find?_some h
    exact of_decide_eq_true e
  · intro h
    have hs : ((List.range n).find? fun i => decide (f i = some j)).isSome = true := by
      rw [List.find?_isSome]
      exact ⟨i, List.mem_range.mpr (hf.dom i j h).1, decide_eq_true h⟩
    obtain ⟨k, hk⟩ := Option.isSome_iff_exists.mp hs
    have e := List.find?_some hk
    rw [hk, hf.inj k i j (of_decide_eq_true e) h]
theorem ext {f g : PF} (h : ∀ i j, f i = some j ↔ g i = some j) : f = g := by
  funext i
  cases e : f i with
  | none =>
    cases e2 : g i with
    | none => rfl
    | some j =>
      rw [(h i j).mpr e2] at e
      cases e
  | some j => exact ((h i j).mp e).symm
theorem wf_inv {n : Nat} {f : PF} (hf : WF n f) : WF n (inv n f) := ⟨fun j i h => by
  have := hf.dom i j ((inv_some hf).mp h)
  exact ⟨this.2, this.1⟩, fun j k i h1 h2 => by
  have e1 := (inv_some hf).mp h1
  rw [(inv_some hf).mp h2] at e1
  exact (Option.some.inj e1).symm⟩
theorem inv_inv {n : Nat} {f : PF} (hf : WF n f) : inv n (inv n f) = f := ext fun i j => by rw [inv_some (wf_inv hf), inv_some hf]
theorem inv_cmp {n : Nat} {f g : PF} (hf : WF n f) (hg : WF n g) : inv n (cmp f g) = cmp (inv n g) (inv n f) := ext fun k i => by
  rw [inv_some (wf_cmp hf hg), cmp_some, cmp_some]
  constructor
  · rintro ⟨j, h1, h2⟩
    exact ⟨j, (inv_some hg).mpr h2, (inv_some hf).mpr h1⟩
  · rintro ⟨j, h1, h2⟩
    exact ⟨j, (inv_some hf).mp h2, (inv_some hg).mp h1⟩
theorem inv_id (n : Nat) : inv n (idF n) = idF n := ext fun i j => by
  rw [inv_some (wf_id n), idF_some, idF_some]
  constructor
  · rintro ⟨h, rfl⟩
    exact ⟨h, rfl⟩
  · rintro ⟨h, rfl⟩
    exact ⟨h, rfl⟩
theorem inv_injective {n : Nat} {f g : PF} (hf : WF n f) (hg : WF n g) (h : inv n f = inv n g) : f = g := by
  rw [← inv_inv hf, ← inv_inv hg, h]
theorem cmp_assoc (f g h : PF) : cmp (cmp f g) h = cmp f (cmp g h) := by
  funext i
  unfold cmp
  cases f i <;> rfl
theorem cmp_id {n : Nat} {f : PF} (hf : WF n f) : cmp f (idF n) = f := ext fun i j => by
  rw [cmp_some]
  constructor
  · rintro ⟨k, h1, h2⟩
    obtain ⟨_, rfl⟩ := idF_some.mp h2
    exact h1
  · intro h
    exact ⟨j, h, idF_some.mpr ⟨(hf.dom i j h).2, rfl⟩⟩
theorem id_cmp {n : Nat} {f : PF} (hf : WF n f) : cmp (idF n) f = f := ext fun i j => by
  rw [cmp_some]
  constructor
  · rintro ⟨k, h1, h2⟩
    obtain ⟨_, rfl⟩ := idF_some.mp h1
    exact h2
  · intro h
    exact ⟨i, idF_some.mpr ⟨(hf.dom i j h).1, rfl⟩, h⟩
def Part (f g : PF) : Prop := ∀ i j, f i = some j → g i = some j
theorem part_id {n : Nat} {f : PF} (hf : WF n f) : Part (cmp f (inv n f)) (idF n) := fun i k h => by
  obtain ⟨j, h1, h2⟩ := cmp_some.mp h
  have e := (inv_some hf).mp h2
  exact idF_some.mpr ⟨(hf.dom i j h1).1, hf.inj i k j h1 e⟩

/-! ### families and words -/
def WFs (n : Nat) (fs : List PF) : Prop := ∀ f, f ∈ fs → WF n f
abbrev ltr (fs : List PF) (b : Nat) : PF := fs.getD b noF
theorem wf_ltr {n : Nat} {fs : List PF} (h : WFs n fs) (b : Nat) : WF n (ltr fs b) := by
  unfold ltr
  rw [List.getD_eq_getElem?_getD]
  cases e : fs[b]? with
  | none => exact wf_no n
  | some f => exact h f (List.mem_of_getElem? e)
def prd (n : Nat) (fs : List PF) : List Nat → PF
  | [] => idF n
  | b :: w => cmp (ltr fs b) (prd n fs w)
theorem wf_prd {n : Nat} {fs : List PF} (h : WFs n fs) : ∀ w, WF n (prd n fs w)
  | [] => wf_id n
  | b :: w => wf_cmp (wf_ltr h b) (wf_prd h w)
theorem prd_append {n : Nat} {fs : List PF} (h : WFs n fs) : ∀ u v, prd n fs (u ++ v) = cmp (prd n fs u) (prd n fs v)
  | [], v => (id_cmp (wf_prd h v)).symm
  | b :: u, v => by
    show cmp (ltr fs b) (prd n fs (u ++ v)) = cmp (cmp (ltr fs b) (prd n fs u)) (prd n fs v)
    rw [prd_append h u v, cmp_assoc]
theorem prd_one {n : Nat} {fs : List PF} (h : WFs n fs) (b : Nat) : prd n fs [b] = ltr fs b := cmp_id (wf_ltr h b)
theorem prd_snoc {n : Nat} {fs : List PF} (h : WFs n fs) (w : List Nat) (b : Nat) : prd n fs (w ++ [b]) = cmp (prd n fs w) (ltr fs b) := by
  rw [prd_append h, prd_one h]
def invs (n : Nat) (fs : List PF) : List PF := fs.map (inv n)
theorem wf_invs {n : Nat} {fs : List PF} (h : WFs n fs) : WFs n (invs n fs) := fun f hf => by
  obtain ⟨g, hg, rfl⟩ := List.mem_map.mp hf
  exact wf_inv (h g hg)
theorem inv_no (n : Nat) : inv n noF = noF := ext fun i j => by
  rw [inv_some (wf_no n)]
  simp [noF]
theorem ltr_invs {n : Nat} {fs : List PF} (b : Nat) : ltr (invs n fs) b = inv n (ltr fs b) := by
  unfold ltr invs
  rw [List.getD_eq_getElem?_getD, List.getD_eq_getElem?_getD, List.getElem?_map]
  cases fs[b]? with
  | none => exact (inv_no n).symm
  | some f => rfl
theorem invs_invs {n : Nat} {fs : List PF} (h : WFs n fs) : invs n (invs n fs) = fs := by
  unfold invs
  rw [List.map_map]
  conv => rhs; rw [← List.map_id fs]
  exact List.map_congr_left fun f hf => inv_inv (h f hf)
theorem inv_prd {n : Nat} {fs : List PF} (h : WFs n fs) : ∀ w, inv n (prd n fs w) = prd n (invs n fs) w.reverse
  | [] => inv_id n
  | b :: w => by
    show inv n (cmp (ltr fs b) (prd n fs w)) = _
    rw [inv_cmp (wf_ltr h b) (wf_prd h w), inv_prd h w, List.reverse_cons, prd_snoc (wf_invs h), ltr_invs]
end CM
-- part M2
/-! The search with words. -/
namespace CM
section
variable {α : Type} (m : Nat) (step : Nat → α → Option α)
def run : List Nat → α → Option α
  | [], x => some x
  | b :: w, x => (step b x).bind (run w)
def okw (w : List Nat) : Prop := ∀ b, b ∈ w → b < m
theorem run_append : ∀ u v x, run step (u ++ v) x = (run step u x).bind (run step v)
  | [], v, x => rfl
  | b :: u, v, x => by
    show (step b x).bind (run step (u ++ v)) = ((step b x).bind (run step u)).bind (run step v)
    cases step b x with
    | none => rfl
    | some y => exact run_append u v y
theorem run_snoc (w : List Nat) (b : Nat) (x : α) : run step (w ++ [b]) x = (run step w x).bind (step b) := by
  rw [run_append]
  cases run step w x with
  | none => rfl
  | some y =>
    show (step b y).bind (run step []) = step b y
    cases step b y <;> rfl
/-- the search: the known ones with their words, i of them worked off, of the next one the letters below a -/
structure BI (s : α) (L : List (α × List Nat)) (i a : Nat) : Prop where
  nd : (L.map Prod.fst).Nodup
  zero : L[0]? = some (s, [])
  snd : ∀ x w, (x, w) ∈ L → run step w s = some x ∧ okw m w
  cl : ∀ (j : Nat) x w, j < i → L[j]? = some (x, w) → ∀ b, b < m → ∀ y, step b x = some y → y ∈ L.map Prod.fst
  cl' : ∀ x w, L[i]? = some (x, w) → ∀ b, b < a → ∀ y, step b x = some y → y ∈ L.map Prod.fst
  srt : ∀ (j k : Nat) xj wj xk wk, j ≤ k → L[j]? = some (xj, wj) → L[k]? = some (xk, wk) → wj.length ≤ wk.length
  bnd : ∀ x w, L[i]? = some (x, w) → ∀ y v, (y, v) ∈ L → v.length ≤ w.length + 1
  min : ∀ x w, (x, w) ∈ L → ∀ v, okw m v → run step v s = some x → w.length ≤ v.length
end
section
variable {α : Type} {m : Nat} {step : Nat → α → Option α} {s : α} {L : List (α × List Nat)} {i a : Nat}
theorem mem_fst {x : α} : x ∈ L.map Prod.fst ↔ ∃ w, (x, w) ∈ L := by
  rw [List.mem_map]
  constructor
  · rintro ⟨⟨y, w⟩, h, rfl⟩
    exact ⟨w, h⟩
  · rintro ⟨w, h⟩
    exact ⟨(x, w), h, rfl⟩
theorem BI.start : BI m step s [(s, [])] 0 0 where
  nd := by simp
  zero := rfl
  snd := fun x w h => by
    rw [List.mem_singleton] at h
    cases h
    exact ⟨rfl, fun b hb => by cases hb⟩
  cl := fun j x w h => absurd h (Nat.not_lt_zero _)
  cl' := fun x w _ b h => absurd h (Nat.not_lt_zero _)
  srt := fun j k xj wj xk wk _ hj hk => by
    have e1 := List.mem_of_getElem? hj
    rw [List.mem_singleton] at e1
    cases e1
    exact Nat.zero_le _
  bnd := fun x w h y v hv => by
    rw [List.mem_singleton] at hv
    cases hv
    exact Nat.zero_le _
  min := fun x w h v _ _ => by
    rw [List.mem_singleton] at h
    cases h
    exact Nat.zero_le _
/-- whatever is reached by a word no longer than the next one's is known -/
theorem BI.known (h : BI m step s L i a) {x : α} {w : List Nat} (hx : L[i]? = some (x, w)) : ∀ (k : Nat) (v : List Nat) (y : α), v.length = k → v.length ≤ w.length → okw m v → run step v s = some y → y ∈ L.map Prod.fst := by
  intro k
  induction k with
  | zero =>
    intro v y hk hl hv hr
    have e : v = [] := List.eq_nil_of_length_eq_zero hk
    subst e
    have e2 : s = y := Option.some.inj hr
    subst e2
    exact mem_fst.mpr ⟨[], List.mem_of_getElem? h.zero⟩
  | succ k ih =>
    intro v y hk hl hv hr
    have hne : v ≠ [] := by
      intro e
      rw [e] at hk
      cases hk
    obtain ⟨u, b, rfl⟩ : ∃ u b, v = u ++ [b] := ⟨v.dropLast, v.getLast hne, (List.dropLast_concat_getLast hne).symm⟩
    rw [run_snoc] at hr
    rw [List.length_append, List.length_singleton] at hk hl
    have hu : okw m u := fun c hc => hv c (List.mem_append_left _ hc)
    have hb : b < m := hv b (List.mem_append_right _ List.mem_cons_self)
    cases e : run step u s with
    | none =>
      rw [e] at hr
      cases hr
    | some z =>
      rw [e] at hr
      have hz := ih u z (by omega) (by omega) hu e
      obtain ⟨wz, hwz⟩ := mem_fst.mp hz
      obtain ⟨j, hj⟩ := List.mem_iff_getElem?.mp hwz
      have hmin := h.min z wz hwz u hu e
      have hji : j < i := by
        rcases Nat.lt_or_ge j i with q | q
        · exact q
        · have := h.srt i j x w z wz q hx hj
          omega
      exact h.cl j z wz hji hj b hb y hr
theorem BI.add (h : BI m step s L i a) {x y : α} {w : List Nat} (hx : L[i]? = some (x, w)) (ha : a < m) (hy : step a x = some y) (hn : ¬ y ∈ L.map Prod.fst) : BI m step s (L ++ [(y, w ++ [a])]) i (a + 1) := by
  have hi : i < L.length := (List.getElem?_eq_some_iff.mp hx).1
  have old : ∀ (j : Nat) z v, (L ++ [(y, w ++ [a])])[j]? = some (z, v) → L[j]? = some (z, v) ∨ (j = L.length ∧ z = y ∧ v = w ++ [a]) := fun j z v e => by
    rcases Nat.lt_or_ge j L.length with q | q
    · left
      rw [List.getElem?_append_left q] at e
      exact e
    · right
      rw [List.getElem?_append_right q] at e
      have hj : j - L.length = 0 := by
        rcases Nat.eq_zero_or_pos (j - L.length) with z | z
        · exact z
        · rw [List.getElem?_eq_none (by simp; omega)] at e
          cases e
      rw [hj] at e
      cases e
      exact ⟨by omega, rfl, rfl⟩
  have mem : ∀ z v, (z, v) ∈ L ++ [(y, w ++ [a])] → (z, v) ∈ L ∨ (z = y ∧ v = w ++ [a]) := fun z v e => by
    rcases List.mem_append.mp e with q | q
    · exact .inl q
    · rw [List.mem_singleton] at q
      cases q
      exact .inr ⟨rfl, rfl⟩
  have up : ∀ z, z ∈ L.map Prod.fst → z ∈ (L ++ [(y, w ++ [a])]).map Prod.fst := fun z hz => by
    rw [List.map_append]
    exact List.mem_append_left _ hz
  have hxi : (L ++ [(y, w ++ [a])])[i]? = some (x, w) := by rw [List.getElem?_append_left hi]; exact hx
  obtain ⟨hrun, hokw⟩ := h.snd x w (List.mem_of_getElem? hx)
  have hry : run step (w ++ [a]) s = some y := by
    rw [run_snoc, hrun]
    exact hy
  have hoy : okw m (w ++ [a]) := fun b hb => by
    rcases List.mem_append.mp hb with q | q
    · exact hokw b q
    · rw [List.mem_singleton] at q
      rw [q]
      exact ha
  have hlen : (w ++ [a]).length = w.length + 1 := by simp
  refine ⟨?_, ?_, ?_, ?_, ?_, ?_, ?_, ?_⟩
  · rw [List.map_append]
    exact nodup_snoc h.nd hn
  · rw [List.getElem?_append_left (by omega)]
    exact h.zero
  · intro z v hz
    rcases mem z v hz with q | ⟨rfl, rfl⟩
    · exact h.snd z v q
    · exact ⟨hry, hoy⟩
  · intro j z v hj hz b hb u hu
    rcases old j z v hz with q | ⟨q, _, _⟩
    · exact up u (h.cl j z v hj q b hb u hu)
    · omega
  · intro z v hz b hb u hu
    rw [hxi] at hz
    cases hz
    rcases Nat.lt_or_ge b a with q | q
    · exact up u (h.cl' x w hx b q u hu)
    · have e : b = a := by omega
      subst e
      rw [hy] at hu
      cases hu
      rw [List.map_append]
      exact List.mem_append_right _ List.mem_cons_self
  · intro j k xj wj xk wk hjk hj hk
    rcases old j xj wj hj with q | ⟨q, _, q2⟩
    · rcases old k xk wk hk with r | ⟨r, _, r2⟩
      · exact h.srt j k xj wj xk wk hjk q r
      · rw [r2, hlen]
        exact h.bnd x w hx xj wj (List.mem_of_getElem? q)
    · rcases old k xk wk hk with r | ⟨r, _, r2⟩
      · have := (List.getElem?_eq_some_iff.mp r).1
        omega
      · rw [q2, r2]
        exact Nat.le_refl _
  · intro z v hz u t hu
    rw [hxi] at hz
    cases hz
    rcases mem u t hu with q | ⟨_, q⟩
    · exact h.bnd x w hx u t q
    · rw [q, hlen]
      exact Nat.le_refl _
  · intro z v hz u hu hr
    rcases mem z v hz with q | ⟨q1, q2⟩
    · exact h.min z v q u hu hr
    · subst q1 q2
      rw [hlen]
      rcases Nat.lt_or_ge w.length u.length with q | q
      · exact q
      · exact absurd (h.known hx u.length u z rfl q hu hr) hn
theorem BI.skip (h : BI m step s L i a) {x : α} {w : List Nat} (hx : L[i]? = some (x, w)) (hy : ∀ y, step a x = some y → y ∈ L.map Prod.fst) : BI m step s L i (a + 1) := by
  refine { h with cl' := ?_ }
  intro z v hz b hb u hu
  rcases Nat.lt_or_ge b a with q | q
  · exact h.cl' z v hz b q u hu
  · have e : b = a := by omega
    subst e
    rw [hx] at hz
    cases hz
    exact hy u hu
theorem BI.next (h : BI m step s L i m) {x : α} {w : List Nat} (hx : L[i]? = some (x, w)) : BI m step s L (i + 1) 0 := by
  refine { h with cl := ?_, cl' := ?_, bnd := ?_ }
  · intro j z v hj hz b hb u hu
    rcases Nat.lt_or_ge j i with q | q
    · exact h.cl j z v q hz b hb u hu
    · have e : j = i := by omega
      subst e
      exact h.cl' z v hz b hb u hu
  · intro z v _ b hb
    exact absurd hb (Nat.not_lt_zero _)
  · intro z v hz u t hu
    have h1 := h.bnd x w hx u t hu
    have h2 := h.srt i (i + 1) x w z v (Nat.le_succ _) hx hz
    omega
theorem BI.words (h : BI m step s L i a) {x : α} {w : List Nat} (hx : (x, w) ∈ L) {v : List Nat} (hv : (x, v) ∈ L) : w = v := by
  obtain ⟨j, hj⟩ := List.mem_iff_getElem?.mp hx
  obtain ⟨k, hk⟩ := List.mem_iff_getElem?.mp hv
  have e1 : (L.map Prod.fst)[j]? = some x := by rw [List.getElem?_map, hj]; rfl
  have e2 : (L.map Prod.fst)[k]? = some x := by rw [List.getElem?_map, hk]; rfl
  have e := nodup_ix h.nd e1 e2
  subst e
  rw [hj] at hk
  cases hk
  rfl
/-- at the end: what words reach is known -/
theorem BI.full (h : BI m step s L L.length a) : ∀ (v : List Nat) (y : α), okw m v → run step v s = some y → y ∈ L.map Prod.fst := by
  intro v
  have main : ∀ (k : Nat) (v : List Nat) (y : α), v.length = k → okw m v → run step v s = some y → y ∈ L.map Prod.fst := by
    intro k
    induction k with
    | zero =>
      intro v y hk hv hr
      have e : v = [] := List.eq_nil_of_length_eq_zero hk
      subst e
      have e2 : s = y := Option.some.inj hr
      subst e2
      exact mem_fst.mpr ⟨[], List.mem_of_getElem? h.zero⟩
    | succ k ih =>
      intro v y hk hv hr
      have hne : v ≠ [] := by
        intro e
        rw [e] at hk
        cases hk
      obtain ⟨u, b, rfl⟩ : ∃ u b, v = u ++ [b] := ⟨v.dropLast, v.getLast hne, (List.dropLast_concat_getLast hne).symm⟩
      rw [run_snoc] at hr
      rw [List.length_append, List.length_singleton] at hk
      cases e : run step u s with
      | none =>
        rw [e] at hr
        cases hr
      | some z =>
        rw [e] at hr
        obtain ⟨wz, hwz⟩ := mem_fst.mp (ih u z (by omega) (fun c hc => hv c (List.mem_append_left _ hc)) e)
        obtain ⟨j, hj⟩ := List.mem_iff_getElem?.mp hwz
        exact h.cl j z wz (List.getElem?_eq_some_iff.mp hj).1 hj b (hv b (List.mem_append_right _ List.mem_cons_self)) y hr
  exact fun y => main v.length v y rfl
theorem BI.reach (h : BI m step s L L.length a) (y : α) : y ∈ L.map Prod.fst ↔ ∃ v, okw m v ∧ run step v s = some y := by
  constructor
  · intro hy
    obtain ⟨w, hw⟩ := mem_fst.mp hy
    obtain ⟨h1, h2⟩ := h.snd y w hw
    exact ⟨w, h2, h1⟩
  · rintro ⟨v, hv, hr⟩
    exact h.full v y hv hr
theorem BI.closed (h : BI m step s L L.length a) {x y : α} (hx : x ∈ L.map Prod.fst) {b : Nat} (hb : b < m) (hy : step b x = some y) : y ∈ L.map Prod.fst := by
  obtain ⟨w, hw⟩ := mem_fst.mp hx
  obtain ⟨j, hj⟩ := List.mem_iff_getElem?.mp hw
  exact h.cl j x w (List.getElem?_eq_some_iff.mp hj).1 hj b hb y hy
end
end CM
-- part M3
/-! Elements, maps, sets of places under words; the laws. -/
namespace CM
set_option linter.unusedVariables false
/-! ### elements -/
def stepE (fs : List PF) : Nat → Nat → Option Nat := fun b x => ltr fs b x
theorem runE {n : Nat} {fs : List PF} (h : WFs n fs) : ∀ (w : List Nat) (x : Nat), x < n → run (stepE fs) w x = prd n fs w x
  | [], x, hx => (idF_some.mpr ⟨hx, rfl⟩).symm
  | b :: w, x, hx => by
    show (ltr fs b x).bind (run (stepE fs) w) = (ltr fs b x).bind (prd n fs w)
    cases e : ltr fs b x with
    | none => rfl
    | some y => exact runE h w y ((wf_ltr h b).dom x y e).2
/-- words lead from x to y -/
def Rch (n : Nat) (fs : List PF) (x y : Nat) : Prop := ∃ v, okw fs.length v ∧ prd n fs v x = some y
/-- what path gives -/
def PathOut (n : Nat) (fs : List PF) (x y : Nat) : Option (List Nat) → Prop
  | none => ¬ Rch n fs x y
  | some w => okw fs.length w ∧ prd n fs w x = some y ∧ ∀ v, okw fs.length v → prd n fs v x = some y → w.length ≤ v.length
theorem okw_rev {m : Nat} {w : List Nat} (h : okw m w) : okw m w.reverse := fun b hb => h b (List.mem_reverse.mp hb)
theorem len_invs (n : Nat) (fs : List PF) : (invs n fs).length = fs.length := List.length_map ..
theorem prd_rev {n : Nat} {fs : List PF} (h : WFs n fs) {v : List Nat} {x y : Nat} : prd n fs v x = some y ↔ prd n (invs n fs) v.reverse y = some x := by
  rw [← inv_prd h v, inv_some (wf_prd h v)]
theorem rch_rev {n : Nat} {fs : List PF} (h : WFs n fs) {x y : Nat} : Rch n fs x y ↔ Rch n (invs n fs) y x := by
  constructor
  · rintro ⟨v, h1, h2⟩
    exact ⟨v.reverse, by rw [len_invs]; exact okw_rev h1, (prd_rev h).mp h2⟩
  · rintro ⟨v, h1, h2⟩
    rw [len_invs] at h1
    refine ⟨v.reverse, okw_rev h1, (prd_rev h).mpr ?_⟩
    rw [List.reverse_reverse]
    exact h2
theorem path_rev {n : Nat} {fs : List PF} (h : WFs n fs) {x y : Nat} {o o' : Option (List Nat)} (p : PathOut n fs x y o) (q : PathOut n (invs n fs) y x o') : o.map List.length = o'.map List.length := by
  cases o with
  | none =>
    cases o' with
    | none => rfl
    | some w' => exact absurd ((rch_rev h).mpr ⟨w', q.1, q.2.1⟩) p
  | some w =>
    cases o' with
    | none => exact absurd ((rch_rev h).mp ⟨w, p.1, p.2.1⟩) q
    | some w' =>
      obtain ⟨p1, p2, p3⟩ := p
      obtain ⟨q1, q2, q3⟩ := q
      have a1 := q3 w.reverse (by rw [len_invs]; exact okw_rev p1) ((prd_rev h).mp p2)
      have a2 := p3 w'.reverse (by rw [len_invs] at q1; exact okw_rev q1) ((prd_rev h).mpr (by rw [List.reverse_reverse]; exact q2))
      rw [List.length_reverse] at a1 a2
      show some w.length = some w'.length
      rw [Nat.le_antisymm a2 a1]
theorem bi_path {n : Nat} {fs : List PF} (h : WFs n fs) {x : Nat} (hx : x < n) {L : List (Nat × List Nat)} {a : Nat} (b : BI fs.length (stepE fs) x L L.length a) {y : Nat} :
    (∀ w, (y, w) ∈ L → PathOut n fs x y (some w)) ∧ (y ∉ L.map Prod.fst → PathOut n fs x y none) := by
  refine ⟨fun w hw => ?_, fun hn => ?_⟩
  · obtain ⟨h1, h2⟩ := b.snd y w hw
    rw [runE h w x hx] at h1
    refine ⟨h2, h1, fun v hv hr => b.min y w hw v hv ?_⟩
    rw [runE h v x hx]
    exact hr
  · rintro ⟨v, hv, hr⟩
    refine hn (b.full v y hv ?_)
    rw [runE h v x hx]
    exact hr
theorem bi_rch {n : Nat} {fs : List PF} (h : WFs n fs) {x : Nat} (hx : x < n) {L : List (Nat × List Nat)} {a : Nat} (b : BI fs.length (stepE fs) x L L.length a) (y : Nat) : y ∈ L.map Prod.fst ↔ Rch n fs x y := by
  rw [b.reach]
  constructor
  · rintro ⟨v, hv, hr⟩
    exact ⟨v, hv, by rw [← runE h v x hx]; exact hr⟩
  · rintro ⟨v, hv, hr⟩
    exact ⟨v, hv, by rw [runE h v x hx]; exact hr⟩
noncomputable def rchB (n : Nat) (fs : List PF) (x y : Nat) : Bool := @decide (Rch n fs x y) (Classical.propDecidable _)
theorem rchB_iff {n : Nat} {fs : List PF} {x y : Nat} : rchB n fs x y = true ↔ Rch n fs x y := by
  unfold rchB
  exact @decide_eq_true_iff _ (Classical.propDecidable _)
noncomputable def rchL (n : Nat) (fs : List PF) (x : Nat) : List Nat := (List.range n).filter fun y => rchB n fs x y
theorem rchB_rev {n : Nat} {fs : List PF} (h : WFs n fs) (x y : Nat) : rchB n fs x y = rchB n (invs n fs) y x := by
  rw [Bool.eq_iff_iff, rchB_iff, rchB_iff, rch_rev h]
/-- reached backward -/
theorem rchL_rev {n : Nat} {fs : List PF} (h : WFs n fs) {x : Nat} (hx : x < n) : rchL n fs x = (List.range n).filter fun g => decide (x ∈ rchL n (invs n fs) g) := by
  unfold rchL
  refine List.filter_congr fun y hy => ?_
  rw [Bool.eq_iff_iff, decide_eq_true_iff, List.mem_filter, List.mem_range, rchB_rev h]
  exact ⟨fun z => ⟨hx, z⟩, fun z => z.2⟩

/-! ### classes -/
def orbStep (n : Nat) (R : Nat → Nat → Bool) (found : List (List Nat)) (e : Nat) : List (List Nat) :=
  if found.any (fun o => decide (e ∈ o)) = true then found else found ++ [(List.range n).filter (R e)]
def orbs (n : Nat) (R : Nat → Nat → Bool) : List (List Nat) := (List.range n).foldl (orbStep n R) []
/-- the letters of one family are words of the other -/
def Sub (n : Nat) (fs gs : List PF) : Prop := ∀ b, b < gs.length → ∃ v, okw fs.length v ∧ ltr gs b = prd n fs v
theorem sub_words {n : Nat} {fs gs : List PF} (h : WFs n fs) (s : Sub n fs gs) : ∀ w, okw gs.length w → ∃ v, okw fs.length v ∧ prd n gs w = prd n fs v
  | [], _ => ⟨[], (fun b hb => (nomatch hb)), rfl⟩
  | b :: w, hw => by
    obtain ⟨v1, h1, e1⟩ := s b (hw b List.mem_cons_self)
    obtain ⟨v2, h2, e2⟩ := sub_words h s w fun c hc => hw c (List.mem_cons_of_mem _ hc)
    refine ⟨v1 ++ v2, fun c hc => (List.mem_append.mp hc).elim (h1 c) (h2 c), ?_⟩
    show cmp (ltr gs b) (prd n gs w) = _
    rw [prd_append h, e1, e2]
theorem sub_rch {n : Nat} {fs gs : List PF} (h : WFs n fs) (s : Sub n fs gs) {x y : Nat} (r : Rch n gs x y) : Rch n fs x y := by
  obtain ⟨w, hw, e⟩ := r
  obtain ⟨v, hv, e2⟩ := sub_words h s w hw
  exact ⟨v, hv, by rw [← e2]; exact e⟩
theorem sub_rchB {n : Nat} {fs gs : List PF} (h : WFs n fs) (k : WFs n gs) (s : Sub n fs gs) (t : Sub n gs fs) (x y : Nat) : rchB n fs x y = rchB n gs x y := by
  rw [Bool.eq_iff_iff, rchB_iff, rchB_iff]
  exact ⟨sub_rch k t, sub_rch h s⟩
theorem sub_of_mem {n : Nat} {fs gs : List PF} (h : WFs n fs) (s : ∀ g, g ∈ gs → ∃ v, okw fs.length v ∧ g = prd n fs v) : Sub n fs gs := fun b hb => by
  have e : ltr gs b = gs[b] := by
    unfold ltr
    rw [List.getD_eq_getElem?_getD, List.getElem?_eq_getElem hb]
    rfl
  rw [e]
  exact s _ (List.getElem_mem hb)
theorem word_of_mem {n : Nat} {fs : List PF} (h : WFs n fs) {f : PF} (hf : f ∈ fs) : ∃ v, okw fs.length v ∧ f = prd n fs v := by
  obtain ⟨b, hb⟩ := List.mem_iff_getElem?.mp hf
  have hl := (List.getElem?_eq_some_iff.mp hb).1
  refine ⟨[b], fun c hc => by rw [List.mem_singleton] at hc; rw [hc]; exact hl, ?_⟩
  rw [prd_one h]
  unfold ltr
  rw [List.getD_eq_getElem?_getD, hb]
  rfl
/-- the same maps in another order (and again) -/
theorem sub_perm {n : Nat} {fs gs : List PF} (h : WFs n fs) (s : ∀ g, g ∈ gs → g ∈ fs) : Sub n fs gs := sub_of_mem h fun g hg => word_of_mem h (s g hg)
abbrev both (n : Nat) (fs : List PF) : List PF := fs ++ invs n fs
theorem wf_both {n : Nat} {fs : List PF} (h : WFs n fs) : WFs n (both n fs) := fun f hf => (List.mem_append.mp hf).elim (h f) (wf_invs h f)
/-- the classes of a family and of the inverses -/
theorem orbs_inv {n : Nat} {fs : List PF} (h : WFs n fs) : orbs n (rchB n (both n fs)) = orbs n (rchB n (both n (invs n fs))) := by
  have e : rchB n (both n fs) = rchB n (both n (invs n fs)) := by
    funext x y
    refine sub_rchB (wf_both h) (wf_both (wf_invs h)) (sub_perm (wf_both h) fun g hg => ?_) (sub_perm (wf_both (wf_invs h)) fun g hg => ?_) x y
    · unfold both at hg
      rw [invs_invs h] at hg
      exact List.mem_append.mpr (List.mem_append.mp hg).symm
    · unfold both
      rw [invs_invs h]
      exact List.mem_append.mpr (List.mem_append.mp hg).symm
  rw [e]
/-! ### one more generated map -/
theorem wf_wide {n : Nat} {fs : List PF} (h : WFs n fs) (w : List Nat) : WFs n (fs ++ [prd n fs w]) := fun f hf => by
  rcases List.mem_append.mp hf with q | q
  · exact h f q
  · rw [List.mem_singleton.mp q]
    exact wf_prd h w
theorem wide_sub {n : Nat} {fs : List PF} (h : WFs n fs) {w : List Nat} (hw : okw fs.length w) : Sub n fs (fs ++ [prd n fs w]) := sub_of_mem h fun g hg => by
  rcases List.mem_append.mp hg with q | q
  · exact word_of_mem h q
  · rw [List.mem_singleton.mp q]
    exact ⟨w, hw, rfl⟩
theorem sub_wide {n : Nat} {fs : List PF} (h : WFs n fs) (w : List Nat) : Sub n (fs ++ [prd n fs w]) fs := sub_perm (wf_wide h w) fun g hg => List.mem_append_left _ hg
theorem invs_append (n : Nat) (fs gs : List PF) : invs n (fs ++ gs) = invs n fs ++ invs n gs := List.map_append
theorem prd_left {n : Nat} {fs gs : List PF} : ∀ w, okw fs.length w → prd n (fs ++ gs) w = prd n fs w
  | [], _ => rfl
  | b :: w, h => by
    have hb := h b List.mem_cons_self
    show cmp (ltr (fs ++ gs) b) (prd n (fs ++ gs) w) = cmp (ltr fs b) (prd n fs w)
    rw [prd_left w fun c hc => h c (List.mem_cons_of_mem _ hc)]
    congr 1
    unfold ltr
    rw [List.getD_eq_getElem?_getD, List.getD_eq_getElem?_getD, List.getElem?_append_left hb]
theorem prd_right {n : Nat} {fs gs : List PF} : ∀ w, okw gs.length w → ∃ v, okw (fs ++ gs).length v ∧ prd n (fs ++ gs) v = prd n gs w
  | [], _ => ⟨[], (fun b hb => (nomatch hb)), rfl⟩
  | b :: w, h => by
    obtain ⟨v, hv, e⟩ := prd_right (fs := fs) w fun c hc => h c (List.mem_cons_of_mem _ hc)
    refine ⟨(fs.length + b) :: v, fun c hc => ?_, ?_⟩
    · rcases List.mem_cons.mp hc with q | q
      · have := h b List.mem_cons_self
        rw [q, List.length_append]
        omega
      · exact hv c q
    · show cmp (ltr (fs ++ gs) (fs.length + b)) (prd n (fs ++ gs) v) = cmp (ltr gs b) (prd n gs w)
      rw [e]
      congr 1
      unfold ltr
      rw [List.getD_eq_getElem?_getD, List.getD_eq_getElem?_getD, List.getElem?_append_right (Nat.le_add_right _ _), Nat.add_sub_cancel_left]
theorem orbs_wide {n : Nat} {fs : List PF} (h : WFs n fs) {w : List Nat} (hw : okw fs.length w) : orbs n (rchB n (both n fs)) = orbs n (rchB n (both n (fs ++ [prd n fs w]))) := by
  have e : rchB n (both n fs) = rchB n (both n (fs ++ [prd n fs w])) := by
    funext x y
    have hb := wf_both h
    have hwd := wf_both (wf_wide h w)
    have up : ∀ v, okw fs.length v → okw (both n fs).length v := fun v hv c hc => by
      have := hv c hc
      rw [List.length_append]
      omega
    refine sub_rchB hb hwd (sub_of_mem hb fun g hg => ?_) (sub_perm hwd fun g hg => ?_) x y
    · rcases List.mem_append.mp hg with q | q
      · rcases List.mem_append.mp q with r | r
        · exact word_of_mem hb (List.mem_append_left _ r)
        · rw [List.mem_singleton.mp r]
          exact ⟨w, up w hw, (prd_left w hw).symm⟩
      · rw [invs_append] at q
        rcases List.mem_append.mp q with r | r
        · exact word_of_mem hb (List.mem_append_right _ r)
        · have r' : g = inv n (prd n fs w) := List.mem_singleton.mp r
          rw [r', inv_prd h w]
          obtain ⟨v, hv, e⟩ := prd_right (n := n) (fs := fs) (gs := invs n fs) w.reverse (by rw [len_invs]; exact okw_rev hw)
          exact ⟨v, hv, e.symm⟩
    · rcases List.mem_append.mp hg with q | q
      · exact List.mem_append_left _ (List.mem_append_left _ q)
      · refine List.mem_append_right _ ?_
        rw [invs_append]
        exact List.mem_append_left _ q
  rw [e]
theorem rch_wide {n : Nat} {fs : List PF} (h : WFs n fs) {w : List Nat} (hw : okw fs.length w) (x : Nat) : rchL n fs x = rchL n (fs ++ [prd n fs w]) x := by
  unfold rchL
  exact List.filter_congr fun y _ => sub_rchB h (wf_wide h w) (wide_sub h hw) (sub_wide h w) x y

/-! ### generated maps -/
def stepM (fs : List PF) : Nat → PF → Option PF := fun b f => some (cmp f (ltr fs b))
theorem runM {n : Nat} {fs : List PF} (h : WFs n fs) : ∀ (w : List Nat) (f : PF), WF n f → run (stepM fs) w f = some (cmp f (prd n fs w))
  | [], f, hf => by
    show some f = some (cmp f (idF n))
    rw [cmp_id hf]
  | b :: w, f, hf => by
    show run (stepM fs) w (cmp f (ltr fs b)) = some (cmp f (cmp (ltr fs b) (prd n fs w)))
    rw [runM h w _ (wf_cmp hf (wf_ltr h b)), cmp_assoc]
theorem runM_id {n : Nat} {fs : List PF} (h : WFs n fs) (w : List Nat) : run (stepM fs) w (idF n) = some (prd n fs w) := by
  rw [runM h w _ (wf_id n), id_cmp (wf_prd h w)]
/-- what generated yields -/
def GenOut (n : Nat) (fs : List PF) (L : List (PF × List Nat)) : Prop := ∃ a, BI fs.length (stepM fs) (idF n) L L.length a
theorem bi_word {n : Nat} {fs : List PF} (h : WFs n fs) {L : List (PF × List Nat)} {i a : Nat} (g : BI fs.length (stepM fs) (idF n) L i a) {f : PF} {w : List Nat} (hw : (f, w) ∈ L) : okw fs.length w ∧ f = prd n fs w := by
  obtain ⟨h1, h2⟩ := g.snd f w hw
  rw [runM_id h] at h1
  exact ⟨h2, (Option.some.inj h1).symm⟩
theorem gen_word {n : Nat} {fs : List PF} (h : WFs n fs) {L : List (PF × List Nat)} (g : GenOut n fs L) {f : PF} {w : List Nat} (hw : (f, w) ∈ L) : okw fs.length w ∧ f = prd n fs w := by
  obtain ⟨a, g⟩ := g
  exact bi_word h g hw
theorem gen_mem {n : Nat} {fs : List PF} (h : WFs n fs) {L : List (PF × List Nat)} (g : GenOut n fs L) (f : PF) : f ∈ L.map Prod.fst ↔ ∃ w, okw fs.length w ∧ f = prd n fs w := by
  obtain ⟨a, g⟩ := g
  rw [g.reach]
  constructor
  · rintro ⟨w, hw, e⟩
    rw [runM_id h] at e
    exact ⟨w, hw, (Option.some.inj e).symm⟩
  · rintro ⟨w, hw, e⟩
    exact ⟨w, hw, by rw [runM_id h, e]⟩
theorem gen_nodup {n : Nat} {fs : List PF} {L : List (PF × List Nat)} (g : GenOut n fs L) : (L.map Prod.fst).Nodup := by
  obtain ⟨a, g⟩ := g
  exact g.nd
theorem gen_wf {n : Nat} {fs : List PF} (h : WFs n fs) {L : List (PF × List Nat)} (g : GenOut n fs L) {f : PF} (hf : f ∈ L.map Prod.fst) : WF n f := by
  obtain ⟨w, _, rfl⟩ := (gen_mem h g f).mp hf
  exact wf_prd h w
/-- closed under products -/
theorem gen_mul {n : Nat} {fs : List PF} (h : WFs n fs) {L : List (PF × List Nat)} (g : GenOut n fs L) {e f : PF} (he : e ∈ L.map Prod.fst) (hf : f ∈ L.map Prod.fst) : cmp e f ∈ L.map Prod.fst := by
  obtain ⟨u, hu, rfl⟩ := (gen_mem h g e).mp he
  obtain ⟨v, hv, rfl⟩ := (gen_mem h g f).mp hf
  exact (gen_mem h g _).mpr ⟨u ++ v, fun c hc => (List.mem_append.mp hc).elim (hu c) (hv c), (prd_append h u v).symm⟩
theorem gen_sub {n : Nat} {fs gs : List PF} (h : WFs n fs) (k : WFs n gs) (s : Sub n fs gs) {L M : List (PF × List Nat)} (g : GenOut n fs L) (g' : GenOut n gs M) {f : PF} (hf : f ∈ M.map Prod.fst) : f ∈ L.map Prod.fst := by
  obtain ⟨w, hw, rfl⟩ := (gen_mem k g' f).mp hf
  obtain ⟨v, hv, e⟩ := sub_words h s w hw
  exact (gen_mem h g _).mpr ⟨v, hv, e⟩
/-- one more generated map: the same maps -/
theorem gen_wide {n : Nat} {fs : List PF} (h : WFs n fs) {w : List Nat} (hw : okw fs.length w) {L M : List (PF × List Nat)} (g : GenOut n fs L) (g' : GenOut n (fs ++ [prd n fs w]) M) :
    M.length = L.length ∧ ∀ f, f ∈ M.map Prod.fst → f ∈ L.map Prod.fst := by
  have k := wf_wide h w
  refine ⟨?_, fun f hf => gen_sub h k (wide_sub h hw) g g' hf⟩
  have e := nodup_len_eq (gen_nodup g') (gen_nodup g) fun f => ⟨fun hf => gen_sub h k (wide_sub h hw) g g' hf, fun hf => gen_sub k h (sub_wide h w) g' g hf⟩
  rw [List.length_map, List.length_map] at e
  exact e
/-- as many for the inverses -/
theorem gen_inv {n : Nat} {fs : List PF} (h : WFs n fs) {L M : List (PF × List Nat)} (g : GenOut n fs L) (g' : GenOut n (invs n fs) M) : L.length = M.length := by
  have one : ∀ {fs : List PF} {L M : List (PF × List Nat)}, WFs n fs → GenOut n fs L → GenOut n (invs n fs) M → L.length ≤ M.length := by
    intro fs L M h g g'
    have nd : ((L.map Prod.fst).map (inv n)).Nodup := map_nodup_on (fun a ha b hb e => inv_injective (gen_wf h g ha) (gen_wf h g hb) e) (gen_nodup g)
    have q := nodup_len nd (u := M.map Prod.fst) fun x hx => by
      obtain ⟨f, hf, rfl⟩ := List.mem_map.mp hx
      obtain ⟨w, hw, rfl⟩ := (gen_mem h g f).mp hf
      exact (gen_mem (wf_invs h) g' _).mpr ⟨w.reverse, by rw [len_invs]; exact okw_rev hw, inv_prd h w⟩
    rw [List.length_map, List.length_map, List.length_map] at q
    exact q
  refine Nat.le_antisymm (one h g g') (one (wf_invs h) g' ?_)
  rw [invs_invs h]
  exact g

/-! ### sets of places -/
structure Asc (n : Nat) (S : List Nat) : Prop where
  asc : S.Pairwise (· < ·)
  lt : ∀ x, x ∈ S → x < n
def img (n : Nat) (f : PF) (S : List Nat) : List Nat := (List.range n).filter fun j => S.any fun i => decide (f i = some j)
theorem mem_img {n : Nat} {f : PF} {S : List Nat} {j : Nat} : j ∈ img n f S ↔ j < n ∧ ∃ i, i ∈ S ∧ f i = some j := by
  unfold img
  rw [List.mem_filter, List.mem_range, List.any_eq_true]
  simp only [decide_eq_true_iff]
theorem asc_img (n : Nat) (f : PF) (S : List Nat) : Asc n (img n f S) := ⟨filter_asc (range_asc n) _, fun x hx => (mem_img.mp hx).1⟩
theorem asc_range (n : Nat) : Asc n (List.range n) := ⟨range_asc n, fun x hx => List.mem_range.mp hx⟩
theorem asc_ext {n : Nat} {S T : List Nat} (h : Asc n S) (k : Asc n T) (s : ∀ x, x ∈ S ↔ x ∈ T) : S = T := asc_eq h.asc k.asc s
theorem img_id {n : Nat} {S : List Nat} (h : Asc n S) : img n (idF n) S = S := asc_ext (asc_img n _ S) h fun x => by
  rw [mem_img]
  constructor
  · rintro ⟨_, i, hi, e⟩
    obtain ⟨_, rfl⟩ := idF_some.mp e
    exact hi
  · intro hx
    exact ⟨h.lt x hx, x, hx, idF_some.mpr ⟨h.lt x hx, rfl⟩⟩
theorem img_img {n : Nat} {f g : PF} (hf : WF n f) (S : List Nat) : img n g (img n f S) = img n (cmp f g) S := asc_ext (asc_img n _ _) (asc_img n _ _) fun x => by
  rw [mem_img, mem_img]
  constructor
  · rintro ⟨hx, j, hj, e⟩
    obtain ⟨_, i, hi, e2⟩ := mem_img.mp hj
    exact ⟨hx, i, hi, cmp_some.mpr ⟨j, e2, e⟩⟩
  · rintro ⟨hx, i, hi, e⟩
    obtain ⟨j, e1, e2⟩ := cmp_some.mp e
    exact ⟨hx, j, mem_img.mpr ⟨(hf.dom i j e1).2, i, hi, e1⟩, e2⟩
def stepS (n : Nat) (fs : List PF) : Nat → List Nat → Option (List Nat) := fun b S => some (img n (ltr fs b) S)
theorem runS {n : Nat} {fs : List PF} (h : WFs n fs) : ∀ (w : List Nat) (S : List Nat), Asc n S → run (stepS n fs) w S = some (img n (prd n fs w) S)
  | [], S, hS => by
    show some S = some (img n (idF n) S)
    rw [img_id hS]
  | b :: w, S, hS => by
    show run (stepS n fs) w (img n (ltr fs b) S) = some (img n (cmp (ltr fs b) (prd n fs w)) S)
    rw [runS h w _ (asc_img n _ _), img_img (wf_ltr h b)]
theorem img_nil {n : Nat} {f : PF} (hf : WF n f) : img n f (List.range n) = [] ↔ f = noF := by
  constructor
  · intro e
    refine ext fun i j => ⟨fun q => ?_, fun q => by simp [noF] at q⟩
    have : j ∈ img n f (List.range n) := mem_img.mpr ⟨(hf.dom i j q).2, i, List.mem_range.mpr (hf.dom i j q).1, q⟩
    rw [e] at this
    cases this
  · rintro rfl
    cases e : img n noF (List.range n) with
    | nil => rfl
    | cons a r =>
      have : a ∈ img n noF (List.range n) := by rw [e]; exact List.mem_cons_self
      obtain ⟨_, i, _, q⟩ := mem_img.mp this
      simp [noF] at q
/-- what the search over sets ends with -/
def SrchOut (n : Nat) (fs : List PF) (L : List (List Nat × List Nat)) : Prop := ∃ i a, BI fs.length (stepS n fs) (List.range n) L i a ∧ ([] ∈ L.map Prod.fst ∨ i = L.length)
def Loses (n : Nat) (fs : List PF) : Prop := ∃ v, okw fs.length v ∧ prd n fs v = noF
def LoseOut (n : Nat) (fs : List PF) : Option (List Nat) → Prop
  | none => ¬ Loses n fs
  | some w => okw fs.length w ∧ prd n fs w = noF ∧ ∀ v, okw fs.length v → prd n fs v = noF → w.length ≤ v.length
theorem run_nil {n : Nat} {fs : List PF} (h : WFs n fs) {v : List Nat} : run (stepS n fs) v (List.range n) = some [] ↔ prd n fs v = noF := by
  rw [runS h v _ (asc_range n)]
  constructor
  · intro e
    exact (img_nil (wf_prd h v)).mp (Option.some.inj e)
  · intro e
    rw [(img_nil (wf_prd h v)).mpr e]
theorem srch_lose {n : Nat} {fs : List PF} (h : WFs n fs) {L : List (List Nat × List Nat)} (g : SrchOut n fs L) :
    (∀ w, ([], w) ∈ L → LoseOut n fs (some w)) ∧ ([] ∉ L.map Prod.fst → LoseOut n fs none) := by
  obtain ⟨i, a, b, hE⟩ := g
  refine ⟨fun w hw => ?_, fun hn => ?_⟩
  · obtain ⟨h1, h2⟩ := b.snd [] w hw
    exact ⟨h2, (run_nil h).mp h1, fun v hv e => b.min [] w hw v hv ((run_nil h).mpr e)⟩
  · rintro ⟨v, hv, e⟩
    rcases hE with q | q
    · exact hn q
    · subst q
      exact hn (b.full v [] hv ((run_nil h).mpr e))
theorem srch_loses {n : Nat} {fs : List PF} (h : WFs n fs) {L : List (List Nat × List Nat)} (g : SrchOut n fs L) : [] ∈ L.map Prod.fst ↔ Loses n fs := by
  constructor
  · intro hm
    obtain ⟨w, hw⟩ := mem_fst.mp hm
    obtain ⟨h1, h2, _⟩ := (srch_lose h g).1 w hw
    exact ⟨w, h1, h2⟩
  · intro hl
    by_cases hm : [] ∈ L.map Prod.fst
    · exact hm
    · exact absurd hl ((srch_lose h g).2 hm)
theorem loses_rev {n : Nat} {fs : List PF} (h : WFs n fs) {v : List Nat} : prd n fs v = noF ↔ prd n (invs n fs) v.reverse = noF := by
  rw [← inv_prd h v]
  constructor
  · intro e
    rw [e, inv_no]
  · intro e
    exact inv_injective (wf_prd h v) (wf_no n) (by rw [e, inv_no])
theorem loses_inv {n : Nat} {fs : List PF} (h : WFs n fs) : Loses n fs ↔ Loses n (invs n fs) := by
  constructor
  · rintro ⟨v, hv, e⟩
    exact ⟨v.reverse, by rw [len_invs]; exact okw_rev hv, (loses_rev h).mp e⟩
  · rintro ⟨v, hv, e⟩
    rw [len_invs] at hv
    refine ⟨v.reverse, okw_rev hv, (loses_rev h).mpr ?_⟩
    rw [List.reverse_reverse]
    exact e
theorem lose_rev {n : Nat} {fs : List PF} (h : WFs n fs) {o o' : Option (List Nat)} (p : LoseOut n fs o) (q : LoseOut n (invs n fs) o') : o.map List.length = o'.map List.length := by
  cases o with
  | none =>
    cases o' with
    | none => rfl
    | some w' => exact absurd ((loses_inv h).mpr ⟨w', q.1, q.2.1⟩) p
  | some w =>
    cases o' with
    | none => exact absurd ((loses_inv h).mp ⟨w, p.1, p.2.1⟩) q
    | some w' =>
      obtain ⟨p1, p2, p3⟩ := p
      obtain ⟨q1, q2, q3⟩ := q
      have a1 := q3 w.reverse (by rw [len_invs]; exact okw_rev p1) ((loses_rev h).mp p2)
      have a2 := p3 w'.reverse (by rw [len_invs] at q1; exact okw_rev q1) ((loses_rev h).mpr (by rw [List.reverse_reverse]; exact q2))
      rw [List.length_reverse] at a1 a2
      show some w.length = some w'.length
      rw [Nat.le_antisymm a2 a1]
theorem loses_wide {n : Nat} {fs : List PF} (h : WFs n fs) {w : List Nat} (hw : okw fs.length w) : Loses n fs ↔ Loses n (fs ++ [prd n fs w]) := by
  constructor
  · rintro ⟨v, hv, e⟩
    refine ⟨v, fun c hc => ?_, by rw [prd_left v hv]; exact e⟩
    have := hv c hc
    rw [List.length_append]
    omega
  · rintro ⟨v, hv, e⟩
    obtain ⟨u, hu, e2⟩ := sub_words h (wide_sub h hw) v hv
    exact ⟨u, hu, by rw [← e2]; exact e⟩
theorem lose_none {n : Nat} {fs : List PF} {o : Option (List Nat)} (p : LoseOut n fs o) : o = none ↔ ¬ Loses n fs := by
  cases o with
  | none => exact ⟨fun _ => p, fun _ => rfl⟩
  | some w => exact ⟨fun e => (nomatch e), fun e => absurd ⟨w, p.1, p.2.1⟩ e⟩
/-- evidence that no word loses all -/
structure Paper (n : Nat) (fs : List PF) (P : List (List Nat)) : Prop where
  asc : ∀ S, S ∈ P → Asc n S
  ne : ∀ S, S ∈ P → S ≠ []
  full : List.range n ∈ P
  cl : ∀ S, S ∈ P → ∀ b, b < fs.length → img n (ltr fs b) S ∈ P
def HoldOut (n : Nat) (fs : List PF) : Option (List (List Nat)) → Prop
  | none => Loses n fs
  | some P => ¬ Loses n fs ∧ Paper n fs P
theorem bi_asc {n : Nat} {fs : List PF} (h : WFs n fs) {L : List (List Nat × List Nat)} {i a : Nat} (b : BI fs.length (stepS n fs) (List.range n) L i a) {S : List Nat} (hS : S ∈ L.map Prod.fst) : Asc n S := by
  obtain ⟨w, hw⟩ := mem_fst.mp hS
  obtain ⟨h1, _⟩ := b.snd S w hw
  rw [runS h w _ (asc_range n)] at h1
  cases h1
  exact asc_img _ _ _
theorem srch_hold {n : Nat} {fs : List PF} (h : WFs n fs) {L : List (List Nat × List Nat)} (g : SrchOut n fs L) :
    ([] ∈ L.map Prod.fst → HoldOut n fs none) ∧ ([] ∉ L.map Prod.fst → HoldOut n fs (some (L.map Prod.fst))) := by
  refine ⟨fun hm => (srch_loses h g).mp hm, fun hn => ⟨fun hl => hn ((srch_loses h g).mpr hl), ?_⟩⟩
  obtain ⟨i, a, b, hE⟩ := g
  rcases hE with q | q
  · exact absurd q hn
  · subst q
    refine ⟨fun S hS => bi_asc h b hS, fun S hS e => hn (by rw [← e]; exact hS), mem_fst.mpr ⟨[], List.mem_of_getElem? b.zero⟩, fun S hS c hc => b.closed hS hc rfl⟩
theorem paper_words {n : Nat} {fs : List PF} (h : WFs n fs) {P : List (List Nat)} (p : Paper n fs P) : ∀ w, okw fs.length w → ∀ S, S ∈ P → img n (prd n fs w) S ∈ P
  | [], _, S, hS => by
    show img n (idF n) S ∈ P
    rw [img_id (p.asc S hS)]
    exact hS
  | b :: w, hw, S, hS => by
    show img n (cmp (ltr fs b) (prd n fs w)) S ∈ P
    rw [← img_img (wf_ltr h b)]
    exact paper_words h p w (fun c hc => hw c (List.mem_cons_of_mem _ hc)) _ (p.cl S hS b (hw b List.mem_cons_self))
theorem paper_wide {n : Nat} {fs : List PF} (h : WFs n fs) {w : List Nat} (hw : okw fs.length w) {P : List (List Nat)} (p : Paper n fs P) : Paper n (fs ++ [prd n fs w]) P where
  asc := p.asc
  ne := p.ne
  full := p.full
  cl := fun S hS b hb => by
    rcases Nat.lt_or_ge b fs.length with q | q
    · have e : ltr (fs ++ [prd n fs w]) b = ltr fs b := by
        unfold ltr
        rw [List.getD_eq_getElem?_getD, List.getD_eq_getElem?_getD, List.getElem?_append_left q]
      rw [e]
      exact p.cl S hS b q
    · rw [List.length_append, List.length_singleton] at hb
      have hb' : b = fs.length := by omega
      have e : ltr (fs ++ [prd n fs w]) b = prd n fs w := by
        unfold ltr
        rw [List.getD_eq_getElem?_getD, hb', List.getElem?_append_right (Nat.le_refl _), Nat.sub_self]
        rfl
      rw [e]
      exact paper_words h p w hw S hS

/-! ### how many -/
def subs : Nat → List (List Nat)
  | 0 => [[]]
  | k + 1 => subs k ++ (subs k).map fun S => S ++ [k]
theorem subs_len : ∀ k, (subs k).length = 2 ^ k
  | 0 => rfl
  | k + 1 => by
    show (subs k ++ (subs k).map fun S => S ++ [k]).length = _
    rw [List.length_append, List.length_map, subs_len k, Nat.pow_succ]
    omega
theorem mem_subs : ∀ {k : Nat} {S : List Nat}, Asc k S → S ∈ subs k
  | 0, S, h => by
    cases S with
    | nil => exact List.mem_cons_self
    | cons a r => exact absurd (h.lt a List.mem_cons_self) (Nat.not_lt_zero _)
  | k + 1, S, h => by
    show S ∈ subs k ++ (subs k).map fun S => S ++ [k]
    by_cases hk : k ∈ S
    · have e : S = S.filter (fun x => decide (x < k)) ++ [k] := by
        refine asc_eq h.asc ?_ fun x => ?_
        · rw [List.pairwise_append]
          refine ⟨h.asc.filter _, by simp, fun a ha b hb => ?_⟩
          rw [List.mem_singleton] at hb
          rw [hb]
          exact of_decide_eq_true (List.mem_filter.mp ha).2
        · rw [List.mem_append, List.mem_filter, List.mem_singleton, decide_eq_true_iff]
          constructor
          · intro hx
            have := h.lt x hx
            rcases Nat.lt_or_ge x k with q | q
            · exact .inl ⟨hx, q⟩
            · exact .inr (by omega)
          · rintro (⟨hx, _⟩ | rfl)
            · exact hx
            · exact hk
      rw [e]
      refine List.mem_append_right _ (List.mem_map.mpr ⟨_, mem_subs ⟨h.asc.filter _, fun x hx => of_decide_eq_true (List.mem_filter.mp hx).2⟩, rfl⟩)
    · refine List.mem_append_left _ (mem_subs ⟨h.asc, fun x hx => ?_⟩)
      have := h.lt x hx
      rcases Nat.lt_or_ge x k with q | q
      · exact q
      · have e : x = k := by omega
        exact absurd (e ▸ hx) hk
theorem sets_few {n : Nat} {l : List (List Nat)} (h : l.Nodup) (k : ∀ S, S ∈ l → Asc n S) : l.length ≤ 2 ^ n := by
  rw [← subs_len n]
  exact nodup_len h fun S hS => mem_subs (k S hS)
/-- all targets, one by one -/
def tbls (n : Nat) : Nat → List (List (Option Nat))
  | 0 => [[]]
  | k + 1 => (none :: (List.range n).map some).flatMap fun o => (tbls n k).map fun t => o :: t
theorem flatMap_len {α β : Type} {g : α → List β} {c : Nat} : ∀ {l : List α}, (∀ x, x ∈ l → (g x).length = c) → (l.flatMap g).length = l.length * c
  | [], _ => by simp
  | a :: r, h => by
    rw [List.flatMap_cons, List.length_append, h a List.mem_cons_self, flatMap_len fun x hx => h x (List.mem_cons_of_mem _ hx), List.length_cons, Nat.add_mul, Nat.one_mul, Nat.add_comm]
theorem tbls_len (n : Nat) : ∀ k, (tbls n k).length = (n + 1) ^ k
  | 0 => rfl
  | k + 1 => by
    show ((none :: (List.range n).map some).flatMap fun o => (tbls n k).map fun t => o :: t).length = _
    rw [flatMap_len (c := (n + 1) ^ k) fun x _ => by rw [List.length_map, tbls_len n k], List.length_cons, List.length_map, List.length_range, Nat.pow_succ, Nat.mul_comm]
theorem mem_tbls {n : Nat} : ∀ {k : Nat} {t : List (Option Nat)}, t.length = k → (∀ o, o ∈ t → ∀ j, o = some j → j < n) → t ∈ tbls n k
  | 0, t, hl, _ => by
    rw [List.eq_nil_of_length_eq_zero hl]
    exact List.mem_cons_self
  | k + 1, [], hl, _ => by cases hl
  | k + 1, o :: t, hl, h => by
    show o :: t ∈ (none :: (List.range n).map some).flatMap fun o => (tbls n k).map fun t => o :: t
    rw [List.mem_flatMap]
    refine ⟨o, ?_, List.mem_map.mpr ⟨t, mem_tbls (by simpa using hl) fun p hp => h p (List.mem_cons_of_mem _ hp), rfl⟩⟩
    cases o with
    | none => exact List.mem_cons_self
    | some j => exact List.mem_cons_of_mem _ (List.mem_map.mpr ⟨j, List.mem_range.mpr (h _ List.mem_cons_self j rfl), rfl⟩)
def tbl (n : Nat) (f : PF) : List (Option Nat) := (List.range n).map f
theorem tbl_inj {n : Nat} {f g : PF} (hf : WF n f) (hg : WF n g) (h : tbl n f = tbl n g) : f = g := by
  funext i
  rcases Nat.lt_or_ge i n with q | q
  · have e : (tbl n f)[i]? = (tbl n g)[i]? := by rw [h]
    unfold tbl at e
    rw [List.getElem?_map, List.getElem?_map, List.getElem?_range q] at e
    exact Option.some.inj e
  · have z : ∀ {f : PF}, WF n f → f i = none := fun {f} hf => by
      cases e : f i with
      | none => rfl
      | some j =>
        have := (hf.dom i j e).1
        omega
    rw [z hf, z hg]
theorem maps_few {n : Nat} {l : List PF} (h : l.Nodup) (k : ∀ f, f ∈ l → WF n f) : l.length ≤ (n + 1) ^ n := by
  rw [← tbls_len n n, ← List.length_map (f := tbl n)]
  refine nodup_len (map_nodup_on (fun a ha b hb e => tbl_inj (k a ha) (k b hb) e) h) fun t ht => ?_
  obtain ⟨f, hf, rfl⟩ := List.mem_map.mp ht
  refine mem_tbls (by unfold tbl; rw [List.length_map, List.length_range]) fun o ho j e => ?_
  subst e
  obtain ⟨i, _, e⟩ := List.mem_map.mp ho
  exact ((k f hf).dom i j e).2
end CM
-- part R1
set_option Elab.async false
set_option linter.all false
set_option maxRecDepth 100000
set_option maxHeartbeats 4000000
/-! Rules that the layer lacks: operators that an own class defines. -/
namespace CM
open PySem PySem.Spec PyProof.Rows L2 StX
/-- a def by its positional promise; nothing is raised -/
abbrev Fn (P : Program) (w : World) (K : PySem.W.Frag) (mg : Str → Option Value) (base : Heap) (k : Nat) (f : Addr) (sp : Sp) : Prop := FnR P w K mg base CX0 k f sp
section
variable {X : Cx} {k : Nat} {f : Addr} {sp : Sp} {pins : List (Addr × Obj)} {σ : L2.St} {H : Hp} {s : Shared}
/-- a def runs somewhere below the body -/
theorem run_sub {A : Around} {us : List Value} {vs : List V} {Q : VK} {E : Value → Shared → Prop} (sb : L2.Sub X k A) (F : Fn X.prog X.w X.K X.mg X.base k f sp) (I : Inv X pins σ H s) (r : Vals vs us) (h : sp vs H Q E0) :
    wpAny (model X.prog X.w) A (call (.ref f) us) (EP X pins σ Q) E s := by
  have e0 : Env0 X.prog X.w X.K X.mg X.base A X.stack s H := by
    have e := I.env0
    exact ⟨by rw [sb.fr]; exact e.frames, e.mod, e.bs, e.bsz, e.funs, e.frf, e.hok, e.bare⟩
  refine wpAny_call (codeAny_mono (F A X.stack s H us vs Q E0 sb.room e0 r h) fun r s' hq => ?_)
  cases r with
  | error e => exact hq.elim
  | ok fl =>
    cases fl with
    | ret u => exact I.after hq
    | next => exact hq.elim
    | brk => exact hq.elim
    | cont => exact hq.elim
theorem sub_self (hr : Room k X.A) : L2.Sub X k X.A := ⟨hr, rfl⟩
theorem back_of {x : V} {u : Value} {Q : Value → Shared → Prop} {s' : Shared} (r : RelV x u) (h : Q u s') : PySem.W.CmpBack Q u s' := by
  cases x with
  | non => cases r; exact h
  | bl b => cases r; exact h
  | int i => obtain ⟨t, rfl⟩ := r; exact h
  | str z => obtain ⟨t, rfl⟩ := r; exact h
  | byt b => obtain ⟨t, rfl⟩ := r; exact h
  | flt b => obtain ⟨t, rfl⟩ := r; exact h
  | ref a => cases r; exact h
  | ty n => cases r; exact h
/-- two instances of the class at C, handed to a def -/
def rOwn (C : Addr) (sp : Sp) : R2 := fun x y H Q => ∃ a b dx dy fs gs, x = V.ref a ∧ y = V.ref b ∧ H a = some (.ins C dx fs) ∧ H b = some (.ins C dy gs) ∧ sp [.ref a, .ref b] H Q E0
theorem inst_of (I : Inv X pins σ H s) {a C dx : Addr} {fs : List (Str × V)} (e : H a = some (.ins C dx fs)) : ∃ od, PySem.W.InstAt s.heap a (PySem.W.instObj C dx) C (some od) := by
  obtain ⟨mA, O, _⟩ := ins_get I.hok e
  obtain ⟨od, J, _⟩ := O.look
  exact ⟨od, J⟩
theorem op_own {op : Operator} {C : Addr} (hc : PySem.W.selfFirst X.K C = true) (hs : PySem.W.findIn X.K (.ref C) (PySem.dunder op.info.2) = some (some (.ref f))) (hf : PySem.W.isFn X.K (.ref f) = true)
    (F : Fn X.prog X.w X.K X.mg X.base k f sp) (hr : Room k X.A) : OpR X (binaryOp op) (rOwn C sp) := by
  intro pins s σ H x y v u Q I rx ry hq
  obtain ⟨a, b, dx, dy, fs, gs, rfl, rfl, ha, hb, q⟩ := hq
  cases rx
  cases ry
  obtain ⟨od, J⟩ := inst_of I ha
  obtain ⟨od', J'⟩ := inst_of I hb
  obtain ⟨m, hF⟩ := I.fr
  refine PySem.W.binop_K hF I.ok.mod.kin J J'.type hc hs hf (thn (run_sub (vs := [.ref a, .ref b]) (sub_self hr) F I (.cons rfl (.cons rfl .nil)) q) fun u s' hq => ?_)
  obtain ⟨x, H', I', r, q'⟩ := hq
  exact back_of r ⟨x, H', I', r, q'⟩
def rOwn1 (C : Addr) (sp : Sp) : V → Hp → VK → Prop := fun x H Q => ∃ a dx fs, x = V.ref a ∧ H a = some (.ins C dx fs) ∧ sp [.ref a] H Q E0
theorem un_own {C : Addr} (hs : PySem.W.findIn X.K (.ref C) "__invert__" = some (some (.ref f))) (hf : PySem.W.isFn X.K (.ref f) = true)
    (F : Fn X.prog X.w X.K X.mg X.base k f sp) (hr : Room k X.A) : UnR X (unaryOp .Invert) (rOwn1 C sp) := by
  intro pins s σ H x v Q I rx hq
  obtain ⟨a, dx, fs, rfl, ha, q⟩ := hq
  cases rx
  obtain ⟨od, J⟩ := inst_of I ha
  obtain ⟨m, hF⟩ := I.fr
  exact PySem.W.ksp_inv hF I.ok.mod.kin J hs hf (run_sub (vs := [.ref a]) (sub_self hr) F I (.cons rfl .nil) q)
/-- a rich comparison by the own method -/
theorem rc_own {A : Around} {op : CmpOp} {C a b dx dy : Addr} {fs gs : List (Str × V)} {Q : VK} {E : Value → Shared → Prop} (sb : L2.Sub X k A) (hs : PySem.W.findIn X.K (.ref C) (cmpInfo op).2.1 = some (some (.ref f))) (hf : PySem.W.isFn X.K (.ref f) = true)
    (F : Fn X.prog X.w X.K X.mg X.base k f sp) (I : Inv X pins σ H s) (ha : H a = some (.ins C dx fs)) (hb : H b = some (.ins C dy gs)) (q : sp [.ref a, .ref b] H Q E0) :
    wpAny (model X.prog X.w) A (richCompare op (.ref a) (.ref b)) (EP X pins σ Q) E s := by
  obtain ⟨od, J⟩ := inst_of I ha
  obtain ⟨od', J'⟩ := inst_of I hb
  obtain ⟨m, hF⟩ := I.fr
  refine PySem.W.cmp_K (op := op) (tb := .ref C) sb.room.units0 hF I.ok.mod.kin J J'.type (by simp [PySem.W.notFirst]) hs hf (thn (run_sub (vs := [.ref a, .ref b]) sb F I (.cons rfl (.cons rfl .nil)) q) fun u s' hq => ?_)
  obtain ⟨x, H', I', r, q'⟩ := hq
  exact back_of r ⟨x, H', I', r, q'⟩
theorem op_cmpOwn {op : CmpOp} {C : Addr} (ho : ∀ a b, compareOp op a b = richCompare op a b) (hs : PySem.W.findIn X.K (.ref C) (cmpInfo op).2.1 = some (some (.ref f))) (hf : PySem.W.isFn X.K (.ref f) = true)
    (F : Fn X.prog X.w X.K X.mg X.base k f sp) (hr : Room k X.A) : OpR X (compareOp op) (rOwn C sp) := by
  intro pins s σ H x y v u Q I rx ry hq
  obtain ⟨a, b, dx, dy, fs, gs, rfl, rfl, ha, hb, q⟩ := hq
  cases rx
  cases ry
  rw [ho]
  exact rc_own (sub_self hr) hs hf F I ha hb q
/-- a builtin's slot, reached by its name -/
theorem ifBound_blt {A : Around} {x C : Addr} {ox : Obj} {od : Option Obj} {name : Str} {id : String} {args : List Value} {E : Value → Shared → Prop} {Q : Option Value → Shared → Prop} {K : PySem.W.Frag} {M : Model} (XK : K.In s.heap) (J : PySem.W.InstAt s.heap x ox C od) (hs : PySem.W.findIn K (.ref C) name = some (some (.builtin id)))
    (hb : ∀ self, bindSpecial (.builtin id) self = pure (.builtin id, [self])) (h : wpAny M A (call (.builtin id) (.ref x :: args)) (fun v => Q (some v)) E s) : wpAny M A (callSpecialIfBound? (.ref x) name args) Q E s := by
  simp only [callSpecialIfBound?, bindSpecialIfBound?]
  refine wpAny_holding (wpAny_bind (wpAny_bind (wpAny_bind (J.type.here ((PySem.W.looks_findIn XK hs).here ?_)))))
  simp only [hb]
  refine wpAny_bind (wpAny_askSetting (wpAny_ite ?_))
  have fin : wpAny M A (call (.builtin id) ([.ref x] ++ args) >>= fun v => pure (some v)) Q E s := wpAny_bind (wpAny_mono h (fun v s' h' => wpAny_pure h') fun _ _ h' => h')
  split
  · exact wpAny_bind (wpAny_pure (wpAny_pure fin))
  · exact wpAny_tryCatch (wpAny_bind (wpAny_pure (wpAny_pure fin)))
/-- what the class must have for != -/
structure NeC (K : PySem.W.Frag) (C f : Addr) : Prop where
  ne : PySem.W.findIn K (.ref C) "__ne__" = some (some (.builtin "object.__ne__"))
  eq : PySem.W.findIn K (.ref C) "__eq__" = some (some (.ref f))
  fn : PySem.W.isFn K (.ref f) = true
  mr : PySem.W.mroIn K C (.type "object") = some true
def rNeOwn (C : Addr) (sp : Sp) : R2 := fun x y H Q => ∃ a b dx dy fs gs, x = V.ref a ∧ y = V.ref b ∧ H a = some (.ins C dx fs) ∧ H b = some (.ins C dy gs) ∧ sp [.ref a, .ref b] H (fun v H' => ∃ c, v = .bl c ∧ Q (.bl (!c)) H') E0
theorem op_neOwn {C : Addr} (N : NeC X.K C f) (F : Fn X.prog X.w X.K X.mg X.base k f sp) (hr : Room (k + 1) X.A) : OpR X (compareOp .NotEq) (rNeOwn C sp) := by
  intro pins s σ H x y v u Q I rx ry hq
  obtain ⟨a, b, dx, dy, fs, gs, rfl, rfl, ha, hb, q⟩ := hq
  cases rx
  cases ry
  show wpAny (model X.prog X.w) X.A (richCompare .NotEq (.ref a) (.ref b)) (EP X pins σ Q) X.xe s
  obtain ⟨od, J⟩ := inst_of I ha
  obtain ⟨od', J'⟩ := inst_of I hb
  obtain ⟨m, hF⟩ := I.fr
  have XK := I.kIn
  have sb : L2.Sub X k X.A.in1 := ⟨hr.in1, rfl⟩
  have inner : wpAny (model X.prog X.w) X.A (call (.builtin "object.__ne__") [.ref a, .ref b]) (fun v s' => ∃ c : Bool, v = .bool c ∧ EP X pins σ Q v s') X.xe s := by
    refine wpAny_call (codeAny_call_builtin PySem.F.cmp_object.ne.plain PySem.F.cmpEntry_ne (PySem.W.check_slot (i := "object.__ne__") (owner := "object") (n := "__ne__") (by decide +kernel) (by decide +kernel) (J.type.andThen (PySem.W.looks_mroIn XK N.mr)) (PySem.F.cmpArgs_ne _ _) ?_))
    unfold Builtin.«object.__ne__»
    refine wpAny_bind (m := slotArgs "__ne__" 1 _) (wpAny_pure ?_)
    dsimp only
    refine wpAny_bind (m := cRoomFor _ _) (wpAny_cRoomFor sb.room.units0 ?_)
    refine wpAny_bind (m := callSpecialIfBound? (.ref a) (Str.ofString "__eq__") _) (PySem.W.ifBound_K XK J N.eq N.fn (thn (run_sub (vs := [.ref a, .ref b]) sb F I (.cons rfl (.cons rfl .nil)) q) fun u s' hu => ?_))
    obtain ⟨z, H', I', rz, c, rfl, q'⟩ := hu
    cases rz
    refine wpAny_bind (wpAny_truthy_bool ?_)
    exact wpAny_pure ⟨!c, rfl, .bl (!c), H', I', rfl, q'⟩
  have one : wpAny (model X.prog X.w) X.A (tryCompare (.ref a) (cmpInfo .NotEq).2.1 (.ref b)) (fun r s' => ∃ v, r = some v ∧ EP X pins σ Q v s') X.xe s := by
    unfold tryCompare
    refine wpAny_bind (ifBound_blt XK J N.ne PySem.F.cmp_object.ne.bind (thn inner fun v s' hv => ?_))
    obtain ⟨c, rfl, hv⟩ := hv
    exact wpAny_pure ⟨_, rfl, hv⟩
  unfold richCompare
  simp only [oneThing_ref]
  refine wpAny_holding (wpAny_bind (wpAny_cRoomFor hr.units0 ?_))
  refine wpAny_bind (J.type.here (wpAny_bind (J'.type.here ?_)))
  rw [if_neg (by simp)]
  refine wpAny_bind (wpAny_pure ?_)
  simp only [Bool.false_eq_true, if_false]
  refine wpAny_bind (wpAny_mono one (fun r s' z => ?_) fun _ _ e => e)
  obtain ⟨v, rfl, hq⟩ := z
  exact wpAny_pure hq
/-- len of an instance -/
theorem call_lenOwn {C : Addr} (hs : PySem.W.findIn X.K (.ref C) "__len__" = some (some (.ref f))) (hf : PySem.W.isFn X.K (.ref f) = true) (F : Fn X.prog X.w X.K X.mg X.base k f sp) (hr : Room (k + 1) X.A) :
    CallR X (.builtin "len") (fun xs H Q => ∃ a dx fs, xs = [V.ref a] ∧ H a = some (.ins C dx fs) ∧ sp [.ref a] H (fun v H' => ∃ n : Int, v = .int n ∧ (0 ≤ n ∧ n < 2 ^ 63) ∧ Q (.int n) H') E0) := by
  intro pins s σ H xs us Q I r hq
  obtain ⟨a, dx, fs, rfl, ha, q⟩ := hq
  cases r with
  | cons ra rn =>
  cases rn
  cases ra
  obtain ⟨od, J⟩ := inst_of I ha
  obtain ⟨m, hF⟩ := I.fr
  refine PySem.W.len_K hF I.ok.mod.kin J hs hf (thn (run_sub (vs := [.ref a]) ⟨hr.in1, rfl⟩ F I (.cons rfl .nil) q) fun u s' hu => ?_)
  obtain ⟨z, H', I', rz, n, rfl, hn, q'⟩ := hu
  obtain ⟨t, rfl⟩ := rz
  exact ⟨hn, .int n, H', I'.tok _, ⟨_, rfl⟩, q'⟩
/-- repr of an instance -/
theorem call_reprOwn {C : Addr} (hs : PySem.W.findIn X.K (.ref C) "__repr__" = some (some (.ref f))) (hf : PySem.W.isFn X.K (.ref f) = true) (F : Fn X.prog X.w X.K X.mg X.base k f sp) (hr : Room (k + 1) X.A) :
    CallR X (.builtin "repr") (fun xs H Q => ∃ a dx fs, xs = [V.ref a] ∧ H a = some (.ins C dx fs) ∧ sp [.ref a] H (fun v H' => ∃ z : Str, v = .str z ∧ Q (.str z) H') E0) := by
  intro pins s σ H xs us Q I r hq
  obtain ⟨a, dx, fs, rfl, ha, q⟩ := hq
  cases r with
  | cons ra rn =>
  cases rn
  cases ra
  obtain ⟨od, J⟩ := inst_of I ha
  obtain ⟨m, hF⟩ := I.fr
  refine PySem.W.repr_K hr.in1.units0 hF I.ok.mod.kin J hs hf (thn (run_sub (vs := [.ref a]) ⟨hr.in1, rfl⟩ F I (.cons rfl .nil) q) fun u s' hu => ?_)
  obtain ⟨z, H', I', rz, y, rfl, q'⟩ := hu
  obtain ⟨t, rfl⟩ := rz
  exact ⟨.str y, H', I', ⟨_, rfl⟩, q'⟩
end
section
variable {X : Cx} {k i : Nat} {f C : Addr} {sp : Sp} {x : Str} {e fe : Expr} {es : List Expr} {te : TE} {t : TA} {p pos sp_ : Pos}
/-- f(e, ..), f a def of the module -/
def tFn (sp : Sp) (t : TA) : TE := fun σ H Q => t σ H fun vs H1 => sp vs H1 Q E0
theorem pe_fn (F : Fn X.prog X.w X.K X.mg X.base k f sp) (hr : Room k X.A) (hg : Gl X x) (hm : X.mg x = some (.ref f)) (hk : PySem.W.keepIn X.K (.ref f) = true) (ha : PA X (e :: es) t)
    (hdb : (x == ("__debug__" : Str)) = false := by decide) (he : starEach (e :: es) X.env = (false, eval e X.env) :: starEach es X.env := by rfl) (hpl : (backTo pos (starEach es X.env)).any (·.1) = false := by rfl) :
    PE X (.Call (.Name x p) (e :: es) [] pos) (tFn sp t) := by
  refine ⟨fun pins s σ H Q I h => ?_⟩
  refine wpAny_Call_Name_kw (ld_glob I hg hm ?_ hdb)
  refine PySem.W.callWith_K (h₀ := X.base) I.ok.mod.kin hk (thn (ha.run pos pins s σ H _ I h) fun us s1 ⟨vs, H1, I1, r, q⟩ => ⟨I1.kIn, ?_⟩) he hpl
  exact run_sub (sub_self hr) F I1 r q
/-- f(*e), f a def of the module -/
def tFnS (K : PySem.W.Frag) (sp : Sp) (te : TE) : TE := fun σ H Q => te σ H fun y H1 => ∃ a xs, y = V.ref a ∧ (SqT K H1 a xs ∨ SqL K H1 a xs) ∧ sp xs H1 Q E0
theorem pe_fnS (F : Fn X.prog X.w X.K X.mg X.base k f sp) (hr : Room k X.A) (hg : Gl X x) (hm : X.mg x = some (.ref f)) (hk : PySem.W.keepIn X.K (.ref f) = true) (he : PE X e te) (hd : (x == ("__debug__" : Str)) = false := by decide)
    (hst : starEach [.Starred e sp_] X.env = [(true, eval e X.env)] := by rfl) : PE X (.Call (.Name x p) [.Starred e sp_] [] pos) (tFnS X.K sp te) :=
  pe_callS1 F hr hk hg hm pass0 he hd hst
/-- C(e, ..), C a class of the module -/
def tMk (C : Addr) (sp : Sp) (t : TA) : TE := tMakeR C sp E0 t
theorem pe_mkR (M : Mk X.K C f) (F : Fn X.prog X.w X.K X.mg X.base k f sp) (hr : Room (k + 1) X.A) (hg : Gl X x) (hm : X.mg x = some (.ref C)) (ha : PA X (e :: es) t) (hdb : (x == ("__debug__" : Str)) = false := by decide)
    (he : starEach (e :: es) X.env = (false, eval e X.env) :: starEach es X.env := by rfl) (hpl : (backTo pos (starEach es X.env)).any (·.1) = false := by rfl) : PE X (.Call (.Name x p) (e :: es) [] pos) (tMk C sp t) :=
  pe_makeR M F hr hg hm pass0 ha hdb he hpl
/-- C(*e) -/
def tMkS (K : PySem.W.Frag) (C : Addr) (sp : Sp) (te : TE) : TE := fun σ H Q => te σ H fun y H1 => ∃ a xs, y = V.ref a ∧ (SqT K H1 a xs ∨ SqL K H1 a xs) ∧ ∀ x dx, H1 x = Option.none → H1 dx = Option.none → dx ≠ x →
  sp (V.ref x :: xs) (upd (upd H1 dx (.own x)) x (.ins C dx [])) (fun v H2 => v = .non ∧ Q (.ref x) H2) E0
theorem pe_mkS (M : Mk X.K C f) (F : Fn X.prog X.w X.K X.mg X.base k f sp) (hr : Room (k + 1) X.A) (hg : Gl X x) (hm : X.mg x = some (.ref C)) (he : PE X e te) (hd : (x == ("__debug__" : Str)) = false := by decide)
    (hst : starEach [.Starred e sp_] X.env = [(true, eval e X.env)] := by rfl) : PE X (.Call (.Name x p) [.Starred e sp_] [] pos) (tMkS X.K C sp te) := by
  refine ⟨fun pins s σ H Q I h => ?_⟩
  refine wpAny_Call_Name_kw (ld_glob I hg hm ?_ hd)
  refine PySem.W.callWith_S (h₀ := X.base) I.ok.mod.kin M.kp (thn (he.run pins s σ H _ I h) fun v s1 ⟨y, H1, I1, ry, a, xs, ey, hxs, q⟩ => ?_) hst
  subst ey
  obtain rfl : v = Value.ref a := ry
  exact star_any I1 hxs fun us s2 I2 rv => ⟨I2.kIn, run_makeR M F hr pass0 I2 rv q⟩
/-- cls(e, ..), the slot holds the class -/
def tMkL (i : Nat) (C : Addr) (sp : Sp) (t : TA) : TE := fun σ H Q => σ[i]? = some (some (.ref C)) ∧ tMk C sp t σ H Q
theorem pe_mkL (M : Mk X.K C f) (F : Fn X.prog X.w X.K X.mg X.base k f sp) (hr : Room (k + 1) X.A) (hN : X.N[i]? = some x) (hv : Vis X.env.scope x) (ha : PA X (e :: es) t)
    (hdb : (x == ("__debug__" : Str)) = false := by decide) (hcd : (x == ("__classdict__" : Str)) = false := by decide)
    (he : starEach (e :: es) X.env = (false, eval e X.env) :: starEach es X.env := by rfl) (hpl : (backTo pos (starEach es X.env)).any (·.1) = false := by rfl) : PE X (.Call (.Name x p) (e :: es) [] pos) (tMkL i C sp t) := by
  refine ⟨fun pins s σ H Q I h => ?_⟩
  obtain ⟨hs, ht⟩ := h
  refine wpAny_Call_Name_kw (thn ((pe_var (pos := p) hN hv hdb hcd).run pins s σ H (fun v H1 => v = .ref C ∧ H1 = H) I ⟨.ref C, hs, rfl, rfl⟩) fun u s1 ⟨v, H1, I1, r1, q1⟩ => ?_)
  obtain ⟨rfl, rfl⟩ := q1
  cases r1
  refine PySem.W.callWith_K (h₀ := X.base) I.ok.mod.kin M.kp (thn (ha.run pos pins s1 σ _ _ I1 (show t σ _ _ from ht)) fun us s2 ⟨vs, H2, I2, r, q⟩ => ⟨I2.kIn, ?_⟩) he hpl
  exact run_makeR M F hr pass0 I2 r q
end
end CM
-- part B0
set_option Elab.async false
set_option linter.all false
set_option maxRecDepth 100000
set_option maxHeartbeats 4000000
/-! ### the text by places (printed by gen_b0.py) -/
namespace CM
open PySem PySem.Spec PyProof.Rows L2
def top (i : Nat) : Stmt := PySem.Challenge.pw_chainmaps_k91_whole_words_and_inverses.main.body.getD i (.Pass ⟨0, 0, 0, 0⟩)
abbrev inMap (j : Nat) : Stmt := inClass (top 22) j
abbrev inFam (j : Nat) : Stmt := inClass (top 37) j
abbrev cM (K : PySem.W.Frag) : Addr := He.ga K "Map"
abbrev cF (K : PySem.W.Frag) : Addr := He.ga K "Family"
/-- a property's record, its getter -/
def pAt (K : PySem.W.Frag) (C : Addr) (m : Str) : Addr := He.ma K C m
def pFn (K : PySem.W.Frag) (C : Addr) (m : Str) : Addr := match PySem.W.recIn K (pAt K C m) "property" with
  | some (.ref g :: _) => g
  | _ => 0
def cFn (K : PySem.W.Frag) (C : Addr) (m : Str) : Addr := match PySem.W.recIn K (pAt K C m) "classmethod" with
  | some (.ref g :: _) => g
  | _ => 0
abbrev HasD (K : PySem.W.Frag) (x q : Str) (st : Stmt) (f : Addr) : Prop := ∃ fd, FunD K x q (defArgs st) (defBody st) (defScope st) [] [] f fd
/-- what the walk asks of the top -/
structure Txt (K : PySem.W.Frag) (mg : Str → Option Value) : Prop where
  g_is_integer : mg "is_integer" = some (.ref (He.ga K "is_integer"))
  d_is_integer : HasD K "is_integer" "is_integer" (top 14) (He.ga K "is_integer")
  g_in_range : mg "in_range" = some (.ref (He.ga K "in_range"))
  d_in_range : HasD K "in_range" "in_range" (top 15) (He.ga K "in_range")
  g_check_size : mg "check_size" = some (.ref (He.ga K "check_size"))
  d_check_size : HasD K "check_size" "check_size" (top 16) (He.ga K "check_size")
  g_check_elements : mg "check_elements" = some (.ref (He.ga K "check_elements"))
  d_check_elements : HasD K "check_elements" "check_elements" (top 17) (He.ga K "check_elements")
  g_are_arrows : mg "are_arrows" = some (.ref (He.ga K "are_arrows"))
  d_are_arrows : HasD K "are_arrows" "are_arrows" (top 18) (He.ga K "are_arrows")
  g_common_size : mg "common_size" = some (.ref (He.ga K "common_size"))
  d_common_size : HasD K "common_size" "common_size" (top 19) (He.ga K "common_size")
  g_is_part : mg "is_part" = some (.ref (He.ga K "is_part"))
  d_is_part : HasD K "is_part" "is_part" (top 23) (He.ga K "is_part")
  g_check_map : mg "check_map" = some (.ref (He.ga K "check_map"))
  d_check_map : HasD K "check_map" "check_map" (top 25) (He.ga K "check_map")
  g_check_all : mg "check_all" = some (.ref (He.ga K "check_all"))
  d_check_all : HasD K "check_all" "check_all" (top 27) (He.ga K "check_all")
  g_product : mg "product" = some (.ref (He.ga K "product"))
  d_product : HasD K "product" "product" (top 29) (He.ga K "product")
  g_places_after : mg "places_after" = some (.ref (He.ga K "places_after"))
  d_places_after : HasD K "places_after" "places_after" (top 30) (He.ga K "places_after")
  g_check_many : mg "check_many" = some (.ref (He.ga K "check_many"))
  d_check_many : HasD K "check_many" "check_many" (top 36) (He.ga K "check_many")
  g_made : mg "made" = some (.ref (He.ga K "made"))
  d_made : HasD K "made" "made" (top 38) (He.ga K "made")
  g_check_word : mg "check_word" = some (.ref (He.ga K "check_word"))
  d_check_word : HasD K "check_word" "check_word" (top 39) (He.ga K "check_word")
  g_check_family : mg "check_family" = some (.ref (He.ga K "check_family"))
  d_check_family : HasD K "check_family" "check_family" (top 40) (He.ga K "check_family")
  g_first_words : mg "first_words" = some (.ref (He.ga K "first_words"))
  d_first_words : HasD K "first_words" "first_words" (top 41) (He.ga K "first_words")
  g_reached : mg "reached" = some (.ref (He.ga K "reached"))
  d_reached : HasD K "reached" "reached" (top 42) (He.ga K "reached")
  g_path : mg "path" = some (.ref (He.ga K "path"))
  d_path : HasD K "path" "path" (top 43) (He.ga K "path")
  g_orbits : mg "orbits" = some (.ref (He.ga K "orbits"))
  d_orbits : HasD K "orbits" "orbits" (top 44) (He.ga K "orbits")
  g_key_of : mg "key_of" = some (.ref (He.ga K "key_of"))
  d_key_of : HasD K "key_of" "key_of" (top 45) (He.ga K "key_of")
  g_generated : mg "generated" = some (.ref (He.ga K "generated"))
  d_generated : HasD K "generated" "generated" (top 46) (He.ga K "generated")
  g_walked : mg "walked" = some (.ref (He.ga K "walked"))
  d_walked : HasD K "walked" "walked" (top 47) (He.ga K "walked")
  g_image_of : mg "image_of" = some (.ref (He.ga K "image_of"))
  d_image_of : HasD K "image_of" "image_of" (top 48) (He.ga K "image_of")
  g_searched : mg "searched" = some (.ref (He.ga K "searched"))
  d_searched : HasD K "searched" "searched" (top 49) (He.ga K "searched")
  g_losing_word : mg "losing_word" = some (.ref (He.ga K "losing_word"))
  d_losing_word : HasD K "losing_word" "losing_word" (top 50) (He.ga K "losing_word")
  g_holding_sets : mg "holding_sets" = some (.ref (He.ga K "holding_sets"))
  d_holding_sets : HasD K "holding_sets" "holding_sets" (top 51) (He.ga K "holding_sets")
  g_is_set : mg "is_set" = some (.ref (He.ga K "is_set"))
  d_is_set : HasD K "is_set" "is_set" (top 52) (He.ga K "is_set")
  g_is_holding : mg "is_holding" = some (.ref (He.ga K "is_holding"))
  d_is_holding : HasD K "is_holding" "is_holding" (top 53) (He.ga K "is_holding")
  g__law_hand : mg "_law_hand" = some (.ref (He.ga K "_law_hand"))
  d__law_hand : HasD K "_law_hand" "_law_hand" (top 55) (He.ga K "_law_hand")
  g__law_draw : mg "_law_draw" = some (.ref (He.ga K "_law_draw"))
  d__law_draw : HasD K "_law_draw" "_law_draw" (top 56) (He.ga K "_law_draw")
  g__law_arrows : mg "_law_arrows" = some (.ref (He.ga K "_law_arrows"))
  d__law_arrows : HasD K "_law_arrows" "_law_arrows" (top 57) (He.ga K "_law_arrows")
  g__law_family : mg "_law_family" = some (.ref (He.ga K "_law_family"))
  d__law_family : HasD K "_law_family" "_law_family" (top 58) (He.ga K "_law_family")
  g__law_size : mg "_law_size" = some (.ref (He.ga K "_law_size"))
  d__law_size : HasD K "_law_size" "_law_size" (top 59) (He.ga K "_law_size")
  g__law_inverse_right : mg "_law_inverse_right" = some (.ref (He.ga K "_law_inverse_right"))
  d__law_inverse_right : HasD K "_law_inverse_right" "_law_inverse_right" (top 60) (He.ga K "_law_inverse_right")
  g__law_more_right : mg "_law_more_right" = some (.ref (He.ga K "_law_more_right"))
  d__law_more_right : HasD K "_law_more_right" "_law_more_right" (top 61) (He.ga K "_law_more_right")
  g_law : mg "law" = some (.ref (He.ga K "law"))
  d_law : HasD K "law" "law" (top 62) (He.ga K "law")
  d_mInit : HasD K "__init__" "Map.__init__" (inMap 0) (He.ma K (cM K) "__init__")
  m_mInit : Meth K (cM K) "__init__" (He.ma K (cM K) "__init__")
  d_mMul : HasD K "__mul__" "Map.__mul__" (inMap 8) (He.ma K (cM K) "__mul__")
  m_mMul : Meth K (cM K) "__mul__" (He.ma K (cM K) "__mul__")
  d_mInv : HasD K "__invert__" "Map.__invert__" (inMap 9) (He.ma K (cM K) "__invert__")
  m_mInv : Meth K (cM K) "__invert__" (He.ma K (cM K) "__invert__")
  d_mLe : HasD K "__le__" "Map.__le__" (inMap 15) (He.ma K (cM K) "__le__")
  m_mLe : Meth K (cM K) "__le__" (He.ma K (cM K) "__le__")
  d_mEq : HasD K "__eq__" "Map.__eq__" (inMap 25) (He.ma K (cM K) "__eq__")
  m_mEq : Meth K (cM K) "__eq__" (He.ma K (cM K) "__eq__")
  d_mRepr : HasD K "__repr__" "Map.__repr__" (inMap 26) (He.ma K (cM K) "__repr__")
  m_mRepr : Meth K (cM K) "__repr__" (He.ma K (cM K) "__repr__")
  d_fInit : HasD K "__init__" "Family.__init__" (inFam 1) (He.ma K (cF K) "__init__")
  m_fInit : Meth K (cF K) "__init__" (He.ma K (cF K) "__init__")
  d_fCall : HasD K "__call__" "Family.__call__" (inFam 4) (He.ma K (cF K) "__call__")
  m_fCall : Meth K (cF K) "__call__" (He.ma K (cF K) "__call__")
  d_fAdd : HasD K "__add__" "Family.__add__" (inFam 5) (He.ma K (cF K) "__add__")
  m_fAdd : Meth K (cF K) "__add__" (He.ma K (cF K) "__add__")
  d_fInv : HasD K "__invert__" "Family.__invert__" (inFam 6) (He.ma K (cF K) "__invert__")
  m_fInv : Meth K (cF K) "__invert__" (He.ma K (cF K) "__invert__")
  d_fLen : HasD K "__len__" "Family.__len__" (inFam 8) (He.ma K (cF K) "__len__")
  m_fLen : Meth K (cF K) "__len__" (He.ma K (cF K) "__len__")
  d_pSize : HasD K "size" "Map.size" (inMap 6) (pFn K (cM K) "size")
  m_pSize : PropOf K (cM K) "size" (pAt K (cM K) "size") (pFn K (cM K) "size")
  d_pArrows : HasD K "arrows" "Map.arrows" (inMap 7) (pFn K (cM K) "arrows")
  m_pArrows : PropOf K (cM K) "arrows" (pAt K (cM K) "arrows") (pFn K (cM K) "arrows")
  d_pMaps : HasD K "maps" "Family.maps" (inFam 2) (pFn K (cF K) "maps")
  m_pMaps : PropOf K (cF K) "maps" (pAt K (cF K) "maps") (pFn K (cF K) "maps")
  d_pFSize : HasD K "size" "Family.size" (inFam 3) (pFn K (cF K) "size")
  m_pFSize : PropOf K (cF K) "size" (pAt K (cF K) "size") (pFn K (cF K) "size")
  d_cId : HasD K "identity" "Map.identity" (inMap 1) (cFn K (cM K) "identity")
  m_cId : ClX.CMet K (cM K) (.type "type") "identity" (pAt K (cM K) "identity") (cFn K (cM K) "identity")
  u_len : mg "len" = none
  u_isinstance : mg "isinstance" = none
  u_range : mg "range" = none
  u_enumerate : mg "enumerate" = none
  u_zip : mg "zip" = none
  u_dict : mg "dict" = none
  u_tuple : mg "tuple" = none
  u_list : mg "list" = none
  u_sorted : mg "sorted" = none
  u_int : mg "int" = none
  u_bool : mg "bool" = none
  u_all : mg "all" = none
  u_repr : mg "repr" = none
  u_min : mg "min" = none
  u_max : mg "max" = none
  i_MAX_SIZE : ∃ t, mg "MAX_SIZE" = some (.int 300 t)
  i_MOST_MAPS : ∃ t, mg "MOST_MAPS" = some (.int 10 t)
  i_MOST_LETTERS : ∃ t, mg "MOST_LETTERS" = some (.int 1000 t)
  i_MOST_GENERATED : ∃ t, mg "MOST_GENERATED" = some (.int 1000 t)
  i_MOST_SETS : ∃ t, mg "MOST_SETS" = some (.int 2000 t)
  g_Map : mg "Map" = some (.ref (cM K))
  c_Map : Cls K (cM K)
  s_Map : PySem.W.selfFirst K (cM K) = true
  k_Map : Mk K (cM K) (He.ma K (cM K) "__init__")
  e_Map : C8.InsC K (cM K)
  t_Map : PySem.W.typeIn K (.ref (cM K)) = some (.type "type")
  g_Family : mg "Family" = some (.ref (cF K))
  c_Family : Cls K (cF K)
  s_Family : PySem.W.selfFirst K (cF K) = true
  k_Family : Mk K (cF K) (He.ma K (cF K) "__init__")
  e_Family : C8.InsC K (cF K)
  t_Family : PySem.W.typeIn K (.ref (cF K)) = some (.type "type")
  r_Map : ClX.CRead K (cM K) (.type "type")
  ne_Map : PySem.W.findIn K (.ref (cM K)) "__ne__" = some (some (.builtin "object.__ne__"))
  ob_Map : PySem.W.mroIn K (cM K) (.type "object") = some true
  n_size : NoAttr K (cM K) "own_size"
  n_arrows : NoAttr K (cM K) "own_arrows"
  n_maps : NoAttr K (cF K) "own_maps"
  co_Family : StX.CallO K (cF K) (He.ma K (cF K) "__call__")
end CM
-- part B1
set_option Elab.async false
set_option linter.all false
set_option maxRecDepth 100000
set_option maxHeartbeats 4000000
/-! ### heaps, maps at addresses -/
namespace CM
open PySem PySem.Spec PyProof.Rows L2 StX
theorem Ext.mut {H H' : Hp} {p : Addr} {o : HO} (e : Ext H H') (h : H p = none) : Ext H (upd H' p o) := fun a u ha => by
  rw [upd_ne (ne_of_none ha h)]
  exact e a u ha
theorem Ext.none {H H' : Hp} {p : Addr} (e : Ext H H') (h : H' p = none) : H p = none := by
  cases h1 : H p with
  | none => rfl
  | some o =>
    rw [e p o h1] at h
    cases h
theorem Ext.unlock {H H' : Hp} {d : Addr} {od : Obj} {u : HO} (e : Ext (upd H d (.frz od u)) H') (h : H d = some u) : Ext H (upd H' d u) := fun a o ha => by
  by_cases hd : a = d
  · subst hd
    rw [upd_same, ← h, ha]
  · rw [upd_ne hd]
    exact e a o (by rw [upd_ne hd]; exact ha)
theorem Ext.made {H H1 : Hp} {x dx C : Addr} {fs : List (Str × V)} {o : HO} (nx : H x = Option.none) (nd : H dx = Option.none) (ne : dx ≠ x) (e : Ext (upd H dx (.own x)) H1) : Ext H (upd H1 x o) :=
  Ext.mut (fun a u ha => e a u (by rw [upd_ne (ne_of_none ha nd)]; exact ha)) nx
/-! assoc lists of numbers -/
def kvN (l : List (Nat × Nat)) : List (Key × V) := l.map fun p => (Sum.inl (p.1 : Int), V.int (p.2 : Int))
theorem kvN_length (l : List (Nat × Nat)) : (kvN l).length = l.length := List.length_map ..
theorem inl_ne {i j : Nat} (h : ¬ i = j) : ¬ (Sum.inl (i : Int) : Key) = Sum.inl (j : Int) := fun e => h (by have := Sum.inl.inj e; omega)
theorem valV_kvN : ∀ (l : List (Nat × Nat)) (i : Nat), valV (kvN l) (Sum.inl (i : Int) : Key) = (l.find? fun p => decide (p.1 = i)).map fun p => V.int (p.2 : Int)
  | [], i => rfl
  | p :: l, i => by
    by_cases h : p.1 = i
    · rw [List.find?_cons_of_pos (p := fun p : Nat × Nat => decide (p.1 = i)) (decide_eq_true h)]
      show valV ((Sum.inl (p.1 : Int), V.int (p.2 : Int)) :: kvN l) _ = _
      rw [valV_pos (by rw [h])]
      rfl
    · rw [List.find?_cons_of_neg (p := fun p : Nat × Nat => decide (p.1 = i)) (by simpa using h)]
      show valV ((Sum.inl (p.1 : Int), V.int (p.2 : Int)) :: kvN l) _ = _
      rw [valV_neg (inl_ne h), valV_kvN l i]
/-- the map of an assoc list -/
def pf (l : List (Nat × Nat)) : PF := fun i => (l.find? fun p => decide (p.1 = i)).map fun p => p.2
theorem valV_pf (l : List (Nat × Nat)) (i : Nat) : valV (kvN l) (Sum.inl (i : Int) : Key) = (pf l i).map fun j : Nat => V.int (j : Int) := by
  rw [valV_kvN]
  unfold pf
  rw [Option.map_map]
  rfl
theorem pf_mem : ∀ {l : List (Nat × Nat)}, (l.map Prod.fst).Nodup → ∀ {i j : Nat}, pf l i = some j ↔ (i, j) ∈ l
  | [], _, i, j => by simp [pf]
  | p :: l, h, i, j => by
    have h' : (p.1 :: l.map Prod.fst).Nodup := h
    obtain ⟨h1, h2⟩ := List.nodup_cons.mp h'
    unfold pf
    by_cases e : p.1 = i
    · rw [List.find?_cons_of_pos (p := fun p : Nat × Nat => decide (p.1 = i)) (decide_eq_true e), List.mem_cons]
      subst e
      constructor
      · intro q
        left
        have : p.2 = j := Option.some.inj q
        rw [← this]
      · rintro (q | q)
        · rw [← q]
          rfl
        · exact absurd (List.mem_map.mpr ⟨_, q, rfl⟩) h1
    · rw [List.find?_cons_of_neg (p := fun p : Nat × Nat => decide (p.1 = i)) (by simpa using e), List.mem_cons]
      have ih := pf_mem (l := l) h2 (i := i) (j := j)
      unfold pf at ih
      rw [ih]
      constructor
      · exact .inr
      · rintro (q | q)
        · exact absurd (by rw [← q]) e
        · exact q
/-- arrows that make a map of the size -/
structure Good (n : Nat) (l : List (Nat × Nat)) : Prop where
  nk : (l.map Prod.fst).Nodup
  nv : (l.map Prod.snd).Nodup
  lt : ∀ p, p ∈ l → p.1 < n ∧ p.2 < n
theorem Good.wf {n : Nat} {l : List (Nat × Nat)} (g : Good n l) : WF n (pf l) := ⟨fun i j h => g.lt (i, j) ((pf_mem g.nk).mp h), fun i k j h1 h2 => by
  obtain ⟨a, ha⟩ := List.mem_iff_getElem?.mp ((pf_mem g.nk).mp h1)
  obtain ⟨b, hb⟩ := List.mem_iff_getElem?.mp ((pf_mem g.nk).mp h2)
  have e := CM.nodup_ix g.nv (i := a) (j := b) (x := j) (by rw [List.getElem?_map, ha]; rfl) (by rw [List.getElem?_map, hb]; rfl)
  subst e
  rw [ha] at hb
  cases hb
  rfl⟩
theorem Good.len {n : Nat} {l : List (Nat × Nat)} (g : Good n l) : l.length ≤ n := by
  have := nodup_len g.nk (u := List.range n) fun x hx => by
    obtain ⟨p, hp, rfl⟩ := List.mem_map.mp hx
    exact List.mem_range.mpr (g.lt p hp).1
  rw [List.length_map, List.length_range] at this
  exact this
def rowsOf (n : Nat) (f : PF) : List (Nat × Nat) := (List.range n).filterMap fun i => (f i).map fun j => (i, j)
theorem mem_rows {n : Nat} {f : PF} {p : Nat × Nat} : p ∈ rowsOf n f ↔ p.1 < n ∧ f p.1 = some p.2 := by
  unfold rowsOf
  rw [List.mem_filterMap]
  constructor
  · rintro ⟨i, hi, e⟩
    obtain ⟨j, h1, h2⟩ := Option.map_eq_some_iff.mp e
    subst h2
    exact ⟨List.mem_range.mp hi, h1⟩
  · rintro ⟨h1, h2⟩
    exact ⟨p.1, List.mem_range.mpr h1, by rw [h2]; rfl⟩
theorem fm_keys (f : PF) : ∀ l : List Nat, l.Pairwise (· < ·) → ((l.filterMap fun i => (f i).map fun j => (i, j)).map Prod.fst).Pairwise (· < ·) ∧ ∀ x, x ∈ (l.filterMap fun i => (f i).map fun j => (i, j)).map Prod.fst → x ∈ l
  | [], _ => ⟨List.Pairwise.nil, fun x hx => by cases hx⟩
  | a :: l, h => by
    obtain ⟨h1, h2⟩ := List.pairwise_cons.mp h
    obtain ⟨i1, i2⟩ := fm_keys f l h2
    cases e : f a with
    | none =>
      have e2 : ((a :: l).filterMap fun i => (f i).map fun j => (i, j)) = l.filterMap fun i => (f i).map fun j => (i, j) := by
        rw [List.filterMap_cons, e]
        rfl
      rw [e2]
      exact ⟨i1, fun x hx => List.mem_cons_of_mem _ (i2 x hx)⟩
    | some j =>
      have e2 : ((a :: l).filterMap fun i => (f i).map fun j => (i, j)) = (a, j) :: l.filterMap fun i => (f i).map fun j => (i, j) := by
        rw [List.filterMap_cons, e]
        rfl
      rw [e2, List.map_cons]
      refine ⟨List.pairwise_cons.mpr ⟨fun x hx => h1 x (i2 x hx), i1⟩, fun x hx => ?_⟩
      rcases List.mem_cons.mp hx with q | q
      · rw [q]
        exact List.mem_cons_self
      · exact List.mem_cons_of_mem _ (i2 x q)
theorem rows_asc (n : Nat) (f : PF) : ((rowsOf n f).map Prod.fst).Pairwise (· < ·) := (fm_keys f _ (range_asc n)).1
theorem rows_good {n : Nat} {f : PF} (h : WF n f) : Good n (rowsOf n f) := ⟨asc_nodup (rows_asc n f), by
  have nd : (rowsOf n f).Nodup := by
    have := asc_nodup (rows_asc n f)
    exact (List.pairwise_map.mp this).imp fun z e => z (by rw [e])
  refine map_nodup_on (fun p hp q hq e => ?_) nd
  obtain ⟨_, h1⟩ := mem_rows.mp hp
  obtain ⟨_, h2⟩ := mem_rows.mp hq
  rw [e] at h1
  exact Prod.ext (h.inj _ _ _ h1 h2) e, fun p hp => h.dom _ _ (mem_rows.mp hp).2⟩
theorem pf_rows {n : Nat} {f : PF} (h : WF n f) : pf (rowsOf n f) = f := CM.ext fun i j => by
  rw [pf_mem (rows_good h).nk, mem_rows]
  exact ⟨fun z => z.2, fun z => ⟨(h.dom i j z).1, z⟩⟩
theorem pf_eq {n : Nat} {l : List (Nat × Nat)} {f : PF} (g : Good n l) (h : ∀ i j, (i, j) ∈ l ↔ f i = some j) : pf l = f := CM.ext fun i j => by
  rw [pf_mem g.nk, h]
theorem rows_len {n : Nat} {f : PF} (h : WF n f) : (rowsOf n f).length ≤ n := (rows_good h).len
theorem valV_rows {n : Nat} {f : PF} (h : WF n f) (i : Nat) : valV (kvN (rowsOf n f)) (Sum.inl (i : Int) : Key) = (f i).map fun j : Nat => V.int (j : Int) := by
  rw [valV_pf, pf_rows h]
/-- the attributes of a map -/
theorem sa_ne : ¬ (("own_size" : Str) = "own_arrows") := by decide +kernel
theorem as_ne : ¬ (("own_arrows" : Str) = "own_size") := by decide +kernel
def mFld (n : Nat) (d : Addr) : List (Str × V) := putF "own_arrows" (.ref d) (putF "own_size" (.int n) [])
theorem mFld_size (n : Nat) (d : Addr) : (mFld n d).lookup ("own_size" : Str) = some (.int n) := by
  unfold mFld
  rw [lookup_putF, if_neg sa_ne, lookup_putF, if_pos rfl]
theorem mFld_arrows (n : Nat) (d : Addr) : (mFld n d).lookup ("own_arrows" : Str) = some (.ref d) := by
  unfold mFld
  rw [lookup_putF, if_pos rfl]
theorem mFld_no (n : Nat) (d : Addr) {m : Str} (h1 : ¬ m = "own_arrows") (h2 : ¬ m = "own_size") : (mFld n d).lookup m = none := by
  unfold mFld
  rw [lookup_putF, if_neg h1, lookup_putF, if_neg h2]
  rfl
/-- a map of the size n stands at p -/
structure MapAt (C : Addr) (H : Hp) (p : Addr) (n : Nat) (f : PF) : Prop where
  ob : ∃ dx d, H p = some (.ins C dx (mFld n d)) ∧ H d = some (.dK (kvN (rowsOf n f)))
  wf : WF n f
  lo : 1 ≤ n
  hi : n ≤ 300
theorem MapAt.ext {C p : Addr} {H H' : Hp} {n : Nat} {f : PF} (h : MapAt C H p n f) (e : Ext H H') : MapAt C H' p n f := by
  obtain ⟨⟨dx, d, h1, h2⟩, h3, h4, h5⟩ := h
  exact ⟨⟨dx, d, e _ _ h1, e _ _ h2⟩, h3, h4, h5⟩
theorem small300 {n m : Nat} (h : n ≤ m) (k : m ≤ 300) : n < sizeLine := Nat.lt_of_le_of_lt (Nat.le_trans h k) (by decide)
/-- what a def's promise is by -/
theorem fn_by {P : Program} {w : World} {K : PySem.W.Frag} {mg : Str → Option Value} {base : Heap} {x qual : Str} {st : Stmt} {f : Addr} {N ps : List Str} {k : Nat} {sp : Sp} (F : HasD K x qual st f) (S : FnScope N ps (defScope st))
    (hb : ∀ (kV doc pm : Value) (an : Option Addr) (cdv ct : Value) (us : List Value), us.length = ps.length → bindArgs (PySem.W.fnOf x qual (defArgs st) (defBody st) (defScope st) .none kV doc pm an cdv ct) ⟨us, []⟩ = pure (ps.zip us))
    (len : ∀ vs H Q E, sp vs H Q E → vs.length = ps.length)
    (hbody : ∀ (cdv : Value) (A : Around) (outer : List Env) (s : Shared) (H : Hp) (vs : List V) (Q : VK) (E : XK), Room k (A.deeper (envOfC qual (defScope st) s.heap.objs.size f cdv)) → sp vs H Q E →
      ∃ t, PSs (cxOf CX0 P w K mg base N qual (defScope st) f cdv A outer s H E).nox (defBody st) t ∧ t { nx := fun _ H' => Q .non H', rt := Q } (start N vs) H) : Fn P w K mg base (k + 1) f sp := by
  obtain ⟨fd, F⟩ := F
  have G : FnOk P w K mg base CX0 (k + 1) f fd ps sp := F.ok S len fun cdv A outer s H vs Q E hr hsp => by
    obtain ⟨t, h, q⟩ := hbody cdv A outer s H vs Q E hr hsp
    exact ⟨t, h.nox, q⟩
  exact (G.raw (F.bindsN hb) .nil).imp fun vs H Q E h => by rw [List.append_nil]; exact h
end CM
-- part R2
set_option Elab.async false
set_option linter.all false
set_option maxRecDepth 100000
set_option maxHeartbeats 4000000
/-! Rules: properties by a positional promise, dict comprehensions over walks. -/
namespace CM
open PySem PySem.Spec PyProof.Rows L2 StX
section
variable {X : Cx} {k : Nat} {C p g a dx : Addr} {fs : List (Str × V)} {f : Str} {sp : Sp} {e : Expr} {pos : Pos} {ta : TE}
theorem getpr_ok {pins : List (Addr × Obj)} {σ : L2.St} {H : Hp} {s : Shared} {Q : VK} {b : Bool} {E' : Value → Shared → Prop} (I : Inv X pins σ H s) (ea : H a = some (.ins C dx fs)) (c : Cls X.K C) (hp : PropOf X.K C f p g)
    (F : Fn X.prog X.w X.K X.mg X.base k g sp) (hr : Room (k + 1) X.A) (h : sp [.ref a] H Q E0) :
    wpAny (model X.prog X.w) X.A (getAttr (.ref a) f b) (EP X pins σ Q) E' s := by
  obtain ⟨mA, O, _, _, _, _⟩ := ins_get I.hok ea
  obtain ⟨od, J, _⟩ := O.look
  obtain ⟨rest, hrec⟩ := hp.rec_
  have I1 := I.tok (s.toks + 1)
  have hc : (PySem.W.clsIn X.K C).isSome = true := by
    obtain ⟨cd, hc, _⟩ := PySem.W.any_some c.hd
    rw [hc]
    rfl
  refine PySem.W.get_bind I.kIn J (PySem.W.plainGet_of (c.get f)).1 (PySem.W.findObj_data hc hp.at_ hp.get hp.tak) (PySem.W.plainGet_of (c.get f)).2 (wpAny_call (PySem.W.prop_get (s := { s with toks := s.toks + 1 }) I.kIn hrec ?_))
  refine codeAny_mono (F X.A.in1 X.stack { s with toks := s.toks + 1 } H [.ref a] [.ref a] Q E0 hr.in1 I1.env0.in1 (.cons rfl .nil) h) fun r s' hq => ?_
  cases r with
  | error er => exact hq.elim
  | ok fl =>
    cases fl with
    | ret u =>
      obtain ⟨v, H', I3, rv, q3⟩ := I1.after hq
      show wpAny _ _ (handedOut u) _ _ _
      rw [PySem.W.handedOut_of (handed_of rv)]
      exact wpAny_pure ⟨v, H', I3, rv, q3⟩
    | next => exact False.elim hq
    | brk => exact False.elim hq
    | cont => exact False.elim hq
def tPr (C : Addr) (sp : Sp) (ta : TE) : TE := fun σ H Q => ta σ H fun x H1 => ∃ a dx fs, x = .ref a ∧ H1 a = some (.ins C dx fs) ∧ sp [.ref a] H1 Q E0
theorem pe_pr (he : PE X e ta) (c : Cls X.K C) (hp : PropOf X.K C f p g) (F : Fn X.prog X.w X.K X.mg X.base k g sp) (hr : Room (k + 1) X.A)
    (hab : attributeBase e f X.env (eval e X.env) = eval e X.env := by rfl) : PE X (.Attribute e f pos) (tPr C sp ta) := by
  refine ⟨fun pins s σ H Q I h => ?_⟩
  refine attr_of hab (thn (he.run pins s σ H _ I h) fun u s1 ⟨x, H1, I1, rx, a, dx, fs, ex, ea, q⟩ => ?_)
  subst ex
  obtain rfl : u = Value.ref a := rx
  exact getpr_ok I1 ea c hp F hr q
end
section
variable {J : It} {n : Nat} {G : Hp → Prop} {Y : Nat → Hp → V → Hp → Prop}
/-- a dict comprehension over a walk -/
theorem dc_it (w : Walk J n G Y) {g : TG} {tt : TT} {tk tv : TE} {vs : List Nat} {σ : L2.St} {H1 : Hp} {D : Addr} {Qd : Hp → Prop} (Pv : Nat → Hp → Prop) (h0 : Pv 0 (upd H1 D (.dK []))) (hG : ∀ i H, i ≤ n → Pv i H → G H)
    (hs : ∀ i x H H', i < n → Pv i H → Y i H x H' → g x (wipe σ vs) H' fun σ2 H2 => wipe σ2 vs = wipe σ vs ∧ tt σ2 H2 fun b H3 =>
      if b = true then tk σ2 H3 fun y H4 => tv σ2 H4 fun z H5 => ∃ kvs k, y = kV k ∧ H5 D = some (.dK kvs) ∧ kvs.length < sizeLine ∧ Pv (i + 1) (upd H5 D (.dK (putK kvs k z))) else Pv (i + 1) H3) (hd : ∀ H, Pv n H → Qd H) :
    ∃ W : Nat → Nat → Hp → Prop, (∃ m, W 0 m (upd H1 D (.dK []))) ∧ ∀ i m H, W i m H →
      (J.stop i H ∧ Qd H) ∨ (J.go i H ∧ ∃ Nx : Hp → Prop, (∀ H', Nx H' → ∃ m', m' < m ∧ W (i + 1) m' H') ∧ ∀ x H', J.yld i H x H' → g x (wipe σ vs) H' fun σ2 H2 => wipe σ2 vs = wipe σ vs ∧ tt σ2 H2 fun b H3 =>
        if b = true then tk σ2 H3 fun y H4 => tv σ2 H4 fun z H5 => ∃ kvs k, y = kV k ∧ H5 D = some (.dK kvs) ∧ kvs.length < sizeLine ∧ Nx (upd H5 D (.dK (putK kvs k z))) else Nx H3) := by
  refine ⟨fun i m H => m = n - i ∧ i ≤ n ∧ Pv i H, ⟨n, by simp, Nat.zero_le _, h0⟩, ?_⟩
  rintro i m H ⟨rfl, hi, p⟩
  have q := hG i H hi p
  by_cases hlt : i < n
  · refine .inr ⟨w.goes i H hlt q, Pv (i + 1), fun H' p' => ⟨n - (i + 1), by omega, rfl, hlt, p'⟩, fun x H' y => hs i x H H' hlt p (w.yields i H x H' hlt q y)⟩
  · have e : i = n := by omega
    subst e
    exact .inl ⟨w.stops H q, hd H p⟩
end
end CM
-- part D1
set_option Elab.async false
set_option linter.all false
set_option maxRecDepth 100000
set_option maxHeartbeats 4000000
/-! ### the small checks -/
namespace CM
open PySem PySem.Spec PyProof.Rows L2 StX
section
variable {P : Program} {w : World} {K : PySem.W.Frag} {mg : Str → Option Value} {base : Heap}
/-! is_integer -/
def spIsInt : Sp := fun vs H Q _ => ∃ n : Int, vs = [.int n] ∧ Q (.bl true) H
theorem sc_isint : FnScope ["value"] ["value"] (defScope (top 14)) := ⟨rfl, rfl, rfl, by decide +kernel, rfl, by decide +kernel, by decide +kernel⟩
theorem ok_isint (T : Txt K mg) : Fn P w K mg base 1 (He.ga K "is_integer") spIsInt := by
  refine fn_by T.d_is_integer sc_isint (fun _ _ _ _ _ _ us hl => match us, hl with | [_], _ => rfl) (fun vs H Q E h => ?_) (fun cdv A outer s H vs Q E hr h => ?_)
  · obtain ⟨n, rfl, _⟩ := h
    rfl
  · obtain ⟨n, rfl, k⟩ := h
    refine ⟨_, pss_one (ps_ret (pe_and (pe_callB call_isi (by rfl) T.u_isinstance (by decide +kernel) (pa_cons (pv 0) (pa_cons (pe_bltn (v := .ty "int") (by rfl) T.u_int (by decide +kernel) rfl) pa_nil)))
      (pe_one (pe_not (pe_callB call_isi (by rfl) T.u_isinstance (by decide +kernel) (pa_cons (pv 0) (pa_cons (pe_bltn (v := .ty "bool") (by rfl) T.u_bool (by decide +kernel) rfl) pa_nil))))))), ?_⟩
    refine ⟨_, rfl, .int n, .ty "int", .type "int", .type "int", true, rfl, .ty _, .base (.int n), kit_ty (by decide +kernel), true, rfl, iteT ?_⟩
    exact ⟨_, rfl, .int n, .ty "bool", .type "int", .type "bool", false, rfl, .ty _, .base (.int n), kit_ty (by decide +kernel), false, rfl, k⟩
/-! in_range -/
def spInRange : Sp := fun vs H Q _ => ∃ v a b : Int, vs = [.int v, .int a, .int b] ∧ Q (.bl (decide (a ≤ v ∧ v ≤ b))) H
theorem sc_inrange : FnScope ["value", "least", "most"] ["value", "least", "most"] (defScope (top 15)) := ⟨rfl, rfl, rfl, by decide +kernel, rfl, by decide +kernel, by decide +kernel⟩
theorem ok_inrange (T : Txt K mg) : Fn P w K mg base 2 (He.ga K "in_range") spInRange := by
  refine fn_by T.d_in_range sc_inrange (fun _ _ _ _ _ _ us hl => match us, hl with | [_, _, _], _ => rfl) (fun vs H Q E h => ?_) (fun cdv A outer s H vs Q E hr h => ?_)
  · obtain ⟨v, a, b, rfl, _⟩ := h
    rfl
  · obtain ⟨v, a, b, rfl, k⟩ := h
    have kI : PySem.W.keepIn K (.ref (He.ga K "is_integer")) = true := let ⟨_, F⟩ := T.d_is_integer; F.kp
    refine ⟨_, pss_one (ps_ret (pe_and (pe_fn (ok_isint T) hr (by rfl) T.g_is_integer kI (pa_cons (pv 0) pa_nil)) (pe_one (pe_chain op_le op_le (pv 1) (pv 0) (pv 2))))), ?_⟩
    refine ⟨_, rfl, v, rfl, true, rfl, iteT ?_⟩
    refine ⟨_, rfl, _, rfl, a, v, rfl, rfl, _, rfl, ?_⟩
    by_cases h1 : a ≤ v
    · rw [if_pos (decide_eq_true h1)]
      refine ⟨_, rfl, v, b, rfl, rfl, ?_⟩
      have e : decide (a ≤ v ∧ v ≤ b) = decide (v ≤ b) := by simp [h1]
      rw [e] at k
      exact k
    · rw [if_neg (by simp [h1])]
      have e : decide (a ≤ v ∧ v ≤ b) = false := by simp [h1]
      rw [e] at k
      exact k
end
end CM
-- part D2
set_option Elab.async false
set_option linter.all false
set_option maxRecDepth 100000
set_option maxHeartbeats 4000000
/-! ### checks of sizes, elements, arrows; the parts of a map -/
namespace CM
open PySem PySem.Spec PyProof.Rows L2 StX
theorem HasD.kp {K : PySem.W.Frag} {x q : Str} {st : Stmt} {f : Addr} (h : HasD K x q st f) : PySem.W.keepIn K (.ref f) = true := let ⟨_, F⟩ := h; F.kp
theorem Ext.seq {K : PySem.W.Frag} {H H' : Hp} {a : Addr} {xs : List V} (e : Ext H H') (h : SqL K H a xs) : SqL K H' a xs := h.ext e
section
variable {P : Program} {w : World} {K : PySem.W.Frag} {mg : Str → Option Value} {base : Heap}
/-! check_size -/
def spChkSize : Sp := fun vs H Q _ => ∃ n : Nat, vs = [.int n] ∧ 1 ≤ n ∧ n ≤ 300 ∧ Q .non H
theorem sc_chksize : FnScope ["size"] ["size"] (defScope (top 16)) := ⟨rfl, rfl, rfl, by decide +kernel, rfl, by decide +kernel, by decide +kernel⟩
theorem ok_chksize (T : Txt K mg) : Fn P w K mg base 3 (He.ga K "check_size") spChkSize := by
  refine fn_by T.d_check_size sc_chksize (fun _ _ _ _ _ _ us hl => match us, hl with | [_], _ => rfl) (fun vs H Q E h => ?_) (fun cdv A outer s H vs Q E hr h => ?_)
  · obtain ⟨n, rfl, _⟩ := h
    rfl
  · obtain ⟨n, rfl, h1, h2, k⟩ := h
    obtain ⟨tk, hM⟩ := T.i_MAX_SIZE
    refine ⟨_, pss_one (ps_if (pt_not (pt_val (pe_fn (ok_inrange T) hr (by rfl) T.g_in_range T.d_in_range.kp (pa_cons (pv 0) (pa_cons pe_int (pa_cons (pe_glob (v := .int 300) (by rfl) hM ⟨_, rfl⟩) pa_nil))))))
      (pss_never (X := _)) pss_nil), ?_⟩
    refine ⟨_, rfl, n, 1, 300, rfl, _, rfl, ?_⟩
    have e : decide ((1 : Int) ≤ n ∧ (n : Int) ≤ 300) = true := decide_eq_true ⟨by omega, by omega⟩
    rw [e]
    exact iteF k
/-! check_elements, of one value -/
def spChkEl (K : PySem.W.Frag) : Sp := fun vs H Q _ => ∃ (n e : Nat) (p : Addr), vs = [.int n, .ref p] ∧ SqL K H p [.int e] ∧ e < n ∧ ∀ H', Ext H H' → Q .non H'
theorem sc_chkel : FnScope ["size", "points", "seen", "element"] ["size", "points"] (defScope (top 17)) := ⟨rfl, rfl, rfl, by decide +kernel, rfl, by decide +kernel, by decide +kernel⟩
theorem ok_chkel (T : Txt K mg) : Fn P w K mg base 3 (He.ga K "check_elements") (spChkEl K) := by
  refine fn_by T.d_check_elements sc_chkel (fun _ _ _ _ _ _ us hl => match us, hl with | [_, _], _ => rfl) (fun vs H Q E h => ?_) (fun cdv A outer s H vs Q E hr h => ?_)
  · obtain ⟨n, e, p, rfl, _⟩ := h
    rfl
  · obtain ⟨n, e, p, rfl, hp, hen, k⟩ := h
    have hu := hu_of hr
    refine ⟨_, pss_cons (ps_set (i := 2) sc_chkel.nd rfl (Or.inl rfl) pe_dnewK)
      (pss_one (ps_for PassesOwn.never rfl (pi_list (pv 1)) (pg_name (i := 3) sc_chkel.nd rfl (Or.inl rfl))
        (pss_cons (ps_if (PW.pt (pw_or (pt_not (pt_val (pe_fn (ok_inrange T) hr (by rfl) T.g_in_range T.d_in_range.kp (pa_cons (pv 3) (pa_cons pe_int (pa_cons (pe_op op_sub (pv 0) pe_int) pa_nil))))))
          (pw_or1 (pt_cmp (pc_din hu (pv 3) (pv 2)))))) (pss_never (X := _)) pss_nil)
        (pss_one (ps_dput hu (pv 2) (pv 3) pe_bl rfl))))), ?_⟩
    intro d hd
    refine ⟨_, rfl, p, rfl, ⟨_, hp.ext (Ext.upd hd)⟩, for_list (K := K) (a := p) (xs := [V.int e]) (fun i σ H2 => ∃ (v : Option V) (kvs : List (Key × V)), σ = [some (.int n), some (.ref p), some (.ref d), v] ∧ Ext H H2 ∧ H2 d = some (.dK kvs) ∧ (i = 0 → kvs = []))
      ⟨none, [], rfl, Ext.upd hd, upd_same, fun _ => rfl⟩ (fun i σ H2 _ ⟨_, _, _, e1, _⟩ => hp.ext e1) ?_ ?_⟩
    · rintro i y σ H2 hi ⟨v, kvs, rfl, e1, hk, h0⟩
      have hi0 : i = 0 := by
        have := (List.getElem?_eq_some_iff.mp hi).1
        simp at this
        exact this
      subst hi0
      cases hi
      rw [h0 rfl] at hk
      refine ⟨_, rfl, _, rfl, n, 1, rfl, rfl, e, 0, (n : Int) - 1, rfl, _, rfl, ?_⟩
      have e2 : decide ((0 : Int) ≤ e ∧ (e : Int) ≤ (n : Int) - 1) = true := decide_eq_true ⟨by omega, by omega⟩
      rw [e2]
      refine iteF ⟨_, rfl, _, rfl, d, _, rfl, DGet.k (k := Sum.inl (e : Int)) hk, _, rfl, iteF ?_⟩
      refine ⟨_, rfl, _, rfl, d, _, rfl, DPut.k (k := Sum.inl (e : Int)) hk (by decide), ?_⟩
      exact ⟨_, _, rfl, Ext.mut e1 hd, upd_same, fun h => (nomatch h)⟩
    · rintro σ H2 ⟨v, kvs, rfl, e1, _⟩
      exact k H2 e1
/-! are_arrows -/
def spArr : Sp := fun vs H Q _ => ∃ (n : Nat) (d : Addr) (l : List (Nat × Nat)), vs = [.int n, .ref d] ∧ H d = some (.dK (kvN l)) ∧ Good n l ∧ n ≤ 300 ∧ ∀ H', Ext H H' → Q (.bl true) H'
theorem sc_arr : FnScope ["size", "arrows", "targets", "source", "target"] ["size", "arrows"] (defScope (top 18)) := ⟨rfl, rfl, rfl, by decide +kernel, rfl, by decide +kernel, by decide +kernel⟩
theorem kvN_get {l : List (Nat × Nat)} {i : Nat} {p : Nat × Nat} (h : l[i]? = some p) : (kvN l)[i]? = some (Sum.inl (p.1 : Int), V.int (p.2 : Int)) := by
  unfold kvN
  rw [List.getElem?_map, h]
  rfl
theorem take_mem {α : Type} {l : List α} {i : Nat} {x : α} (h : x ∈ l.take i) : ∃ j, j < i ∧ l[j]? = some x := by
  obtain ⟨j, hj⟩ := List.mem_iff_getElem?.mp h
  rw [List.getElem?_take] at hj
  split at hj
  · rename_i q
    exact ⟨j, q, hj⟩
  · cases hj
/-- the targets so far -/
theorem tgt_new {l : List (Nat × Nat)} {n i : Nat} {p : Nat × Nat} (g : Good n l) (h : l[i]? = some p) : valV (((l.take i).map fun q => ((Sum.inl (q.2 : Int) : Key), V.bl true))) (Sum.inl (p.2 : Int)) = none := by
  cases e : valV (((l.take i).map fun q => ((Sum.inl (q.2 : Int) : Key), V.bl true))) (Sum.inl (p.2 : Int)) with
  | none => rfl
  | some v =>
    have hm := valV_in e
    rw [List.map_map] at hm
    obtain ⟨q, hq, eq⟩ := List.mem_map.mp hm
    obtain ⟨j, hj, hl⟩ := take_mem hq
    have e2 : q.2 = p.2 := by
      have : (Sum.inl (q.2 : Int) : Key) = Sum.inl (p.2 : Int) := eq
      have := Sum.inl.inj this
      omega
    have := CM.nodup_ix g.nv (i := j) (j := i) (x := p.2) (by rw [List.getElem?_map, hl, ← e2]; rfl) (by rw [List.getElem?_map, h]; rfl)
    omega
theorem ok_arr (T : Txt K mg) : Fn P w K mg base 3 (He.ga K "are_arrows") spArr := by
  refine fn_by T.d_are_arrows sc_arr (fun _ _ _ _ _ _ us hl => match us, hl with | [_, _], _ => rfl) (fun vs H Q E h => ?_) (fun cdv A outer s H vs Q E hr h => ?_)
  · obtain ⟨n, d, l, rfl, _⟩ := h
    rfl
  · obtain ⟨n, d, l, rfl, hd, g, hn, k⟩ := h
    have hu := hu_of hr
    refine ⟨_, pss_cons (ps_if (pt_not (pt_val (pe_callB call_isi (by rfl) T.u_isinstance (by decide +kernel) (pa_cons (pv 1) (pa_cons (pe_bltn (v := .ty "dict") (by rfl) T.u_dict (by decide +kernel) rfl) pa_nil))))) (pss_never (X := _)) pss_nil)
      (pss_cons (ps_set (i := 2) sc_arr.nd rfl (Or.inl rfl) pe_dnewK)
      (pss_cons (ps_lock (ps_for PassesOwn.never rfl (pi_items (pv 1)) (pg_tup rfl (pgs_cons (pg_name (i := 3) sc_arr.nd rfl (Or.inl rfl)) (pgs_cons (pg_name (i := 4) sc_arr.nd rfl (Or.inl rfl)) pgs_nil)))
        (pss_cons (ps_if (PW.pt (pw_or (pt_not (pt_val (pe_fn (ok_inrange T) hr (by rfl) T.g_in_range T.d_in_range.kp (pa_cons (pv 3) (pa_cons pe_int (pa_cons (pe_op op_sub (pv 0) pe_int) pa_nil))))))
          (pw_or (pt_not (pt_val (pe_fn (ok_inrange T) hr (by rfl) T.g_in_range T.d_in_range.kp (pa_cons (pv 4) (pa_cons pe_int (pa_cons (pe_op op_sub (pv 0) pe_int) pa_nil))))))
          (pw_or1 (pt_cmp (pc_din hu (pv 4) (pv 2))))))) (pss_never (X := _)) pss_nil)
        (pss_one (ps_dput hu (pv 2) (pv 4) pe_bl rfl)))))
      (pss_one (ps_ret pe_bl)))), ?_⟩
    refine ⟨_, rfl, .ref d, .ty "dict", .type "dict", .type "dict", true, rfl, .ty _, .base (.dK hd), kit_ty (by decide +kernel), _, rfl, iteF ?_⟩
    intro t ht
    have ntd : d ≠ t := ne_of_none hd ht
    refine ⟨d, .dK (kvN l), by rw [upd_ne ntd]; exact hd, trivial, fun od => ?_⟩
    refine ⟨_, rfl, d, od, kvN l, rfl, upd_same, for_it walk_items (fun i σ H2 => ∃ v3 v4, σ = [some (.int n), some (.ref d), some (.ref t), v3, v4] ∧ Ext (upd H d (.frz od (.dK (kvN l)))) H2 ∧ H2 t = some (.dK ((l.take i).map fun q => ((Sum.inl (q.2 : Int) : Key), V.bl true))))
      ⟨none, none, rfl, ?_, ?_⟩ (fun i σ H2 _ ⟨_, _, _, e1, _⟩ => e1 _ _ upd_same) ?_ ?_⟩
    · intro b o hb
      by_cases hbd : b = d
      · rw [hbd, upd_same] at hb ⊢
        exact hb
      · rw [upd_ne hbd] at hb ⊢
        rw [upd_ne (ne_of_none hb ht)]
        exact hb
    · rw [upd_ne ntd.symm, upd_same]
      rfl
    · rintro i x σ H2 H3 hi ⟨v3, v4, rfl, e1, h3⟩ ⟨T', a, b, rfl, hT, rfl, hx, hy⟩
      rw [kvN_length] at hi
      obtain ⟨p, hp⟩ : ∃ p, l[i]? = some p := ⟨l[i], List.getElem?_eq_getElem hi⟩
      simp only [kvN_get hp, Option.map_some] at hx hy
      cases hx
      cases hy
      have hpm := g.lt p (List.mem_of_getElem? hp)
      have ntT : t ≠ T' := ne_of_none h3 hT
      have ndT : d ≠ T' := ne_of_none (e1 _ _ upd_same) hT
      refine ⟨T', _, rfl, Or.inl (Or.inl upd_same), rfl, _, _, rfl, _, _, rfl, rfl, ?_⟩
      refine ⟨_, rfl, _, rfl, n, 1, rfl, rfl, p.1, 0, (n : Int) - 1, rfl, _, rfl, ?_⟩
      have e2 : decide ((0 : Int) ≤ (p.1 : Int) ∧ (p.1 : Int) ≤ (n : Int) - 1) = true := decide_eq_true ⟨by omega, by omega⟩
      rw [e2]
      refine iteF ⟨_, rfl, _, rfl, n, 1, rfl, rfl, p.2, 0, (n : Int) - 1, rfl, _, rfl, ?_⟩
      have e3 : decide ((0 : Int) ≤ (p.2 : Int) ∧ (p.2 : Int) ≤ (n : Int) - 1) = true := decide_eq_true ⟨by omega, by omega⟩
      rw [e3]
      have h4 : (upd H2 T' (.tup [kV (Sum.inl (p.1 : Int)), V.int (p.2 : Int)])) t = some (.dK ((l.take i).map fun q => ((Sum.inl (q.2 : Int) : Key), V.bl true))) := by rw [upd_ne ntT]; exact h3
      refine iteF ⟨_, rfl, _, rfl, t, _, rfl, DGet.k (k := Sum.inl (p.2 : Int)) h4, _, rfl, ?_⟩
      rw [tgt_new g hp]
      refine iteF ⟨_, rfl, _, rfl, t, _, rfl, DPut.k (k := Sum.inl (p.2 : Int)) h4 (by
        rw [List.length_map, List.length_take]
        have := g.len
        exact small300 (m := n) (by omega) hn), ?_⟩
      refine ⟨_, _, rfl, Ext.mut (Ext.upd' e1 hT) (by rw [upd_ne ntd.symm]; exact ht), ?_⟩
      rw [upd_same, putK_new _ (tgt_new g hp), List.take_add_one, hp, List.map_append]
      rfl
    · rintro σ H2 ⟨v3, v4, rfl, e1, h3⟩
      refine ⟨e1 _ _ upd_same, ?_⟩
      exact k _ (Ext.unlock e1 hd)
end
end CM
-- part D3
set_option Elab.async false
set_option linter.all false
set_option maxRecDepth 100000
set_option maxHeartbeats 4000000
/-! ### parts of a map, making a map -/
namespace CM
open PySem PySem.Spec PyProof.Rows L2 StX
section
variable {P : Program} {w : World} {K : PySem.W.Frag} {mg : Str → Option Value} {base : Heap}
/-! Map.size, Map.arrows -/
def spSize (K : PySem.W.Frag) : Sp := fun vs H Q _ => ∃ (p : Addr) (n : Nat) (f : PF), vs = [.ref p] ∧ MapAt (cM K) H p n f ∧ Q (.int n) H
theorem sc_self6 : FnScope ["self"] ["self"] (defScope (inMap 6)) := ⟨rfl, rfl, rfl, by decide +kernel, rfl, by decide +kernel, by decide +kernel⟩
theorem ok_size (T : Txt K mg) : Fn P w K mg base 1 (pFn K (cM K) "size") (spSize K) := by
  refine fn_by T.d_pSize sc_self6 (fun _ _ _ _ _ _ us hl => match us, hl with | [_], _ => rfl) (fun vs H Q E h => ?_) (fun cdv A outer s H vs Q E hr h => ?_)
  · obtain ⟨p, n, f, rfl, _⟩ := h
    rfl
  · obtain ⟨p, n, f, rfl, ⟨⟨dx, d, h1, h2⟩, _⟩, k⟩ := h
    exact ⟨_, pss_one (ps_ret (pe_fld (pv 0) rfl)), _, rfl, p, cM K, dx, _, _, rfl, h1, T.c_Map, T.n_size, mFld_size _ _, k⟩
def spArrows (K : PySem.W.Frag) : Sp := fun vs H Q _ => ∃ (p : Addr) (n : Nat) (f : PF), vs = [.ref p] ∧ MapAt (cM K) H p n f ∧ ∀ d, H d = none → Q (.ref d) (upd H d (.dK (kvN (rowsOf n f))))
theorem sc_self7 : FnScope ["self"] ["self"] (defScope (inMap 7)) := ⟨rfl, rfl, rfl, by decide +kernel, rfl, by decide +kernel, by decide +kernel⟩
theorem ok_arrows (T : Txt K mg) : Fn P w K mg base 1 (pFn K (cM K) "arrows") (spArrows K) := by
  refine fn_by T.d_pArrows sc_self7 (fun _ _ _ _ _ _ us hl => match us, hl with | [_], _ => rfl) (fun vs H Q E h => ?_) (fun cdv A outer s H vs Q E hr h => ?_)
  · obtain ⟨p, n, f, rfl, _⟩ := h
    rfl
  · obtain ⟨p, n, f, rfl, ⟨⟨dx, d, h1, h2⟩, _⟩, k⟩ := h
    refine ⟨_, pss_one (ps_ret (pe_callTy call_dictD (by rfl) T.u_dict (by decide +kernel) (pa_cons (pe_fld (pv 0) rfl) pa_nil))), ?_⟩
    exact ⟨_, rfl, p, cM K, dx, _, _, rfl, h1, T.c_Map, T.n_arrows, mFld_arrows _ _, d, _, rfl, Or.inl h2, k⟩
/-! common_size, check_map -/
def spComSize (K : PySem.W.Frag) : Sp := fun vs H Q _ => ∃ (p q : Addr) (n : Nat) (f g : PF), vs = [.ref p, .ref q] ∧ MapAt (cM K) H p n f ∧ MapAt (cM K) H q n g ∧ Q (.int n) H
theorem sc_comsize : FnScope ["one", "other"] ["one", "other"] (defScope (top 19)) := ⟨rfl, rfl, rfl, by decide +kernel, rfl, by decide +kernel, by decide +kernel⟩
theorem ok_comsize (T : Txt K mg) : Fn P w K mg base 3 (He.ga K "common_size") (spComSize K) := by
  refine fn_by T.d_common_size sc_comsize (fun _ _ _ _ _ _ us hl => match us, hl with | [_, _], _ => rfl) (fun vs H Q E h => ?_) (fun cdv A outer s H vs Q E hr h => ?_)
  · obtain ⟨p, q, n, f, g, rfl, _⟩ := h
    rfl
  · obtain ⟨p, q, n, f, g, rfl, h1, h2, k⟩ := h
    refine ⟨_, pss_cons (ps_if (pt_cmpR op_ne (pe_pr (pv 0) T.c_Map T.m_pSize (ok_size T) hr) (pe_pr (pv 1) T.c_Map T.m_pSize (ok_size T) hr) (nomark _)) (pss_never (X := _)) pss_nil)
      (pss_one (ps_ret (pe_pr (pv 0) T.c_Map T.m_pSize (ok_size T) hr))), ?_⟩
    obtain ⟨dx, d, e1, _⟩ := h1.ob
    obtain ⟨dy, d', e2, _⟩ := h2.ob
    refine ⟨_, rfl, p, dx, _, rfl, e1, p, n, f, rfl, h1, _, rfl, q, dy, _, rfl, e2, q, n, g, rfl, h2, rfl, _, rfl, ?_⟩
    refine iteNS rfl ?_
    exact ⟨_, rfl, p, dx, _, rfl, e1, p, n, f, rfl, h1, k⟩
def spChkMap (K : PySem.W.Frag) : Sp := fun vs H Q _ => ∃ (p : Addr) (n : Nat) (f : PF), vs = [.ref p] ∧ MapAt (cM K) H p n f ∧ Q .non H
theorem sc_chkmap : FnScope ["value"] ["value"] (defScope (top 25)) := ⟨rfl, rfl, rfl, by decide +kernel, rfl, by decide +kernel, by decide +kernel⟩
theorem ok_chkmap (T : Txt K mg) : Fn P w K mg base 1 (He.ga K "check_map") (spChkMap K) := by
  refine fn_by T.d_check_map sc_chkmap (fun _ _ _ _ _ _ us hl => match us, hl with | [_], _ => rfl) (fun vs H Q E h => ?_) (fun cdv A outer s H vs Q E hr h => ?_)
  · obtain ⟨p, n, f, rfl, _⟩ := h
    rfl
  · obtain ⟨p, n, f, rfl, h1, k⟩ := h
    obtain ⟨dx, d, e1, _⟩ := h1.ob
    refine ⟨_, pss_one (ps_if (pt_not (pt_val (pe_callB (C8.call_isC T.e_Map) (by rfl) T.u_isinstance (by decide +kernel) (pa_cons (pv 0) (pa_cons (pe_glob (v := .ref (cM K)) (by rfl) T.g_Map rfl) pa_nil))))) (pss_never (X := _)) pss_nil), ?_⟩
    exact ⟨_, rfl, p, dx, _, rfl, e1, _, rfl, iteF k⟩
/-! Map(size, arrows) -/
def spMInit (K : PySem.W.Frag) : Sp := fun vs H Q _ => ∃ (p dx d : Addr) (n : Nat) (l : List (Nat × Nat)), vs = [.ref p, .int n, .ref d] ∧ H p = some (.ins (cM K) dx []) ∧ H d = some (.dK (kvN l)) ∧ Good n l ∧ 1 ≤ n ∧ n ≤ 300 ∧
  ∀ H', (∀ b o, H b = some o → b ≠ p → H' b = some o) → MapAt (cM K) H' p n (pf l) → Q .non H'
theorem sc_minit : FnScope ["self", "size", "arrows", "source"] ["self", "size", "arrows"] (defScope (inMap 0)) := ⟨rfl, rfl, rfl, by decide +kernel, rfl, by decide +kernel, by decide +kernel⟩
/-- the rows below i -/
def rowsTo (f : PF) (i : Nat) : List (Nat × Nat) := (List.range i).filterMap fun i => (f i).map fun j => (i, j)
theorem rowsTo_succ (f : PF) (i : Nat) : rowsTo f (i + 1) = rowsTo f i ++ ((f i).map fun j => (i, j)).toList := by
  unfold rowsTo
  rw [List.range_succ, List.filterMap_append]
  cases e : f i with
  | none => simp [e]
  | some j => simp [e]
theorem rowsTo_new (f : PF) (i : Nat) : valV (kvN (rowsTo f i)) (Sum.inl (i : Int)) = none := by
  cases e : valV (kvN (rowsTo f i)) (Sum.inl (i : Int) : Key) with
  | none => rfl
  | some v =>
    have hm := valV_in e
    unfold kvN at hm
    rw [List.map_map] at hm
    obtain ⟨p, hp, ep⟩ := List.mem_map.mp hm
    have h1 : (Sum.inl (p.1 : Int) : Key) = Sum.inl (i : Int) := ep
    have h2 := Sum.inl.inj h1
    have h3 := (mem_rows (n := i) (f := f)).mp hp
    omega
theorem rowsTo_len (f : PF) (i : Nat) : (rowsTo f i).length ≤ i := by
  unfold rowsTo
  have := List.length_filterMap_le (fun i => (f i).map fun j => (i, j)) (List.range i)
  rw [List.length_range] at this
  exact this
theorem ok_minit (T : Txt K mg) : Fn P w K mg base 4 (He.ma K (cM K) "__init__") (spMInit K) := by
  refine fn_by T.d_mInit sc_minit (fun _ _ _ _ _ _ us hl => match us, hl with | [_, _, _], _ => rfl) (fun vs H Q E h => ?_) (fun cdv A outer s H vs Q E hr h => ?_)
  · obtain ⟨p, dx, d, n, l, rfl, _⟩ := h
    rfl
  · obtain ⟨p, dx, d, n, l, rfl, hp, hd, g, hn1, hn2, k⟩ := h
    have hu := hu_of hr
    obtain ⟨tk, hM⟩ := T.i_MAX_SIZE
    refine ⟨_, pss_cons (ps_if (pt_not (pt_val (pe_fn (ok_inrange T) (hr.mono (by decide)) (by rfl) T.g_in_range T.d_in_range.kp (pa_cons (pv 1) (pa_cons pe_int (pa_cons (pe_glob (v := .int 300) (by rfl) hM ⟨_, rfl⟩) pa_nil)))))) (pss_never (X := _)) pss_nil)
      (pss_cons (ps_if (pt_not (pt_val (pe_fn (ok_arr T) hr (by rfl) T.g_are_arrows T.d_are_arrows.kp (pa_cons (pv 1) (pa_cons (pv 2) pa_nil))))) (pss_never (X := _)) pss_nil)
      (pss_cons (ps_fld (pv 0) (pv 1) rfl)
      (pss_one (ps_fld (pv 0) (pe_dc (own := [("source", 3)]) (g := gName 3) rfl sc_minit.nd (pi_range1 rfl T.u_range (pa_cons (pv 1) pa_nil)) (blkOk_by (own := [("source", 3)]) (N := ["self", "size", "arrows", "source"]) (sc := defScope (inMap 0)) (by decide +kernel))
        (fun _ _ _ _ _ => pg_name (i := 3) sc_minit.nd rfl (Or.inl rfl)) (fun _ _ _ _ _ => pts_one (pt_cmp (pc_din hu (pv 3) (pv 2)))) (fun _ _ _ _ _ => pv 3) (fun _ _ _ _ _ => pe_dget hu (pv 2) (pv 3) (fun _ _ => rfl))) rfl)))), ?_⟩
    refine ⟨_, rfl, n, 1, 300, rfl, _, rfl, ?_⟩
    have e : decide ((1 : Int) ≤ n ∧ (n : Int) ≤ 300) = true := decide_eq_true ⟨by omega, by omega⟩
    rw [e]
    refine iteF ⟨_, rfl, _, rfl, n, d, l, rfl, hd, g, hn2, fun H1 x1 => ⟨_, rfl, iteF ?_⟩⟩
    refine ⟨_, rfl, _, rfl, p, cM K, dx, [], rfl, x1 _ _ hp, T.c_Map, T.n_size, (by decide), ?_⟩
    have npd : d ≠ p := ne_of hd hp (by intro q; cases q)
    refine ⟨_, rfl, n, rfl, by omega, by omega, fun D hD => ?_⟩
    have nDp : D ≠ p := fun q => by
      rw [q, upd_same] at hD
      cases hD
    have hD1 : H1 D = none := by rw [upd_ne nDp] at hD; exact hD
    have nDd : d ≠ D := ne_of_none (x1 _ _ hd) hD1
    refine dc_it walk_range (fun i H2 => Ext (upd H1 p (.ins (cM K) dx (putF "own_size" (.int n) []))) H2 ∧ H2 D = some (.dK (kvN (rowsTo (pf l) i)))) ⟨Ext.upd hD, upd_same⟩ (fun _ _ _ _ => trivial) ?_ ?_
    · rintro i x H2 H3 hi ⟨e1, h2⟩ ⟨rfl, rfl⟩
      have hi : i < n := by
        have : i < (n : Int).toNat := hi
        omega
      have hd2 : H3 d = some (.dK (kvN l)) := e1 _ _ (by rw [upd_ne npd]; exact x1 _ _ hd)
      refine ⟨rfl, _, rfl, _, rfl, d, _, rfl, DGet.k (k := Sum.inl ((0 : Int) + (i : Nat))) hd2, _, rfl, ?_⟩
      have ei : (0 : Int) + (i : Nat) = (i : Int) := by omega
      have hg : ∀ j, pf l i = some j → DGet H3 d (V.int ((0 : Int) + (i : Nat))) (some (V.int (j : Int))) := fun j ef => by
        have z := DGet.k (k := Sum.inl (i : Int)) hd2
        rw [valV_pf, ef] at z
        rw [ei]
        exact z
      rw [ei, valV_pf]
      cases ef : pf l i with
      | none =>
        refine iteF ⟨e1, ?_⟩
        rw [h2, rowsTo_succ, ef]
        simp
      | some j =>
        refine iteT ⟨_, rfl, _, rfl, _, rfl, d, _, rfl, hg j ef, ?_⟩
        refine ⟨_, Sum.inl (i : Int), congrArg V.int ei, h2, ?_, Ext.mut e1 hD, ?_⟩
        · rw [kvN_length]
          have := rowsTo_len (pf l) i
          exact small300 (m := n) (by omega) hn2
        · rw [upd_same, putK_new _ (rowsTo_new _ _), rowsTo_succ, ef]
          simp [kvN]
    · rintro H2 ⟨e1, h2⟩
      refine ⟨_, rfl, p, cM K, dx, _, rfl, e1 _ _ upd_same, T.c_Map, T.n_arrows, (Nat.lt_of_le_of_lt (length_putF _ _ _) (show 0 + 1 < 1000 by decide)), ?_⟩
      refine k _ (fun b o hb hbp => ?_) ⟨⟨dx, D, upd_same, ?_⟩, g.wf, hn1, hn2⟩
      · rw [upd_ne hbp]
        exact e1 _ _ (by rw [upd_ne hbp]; exact x1 _ _ hb)
      · rw [upd_ne nDp, h2]
        rfl
end
end CM
-- part D4
set_option Elab.async false
set_option linter.all false
set_option maxRecDepth 100000
set_option maxHeartbeats 4000000
/-! ### identity, products, inverses -/
namespace CM
open PySem PySem.Spec PyProof.Rows L2 StX
theorem take_succ {α : Type} {l : List α} {i : Nat} {p : α} (h : l[i]? = some p) : l.take (i + 1) = l.take i ++ [p] := by
  rw [List.take_add_one, h]
  rfl
/-- the key of the next one is new -/
theorem fm_new {l0 : List (Nat × Nat)} {t : Nat × Nat → Option (Nat × Nat)} (nd : ((l0.filterMap t).map Prod.fst).Nodup) {i : Nat} {p q : Nat × Nat} (hp : l0[i]? = some p) (hq : t p = some q) : valV (kvN ((l0.take i).filterMap t)) (Sum.inl (q.1 : Int)) = none := by
  cases e : valV (kvN ((l0.take i).filterMap t)) (Sum.inl (q.1 : Int) : Key) with
  | none => rfl
  | some v =>
    have hm := valV_in e
    unfold kvN at hm
    rw [List.map_map] at hm
    obtain ⟨r, hr, er⟩ := List.mem_map.mp hm
    have h1 : (Sum.inl (r.1 : Int) : Key) = Sum.inl (q.1 : Int) := er
    have h2 : r.1 = q.1 := by have := Sum.inl.inj h1; omega
    have el : l0 = l0.take i ++ p :: l0.drop (i + 1) := by
      conv => lhs; rw [← List.take_append_drop (i + 1) l0, take_succ hp]
      simp
    rw [el, List.filterMap_append, List.filterMap_cons, hq, List.map_append] at nd
    have hd := (List.nodup_append.mp nd).2.2 r.1 (List.mem_map.mpr ⟨r, hr, rfl⟩) q.1 (List.mem_map.mpr ⟨q, List.mem_cons_self, rfl⟩)
    exact absurd h2 hd
theorem fm_succ {l0 : List (Nat × Nat)} {t : Nat × Nat → Option (Nat × Nat)} {i : Nat} {p : Nat × Nat} (hp : l0[i]? = some p) : (l0.take (i + 1)).filterMap t = (l0.take i).filterMap t ++ (t p).toList := by
  rw [take_succ hp, List.filterMap_append]
  cases e : t p with
  | none => simp [e]
  | some q => simp [e]
theorem fm_len {l0 : List (Nat × Nat)} (t : Nat × Nat → Option (Nat × Nat)) (i : Nat) : ((l0.take i).filterMap t).length ≤ l0.length := by
  have h1 := List.length_filterMap_le t (l0.take i)
  have h2 := List.length_take_le i l0
  rw [List.length_take] at h1
  omega
def tMul (g : PF) : Nat × Nat → Option (Nat × Nat) := fun p => (g p.2).map fun k => (p.1, k)
theorem mem_mul {n : Nat} {f g : PF} {i k : Nat} : (i, k) ∈ (rowsOf n f).filterMap (tMul g) ↔ i < n ∧ ∃ j, f i = some j ∧ g j = some k := by
  rw [List.mem_filterMap]
  constructor
  · rintro ⟨p, hp, e⟩
    obtain ⟨h1, h2⟩ := mem_rows.mp hp
    obtain ⟨k', h3, h4⟩ := Option.map_eq_some_iff.mp e
    cases h4
    exact ⟨h1, p.2, h2, h3⟩
  · rintro ⟨h1, j, h2, h3⟩
    exact ⟨(i, j), mem_rows.mpr ⟨h1, h2⟩, by simp [tMul, h3]⟩
theorem fm_fst {l : List (Nat × Nat)} (g : PF) : (l.map Prod.fst).Pairwise (· < ·) → ((l.filterMap (tMul g)).map Prod.fst).Pairwise (· < ·) ∧ ∀ x, x ∈ (l.filterMap (tMul g)).map Prod.fst → x ∈ l.map Prod.fst := by
  induction l with
  | nil => intro _; exact ⟨List.Pairwise.nil, fun x hx => by cases hx⟩
  | cons p l ih =>
    intro h
    obtain ⟨h1, h2⟩ := List.pairwise_cons.mp (show (p.1 :: l.map Prod.fst).Pairwise (· < ·) from h)
    obtain ⟨i1, i2⟩ := ih h2
    cases e : g p.2 with
    | none =>
      have e2 : (p :: l).filterMap (tMul g) = l.filterMap (tMul g) := by rw [List.filterMap_cons]; simp [tMul, e]
      rw [e2]
      exact ⟨i1, fun x hx => List.mem_cons_of_mem _ (i2 x hx)⟩
    | some k =>
      have e2 : (p :: l).filterMap (tMul g) = (p.1, k) :: l.filterMap (tMul g) := by rw [List.filterMap_cons]; simp [tMul, e]
      rw [e2, List.map_cons]
      refine ⟨List.pairwise_cons.mpr ⟨fun x hx => h1 x (i2 x hx), i1⟩, fun x hx => ?_⟩
      rcases List.mem_cons.mp hx with q | q
      · rw [q]
        exact List.mem_cons_self
      · exact List.mem_cons_of_mem _ (i2 x q)
theorem vals_nodup {l : List (Nat × Nat)} (hk : (l.map Prod.fst).Nodup) (h : ∀ p, p ∈ l → ∀ q, q ∈ l → p.2 = q.2 → p.1 = q.1) : (l.map Prod.snd).Nodup := by
  have nd : l.Nodup := (List.pairwise_map.mp hk).imp fun z e => z (by rw [e])
  exact map_nodup_on (fun p hp q hq e => Prod.ext (h p hp q hq e) e) nd
theorem good_mul {n : Nat} {f g : PF} (hf : WF n f) (hg : WF n g) : Good n ((rowsOf n f).filterMap (tMul g)) := by
  have nk := asc_nodup (fm_fst g (rows_asc n f)).1
  refine ⟨nk, vals_nodup nk fun p hp q hq e => ?_, fun p hp => ?_⟩
  · obtain ⟨_, j, a1, a2⟩ := mem_mul.mp (show (p.1, p.2) ∈ _ from hp)
    obtain ⟨_, j', b1, b2⟩ := mem_mul.mp (show (q.1, q.2) ∈ _ from hq)
    rw [e] at a2
    have := hg.inj _ _ _ a2 b2
    subst this
    exact hf.inj _ _ _ a1 b1
  · obtain ⟨h1, j, a1, a2⟩ := mem_mul.mp (show (p.1, p.2) ∈ _ from hp)
    exact ⟨h1, (hg.dom _ _ a2).2⟩
theorem pf_mul {n : Nat} {f g : PF} (hf : WF n f) (hg : WF n g) : pf ((rowsOf n f).filterMap (tMul g)) = cmp f g := pf_eq (good_mul hf hg) fun i k => by
  rw [mem_mul, cmp_some]
  exact ⟨fun z => z.2, fun ⟨j, h1, h2⟩ => ⟨(hf.dom i j h1).1, j, h1, h2⟩⟩
def tSwp : Nat × Nat → Option (Nat × Nat) := fun p => some (p.2, p.1)
theorem fm_swp (l : List (Nat × Nat)) : l.filterMap tSwp = l.map fun p => (p.2, p.1) := by
  induction l with
  | nil => rfl
  | cons p l ih => rw [List.filterMap_cons, List.map_cons, ← ih]; rfl
theorem good_swp {n : Nat} {f : PF} (hf : WF n f) : Good n ((rowsOf n f).filterMap tSwp) := by
  have g := rows_good hf
  rw [fm_swp]
  refine ⟨by rw [List.map_map]; exact g.nv, by rw [List.map_map]; exact g.nk, fun p hp => ?_⟩
  obtain ⟨q, hq, rfl⟩ := List.mem_map.mp hp
  exact (g.lt q hq).symm
theorem pf_swp {n : Nat} {f : PF} (hf : WF n f) : pf ((rowsOf n f).filterMap tSwp) = inv n f := pf_eq (good_swp hf) fun i k => by
  rw [fm_swp, List.mem_map, inv_some hf]
  constructor
  · rintro ⟨q, hq, e⟩
    cases e
    exact (mem_rows.mp hq).2
  · intro e
    exact ⟨(k, i), mem_rows.mpr ⟨(hf.dom k i e).1, e⟩, rfl⟩
theorem good_id (n : Nat) : Good n ((List.range n).map fun i => (i, i)) := by
  have e : ((List.range n).map fun i => (i, i)).map Prod.fst = List.range n := by rw [List.map_map]; simp [Function.comp_def]
  have e2 : ((List.range n).map fun i => (i, i)).map Prod.snd = List.range n := by rw [List.map_map]; simp [Function.comp_def]
  refine ⟨by rw [e]; exact List.nodup_range, by rw [e2]; exact List.nodup_range, fun p hp => ?_⟩
  obtain ⟨i, hi, rfl⟩ := List.mem_map.mp hp
  exact ⟨List.mem_range.mp hi, List.mem_range.mp hi⟩
theorem pf_id (n : Nat) : pf ((List.range n).map fun i => (i, i)) = idF n := pf_eq (good_id n) fun i j => by
  rw [List.mem_map, idF_some]
  constructor
  · rintro ⟨k, hk, e⟩
    cases e
    exact ⟨List.mem_range.mp hk, rfl⟩
  · rintro ⟨h, rfl⟩
    exact ⟨i, List.mem_range.mpr h, rfl⟩
theorem yesT {σ : L2.St} {H : Hp} {A B : Hp → Prop} (h : A H) : tYes σ H (fun b H3 => if b = true then A H3 else B H3) := by
  show (if true = true then A H else B H)
  rw [if_pos rfl]
  exact h
section
variable {P : Program} {w : World} {K : PySem.W.Frag} {mg : Str → Option Value} {base : Heap}
/-- Map(n, d) -/
theorem mk_map {H1 : Hp} {d : Addr} {l : List (Nat × Nat)} {n : Nat} {Q : VK} (hd : H1 d = some (.dK (kvN l))) (g : Good n l) (h1 : 1 ≤ n) (h2 : n ≤ 300)
    (k : ∀ x H2, H1 x = Option.none → Ext H1 H2 → MapAt (cM K) H2 x n (pf l) → Q (.ref x) H2) :
    ∀ x dx, H1 x = Option.none → H1 dx = Option.none → dx ≠ x → spMInit K (V.ref x :: [V.int n, V.ref d]) (upd (upd H1 dx (.own x)) x (.ins (cM K) dx [])) (fun v H2 => v = .non ∧ Q (.ref x) H2) E0 := by
  intro x dx nx nd ne
  refine ⟨x, dx, d, n, l, rfl, upd_same, by rw [upd_ne (ne_of_none hd nx), upd_ne (ne_of_none hd nd)]; exact hd, g, h1, h2, fun H' kp M => ⟨rfl, k x H' nx (fun b o hb => ?_) M⟩⟩
  exact kp b o (by rw [upd_ne (ne_of_none hb nx), upd_ne (ne_of_none hb nd)]; exact hb) (ne_of_none hb nx)
/-! Map.identity -/
def spIdent (K : PySem.W.Frag) : Sp := fun vs H Q _ => ∃ n : Nat, vs = [.ref (cM K), .int n] ∧ 1 ≤ n ∧ n ≤ 300 ∧ ∀ x H', H x = Option.none → Ext H H' → MapAt (cM K) H' x n (idF n) → Q (.ref x) H'
theorem sc_ident : FnScope ["cls", "size", "element"] ["cls", "size"] (defScope (inMap 1)) := ⟨rfl, rfl, rfl, by decide +kernel, rfl, by decide +kernel, by decide +kernel⟩
theorem ok_ident (T : Txt K mg) : Fn P w K mg base 6 (cFn K (cM K) "identity") (spIdent K) := by
  refine fn_by T.d_cId sc_ident (fun _ _ _ _ _ _ us hl => match us, hl with | [_, _], _ => rfl) (fun vs H Q E h => ?_) (fun cdv A outer s H vs Q E hr h => ?_)
  · obtain ⟨n, rfl, _⟩ := h
    rfl
  · obtain ⟨n, rfl, hn1, hn2, k⟩ := h
    refine ⟨_, pss_cons (ps_expr (pe_fn (ok_chksize T) (hr.mono (by decide)) (by rfl) T.g_check_size T.d_check_size.kp (pa_cons (pv 1) pa_nil)))
      (pss_one (ps_ret (pe_mkL (i := 0) T.k_Map (ok_minit T) hr rfl (Or.inl rfl) (pa_cons (pv 1) (pa_cons
        (pe_dc (own := [("element", 2)]) (g := gName 2) (tt := tYes) rfl sc_ident.nd (pi_range1 rfl T.u_range (pa_cons (pv 1) pa_nil)) (blkOk_by (own := [("element", 2)]) (N := ["cls", "size", "element"]) (sc := defScope (inMap 1)) (by decide +kernel))
        (fun _ _ _ _ _ => pg_name (i := 2) sc_ident.nd rfl (Or.inl rfl)) (fun _ _ _ _ _ => pts_nil) (fun _ _ _ _ _ => pv 2) (fun _ _ _ _ _ => pv 2)) pa_nil))))), ?_⟩
    refine ⟨_, rfl, n, rfl, hn1, hn2, rfl, _, rfl, _, rfl, n, rfl, by omega, by omega, fun D hD => ?_⟩
    refine dc_it walk_range (fun i H2 => Ext H H2 ∧ H2 D = some (.dK (kvN ((List.range i).map fun i => (i, i))))) ⟨Ext.upd hD, upd_same⟩ (fun _ _ _ _ => trivial) ?_ ?_
    · rintro i x H2 H3 hi ⟨e1, h2⟩ ⟨rfl, rfl⟩
      have hi : i < n := by
        have : i < (n : Int).toNat := hi
        omega
      have ei : (0 : Int) + (i : Nat) = (i : Int) := by omega
      have nw : valV (kvN ((List.range i).map fun i => (i, i))) (Sum.inl (i : Int)) = none := by
        rw [valV_pf, pf_id]
        unfold idF
        rw [if_neg (Nat.lt_irrefl i)]
        rfl
      refine ⟨rfl, yesT ?_⟩
      refine ⟨_, rfl, _, rfl, _, Sum.inl (i : Int), congrArg V.int ei, h2, ?_, Ext.mut e1 hD, ?_⟩
      · rw [kvN_length, List.length_map, List.length_range]
        exact small300 (m := n) (by omega) hn2
      · rw [upd_same, putK_new _ nw, List.range_succ, List.map_append]
        simp [kvN]
    · rintro H2 ⟨e1, h2⟩
      refine mk_map (l := (List.range n).map fun i => (i, i)) h2 (good_id n) hn1 hn2 fun x H3 hx e3 M => ?_
      rw [pf_id] at M
      exact k x H3 (Ext.none e1 hx) (Ext.trans e1 e3) M
/-! __mul__ -/
def spMul (K : PySem.W.Frag) : Sp := fun vs H Q _ => ∃ (p q : Addr) (n : Nat) (f g : PF), vs = [.ref p, .ref q] ∧ MapAt (cM K) H p n f ∧ MapAt (cM K) H q n g ∧ ∀ x H', H x = Option.none → Ext H H' → MapAt (cM K) H' x n (cmp f g) → Q (.ref x) H'
theorem sc_mul : FnScope ["self", "other", "size", "later", "source", "target"] ["self", "other"] (defScope (inMap 8)) := ⟨rfl, rfl, rfl, by decide +kernel, rfl, by decide +kernel, by decide +kernel⟩
theorem ok_mul (T : Txt K mg) : Fn P w K mg base 6 (He.ma K (cM K) "__mul__") (spMul K) := by
  refine fn_by T.d_mMul sc_mul (fun _ _ _ _ _ _ us hl => match us, hl with | [_, _], _ => rfl) (fun vs H Q E h => ?_) (fun cdv A outer s H vs Q E hr h => ?_)
  · obtain ⟨p, q, n, f, g, rfl, _⟩ := h
    rfl
  · obtain ⟨p, q, n, f, g, rfl, hp, hq, k⟩ := h
    have hu := hu_of hr
    obtain ⟨dx, d, ep, ed⟩ := hp.ob
    obtain ⟨dy, d', eq, ed'⟩ := hq.ob
    refine ⟨_, pss_cons (ps_if (pt_not (pt_val (pe_callB (C8.call_isC T.e_Map) (by rfl) T.u_isinstance (by decide +kernel) (pa_cons (pv 1) (pa_cons (pe_glob (v := .ref (cM K)) (by rfl) T.g_Map rfl) pa_nil))))) (pss_never (X := _)) pss_nil)
      (pss_cons (ps_set (i := 2) sc_mul.nd rfl (Or.inl rfl) (pe_fn (ok_comsize T) (hr.mono (by decide)) (by rfl) T.g_common_size T.d_common_size.kp (pa_cons (pv 0) (pa_cons (pv 1) pa_nil))))
      (pss_cons (ps_set (i := 3) sc_mul.nd rfl (Or.inr rfl) (pe_pr (pv 1) T.c_Map T.m_pArrows (ok_arrows T) (hr.mono (by decide))))
      (pss_one (ps_ret (pe_mkR T.k_Map (ok_minit T) hr (by rfl) T.g_Map (pa_cons (pv 2) (pa_cons
        (pe_lock (pe_dc (own := [("source", 4), ("target", 5)]) (g := gTup K 2 (gCons (gName 4) (gCons (gName 5) gNil))) rfl sc_mul.nd (pi_items (pe_fld (pv 0) rfl)) (blkOk_by (own := [("source", 4), ("target", 5)]) (N := ["self", "other", "size", "later", "source", "target"]) (sc := defScope (inMap 8)) (by decide +kernel))
          (fun _ _ _ _ _ => pg_tup rfl (pgs_cons (pg_name (i := 4) sc_mul.nd rfl (Or.inl rfl)) (pgs_cons (pg_name (i := 5) sc_mul.nd rfl (Or.inl rfl)) pgs_nil))) (fun _ _ _ _ _ => pts_one (pt_cmp (pc_din hu (pv 5) (pv 3)))) (fun _ _ _ _ _ => pv 4) (fun _ _ _ _ _ => pe_dget hu (pv 3) (pv 5) (fun _ _ => rfl)))) pa_nil))))))), ?_⟩
    refine ⟨_, rfl, q, dy, _, rfl, eq, _, rfl, iteF ?_⟩
    refine ⟨_, rfl, _, rfl, p, q, n, f, g, rfl, hp, hq, ?_⟩
    refine ⟨_, rfl, q, dy, _, rfl, eq, q, n, g, rfl, hq, fun a ha => ?_⟩
    have nda : d ≠ a := ne_of_none ed ha
    refine ⟨_, rfl, d, .dK (kvN (rowsOf n f)), by rw [upd_ne nda]; exact ed, trivial, fun od => ?_⟩
    have epa : p ≠ a := ne_of_none ep ha
    have epd : p ≠ d := ne_of ep ed (by intro z; cases z)
    refine ⟨_, rfl, p, cM K, dx, _, _, rfl, by rw [upd_ne epd, upd_ne epa]; exact ep, T.c_Map, T.n_arrows, mFld_arrows _ _, d, od, _, rfl, upd_same, fun D hD => ?_⟩
    have nDd : D ≠ d := fun z => by
      rw [z, upd_same] at hD
      cases hD
    have hDa : (upd H a (.dK (kvN (rowsOf n g)))) D = none := by rw [upd_ne nDd] at hD; exact hD
    refine dc_it walk_items (fun i H2 => Ext (upd (upd H a (.dK (kvN (rowsOf n g)))) d (.frz od (.dK (kvN (rowsOf n f))))) H2 ∧ H2 D = some (.dK (kvN (((rowsOf n f).take i).filterMap (tMul g))))) ⟨Ext.upd hD, upd_same⟩ (fun i H2 _ ⟨e1, _⟩ => e1 _ _ upd_same) ?_ ?_
    · rintro i x H2 H3 hi ⟨e1, h2⟩ ⟨T', y, z, rfl, hT, rfl, hx, hy⟩
      rw [kvN_length] at hi
      obtain ⟨r, hrr⟩ : ∃ r, (rowsOf n f)[i]? = some r := ⟨_, List.getElem?_eq_getElem hi⟩
      simp only [kvN_get hrr, Option.map_some] at hx hy
      cases hx
      cases hy
      have hDT : D ≠ T' := ne_of_none h2 hT
      have haL : (upd H2 T' (.tup [kV (Sum.inl (r.1 : Int)), V.int (r.2 : Int)])) a = some (.dK (kvN (rowsOf n g))) := by
        have : H2 a = some (.dK (kvN (rowsOf n g))) := e1 _ _ (by rw [upd_ne nda.symm, upd_same])
        rw [upd_ne (ne_of_none this hT)]
        exact this
      refine ⟨T', _, rfl, Or.inl (Or.inl upd_same), rfl, _, _, rfl, _, _, rfl, rfl, rfl, ?_⟩
      refine ⟨_, rfl, _, rfl, a, _, rfl, DGet.k (k := Sum.inl (r.2 : Int)) haL, _, rfl, ?_⟩
      have hg : DGet (upd H2 T' (.tup [kV (Sum.inl (r.1 : Int)), V.int (r.2 : Int)])) a (V.int (r.2 : Int)) ((g r.2).map fun j : Nat => V.int (j : Int)) := by
        have z := DGet.k (k := Sum.inl (r.2 : Int)) haL
        rw [valV_rows hq.wf] at z
        exact z
      rw [valV_rows hq.wf]
      have e3 := Ext.upd' (o := .tup [kV (Sum.inl (r.1 : Int)), V.int (r.2 : Int)]) e1 hT
      have h3 : (upd H2 T' (.tup [kV (Sum.inl (r.1 : Int)), V.int (r.2 : Int)])) D = some (.dK (kvN (((rowsOf n f).take i).filterMap (tMul g)))) := by rw [upd_ne hDT]; exact h2
      cases eg : g r.2 with
      | none =>
        refine iteF ⟨e3, ?_⟩
        rw [h3, fm_succ hrr]
        simp [tMul, eg]
      | some j =>
        rw [eg] at hg
        refine iteT ⟨_, rfl, _, rfl, _, rfl, a, _, rfl, hg, ?_⟩
        have htm : tMul g r = some (r.1, j) := by simp [tMul, eg]
        refine ⟨_, Sum.inl (r.1 : Int), rfl, h3, ?_, Ext.mut e3 hD, ?_⟩
        · rw [kvN_length]
          have h1 := fm_len (l0 := rowsOf n f) (tMul g) i
          have h2 := rows_len hp.wf
          exact small300 (m := n) (by omega) hp.hi
        · rw [upd_same, putK_new _ (fm_new (good_mul hp.wf hq.wf).nk hrr htm), fm_succ hrr, htm]
          simp [kvN]
    · rintro H2 ⟨e1, h2⟩
      have e2 : Ext (upd H a (.dK (kvN (rowsOf n g)))) (upd H2 d (.dK (kvN (rowsOf n f)))) := Ext.unlock e1 (by rw [upd_ne nda]; exact ed)
      refine ⟨e1 _ _ upd_same, mk_map (l := (rowsOf n f).filterMap (tMul g)) ?_ (good_mul hp.wf hq.wf) hp.lo hp.hi fun x H3 hx e3 M => ?_⟩
      · rw [upd_ne nDd, h2, kvN_length, List.take_length]
      · rw [pf_mul hp.wf hq.wf] at M
        exact k x H3 (Ext.none (Ext.upd ha) (Ext.none e2 hx)) (Ext.trans (Ext.upd ha) (Ext.trans e2 e3)) M
/-! __invert__ -/
def spInv (K : PySem.W.Frag) : Sp := fun vs H Q _ => ∃ (p : Addr) (n : Nat) (f : PF), vs = [.ref p] ∧ MapAt (cM K) H p n f ∧ ∀ x H', H x = Option.none → Ext H H' → MapAt (cM K) H' x n (inv n f) → Q (.ref x) H'
theorem sc_inv : FnScope ["self", "source", "target"] ["self"] (defScope (inMap 9)) := ⟨rfl, rfl, rfl, by decide +kernel, rfl, by decide +kernel, by decide +kernel⟩
theorem ok_inv (T : Txt K mg) : Fn P w K mg base 6 (He.ma K (cM K) "__invert__") (spInv K) := by
  refine fn_by T.d_mInv sc_inv (fun _ _ _ _ _ _ us hl => match us, hl with | [_], _ => rfl) (fun vs H Q E h => ?_) (fun cdv A outer s H vs Q E hr h => ?_)
  · obtain ⟨p, n, f, rfl, _⟩ := h
    rfl
  · obtain ⟨p, n, f, rfl, hp, k⟩ := h
    obtain ⟨dx, d, ep, ed⟩ := hp.ob
    refine ⟨_, pss_one (ps_ret (pe_mkR T.k_Map (ok_minit T) hr (by rfl) T.g_Map (pa_cons (pe_fld (pv 0) rfl) (pa_cons
        (pe_lock (pe_dc (own := [("target", 2), ("source", 1)]) (g := gTup K 2 (gCons (gName 1) (gCons (gName 2) gNil))) (tt := tYes) rfl sc_inv.nd (pi_items (pe_fld (pv 0) rfl)) (blkOk_by (own := [("target", 2), ("source", 1)]) (N := ["self", "source", "target"]) (sc := defScope (inMap 9)) (by decide +kernel))
          (fun _ _ _ _ _ => pg_tup rfl (pgs_cons (pg_name (i := 1) sc_inv.nd rfl (Or.inl rfl)) (pgs_cons (pg_name (i := 2) sc_inv.nd rfl (Or.inl rfl)) pgs_nil))) (fun _ _ _ _ _ => pts_nil) (fun _ _ _ _ _ => pv 2) (fun _ _ _ _ _ => pv 1))) pa_nil)))), ?_⟩
    have epd : p ≠ d := ne_of ep ed (by intro z; cases z)
    refine ⟨_, rfl, p, cM K, dx, _, _, rfl, ep, T.c_Map, T.n_size, mFld_size _ _, d, .dK (kvN (rowsOf n f)), ed, trivial, fun od => ?_⟩
    refine ⟨_, rfl, p, cM K, dx, _, _, rfl, by rw [upd_ne epd]; exact ep, T.c_Map, T.n_arrows, mFld_arrows _ _, d, od, _, rfl, upd_same, fun D hD => ?_⟩
    have nDd : D ≠ d := fun z => by
      rw [z, upd_same] at hD
      cases hD
    refine dc_it walk_items (fun i H2 => Ext (upd H d (.frz od (.dK (kvN (rowsOf n f))))) H2 ∧ H2 D = some (.dK (kvN (((rowsOf n f).take i).filterMap tSwp)))) ⟨Ext.upd hD, upd_same⟩ (fun i H2 _ ⟨e1, _⟩ => e1 _ _ upd_same) ?_ ?_
    · rintro i x H2 H3 hi ⟨e1, h2⟩ ⟨T', y, z, rfl, hT, rfl, hx, hy⟩
      rw [kvN_length] at hi
      obtain ⟨r, hrr⟩ : ∃ r, (rowsOf n f)[i]? = some r := ⟨_, List.getElem?_eq_getElem hi⟩
      simp only [kvN_get hrr, Option.map_some] at hx hy
      cases hx
      cases hy
      have hDT : D ≠ T' := ne_of_none h2 hT
      refine ⟨T', _, rfl, Or.inl (Or.inl upd_same), rfl, _, _, rfl, _, _, rfl, rfl, rfl, yesT ?_⟩
      have e3 := Ext.upd' (o := .tup [kV (Sum.inl (r.1 : Int)), V.int (r.2 : Int)]) e1 hT
      refine ⟨_, rfl, _, rfl, _, Sum.inl (r.2 : Int), rfl, by rw [upd_ne hDT]; exact h2, ?_, Ext.mut e3 hD, ?_⟩
      · rw [kvN_length]
        have h1 := fm_len (l0 := rowsOf n f) tSwp i
        have h2 := rows_len hp.wf
        exact small300 (m := n) (by omega) hp.hi
      · rw [upd_same, putK_new _ (fm_new (good_swp hp.wf).nk hrr (show tSwp r = some (r.2, r.1) from rfl)), fm_succ hrr]
        simp [kvN, tSwp, kV]
    · rintro H2 ⟨e1, h2⟩
      have e2 : Ext H (upd H2 d (.dK (kvN (rowsOf n f)))) := Ext.unlock e1 ed
      refine ⟨e1 _ _ upd_same, mk_map (l := (rowsOf n f).filterMap tSwp) ?_ (good_swp hp.wf) hp.lo hp.hi fun x H3 hx e3 M => ?_⟩
      · rw [upd_ne nDd, h2, kvN_length, List.take_length]
      · rw [pf_swp hp.wf] at M
        exact k x H3 (Ext.none e2 hx) (Ext.trans e2 e3) M
end
end CM
-- part D5
set_option Elab.async false
set_option linter.all false
set_option maxRecDepth 100000
set_option maxHeartbeats 4000000
/-! ### parts and equality of maps -/
namespace CM
open PySem PySem.Spec PyProof.Rows L2 StX
/-! plain -/
def subB (l : List (Nat × Nat)) (g : PF) : Bool := l.all fun p => decide (g p.1 = some p.2)
def eqL (l : List (Nat × Nat)) (m : List (Nat × Nat)) : Bool := l.length == m.length && subB l (pf m)
def partB (n : Nat) (f g : PF) : Bool := subB (rowsOf n f) g
def eqB (n : Nat) (f g : PF) : Bool := eqL (rowsOf n f) (rowsOf n g)
theorem partB_true {n : Nat} {f g : PF} (h : Part f g) : partB n f g = true := by
  unfold partB subB
  rw [List.all_eq_true]
  intro p hp
  exact decide_eq_true (h _ _ (mem_rows.mp hp).2)
theorem eqB_iff {n : Nat} {f g : PF} (hf : WF n f) (hg : WF n g) : eqB n f g = true ↔ f = g := by
  unfold eqB eqL subB
  rw [pf_rows hg, Bool.and_eq_true, List.all_eq_true, beq_iff_eq]
  constructor
  · rintro ⟨hl, ha⟩
    have sub : ∀ p, p ∈ rowsOf n f → p ∈ rowsOf n g := fun p hp => mem_rows.mpr ⟨(mem_rows.mp hp).1, of_decide_eq_true (ha p hp)⟩
    have nd : (rowsOf n f).Nodup := by
      have := asc_nodup (rows_asc n f)
      exact (List.pairwise_map.mp this).imp fun z e => z (by rw [e])
    refine CM.ext fun i j => ⟨fun h => ?_, fun h => ?_⟩
    · exact (mem_rows.mp (sub (i, j) (mem_rows.mpr ⟨(hf.dom i j h).1, h⟩))).2
    · apply Classical.byContradiction
      intro hn
      have hm : (i, j) ∈ rowsOf n g := mem_rows.mpr ⟨(hg.dom i j h).1, h⟩
      have h1 : ((i, j) :: rowsOf n f).Nodup := List.nodup_cons.mpr ⟨fun q => hn (mem_rows.mp q).2, nd⟩
      have h2 := nodup_len h1 (u := rowsOf n g) fun x hx => by
        rcases List.mem_cons.mp hx with q | q
        · rw [q]; exact hm
        · exact sub x q
      rw [List.length_cons] at h2
      omega
  · rintro rfl
    exact ⟨rfl, fun p hp => decide_eq_true (mem_rows.mp hp).2⟩
theorem eqB_false {n : Nat} {f g : PF} (hf : WF n f) (hg : WF n g) (h : f ≠ g) : eqB n f g = false := by
  cases e : eqB n f g with
  | false => rfl
  | true => exact absurd ((eqB_iff hf hg).mp e) h
/-! dict == dict of numbers -/
theorem hits_kv {A : Around} {s : Shared} {m : List (Nat × Nat)} {vb : List (Key × Value)} (rb : KV (kvN m) vb) : ∀ {l : List (Nat × Nat)} {va : List (Key × Value)}, KV (kvN l) va → PySem.W.KeqHits A s vb va (subB l (pf m))
  | [], _, ra => by
    cases ra
    exact .nil
  | p :: l, _, ra => by
    cases ra with
    | @cons _ q _ qs h t =>
    obtain ⟨k, v⟩ := q
    obtain ⟨h1, h2⟩ := h
    cases (show Sum.inl (p.1 : Int) = k from h1)
    obtain ⟨tk, e2⟩ : ∃ tk, v = Value.int p.2 tk := h2
    subst e2
    have ih := hits_kv (A := A) (s := s) rb t
    have rr := rb.val (Sum.inl (p.1 : Int) : Key)
    rw [valV_pf] at rr
    have es : subB (p :: l) (pf m) = (decide (pf m p.1 = some p.2) && subB l (pf m)) := rfl
    rw [es]
    cases e : pf m p.1 with
    | none =>
      rw [e] at rr
      have hn := RelO.none_of rr
      rw [show decide ((none : Option Nat) = some p.2) = false from rfl, Bool.false_and]
      exact .miss hn
    | some j =>
      rw [e] at rr
      obtain ⟨y, hy, ty, rfl⟩ := RelO.some_of rr
      have q := SeqAt.EqAt.int_int (A := A) (s := s) (p.2 : Int) tk (j : Int) ty
      have eb : (((p.2 : Int) == (j : Int)) : Bool) = decide (some j = some p.2) := by
        by_cases z : p.2 = j
        · subst z
          simp
        · have z2 : ¬ ((p.2 : Int) = (j : Int)) := by omega
          have z3 : ¬ (some j = some p.2) := fun e => z (Option.some.inj e).symm
          simp only [z3, decide_false]
          exact beq_false_of_ne z2
      rw [eb] at q
      exact .hit hy q ih
def rEqKV : R2 := fun x y H Q => ∃ a b l m, x = .ref a ∧ y = .ref b ∧ H a = some (.dK (kvN l)) ∧ H b = some (.dK (kvN m)) ∧ Q (.bl (eqL l m)) H
theorem op_eqKV {X : Cx} (hu : X.A.units < cLine) : OpR X (compareOp .Eq) rEqKV := by
  intro pins s σ H x y v u Q I rx ry h
  obtain ⟨a, b, l, m, rfl, rfl, ea, eb, q⟩ := h
  obtain rfl : v = Value.ref a := rx
  obtain rfl : u = Value.ref b := ry
  obtain ⟨_, ya, va, ra, da⟩ := (show ObjOk X.prog X.w H s.heap a (.dK (kvN l)) from I.hok a _ ea)
  obtain ⟨_, yb, vb, rb, db⟩ := (show ObjOk X.prog X.w H s.heap b (.dK (kvN m)) from I.hok b _ eb)
  refine PySem.W.keq_eq (knd := mixKind X.prog X.w) (r := subB l (pf m)) ya yb da db hu (fun _ => hits_kv rb ra) (fin_bl I q ?_)
  have h1 := ra.length
  have h2 := rb.length
  rw [kvN_length] at h1 h2
  unfold eqL
  rw [h1, h2]
section
variable {P : Program} {w : World} {K : PySem.W.Frag} {mg : Str → Option Value} {base : Heap}
/-! is_part -/
def spIsPart : Sp := fun vs H Q _ => ∃ (d d' : Addr) (l m : List (Nat × Nat)), vs = [.ref d, .ref d'] ∧ d ≠ d' ∧ H d = some (.dK (kvN l)) ∧ H d' = some (.dK (kvN m)) ∧ l.length ≤ 300 ∧ ∀ H', Ext H H' → Q (.bl (subB l (pf m))) H'
theorem sc_ispart : FnScope ["arrows", "others", "source", "target"] ["arrows", "others"] (defScope (top 23)) := ⟨rfl, rfl, rfl, by decide +kernel, rfl, by decide +kernel, by decide +kernel⟩
theorem ok_ispart (T : Txt K mg) : Fn P w K mg base 2 (He.ga K "is_part") spIsPart := by
  refine fn_by T.d_is_part sc_ispart (fun _ _ _ _ _ _ us hl => match us, hl with | [_, _], _ => rfl) (fun vs H Q E h => ?_) (fun cdv A outer s H vs Q E hr h => ?_)
  · obtain ⟨d, d', l, m, rfl, _⟩ := h
    rfl
  · obtain ⟨d, d', l, m, rfl, hdd, hd, hd', hl, k⟩ := h
    have hu := hu_of hr
    refine ⟨_, pss_one (ps_ret (pe_callB (cr_all rfl) (by rfl) T.u_all (by decide +kernel) (pa_cons
        (pe_lock (pe_lc (own := [("source", 2), ("target", 3)]) (g := gTup K 2 (gCons (gName 2) (gCons (gName 3) gNil))) (tt := tYes) rfl sc_ispart.nd (pi_items (pv 0)) (blkOk_by (own := [("source", 2), ("target", 3)]) (N := ["arrows", "others", "source", "target"]) (sc := defScope (top 23)) (by decide +kernel))
          (fun _ _ _ _ _ => pg_tup rfl (pgs_cons (pg_name (i := 2) sc_ispart.nd rfl (Or.inl rfl)) (pgs_cons (pg_name (i := 3) sc_ispart.nd rfl (Or.inl rfl)) pgs_nil))) (fun _ _ _ _ _ => pts_nil)
          (fun _ _ _ _ _ => pe_cmpR op_eq (pe_dget1 hu (pv 1) (pv 2) ⟨rfl, rfl, rfl, rfl⟩) (pv 3) (nomark _)) (fun _ => rfl))) pa_nil))), ?_⟩
    refine ⟨d, _, hd, trivial, fun od => ?_⟩
    refine ⟨_, rfl, d, od, kvN l, rfl, upd_same, fun D hD => ?_⟩
    have nDd : D ≠ d := fun z => by
      rw [z, upd_same] at hD
      cases hD
    refine lc_it walk_items (fun i H2 => Ext (upd H d (.frz od (.dK (kvN l)))) H2 ∧ H2 D = some (.lst (((l.take i).map fun p => decide (pf m p.1 = some p.2)).map V.bl))) ⟨Ext.upd hD, upd_same⟩ (fun i H2 _ ⟨e1, _⟩ => e1 _ _ upd_same) ?_ ?_
    · rintro i x H2 H3 hi ⟨e1, h2⟩ ⟨T', y, z, rfl, hT, rfl, hx, hy⟩
      rw [kvN_length] at hi
      obtain ⟨r, hrr⟩ : ∃ r, l[i]? = some r := ⟨_, List.getElem?_eq_getElem hi⟩
      simp only [kvN_get hrr, Option.map_some] at hx hy
      cases hx
      cases hy
      have hDT : D ≠ T' := ne_of_none h2 hT
      have e3 := Ext.upd' (o := .tup [kV (Sum.inl (r.1 : Int)), V.int (r.2 : Int)]) e1 hT
      have hd2 : (upd H2 T' (.tup [kV (Sum.inl (r.1 : Int)), V.int (r.2 : Int)])) d' = some (.dK (kvN m)) := e3 _ _ (by rw [upd_ne hdd.symm]; exact hd')
      refine ⟨T', _, rfl, Or.inl (Or.inl upd_same), rfl, _, _, rfl, _, _, rfl, rfl, rfl, yesT ?_⟩
      have hg := DGet.k (k := Sum.inl (r.1 : Int)) hd2
      rw [valV_pf] at hg
      refine ⟨_, rfl, d', rfl, Or.inl ⟨_, Or.inl hd2⟩, _, rfl, _, hg, _, rfl, ?_⟩
      have fin : ∀ b : Bool, b = decide (pf m r.1 = some r.2) → ∃ acc, (upd H2 T' (.tup [kV (Sum.inl (r.1 : Int)), V.int (r.2 : Int)])) D = some (.lst acc) ∧ acc.length < sizeLine ∧
          (Ext (upd H d (.frz od (.dK (kvN l)))) (upd (upd H2 T' (.tup [kV (Sum.inl (r.1 : Int)), V.int (r.2 : Int)])) D (.lst (acc ++ [V.bl b]))) ∧
            (upd (upd H2 T' (.tup [kV (Sum.inl (r.1 : Int)), V.int (r.2 : Int)])) D (.lst (acc ++ [V.bl b]))) D = some (.lst (((l.take (i + 1)).map fun p => decide (pf m p.1 = some p.2)).map V.bl))) := fun b hb => by
        refine ⟨_, by rw [upd_ne hDT]; exact h2, ?_, Ext.mut e3 hD, ?_⟩
        · rw [List.length_map, List.length_map, List.length_take]
          exact small300 (m := l.length) (by omega) hl
        · rw [upd_same, take_succ hrr, hb]
          simp
      cases e : pf m r.1 with
      | none => exact ⟨rfl, fin _ (by rw [e]; rfl)⟩
      | some j =>
        refine ⟨rfl, fin _ ?_⟩
        rw [e]
        by_cases z : j = r.2
        · subst z
          simp
        · have z2 : ¬ (V.int (j : Int) = V.int (r.2 : Int)) := fun q => z (by injection q; omega)
          have z3 : ¬ (some j = some r.2) := fun q => z (Option.some.inj q)
          rw [decide_eq_false z3]
          exact decide_eq_false z2
    · rintro H2 ⟨e1, h2⟩
      rw [kvN_length] at h2
      refine ⟨e1 _ _ upd_same, ?_⟩
      refine ⟨D, _, rfl, Or.inl (Or.inl (by rw [upd_ne nDd]; exact h2)), ?_⟩
      have e : (((l.take l.length).map fun p => decide (pf m p.1 = some p.2)).all id) = subB l (pf m) := by
        rw [List.take_length, List.all_map]
        rfl
      rw [e]
      exact k _ (Ext.unlock e1 hd)
/-! __le__ -/
def spLe (K : PySem.W.Frag) : Sp := fun vs H Q _ => ∃ (p q : Addr) (n : Nat) (f g : PF), vs = [.ref p, .ref q] ∧ MapAt (cM K) H p n f ∧ MapAt (cM K) H q n g ∧ ∀ H', Ext H H' → Q (.bl (partB n f g)) H'
theorem sc_le : FnScope ["self", "other"] ["self", "other"] (defScope (inMap 15)) := ⟨rfl, rfl, rfl, by decide +kernel, rfl, by decide +kernel, by decide +kernel⟩
theorem ok_le (T : Txt K mg) : Fn P w K mg base 4 (He.ma K (cM K) "__le__") (spLe K) := by
  refine fn_by T.d_mLe sc_le (fun _ _ _ _ _ _ us hl => match us, hl with | [_, _], _ => rfl) (fun vs H Q E h => ?_) (fun cdv A outer s H vs Q E hr h => ?_)
  · obtain ⟨p, q, n, f, g, rfl, _⟩ := h
    rfl
  · obtain ⟨p, q, n, f, g, rfl, hp, hq, k⟩ := h
    obtain ⟨dx, d, ep, ed⟩ := hp.ob
    obtain ⟨dy, d', eq, ed'⟩ := hq.ob
    refine ⟨_, pss_cons (ps_if (pt_not (pt_val (pe_callB (C8.call_isC T.e_Map) (by rfl) T.u_isinstance (by decide +kernel) (pa_cons (pv 1) (pa_cons (pe_glob (v := .ref (cM K)) (by rfl) T.g_Map rfl) pa_nil))))) (pss_never (X := _)) pss_nil)
      (pss_cons (ps_expr (pe_fn (ok_comsize T) hr (by rfl) T.g_common_size T.d_common_size.kp (pa_cons (pv 0) (pa_cons (pv 1) pa_nil))))
      (pss_one (ps_ret (pe_fn (ok_ispart T) (hr.mono (by decide)) (by rfl) T.g_is_part T.d_is_part.kp (pa_cons (pe_fld (pv 0) rfl) (pa_cons (pe_pr (pv 1) T.c_Map T.m_pArrows (ok_arrows T) (hr.mono (by decide))) pa_nil)))))), ?_⟩
    refine ⟨_, rfl, q, dy, _, rfl, eq, _, rfl, iteF ?_⟩
    refine ⟨_, rfl, _, rfl, p, q, n, f, g, rfl, hp, hq, ?_⟩
    refine ⟨_, rfl, p, cM K, dx, _, _, rfl, ep, T.c_Map, T.n_arrows, mFld_arrows _ _, ?_⟩
    refine ⟨_, rfl, q, dy, _, rfl, eq, q, n, g, rfl, hq, fun a ha => ?_⟩
    refine ⟨d, a, rowsOf n f, rowsOf n g, rfl, ne_of_none ed ha, by rw [upd_ne (ne_of_none ed ha)]; exact ed, upd_same, Nat.le_trans (rows_len hp.wf) hp.hi, fun H' e' => ?_⟩
    rw [pf_rows hq.wf]
    exact k H' (Ext.trans (Ext.upd ha) e')
/-! __eq__ -/
def spEq (K : PySem.W.Frag) : Sp := fun vs H Q _ => ∃ (p q : Addr) (n : Nat) (f g : PF), vs = [.ref p, .ref q] ∧ MapAt (cM K) H p n f ∧ MapAt (cM K) H q n g ∧ Q (.bl (eqB n f g)) H
theorem sc_eq : FnScope ["self", "other"] ["self", "other"] (defScope (inMap 25)) := ⟨rfl, rfl, rfl, by decide +kernel, rfl, by decide +kernel, by decide +kernel⟩
theorem ok_eq (T : Txt K mg) : Fn P w K mg base 2 (He.ma K (cM K) "__eq__") (spEq K) := by
  refine fn_by T.d_mEq sc_eq (fun _ _ _ _ _ _ us hl => match us, hl with | [_, _], _ => rfl) (fun vs H Q E h => ?_) (fun cdv A outer s H vs Q E hr h => ?_)
  · obtain ⟨p, q, n, f, g, rfl, _⟩ := h
    rfl
  · obtain ⟨p, q, n, f, g, rfl, hp, hq, k⟩ := h
    have hu := hu_of hr
    obtain ⟨dx, d, ep, ed⟩ := hp.ob
    obtain ⟨dy, d', eq, ed'⟩ := hq.ob
    refine ⟨_, pss_cons (ps_if (pt_not (pt_val (pe_callB (C8.call_isC T.e_Map) (by rfl) T.u_isinstance (by decide +kernel) (pa_cons (pv 1) (pa_cons (pe_glob (v := .ref (cM K)) (by rfl) T.g_Map rfl) pa_nil))))) (pss_never (X := _)) pss_nil)
      (pss_one (ps_ret (pe_and (pe_cmpR op_eq (pe_fld (pv 0) rfl) (pe_fld (pv 1) rfl) (nomark _)) (pe_one (pe_cmpR (op_eqKV (Nat.lt_of_succ_lt hu)) (pe_fld (pv 0) rfl) (pe_fld (pv 1) rfl) (nomark _)))))), ?_⟩
    refine ⟨_, rfl, q, dy, _, rfl, eq, _, rfl, iteF ?_⟩
    refine ⟨_, rfl, p, cM K, dx, _, _, rfl, ep, T.c_Map, T.n_size, mFld_size _ _, _, rfl, q, cM K, dy, _, _, rfl, eq, T.c_Map, T.n_size, mFld_size _ _, rfl, _, rfl, ?_⟩
    rw [show decide (V.int (n : Int) = V.int (n : Int)) = true from decide_eq_true rfl]
    refine iteT ?_
    refine ⟨_, rfl, p, cM K, dx, _, _, rfl, ep, T.c_Map, T.n_arrows, mFld_arrows _ _, _, rfl, q, cM K, dy, _, _, rfl, eq, T.c_Map, T.n_arrows, mFld_arrows _ _, d, d', _, _, rfl, rfl, ed, ed', k⟩
end
end CM
-- part D6
set_option Elab.async false
set_option linter.all false
set_option maxRecDepth 100000
set_option maxHeartbeats 4000000
/-! ### lists of maps, families -/
namespace CM
open PySem PySem.Spec PyProof.Rows L2 StX
/-- a starred def -/
def spStar (n : Nat) (sp : Sp) : Sp := fun vs H Q E => ∃ ws rest, vs = ws ++ rest ∧ ws.length = n ∧ rest.length ≤ sizeLine ∧ ∀ p, H p = Option.none → sp (ws ++ [V.ref p]) (upd H p (.tup rest)) Q E
theorem fn_starby {P : Program} {w : World} {K : PySem.W.Frag} {mg : Str → Option Value} {base : Heap} {x qual : Str} {st : Stmt} {f : Addr} {N ps : List Str} {k : Nat} {sp : Sp} {pv : Str} (F : HasD K x qual st f) (S : FnScope N (ps ++ [pv]) (defScope st))
    (hb : ∀ (kV doc pm : Value) (an : Option Addr) (cdv ct : Value) (us rest : List Value), us.length = ps.length → bindArgs (PySem.W.fnOf x qual (defArgs st) (defBody st) (defScope st) .none kV doc pm an cdv ct) ⟨us ++ rest, []⟩ = (newTuple rest >>= fun t => pure (ps.zip us ++ [(pv, t)])))
    (hbody : ∀ (cdv : Value) (A : Around) (outer : List Env) (s : Shared) (H : Hp) (vs : List V) (Q : VK) (E : XK), Room k (A.deeper (envOfC qual (defScope st) s.heap.objs.size f cdv)) → sp vs H Q E →
      ∃ t, PSs (cxOf CX0 P w K mg base N qual (defScope st) f cdv A outer s H E).nox (defBody st) t ∧ t { nx := fun _ H' => Q .non H', rt := Q } (start N vs) H) : Fn P w K mg base (k + 1) f (spStar ps.length sp) := by
  obtain ⟨fd, F⟩ := F
  obtain ⟨oc, od, dV, kV, doc, pm, an, cdv, ct, osl, rfl, lk, hcd, hD, hK⟩ := F.ex
  rcases hD with ⟨_, rfl⟩ | ⟨e, _⟩
  · exact fn_star lk hcd S cxUp_none (hb kV doc pm an cdv ct) fun A outer s H vs Q E hr hsp => by
      obtain ⟨t, h, q⟩ := hbody cdv A outer s H vs Q E hr hsp
      exact ⟨t, h.nox, q⟩
  · exact absurd rfl e
/-- addresses of maps -/
def MapsAt (K : PySem.W.Frag) (H : Hp) (n : Nat) (ps : List Addr) (fs : List PF) : Prop := ps.length = fs.length ∧ ∀ (i : Nat) (p : Addr), ps[i]? = some p → ∃ f, fs[i]? = some f ∧ MapAt (cM K) H p n f
abbrev refs (ps : List Addr) : List V := ps.map V.ref
theorem MapsAt.ext {K : PySem.W.Frag} {H H' : Hp} {n : Nat} {ps : List Addr} {fs : List PF} (h : MapsAt K H n ps fs) (e : Ext H H') : MapsAt K H' n ps fs := ⟨h.1, fun i p hi => by
  obtain ⟨f, h1, h2⟩ := h.2 i p hi
  exact ⟨f, h1, h2.ext e⟩⟩
theorem MapsAt.nil {K : PySem.W.Frag} {H : Hp} {n : Nat} : MapsAt K H n [] [] := ⟨rfl, fun i p h => by simp at h⟩
theorem MapsAt.snoc {K : PySem.W.Frag} {H : Hp} {n : Nat} {ps : List Addr} {fs : List PF} {p : Addr} {f : PF} (h : MapsAt K H n ps fs) (m : MapAt (cM K) H p n f) : MapsAt K H n (ps ++ [p]) (fs ++ [f]) := by
  refine ⟨by rw [List.length_append, List.length_append, h.1]; rfl, fun i q hi => ?_⟩
  rcases Nat.lt_trichotomy i ps.length with c | c | c
  · rw [List.getElem?_append_left c] at hi
    obtain ⟨g, h1, h2⟩ := h.2 i q hi
    exact ⟨g, by rw [List.getElem?_append_left (by rw [← h.1]; exact c)]; exact h1, h2⟩
  · subst c
    rw [List.getElem?_append_right (Nat.le_refl _), Nat.sub_self] at hi
    cases hi
    exact ⟨f, by rw [h.1, List.getElem?_append_right (Nat.le_refl _), Nat.sub_self]; rfl, m⟩
  · rw [List.getElem?_eq_none (by rw [List.length_append]; simp; omega)] at hi
    cases hi
theorem MapsAt.append {K : PySem.W.Frag} {H : Hp} {n : Nat} {ps qs : List Addr} {fs gs : List PF} (h : MapsAt K H n ps fs) (k : MapsAt K H n qs gs) : MapsAt K H n (ps ++ qs) (fs ++ gs) := by
  refine ⟨by rw [List.length_append, List.length_append, h.1, k.1], fun i q hi => ?_⟩
  by_cases c : i < ps.length
  · rw [List.getElem?_append_left c] at hi
    obtain ⟨g, h1, h2⟩ := h.2 i q hi
    exact ⟨g, by rw [List.getElem?_append_left (by rw [← h.1]; exact c)]; exact h1, h2⟩
  · rw [List.getElem?_append_right (by omega)] at hi
    obtain ⟨g, h1, h2⟩ := k.2 _ q hi
    exact ⟨g, by rw [List.getElem?_append_right (by rw [← h.1]; omega), ← h.1]; exact h1, h2⟩
theorem MapsAt.one {K : PySem.W.Frag} {H : Hp} {n : Nat} {p : Addr} {f : PF} (m : MapAt (cM K) H p n f) : MapsAt K H n [p] [f] := MapsAt.nil.snoc m
theorem MapsAt.get {K : PySem.W.Frag} {H : Hp} {n : Nat} {ps : List Addr} {fs : List PF} (h : MapsAt K H n ps fs) {i : Nat} {f : PF} (hf : fs[i]? = some f) : ∃ p, ps[i]? = some p ∧ MapAt (cM K) H p n f := by
  have hi : i < ps.length := by rw [h.1]; exact (List.getElem?_eq_some_iff.mp hf).1
  obtain ⟨g, h1, h2⟩ := h.2 i _ (List.getElem?_eq_getElem hi)
  rw [hf] at h1
  cases h1
  exact ⟨_, List.getElem?_eq_getElem hi, h2⟩
theorem MapsAt.wfs {K : PySem.W.Frag} {H : Hp} {n : Nat} {ps : List Addr} {fs : List PF} (h : MapsAt K H n ps fs) : WFs n fs := fun f hf => by
  obtain ⟨i, hi⟩ := List.mem_iff_getElem?.mp hf
  obtain ⟨p, _, m⟩ := h.get hi
  exact m.wf
theorem refs_get {ps : List Addr} {i : Nat} {x : V} (h : (refs ps)[i]? = some x) : ∃ p, x = .ref p ∧ ps[i]? = some p := by
  rw [List.getElem?_map] at h
  obtain ⟨p, hp, e⟩ := Option.map_eq_some_iff.mp h
  exact ⟨p, e.symm, hp⟩
theorem get_refs {ps : List Addr} {i : Nat} {p : Addr} (h : ps[i]? = some p) : (refs ps)[i]? = some (.ref p) := by rw [List.getElem?_map, h]; rfl
def fFld (t : Addr) : List (Str × V) := putF "own_maps" (.ref t) []
theorem fFld_maps (t : Addr) : (fFld t).lookup ("own_maps" : Str) = some (.ref t) := by
  unfold fFld
  rw [lookup_putF, if_pos rfl]
/-- a family stands at p -/
structure FamAt (K : PySem.W.Frag) (H : Hp) (p : Addr) (n : Nat) (fs : List PF) : Prop where
  ob : ∃ dx t ps, H p = some (.ins (cF K) dx (fFld t)) ∧ H t = some (.tup (refs ps)) ∧ MapsAt K H n ps fs
  lo : 1 ≤ fs.length
  hi : fs.length ≤ 10
theorem FamAt.ext {K : PySem.W.Frag} {H H' : Hp} {p : Addr} {n : Nat} {fs : List PF} (h : FamAt K H p n fs) (e : Ext H H') : FamAt K H' p n fs := by
  obtain ⟨⟨dx, t, ps, h1, h2, h3⟩, h4, h5⟩ := h
  exact ⟨⟨dx, t, ps, e _ _ h1, e _ _ h2, h3.ext e⟩, h4, h5⟩
theorem FamAt.wfs {K : PySem.W.Frag} {H : Hp} {p : Addr} {n : Nat} {fs : List PF} (h : FamAt K H p n fs) : WFs n fs := by
  obtain ⟨⟨dx, t, ps, h1, h2, h3⟩, h4, h5⟩ := h
  exact h3.wfs
section
variable {P : Program} {w : World} {K : PySem.W.Frag} {mg : Str → Option Value} {base : Heap}
/-! check_all -/
def spChkAll (K : PySem.W.Frag) : Sp := fun vs H Q _ => ∃ (t n : Nat) (ps : List Addr) (fs : List PF), vs = [.ref t] ∧ SqT K H t (refs ps) ∧ MapsAt K H n ps fs ∧ 1 ≤ fs.length ∧ Q .non H
theorem sc_chkall : FnScope ["maps", "given"] ["maps"] (defScope (top 27)) := ⟨rfl, rfl, rfl, by decide +kernel, rfl, by decide +kernel, by decide +kernel⟩
theorem atI_zero {xs : List V} {v : V} (h : xs[0]? = some v) : atI xs 0 = some v := atI_nat (j := 0) h
theorem ok_chkall (T : Txt K mg) : Fn P w K mg base 4 (He.ga K "check_all") (spChkAll K) := by
  refine fn_by T.d_check_all sc_chkall (fun _ _ _ _ _ _ us hl => match us, hl with | [_], _ => rfl) (fun vs H Q E h => ?_) (fun cdv A outer s H vs Q E hr h => ?_)
  · obtain ⟨t, n, ps, fs, rfl, _⟩ := h
    rfl
  · obtain ⟨t, n, ps, fs, rfl, ht, hm, hl, k⟩ := h
    refine ⟨_, pss_cons (ps_if (pt_cmpR op_eq (pe_callB call_len_seq (by rfl) T.u_len (by decide +kernel) (pa_cons (pv 0) pa_nil)) pe_int (nomark _)) (pss_never (X := _)) pss_nil)
      (pss_cons (ps_for PassesOwn.never rfl (pi_tup (pv 0)) (pg_name (i := 1) sc_chkall.nd rfl (Or.inl rfl)) (pss_one (ps_expr (pe_fn (ok_chkmap T) (hr.mono (by decide)) (by rfl) T.g_check_map T.d_check_map.kp (pa_cons (pv 1) pa_nil)))))
      (pss_one (ps_for PassesOwn.never rfl (pi_tup (pv 0)) (pg_name (i := 1) sc_chkall.nd rfl (Or.inl rfl)) (pss_one (ps_expr (pe_fn (ok_comsize T) hr (by rfl) T.g_common_size T.d_common_size.kp (pa_cons (pe_ix ix_tup (pv 0) pe_int (fun _ _ => rfl)) (pa_cons (pv 1) pa_nil)))))))), ?_⟩
    obtain ⟨f0, hf0⟩ : ∃ f0, fs[0]? = some f0 := ⟨_, List.getElem?_eq_getElem hl⟩
    obtain ⟨p0, hp0, m0⟩ := hm.get hf0
    refine ⟨_, rfl, t, refs ps, rfl, Or.inr ht, rfl, _, rfl, ?_⟩
    rw [show decide (V.int ((refs ps).length : Int) = V.int 0) = false from decide_eq_false (fun q => by
      injection q with q
      have e := hm.1
      simp at q
      rw [q] at e
      simp at e
      omega)]
    refine iteF ⟨_, rfl, t, rfl, ⟨_, ht⟩, for_it walk_tup (fun i σ H2 => ∃ v, σ = [some (.ref t), v] ∧ H2 = H) ⟨_, rfl, rfl⟩ (fun i σ H2 _ ⟨v, _, e⟩ => by rw [e]; exact ht) ?_ ?_⟩
    · rintro i x σ H2 H3 hi ⟨v, rfl, rfl⟩ ⟨rfl, hx⟩
      obtain ⟨p, rfl, hp⟩ := refs_get hx
      obtain ⟨f, hf, m⟩ := hm.2 i p hp
      exact ⟨_, rfl, p, n, f, rfl, m, _, rfl, rfl⟩
    · rintro σ H2 ⟨v, rfl, rfl⟩
      refine ⟨_, rfl, t, rfl, ⟨_, ht⟩, for_it walk_tup (fun i σ H3 => ∃ v, σ = [some (.ref t), v] ∧ H3 = H2) ⟨_, rfl, rfl⟩ (fun i σ H3 _ ⟨v, _, e⟩ => by rw [e]; exact ht) ?_ ?_⟩
      · rintro i x σ H3 H4 hi ⟨v, rfl, rfl⟩ ⟨rfl, hx⟩
        obtain ⟨p, rfl, hp⟩ := refs_get hx
        obtain ⟨f, hf, m⟩ := hm.2 i p hp
        exact ⟨_, rfl, t, refs ps, 0, .ref p0, rfl, rfl, ht, atI_zero (get_refs hp0), _, rfl, p0, p, n, f0, f, rfl, m0, m, _, rfl, rfl⟩
      · rintro σ H3 ⟨v, rfl, rfl⟩
        exact k
/-! product of two -/
def spProd (K : PySem.W.Frag) : Sp := fun vs H Q _ => ∃ (t p q : Addr) (n : Nat) (f g : PF), vs = [.ref t] ∧ H t = some (.tup [.ref p, .ref q]) ∧ MapAt (cM K) H p n f ∧ MapAt (cM K) H q n g ∧ ∀ x H', H x = Option.none → Ext H H' → MapAt (cM K) H' x n (cmp f g) → Q (.ref x) H'
theorem sc_prod : FnScope ["maps", "found", "one"] ["maps"] (defScope (top 29)) := ⟨rfl, rfl, rfl, by decide +kernel, rfl, by decide +kernel, by decide +kernel⟩
theorem ok_prod (T : Txt K mg) : Fn P w K mg base 7 (He.ga K "product") (spStar 0 (spProd K)) := by
  refine fn_starby (ps := []) (pv := "maps") T.d_product sc_prod (fun _ _ _ _ _ _ us rest hl => ?_) (fun cdv A outer s H vs Q E hr h => ?_)
  · match us, rest, hl with
    | [], [], _ => rfl
    | [], _ :: _, _ => rfl
  · obtain ⟨t, p, q, n, f, g, rfl, ht, mp, mq, k⟩ := h
    refine ⟨_, pss_cons (ps_expr (pe_fn (ok_chkall T) (hr.mono (by decide)) (by rfl) T.g_check_all T.d_check_all.kp (pa_cons (pv 0) pa_nil)))
      (pss_cons (ps_set (i := 1) sc_prod.nd rfl (Or.inl rfl) (pe_ix ix_tup (pv 0) pe_int (fun _ _ => rfl)))
      (pss_cons (ps_for PassesOwn.never rfl (pi_tup (pe_slice sl_tup (pv 0) (po_some pe_int) po_none)) (pg_name (i := 2) sc_prod.nd rfl (Or.inl rfl)) (pss_one (ps_set (i := 1) sc_prod.nd rfl (Or.inl rfl) (pe_op (op_own T.s_Map T.m_mMul.1 T.m_mMul.2 (ok_mul T) hr) (pv 1) (pv 2)))))
      (pss_one (ps_ret (pv 1))))), ?_⟩
    have sq : SqT K H t (refs [p, q]) := Or.inl (Or.inl ht)
    refine ⟨_, rfl, t, n, [p, q], [f, g], rfl, sq, (MapsAt.one mp).snoc mq, Nat.le_add_left 1 1, ?_⟩
    refine ⟨_, rfl, t, _, 0, .ref p, rfl, rfl, sq, rfl, ?_⟩
    refine ⟨_, rfl, _, rfl, t, _, rfl, sq, (fun z => absurd z.1 Nat.one_ne_zero), fun a ha => ?_⟩
    refine ⟨a, rfl, ⟨_, Or.inl (Or.inl upd_same)⟩, for_it (walk_tup (xs := [.ref q])) (fun i σ H2 => Ext (upd H a (.tup [.ref q])) H2 ∧ ∃ x v, σ = [some (.ref t), some (.ref x), v] ∧ (i = 0 → x = p) ∧ (i = 1 → H x = Option.none ∧ MapAt (cM K) H2 x n (cmp f g)))
      ⟨fun _ _ z => z, p, _, rfl, fun _ => rfl, fun h => (nomatch h)⟩ (fun i σ H2 _ ⟨e, _⟩ => Or.inl (Or.inl (e _ _ upd_same))) ?_ ?_⟩
    · rintro i x σ H2 H3 hi ⟨e1, y, v, rfl, h0, _⟩ ⟨rfl, hx⟩
      have hi0 : i = 0 := by simpa using hi
      subst hi0
      cases hx
      cases h0 rfl
      have e2 := Ext.trans (Ext.upd ha) e1
      have m1 := mp.ext e2
      have m2 := mq.ext e2
      obtain ⟨dx, d, o1, _⟩ := m1.ob
      obtain ⟨dy, d', o2, _⟩ := m2.ob
      refine ⟨_, rfl, _, rfl, p, q, dx, dy, _, _, rfl, rfl, o1, o2, p, q, n, f, g, rfl, m1, m2, fun x H' hx e3 M => ?_⟩
      exact ⟨Ext.trans e1 e3, x, _, rfl, fun h => (nomatch h), fun _ => ⟨Ext.none e2 hx, M⟩⟩
    · rintro σ H2 ⟨e1, y, v, rfl, _, h1⟩
      obtain ⟨hx, M⟩ := h1 rfl
      exact ⟨_, rfl, k y H2 hx (Ext.trans (Ext.upd ha) e1) M⟩
end
end CM
-- part R3
set_option Elab.async false
set_option linter.all false
set_option maxRecDepth 100000
set_option maxHeartbeats 4000000
/-! ### enumerate over a tuple or a list -/
namespace CM
open PySem PySem.Spec PyProof.Rows L2 StX
theorem meets_enumB {v : Value} {o : Obj} {H : Heap → Prop} (B : Begins v o H) :
    Meets (Builtin.«enumerate.__new__» ⟨[.type "enumerate", v], []⟩) (fun _ R s => H s.heap ∧
      R (.ok (.ret (.ref (s.heap.push o).objs.size))) { s with heap := (s.heap.push o).push { cls := .type "enumerate", data := .fields #[.none, .bool false, .ref s.heap.objs.size, rawInt 0, .none, .none] } }) :=
  .of_wp fun prog w A R s h => by
    obtain ⟨hp, g, d, tk, os⟩ := s
    obtain ⟨h1, h⟩ := h
    have hsub := sub_enumerate
    have q1 : ∀ {A' : Around} {E : Value → Shared → Prop} {Q : Value → Shared → Prop}, Q (.ref hp.objs.size) ⟨hp.push o, g, d, tk, os⟩ → wpAny (model prog w) A' (pyIter v) Q E ⟨hp, g, d, tk, os⟩ :=
      fun q => B.iter prog w _ _ ⟨hp, g, d, tk, os⟩ _ h1 q
    wp_walk using q1
    refine wpAny_stack_any fun st => wpAny_pure ?_
    split
    · rename_i c _ _ _ _ _
      cases (c == Value.type "enumerate")
      · wp_walk using q1
        exact ⟨_, rfl, h⟩
      · wp_walk using q1
        exact ⟨_, rfl, h⟩
    · wp_walk using q1
      exact ⟨_, rfl, h⟩
theorem call_enumB {prog : Program} {w : World} {A : Around} {E : Value → Shared → Prop} {s : Shared} {v : Value} {o : Obj} {H : Heap → Prop} {Q : Value → Shared → Prop} (B : Begins v o H) (h1 : H s.heap)
    (h : ∀ h', IsEnum h' (s.heap.objs.size + 1) s.heap.objs.size 0 .none → h'.get? s.heap.objs.size = some o → h'.objs.size = s.heap.objs.size + 2 →
      (∀ b o, s.heap.get? b = some o → h'.get? b = some o) → Q (.ref (s.heap.objs.size + 1)) { s with heap := h' }) :
    wpAny (model prog w) A (call (.type "enumerate") [v]) Q E s := by
  refine callType_new F.called_enumerate (by decide) (F.typeCall_enumerate_1 _) (F.newCall_enumerate_1 _) (fun obj => F.args_object_init_2 obj _) F.entry_enumerate_new (meets_enumB B) ⟨h1, ?_⟩
  have hz : (s.heap.push o).objs.size = s.heap.objs.size + 1 := Heap.size_push ..
  show _ ∧ _
  rw [hz]
  have he : IsEnum ((s.heap.push o).push { cls := .type "enumerate", data := .fields #[.none, .bool false, .ref s.heap.objs.size, rawInt 0, .none, .none] }) (s.heap.objs.size + 1) s.heap.objs.size 0 .none := by
    have := Heap.get?_push_size (s.heap.push o) (o := { cls := .type "enumerate", data := .fields #[.none, .bool false, .ref s.heap.objs.size, rawInt 0, .none, .none] }) rfl
    rw [hz] at this; exact this
  refine ⟨⟨_, he, rfl⟩, h _ he (Heap.get?_push_of_some _ (Heap.get?_push_size _ B.free)) (by rw [Heap.size_push, hz]) fun b o x => Heap.get?_push_of_some _ (Heap.get?_push_of_some _ x)⟩
def Itet (K : PySem.W.Frag) (a : Addr) : It :=
  ⟨fun i H => ∃ (xs : List V) (x : V), SqT K H a xs ∧ xs[i]? = some x, fun i H v H' => ∃ T x, v = .ref T ∧ H T = none ∧ H' = upd H T (.tup [.int (i : Nat), x]) ∧ ∀ xs, SqT K H a xs → xs[i]? = some x, fun i H => ∃ xs : List V, SqT K H a xs ∧ xs.length = i⟩
theorem enum_ne_tup {h : Heap} {e it a : Addr} {i : Int} {old : Value} {items : Array Value} (he : IsEnum h e it i old) (ht : h.IsTuple a items) : e ≠ a := by
  rintro rfl
  obtain ⟨o, ho, hc, _⟩ := ht
  have he : h.get? e = some _ := he
  rw [he] at ho
  cases ho
  exact absurd (show Value.type "enumerate" = Value.type "tuple" from hc) (by decide)
theorem turn_enumT {P : Program} {w : World} {K : PySem.W.Frag} {elts : List Expr} {kk : Nat} {tpos : Pos} (a e it : Addr) :
    Turn P w K (.Tuple elts kk tpos) (Itet K a) [e, it] e (fun i h => (∃ old, IsEnum h e it ((i : Nat) : Int) old) ∧ h.IsTupleIter it a i ∧ e ≠ it) where
  mem := by simp
  obj := fun i h st b hb => by
    obtain ⟨⟨old, he⟩, ⟨o, ho, hc, hd⟩, _⟩ := st
    have e' : b = e ∨ b = it := by simpa using hb
    rcases e' with z | z
    · rw [z]; exact ⟨_, he, fun v q => nomatch q⟩
    · rw [z]; exact ⟨o, ho, fun v q => by rw [hd] at q; cases q⟩
  keep := fun i h h' st k => let ⟨⟨old, he⟩, hi, hne⟩ := st; ⟨⟨old, k e (by simp) _ he⟩, hi.at fun o q => k it (by simp) o q, hne⟩
  item := by
    intro X hP hw hK hc i pins s σ H E I hf st hg
    subst hP hw hK
    obtain ⟨⟨old, he⟩, hit, hne⟩ := st
    obtain ⟨xs, x, hq, hx⟩ := hg
    obtain ⟨its, rv, p, hz⟩ := I.tuple hq
    have p' : s.heap.IsTuple a its.toArray := p
    obtain ⟨u, hu, ru⟩ := rv.get hx
    have hel : e < s.heap.objs.size := Heap.lt_size he
    have hil : it < s.heap.objs.size := by obtain ⟨_, q, _⟩ := hit; exact Heap.lt_size q
    have hia : a ≠ it := by
      rintro rfl
      obtain ⟨o1, q1, c1, _⟩ := hit
      obtain ⟨o2, q2, c2, _⟩ := p'
      rw [q1] at q2
      cases q2
      rw [c1] at c2
      exact absurd c2 (by decide)
    have hlt : i < its.toArray.size := by
      have := (List.getElem?_eq_some_iff.mp hu).1
      simpa using this
    refine wpAny_pyNext_enum_itemD (Draws.tuple (A := X.A.in1) (I.ok.hd hc) it a hia its.toArray) he ⟨hit, p'⟩ hlt hne (by simp [hne, enum_ne_tup he p']) fun x' h' tk hPx ho hit' hT hsz hk => ?_
    have ex : x' = u := by
      have : its.toArray[i]? = some u := by simpa using hu
      have hPx : its.toArray[i]? = some x' := hPx
      rw [this] at hPx
      cases hPx
      rfl
    subst ex
    refine ⟨_, rfl, wpAny_letOwnedTupleGo_enum (s := { s with heap := h', toks := tk + 1 }) ho fun h'' he' sb => ?_⟩
    have hT2 : h''.get? s.heap.objs.size = some { cls := .type "tuple", data := .seq #[.int i tk, x'] } := (sb.2 _ (Nat.ne_of_gt hel)).trans hT
    have new : ObjOk X.prog X.w (upd H s.heap.objs.size (.tup [.int (i : Nat), x])) h'' s.heap.objs.size (.tup [.int (i : Nat), x]) :=
      ⟨by show 2 ≤ sizeLine; decide, [.int i tk, x'], .cons ⟨_, rfl⟩ (.cons ru .nil), ⟨_, hT2, rfl, _, rfl⟩⟩
    have I1 : Inv X pins σ (upd H s.heap.objs.size (.tup [.int (i : Nat), x])) { s with heap := h'', toks := tk + 1 } :=
      I.turnedNew (ch := [e, it]) (fun b ob hb q => (sb.2 b (fun z => hb (by simp [z]))).trans (hk b ob (fun z => hb (by simp [z])) (fun z => hb (by simp [z])) q)) hf (Nat.le_refl _) new
    refine ⟨.ref s.heap.objs.size, _, I1, rfl, ⟨_, x, rfl, I.hok.fresh (Nat.le_refl _), rfl, fun ys hy => by rw [I.tuple_inj hy hq]; exact hx⟩, ⟨⟨x', ?_⟩, hit'.1.at fun o q => (sb.2 it (Ne.symm hne)).trans q, hne⟩, fun b hb => ?_⟩
    · have e1 : ((i + 1 : Nat) : Int) = (i : Int) + 1 := by omega
      rw [e1]; exact he'
    · have hb' : b < s.heap.objs.size := by
        have e' : b = e ∨ b = it := by simpa using hb
        rcases e' with z | z
        · rw [z]; exact hel
        · rw [z]; exact hil
      rw [upd_ne (Nat.ne_of_lt hb')]
      exact (hf b hb).1
  done := by
    intro X hP hw hK hc i pins s σ H E I hf st hg
    subst hP hw hK
    obtain ⟨⟨old, he⟩, hit, hne⟩ := st
    obtain ⟨xs, hq, hx⟩ := hg
    obtain ⟨its, rv, p, hz⟩ := I.tuple hq
    have p' : s.heap.IsTuple a its.toArray := p
    obtain ⟨f0, f1, f2, f3, f4, f5⟩ := hf it (by simp)
    have hl := rv.length
    have hia : a ≠ it := by
      rintro rfl
      obtain ⟨o1, q1, c1, _⟩ := hit
      obtain ⟨o2, q2, c2, _⟩ := p'
      rw [q1] at q2
      cases q2
      rw [c1] at c2
      exact absurd c2 (by decide)
    have hn : its.toArray.size = i := by simp; omega
    refine wpAny_pyNext_enum_endD (n := its.toArray.size) (Draws.tuple (A := X.A.in1) (I.ok.hd hc) it a hia its.toArray) he ⟨by rw [hn]; exact hit, p'⟩ fun h' eb => ⟨rfl, I.turned (t' := s.toks) (fun b o hb q => eb b o hb q) f0 f1 f3 f4 f5⟩
  self := fun A i s Q E st h => let ⟨⟨_, he⟩, _⟩ := st; wpAny_pyIter_enum he h
def iEnumA (K : PySem.W.Frag) (ta : TA) : TI := fun σ H R => ta σ H fun vs H1 => ∃ a xs, vs = [.ref a] ∧ ((SqL K H1 a xs ∧ R (Ite K a) H1) ∨ (SqT K H1 a xs ∧ R (Itet K a) H1))
theorem pi_enumA {X : Cx} {e : Expr} {ta : TA} {p pos tpos : Pos} {elts : List Expr} {kk : Nat} (hg : Gl X "enumerate") (hm : X.mg "enumerate" = none) (ha : PA X [e] ta) (hs : starEach [e] X.env = [(false, eval e X.env)] := by rfl) :
    PI X (.Tuple elts kk tpos) (.Call (.Name "enumerate" p) [e] [] pos) (iEnumA X.K ta) := by
  refine ⟨fun pins s σ H R I h => ?_⟩
  refine Call_ (ld_blt I hg hm boot_enumerate (PyProof.Rows.callWith_type1 (thn (ha.run pos pins s σ H _ I h) fun us s1 ⟨vs, H1, I1, r1, q1⟩ => ?_) hs rfl))
  obtain ⟨a, xs, ex, q⟩ := q1
  subst ex
  cases r1 with
  | cons r rr =>
    cases rr
    cases r
    have fpk : ∀ b ∈ [s1.heap.objs.size + 1, s1.heap.objs.size], s1.heap.objs.size ≤ b := fun b hb => by
      have e' : b = s1.heap.objs.size + 1 ∨ b = s1.heap.objs.size := by simpa using hb
      rcases e' with z | z
      · rw [z]; exact Nat.le_add_right _ _
      · rw [z]; exact Nat.le_refl _
    rcases q with ⟨hq, q⟩ | ⟨hq, q⟩
    · obtain ⟨its, rv, p', hz⟩ := I1.list hq
      refine call_enumerate_list p'.isList fun h' he hit hsz hk => wpAny_pyIter_enum he ?_
      have I2 : Inv X pins σ H1 { s1 with heap := h' } := I1.kept (t' := s1.toks) hk
      exact ⟨s1.heap.objs.size + 1, [s1.heap.objs.size + 1, s1.heap.objs.size], _, _, H1, rfl, I2, turn_enum a (s1.heap.objs.size + 1) s1.heap.objs.size, ⟨⟨.none, he⟩, hit, Nat.succ_ne_self _⟩, fun b hb => I1.fpOk (fpk b hb) (I1.hok.fresh (fpk b hb)), q⟩
    · obtain ⟨its, rv, p', hz⟩ := I1.tuple hq
      refine call_enumB (begins_tuple a its.toArray) p' fun h' he hit hsz hk => wpAny_pyIter_enum he ?_
      have I2 : Inv X pins σ H1 { s1 with heap := h' } := I1.kept (t' := s1.toks) hk
      exact ⟨s1.heap.objs.size + 1, [s1.heap.objs.size + 1, s1.heap.objs.size], _, _, H1, rfl, I2, turn_enumT a (s1.heap.objs.size + 1) s1.heap.objs.size, ⟨⟨.none, he⟩, ⟨_, hit, rfl, rfl⟩, Nat.succ_ne_self _⟩, fun b hb => I1.fpOk (fpk b hb) (I1.hok.fresh (fpk b hb)), q⟩
theorem walk_enumT {K : PySem.W.Frag} {a : Addr} {xs : List V} : Walk (Itet K a) xs.length (fun H => SqT K H a xs) (YPair (fun i => some (.int (i : Nat))) (fun i => xs[i]?)) where
  goes := fun i H hi q => ⟨xs, xs[i], q, List.getElem?_eq_getElem hi⟩
  stops := fun H q => ⟨xs, q, rfl⟩
  yields := fun i H x H' hi q ⟨T, y, e1, e2, e3, e4⟩ => ⟨T, .int (i : Nat), y, e1, e2, e3, rfl, e4 xs q⟩
/-- both, at once -/
theorem walk_enumA {K : PySem.W.Frag} {a : Addr} {xs : List V} {H : Hp} {R : It → Hp → Prop} (h : SqL K H a xs ∨ SqT K H a xs) (hL : (J : It) → (G : Hp → Prop) → Walk J xs.length G (YPair (fun i => some (.int (i : Nat))) (fun i => xs[i]?)) → (∀ H', Ext H H' → G H') → R J H) :
    (SqL K H a xs ∧ R (Ite K a) H) ∨ (SqT K H a xs ∧ R (Itet K a) H) := by
  rcases h with h | h
  · exact Or.inl ⟨h, hL _ _ walk_enum fun H' e => h.ext e⟩
  · exact Or.inr ⟨h, hL _ _ walk_enumT fun H' e => SqT.ext h e⟩
end CM
-- part D7
set_option Elab.async false
set_option linter.all false
set_option maxRecDepth 100000
set_option maxHeartbeats 4000000
/-! ### families: making, adding, inverting, words -/
namespace CM
open PySem PySem.Spec PyProof.Rows L2 StX
theorem pi_or {X : Cx} {tg e : Expr} {t u : TI} (h : PI X tg e t) (k : PI X tg e u) : PI X tg e (fun σ H R => t σ H R ∨ u σ H R) := ⟨fun pins s σ H R I q => q.elim (h.run pins s σ H R I) (k.run pins s σ H R I)⟩
abbrev natsV (w : List Nat) : List V := w.map fun b : Nat => V.int (b : Int)
/-- a word as a list or a tuple -/
def WordAt (H : Hp) (a : Addr) (w : List Nat) : Prop := H a = some (.lst (natsV w)) ∨ H a = some (.tup (natsV w))
theorem WordAt.ext {H H' : Hp} {a : Addr} {w : List Nat} (h : WordAt H a w) (e : Ext H H') : WordAt H' a w := h.imp (e _ _) (e _ _)
theorem WordAt.sq {K : PySem.W.Frag} {H : Hp} {a : Addr} {w : List Nat} (h : WordAt H a w) : SqL K H a (natsV w) ∨ SqT K H a (natsV w) := h.imp (fun h => Or.inl (Or.inl h)) (fun h => Or.inl (Or.inl h))
theorem natsV_get {w : List Nat} {i : Nat} {x : V} (h : (natsV w)[i]? = some x) : ∃ b : Nat, x = .int b ∧ w[i]? = some b := by
  rw [List.getElem?_map] at h
  obtain ⟨p, hp, e⟩ := Option.map_eq_some_iff.mp h
  exact ⟨p, e.symm, hp⟩
theorem get_natsV {w : List Nat} {i b : Nat} (h : w[i]? = some b) : (natsV w)[i]? = some (.int (b : Int)) := by rw [List.getElem?_map, h]; rfl
section
variable {P : Program} {w : World} {K : PySem.W.Frag} {mg : Str → Option Value} {base : Heap}
/-! check_many -/
def spChkMany : Sp := fun vs H Q _ => ∃ n : Nat, vs = [.int n] ∧ n ≤ 10 ∧ Q .non H
theorem sc_chkmany : FnScope ["number"] ["number"] (defScope (top 36)) := ⟨rfl, rfl, rfl, by decide +kernel, rfl, by decide +kernel, by decide +kernel⟩
theorem ok_chkmany (T : Txt K mg) : Fn P w K mg base 1 (He.ga K "check_many") spChkMany := by
  refine fn_by T.d_check_many sc_chkmany (fun _ _ _ _ _ _ us hl => match us, hl with | [_], _ => rfl) (fun vs H Q E h => ?_) (fun cdv A outer s H vs Q E hr h => ?_)
  · obtain ⟨n, rfl, _⟩ := h
    rfl
  · obtain ⟨n, rfl, h1, k⟩ := h
    obtain ⟨tk, hM⟩ := T.i_MOST_MAPS
    refine ⟨_, pss_one (ps_if (pt_cmpR op_gt (pv 0) (pe_glob (v := .int 10) (by rfl) hM ⟨_, rfl⟩) (nomark _)) (pss_never (X := _)) pss_nil), ?_⟩
    refine ⟨_, rfl, n, 10, rfl, rfl, _, rfl, ?_⟩
    rw [show decide ((10 : Int) < n) = false from decide_eq_false (by omega)]
    exact iteF k
/-! Family.__init__ -/
def spFInit0 (K : PySem.W.Frag) : Sp := fun vs H Q _ => ∃ (p dx t n : Nat) (ps : List Addr) (fs : List PF), vs = [.ref p, .ref t] ∧ H p = some (.ins (cF K) dx []) ∧ H t = some (.tup (refs ps)) ∧ MapsAt K H n ps fs ∧ 1 ≤ fs.length ∧ fs.length ≤ 10 ∧
  ∀ H', (∀ b o, H b = some o → b ≠ p → H' b = some o) → FamAt K H' p n fs → Q .non H'
theorem sc_finit : FnScope ["self", "maps"] ["self", "maps"] (defScope (inFam 1)) := ⟨rfl, rfl, rfl, by decide +kernel, rfl, by decide +kernel, by decide +kernel⟩
theorem mapsAt_but {K : PySem.W.Frag} {H H' : Hp} {n p : Nat} {ps : List Addr} {fs : List PF} {dx : Addr} (h : MapsAt K H n ps fs) (hp : H p = some (.ins (cF K) dx [])) (k : ∀ b o, H b = some o → b ≠ p → H' b = some o) : MapsAt K H' n ps fs := ⟨h.1, fun i q hi => by
  obtain ⟨f, h1, ⟨⟨dy, d, o1, o2⟩, m2, m3, m4⟩⟩ := h.2 i q hi
  refine ⟨f, h1, ⟨⟨dy, d, k _ _ o1 (ne_of o1 hp (fun z => ?_)), k _ _ o2 (ne_of o2 hp (by intro z; cases z))⟩, m2, m3, m4⟩⟩
  injection z with _ _ z
  have hl : (mFld n d).lookup ("own_size" : Str) = ([] : List (Str × V)).lookup ("own_size" : Str) := by rw [z]
  rw [mFld_size] at hl
  cases hl⟩
theorem ok_finit (T : Txt K mg) : Fn P w K mg base 5 (He.ma K (cF K) "__init__") (spStar 1 (spFInit0 K)) := by
  refine fn_starby (ps := ["self"]) (pv := "maps") T.d_fInit sc_finit (fun _ _ _ _ _ _ us rest hl => match us, rest, hl with | [_], [], _ => rfl | [_], _ :: _, _ => rfl) (fun cdv A outer s H vs Q E hr h => ?_)
  obtain ⟨p, dx, t, n, ps, fs, rfl, hp, ht, hm, h1, h2, k⟩ := h
  refine ⟨_, pss_cons (ps_expr (pe_fn (ok_chkall T) hr (by rfl) T.g_check_all T.d_check_all.kp (pa_cons (pv 1) pa_nil)))
    (pss_cons (ps_expr (pe_fn (ok_chkmany T) (hr.mono (by decide)) (by rfl) T.g_check_many T.d_check_many.kp (pa_cons (pe_callB call_len_seq (by rfl) T.u_len (by decide +kernel) (pa_cons (pv 1) pa_nil)) pa_nil)))
    (pss_one (ps_fld (pv 0) (pe_callTy call_tuple_of (by rfl) T.u_tuple (by decide +kernel) (pa_cons (pv 1) pa_nil)) rfl))), ?_⟩
  have sq : SqT K H t (refs ps) := Or.inl (Or.inl ht)
  have hl : (refs ps).length = fs.length := by rw [List.length_map, hm.1]
  refine ⟨_, rfl, t, n, ps, fs, rfl, sq, hm, h1, ?_⟩
  refine ⟨_, rfl, t, refs ps, rfl, Or.inr sq, fs.length, by rw [hl], h2, ?_⟩
  refine ⟨_, rfl, t, refs ps, rfl, Or.inr ⟨sq, _, rfl, p, cF K, dx, [], rfl, hp, T.c_Family, T.n_maps, (by decide), ?_⟩⟩
  have ntp : t ≠ p := ne_of ht hp (by intro z; cases z)
  have kk : ∀ b o, H b = some o → b ≠ p → (upd H p (.ins (cF K) dx (putF "own_maps" (.ref t) []))) b = some o := fun b o hb hbp => by rw [upd_ne hbp]; exact hb
  exact k _ kk ⟨⟨dx, t, ps, upd_same, kk _ _ ht ntp, mapsAt_but hm hp kk⟩, h1, h2⟩
/-- after the arguments: the family -/
theorem mk_fam {H1 : Hp} {ps : List Addr} {fs : List PF} {n : Nat} {Q : VK} (hm : MapsAt K H1 n ps fs) (h1 : 1 ≤ fs.length) (h2 : fs.length ≤ 10)
    (k : ∀ x H2, H1 x = Option.none → Ext H1 H2 → FamAt K H2 x n fs → Q (.ref x) H2) :
    ∀ x dx, H1 x = Option.none → H1 dx = Option.none → dx ≠ x → spStar 1 (spFInit0 K) (V.ref x :: refs ps) (upd (upd H1 dx (.own x)) x (.ins (cF K) dx [])) (fun v H2 => v = .non ∧ Q (.ref x) H2) E0 := by
  intro x dx nx nd ne
  have hl : (refs ps).length = fs.length := by rw [List.length_map, hm.1]
  refine ⟨[.ref x], refs ps, rfl, rfl, by rw [hl]; exact Nat.le_trans h2 (by decide), fun t ht => ?_⟩
  have htx : t ≠ x := fun z => by rw [z, upd_same] at ht; cases ht
  have e1 : Ext H1 (upd (upd (upd H1 dx (.own x)) x (.ins (cF K) dx [])) t (.tup (refs ps))) := fun a u ha => by
    have a1 : a ≠ x := ne_of_none ha nx
    have a2 : a ≠ dx := ne_of_none ha nd
    have h3 : (upd (upd H1 dx (.own x)) x (.ins (cF K) dx [])) a = some u := by rw [upd_ne a1, upd_ne a2]; exact ha
    rw [upd_ne (ne_of_none h3 ht)]
    exact h3
  refine ⟨x, dx, t, n, ps, fs, rfl, by rw [upd_ne htx.symm, upd_same], upd_same, hm.ext e1, h1, h2, fun H' kp F => ⟨rfl, k x H' nx (fun b o hb => ?_) F⟩⟩
  exact kp b o (e1 _ _ hb) (ne_of_none hb nx)
/-! Family.maps, Family.size, len -/
def spFMaps (K : PySem.W.Frag) : Sp := fun vs H Q _ => ∃ p dx t, vs = [.ref p] ∧ H p = some (.ins (cF K) dx (fFld t)) ∧ Q (.ref t) H
theorem sc_fmaps : FnScope ["self"] ["self"] (defScope (inFam 2)) := ⟨rfl, rfl, rfl, by decide +kernel, rfl, by decide +kernel, by decide +kernel⟩
theorem ok_fmaps (T : Txt K mg) : Fn P w K mg base 1 (pFn K (cF K) "maps") (spFMaps K) := by
  refine fn_by T.d_pMaps sc_fmaps (fun _ _ _ _ _ _ us hl => match us, hl with | [_], _ => rfl) (fun vs H Q E h => ?_) (fun cdv A outer s H vs Q E hr h => ?_)
  · obtain ⟨p, dx, t, rfl, _⟩ := h
    rfl
  · obtain ⟨p, dx, t, rfl, h1, k⟩ := h
    exact ⟨_, pss_one (ps_ret (pe_fld (pv 0) rfl)), _, rfl, p, cF K, dx, _, _, rfl, h1, T.c_Family, T.n_maps, fFld_maps _, k⟩
def spFSize (K : PySem.W.Frag) : Sp := fun vs H Q _ => ∃ p n fs, vs = [.ref p] ∧ FamAt K H p n fs ∧ Q (.int (n : Nat)) H
theorem sc_fsize : FnScope ["self"] ["self"] (defScope (inFam 3)) := ⟨rfl, rfl, rfl, by decide +kernel, rfl, by decide +kernel, by decide +kernel⟩
theorem FamAt.first {H : Hp} {p n : Nat} {fs : List PF} (h : FamAt K H p n fs) : ∃ dx t ps p0 f0, H p = some (.ins (cF K) dx (fFld t)) ∧ H t = some (.tup (refs ps)) ∧ MapsAt K H n ps fs ∧ ps[0]? = some p0 ∧ MapAt (cM K) H p0 n f0 := by
  obtain ⟨⟨dx, t, ps, h1, h2, h3⟩, h4, h5⟩ := h
  obtain ⟨p0, e, m⟩ := h3.get (List.getElem?_eq_getElem h4)
  exact ⟨dx, t, ps, p0, _, h1, h2, h3, e, m⟩
theorem FamAt.sz {H : Hp} {p n : Nat} {fs : List PF} (h : FamAt K H p n fs) : 1 ≤ n ∧ n ≤ 300 := by
  obtain ⟨_, _, _, _, _, _, _, _, _, m⟩ := h.first
  exact ⟨m.lo, m.hi⟩
theorem ok_fsize (T : Txt K mg) : Fn P w K mg base 3 (pFn K (cF K) "size") (spFSize K) := by
  refine fn_by T.d_pFSize sc_fsize (fun _ _ _ _ _ _ us hl => match us, hl with | [_], _ => rfl) (fun vs H Q E h => ?_) (fun cdv A outer s H vs Q E hr h => ?_)
  · obtain ⟨p, n, fs, rfl, _⟩ := h
    rfl
  · obtain ⟨p, n, fs, rfl, F, k⟩ := h
    obtain ⟨dx, t, ps, p0, f0, h1, h2, h3, h4, m⟩ := F.first
    obtain ⟨dy, d, o1, _⟩ := m.ob
    refine ⟨_, pss_one (ps_ret (pe_pr (pe_ix ix_tup (pe_fld (pv 0) rfl) pe_int (fun _ _ => rfl)) T.c_Map T.m_pSize (ok_size T) hr)), ?_⟩
    exact ⟨_, rfl, p, cF K, dx, _, _, rfl, h1, T.c_Family, T.n_maps, fFld_maps _, t, _, 0, .ref p0, rfl, rfl, Or.inl (Or.inl h2), atI_zero (get_refs h4), p0, dy, _, rfl, o1, p0, n, f0, rfl, m, k⟩
def spFLen (K : PySem.W.Frag) : Sp := fun vs H Q _ => ∃ p n fs, vs = [.ref p] ∧ FamAt K H p n fs ∧ Q (.int fs.length) H
theorem sc_flen : FnScope ["self"] ["self"] (defScope (inFam 8)) := ⟨rfl, rfl, rfl, by decide +kernel, rfl, by decide +kernel, by decide +kernel⟩
theorem ok_flen (T : Txt K mg) : Fn P w K mg base 1 (He.ma K (cF K) "__len__") (spFLen K) := by
  refine fn_by T.d_fLen sc_flen (fun _ _ _ _ _ _ us hl => match us, hl with | [_], _ => rfl) (fun vs H Q E h => ?_) (fun cdv A outer s H vs Q E hr h => ?_)
  · obtain ⟨p, n, fs, rfl, _⟩ := h
    rfl
  · obtain ⟨p, n, fs, rfl, F, k⟩ := h
    obtain ⟨dx, t, ps, p0, f0, h1, h2, h3, h4, m⟩ := F.first
    refine ⟨_, pss_one (ps_ret (pe_callB call_len_seq (by rfl) T.u_len (by decide +kernel) (pa_cons (pe_fld (pv 0) rfl) pa_nil))), ?_⟩
    refine ⟨_, rfl, p, cF K, dx, _, _, rfl, h1, T.c_Family, T.n_maps, fFld_maps _, t, refs ps, rfl, Or.inr (Or.inl (Or.inl h2)), ?_⟩
    rw [show (refs ps).length = fs.length by rw [List.length_map, h3.1]]
    exact k
/-! made -/
def spMade (K : PySem.W.Frag) : Sp := fun vs H Q _ => ∃ a n ps fs, vs = [.ref a] ∧ SqL K H a (refs ps) ∧ MapsAt K H n ps fs ∧ 1 ≤ fs.length ∧ fs.length ≤ 10 ∧ ∀ x H', H x = Option.none → Ext H H' → FamAt K H' x n fs → Q (.ref x) H'
theorem sc_made : FnScope ["maps"] ["maps"] (defScope (top 38)) := ⟨rfl, rfl, rfl, by decide +kernel, rfl, by decide +kernel, by decide +kernel⟩
theorem ok_made (T : Txt K mg) : Fn P w K mg base 7 (He.ga K "made") (spMade K) := by
  refine fn_by T.d_made sc_made (fun _ _ _ _ _ _ us hl => match us, hl with | [_], _ => rfl) (fun vs H Q E h => ?_) (fun cdv A outer s H vs Q E hr h => ?_)
  · obtain ⟨a, n, ps, fs, rfl, _⟩ := h
    rfl
  · obtain ⟨a, n, ps, fs, rfl, hs, hm, h1, h2, k⟩ := h
    exact ⟨_, pss_one (ps_ret (pe_mkS T.k_Family (ok_finit T) hr (by rfl) T.g_Family (pv 0))), _, rfl, a, refs ps, rfl, Or.inr hs, mk_fam hm h1 h2 k⟩
end
end CM
-- part D8
set_option Elab.async false
set_option linter.all false
set_option maxRecDepth 100000
set_option maxHeartbeats 4000000
/-! ### families: adding, inverting, words -/
namespace CM
open PySem PySem.Spec PyProof.Rows L2 StX
theorem kit_seq {K : PySem.W.Frag} {H : Hp} {a : Addr} {w : List Nat} (h : WordAt H a w) : ∃ t, TyX K H (.ref a) t ∧ PySem.W.kitAny K t [.type "list", .type "tuple"] = some true := by
  rcases h with h | h
  · exact ⟨_, .base (.lst h), kitAny_cons (b := true) (kit_ty (by decide +kernel)) (fun z => (nomatch z)) (fun _ => rfl)⟩
  · exact ⟨_, .base (.tup h), kitAny_cons (b := false) (kit_ty (by decide +kernel)) (fun _ => kitAny_cons (b := true) (kit_ty (by decide +kernel)) (fun z => (nomatch z)) (fun _ => rfl)) (fun z => (nomatch z))⟩
section
variable {P : Program} {w : World} {K : PySem.W.Frag} {mg : Str → Option Value} {base : Heap}
/-! check_family -/
def spChkFam (K : PySem.W.Frag) : Sp := fun vs H Q _ => ∃ p n fs, vs = [.ref p] ∧ FamAt K H p n fs ∧ Q .non H
theorem sc_chkfam : FnScope ["family"] ["family"] (defScope (top 40)) := ⟨rfl, rfl, rfl, by decide +kernel, rfl, by decide +kernel, by decide +kernel⟩
theorem ok_chkfam (T : Txt K mg) : Fn P w K mg base 1 (He.ga K "check_family") (spChkFam K) := by
  refine fn_by T.d_check_family sc_chkfam (fun _ _ _ _ _ _ us hl => match us, hl with | [_], _ => rfl) (fun vs H Q E h => ?_) (fun cdv A outer s H vs Q E hr h => ?_)
  · obtain ⟨p, n, fs, rfl, _⟩ := h
    rfl
  · obtain ⟨p, n, fs, rfl, F, k⟩ := h
    obtain ⟨dx, t, ps, h1, _⟩ := F.ob
    refine ⟨_, pss_one (ps_if (pt_not (pt_val (pe_callB (C8.call_isC T.e_Family) (by rfl) T.u_isinstance (by decide +kernel) (pa_cons (pv 0) (pa_cons (pe_glob (v := .ref (cF K)) (by rfl) T.g_Family rfl) pa_nil))))) (pss_never (X := _)) pss_nil), ?_⟩
    exact ⟨_, rfl, p, dx, _, rfl, h1, _, rfl, iteF k⟩
/-! __add__ -/
def spFAdd (K : PySem.W.Frag) : Sp := fun vs H Q _ => ∃ p q n fs gs, vs = [.ref p, .ref q] ∧ FamAt K H p n fs ∧ FamAt K H q n gs ∧ fs.length + gs.length ≤ 10 ∧ ∀ x H', H x = Option.none → Ext H H' → FamAt K H' x n (fs ++ gs) → Q (.ref x) H'
theorem sc_fadd : FnScope ["self", "other"] ["self", "other"] (defScope (inFam 5)) := ⟨rfl, rfl, rfl, by decide +kernel, rfl, by decide +kernel, by decide +kernel⟩
theorem ok_fadd (T : Txt K mg) : Fn P w K mg base 8 (He.ma K (cF K) "__add__") (spFAdd K) := by
  refine fn_by T.d_fAdd sc_fadd (fun _ _ _ _ _ _ us hl => match us, hl with | [_, _], _ => rfl) (fun vs H Q E h => ?_) (fun cdv A outer s H vs Q E hr h => ?_)
  · obtain ⟨p, q, n, fs, gs, rfl, _⟩ := h
    rfl
  · obtain ⟨p, q, n, fs, gs, rfl, F, G, h10, k⟩ := h
    obtain ⟨dx, t, ps, p0, f0, h1, h2, h3, h4, m⟩ := F.first
    obtain ⟨dy, t', qs, q0, g0, l1, l2, l3, l4, m'⟩ := G.first
    obtain ⟨dz, d, o1, _⟩ := m.ob
    obtain ⟨dw, d', o2, _⟩ := m'.ob
    refine ⟨_, pss_cons (ps_if (pt_not (pt_val (pe_callB (C8.call_isC T.e_Family) (by rfl) T.u_isinstance (by decide +kernel) (pa_cons (pv 1) (pa_cons (pe_glob (v := .ref (cF K)) (by rfl) T.g_Family rfl) pa_nil))))) (pss_never (X := _)) pss_nil)
      (pss_cons (ps_if (pt_cmpR op_ne (pe_pr (pe_ix ix_tup (pe_fld (pv 0) rfl) pe_int (fun _ _ => rfl)) T.c_Map T.m_pSize (ok_size T) (hr.mono (by decide))) (pe_pr (pe_ix ix_tup (pe_fld (pv 1) rfl) pe_int (fun _ _ => rfl)) T.c_Map T.m_pSize (ok_size T) (hr.mono (by decide))) (nomark _)) (pss_never (X := _)) pss_nil)
      (pss_cons (ps_expr (pe_fn (ok_chkmany T) (hr.mono (by decide)) (by rfl) T.g_check_many T.d_check_many.kp (pa_cons (pe_op op_add (pe_callB call_len_seq (by rfl) T.u_len (by decide +kernel) (pa_cons (pe_fld (pv 0) rfl) pa_nil)) (pe_callB call_len_seq (by rfl) T.u_len (by decide +kernel) (pa_cons (pe_fld (pv 1) rfl) pa_nil))) pa_nil)))
      (pss_one (ps_ret (pe_fn (ok_made T) hr (by rfl) T.g_made T.d_made.kp (pa_cons (pe_lst (pa_star (pe_fld (pv 0) rfl) (pa_star (pe_fld (pv 1) rfl) pa_nil))) pa_nil)))))), ?_⟩
    have a1 : SqT K H t (refs ps) := Or.inl (Or.inl h2)
    have a2 : SqT K H t' (refs qs) := Or.inl (Or.inl l2)
    have b1 : (refs ps).length = fs.length := by rw [List.length_map, h3.1]
    have b2 : (refs qs).length = gs.length := by rw [List.length_map, l3.1]
    refine ⟨_, rfl, q, dy, _, rfl, l1, _, rfl, iteF ?_⟩
    refine ⟨_, rfl, p, cF K, dx, _, _, rfl, h1, T.c_Family, T.n_maps, fFld_maps _, t, _, 0, .ref p0, rfl, rfl, a1, atI_zero (get_refs h4), p0, dz, _, rfl, o1, p0, n, f0, rfl, m, ?_⟩
    refine ⟨_, rfl, q, cF K, dy, _, _, rfl, l1, T.c_Family, T.n_maps, fFld_maps _, t', _, 0, .ref q0, rfl, rfl, a2, atI_zero (get_refs l4), q0, dw, _, rfl, o2, q0, n, g0, rfl, m', rfl, _, rfl, iteNS rfl ?_⟩
    refine ⟨_, rfl, p, cF K, dx, _, _, rfl, h1, T.c_Family, T.n_maps, fFld_maps _, t, refs ps, rfl, Or.inr a1, ?_⟩
    refine ⟨_, rfl, q, cF K, dy, _, _, rfl, l1, T.c_Family, T.n_maps, fFld_maps _, t', refs qs, rfl, Or.inr a2, _, _, rfl, rfl, ?_⟩
    refine ⟨fs.length + gs.length, by rw [b1, b2]; simp, h10, ?_⟩
    refine ⟨_, rfl, p, cF K, dx, _, _, rfl, h1, T.c_Family, T.n_maps, fFld_maps _, t, refs ps, rfl, Or.inl a1, ?_⟩
    refine ⟨_, rfl, q, cF K, dy, _, _, rfl, l1, T.c_Family, T.n_maps, fFld_maps _, t', refs qs, rfl, Or.inl a2, ?_⟩
    refine ⟨by simp [b1, b2, -List.length_map, -List.map_append]; exact Nat.le_trans h10 (by decide), fun a ha => ?_⟩
    refine ⟨a, n, ps ++ qs, fs ++ gs, rfl, Or.inl (Or.inl (by rw [upd_same]; simp)), (h3.append l3).ext (Ext.upd ha), ?_, by rw [List.length_append]; exact h10, fun x H' hx e M => k x H' (Ext.none (Ext.upd ha) hx) (Ext.trans (Ext.upd ha) e) M⟩
    rw [List.length_append]
    exact Nat.le_trans F.lo (Nat.le_add_right _ _)
/-! __invert__ -/
def spFInv (K : PySem.W.Frag) : Sp := fun vs H Q _ => ∃ p n fs, vs = [.ref p] ∧ FamAt K H p n fs ∧ ∀ x H', H x = Option.none → Ext H H' → FamAt K H' x n (invs n fs) → Q (.ref x) H'
theorem sc_finv : FnScope ["self", "one"] ["self"] (defScope (inFam 6)) := ⟨rfl, rfl, rfl, by decide +kernel, rfl, by decide +kernel, by decide +kernel⟩
theorem small_sz {n m : Nat} (h : n ≤ m) (k : m ≤ 10) : n < sizeLine := Nat.lt_of_le_of_lt (Nat.le_trans h k) (by decide)
theorem ok_finv (T : Txt K mg) : Fn P w K mg base 8 (He.ma K (cF K) "__invert__") (spFInv K) := by
  refine fn_by T.d_fInv sc_finv (fun _ _ _ _ _ _ us hl => match us, hl with | [_], _ => rfl) (fun vs H Q E h => ?_) (fun cdv A outer s H vs Q E hr h => ?_)
  · obtain ⟨p, n, fs, rfl, _⟩ := h
    rfl
  · obtain ⟨p, n, fs, rfl, F, k⟩ := h
    have f1 := F.lo
    have f2 := F.hi
    obtain ⟨dx, t, ps, h1, h2, h3⟩ := F.ob
    have sq : SqT K H t (refs ps) := Or.inl (Or.inl h2)
    have b1 : (refs ps).length = fs.length := by rw [List.length_map, h3.1]
    refine ⟨_, pss_one (ps_ret (pe_fn (ok_made T) hr (by rfl) T.g_made T.d_made.kp (pa_cons (pe_lc (own := [("one", 1)]) (g := gName 1) (tt := tYes) rfl sc_finv.nd (pi_tup (pe_fld (pv 0) rfl)) (blkOk_by (own := [("one", 1)]) (N := ["self", "one"]) (sc := defScope (inFam 6)) (by decide +kernel))
      (fun _ _ _ _ _ => pg_name (i := 1) sc_finv.nd rfl (Or.inl rfl)) (fun _ _ _ _ _ => pts_nil) (fun _ _ _ _ _ => pe_un (un_own T.m_mInv.1 T.m_mInv.2 (ok_inv T) (hr.mono (by decide))) (pv 1)) (fun _ => rfl)) pa_nil))), ?_⟩
    refine ⟨_, rfl, p, cF K, dx, _, _, rfl, h1, T.c_Family, T.n_maps, fFld_maps _, t, rfl, ⟨_, sq⟩, fun D hD => ?_⟩
    refine lc_it (walk_tup (xs := refs ps)) (fun i H2 => Ext H H2 ∧ ∃ qs, H2 D = some (.lst (refs qs)) ∧ MapsAt K H2 n qs (invs n (fs.take i))) ⟨Ext.upd hD, [], upd_same, MapsAt.nil⟩ (fun i H2 _ ⟨e1, _⟩ => sq.ext e1) ?_ ?_
    · rintro i x H2 H3 hi ⟨e1, qs, hd, hm⟩ ⟨rfl, hx⟩
      obtain ⟨q, rfl, hq⟩ := refs_get hx
      obtain ⟨f, hf, m⟩ := h3.2 i q hq
      have m2 := m.ext e1
      obtain ⟨dy, d, o1, _⟩ := m2.ob
      refine ⟨rfl, yesT ?_⟩
      refine ⟨_, rfl, q, dy, _, rfl, o1, q, n, f, rfl, m2, fun x H4 hx e4 M => ?_⟩
      have hd4 := e4 _ _ hd
      have xD : x ≠ D := fun z => by rw [z, hd] at hx; cases hx
      refine ⟨refs qs, hd4, ?_, Ext.mut (Ext.trans e1 e4) hD, qs ++ [x], by rw [upd_same]; simp, ?_⟩
      · rw [List.length_map, hm.1]
        exact small_sz (m := fs.length) (by unfold invs; rw [List.length_map, List.length_take]; omega) f2
      · rw [take_succ hf]
        unfold invs at hm ⊢
        rw [List.map_append]
        have aux : ∀ {r : Addr} {g : PF}, MapAt (cM K) H4 r n g → MapAt (cM K) (upd H4 D (.lst (refs qs ++ [.ref x]))) r n g := fun {r g} M => by
          obtain ⟨⟨dz, e, z1, z2⟩, z3, z4, z5⟩ := M
          exact ⟨⟨dz, e, by rw [upd_ne (ne_of z1 hd4 (by intro z; cases z))]; exact z1, by rw [upd_ne (ne_of z2 hd4 (by intro z; cases z))]; exact z2⟩, z3, z4, z5⟩
        have hm4 := hm.ext e4
        exact MapsAt.snoc ⟨hm4.1, fun j r hj => by obtain ⟨g, c1, c2⟩ := hm4.2 j r hj; exact ⟨g, c1, aux c2⟩⟩ (aux M)
    · rintro H2 ⟨e1, qs, hd, hm⟩
      rw [b1, List.take_length] at hm
      have li : (invs n fs).length = fs.length := len_invs n fs
      exact ⟨D, n, qs, invs n fs, rfl, Or.inl (Or.inl hd), hm, by rw [li]; exact f1, by rw [li]; exact f2, fun x H' hx e M => k x H' (Ext.none e1 hx) (Ext.trans e1 e) M⟩
/-! check_word -/
def spChkWord (K : PySem.W.Frag) : Sp := fun vs H Q _ => ∃ p a n fs w, vs = [.ref p, .ref a] ∧ FamAt K H p n fs ∧ WordAt H a w ∧ okw fs.length w ∧ w.length ≤ 1000 ∧ ∀ H', Ext H H' → Q .non H'
theorem sc_chkword : FnScope ["family", "word", "position", "index"] ["family", "word"] (defScope (top 39)) := ⟨rfl, rfl, rfl, by decide +kernel, rfl, by decide +kernel, by decide +kernel⟩
theorem ok_chkword (T : Txt K mg) : Fn P w K mg base 3 (He.ga K "check_word") (spChkWord K) := by
  refine fn_by T.d_check_word sc_chkword (fun _ _ _ _ _ _ us hl => match us, hl with | [_, _], _ => rfl) (fun vs H Q E h => ?_) (fun cdv A outer s H vs Q E hr h => ?_)
  · obtain ⟨p, a, n, fs, w, rfl, _⟩ := h
    rfl
  · obtain ⟨p, a, n, fs, w, rfl, F, hw, ho, hl, k⟩ := h
    obtain ⟨tk, hM⟩ := T.i_MOST_LETTERS
    refine ⟨_, pss_cons (ps_if (PW.pt (pw_or (pt_not (pt_val (pe_callB call_isiT (by rfl) T.u_isinstance (by decide +kernel) (pa_cons (pv 1) (pa_cons (pe_tup (pa_cons (pe_bltn (v := .ty "list") (by rfl) T.u_list (by decide +kernel) rfl) (pa_cons (pe_bltn (v := .ty "tuple") (by rfl) T.u_tuple (by decide +kernel) rfl) pa_nil))) pa_nil)))))
        (pw_or1 (pt_cmpR op_gt (pe_callB call_len_seq (by rfl) T.u_len (by decide +kernel) (pa_cons (pv 1) pa_nil)) (pe_glob (v := .int 1000) (by rfl) hM ⟨_, rfl⟩) (nomark _))))) (pss_never (X := _)) pss_nil)
      (pss_one (ps_for PassesOwn.never rfl (pi_enumA (by rfl) T.u_enumerate (pa_cons (pv 1) pa_nil)) (pg_tup rfl (pgs_cons (pg_name (i := 2) sc_chkword.nd rfl (Or.inl rfl)) (pgs_cons (pg_name (i := 3) sc_chkword.nd rfl (Or.inl rfl)) pgs_nil)))
        (pss_one (ps_if (pt_not (pt_val (pe_fn (ok_inrange T) hr (by rfl) T.g_in_range T.d_in_range.kp (pa_cons (pv 3) (pa_cons pe_int (pa_cons (pe_op op_sub (pe_callB (call_lenOwn T.m_fLen.1 T.m_fLen.2 (ok_flen T) hr) (by rfl) T.u_len (by decide +kernel) (pa_cons (pv 0) pa_nil)) pe_int) pa_nil)))))) (pss_never (X := _)) pss_nil)))), ?_⟩
    refine ⟨_, rfl, by decide, fun c hc => ?_⟩
    have e0 := Ext.upd (o := .tup [V.ty "list", V.ty "tuple"]) hc
    obtain ⟨t, ht, hk⟩ := kit_seq (K := K) (hw.ext e0)
    refine ⟨.ref a, c, _, t, _, true, rfl, upd_same, .cons (.ty _) (.cons (.ty _) .nil), ht, hk, _, rfl, iteF ?_⟩
    have hlen : (natsV w).length = w.length := List.length_map ..
    refine ⟨_, rfl, a, natsV w, rfl, (hw.ext e0).sq, _, 1000, rfl, rfl, _, rfl, ?_⟩
    rw [show decide ((1000 : Int) < ((natsV w).length : Nat)) = false from decide_eq_false (by rw [hlen]; omega)]
    refine iteF ?_
    rcases (hw.ext e0).sq (K := K) with hs | hs
    · refine ⟨_, rfl, a, natsV w, rfl, Or.inl ⟨hs, ?_⟩⟩
      refine for_it walk_enum (fun i σ H2 => Ext (upd H c (.tup [V.ty "list", V.ty "tuple"])) H2 ∧ ∃ v2 v3, σ = [some (.ref p), some (.ref a), v2, v3]) ⟨fun _ _ z => z, _, _, rfl⟩ (fun i σ H2 _ ⟨e1, _⟩ => hs.ext e1) ?_ ?_
      · rintro i x σ H2 H3 hi ⟨e1, v2, v3, rfl⟩ ⟨T', y, z, rfl, hT, rfl, hx, hy⟩
        simp only at hx hy
        obtain ⟨b, rfl, hb⟩ := natsV_get hy
        cases hx
        refine ⟨T', _, rfl, Or.inl (Or.inl upd_same), rfl, _, _, rfl, _, _, rfl, rfl, ?_⟩
        have e2 := Ext.upd' (o := .tup [.int (i : Nat), .int (b : Int)]) e1 hT
        have F2 := F.ext (Ext.trans e0 e2)
        obtain ⟨dx, t, ps, o1, _⟩ := F2.ob
        have hbl := ho b (List.mem_of_getElem? hb)
        refine ⟨_, rfl, _, rfl, p, dx, _, rfl, o1, p, n, fs, rfl, F2, fs.length, rfl, ⟨by omega, by have := F.hi; omega⟩, _, 1, rfl, rfl, b, 0, _, rfl, _, rfl, ?_⟩
        rw [show decide ((0 : Int) ≤ b ∧ (b : Int) ≤ (fs.length : Int) - 1) = true from decide_eq_true ⟨by omega, by omega⟩]
        exact iteF ⟨e2, _, _, rfl⟩
      · rintro σ H2 ⟨e1, v2, v3, rfl⟩
        exact k _ (Ext.trans e0 e1)
    · refine ⟨_, rfl, a, natsV w, rfl, Or.inr ⟨hs, ?_⟩⟩
      refine for_it walk_enumT (fun i σ H2 => Ext (upd H c (.tup [V.ty "list", V.ty "tuple"])) H2 ∧ ∃ v2 v3, σ = [some (.ref p), some (.ref a), v2, v3]) ⟨fun _ _ z => z, _, _, rfl⟩ (fun i σ H2 _ ⟨e1, _⟩ => hs.ext e1) ?_ ?_
      · rintro i x σ H2 H3 hi ⟨e1, v2, v3, rfl⟩ ⟨T', y, z, rfl, hT, rfl, hx, hy⟩
        simp only at hx hy
        obtain ⟨b, rfl, hb⟩ := natsV_get hy
        cases hx
        refine ⟨T', _, rfl, Or.inl (Or.inl upd_same), rfl, _, _, rfl, _, _, rfl, rfl, ?_⟩
        have e2 := Ext.upd' (o := .tup [.int (i : Nat), .int (b : Int)]) e1 hT
        have F2 := F.ext (Ext.trans e0 e2)
        obtain ⟨dx, t, ps, o1, _⟩ := F2.ob
        have hbl := ho b (List.mem_of_getElem? hb)
        refine ⟨_, rfl, _, rfl, p, dx, _, rfl, o1, p, n, fs, rfl, F2, fs.length, rfl, ⟨by omega, by have := F.hi; omega⟩, _, 1, rfl, rfl, b, 0, _, rfl, _, rfl, ?_⟩
        rw [show decide ((0 : Int) ≤ b ∧ (b : Int) ≤ (fs.length : Int) - 1) = true from decide_eq_true ⟨by omega, by omega⟩]
        exact iteF ⟨e2, _, _, rfl⟩
      · rintro σ H2 ⟨e1, v2, v3, rfl⟩
        exact k _ (Ext.trans e0 e1)
/-! family(word) -/
def spFCall (K : PySem.W.Frag) : Sp := fun vs H Q _ => ∃ p a n fs w, vs = [.ref p, .ref a] ∧ FamAt K H p n fs ∧ WordAt H a w ∧ okw fs.length w ∧ w.length ≤ 1000 ∧ ∀ x H', H x = Option.none → Ext H H' → MapAt (cM K) H' x n (prd n fs w) → Q (.ref x) H'
theorem sc_fcall : FnScope ["self", "word", "found", "index"] ["self", "word"] (defScope (inFam 4)) := ⟨rfl, rfl, rfl, by decide +kernel, rfl, by decide +kernel, by decide +kernel⟩
theorem ok_fcall (T : Txt K mg) : Fn P w K mg base 8 (He.ma K (cF K) "__call__") (spFCall K) := by
  refine fn_by T.d_fCall sc_fcall (fun _ _ _ _ _ _ us hl => match us, hl with | [_, _], _ => rfl) (fun vs H Q E h => ?_) (fun cdv A outer s H vs Q E hr h => ?_)
  · obtain ⟨p, a, n, fs, w, rfl, _⟩ := h
    rfl
  · obtain ⟨p, a, n, fs, w, rfl, F, hw, ho, hl, k⟩ := h
    refine ⟨_, pss_cons (ps_expr (pe_fn (ok_chkword T) (hr.mono (by decide)) (by rfl) T.g_check_word T.d_check_word.kp (pa_cons (pv 0) (pa_cons (pv 1) pa_nil))))
      (pss_cons (ps_set (i := 2) sc_fcall.nd rfl (Or.inl rfl) (ClX.pe_cmeth (pe_glob (v := .ref (cM K)) (by rfl) T.g_Map rfl) T.r_Map T.m_cId (ok_ident T) (hr.mono (by decide)) pass0 (pa_cons (pe_pr (pe_ix ix_tup (pe_fld (pv 0) rfl) pe_int (fun _ _ => rfl)) T.c_Map T.m_pSize (ok_size T) (hr.mono (by decide))) pa_nil)))
      (pss_cons (ps_for PassesOwn.never rfl (pi_or (pi_list (pv 1)) (pi_tup (pv 1))) (pg_name (i := 3) sc_fcall.nd rfl (Or.inl rfl))
        (pss_one (ps_set (i := 2) sc_fcall.nd rfl (Or.inl rfl) (pe_op (op_own T.s_Map T.m_mMul.1 T.m_mMul.2 (ok_mul T) (hr.mono (by decide))) (pv 2) (pe_ix ix_tup (pe_fld (pv 0) rfl) (pv 3) (fun _ _ => rfl))))))
      (pss_one (ps_ret (pv 2))))), ?_⟩
    refine ⟨_, rfl, _, rfl, p, a, n, fs, w, rfl, F, hw, ho, hl, fun H1 e1 => ?_⟩
    obtain ⟨dx, t, ps, p0, f0, h1, h2, h3, h4, m⟩ := (F.ext e1).first
    obtain ⟨dz, d, o1, _⟩ := m.ob
    have sq : SqT K H1 t (refs ps) := Or.inl (Or.inl h2)
    have wfs := F.wfs
    have sz := F.sz
    refine ⟨rfl, _, rfl, p, cF K, dx, _, _, rfl, h1, T.c_Family, T.n_maps, fFld_maps _, t, _, 0, .ref p0, rfl, rfl, sq, atI_zero (get_refs h4), p0, dz, _, rfl, o1, p0, n, f0, rfl, m, ?_⟩
    refine ⟨n, rfl, sz.1, sz.2, fun x0 H2 hx0 e2 M0 => ?_⟩
    have e12 := Ext.trans e1 e2
    rcases (hw.ext e12).sq (K := K) with hs | hs
    · refine Or.inl ⟨_, rfl, a, rfl, ⟨_, hs⟩, ?_⟩
      refine for_it walk_list (fun i σ H3 => Ext H2 H3 ∧ ∃ x v, σ = [some (.ref p), some (.ref a), some (.ref x), v] ∧ H x = Option.none ∧ MapAt (cM K) H3 x n (prd n fs (w.take i)))
        ⟨fun _ _ z => z, x0, _, rfl, Ext.none e1 hx0, M0⟩ (fun i σ H3 _ ⟨e3, _⟩ => hs.ext e3) ?_ ?_
      · rintro i y σ H3 H4 hi ⟨e3, x, v, rfl, hx, M⟩ ⟨rfl, hy⟩
        obtain ⟨b, rfl, hb⟩ := natsV_get hy
        have hbl := ho b (List.mem_of_getElem? hb)
        obtain ⟨pb, hpb, mb⟩ := h3.get (List.getElem?_eq_getElem hbl)
        have e23 := Ext.trans e2 e3
        have mb3 := mb.ext e23
        obtain ⟨dm, dd, om, _⟩ := M.ob
        obtain ⟨dn, de, on, _⟩ := mb3.ob
        refine ⟨_, rfl, _, rfl, p, cF K, dx, _, _, rfl, e23 _ _ h1, T.c_Family, T.n_maps, fFld_maps _, _, rfl, t, _, b, .ref pb, rfl, rfl, sq.ext e23, atI_nat (get_refs hpb), ?_⟩
        refine ⟨x, pb, dm, dn, _, _, rfl, rfl, om, on, x, pb, n, _, _, rfl, M, mb3, fun x' H5 hx' e5 M' => ?_⟩
        refine ⟨Ext.trans e3 e5, x', _, rfl, Ext.none e12 (Ext.none e3 hx'), ?_⟩
        rw [take_succ hb, prd_snoc wfs, show ltr fs b = fs[b] from by simp [ltr, List.getD_eq_getElem?_getD, hbl]]
        exact M'
      · rintro σ H3 ⟨e3, x, v, rfl, hx, M⟩
        rw [List.length_map, List.take_length] at M
        exact ⟨_, rfl, k x H3 hx (Ext.trans e12 e3) M⟩
    · refine Or.inr ⟨_, rfl, a, rfl, ⟨_, hs⟩, ?_⟩
      refine for_it walk_tup (fun i σ H3 => Ext H2 H3 ∧ ∃ x v, σ = [some (.ref p), some (.ref a), some (.ref x), v] ∧ H x = Option.none ∧ MapAt (cM K) H3 x n (prd n fs (w.take i)))
        ⟨fun _ _ z => z, x0, _, rfl, Ext.none e1 hx0, M0⟩ (fun i σ H3 _ ⟨e3, _⟩ => hs.ext e3) ?_ ?_
      · rintro i y σ H3 H4 hi ⟨e3, x, v, rfl, hx, M⟩ ⟨rfl, hy⟩
        obtain ⟨b, rfl, hb⟩ := natsV_get hy
        have hbl := ho b (List.mem_of_getElem? hb)
        obtain ⟨pb, hpb, mb⟩ := h3.get (List.getElem?_eq_getElem hbl)
        have e23 := Ext.trans e2 e3
        have mb3 := mb.ext e23
        obtain ⟨dm, dd, om, _⟩ := M.ob
        obtain ⟨dn, de, on, _⟩ := mb3.ob
        refine ⟨_, rfl, _, rfl, p, cF K, dx, _, _, rfl, e23 _ _ h1, T.c_Family, T.n_maps, fFld_maps _, _, rfl, t, _, b, .ref pb, rfl, rfl, sq.ext e23, atI_nat (get_refs hpb), ?_⟩
        refine ⟨x, pb, dm, dn, _, _, rfl, rfl, om, on, x, pb, n, _, _, rfl, M, mb3, fun x' H5 hx' e5 M' => ?_⟩
        refine ⟨Ext.trans e3 e5, x', _, rfl, Ext.none e12 (Ext.none e3 hx'), ?_⟩
        rw [take_succ hb, prd_snoc wfs, show ltr fs b = fs[b] from by simp [ltr, List.getD_eq_getElem?_getD, hbl]]
        exact M'
      · rintro σ H3 ⟨e3, x, v, rfl, hx, M⟩
        rw [List.length_map, List.take_length] at M
        exact ⟨_, rfl, k x H3 hx (Ext.trans e12 e3) M⟩
end
end CM
-- part R4
set_option Elab.async false
set_option linter.all false
set_option maxRecDepth 100000
set_option maxHeartbeats 4000000
/-! ### a list != [] -/
namespace CM
open PySem PySem.Spec PyProof.Rows L2 StX
def rNeNil : R2 := fun x y H Q => ∃ a b xs, x = .ref a ∧ y = .ref b ∧ H a = some (.lst xs) ∧ H b = some (.lst []) ∧ Q (.bl (!xs.isEmpty)) H
theorem op_neNil {X : Cx} (hu : X.A.units < cLine) : OpR X (compareOp .NotEq) rNeNil := by
  intro pins s σ H x y v u Q I rx ry h
  obtain ⟨a, b, xs, rfl, rfl, ea, eb, q⟩ := h
  obtain rfl : v = Value.ref a := rx
  obtain rfl : u = Value.ref b := ry
  obtain ⟨its, n, r, h1, _⟩ := I.lst ea
  obtain ⟨its', n', r', h2, _⟩ := I.lst eb
  cases r'
  show wpAny (model X.prog X.w) X.A (richCompare .NotEq (.ref a) (.ref b)) (EP X pins σ Q) X.xe s
  cases r with
  | nil =>
    refine wpAny_richCompare_same_room (op := .NotEq) ⟨_, h1, rfl⟩ ⟨_, h2, rfl⟩ F.slot_list_ne (call_meets F.slot_list_ne ⟨_, h1, rfl⟩ F.entry_list_ne (F.args_list_ne_2 _ _) (SeqAt.list_neAt a b #[] #[] _ _ _ _ _ _ rfl (fun _ => true)) ⟨h1, h2, fun j z => absurd z (by simp), ?_⟩) hu
    exact ⟨(fun z => nomatch z), .bl false, H, I, rfl, q⟩
  | @cons x0 u0 xs0 us0 rr tt =>
    refine wpAny_richCompare_same_room (op := .NotEq) ⟨_, h1, rfl⟩ ⟨_, h2, rfl⟩ F.slot_list_ne (call_meets F.slot_list_ne ⟨_, h1, rfl⟩ F.entry_list_ne (F.args_list_ne_2 _ _) (SeqAt.list_ne_lengthsAt a b _ _ _ _ _ _ _ _ (by simp)) ⟨h1, h2, ?_⟩) hu
    exact ⟨(fun z => nomatch z), .bl true, H, I, rfl, q⟩
/-! ### a dict of words -/
structure Wd {α κ : Type} (enc : α → κ) (H : Hp) (kvs : List (κ × V)) (L : List (α × List Nat)) : Prop where
  len : kvs.length = L.length
  get : ∀ (j : Nat) (e : α) (w : List Nat), L[j]? = some (e, w) → ∃ a, kvs[j]? = some (enc e, V.ref a) ∧ H a = some (.tup (natsV w))
section
variable {α κ : Type} [DecidableEq κ] {enc : α → κ} {H H' : Hp} {kvs : List (κ × V)} {L : List (α × List Nat)}
theorem Wd.keys (h : Wd enc H kvs L) : kvs.map Prod.fst = L.map fun p => enc p.1 := by
  apply List.ext_getElem?
  intro j
  rw [List.getElem?_map, List.getElem?_map]
  cases e : L[j]? with
  | none =>
    have : kvs[j]? = none := by rw [List.getElem?_eq_none_iff, h.len]; exact List.getElem?_eq_none_iff.mp e
    rw [this]
    rfl
  | some p =>
    obtain ⟨a, h1, _⟩ := h.get j p.1 p.2 e
    rw [h1]
    rfl
theorem Wd.some (h : Wd enc H kvs L) (inj : ∀ a, a ∈ L.map Prod.fst → ∀ b, b ∈ L.map Prod.fst → enc a = enc b → a = b) (nd : (L.map Prod.fst).Nodup) {j : Nat} {e : α} {w : List Nat} (hj : L[j]? = some (e, w)) : ∃ a, valV kvs (enc e) = some (.ref a) ∧ H a = some (.tup (natsV w)) := by
  obtain ⟨a, h1, h2⟩ := h.get j e w hj
  refine ⟨a, ?_, h2⟩
  have ndk : (kvs.map Prod.fst).Nodup := by
    rw [h.keys]
    have := map_nodup_on (f := enc) inj nd
    rw [List.map_map] at this
    exact this
  exact val_nodup ndk (enc e, V.ref a) (List.mem_of_getElem? h1)
theorem Wd.no (h : Wd enc H kvs L) {e : α} (hn : ∀ b, b ∈ L.map Prod.fst → enc b ≠ enc e) : valV kvs (enc e) = none := by
  cases q : valV kvs (enc e) with
  | none => rfl
  | some v =>
    have hm := valV_in q
    have hk : kvs.map (·.1) = L.map fun p => enc p.1 := h.keys
    rw [hk] at hm
    obtain ⟨p, hp, ep⟩ := List.mem_map.mp hm
    exact absurd ep (hn p.1 (List.mem_map.mpr ⟨p, hp, rfl⟩))
theorem Wd.ext (h : Wd enc H kvs L) (e : Ext H H') : Wd enc H' kvs L := ⟨h.len, fun j x w hj => by
  obtain ⟨a, h1, h2⟩ := h.get j x w hj
  exact ⟨a, h1, e _ _ h2⟩⟩
/-- the tuples stand still -/
theorem Wd.tups (h : Wd enc H kvs L) (e : ∀ a xs, H a = Option.some (.tup xs) → H' a = Option.some (.tup xs)) : Wd enc H' kvs L := ⟨h.len, fun j x w hj => by
  obtain ⟨a, h1, h2⟩ := h.get j x w hj
  exact ⟨a, h1, e _ _ h2⟩⟩
theorem Wd.one {a : Addr} {e : α} {w : List Nat} (ha : H a = Option.some (.tup (natsV w))) : Wd enc H [(enc e, V.ref a)] [(e, w)] := ⟨rfl, fun j x v hj => by
  cases j with
  | zero =>
    cases hj
    exact ⟨a, rfl, ha⟩
  | succ j => cases hj⟩
theorem Wd.snoc (h : Wd enc H kvs L) {a : Addr} {e : α} {w : List Nat} (ha : H a = Option.some (.tup (natsV w))) : Wd enc H (kvs ++ [(enc e, V.ref a)]) (L ++ [(e, w)]) := by
  refine ⟨by rw [List.length_append, List.length_append, h.len]; rfl, fun j x v hj => ?_⟩
  rcases Nat.lt_trichotomy j L.length with c | c | c
  · rw [List.getElem?_append_left c] at hj
    obtain ⟨b, h1, h2⟩ := h.get j x v hj
    exact ⟨b, by rw [List.getElem?_append_left (by rw [h.len]; exact c)]; exact h1, h2⟩
  · subst c
    rw [List.getElem?_append_right (Nat.le_refl _), Nat.sub_self] at hj
    cases hj
    exact ⟨a, by rw [← h.len, List.getElem?_append_right (Nat.le_refl _), Nat.sub_self]; rfl, ha⟩
  · rw [List.getElem?_eq_none (by rw [List.length_append]; simp; omega)] at hj
    cases hj
end
abbrev encE : Nat → Key := fun e => Sum.inl (e : Int)
theorem encE_inj {a b : Nat} (h : encE a = encE b) : a = b := by
  have := Sum.inl.inj h
  omega
/-- dicts of arrows -/
def TabsAt (H : Hp) (n : Nat) (ts : List Addr) (fs : List PF) : Prop := ts.length = fs.length ∧ ∀ (i : Nat) (t : Addr), ts[i]? = some t → ∃ f, fs[i]? = some f ∧ H t = some (.dK (kvN (rowsOf n f))) ∧ WF n f
theorem TabsAt.ext {H H' : Hp} {n : Nat} {ts : List Addr} {fs : List PF} (h : TabsAt H n ts fs) (e : Ext H H') : TabsAt H' n ts fs := ⟨h.1, fun i t hi => by
  obtain ⟨f, h1, h2, h3⟩ := h.2 i t hi
  exact ⟨f, h1, e _ _ h2, h3⟩⟩
theorem TabsAt.wfs {H : Hp} {n : Nat} {ts : List Addr} {fs : List PF} (h : TabsAt H n ts fs) : WFs n fs := fun f hf => by
  obtain ⟨i, hi⟩ := List.mem_iff_getElem?.mp hf
  have hl : i < ts.length := by rw [h.1]; exact (List.getElem?_eq_some_iff.mp hi).1
  obtain ⟨g, h1, _, h3⟩ := h.2 i _ (List.getElem?_eq_getElem hl)
  rw [hi] at h1
  cases h1
  exact h3
theorem ltr_get {fs : List PF} {i : Nat} {f : PF} (h : fs[i]? = some f) : ltr fs i = f := by simp [ltr, List.getD_eq_getElem?_getD, h]
end CM
-- part D9
set_option Elab.async false
set_option linter.all false
set_option maxRecDepth 100000
set_option maxHeartbeats 4000000
/-! ### first_words -/
namespace CM
open PySem PySem.Spec PyProof.Rows L2 StX
theorem seq0 (n : Nat) : seqIndex? 0 (n + 1) = some 0 := by simp [seqIndex?]
/-- the search so far, as it stands -/
structure FwSt (H H' : Hp) (d n : Nat) (fs : List PF) (s : Nat) (L : List (Nat × List Nat)) (i a : Nat) (kvs : List (Key × V)) : Prop where
  ex : Ext H H'
  bi : BI fs.length (stepE fs) s L i a
  lt : ∀ e w, (e, w) ∈ L → e < n
  bl : ∀ (j : Nat) e w, L[j]? = some (e, w) → w.length ≤ j
  hd : H' d = some (.dK kvs)
  wd : Wd encE H' kvs L
theorem FwSt.few {H H' : Hp} {d n : Nat} {fs : List PF} {s i a : Nat} {L : List (Nat × List Nat)} {kvs : List (Key × V)} (h : FwSt H H' d n fs s L i a kvs) : L.length ≤ n := by
  have := nodup_len h.bi.nd (u := List.range n) fun x hx => by
    obtain ⟨w, hw⟩ := mem_fst.mp hx
    exact List.mem_range.mpr (h.lt x w hw)
  rw [List.length_map, List.length_range] at this
  exact this
theorem mem_snoc_pair {α : Type} {L : List (α × List Nat)} {y e : α} {v w : List Nat} (h : (e, w) ∈ L ++ [(y, v)]) : (e, w) ∈ L ∨ (e = y ∧ w = v) := by
  rcases List.mem_append.mp h with q | q
  · exact Or.inl q
  · right
    have := List.mem_singleton.mp q
    exact ⟨congrArg Prod.fst this, congrArg Prod.snd this⟩
theorem get_snoc_pair {α : Type} {L : List (α × List Nat)} {y e : α} {v w : List Nat} {j : Nat} (h : (L ++ [(y, v)])[j]? = some (e, w)) : L[j]? = some (e, w) ∨ (j = L.length ∧ e = y ∧ w = v) := by
  rcases Nat.lt_trichotomy j L.length with c | c | c
  · rw [List.getElem?_append_left c] at h
    exact Or.inl h
  · subst c
    rw [List.getElem?_append_right (Nat.le_refl _), Nat.sub_self] at h
    cases h
    exact Or.inr ⟨rfl, rfl, rfl⟩
  · rw [List.getElem?_eq_none (by rw [List.length_append]; simp; omega)] at h
    cases h
theorem drop_snoc {α : Type} {L : List α} {x : α} {i : Nat} (h : i ≤ L.length) : (L ++ [x]).drop i = L.drop i ++ [x] := by
  rw [List.drop_append_of_le_length h]
section
variable {P : Program} {w : World} {K : PySem.W.Frag} {mg : Str → Option Value} {base : Heap}
def spFW (K : PySem.W.Frag) : Sp := fun vs H Q _ => ∃ tb s n ts fs, vs = [.ref tb, .int (s : Nat)] ∧ SqL K H tb (refs ts) ∧ TabsAt H n ts fs ∧ s < n ∧ n ≤ 300 ∧
  ∀ d H' kvs L a, H d = Option.none → FwSt H H' d n fs s L L.length a kvs → Q (.ref d) H'
theorem sc_fw : FnScope ["tables", "start", "words", "waiting", "place", "index", "table"] ["tables", "start"] (defScope (top 41)) := ⟨rfl, rfl, rfl, by decide +kernel, rfl, by decide +kernel, by decide +kernel⟩
theorem ok_fw (T : Txt K mg) : Fn P w K mg base 1 (He.ga K "first_words") (spFW K) := by
  refine fn_by T.d_first_words sc_fw (fun _ _ _ _ _ _ us hl => match us, hl with | [_, _], _ => rfl) (fun vs H Q E h => ?_) (fun cdv A outer s H vs Q E hr h => ?_)
  · obtain ⟨tb, s, n, ts, fs, rfl, _⟩ := h
    rfl
  · obtain ⟨tb, s, n, ts, fs, rfl, htb, hts, hsn, hn, k⟩ := h
    have hu := hu_of hr
    have wfs := hts.wfs
    refine ⟨_, pss_cons (ps_set (i := 2) sc_fw.nd rfl (Or.inl rfl) (pe_disp (pps_cons (pv 1) (pe_tup pa_nil) pps_nil) rfl rfl (fun z => (nomatch z)) (by decide)))
      (pss_cons (ps_set (i := 3) sc_fw.nd rfl (Or.inl rfl) (pe_lst (pa_cons (pv 1) pa_nil)))
      (pss_cons (ps_while PassesOwn.never (pt_cmpR (op_neNil (Nat.lt_of_succ_lt hu)) (pv 3) (pe_lst pa_nil) (nomark _))
        (pss_cons (ps_set (i := 4) sc_fw.nd rfl (Or.inl rfl) (pe_bm PySem.F.plainAttrs_list PySem.F.slot_list_pop PySem.F.type_list_pop mt_popAt (pv 3) (pa_cons pe_int pa_nil)))
        (pss_one (ps_for PassesOwn.never rfl (pi_enum (by rfl) T.u_enumerate (pa_cons (pv 0) pa_nil)) (pg_tup rfl (pgs_cons (pg_name (i := 5) sc_fw.nd rfl (Or.inl rfl)) (pgs_cons (pg_name (i := 6) sc_fw.nd rfl (Or.inl rfl)) pgs_nil)))
          (pss_one (ps_if (PW.pt (pw_and (pt_cmp (pc_din hu (pv 4) (pv 6))) (pw_and1 (pt_cmp (pc_dnotin hu (pe_dget hu (pv 6) (pv 4) (fun _ _ => rfl)) (pv 2))))))
            (pss_cons (ps_dput hu (pv 2) (pe_dget hu (pv 6) (pv 4) (fun _ _ => rfl)) (pe_tup (pa_star (pe_dget hu (pv 2) (pv 4) (fun _ _ => rfl)) (pa_cons (pv 5) pa_nil))) rfl)
            (pss_one (ps_expr (pe_bm PySem.F.plainAttrs_list PySem.F.slot_list_append PySem.F.type_list_append mt_append (pv 3) (pa_cons (pe_dget hu (pv 6) (pv 4) (fun _ _ => rfl)) pa_nil)))))
            pss_nil))))))
      (pss_one (ps_ret (pv 2))))), ?_⟩
    intro d hd
    refine ⟨_, rfl, by decide, fun t ht => ?_⟩
    have ndt : d ≠ t := fun z => by rw [← z, upd_same] at ht; cases ht
    have ht0 : H t = Option.none := by rw [upd_ne ndt.symm] at ht; exact ht
    refine ⟨by rw [upd_ne ndt, upd_same], [(Sum.inl (s : Int), V.ref t)], rfl, (by show 1 ≤ 15; decide), ?_⟩
    refine ⟨_, rfl, (by show 1 ≤ sizeLine; decide), fun q hq => ?_⟩
    have ndq : d ≠ q := fun z => by rw [← z, upd_same] at hq; cases hq
    have hq1 : (upd (upd H d (.dK [])) t (.tup [])) q = Option.none := by rw [upd_ne ndq.symm] at hq; exact hq
    have ntq : t ≠ q := fun z => by rw [← z, upd_same] at hq1; cases hq1
    have hq0 : H q = Option.none := by rw [upd_ne ntq.symm, upd_ne ndq.symm] at hq1; exact hq1
    have e0 : Ext H (upd (upd (upd (upd H d (.dK [])) t (.tup [])) d (.dK [(Sum.inl (s : Int), V.ref t)])) q (.lst [V.int (s : Int)])) := Ext.mut (Ext.mut (Ext.trans (Ext.upd hd) (Ext.upd ht)) hd) hq0
    refine ⟨fun m σ H2 => ∃ L i kvs v4 v5 v6, m = n - i ∧ i ≤ L.length ∧ σ = [some (.ref tb), some (.int s), some (.ref d), some (.ref q), v4, v5, v6] ∧ FwSt H H2 d n fs s L i 0 kvs ∧ H2 q = some (.lst (natsV ((L.drop i).map Prod.fst))), ⟨_, [(s, [])], 0, _, _, _, _, rfl, Nat.zero_le _, rfl, ⟨e0, BI.start, ?_, ?_, ?_, Wd.one (a := t) (e := s) (w := []) ?_⟩, upd_same⟩, ?_⟩
    · intro e w h
      have := List.mem_singleton.mp h
      cases this
      exact hsn
    · intro j e w h
      cases j with
      | zero => cases h; exact Nat.le_refl _
      | succ j => cases h
    · rw [upd_ne ndq, upd_same]
      rfl
    · rw [upd_ne ntq, upd_ne ndt.symm, upd_same]
      rfl
    rintro m σ H2 ⟨L, i, kvs, v4, v5, v6, rfl, hil, rfl, S, hQ⟩
    have hQd : ∀ {x : Addr}, H2 x = Option.none → q ≠ x := fun h => ne_of_none hQ h
    refine ⟨_, rfl, by decide, fun x hx => ?_⟩
    refine ⟨q, x, _, rfl, rfl, by rw [upd_ne (hQd hx)]; exact hQ, upd_same, _, rfl, ?_⟩
    have eX := Ext.upd (o := .lst []) hx
    have S' : FwSt H (upd H2 x (.lst [])) d n fs s L i 0 kvs := ⟨Ext.trans S.ex eX, S.bi, S.lt, S.bl, eX _ _ S.hd, S.wd.ext eX⟩
    have hQ' : (upd H2 x (.lst [])) q = some (.lst (natsV ((L.drop i).map Prod.fst))) := eX _ _ hQ
    cases hL : L[i]? with
    | none =>
      have hge : L.length ≤ i := List.getElem?_eq_none_iff.mp hL
      have hi : i = L.length := by omega
      subst hi
      rw [List.drop_length]
      refine iteF ⟨_, rfl, ?_⟩
      exact k d _ kvs L 0 hd S'
    | some p =>
      obtain ⟨e, wd⟩ := p
      have hlt : i < L.length := (List.getElem?_eq_some_iff.mp hL).1
      have hdr : L.drop i = (e, wd) :: L.drop (i + 1) := by
        rw [List.drop_eq_getElem_cons hlt]
        have := (List.getElem?_eq_some_iff.mp hL).2
        rw [this]
      rw [hdr]
      have hnn := S.few
      refine iteT ⟨fun σ' H' => ∃ L i' kvs v4 v5 v6, i' = i + 1 ∧ i' ≤ L.length ∧ σ' = [some (.ref tb), some (.int s), some (.ref d), some (.ref q), v4, v5, v6] ∧ FwSt H H' d n fs s L i' 0 kvs ∧ H' q = some (.lst (natsV ((L.drop i').map Prod.fst))), ?_, ?_⟩
      · rintro σ' H' ⟨L', i', kvs', u4, u5, u6, rfl, h1, h2, h3, h4⟩
        exact ⟨n - (i + 1), by omega, L', i + 1, kvs', u4, u5, u6, rfl, h1, h2, h3, h4⟩
      · rw [hdr] at hQ'
        refine ⟨_, rfl, Or.inl ⟨rfl, _, Or.inl (Or.inl hQ')⟩, q, _, 0, 0, .int e, rfl, rfl, hQ', by decide, by decide, seq0 _, rfl, ?_⟩
        have eQ : Ext H (upd (upd H2 x (.lst [])) q (.lst (natsV ((L.drop (i + 1)).map Prod.fst)))) := Ext.mut S'.ex hq0
        have tup_keep : ∀ {H3 : Hp} {o : HO} (h0 : H3 q = some (.lst ((V.int (e : Int)) :: natsV ((L.drop (i + 1)).map Prod.fst)))) (a : Addr) (xs : List V), H3 a = some (.tup xs) → (upd H3 q o) a = some (.tup xs) := fun h0 a xs ha => by rw [upd_ne (ne_of ha h0 (by intro z; cases z))]; exact ha
        refine ⟨_, rfl, tb, refs ts, rfl, htb.ext eQ, for_it walk_enum (fun b σ H3 => ∃ L kvs v5 v6, i + 1 ≤ L.length ∧ L[i]? = some (e, wd) ∧ σ = [some (.ref tb), some (.int s), some (.ref d), some (.ref q), some (.int e), v5, v6] ∧ FwSt H H3 d n fs s L i b kvs ∧ H3 q = some (.lst (natsV ((L.drop (i + 1)).map Prod.fst))))
          ⟨L, kvs, _, _, hlt, hL, rfl, ⟨eQ, S'.bi, S'.lt, S'.bl, by rw [upd_ne ndq]; exact S'.hd, S'.wd.tups (tup_keep hQ')⟩, upd_same⟩ (fun b σ H3 _ ⟨_, _, _, _, _, _, _, S, _⟩ => htb.ext S.ex) ?_ ?_⟩
        · rintro b y σ H3 H4 hb ⟨L, kvs, v5, v6, hle, hL, rfl, S, hQ⟩ ⟨T', y1, y2, rfl, hT, rfl, hx, hy⟩
          simp only at hx hy
          obtain ⟨tp, rfl, htp⟩ := refs_get hy
          cases hx
          obtain ⟨f, hf, htab, hwf⟩ := hts.2 b tp htp
          have eT := Ext.upd (o := .tup [.int (b : Nat), .ref tp]) hT
          have bm : b < fs.length := (List.getElem?_eq_some_iff.mp hf).1
          have hstep : ∀ x, stepE fs b x = f x := fun x => by unfold stepE; rw [ltr_get hf]
          have htp4 := eT _ _ (S.ex _ _ htab)
          have hdg := DGet.k (k := Sum.inl (e : Int)) htp4
          rw [valV_rows hwf] at hdg
          have S4 : FwSt H (upd H3 T' (.tup [.int (b : Nat), .ref tp])) d n fs s L i b kvs := ⟨Ext.trans S.ex eT, S.bi, S.lt, S.bl, eT _ _ S.hd, S.wd.ext eT⟩
          have hQ4 := eT _ _ hQ
          refine ⟨T', _, rfl, Or.inl (Or.inl upd_same), rfl, _, _, rfl, _, _, rfl, rfl, ?_⟩
          refine ⟨_, rfl, _, rfl, tp, _, rfl, hdg, _, rfl, ?_⟩
          cases ef : f e with
          | none =>
            exact iteF ⟨L, kvs, _, _, hle, hL, rfl, ⟨S4.ex, S4.bi.skip hL (fun y hy => by rw [hstep, ef] at hy; cases hy), S4.lt, S4.bl, S4.hd, S4.wd⟩, hQ4⟩
          | some g =>
            rw [ef] at hdg
            have hgn : g < n := (hwf.dom e g ef).2
            refine iteT ⟨_, rfl, _, rfl, tp, _, rfl, hdg, _, rfl, d, _, rfl, DGet.k (k := Sum.inl (g : Int)) S4.hd, _, rfl, ?_⟩
            by_cases hg : g ∈ L.map Prod.fst
            · obtain ⟨wg, hwg⟩ := mem_fst.mp hg
              obtain ⟨j, hj⟩ := List.mem_iff_getElem?.mp hwg
              obtain ⟨ag, hv, _⟩ := S4.wd.some (fun a _ b _ z => encE_inj z) S4.bi.nd hj
              rw [hv]
              exact iteF ⟨L, kvs, _, _, hle, hL, rfl, ⟨S4.ex, S4.bi.skip hL (fun y hy => by rw [hstep, ef] at hy; cases hy; exact hg), S4.lt, S4.bl, S4.hd, S4.wd⟩, hQ4⟩
            · have hv := S4.wd.no (e := g) (fun b hb z => hg (by rw [encE_inj z] at hb; exact hb))
              rw [hv]
              obtain ⟨ae, hve, hae⟩ := S4.wd.some (fun a _ b _ z => encE_inj z) S4.bi.nd hL
              have hde := DGet.k (k := Sum.inl (e : Int)) S4.hd
              rw [hve] at hde
              have hwl := S4.bl i e wd hL
              have few4 := S4.few
              refine iteT ⟨_, rfl, _, rfl, d, _, rfl, hde, ae, natsV wd, rfl, Or.inl (Or.inl (Or.inl hae)), _, rfl, ?_, fun a ha => ?_⟩
              · show (natsV wd ++ [V.int (b : Int)]).length ≤ sizeLine
                rw [List.length_append, List.length_map]
                exact Nat.le_of_lt (small300 (m := n) (by simp; omega) hn)
              have eA := Ext.upd (o := .tup (natsV wd ++ [V.int (b : Int)])) ha
              have htp5 := eA _ _ htp4
              have hdg5 := DGet.k (k := Sum.inl (e : Int)) htp5
              rw [valV_rows hwf, ef] at hdg5
              refine ⟨_, rfl, _, rfl, _, rfl, tp, _, rfl, hdg5, d, _, rfl, DPut.k (k := Sum.inl (g : Int)) (eA _ _ S4.hd) (by rw [S4.wd.len]; exact Nat.lt_of_le_of_lt few4 (small300 (Nat.le_refl _) hn)), ?_⟩
              rw [putK_new _ hv]
              have nda : d ≠ a := ne_of_none S4.hd ha
              have hQ5 : (upd (upd (upd H3 T' (.tup [.int (b : Nat), .ref tp])) a (.tup (natsV wd ++ [V.int (b : Int)]))) d (.dK (kvs ++ [(Sum.inl (g : Int), V.ref a)]))) q = some (.lst (natsV ((L.drop (i + 1)).map Prod.fst))) := by rw [upd_ne ndq.symm]; exact eA _ _ hQ4
              have ex5 : Ext H (upd (upd (upd H3 T' (.tup [.int (b : Nat), .ref tp])) a (.tup (natsV wd ++ [V.int (b : Int)]))) d (.dK (kvs ++ [(Sum.inl (g : Int), V.ref a)]))) := Ext.mut (Ext.trans S4.ex eA) hd
              have hdg6 := DGet.k (k := Sum.inl (e : Int)) (ex5 _ _ htab)
              rw [valV_rows hwf, ef] at hdg6
              refine ⟨_, rfl, Or.inl ⟨rfl, _, Or.inl (Or.inl hQ5)⟩, _, rfl, _, rfl, tp, _, rfl, hdg6, q, _, _, rfl, rfl, hQ5, ?_, ?_⟩
              · rw [List.length_map, List.length_map, List.length_drop]
                exact small300 (m := n) (by omega) hn
              · refine ⟨L ++ [(g, wd ++ [b])], kvs ++ [(Sum.inl (g : Int), V.ref a)], _, _, by rw [List.length_append]; omega, ?_, rfl, ⟨Ext.mut ex5 hq0, S4.bi.add hL bm (by rw [hstep]; exact ef) hg, ?_, ?_, ?_, ?_⟩, ?_⟩
                · rw [List.getElem?_append_left (by omega)]
                  exact hL
                · intro e' w' hm
                  rcases mem_snoc_pair hm with z | ⟨rfl, _⟩
                  · exact S4.lt e' w' z
                  · exact hgn
                · intro j e' w' hm
                  rcases get_snoc_pair hm with z | ⟨rfl, _, rfl⟩
                  · exact S4.bl j e' w' z
                  · rw [List.length_append]
                    simp
                    omega
                · rw [upd_ne ndq, upd_same]
                · have hta : (upd (upd (upd (upd H3 T' (.tup [.int (b : Nat), .ref tp])) a (.tup (natsV wd ++ [V.int (b : Int)]))) d (.dK (kvs ++ [(Sum.inl (g : Int), V.ref a)]))) q (.lst (natsV ((L.drop (i + 1)).map Prod.fst) ++ [V.int (g : Int)]))) a = some (.tup (natsV (wd ++ [b]))) := by
                    have naq : a ≠ q := fun z => by rw [z, hQ4] at ha; cases ha
                    rw [upd_ne naq, upd_ne nda.symm, upd_same]
                    simp
                  refine Wd.snoc ((S4.wd.ext eA).tups fun a' xs h' => ?_) hta
                  have n1 : a' ≠ d := ne_of h' (eA _ _ S4.hd) (by intro z; cases z)
                  have n2 : a' ≠ q := ne_of h' (eA _ _ hQ4) (by intro z; cases z)
                  rw [upd_ne n2, upd_ne n1]
                  exact h'
                · rw [upd_same, drop_snoc hle]
                  simp
        · rintro σ H3 ⟨L, kvs, v5, v6, hle, hL, rfl, S, hQ⟩
          have hm : (refs ts).length = fs.length := by rw [List.length_map, hts.1]
          rw [hm] at S
          exact ⟨L, i + 1, kvs, _, _, _, rfl, hle, rfl, ⟨S.ex, S.bi.next hL, S.lt, S.bl, S.hd, S.wd⟩, hQ⟩
end
end CM
-- part D10
set_option Elab.async false
set_option linter.all false
set_option maxRecDepth 100000
set_option maxHeartbeats 4000000
/-! ### reached, path -/
namespace CM
open PySem PySem.Spec PyProof.Rows L2 StX
/-- what a comprehension's block asks -/
def LcW (J : It) (g : TG) (tt : TT) (te : TE) (vs : List Nat) (σ : L2.St) (H1 : Hp) (D : Addr) (Qd : Hp → Prop) : Prop :=
  ∃ W : Nat → Nat → Hp → Prop, (∃ m, W 0 m (upd H1 D (.lst []))) ∧ ∀ i m H, W i m H →
      (J.stop i H ∧ Qd H) ∨ (J.go i H ∧ ∃ Nx : Hp → Prop, (∀ H', Nx H' → ∃ m', m' < m ∧ W (i + 1) m' H') ∧ ∀ x H', J.yld i H x H' → g x (wipe σ vs) H' fun σ2 H2 => wipe σ2 vs = wipe σ vs ∧ tt σ2 H2 fun b H3 =>
        if b = true then te σ2 H3 fun y H4 => ∃ acc, H4 D = some (.lst acc) ∧ acc.length < sizeLine ∧ Nx (upd H4 D (.lst (acc ++ [y]))) else Nx H3)
theorem wipe1 (σ : L2.St) (j : Nat) : wipe σ [j] = σ.set j none := rfl
theorem set_self {σ : L2.St} {j : Nat} (h : j < σ.length) (v : V) : ((σ.set j none).set j (some v))[j]? = some (some v) := List.getElem?_set_self (by rw [List.length_set]; exact h)
theorem set_ne {σ : L2.St} {j c : Nat} (h : j ≠ c) (v : V) : ((σ.set j none).set j (some v))[c]? = σ[c]? := by rw [List.getElem?_set_ne h, List.getElem?_set_ne h]
theorem set_back (σ : L2.St) (j : Nat) (v : V) : wipe ((σ.set j none).set j (some v)) [j] = wipe σ [j] := by
  rw [wipe1, wipe1, List.set_set, List.set_set]
section
variable {K : PySem.W.Frag}
/-- the elements that the words reach -/
theorem inw_read {σ : L2.St} {H1 : Hp} {D d : Addr} {j c n : Nat} {kvs : List (Key × V)} {R : Nat → Bool} {Qd : Hp → Prop} (hc : σ[c]? = some (some (.ref d))) (hjc : j ≠ c) (hj : j < σ.length) (hD : H1 D = none)
    (hd : H1 d = some (.dK kvs)) (hR : ∀ y, y < n → (valV kvs (encE y)).isSome = R y) (hn : n ≤ 300) (k : ∀ H2, Ext H1 H2 → H2 D = some (.lst (natsV ((List.range n).filter R))) → Qd H2) :
    LcW (Itr 0 n) (gName j) (tB (tDIn (tVar j) (tVar c))) (tVar j) [j] σ H1 D Qd := by
  refine lc_it walk_range (fun i H2 => Ext H1 H2 ∧ H2 D = some (.lst (natsV ((List.range i).filter R)))) ⟨Ext.upd hD, upd_same⟩ (fun _ _ _ _ => trivial) ?_ ?_
  · rintro i x H2 H3 hi ⟨e1, h2⟩ ⟨rfl, rfl⟩
    have ei : (0 : Int) + (i : Nat) = (i : Int) := by omega
    show gName j (V.int ((0 : Int) + (i : Nat))) (wipe σ [j]) H3 _
    rw [ei]
    refine ⟨set_back _ _ _, ?_⟩
    refine ⟨_, set_self hj _, .ref d, by rw [wipe1, set_ne hjc]; exact hc, d, _, rfl, DGet.k (k := encE i) (e1 _ _ hd), _, rfl, ?_⟩
    rw [hR i hi]
    cases e : R i with
    | false =>
      refine iteF ⟨e1, ?_⟩
      rw [h2, List.range_succ, List.filter_append]
      simp [e]
    | true =>
      refine iteT ⟨_, set_self hj _, _, h2, ?_, Ext.mut e1 hD, ?_⟩
      · rw [List.length_map]
        have := List.length_filter_le R (List.range i)
        rw [List.length_range] at this
        exact small300 (m := n) (by omega) hn
      · rw [upd_same, List.range_succ, List.filter_append]
        simp [e]
  · rintro H2 ⟨e1, h2⟩
    exact k H2 e1 h2
theorem ps_lt {σ : L2.St} {i : Nat} {v : Option V} (h : σ[i]? = some v) : i < σ.length := (List.getElem?_eq_some_iff.mp h).1
/-- [one.arrows for one in maps] -/
theorem tabs_read {σ : L2.St} {H1 : Hp} {D t : Addr} {j n : Nat} {ps : List Addr} {fs : List PF} {Qd : Hp → Prop} (hj : j < σ.length) (hD : H1 D = none) (ht : SqT K H1 t (refs ps)) (hm : MapsAt K H1 n ps fs) (h10 : fs.length ≤ 10)
    (k : ∀ H2 ts, Ext H1 H2 → H2 D = some (.lst (refs ts)) → TabsAt H2 n ts fs → Qd H2) : LcW (Itt K t) (gName j) tYes (tPr (cM K) (spArrows K) (tVar j)) [j] σ H1 D Qd := by
  refine lc_it (walk_tup (xs := refs ps)) (fun i H2 => Ext H1 H2 ∧ ∃ ts, H2 D = some (.lst (refs ts)) ∧ TabsAt H2 n ts (fs.take i)) ⟨Ext.upd hD, [], upd_same, rfl, fun i t h => by simp at h⟩ (fun i H2 _ ⟨e1, _⟩ => ht.ext e1) ?_ ?_
  · rintro i x H2 H3 hi ⟨e1, ts, hd, hts⟩ ⟨rfl, hx⟩
    obtain ⟨q, rfl, hq⟩ := refs_get hx
    obtain ⟨f, hf, m⟩ := hm.2 i q hq
    have m2 := m.ext e1
    obtain ⟨dy, d, o1, _⟩ := m2.ob
    refine ⟨set_back _ _ _, yesT ⟨_, set_self hj _, q, dy, _, rfl, o1, q, n, f, rfl, m2, fun a ha => ?_⟩⟩
    have nDa : D ≠ a := ne_of_none hd ha
    have e2 := Ext.upd (o := .dK (kvN (rowsOf n f))) ha
    have hil : i < fs.length := (List.getElem?_eq_some_iff.mp hf).1
    refine ⟨refs ts, e2 _ _ hd, ?_, Ext.mut (Ext.trans e1 e2) hD, ts ++ [a], by rw [upd_same]; simp, ?_, ?_⟩
    · rw [List.length_map, hts.1, List.length_take]
      exact small_sz (m := fs.length) (by omega) h10
    · rw [List.length_append, hts.1, List.length_take, List.length_take]
      simp
      omega
    · intro l b hb
      rw [take_succ hf]
      rcases Nat.lt_trichotomy l ts.length with c | c | c
      · rw [List.getElem?_append_left c] at hb
        obtain ⟨g, g1, g2, g3⟩ := hts.2 l b hb
        refine ⟨g, by rw [List.getElem?_append_left (by rw [← hts.1]; exact c)]; exact g1, ?_, g3⟩
        have nb : b ≠ D := ne_of g2 hd (by intro z; cases z)
        rw [upd_ne nb]
        exact e2 _ _ g2
      · subst c
        rw [List.getElem?_append_right (Nat.le_refl _), Nat.sub_self] at hb
        cases hb
        refine ⟨f, by rw [hts.1, List.getElem?_append_right (Nat.le_refl _), Nat.sub_self]; rfl, ?_, m.wf⟩
        rw [upd_ne nDa.symm, upd_same]
      · rw [List.getElem?_eq_none (by rw [List.length_append]; simp; omega)] at hb
        cases hb
  · rintro H2 ⟨e1, ts, hd, hts⟩
    have hl : (refs ps).length = fs.length := by rw [List.length_map, hm.1]
    rw [hl, List.take_length] at hts
    exact k H2 ts e1 hd hts
theorem mapAt_lst {H : Hp} {D p n : Addr} {f : PF} {xs ys : List V} (h : MapAt (cM K) H p n f) (hD : H D = some (.lst xs)) : MapAt (cM K) (upd H D (.lst ys)) p n f := by
  obtain ⟨⟨dx, d, h1, h2⟩, h3, h4, h5⟩ := h
  exact ⟨⟨dx, d, by rw [upd_ne (ne_of h1 hD (by intro z; cases z))]; exact h1, by rw [upd_ne (ne_of h2 hD (by intro z; cases z))]; exact h2⟩, h3, h4, h5⟩
/-- [(~one).arrows for one in maps] -/
theorem tabsI_read {σ : L2.St} {H1 : Hp} {D t : Addr} {j n : Nat} {ps : List Addr} {fs : List PF} {Qd : Hp → Prop} (hj : j < σ.length) (hD : H1 D = none) (ht : SqT K H1 t (refs ps)) (hm : MapsAt K H1 n ps fs) (h10 : fs.length ≤ 10)
    (k : ∀ H2 ts, Ext H1 H2 → H2 D = some (.lst (refs ts)) → TabsAt H2 n ts (invs n fs) → Qd H2) : LcW (Itt K t) (gName j) tYes (tPr (cM K) (spArrows K) (tUn (rOwn1 (cM K) (spInv K)) (tVar j))) [j] σ H1 D Qd := by
  refine lc_it (walk_tup (xs := refs ps)) (fun i H2 => Ext H1 H2 ∧ ∃ ts, H2 D = some (.lst (refs ts)) ∧ TabsAt H2 n ts (invs n (fs.take i))) ⟨Ext.upd hD, [], upd_same, rfl, fun i t h => by simp at h⟩ (fun i H2 _ ⟨e1, _⟩ => ht.ext e1) ?_ ?_
  · rintro i x H2 H3 hi ⟨e1, ts, hd, hts⟩ ⟨rfl, hx⟩
    obtain ⟨q, rfl, hq⟩ := refs_get hx
    obtain ⟨f, hf, m⟩ := hm.2 i q hq
    have m2 := m.ext e1
    obtain ⟨dy, d, o1, _⟩ := m2.ob
    refine ⟨set_back _ _ _, yesT ⟨_, set_self hj _, q, dy, _, rfl, o1, q, n, f, rfl, m2, fun r H4 hr e4 M => ?_⟩⟩
    obtain ⟨dz, d', o2, _⟩ := M.ob
    refine ⟨r, dz, _, rfl, o2, r, n, _, rfl, M, fun a ha => ?_⟩
    have hd4 := e4 _ _ hd
    have nDa : D ≠ a := ne_of_none hd4 ha
    have e2 := Ext.trans e4 (Ext.upd (o := .dK (kvN (rowsOf n (inv n f)))) ha)
    have hil : i < fs.length := (List.getElem?_eq_some_iff.mp hf).1
    have hti : (invs n (fs.take i)).length = i := by
      unfold invs
      rw [List.length_map, List.length_take]
      omega
    have htj : invs n (fs.take (i + 1)) = invs n (fs.take i) ++ [inv n f] := by
      unfold invs
      rw [take_succ hf, List.map_append]
      rfl
    refine ⟨refs ts, e2 _ _ hd, ?_, Ext.mut (Ext.trans e1 e2) hD, ts ++ [a], by rw [upd_same]; simp, ?_, ?_⟩
    · rw [List.length_map, hts.1, hti]
      exact small_sz (m := fs.length) (by omega) h10
    · rw [htj, List.length_append, List.length_append, hts.1]
      rfl
    · intro l b hb
      rw [htj]
      rcases Nat.lt_trichotomy l ts.length with c | c | c
      · rw [List.getElem?_append_left c] at hb
        obtain ⟨g, g1, g2, g3⟩ := hts.2 l b hb
        refine ⟨g, by rw [List.getElem?_append_left (by rw [← hts.1]; exact c)]; exact g1, ?_, g3⟩
        have nb : b ≠ D := ne_of g2 hd (by intro z; cases z)
        rw [upd_ne nb]
        exact e2 _ _ g2
      · subst c
        rw [List.getElem?_append_right (Nat.le_refl _), Nat.sub_self] at hb
        cases hb
        refine ⟨inv n f, by rw [hts.1, List.getElem?_append_right (Nat.le_refl _), Nat.sub_self]; rfl, ?_, wf_inv m.wf⟩
        rw [upd_ne nDa.symm, upd_same]
      · rw [List.getElem?_eq_none (by rw [List.length_append]; simp; omega)] at hb
        cases hb
  · rintro H2 ⟨e1, ts, hd, hts⟩
    have hl : (refs ps).length = fs.length := by rw [List.length_map, hm.1]
    rw [hl, List.take_length] at hts
    exact k H2 ts e1 hd hts
theorem FwSt.rch {H H' : Hp} {d n : Nat} {fs : List PF} {s a : Nat} {L : List (Nat × List Nat)} {kvs : List (Key × V)} (h : FwSt H H' d n fs s L L.length a kvs) (wf : WFs n fs) (hs : s < n) (y : Nat) : (valV kvs (encE y)).isSome = rchB n fs s y := by
  rw [Bool.eq_iff_iff, rchB_iff, ← bi_rch wf hs h.bi]
  constructor
  · intro q
    apply Classical.byContradiction
    intro hn
    rw [h.wd.no (e := y) (fun b hb z => hn (by rw [encE_inj z] at hb; exact hb))] at q
    cases q
  · intro hy
    obtain ⟨w, hw⟩ := mem_fst.mp hy
    obtain ⟨j, hj⟩ := List.mem_iff_getElem?.mp hw
    obtain ⟨ag, hv, _⟩ := h.wd.some (fun a _ b _ z => encE_inj z) h.bi.nd hj
    rw [hv]
    rfl
/-- a word or none -/
def OptW (H : Hp) (v : V) (o : Option (List Nat)) : Prop := (o = none ∧ v = .non) ∨ ∃ w a, o = some w ∧ v = .ref a ∧ H a = some (.tup (natsV w))
variable {P : Program} {w : World} {mg : Str → Option Value} {base : Heap}
/-! reached -/
def spReached (K : PySem.W.Frag) : Sp := fun vs H Q _ => ∃ p n fs x, vs = [.ref p, .int (x : Nat)] ∧ FamAt K H p n fs ∧ x < n ∧ ∀ r H', H r = Option.none → Ext H H' → H' r = some (.lst (natsV (rchL n fs x))) → Q (.ref r) H'
theorem sc_reached : FnScope ["family", "element", "words", "place", "one"] ["family", "element"] (defScope (top 42)) := ⟨rfl, rfl, rfl, by decide +kernel, rfl, by decide +kernel, by decide +kernel⟩
theorem ok_reached (T : Txt K mg) : Fn P w K mg base 5 (He.ga K "reached") (spReached K) := by
  refine fn_by T.d_reached sc_reached (fun _ _ _ _ _ _ us hl => match us, hl with | [_, _], _ => rfl) (fun vs H Q E h => ?_) (fun cdv A outer s H vs Q E hr h => ?_)
  · obtain ⟨p, n, fs, x, rfl, _⟩ := h
    rfl
  · obtain ⟨p, n, fs, x, rfl, F, hxn, k⟩ := h
    have hu := hu_of hr
    refine ⟨_, pss_cons (ps_expr (pe_fn (ok_chkfam T) (hr.mono (by decide)) (by rfl) T.g_check_family T.d_check_family.kp (pa_cons (pv 0) pa_nil)))
      (pss_cons (ps_expr (pe_fn (ok_chkel T) (hr.mono (by decide)) (by rfl) T.g_check_elements T.d_check_elements.kp (pa_cons (pe_pr (pv 0) T.c_Family T.m_pFSize (ok_fsize T) hr) (pa_cons (pe_lst (pa_cons (pv 1) pa_nil)) pa_nil))))
      (pss_cons (ps_set (i := 2) sc_reached.nd rfl (Or.inr rfl) (pe_fn (ok_fw T) (hr.mono (by decide)) (by rfl) T.g_first_words T.d_first_words.kp (pa_cons
        (pe_lc (own := [("one", 4)]) (g := gName 4) (tt := tYes) rfl sc_reached.nd (pi_tup (pe_pr (pv 0) T.c_Family T.m_pMaps (ok_fmaps T) (hr.mono (by decide)))) (blkOk_by (own := [("one", 4)]) (N := ["family", "element", "words", "place", "one"]) (sc := defScope (top 42)) (by decide +kernel))
          (fun _ _ _ _ _ => pg_name (i := 4) sc_reached.nd rfl (Or.inl rfl)) (fun _ _ _ _ _ => pts_nil) (fun _ _ _ _ _ => pe_pr (pv 4) T.c_Map T.m_pArrows (ok_arrows T) (hr.mono (by decide))) (fun _ => rfl)) (pa_cons (pv 1) pa_nil))))
      (pss_one (ps_ret (pe_lc (own := [("place", 3)]) (g := gName 3) rfl sc_reached.nd (pi_range1 rfl T.u_range (pa_cons (pe_pr (pv 0) T.c_Family T.m_pFSize (ok_fsize T) hr) pa_nil)) (blkOk_by (own := [("place", 3)]) (N := ["family", "element", "words", "place", "one"]) (sc := defScope (top 42)) (by decide +kernel))
        (fun _ _ _ _ _ => pg_name (i := 3) sc_reached.nd rfl (Or.inl rfl)) (fun _ _ _ _ _ => pts_one (pt_cmp (pc_din hu (pv 3) (pv 2)))) (fun _ _ _ _ _ => pv 3) (fun _ => rfl)))))), ?_⟩
    have sz := F.sz
    obtain ⟨dx, t, ps, h1, h2, h3⟩ := F.ob
    refine ⟨_, rfl, p, n, fs, rfl, F, ?_⟩
    refine ⟨_, rfl, p, dx, _, rfl, h1, p, n, fs, rfl, F, _, rfl, (by show 1 ≤ sizeLine; decide), fun l hl => ?_⟩
    have eL := Ext.upd (o := .lst [V.int (x : Int)]) hl
    refine ⟨n, x, l, rfl, Or.inl (Or.inl upd_same), hxn, fun H1 e1 => ?_⟩
    have e01 := Ext.trans eL e1
    refine ⟨_, rfl, p, dx, _, rfl, e01 _ _ h1, p, dx, t, rfl, e01 _ _ h1, t, rfl, ⟨_, Or.inl (Or.inl (e01 _ _ h2))⟩, fun D hD => ?_⟩
    refine tabs_read (by show 4 < 5; decide) hD (Or.inl (Or.inl (e01 _ _ h2))) (h3.ext e01) F.hi fun H2 ts e2 hd2 hts => ?_
    refine ⟨_, rfl, D, x, n, ts, fs, rfl, Or.inl (Or.inl hd2), hts, hxn, sz.2, fun d H3 kvs L a hdn S => ?_⟩
    have e03 := Ext.trans e01 (Ext.trans e2 S.ex)
    refine ⟨_, rfl, p, dx, _, rfl, e03 _ _ h1, p, n, fs, rfl, F.ext e03, n, rfl, by omega, by omega, fun r hr => ?_⟩
    refine inw_read (R := rchB n fs x) rfl (by decide) (by show 3 < 5; decide) hr S.hd (fun y _ => S.rch F.wfs hxn y) sz.2 fun H4 e4 h4 => ?_
    exact k r H4 (Ext.none e03 hr) (Ext.trans e03 e4) h4
/-! path -/
def spPath (K : PySem.W.Frag) : Sp := fun vs H Q _ => ∃ p n fs x y, vs = [.ref p, .int (x : Nat), .int (y : Nat)] ∧ FamAt K H p n fs ∧ x < n ∧ y < n ∧ ∀ v o H', Ext H H' → OptW H' v o → PathOut n fs x y o → Q v H'
theorem sc_path : FnScope ["family", "start", "goal", "one"] ["family", "start", "goal"] (defScope (top 43)) := ⟨rfl, rfl, rfl, by decide +kernel, rfl, by decide +kernel, by decide +kernel⟩
theorem ok_path (T : Txt K mg) : Fn P w K mg base 5 (He.ga K "path") (spPath K) := by
  refine fn_by T.d_path sc_path (fun _ _ _ _ _ _ us hl => match us, hl with | [_, _, _], _ => rfl) (fun vs H Q E h => ?_) (fun cdv A outer s H vs Q E hr h => ?_)
  · obtain ⟨p, n, fs, x, y, rfl, _⟩ := h
    rfl
  · obtain ⟨p, n, fs, x, y, rfl, F, hxn, hyn, k⟩ := h
    have hu := hu_of hr
    refine ⟨_, pss_cons (ps_expr (pe_fn (ok_chkfam T) (hr.mono (by decide)) (by rfl) T.g_check_family T.d_check_family.kp (pa_cons (pv 0) pa_nil)))
      (pss_cons (ps_expr (pe_fn (ok_chkel T) (hr.mono (by decide)) (by rfl) T.g_check_elements T.d_check_elements.kp (pa_cons (pe_pr (pv 0) T.c_Family T.m_pFSize (ok_fsize T) hr) (pa_cons (pe_lst (pa_cons (pv 1) pa_nil)) pa_nil))))
      (pss_cons (ps_expr (pe_fn (ok_chkel T) (hr.mono (by decide)) (by rfl) T.g_check_elements T.d_check_elements.kp (pa_cons (pe_pr (pv 0) T.c_Family T.m_pFSize (ok_fsize T) hr) (pa_cons (pe_lst (pa_cons (pv 2) pa_nil)) pa_nil))))
      (pss_one (ps_ret (pe_dget1 hu (pe_fn (ok_fw T) (hr.mono (by decide)) (by rfl) T.g_first_words T.d_first_words.kp (pa_cons
        (pe_lc (own := [("one", 3)]) (g := gName 3) (tt := tYes) rfl sc_path.nd (pi_tup (pe_pr (pv 0) T.c_Family T.m_pMaps (ok_fmaps T) (hr.mono (by decide)))) (blkOk_by (own := [("one", 3)]) (N := ["family", "start", "goal", "one"]) (sc := defScope (top 43)) (by decide +kernel))
          (fun _ _ _ _ _ => pg_name (i := 3) sc_path.nd rfl (Or.inl rfl)) (fun _ _ _ _ _ => pts_nil) (fun _ _ _ _ _ => pe_pr (pv 3) T.c_Map T.m_pArrows (ok_arrows T) (hr.mono (by decide))) (fun _ => rfl)) (pa_cons (pv 1) pa_nil))) (pv 2) ⟨rfl, rfl, rfl, rfl⟩))))), ?_⟩
    have sz := F.sz
    obtain ⟨dx, t, ps, h1, h2, h3⟩ := F.ob
    refine ⟨_, rfl, p, n, fs, rfl, F, ?_⟩
    refine ⟨_, rfl, p, dx, _, rfl, h1, p, n, fs, rfl, F, _, rfl, (by show 1 ≤ sizeLine; decide), fun l hl => ?_⟩
    have eL := Ext.upd (o := .lst [V.int (x : Int)]) hl
    refine ⟨n, x, l, rfl, Or.inl (Or.inl upd_same), hxn, fun H1 e1 => ?_⟩
    have e01 := Ext.trans eL e1
    refine ⟨_, rfl, p, dx, _, rfl, e01 _ _ h1, p, n, fs, rfl, F.ext e01, _, rfl, (by show 1 ≤ sizeLine; decide), fun l' hl' => ?_⟩
    have eL' := Ext.upd (o := .lst [V.int (y : Int)]) hl'
    refine ⟨n, y, l', rfl, Or.inl (Or.inl upd_same), hyn, fun H1' e1' => ?_⟩
    have e01 := Ext.trans e01 (Ext.trans eL' e1')
    refine ⟨_, rfl, p, dx, _, rfl, e01 _ _ h1, p, dx, t, rfl, e01 _ _ h1, t, rfl, ⟨_, Or.inl (Or.inl (e01 _ _ h2))⟩, fun D hD => ?_⟩
    refine tabs_read (by show 3 < 4; decide) hD (Or.inl (Or.inl (e01 _ _ h2))) (h3.ext e01) F.hi fun H2 ts e2 hd2 hts => ?_
    refine ⟨_, rfl, D, x, n, ts, fs, rfl, Or.inl (Or.inl hd2), hts, hxn, sz.2, fun d H3 kvs L a hdn S => ?_⟩
    have e03 := Ext.trans e01 (Ext.trans e2 S.ex)
    refine ⟨d, rfl, Or.inl ⟨_, Or.inl S.hd⟩, _, rfl, _, DGet.k (k := encE y) S.hd, ?_⟩
    obtain ⟨p1, p2⟩ := bi_path F.wfs hxn S.bi (y := y)
    by_cases hy : y ∈ L.map Prod.fst
    · obtain ⟨w, hw⟩ := mem_fst.mp hy
      obtain ⟨j, hj⟩ := List.mem_iff_getElem?.mp hw
      obtain ⟨ag, hv, ha⟩ := S.wd.some (fun a _ b _ z => encE_inj z) S.bi.nd hj
      rw [hv]
      exact k _ (some w) H3 e03 (Or.inr ⟨w, ag, rfl, rfl, ha⟩) (p1 w hw)
    · rw [S.wd.no (e := y) (fun b hb z => hy (by rw [encE_inj z] at hb; exact hb))]
      exact k _ none H3 e03 (Or.inl ⟨rfl, rfl⟩) (p2 hy)
end
end CM
-- part D11
set_option Elab.async false
set_option linter.all false
set_option maxRecDepth 100000
set_option maxHeartbeats 4000000
/-! ### orbits -/
namespace CM
open PySem PySem.Spec PyProof.Rows L2 StX
def seenK (ks : List Nat) : List (Key × V) := ks.map fun y => (encE y, V.bl true)
theorem seen_has (ks : List Nat) (y : Nat) : (valV (seenK ks) (encE y)).isSome = decide (y ∈ ks) := by
  unfold seenK
  induction ks with
  | nil => rfl
  | cons a ks ih =>
    rw [List.map_cons]
    by_cases h : a = y
    · subst h
      rw [valV_pos (p := (encE a, V.bl true)) rfl]
      simp
    · rw [valV_neg (p := (encE a, V.bl true)) (fun z => h (encE_inj z)), ih]
      have : y ≠ a := fun z => h z.symm
      simp [this]
theorem seen_put (ks : List Nat) (y : Nat) : putK (seenK ks) (encE y) (.bl true) = seenK (if y ∈ ks then ks else ks ++ [y]) := by
  by_cases h : y ∈ ks
  · rw [if_pos h]
    unfold putK
    rw [valV_any, seen_has, decide_eq_true h, if_pos rfl]
    unfold seenK
    rw [List.map_map]
    refine List.map_congr_left fun a _ => ?_
    show (if encE a = encE y then _ else _) = _
    split
    · rfl
    · rfl
  · rw [if_neg h, putK_new]
    · unfold seenK
      rw [List.map_append]
      rfl
    · cases e : valV (seenK ks) (encE y) with
      | none => rfl
      | some v =>
        have := seen_has ks y
        rw [e, decide_eq_false h] at this
        cases this
theorem seen_len (ks : List Nat) : (seenK ks).length = ks.length := List.length_map ..
/-- lists of elements -/
def LLAt (H : Hp) (as : List Addr) (os : List (List Nat)) : Prop := as.length = os.length ∧ ∀ (i : Nat) (a : Addr), as[i]? = some a → ∃ o, os[i]? = some o ∧ H a = some (.lst (natsV o))
theorem LLAt.ext {H H' : Hp} {as : List Addr} {os : List (List Nat)} (h : LLAt H as os) (e : Ext H H') : LLAt H' as os := ⟨h.1, fun i a hi => by
  obtain ⟨o, h1, h2⟩ := h.2 i a hi
  exact ⟨o, h1, e _ _ h2⟩⟩
theorem LLAt.on {H H' : Hp} {as : List Addr} {os : List (List Nat)} (h : LLAt H as os) (e : ∀ a u, a ∈ as → H a = some u → H' a = some u) : LLAt H' as os := ⟨h.1, fun i a hi => by
  obtain ⟨o, h1, h2⟩ := h.2 i a hi
  exact ⟨o, h1, e _ _ (List.mem_of_getElem? hi) h2⟩⟩
theorem LLAt.snoc {H : Hp} {as : List Addr} {os : List (List Nat)} (h : LLAt H as os) {a : Addr} {o : List Nat} (ha : H a = some (.lst (natsV o))) : LLAt H (as ++ [a]) (os ++ [o]) := by
  refine ⟨by rw [List.length_append, List.length_append, h.1]; rfl, fun j b hj => ?_⟩
  rcases Nat.lt_trichotomy j as.length with c | c | c
  · rw [List.getElem?_append_left c] at hj
    obtain ⟨o', h1, h2⟩ := h.2 j b hj
    exact ⟨o', by rw [List.getElem?_append_left (by rw [← h.1]; exact c)]; exact h1, h2⟩
  · subst c
    rw [List.getElem?_append_right (Nat.le_refl _), Nat.sub_self] at hj
    cases hj
    exact ⟨o, by rw [h.1, List.getElem?_append_right (Nat.le_refl _), Nat.sub_self]; rfl, ha⟩
  · rw [List.getElem?_eq_none (by rw [List.length_append]; simp; omega)] at hj
    cases hj
theorem TabsAt.append {H : Hp} {n : Nat} {ps qs : List Addr} {fs gs : List PF} (h : TabsAt H n ps fs) (k : TabsAt H n qs gs) : TabsAt H n (ps ++ qs) (fs ++ gs) := by
  refine ⟨by rw [List.length_append, List.length_append, h.1, k.1], fun i q hi => ?_⟩
  by_cases c : i < ps.length
  · rw [List.getElem?_append_left c] at hi
    obtain ⟨g, h1, h2⟩ := h.2 i q hi
    exact ⟨g, by rw [List.getElem?_append_left (by rw [← h.1]; exact c)]; exact h1, h2⟩
  · rw [List.getElem?_append_right (by omega)] at hi
    obtain ⟨g, h1, h2⟩ := k.2 _ q hi
    exact ⟨g, by rw [List.getElem?_append_right (by rw [← h.1]; omega), ← h.1]; exact h1, h2⟩
def orbsTo (n : Nat) (R : Nat → Nat → Bool) (i : Nat) : List (List Nat) := (List.range i).foldl (orbStep n R) []
theorem orbsTo_succ (n : Nat) (R : Nat → Nat → Bool) (i : Nat) : orbsTo n R (i + 1) = orbStep n R (orbsTo n R i) i := by
  unfold orbsTo
  rw [List.range_succ, List.foldl_append]
  rfl
theorem orbsTo_len (n : Nat) (R : Nat → Nat → Bool) : ∀ i, (orbsTo n R i).length ≤ i
  | 0 => Nat.le_refl _
  | i + 1 => by
    rw [orbsTo_succ]
    unfold orbStep
    have := orbsTo_len n R i
    split
    · omega
    · rw [List.length_append]
      simp
      omega
section
variable {P : Program} {w : World} {K : PySem.W.Frag} {mg : Str → Option Value} {base : Heap}
noncomputable def orbOf (n : Nat) (fs : List PF) : List (List Nat) := orbs n (rchB n (both n fs))
def spOrbits (K : PySem.W.Frag) : Sp := fun vs H Q _ => ∃ p n fs, vs = [.ref p] ∧ FamAt K H p n fs ∧ ∀ r as H', H r = Option.none → Ext H H' → H' r = some (.lst (refs as)) → LLAt H' as (orbOf n fs) → Q (.ref r) H'
theorem sc_orbits : FnScope ["family", "tables", "found", "seen", "element", "words", "place", "one"] ["family"] (defScope (top 44)) := ⟨rfl, rfl, rfl, by decide +kernel, rfl, by decide +kernel, by decide +kernel⟩
theorem ok_orbits (T : Txt K mg) : Fn P w K mg base 8 (He.ga K "orbits") (spOrbits K) := by
  refine fn_by T.d_orbits sc_orbits (fun _ _ _ _ _ _ us hl => match us, hl with | [_], _ => rfl) (fun vs H Q E h => ?_) (fun cdv A outer s H vs Q E hr h => ?_)
  · obtain ⟨p, n, fs, rfl, _⟩ := h
    rfl
  · obtain ⟨p, n, fs, rfl, F, k⟩ := h
    have hu := hu_of hr
    refine ⟨_, pss_cons (ps_expr (pe_fn (ok_chkfam T) (hr.mono (by decide)) (by rfl) T.g_check_family T.d_check_family.kp (pa_cons (pv 0) pa_nil)))
      (pss_cons (ps_set (i := 1) sc_orbits.nd rfl (Or.inl rfl) (pe_op op_cat
        (pe_lc (own := [("one", 7)]) (g := gName 7) (tt := tYes) rfl sc_orbits.nd (pi_tup (pe_pr (pv 0) T.c_Family T.m_pMaps (ok_fmaps T) (hr.mono (by decide)))) (blkOk_by (own := [("one", 7)]) (N := ["family", "tables", "found", "seen", "element", "words", "place", "one"]) (sc := defScope (top 44)) (by decide +kernel))
          (fun _ _ _ _ _ => pg_name (i := 7) sc_orbits.nd rfl (Or.inl rfl)) (fun _ _ _ _ _ => pts_nil) (fun _ _ _ _ _ => pe_pr (pv 7) T.c_Map T.m_pArrows (ok_arrows T) (hr.mono (by decide))) (fun _ => rfl))
        (pe_lc (own := [("one", 7)]) (g := gName 7) (tt := tYes) rfl sc_orbits.nd (pi_tup (pe_pr (pv 0) T.c_Family T.m_pMaps (ok_fmaps T) (hr.mono (by decide)))) (blkOk_by (own := [("one", 7)]) (N := ["family", "tables", "found", "seen", "element", "words", "place", "one"]) (sc := defScope (top 44)) (by decide +kernel))
          (fun _ _ _ _ _ => pg_name (i := 7) sc_orbits.nd rfl (Or.inl rfl)) (fun _ _ _ _ _ => pts_nil) (fun _ _ _ _ _ => pe_pr (pe_un (un_own T.m_mInv.1 T.m_mInv.2 (ok_inv T) (hr.mono (by decide))) (pv 7)) T.c_Map T.m_pArrows (ok_arrows T) (hr.mono (by decide))) (fun _ => rfl))))
      (pss_cons (ps_par (i := 2) (j := 3) rfl sc_orbits.nd rfl rfl (by decide) rfl rfl (pa_cons (pe_lst pa_nil) (pa_cons pe_dnewK pa_nil)) rfl)
      (pss_cons (ps_for PassesOwn.never rfl (pi_range1 rfl T.u_range (pa_cons (pe_pr (pv 0) T.c_Family T.m_pFSize (ok_fsize T) (hr.mono (by decide))) pa_nil)) (pg_name (i := 4) sc_orbits.nd rfl (Or.inl rfl))
        (pss_one (ps_if (pt_cmp (pc_dnotin hu (pv 4) (pv 3)))
          (pss_cons (ps_set (i := 5) sc_orbits.nd rfl (Or.inr rfl) (pe_fn (ok_fw T) (hr.mono (by decide)) (by rfl) T.g_first_words T.d_first_words.kp (pa_cons (pv 1) (pa_cons (pv 4) pa_nil))))
          (pss_cons (ps_expr (pe_bm PySem.F.plainAttrs_list PySem.F.slot_list_append PySem.F.type_list_append mt_append (pv 2) (pa_cons
            (pe_lc (own := [("place", 6)]) (g := gName 6) rfl sc_orbits.nd (pi_range1 rfl T.u_range (pa_cons (pe_pr (pv 0) T.c_Family T.m_pFSize (ok_fsize T) (hr.mono (by decide))) pa_nil)) (blkOk_by (own := [("place", 6)]) (N := ["family", "tables", "found", "seen", "element", "words", "place", "one"]) (sc := defScope (top 44)) (by decide +kernel))
              (fun _ _ _ _ _ => pg_name (i := 6) sc_orbits.nd rfl (Or.inl rfl)) (fun _ _ _ _ _ => pts_one (pt_cmp (pc_din hu (pv 6) (pv 5)))) (fun _ _ _ _ _ => pv 6) (fun _ => rfl)) pa_nil)))
          (pss_one (ps_lock (ps_for PassesOwn.never rfl (pi_keys (pv 5)) (pg_name (i := 6) sc_orbits.nd rfl (Or.inl rfl)) (pss_one (ps_dput hu (pv 3) (pv 6) pe_bl rfl))))))) pss_nil)))
      (pss_one (ps_ret (pv 2)))))), ?_⟩
    have sz := F.sz
    obtain ⟨dx, t, ps, h1, h2, h3⟩ := F.ob
    refine ⟨_, rfl, p, n, fs, rfl, F, ?_⟩
    refine ⟨_, rfl, p, dx, _, rfl, h1, p, dx, t, rfl, h1, t, rfl, ⟨_, Or.inl (Or.inl h2)⟩, fun D hD => ?_⟩
    refine tabs_read (by show 7 < 8; decide) hD (Or.inl (Or.inl h2)) h3 F.hi fun H2 ts e2 hd2 hts => ?_
    refine ⟨_, rfl, p, dx, _, rfl, e2 _ _ h1, p, dx, t, rfl, e2 _ _ h1, t, rfl, ⟨_, Or.inl (Or.inl (e2 _ _ h2))⟩, fun D' hD' => ?_⟩
    refine tabsI_read (by show 7 < 8; decide) hD' (Or.inl (Or.inl (e2 _ _ h2))) (h3.ext e2) F.hi fun H3 us e3 hd3 hus => ?_
    have htl : (refs ts).length = fs.length := by rw [List.length_map, hts.1]
    have hul : (refs us).length = fs.length := by rw [List.length_map, hus.1, len_invs]
    refine ⟨D, D', _, _, rfl, rfl, e3 _ _ hd2, hd3, by rw [htl, hul]; have := F.hi; exact Nat.le_trans (by omega : _ ≤ 20) (by decide), fun tb htb => ?_⟩
    have hts3 := (hts.ext e3).append hus
    have e23 := Ext.trans e2 e3
    have e24 := Ext.trans e23 (Ext.upd (o := .lst (refs ts ++ refs us)) htb)
    have hts4 := hts3.ext (Ext.upd (o := .lst (refs ts ++ refs us)) htb)
    have htb4 : (upd H3 tb (.lst (refs ts ++ refs us))) tb = some (.lst (refs (ts ++ us))) := by rw [upd_same]; simp
    generalize (upd H3 tb (.lst (refs ts ++ refs us))) = Hb at *
    refine ⟨by show 0 ≤ sizeLine; decide, fun fd hfd => ?_⟩
    intro sd hsd
    have nfs : fd ≠ sd := fun z => by rw [← z, upd_same] at hsd; cases hsd
    have hsd0 : Hb sd = none := by rw [upd_ne nfs.symm] at hsd; exact hsd
    refine ⟨_, _, rfl, ?_⟩
    have ex0 : Ext Hb (upd (upd Hb fd (.lst [])) sd (.dK [])) := Ext.trans (Ext.upd hfd) (Ext.upd hsd)
    have hp0 := ex0 _ _ (e24 _ _ h1)
    refine ⟨_, rfl, p, dx, _, rfl, hp0, p, n, fs, rfl, F.ext (Ext.trans e24 ex0), n, rfl, by omega, by omega, ?_⟩
    refine for_it walk_range (fun i σ H4 => Ext Hb H4 ∧ ∃ v4 v5 v6 as ks, σ = [some (.ref p), some (.ref tb), some (.ref fd), some (.ref sd), v4, v5, v6, none] ∧ H4 fd = some (.lst (refs as)) ∧ fd ∉ as ∧ LLAt H4 as (orbsTo n (rchB n (both n fs)) i) ∧ H4 sd = some (.dK (seenK ks)) ∧ ks.Nodup ∧ (∀ y, y ∈ ks → y < n) ∧
        (∀ y, y ∈ ks ↔ (orbsTo n (rchB n (both n fs)) i).any (fun o => decide (y ∈ o)) = true))
      ⟨ex0, _, _, _, [], [], rfl, by rw [upd_ne nfs, upd_same]; rfl, by simp, ⟨rfl, fun i a h => by simp at h⟩, by rw [upd_same]; rfl, List.nodup_nil, fun y h => by simp at h, fun y => by simp [orbsTo]⟩ (fun _ _ _ _ _ => trivial) ?_ ?_
    · rintro i x σ H4 H5 hi ⟨ex, v4, v5, v6, as, ks, rfl, hF, hnF, hLL, hS, hnd, hlt, hks⟩ ⟨rfl, rfl⟩
      have ei : (0 : Int) + (i : Nat) = (i : Int) := by omega
      show gName 4 (V.int ((0 : Int) + (i : Nat))) _ _ _
      rw [ei]
      have hin : i < n := by
        have : i < (n : Int).toNat := hi
        omega
      refine ⟨_, rfl, _, rfl, sd, _, rfl, DGet.k (k := encE i) hS, _, rfl, ?_⟩
      rw [seen_has]
      rw [orbsTo_succ]
      by_cases hik : i ∈ ks
      · rw [decide_eq_true hik]
        refine iteF ⟨ex, _, _, _, as, ks, rfl, hF, hnF, ?_, hS, hnd, hlt, ?_⟩
        · unfold orbStep
          rw [if_pos ((hks i).mp hik)]
          exact hLL
        · unfold orbStep
          rw [if_pos ((hks i).mp hik)]
          exact hks
      · rw [decide_eq_false hik]
        have hany : ¬ (orbsTo n (rchB n (both n fs)) i).any (fun o => decide (i ∈ o)) = true := fun z => hik ((hks i).mpr z)
        refine iteT ⟨_, rfl, _, rfl, tb, i, n, ts ++ us, both n fs, rfl, Or.inl (Or.inl (ex _ _ htb4)), hts4.ext ex, hin, sz.2, fun d H6 kvs L a hdn S => ?_⟩
        have e6 := Ext.trans ex S.ex
        have hR := fun y => S.rch (wf_both F.wfs) hin y
        have hF6 := S.ex _ _ hF
        have hS6 := S.ex _ _ hS
        refine ⟨_, rfl, Or.inl ⟨rfl, _, Or.inl (Or.inl hF6)⟩, ?_⟩
        refine ⟨_, rfl, p, dx, _, rfl, e6 _ _ (e24 _ _ h1), p, n, fs, rfl, F.ext (Ext.trans e24 e6), n, rfl, by omega, by omega, fun r hr6 => ?_⟩
        refine inw_read (R := rchB n (both n fs) i) rfl (by decide) (by show 6 < 8; decide) hr6 S.hd (fun y _ => hR y) sz.2 fun H7 e7 h7 => ?_
        have hF7 := e7 _ _ hF6
        have hS7 := e7 _ _ hS6
        have hd7 := e7 _ _ S.hd
        have nrF : r ≠ fd := fun z => by rw [z, hF6] at hr6; cases hr6
        have hol := orbsTo_len n (rchB n (both n fs)) i
        refine ⟨fd, refs as, .ref r, rfl, rfl, hF7, by rw [List.length_map, hLL.1]; exact small300 (m := n) (by omega) sz.2, ?_⟩
        have ndF : d ≠ fd := ne_of hd7 hF7 (by intro z; cases z)
        have nSF : sd ≠ fd := nfs.symm
        have ndS : d ≠ sd := fun z => by rw [z, hS] at hdn; cases hdn
        refine ⟨d, .dK kvs, by rw [upd_ne ndF]; exact hd7, trivial, fun od => ?_⟩
        refine ⟨_, rfl, d, od, rfl, Or.inl ⟨kvs, upd_same, ?_⟩⟩
        refine for_it walk_keys (fun m σ H8 => ∃ ks', (∃ v6, σ = [some (.ref p), some (.ref tb), some (.ref fd), some (.ref sd), some (.int i), some (.ref d), v6, none]) ∧ (∀ b o, (upd (upd H7 fd (.lst (refs as ++ [.ref r]))) d (.frz od (.dK kvs))) b = some o → b ≠ sd → H8 b = some o) ∧ H8 sd = some (.dK (seenK ks')) ∧ ks'.Nodup ∧ (∀ y, y ∈ ks' → y < n) ∧ (∀ y, y ∈ ks' ↔ y ∈ ks ∨ ∃ j w, j < m ∧ L[j]? = some (y, w)))
          ⟨ks, ⟨_, rfl⟩, fun b o h _ => h, by rw [upd_ne ndS.symm, upd_ne nSF]; exact hS7, hnd, hlt, fun y => ⟨Or.inl, fun z => z.elim id fun ⟨j, w, hj, _⟩ => absurd hj (Nat.not_lt_zero _)⟩⟩ (fun m σ H8 _ ⟨_, _, kp, _⟩ => kp _ _ upd_same ndS) ?_ ?_
        · rintro m x σ H8 H9 hm ⟨ks', ⟨v6, rfl⟩, kp, hS8, nd', lt', mem'⟩ ⟨rfl, key, v, hkv, rfl⟩
          have hml : m < L.length := by rw [← S.wd.len]; exact hm
          obtain ⟨a', hka, _⟩ := S.wd.get m _ _ (List.getElem?_eq_getElem hml)
          rw [hka] at hkv
          cases hkv
          refine ⟨_, rfl, _, rfl, sd, _, rfl, DPut.k (k := encE (L[m]).1) hS8 ?_, ?_⟩
          · rw [seen_len]
            have := nodup_len nd' (u := List.range n) fun x hx => List.mem_range.mpr (lt' x hx)
            rw [List.length_range] at this
            exact small300 this sz.2
          · refine ⟨_, ⟨_, rfl⟩, fun b o h hb => by rw [upd_ne hb]; exact kp b o h hb, by rw [upd_same, seen_put], ?_, ?_, ?_⟩
            · split
              · exact nd'
              · rename_i hy
                exact nodup_snoc nd' hy
            · intro y hy
              split at hy
              · exact lt' y hy
              · rcases List.mem_append.mp hy with z | z
                · exact lt' y z
                · rw [List.mem_singleton.mp z]
                  exact S.lt _ _ (List.getElem_mem hml)
            · intro y
              have key : (y ∈ if L[m].1 ∈ ks' then ks' else ks' ++ [L[m].1]) ↔ y ∈ ks' ∨ y = L[m].1 := by
                split
                · rename_i hy
                  exact ⟨Or.inl, fun z => z.elim id fun e => by rw [e]; exact hy⟩
                · rw [List.mem_append, List.mem_singleton]
              rw [key, mem']
              constructor
              · rintro ((z | ⟨j, w, hj, z⟩) | z)
                · exact Or.inl z
                · exact Or.inr ⟨j, w, by omega, z⟩
                · exact Or.inr ⟨m, L[m].2, by omega, by rw [z]; exact List.getElem?_eq_getElem hml⟩
              · rintro (z | ⟨j, w, hj, z⟩)
                · exact Or.inl (Or.inl z)
                · by_cases c : j < m
                  · exact Or.inl (Or.inr ⟨j, w, c, z⟩)
                  · have : j = m := by omega
                    subst this
                    rw [List.getElem?_eq_getElem hml] at z
                    right
                    have := Option.some.inj z
                    rw [this]
        · rintro σ H8 ⟨ks', ⟨v6, rfl⟩, kp, hS8, nd', lt', mem'⟩
          refine ⟨kp _ _ upd_same ndS, ?_⟩
          have hFd : (upd H7 fd (.lst (refs as ++ [.ref r]))) fd = some (.lst (refs as ++ [.ref r])) := upd_same
          have keep : ∀ b o, (upd H7 fd (.lst (refs as ++ [.ref r]))) b = some o → b ≠ sd → (upd H8 d (.dK kvs)) b = some o := fun b o hb hbs => by
            by_cases hbd : b = d
            · subst hbd
              rw [upd_ne ndF, hd7] at hb
              rw [upd_same]
              exact hb
            · rw [upd_ne hbd]
              exact kp b o (by rw [upd_ne hbd]; exact hb) hbs
          have nrS : r ≠ sd := fun z => by rw [z, hS6] at hr6; cases hr6
          refine ⟨fun b o hb => ?_, _, _, _, as ++ [r], ks', rfl, ?_, ?_, ?_, ?_, nd', lt', ?_⟩
          · have b1 : b ≠ sd := ne_of_none hb hsd0
            have b2 : b ≠ fd := ne_of_none hb hfd
            exact keep b o (by rw [upd_ne b2]; exact e7 _ _ (e6 _ _ hb)) b1
          · have := keep fd _ hFd nfs
            rw [this]
            simp
          · intro z
            rcases List.mem_append.mp z with z | z
            · exact hnF z
            · exact nrF (List.mem_singleton.mp z).symm
          · unfold orbStep
            rw [if_neg hany]
            have hl7 : LLAt H7 as (orbsTo n (rchB n (both n fs)) i) := (hLL.ext S.ex).ext e7
            refine LLAt.snoc (hl7.on fun a u ha hu' => ?_) ?_
            · have a1 : a ≠ fd := fun z => hnF (by rw [← z]; exact ha)
              obtain ⟨j, hj⟩ := List.mem_iff_getElem?.mp ha
              obtain ⟨o, _, ho⟩ := hl7.2 j a hj
              have a2 : a ≠ sd := ne_of ho hS7 (by intro z; cases z)
              exact keep a u (by rw [upd_ne a1]; exact hu') a2
            · exact keep r _ (by rw [upd_ne nrF]; exact h7) nrS
          · rw [upd_ne ndS.symm]
            exact hS8
          · intro y
            unfold orbStep
            rw [if_neg hany, mem', List.any_append, Bool.or_eq_true, ← hks]
            refine or_congr Iff.rfl ?_
            rw [List.any_cons, List.any_nil, Bool.or_false, decide_eq_true_iff, List.mem_filter, List.mem_range, ← hR y]
            constructor
            · rintro ⟨j, w, hj, z⟩
              obtain ⟨ag, hv, _⟩ := S.wd.some (fun a _ b _ z => encE_inj z) S.bi.nd z
              exact ⟨S.lt _ _ (List.mem_of_getElem? z), by rw [hv]; rfl⟩
            · rintro ⟨hy, z⟩
              have hm : y ∈ L.map Prod.fst := by
                apply Classical.byContradiction
                intro hn
                rw [S.wd.no (e := y) (fun b hb z => hn (by rw [encE_inj z] at hb; exact hb))] at z
                cases z
              obtain ⟨w, hw⟩ := mem_fst.mp hm
              obtain ⟨j, hj⟩ := List.mem_iff_getElem?.mp hw
              exact ⟨j, w, by rw [S.wd.len]; exact (List.getElem?_eq_some_iff.mp hj).1, hj⟩
    · rintro σ H4 ⟨ex, v4, v5, v6, as, ks, rfl, hF, hnF, hLL, hS, hnd, hlt, hks⟩
      rw [Int.toNat_natCast] at hLL
      exact ⟨_, rfl, k fd as H4 (Ext.none e24 hfd) (Ext.trans e24 ex) hF hLL⟩
end
end CM
-- part R5
set_option Elab.async false
set_option linter.all false
set_option maxRecDepth 100000
set_option maxHeartbeats 4000000
/-! ### {t: v} with a tuple as the key; tuples of numbers compared -/
namespace CM
open PySem PySem.Spec PyProof.Rows L2 StX
def tDispT (tk tv : TE) : TE := fun σ H Q => ∀ p, H p = none → tPairs [(tk, tv)] σ (upd H p (.dT [])) fun ps H2 => ∃ b k y, ps = [(V.ref b, y)] ∧ H2 b = some (.tup (k.map kV)) ∧ H2 p = some (.dT []) ∧ Q (.ref p) (upd H2 p (.dT [(k, y)]))
theorem pe_dispT {X : Cx} {pos : Pos} {k v : Expr} {tk tv : TE} (hu : X.A.units + 1 < cLine) (hk : PE X k tk) (hv : PE X v tv) : PE X (.Dict [some k] [v] pos) (tDispT tk tv) := by
  refine ⟨fun pins s σ H Q I q => ?_⟩
  have hn := I.hok.fresh (Nat.le_refl s.heap.objs.size)
  have I1 := I.laid (a := s.heap.objs.size) (o := .dT []) (h' := s.heap.push { cls := .type "dict", data := .dict #[] }) (t' := s.toks) (fun _ _ q => Heap.get?_push_of_some _ q) (Nat.le_refl _) (dt_empty s.heap I.big)
  rw [arm_eval_Dict, show (evalEachOpt [some k] X.env).zip ((evalEach [v] X.env).map fun v => do let x ← v; standAt pos; pure x) = (pairTrees [some k] [v] X.env pos).map fun p => (some p.1, p.2) from rfl, dictDisplay_pairs (pairTrees [some k] [v] X.env pos) (fun z => nomatch z) (by show 1 < 17; decide)]
  have hw := (pps_cons (pos := pos) hk hv pps_nil).run pins { s with heap := s.heap.push { cls := .type "dict", data := .dict #[] }, toks := s.toks } σ _ _ I1 (q _ hn)
  refine wpAny_bind (wpAny_standAt (wpAny_bind (wpAny_subDictH (knd := tupleKind (mixKind X.prog X.w)) (Q := fun d s' => wpAny (model X.prog X.w) X.A (pure (Value.ref d)) (EP X pins σ Q) X.xe s') (show X.A.units < cLine by omega) (by show 1 ≤ 15; decide) (thn hw fun vs s2 hx => ?_))))
  obtain ⟨ps, H2, I2, rel, b, key, y, rfl, hb, hp, q2⟩ := hx
  cases rel with
  | @cons _ w2 _ wr r1 r2 =>
  cases r2
  obtain ⟨w3, w4⟩ := w2
  obtain ⟨ra, rb⟩ := r1
  cases (show w3 = Value.ref b from ra)
  obtain ⟨z, hd, xs, rel2, dd⟩ := dt_of I2.hok hp
  cases rel2
  refine ⟨[(key, b, w4)], ⟨rfl, rfl, key_of I2.hok hb, trivial⟩, dd, fun h' tk dd' hs => wpAny_pure ⟨.ref s.heap.objs.size, _, ?_, rfl, q2⟩⟩
  obtain ⟨o, es, ep, ho, h2, h3, h4, _, h5⟩ := dd'
  refine d_write I2 (by rw [hp]; exact True.intro) hs ⟨o, ho⟩ ⟨by show 1 ≤ sizeLine; decide, hd, [(key, b, w4)], .cons ⟨rfl, ?_, rb⟩ .nil, o, es, ep, ho, h2, h3, h4, h5⟩
  rw [upd_ne (ne_of hb hp (fun z => nomatch z))]
  exact hb
/-! numbers as data -/
abbrev natsD (w : List Nat) : List PyData := w.map fun b : Nat => PyData.int (b : Int)
theorem dp_nats (K : PySem.W.Frag) (H : Hp) : ∀ w : List Nat, DpAll K H (natsV w) (natsD w)
  | [] => .nil
  | b :: w => .cons (.int _) (dp_nats K H w)
theorem natsD_lay : ∀ w : List Nat, PyData.canLayAll0 (natsD w) = true
  | [] => by simp [PyData.canLayAll0]
  | b :: w => by
    have := natsD_lay w
    simp [PyData.canLayAll0, PyData.canLay0, this]
theorem natsD_depth : ∀ w : List Nat, PyData.depthAll (natsD w) = 0
  | [] => by simp [PyData.depthAll]
  | b :: w => by
    have := natsD_depth w
    simp [PyData.depthAll, PyData.depth, this]
theorem shaped_lst (w : List Nat) : SeqAt.shaped (.list (natsD w)) = true := by
  unfold SeqAt.shaped
  simp [PyData.canLay0, natsD_lay, PyData.depth, natsD_depth]
theorem shaped_tup (w : List Nat) : SeqAt.shaped (.tuple (natsD w)) = true := by
  unfold SeqAt.shaped
  simp [PyData.canLay0, natsD_lay, PyData.depth, natsD_depth]
theorem eqvs_nats : ∀ v w : List Nat, PyData.eqvAll (natsD v) (natsD w) = decide (v = w)
  | [], [] => by simp [PyData.eqvAll]
  | [], b :: w => by simp [PyData.eqvAll]
  | a :: v, [] => by simp [PyData.eqvAll]
  | a :: v, b :: w => by
    have e : PyData.eqvAll (natsD (a :: v)) (natsD (b :: w)) = (((a : Int) == (b : Int)) && PyData.eqvAll (natsD v) (natsD w)) := by simp only [natsD, List.map_cons, PyData.eqvAll, PyData.eqv]
    rw [e, eqvs_nats v w]
    by_cases h : a = b
    · subst h
      simp
    · have h2 : ¬ ((a : Int) = (b : Int)) := by omega
      simp [h, h2]
theorem eqv_lst (v w : List Nat) : PyData.eqv (.list (natsD v)) (.list (natsD w)) = decide (v = w) := by
  rw [← eqvs_nats]
  simp only [PyData.eqv]
theorem eqv_tup (v w : List Nat) : PyData.eqv (.tuple (natsD v)) (.tuple (natsD w)) = decide (v = w) := by
  rw [← eqvs_nats]
  simp only [PyData.eqv]
/-! lists of lists -/
abbrev listsD (os : List (List Nat)) : List PyData := os.map fun o => PyData.list (natsD o)
theorem listsD_lay : ∀ os : List (List Nat), PyData.canLayAll0 (listsD os) = true
  | [] => by simp [PyData.canLayAll0]
  | o :: os => by
    have h1 := listsD_lay os
    have h2 := natsD_lay o
    simp [PyData.canLayAll0, PyData.canLay0, h1, h2]
theorem listsD_depth : ∀ os : List (List Nat), PyData.depthAll (listsD os) ≤ 1
  | [] => by simp [PyData.depthAll]
  | o :: os => by
    have h1 := listsD_depth os
    have h2 := natsD_depth o
    simp only [listsD, List.map_cons, PyData.depthAll, PyData.depth] at *
    omega
theorem shaped_lists (os : List (List Nat)) : SeqAt.shaped (.list (listsD os)) = true := by
  have h1 := listsD_depth os
  show ((PyData.list (listsD os)).canLay0 && decide ((PyData.list (listsD os)).depth ≤ 64)) = true
  rw [Bool.and_eq_true]
  refine ⟨by simp [PyData.canLay0, listsD_lay], decide_eq_true ?_⟩
  simp only [PyData.depth]
  omega
theorem eqv_listsD : ∀ os : List (List Nat), PyData.eqvAll (listsD os) (listsD os) = true
  | [] => by simp [PyData.eqvAll]
  | o :: os => by
    have e : PyData.eqvAll (listsD (o :: os)) (listsD (o :: os)) = (PyData.eqv (.list (natsD o)) (.list (natsD o)) && PyData.eqvAll (listsD os) (listsD os)) := by simp only [listsD, List.map_cons, PyData.eqvAll]
    rw [e, eqv_lst, eqv_listsD os]
    simp
theorem eqv_lists (os : List (List Nat)) : PyData.eqv (.list (listsD os)) (.list (listsD os)) = true := by
  have := eqv_listsD os
  simp only [PyData.eqv]
  exact this
theorem dp_lists {K : PySem.W.Frag} {H : Hp} : ∀ {os : List (List Nat)} {as : List Addr}, LLAt H as os → DpAll K H (refs as) (listsD os)
  | [], [], _ => .nil
  | [], a :: as, h => by have := h.1; simp at this
  | o :: os, [], h => by have := h.1; simp at this
  | o :: os, a :: as, h => by
    obtain ⟨o', h1, h2⟩ := h.2 0 a rfl
    cases h1
    refine .cons (.lst (Or.inl (Or.inl h2)) (dp_nats K H o)) (dp_lists ⟨?_, fun i b hi => h.2 (i + 1) b hi⟩)
    have := h.1
    simp at this
    exact this
end CM
-- part D12
set_option Elab.async false
set_option linter.all false
set_option maxRecDepth 100000
set_option maxHeartbeats 4000000
/-! ### images -/
namespace CM
open PySem PySem.Spec PyProof.Rows L2 StX
theorem fm_nodup {f : PF} (hi : ∀ i k j, f i = some j → f k = some j → i = k) : ∀ {S : List Nat}, S.Nodup → (S.filterMap f).Nodup
  | [], _ => by simp
  | a :: S, h => by
    obtain ⟨h1, h2⟩ := List.nodup_cons.mp h
    have ih := fm_nodup hi h2
    cases e : f a with
    | none =>
      rw [List.filterMap_cons, e]
      exact ih
    | some b =>
      rw [List.filterMap_cons, e]
      refine List.nodup_cons.mpr ⟨fun hm => ?_, ih⟩
      obtain ⟨c, hc, e2⟩ := List.mem_filterMap.mp hm
      have := hi a c b e e2
      rw [this] at h1
      exact h1 hc
theorem sorted_img {n : Nat} {f : PF} {S : List Nat} (hf : WF n f) (hS : Asc n S) {ns : List Int} (hp : ns.Perm ((S.filterMap f).map fun b : Nat => (b : Int))) (ho : ns.Pairwise (· ≤ ·)) : ns.map V.int = natsV (img n f S) := by
  have h1 : ns = (ns.map Int.toNat).map fun b : Nat => (b : Int) := by
    rw [List.map_map]
    conv => lhs; rw [← List.map_id ns]
    refine List.map_congr_left fun x hx => ?_
    obtain ⟨b, _, e⟩ := List.mem_map.mp (hp.mem_iff.mp hx)
    rw [← e]
    simp
  have h2 : (ns.map Int.toNat).Perm (S.filterMap f) := by
    have := hp.map Int.toNat
    rw [List.map_map] at this
    have e : (Int.toNat ∘ fun b : Nat => (b : Int)) = id := by funext b; simp
    rw [e, List.map_id] at this
    exact this
  have nd : (ns.map Int.toNat).Nodup := h2.nodup_iff.mpr (fm_nodup hf.inj (asc_nodup hS.asc))
  have le : (ns.map Int.toNat).Pairwise (· ≤ ·) := List.pairwise_map.mpr (ho.imp fun {a b} z => Int.toNat_le_toNat z)
  have asc : (ns.map Int.toNat).Pairwise (· < ·) := by
    have := List.pairwise_and_iff.mpr ⟨le, nd⟩
    exact this.imp fun {a b} z => Nat.lt_of_le_of_ne z.1 z.2
  have e : ns.map Int.toNat = img n f S := asc_eq asc (asc_img n f S).asc fun x => by
    rw [h2.mem_iff, List.mem_filterMap, mem_img]
    constructor
    · rintro ⟨i, hi, z⟩
      exact ⟨(hf.dom i x z).2, i, hi, z⟩
    · rintro ⟨_, i, hi, z⟩
      exact ⟨i, hi, z⟩
  rw [h1, e, List.map_map]
  rfl
section
variable {P : Program} {w : World} {K : PySem.W.Frag} {mg : Str → Option Value} {base : Heap}
def spPlaces : Sp := fun vs H Q _ => ∃ a t n S f, vs = [.ref a, .ref t] ∧ H a = some (.tup (natsV S)) ∧ H t = some (.dK (kvN (rowsOf n f))) ∧ WF n f ∧ S.length ≤ 300 ∧ ∀ r H', H r = Option.none → Ext H H' → H' r = some (.lst (natsV (S.filterMap f))) → Q (.ref r) H'
theorem sc_places : FnScope ["places", "table", "place"] ["places", "table"] (defScope (top 30)) := ⟨rfl, rfl, rfl, by decide +kernel, rfl, by decide +kernel, by decide +kernel⟩
theorem ok_places (T : Txt K mg) : Fn P w K mg base 1 (He.ga K "places_after") spPlaces := by
  refine fn_by T.d_places_after sc_places (fun _ _ _ _ _ _ us hl => match us, hl with | [_, _], _ => rfl) (fun vs H Q E h => ?_) (fun cdv A outer s H vs Q E hr h => ?_)
  · obtain ⟨a, t, n, S, f, rfl, _⟩ := h
    rfl
  · obtain ⟨a, t, n, S, f, rfl, ha, ht, hf, hS, k⟩ := h
    have hu := hu_of hr
    refine ⟨_, pss_one (ps_ret (pe_lc (own := [("place", 2)]) (g := gName 2) rfl sc_places.nd (pi_tup (pv 0)) (blkOk_by (own := [("place", 2)]) (N := ["places", "table", "place"]) (sc := defScope (top 30)) (by decide +kernel))
      (fun _ _ _ _ _ => pg_name (i := 2) sc_places.nd rfl (Or.inl rfl)) (fun _ _ _ _ _ => pts_one (pt_cmp (pc_din hu (pv 2) (pv 1)))) (fun _ _ _ _ _ => pe_dget hu (pv 1) (pv 2) (fun _ _ => rfl)) (fun _ => rfl))), ?_⟩
    have sq : SqT K H a (natsV S) := Or.inl (Or.inl ha)
    refine ⟨_, rfl, a, rfl, ⟨_, sq⟩, fun D hD => ?_⟩
    refine lc_it (walk_tup (xs := natsV S)) (fun i H2 => Ext H H2 ∧ H2 D = some (.lst (natsV ((S.take i).filterMap f)))) ⟨Ext.upd hD, upd_same⟩ (fun i H2 _ ⟨e1, _⟩ => sq.ext e1) ?_ ?_
    · rintro i x H2 H3 hi ⟨e1, h2⟩ ⟨rfl, hx⟩
      obtain ⟨b, rfl, hb⟩ := natsV_get hx
      have hdg := DGet.k (k := encE b) (e1 _ _ ht)
      rw [valV_rows hf] at hdg
      refine ⟨rfl, _, rfl, _, rfl, t, _, rfl, hdg, _, rfl, ?_⟩
      rw [take_succ hb, List.filterMap_append]
      cases e : f b with
      | none =>
        refine iteF ⟨e1, ?_⟩
        rw [h2]
        simp [e]
      | some c =>
        rw [e] at hdg
        refine iteT ⟨_, rfl, _, rfl, t, _, rfl, hdg, _, h2, ?_, Ext.mut e1 hD, ?_⟩
        · have l1 := List.length_filterMap_le f (S.take i)
          rw [List.length_take] at l1
          rw [List.length_map]
          exact small300 (m := S.length) (by omega) hS
        · rw [upd_same]
          simp [e]
    · rintro H2 ⟨e1, h2⟩
      rw [List.length_map, List.take_length] at h2
      exact k D H2 hD e1 h2
/-! image_of -/
def spImage : Sp := fun vs H Q _ => ∃ a t n S f, vs = [.ref a, .ref t] ∧ H a = some (.tup (natsV S)) ∧ H t = some (.dK (kvN (rowsOf n f))) ∧ WF n f ∧ Asc n S ∧ n ≤ 300 ∧ ∀ r H', H r = Option.none → Ext H H' → H' r = some (.tup (natsV (img n f S))) → Q (.ref r) H'
theorem sc_image : FnScope ["places", "table", "place"] ["places", "table"] (defScope (top 48)) := ⟨rfl, rfl, rfl, by decide +kernel, rfl, by decide +kernel, by decide +kernel⟩
theorem Asc.len {n : Nat} {S : List Nat} (h : Asc n S) : S.length ≤ n := by
  have := nodup_len (asc_nodup h.asc) (u := List.range n) fun x hx => List.mem_range.mpr (h.lt x hx)
  rw [List.length_range] at this
  exact this
theorem ok_image (T : Txt K mg) : Fn P w K mg base 2 (He.ga K "image_of") spImage := by
  refine fn_by T.d_image_of sc_image (fun _ _ _ _ _ _ us hl => match us, hl with | [_, _], _ => rfl) (fun vs H Q E h => ?_) (fun cdv A outer s H vs Q E hr h => ?_)
  · obtain ⟨a, t, n, S, f, rfl, _⟩ := h
    rfl
  · obtain ⟨a, t, n, S, f, rfl, ha, ht, hf, hS, hn, k⟩ := h
    have hl := hS.len
    refine ⟨_, pss_one (ps_ret (pe_callTy call_tuple_of (by rfl) T.u_tuple (by decide +kernel) (pa_cons (pe_callB cr_sortedI (by rfl) T.u_sorted (by decide +kernel) (pa_cons
      (pe_lc (own := [("place", 2)]) (g := gName 2) (tt := tYes) rfl sc_image.nd (pi_list (pe_fn (ok_places T) hr (by rfl) T.g_places_after T.d_places_after.kp (pa_cons (pv 0) (pa_cons (pv 1) pa_nil)))) (blkOk_by (own := [("place", 2)]) (N := ["places", "table", "place"]) (sc := defScope (top 48)) (by decide +kernel))
        (fun _ _ _ _ _ => pg_name (i := 2) sc_image.nd rfl (Or.inl rfl)) (fun _ _ _ _ _ => pts_nil) (fun _ _ _ _ _ => pe_callTy call_int1 (by rfl) T.u_int (by decide +kernel) (pa_cons (pv 2) pa_nil)) (fun _ => rfl)) pa_nil)) pa_nil))), ?_⟩
    refine ⟨_, rfl, _, rfl, a, t, n, S, f, rfl, ha, ht, hf, by omega, fun r H1 hr1 e1 h1 => ?_⟩
    have sq : SqL K H1 r (natsV (S.filterMap f)) := Or.inl (Or.inl h1)
    refine ⟨r, rfl, ⟨_, sq⟩, fun D hD => ?_⟩
    refine lc_it (walk_list (xs := natsV (S.filterMap f))) (fun i H2 => Ext H1 H2 ∧ H2 D = some (.lst (natsV ((S.filterMap f).take i)))) ⟨Ext.upd hD, upd_same⟩ (fun i H2 _ ⟨e2, _⟩ => sq.ext e2) ?_ ?_
    · rintro i x H2 H3 hi ⟨e2, h2⟩ ⟨rfl, hx⟩
      obtain ⟨b, rfl, hb⟩ := natsV_get hx
      refine ⟨rfl, yesT ⟨_, rfl, Or.inl ⟨_, rfl, _, h2, ?_, Ext.mut e2 hD, ?_⟩⟩⟩
      · have l1 := List.length_filterMap_le f S
        rw [List.length_map, List.length_take]
        exact small300 (m := S.length) (by omega) (by omega)
      · rw [upd_same, take_succ hb]
        simp
    · rintro H2 ⟨e2, h2⟩
      rw [List.length_map, List.take_length] at h2
      have e12 := Ext.trans e1 e2
      refine ⟨D, (S.filterMap f).map fun b : Nat => (b : Int), rfl, Or.inl (Or.inl (by rw [h2, List.map_map]; rfl)), fun ns p hp ho hp2 => ?_⟩
      have eP := Ext.upd (o := .lst (ns.map V.int)) hp2
      refine ⟨p, ns.map V.int, rfl, Or.inl ⟨Or.inl (Or.inl upd_same), fun q hq => ?_⟩⟩
      have e13 := Ext.trans e12 eP
      refine k q _ (Ext.none e13 hq) (Ext.trans e13 (Ext.upd hq)) ?_
      rw [upd_same, sorted_img hf hS hp ho]
end
end CM
-- part D13
set_option Elab.async false
set_option linter.all false
set_option maxRecDepth 100000
set_option maxHeartbeats 4000000
/-! ### searched -/
namespace CM
open PySem PySem.Spec PyProof.Rows L2 StX
abbrev encS (S : List Nat) : List Key := S.map encE
theorem encS_inj : ∀ {a b : List Nat}, encS a = encS b → a = b
  | [], [], _ => rfl
  | [], b :: bs, h => by simp [encS] at h
  | a :: as, [], h => by simp [encS] at h
  | a :: as, b :: bs, h => by
    have h1 := List.cons.inj h
    rw [encE_inj h1.1, encS_inj h1.2]
theorem encS_v (S : List Nat) : (encS S).map kV = natsV S := by
  unfold encS
  rw [List.map_map]
  rfl
def TupsAt (H : Hp) (as : List Addr) (Ss : List (List Nat)) : Prop := as.length = Ss.length ∧ ∀ (i : Nat) (a : Addr), as[i]? = some a → ∃ S, Ss[i]? = some S ∧ H a = some (.tup (natsV S))
theorem TupsAt.tups {H H' : Hp} {as : List Addr} {Ss : List (List Nat)} (h : TupsAt H as Ss) (e : ∀ a xs, H a = some (.tup xs) → H' a = some (.tup xs)) : TupsAt H' as Ss := ⟨h.1, fun i a hi => by
  obtain ⟨S, h1, h2⟩ := h.2 i a hi
  exact ⟨S, h1, e _ _ h2⟩⟩
theorem TupsAt.snoc {H : Hp} {as : List Addr} {Ss : List (List Nat)} (h : TupsAt H as Ss) {a : Addr} {S : List Nat} (ha : H a = some (.tup (natsV S))) : TupsAt H (as ++ [a]) (Ss ++ [S]) := by
  refine ⟨by rw [List.length_append, List.length_append, h.1]; rfl, fun j b hj => ?_⟩
  rcases Nat.lt_trichotomy j as.length with c | c | c
  · rw [List.getElem?_append_left c] at hj
    obtain ⟨o', h1, h2⟩ := h.2 j b hj
    exact ⟨o', by rw [List.getElem?_append_left (by rw [← h.1]; exact c)]; exact h1, h2⟩
  · subst c
    rw [List.getElem?_append_right (Nat.le_refl _), Nat.sub_self] at hj
    cases hj
    exact ⟨S, by rw [h.1, List.getElem?_append_right (Nat.le_refl _), Nat.sub_self]; rfl, ha⟩
  · rw [List.getElem?_eq_none (by rw [List.length_append]; simp; omega)] at hj
    cases hj
theorem TupsAt.cons {H : Hp} {as : List Addr} {S : List Nat} {Ss : List (List Nat)} (h : TupsAt H as (S :: Ss)) : ∃ a as', as = a :: as' ∧ H a = some (.tup (natsV S)) ∧ TupsAt H as' Ss := by
  match as, h with
  | [], h => exact absurd h.1 (by simp)
  | a :: as', h =>
    obtain ⟨S', h1, h2⟩ := h.2 0 a rfl
    cases h1
    refine ⟨a, as', rfl, h2, ?_, fun i b hi => h.2 (i + 1) b hi⟩
    have := h.1
    simp at this
    exact this
structure SrSt (H H' : Hp) (d n : Nat) (fs : List PF) (L : List (List Nat × List Nat)) (i a : Nat) (kvs : List (List Key × V)) : Prop where
  ex : Ext H H'
  bi : BI fs.length (stepS n fs) (List.range n) L i a
  asc : ∀ S w, (S, w) ∈ L → Asc n S
  bl : ∀ (j : Nat) S w, L[j]? = some (S, w) → w.length ≤ j
  hd : H' d = some (.dT kvs)
  wd : Wd encS H' kvs L
theorem SrSt.few {H H' : Hp} {d n : Nat} {fs : List PF} {i a : Nat} {L : List (List Nat × List Nat)} {kvs : List (List Key × V)} (h : SrSt H H' d n fs L i a kvs) (hn : n ≤ 6) : L.length ≤ 64 := by
  have := sets_few h.bi.nd fun S hS => by
    obtain ⟨w, hw⟩ := mem_fst.mp hS
    exact h.asc S w hw
  rw [List.length_map] at this
  exact Nat.le_trans this (Nat.pow_le_pow_right (n := 2) (by decide) hn)
theorem rgV_nats (n : Nat) : rgV 0 (n : Int) = natsV (List.range n) := by
  simp [rgV]
section
variable {P : Program} {w : World} {K : PySem.W.Frag} {mg : Str → Option Value} {base : Heap}
def spSrch (K : PySem.W.Frag) : Sp := fun vs H Q _ => ∃ p n fs, vs = [.ref p] ∧ FamAt K H p n fs ∧ n ≤ 6 ∧ ∀ d H' kvs L i a, H d = Option.none → SrSt H H' d n fs L i a kvs → ([] ∈ L.map Prod.fst ∨ i = L.length) → Q (.ref d) H'
theorem sc_srch : FnScope ["family", "tables", "full", "words", "waiting", "places", "index", "table", "later", "one"] ["family"] (defScope (top 49)) := ⟨rfl, rfl, rfl, by decide +kernel, rfl, by decide +kernel, by decide +kernel⟩
theorem ok_srch (T : Txt K mg) : Fn P w K mg base 5 (He.ga K "searched") (spSrch K) := by
  refine fn_by T.d_searched sc_srch (fun _ _ _ _ _ _ us hl => match us, hl with | [_], _ => rfl) (fun vs H Q E h => ?_) (fun cdv A outer s H vs Q E hr h => ?_)
  · obtain ⟨p, n, fs, rfl, _⟩ := h
    rfl
  · obtain ⟨p, n, fs, rfl, F, hn6, k⟩ := h
    have hu := hu_of hr
    have hu64 : (A.deeper (envOfC "searched" (defScope (top 49)) s.heap.objs.size (He.ga K "searched") cdv)).units + 64 < cLine := by
      have := hr.un
      omega
    obtain ⟨tk, hM⟩ := T.i_MOST_SETS
    refine ⟨_, pss_cons (ps_setLc (i := 1) (own := [("one", 9)]) (g := gName 9) (tt := tYes) rfl sc_srch.nd rfl rfl (sw_true rfl rfl rfl rfl) (pi_tup (pe_pr (pv 0) T.c_Family T.m_pMaps (ok_fmaps T) (hr.mono (by decide)))) (blkOk_by (own := [("one", 9)]) (N := ["family", "tables", "full", "words", "waiting", "places", "index", "table", "later", "one"]) (sc := defScope (top 49)) (by decide +kernel))
          (fun _ _ _ _ _ => pg_name (i := 9) sc_srch.nd rfl (Or.inl rfl)) (fun _ _ _ _ _ => pts_nil) (fun _ _ _ _ _ => pe_pr (pv 9) T.c_Map T.m_pArrows (ok_arrows T) (hr.mono (by decide))) (fun _ => rfl))
      (pss_cons (ps_set (i := 2) sc_srch.nd rfl (Or.inl rfl) (pe_tupRg rfl (by rfl) T.u_tuple (prg_1 (by rfl) T.u_range (pe_pr (pv 0) T.c_Family T.m_pFSize (ok_fsize T) (hr.mono (by decide))))))
      (pss_cons (ps_set (i := 3) sc_srch.nd rfl (Or.inl rfl) (pe_dispT hu (pv 2) (pe_tup pa_nil)))
      (pss_cons (ps_set (i := 4) sc_srch.nd rfl (Or.inl rfl) (pe_lst (pa_cons (pv 2) pa_nil)))
      (pss_cons (ps_while PassesOwn.never (pt_cmpR (op_neNil (Nat.lt_of_succ_lt hu)) (pv 4) (pe_lst pa_nil) (nomark _))
        (pss_cons (ps_set (i := 5) sc_srch.nd rfl (Or.inl rfl) (pe_bm PySem.F.plainAttrs_list PySem.F.slot_list_pop PySem.F.type_list_pop mt_popAt (pv 4) (pa_cons pe_int pa_nil)))
        (pss_one (ps_for PassesOwn.never rfl (pi_enum (by rfl) T.u_enumerate (pa_cons (pv 1) pa_nil)) (pg_tup rfl (pgs_cons (pg_name (i := 6) sc_srch.nd rfl (Or.inl rfl)) (pgs_cons (pg_name (i := 7) sc_srch.nd rfl (Or.inl rfl)) pgs_nil)))
          (pss_cons (ps_set (i := 8) sc_srch.nd rfl (Or.inl rfl) (pe_fn (ok_image T) (hr.mono (by decide)) (by rfl) T.g_image_of T.d_image_of.kp (pa_cons (pv 5) (pa_cons (pv 7) pa_nil))))
          (pss_one (ps_if (pt_cmp (pc_dnotin hu (pv 8) (pv 3)))
            (pss_cons (ps_if (PW.pt (pw_and (pt_cmpR op_eq (pe_callB call_len_dT (by rfl) T.u_len (by decide +kernel) (pa_cons (pv 3) pa_nil)) (pe_glob (v := .int 2000) (by rfl) hM ⟨_, rfl⟩) (nomark _)) (pw_and1 (pt_cmpR (op_neD hu64) (pv 8) (pe_tup pa_nil) (nomark _))))) (pss_never (X := _)) pss_nil)
            (pss_cons (ps_dput hu (pv 3) (pv 8) (pe_tup (pa_star (pe_dget hu (pv 3) (pv 5) (fun _ _ => rfl)) (pa_cons (pv 6) pa_nil))) rfl)
            (pss_cons (ps_expr (pe_bm PySem.F.plainAttrs_list PySem.F.slot_list_append PySem.F.type_list_append mt_append (pv 4) (pa_cons (pv 8) pa_nil)))
            (pss_one (ps_if (pt_cmpR (op_eqD hu64) (pv 8) (pe_tup pa_nil) (nomark _)) (pss_one (ps_ret (pv 3))) pss_nil))))) pss_nil)))))))
      (pss_one (ps_ret (pv 3))))))), ?_⟩
    have sz := F.sz
    have wfs := F.wfs
    obtain ⟨dx, t, ps, h1, h2, h3⟩ := F.ob
    refine ⟨_, rfl, p, dx, _, rfl, h1, p, dx, t, rfl, h1, t, rfl, ⟨_, Or.inl (Or.inl h2)⟩, fun tb htb => ?_⟩
    refine tabs_read (by show 9 < 10; decide) htb (Or.inl (Or.inl h2)) h3 F.hi fun H1 ts e1 htb1 hts => ?_
    refine ⟨_, rfl, p, dx, _, rfl, e1 _ _ h1, p, n, fs, rfl, F.ext e1, n, rfl, ⟨by omega, by omega, by omega, by omega, by omega⟩, fun full hfull => ?_⟩
    rw [rgV_nats]
    have eF := Ext.upd (o := .tup (natsV (List.range n))) hfull
    intro d hd
    have e2 := Ext.trans e1 (Ext.trans eF (Ext.upd (o := .dT []) hd))
    have hd1 : H1 d = none := Ext.none eF hd
    have hd0 : H d = none := Ext.none e1 hd1
    have nfd : full ≠ d := fun z => by rw [← z, upd_same] at hd; cases hd
    refine ⟨_, rfl, by decide, fun u0 hu0 => ?_⟩
    have ndu : d ≠ u0 := fun z => by rw [← z, upd_same] at hu0; cases hu0
    have nfu : full ≠ u0 := ne_of_none (o := .tup (natsV (List.range n))) (by rw [upd_ne nfd, upd_same]) hu0
    refine ⟨full, encS (List.range n), .ref u0, rfl, by rw [encS_v, upd_ne nfu, upd_ne nfd, upd_same], by rw [upd_ne ndu, upd_same], ?_⟩
    refine ⟨_, rfl, (by show 1 ≤ sizeLine; decide), fun q hq => ?_⟩
    have ndq : d ≠ q := fun z => by rw [← z, upd_same] at hq; cases hq
    have hq1 : (upd (upd (upd H1 full (.tup (natsV (List.range n)))) d (.dT [])) u0 (.tup [])) q = none := by rw [upd_ne ndq.symm] at hq; exact hq
    have eU := Ext.upd (o := .tup []) hu0
    have hq2 := Ext.none eU hq1
    have hq0 : H q = none := Ext.none e2 hq2
    have ex0 : Ext H (upd (upd (upd (upd (upd H1 full (.tup (natsV (List.range n)))) d (.dT [])) u0 (.tup [])) d (.dT [(encS (List.range n), .ref u0)])) q (.lst [.ref full])) := Ext.mut (Ext.mut (Ext.trans e2 eU) hd0) hq0
    have htb0 : (upd (upd (upd (upd (upd H1 full (.tup (natsV (List.range n)))) d (.dT [])) u0 (.tup [])) d (.dT [(encS (List.range n), .ref u0)])) q (.lst [.ref full])) tb = some (.lst (refs ts)) :=
      (Ext.mut (Ext.mut (Ext.trans (Ext.trans eF (Ext.upd (o := .dT []) hd)) eU) hd1) (Ext.none (Ext.trans eF (Ext.upd (o := .dT []) hd)) hq2)) _ _ htb1
    have exT := Ext.mut (o := .lst [.ref full]) (Ext.mut (o := .dT [(encS (List.range n), .ref u0)]) (Ext.trans (Ext.trans eF (Ext.upd (o := .dT []) hd)) eU) hd1) (Ext.none (Ext.trans eF (Ext.upd (o := .dT []) hd)) hq2)
    have hts0 := hts.ext exT
    have nfq : full ≠ q := ne_of_none (o := .tup (natsV (List.range n))) (by rw [upd_ne nfu, upd_ne nfd, upd_same]) hq1
    have nuq : u0 ≠ q := fun z => by rw [← z, upd_same] at hq1; cases hq1
    have start : SrSt H (upd (upd (upd (upd (upd H1 full (.tup (natsV (List.range n)))) d (.dT [])) u0 (.tup [])) d (.dT [(encS (List.range n), .ref u0)])) q (.lst [.ref full])) d n fs [(List.range n, [])] 0 0 [(encS (List.range n), .ref u0)] :=
      ⟨ex0, BI.start, fun S w h => by cases List.mem_singleton.mp h; exact asc_range n, fun j S w h => by
        { cases j with
        | zero => cases h; exact Nat.le_refl _
        | succ j => cases h }, by rw [upd_ne ndq, upd_same], Wd.one (a := u0) (e := List.range n) (w := []) (by rw [upd_ne nuq, upd_ne ndu.symm, upd_same]; rfl)⟩
    have wait0 : TupsAt (upd (upd (upd (upd (upd H1 full (.tup (natsV (List.range n)))) d (.dT [])) u0 (.tup [])) d (.dT [(encS (List.range n), .ref u0)])) q (.lst [.ref full])) [full] [List.range n] :=
      TupsAt.snoc (as := []) (Ss := []) ⟨rfl, fun i a h => by simp at h⟩ (by rw [upd_ne nfq, upd_ne nfd, upd_ne nfu, upd_ne nfd, upd_same])
    have hwq : (upd (upd (upd (upd (upd H1 full (.tup (natsV (List.range n)))) d (.dT [])) u0 (.tup [])) d (.dT [(encS (List.range n), .ref u0)])) q (.lst [.ref full])) q = some (.lst (refs [full])) := upd_same
    have hntq : tb ≠ q := ne_of_none htb1 (Ext.none (Ext.trans eF (Ext.upd (o := .dT []) hd)) hq2)
    generalize (upd (upd (upd (upd (upd H1 full (.tup (natsV (List.range n)))) d (.dT [])) u0 (.tup [])) d (.dT [(encS (List.range n), .ref u0)])) q (.lst [.ref full])) = Hs at *
    have hqs : Hs q = some (.lst (refs [full])) := hwq
    refine ⟨fun m σ H2 => ∃ L i kvs ws v5 v6 v7 v8, m = 64 - i ∧ i ≤ L.length ∧ σ = [some (.ref p), some (.ref tb), some (.ref full), some (.ref d), some (.ref q), v5, v6, v7, v8, none] ∧ SrSt H H2 d n fs L i 0 kvs ∧ (H2 tb = some (.lst (refs ts)) ∧ TabsAt H2 n ts fs) ∧ H2 q = some (.lst (refs ws)) ∧ TupsAt H2 ws ((L.drop i).map Prod.fst), ⟨_, [(List.range n, [])], 0, _, [full], _, _, _, _, rfl, Nat.zero_le _, rfl, start, ⟨htb0, hts0⟩, hqs, wait0⟩, ?_⟩
    rintro m σ H2 ⟨L, i, kvs, ws, v5, v6, v7, v8, rfl, hil, rfl, S, ⟨hTb, hTs⟩, hQ, hW⟩
    have hQd : ∀ {x : Addr}, H2 x = Option.none → q ≠ x := fun h => ne_of_none hQ h
    refine ⟨_, rfl, by decide, fun x hx => ?_⟩
    refine ⟨q, x, _, rfl, rfl, by rw [upd_ne (hQd hx)]; exact hQ, upd_same, _, rfl, ?_⟩
    have eX := Ext.upd (o := .lst []) hx
    have S' : SrSt H (upd H2 x (.lst [])) d n fs L i 0 kvs := ⟨Ext.trans S.ex eX, S.bi, S.asc, S.bl, eX _ _ S.hd, S.wd.ext eX⟩
    have hQ' : (upd H2 x (.lst [])) q = some (.lst (refs ws)) := eX _ _ hQ
    have hW' : TupsAt (upd H2 x (.lst [])) ws ((L.drop i).map Prod.fst) := hW.tups fun a xs h => eX _ _ h
    cases hL : L[i]? with
    | none =>
      have hge : L.length ≤ i := List.getElem?_eq_none_iff.mp hL
      have hi : i = L.length := by omega
      have hws : ws = [] := by
        have := hW.1
        rw [hi, List.drop_length] at this
        exact List.length_eq_zero_iff.mp this
      rw [hws]
      refine iteF ⟨_, rfl, ?_⟩
      exact k d _ kvs L i 0 hd0 S' (Or.inr hi)
    | some pr =>
      obtain ⟨e, wd⟩ := pr
      have hlt : i < L.length := (List.getElem?_eq_some_iff.mp hL).1
      have hdr : L.drop i = (e, wd) :: L.drop (i + 1) := by
        rw [List.drop_eq_getElem_cons hlt]
        have := (List.getElem?_eq_some_iff.mp hL).2
        rw [this]
      rw [hdr] at hW'
      obtain ⟨pa, ws', rfl, hpa, hW''⟩ := hW'.cons
      have hnn := S.few hn6
      refine iteT ⟨fun σ' H' => ∃ L i' kvs ws v5 v6 v7 v8, i' = i + 1 ∧ i' ≤ L.length ∧ σ' = [some (.ref p), some (.ref tb), some (.ref full), some (.ref d), some (.ref q), v5, v6, v7, v8, none] ∧ SrSt H H' d n fs L i' 0 kvs ∧ (H' tb = some (.lst (refs ts)) ∧ TabsAt H' n ts fs) ∧ H' q = some (.lst (refs ws)) ∧ TupsAt H' ws ((L.drop i').map Prod.fst), ?_, ?_⟩
      · rintro σ' H' ⟨L', i', kvs', w', u5, u6, u7, u8, rfl, h1, h2, h3, h4⟩
        exact ⟨64 - (i + 1), by omega, L', i + 1, kvs', w', u5, u6, u7, u8, rfl, h1, h2, h3, h4⟩
      · refine ⟨_, rfl, Or.inl ⟨rfl, _, Or.inl (Or.inl hQ')⟩, q, _, 0, 0, .ref pa, rfl, rfl, hQ', by decide, by decide, seq0 _, rfl, ?_⟩
        have keepT : ∀ {H3 : Hp} {o : HO} {zs : List V} (h0 : H3 q = some (.lst zs)) (a : Addr) (xs : List V), H3 a = some (.tup xs) → (upd H3 q o) a = some (.tup xs) := fun h0 a xs ha => by rw [upd_ne (ne_of ha h0 (by intro z; cases z))]; exact ha
        have keepD : ∀ {H3 : Hp} {o : HO} {zs : List V} (h0 : H3 q = some (.lst zs)), TabsAt H3 n ts fs → TabsAt (upd H3 q o) n ts fs := fun h0 h => ⟨h.1, fun j t hj => by
          obtain ⟨f, z1, z2, z3⟩ := h.2 j t hj
          exact ⟨f, z1, by rw [upd_ne (ne_of z2 h0 (by intro z; cases z))]; exact z2, z3⟩⟩
        have ntq : tb ≠ q := hntq
        have ndq' : d ≠ q := ndq
        refine ⟨_, rfl, tb, refs ts, rfl, Or.inl (Or.inl (by rw [upd_ne ntq]; exact eX _ _ hTb)), for_it walk_enum (fun b σ H3 => ∃ L kvs ws v6 v7 v8, i + 1 ≤ L.length ∧ L[i]? = some (e, wd) ∧ σ = [some (.ref p), some (.ref tb), some (.ref full), some (.ref d), some (.ref q), some (.ref pa), v6, v7, v8, none] ∧ SrSt H H3 d n fs L i b kvs ∧ (H3 tb = some (.lst (refs ts)) ∧ TabsAt H3 n ts fs) ∧ H3 pa = some (.tup (natsV e)) ∧ H3 q = some (.lst (refs ws)) ∧ TupsAt H3 ws ((L.drop (i + 1)).map Prod.fst))
          ⟨L, kvs, ws', _, _, _, hlt, hL, rfl, ⟨Ext.mut S'.ex hq0, S'.bi, S'.asc, S'.bl, by rw [upd_ne ndq]; exact S'.hd, S'.wd.tups (keepT hQ')⟩, ⟨by rw [upd_ne ntq]; exact eX _ _ hTb, keepD hQ' (hTs.ext eX)⟩, keepT hQ' _ _ hpa, upd_same, hW''.tups (keepT hQ')⟩ (fun b σ H3 _ ⟨_, _, _, _, _, _, _, _, _, _, ⟨h, _⟩, _⟩ => Or.inl (Or.inl h)) ?_ ?_⟩
        · rintro b y σ H3 H4 hb ⟨L, kvs, ws, v6, v7, v8, hle, hL, rfl, S, ⟨hTb, hTs⟩, hpa, hQ, hW⟩ ⟨T', y1, y2, rfl, hT, rfl, hx, hy⟩
          simp only at hx hy
          obtain ⟨tp, rfl, htp⟩ := refs_get hy
          cases hx
          obtain ⟨f, hf, htab, hwf⟩ := hTs.2 b tp htp
          have eT := Ext.upd (o := .tup [.int (b : Nat), .ref tp]) hT
          have bm : b < fs.length := (List.getElem?_eq_some_iff.mp hf).1
          have hasc := S.asc e wd (List.mem_of_getElem? hL)
          refine ⟨T', _, rfl, Or.inl (Or.inl upd_same), rfl, _, _, rfl, _, _, rfl, rfl, ?_⟩
          refine ⟨_, rfl, _, rfl, pa, tp, n, e, f, rfl, eT _ _ hpa, eT _ _ htab, hwf, hasc, sz.2, fun lt H5 hlt5 e5 hl5 => ?_⟩
          have e35 := Ext.trans eT e5
          have hstep : stepS n fs b e = some (img n f e) := by unfold stepS; rw [ltr_get hf]
          have S5 : SrSt H H5 d n fs L i b kvs := ⟨Ext.trans S.ex e35, S.bi, S.asc, S.bl, e35 _ _ S.hd, S.wd.ext e35⟩
          have hQ5 := e35 _ _ hQ
          have hTb5 := e35 _ _ hTb
          have hTs5 := hTs.ext e35
          have hpa5 := e35 _ _ hpa
          have hW5 : TupsAt H5 ws ((L.drop (i + 1)).map Prod.fst) := hW.tups fun a xs h => e35 _ _ h
          refine ⟨_, rfl, _, rfl, d, _, rfl, DGet.t (k := encS (img n f e)) S5.hd (by rw [encS_v]; exact hl5), _, rfl, ?_⟩
          by_cases hg : img n f e ∈ L.map Prod.fst
          · obtain ⟨wg, hwg⟩ := mem_fst.mp hg
            obtain ⟨j, hj⟩ := List.mem_iff_getElem?.mp hwg
            obtain ⟨ag, hv, _⟩ := S5.wd.some (fun a _ b _ z => encS_inj z) S5.bi.nd hj
            rw [hv]
            exact iteF ⟨L, kvs, ws, _, _, _, hle, hL, rfl, ⟨S5.ex, S5.bi.skip hL (fun y hy => by rw [hstep] at hy; cases hy; exact hg), S5.asc, S5.bl, S5.hd, S5.wd⟩, ⟨hTb5, hTs5⟩, hpa5, hQ5, hW5⟩
          · have hv := S5.wd.no (e := img n f e) (fun b hb z => hg (by rw [encS_inj z] at hb; exact hb))
            rw [hv]
            obtain ⟨ae, hve, hae⟩ := S5.wd.some (fun a _ b _ z => encS_inj z) S5.bi.nd hL
            have hde := DGet.t (k := encS e) S5.hd (by rw [encS_v]; exact hpa5)
            rw [hve] at hde
            have hwl := S5.bl i e wd hL
            have few5 := S5.few hn6
            have hkl : kvs.length = L.length := S5.wd.len
            refine iteT ⟨_, rfl, d, kvs, rfl, S5.hd, rfl, _, rfl, ?_⟩
            rw [show decide (V.int ((kvs.length : Nat) : Int) = V.int 2000) = false from decide_eq_false (fun z => by
              injection z with z
              omega)]
            refine iteF (iteF ?_)
            refine ⟨_, rfl, _, rfl, d, _, rfl, hde, ae, natsV wd, rfl, Or.inl (Or.inl (Or.inl hae)), _, rfl, ?_, fun a ha => ?_⟩
            · show (natsV wd ++ [V.int (b : Int)]).length ≤ sizeLine
              rw [List.length_append, List.length_map]
              exact Nat.le_of_lt (small300 (m := 100) (by simp; omega) (by decide))
            have eA := Ext.upd (o := .tup (natsV wd ++ [V.int (b : Int)])) ha
            have hl6 := eA _ _ hl5
            refine ⟨_, rfl, _, rfl, d, _, rfl, DPut.t (k := encS (img n f e)) (eA _ _ S5.hd) (by rw [encS_v]; exact hl6) (by rw [hkl]; exact small300 (m := 64) few5 (by decide)), ?_⟩
            rw [putK_new _ hv]
            have nda : d ≠ a := ne_of_none S5.hd ha
            generalize hH6 : upd (upd H5 a (.tup (natsV wd ++ [V.int (b : Int)]))) d (.dT (kvs ++ [(encS (img n f e), V.ref a)])) = H6
            have hd6 : H6 d = some (.dT (kvs ++ [(encS (img n f e), V.ref a)])) := by rw [← hH6, upd_same]
            have oth6 : ∀ c o, (upd H5 a (.tup (natsV wd ++ [V.int (b : Int)]))) c = some o → c ≠ d → H6 c = some o := fun c o hc hcd => by rw [← hH6, upd_ne hcd]; exact hc
            have hQ6 : H6 q = some (.lst (refs ws)) := oth6 q _ (eA _ _ hQ5) ndq.symm
            have hl7 := oth6 lt _ hl6 (ne_of hl6 (eA _ _ S5.hd) (by intro z; cases z))
            have ex6 : Ext H H6 := by rw [← hH6]; exact Ext.mut (Ext.trans S5.ex eA) hd0
            refine ⟨_, rfl, Or.inl ⟨rfl, _, Or.inl (Or.inl hQ6)⟩, _, rfl, q, _, _, rfl, rfl, hQ6, ?_, ?_⟩
            · rw [List.length_map, hW5.1, List.length_map, List.length_drop]
              exact small300 (m := 64) (by omega) (by decide)
            have hl8 : (upd H6 q (.lst (refs ws ++ [.ref lt]))) lt = some (.tup (natsV (img n f e))) := keepT hQ6 _ _ hl7
            have tup8 : ∀ c xs, H5 c = some (.tup xs) → (upd H6 q (.lst (refs ws ++ [.ref lt]))) c = some (.tup xs) := fun c xs hc => keepT hQ6 _ _ (oth6 c _ (eA _ _ hc) (ne_of (eA _ _ hc) (eA _ _ S5.hd) (by intro z; cases z)))
            have S8 : SrSt H (upd H6 q (.lst (refs ws ++ [.ref lt]))) d n fs (L ++ [(img n f e, wd ++ [b])]) i (b + 1) (kvs ++ [(encS (img n f e), V.ref a)]) := by
              refine ⟨Ext.mut ex6 hq0, S5.bi.add hL bm hstep hg, ?_, ?_, by rw [upd_ne ndq]; exact hd6, ?_⟩
              · intro e' w' hm
                rcases mem_snoc_pair hm with z | ⟨rfl, _⟩
                · exact S5.asc e' w' z
                · exact asc_img n f e
              · intro j e' w' hm
                rcases get_snoc_pair hm with z | ⟨rfl, _, rfl⟩
                · exact S5.bl j e' w' z
                · rw [List.length_append]
                  simp
                  omega
              · refine Wd.snoc (S5.wd.tups tup8) ?_
                have naq : a ≠ q := fun z => by rw [z, hQ5] at ha; cases ha
                have h6a : H6 a = some (.tup (natsV wd ++ [V.int (b : Int)])) := oth6 a _ upd_same nda.symm
                rw [upd_ne naq, h6a]
                simp
            have tab8 : (upd H6 q (.lst (refs ws ++ [.ref lt]))) tb = some (.lst (refs ts)) ∧ TabsAt (upd H6 q (.lst (refs ws ++ [.ref lt]))) n ts fs := by
              have z1 : H6 tb = some (.lst (refs ts)) := oth6 tb _ (eA _ _ hTb5) (ne_of (eA _ _ hTb5) (eA _ _ S5.hd) (by intro z; cases z))
              refine ⟨by rw [upd_ne ntq]; exact z1, keepD hQ6 ⟨hTs5.1, fun j t hj => ?_⟩⟩
              obtain ⟨f', y1, y2, y3⟩ := hTs5.2 j t hj
              exact ⟨f', y1, oth6 t _ (eA _ _ y2) (ne_of (eA _ _ y2) (eA _ _ S5.hd) (by intro z; cases z)), y3⟩
            refine ⟨_, rfl, by decide, fun em hem => ?_⟩
            have eE := Ext.upd (o := .tup []) hem
            refine ⟨_, _, .tup (Or.inl (Or.inl (eE _ _ hl8))) (dp_nats K _ (img n f e)), .tup (Or.inl (Or.inl upd_same)) (dp_nats K _ []), shaped_tup _, shaped_tup _, _, rfl, ?_⟩
            rw [eqv_tup]
            have S9 : SrSt H (upd (upd H6 q (.lst (refs ws ++ [.ref lt]))) em (.tup [])) d n fs (L ++ [(img n f e, wd ++ [b])]) i (b + 1) (kvs ++ [(encS (img n f e), V.ref a)]) := ⟨Ext.trans S8.ex eE, S8.bi, S8.asc, S8.bl, eE _ _ S8.hd, S8.wd.ext eE⟩
            by_cases hz : img n f e = []
            · rw [decide_eq_true hz]
              refine iteT ⟨_, rfl, ?_⟩
              refine k d _ _ _ i (b + 1) hd0 S9 (Or.inl ?_)
              rw [List.map_append, List.mem_append]
              exact Or.inr (List.mem_singleton.mpr hz.symm)
            · rw [decide_eq_false hz]
              refine iteF ⟨L ++ [(img n f e, wd ++ [b])], kvs ++ [(encS (img n f e), V.ref a)], ws ++ [lt], _, _, _, by rw [List.length_append]; omega, ?_, rfl, S9, ⟨eE _ _ tab8.1, tab8.2.ext eE⟩, eE _ _ (tup8 _ _ hpa5), ?_, ?_⟩
              · rw [List.getElem?_append_left (by omega)]
                exact hL
              · rw [eE _ _ upd_same]
                simp
              · rw [drop_snoc hle, List.map_append]
                exact TupsAt.snoc (hW5.tups fun c xs hc => eE _ _ (tup8 c xs hc)) (eE _ _ hl8)
        · rintro σ H3 ⟨L, kvs, ws, v6, v7, v8, hle, hL, rfl, S, hTT, hpa, hQ, hW⟩
          have hm : (refs ts).length = fs.length := by rw [List.length_map, hts.1]
          rw [hm] at S
          exact ⟨L, i + 1, kvs, ws, _, _, _, _, rfl, hle, rfl, ⟨S.ex, S.bi.next hL, S.asc, S.bl, S.hd, S.wd⟩, hTT, hQ, hW⟩
end
end CM
-- part D14
set_option Elab.async false
set_option linter.all false
set_option maxRecDepth 100000
set_option maxHeartbeats 4000000
/-! ### losing_word, holding_sets, is_set -/
namespace CM
open PySem PySem.Spec PyProof.Rows L2 StX
def rLstC (K : PySem.W.Frag) : List V → Hp → VK → Prop := fun xs H Q => ∃ (p : Addr) (ys : List V), xs = [V.ref p] ∧ (SqL K H p ys ∨ SqT K H p ys) ∧ ∀ l, H l = none → Q (.ref l) (upd H l (.lst ys))
/-- lists of sets, or none -/
def OptL (H : Hp) (v : V) (o : Option (List (List Nat))) : Prop := (o = none ∧ v = .non) ∨ ∃ Ps r as, o = some Ps ∧ v = .ref r ∧ H r = some (.lst (refs as)) ∧ LLAt H as Ps ∧ Ps.length ≤ 64 ∧ Ps.Nodup
theorem all_true : ∀ m : Nat, ((List.replicate m true).all id) = true
  | 0 => rfl
  | m + 1 => by rw [List.replicate_succ, List.all_cons, all_true m]; rfl
theorem rep_snoc (m : Nat) : (List.replicate m true).map V.bl ++ [V.bl true] = (List.replicate (m + 1) true).map V.bl := by
  rw [List.replicate_succ', List.map_append]
  rfl
section
variable {P : Program} {w : World} {K : PySem.W.Frag} {mg : Str → Option Value} {base : Heap}
def spLosing (K : PySem.W.Frag) : Sp := fun vs H Q _ => ∃ p n fs, vs = [.ref p] ∧ FamAt K H p n fs ∧ n ≤ 6 ∧ ∀ v o H', Ext H H' → OptW H' v o → LoseOut n fs o → Q v H'
theorem sc_losing : FnScope ["family"] ["family"] (defScope (top 50)) := ⟨rfl, rfl, rfl, by decide +kernel, rfl, by decide +kernel, by decide +kernel⟩
theorem ok_losing (T : Txt K mg) : Fn P w K mg base 6 (He.ga K "losing_word") (spLosing K) := by
  refine fn_by T.d_losing_word sc_losing (fun _ _ _ _ _ _ us hl => match us, hl with | [_], _ => rfl) (fun vs H Q E h => ?_) (fun cdv A outer s H vs Q E hr h => ?_)
  · obtain ⟨p, n, fs, rfl, _⟩ := h
    rfl
  · obtain ⟨p, n, fs, rfl, F, hn6, k⟩ := h
    have hu := hu_of hr
    refine ⟨_, pss_cons (ps_expr (pe_fn (ok_chkfam T) (hr.mono (by decide)) (by rfl) T.g_check_family T.d_check_family.kp (pa_cons (pv 0) pa_nil)))
      (pss_one (ps_ret (pe_dget1 hu (pe_fn (ok_srch T) hr (by rfl) T.g_searched T.d_searched.kp (pa_cons (pv 0) pa_nil)) (pe_tup pa_nil) ⟨rfl, rfl, rfl, rfl⟩))), ?_⟩
    refine ⟨_, rfl, p, n, fs, rfl, F, ?_⟩
    refine ⟨_, rfl, p, n, fs, rfl, F, hn6, fun d H1 kvs L i a hd S hE => ?_⟩
    refine ⟨d, rfl, Or.inr ⟨_, Or.inl S.hd⟩, by decide, fun e he => ?_⟩
    have eE := Ext.upd (o := .tup []) he
    refine ⟨_, DGet.t (k := encS []) (eE _ _ S.hd) upd_same, ?_⟩
    have e1 := Ext.trans S.ex eE
    obtain ⟨p1, p2⟩ := srch_lose F.wfs ⟨i, a, S.bi, hE⟩
    by_cases hm : [] ∈ L.map Prod.fst
    · obtain ⟨w, hw⟩ := mem_fst.mp hm
      obtain ⟨j, hj⟩ := List.mem_iff_getElem?.mp hw
      obtain ⟨ag, hv, ha⟩ := S.wd.some (fun a _ b _ z => encS_inj z) S.bi.nd hj
      rw [hv]
      exact k _ (some w) _ e1 (Or.inr ⟨w, ag, rfl, rfl, eE _ _ ha⟩) (p1 w hw)
    · rw [S.wd.no (e := []) (fun b hb z => hm (by rw [encS_inj z] at hb; exact hb))]
      exact k _ none _ e1 (Or.inl ⟨rfl, rfl⟩) (p2 hm)
def spHolds (K : PySem.W.Frag) : Sp := fun vs H Q _ => ∃ p n fs, vs = [.ref p] ∧ FamAt K H p n fs ∧ n ≤ 6 ∧ ∀ v o H', Ext H H' → OptL H' v o → HoldOut n fs o → Q v H'
theorem sc_holds : FnScope ["family", "words", "places"] ["family"] (defScope (top 51)) := ⟨rfl, rfl, rfl, by decide +kernel, rfl, by decide +kernel, by decide +kernel⟩
theorem ok_holds (T : Txt K mg) : Fn P w K mg base 6 (He.ga K "holding_sets") (spHolds K) := by
  refine fn_by T.d_holding_sets sc_holds (fun _ _ _ _ _ _ us hl => match us, hl with | [_], _ => rfl) (fun vs H Q E h => ?_) (fun cdv A outer s H vs Q E hr h => ?_)
  · obtain ⟨p, n, fs, rfl, _⟩ := h
    rfl
  · obtain ⟨p, n, fs, rfl, F, hn6, k⟩ := h
    have hu := hu_of hr
    refine ⟨_, pss_cons (ps_expr (pe_fn (ok_chkfam T) (hr.mono (by decide)) (by rfl) T.g_check_family T.d_check_family.kp (pa_cons (pv 0) pa_nil)))
      (pss_cons (ps_set (i := 1) sc_holds.nd rfl (Or.inl rfl) (pe_fn (ok_srch T) hr (by rfl) T.g_searched T.d_searched.kp (pa_cons (pv 0) pa_nil)))
      (pss_one (ps_ret (pe_ifExp (pt_cmp (pc_din hu (pe_tup pa_nil) (pv 1))) pe_non (pe_lock (pe_lc (own := [("places", 2)]) (g := gName 2) (tt := tYes) rfl sc_holds.nd (pi_keys (pv 1)) (blkOk_by (own := [("places", 2)]) (N := ["family", "words", "places"]) (sc := defScope (top 51)) (by decide +kernel))
        (fun _ _ _ _ _ => pg_name (i := 2) sc_holds.nd rfl (Or.inl rfl)) (fun _ _ _ _ _ => pts_nil) (fun _ _ _ _ _ => pe_callTy (T := "list") (r := rLstC K) call_list_of (by rfl) T.u_list (by decide +kernel) (pa_cons (pv 2) pa_nil)) (fun _ => rfl))))))), ?_⟩
    refine ⟨_, rfl, p, n, fs, rfl, F, ?_⟩
    refine ⟨_, rfl, p, n, fs, rfl, F, hn6, fun d H1 kvs L i a hd S hE => ?_⟩
    refine ⟨by decide, fun e he => ?_⟩
    have eE := Ext.upd (o := .tup []) he
    refine ⟨_, rfl, d, _, rfl, DGet.t (k := encS []) (eE _ _ S.hd) upd_same, _, rfl, ?_⟩
    have e1 := Ext.trans S.ex eE
    obtain ⟨p1, p2⟩ := srch_hold F.wfs ⟨i, a, S.bi, hE⟩
    by_cases hm : [] ∈ L.map Prod.fst
    · obtain ⟨w, hw⟩ := mem_fst.mp hm
      obtain ⟨j, hj⟩ := List.mem_iff_getElem?.mp hw
      obtain ⟨ag, hv, ha⟩ := S.wd.some (fun a _ b _ z => encS_inj z) S.bi.nd hj
      rw [hv]
      exact iteT (k _ none _ e1 (Or.inl ⟨rfl, rfl⟩) (p1 hm))
    · rw [S.wd.no (e := []) (fun b hb z => hm (by rw [encS_inj z] at hb; exact hb))]
      have hd1 := eE _ _ S.hd
      refine iteF ⟨d, _, hd1, trivial, fun od => ?_⟩
      have few := S.few hn6
      refine ⟨_, rfl, d, od, rfl, Or.inr ⟨kvs, upd_same, fun D hD => ?_⟩⟩
      have nDd : D ≠ d := fun z => by rw [z, upd_same] at hD; cases hD
      refine lc_it walk_keysT (fun i H2 => Ext (upd (upd H1 e (.tup [])) d (.frz od (.dT kvs))) H2 ∧ ∃ as, H2 D = some (.lst (refs as)) ∧ D ∉ as ∧ LLAt H2 as ((L.map Prod.fst).take i)) ⟨Ext.upd hD, [], upd_same, by simp, rfl, fun i a h => by simp at h⟩ (fun i H2 _ ⟨e2, _⟩ => e2 _ _ upd_same) ?_ ?_
      · rintro j x H2 H3 hj ⟨e2, as, hDl, hnD, hLL⟩ ⟨rfl, key, v, qa, hkv, rfl, hqa⟩
        have hjl : j < L.length := by rw [← S.wd.len]; exact hj
        obtain ⟨a', hka, _⟩ := S.wd.get j _ _ (List.getElem?_eq_getElem hjl)
        rw [hka] at hkv
        cases hkv
        refine ⟨rfl, yesT ⟨_, rfl, qa, _, rfl, Or.inr (Or.inl (Or.inl hqa)), fun r hr => ?_⟩⟩
        have nrD : r ≠ D := fun z => by rw [z, hDl] at hr; cases hr
        have eR := Ext.upd (o := .lst ((encS (L[j]).1).map kV)) hr
        refine ⟨refs as, eR _ _ hDl, ?_, Ext.mut (Ext.trans e2 eR) hD, as ++ [r], by rw [upd_same]; simp, ?_, ?_⟩
        · rw [List.length_map, hLL.1, List.length_take, List.length_map]
          exact small300 (m := 64) (by omega) (by decide)
        · intro z
          rcases List.mem_append.mp z with z | z
          · exact hnD z
          · exact nrD (List.mem_singleton.mp z).symm
        · have hget : (L.map Prod.fst)[j]? = some (L[j]).1 := by rw [List.getElem?_map, List.getElem?_eq_getElem hjl]; rfl
          rw [take_succ hget]
          refine LLAt.snoc ((hLL.ext eR).on fun b u hb hu' => ?_) ?_
          · rw [upd_ne (fun z => hnD (by rw [← z]; exact hb))]
            exact hu'
          · rw [upd_ne nrD, upd_same]
            exact congrArg (fun z => some (HO.lst z)) (encS_v _)
      · rintro H2 ⟨e2, as, hDl, hnD, hLL⟩
        refine ⟨e2 _ _ upd_same, ?_⟩
        have el : kvs.length = (L.map Prod.fst).length := by rw [S.wd.len, List.length_map]
        rw [el, List.take_length] at hLL
        have e3 := Ext.unlock e2 hd1
        refine k _ (some (L.map Prod.fst)) _ (Ext.trans e1 e3) (Or.inr ⟨_, D, as, rfl, rfl, by rw [upd_ne nDd]; exact hDl, ⟨hLL.1, fun j b hb => ?_⟩, by rw [List.length_map]; exact few, S.bi.nd⟩) (p2 hm)
        obtain ⟨o, z1, z2⟩ := hLL.2 j b hb
        exact ⟨o, z1, by rw [upd_ne (ne_of z2 (e2 _ _ upd_same) (by intro z; cases z))]; exact z2⟩
/-! is_set -/
def spIsSet : Sp := fun vs H Q _ => ∃ a n S, vs = [.ref a, .int (n : Nat)] ∧ H a = some (.lst (natsV S)) ∧ Asc n S ∧ S ≠ [] ∧ n ≤ 300 ∧ ∀ H', Ext H H' → Q (.bl true) H'
theorem sc_isset : FnScope ["value", "size", "place", "one", "other"] ["value", "size"] (defScope (top 52)) := ⟨rfl, rfl, rfl, by decide +kernel, rfl, by decide +kernel, by decide +kernel⟩
theorem ok_isset (T : Txt K mg) : Fn P w K mg base 3 (He.ga K "is_set") spIsSet := by
  refine fn_by T.d_is_set sc_isset (fun _ _ _ _ _ _ us hl => match us, hl with | [_, _], _ => rfl) (fun vs H Q E h => ?_) (fun cdv A outer s H vs Q E hr h => ?_)
  · obtain ⟨a, n, S, rfl, _⟩ := h
    rfl
  · obtain ⟨a, n, S, rfl, ha, hS, hne, hn, k⟩ := h
    have hu := hu_of hr
    have hu64 : (A.deeper (envOfC "is_set" (defScope (top 52)) s.heap.objs.size (He.ga K "is_set") cdv)).units + 64 < cLine := by
      have := hr.un
      omega
    refine ⟨_, pss_cons (ps_if (PW.pt (pw_or (pt_not (pt_val (pe_callB call_isi (by rfl) T.u_isinstance (by decide +kernel) (pa_cons (pv 0) (pa_cons (pe_bltn (v := .ty "list") (by rfl) T.u_list (by decide +kernel) rfl) pa_nil))))) (pw_or1 (pt_cmpR (op_eqD hu64) (pv 0) (pe_lst pa_nil) (nomark _))))) (pss_never (X := _)) pss_nil)
      (pss_cons (ps_if (pt_not (pt_val (pe_callB (cr_all rfl) (by rfl) T.u_all (by decide +kernel) (pa_cons
        (pe_lc (own := [("place", 2)]) (g := gName 2) (tt := tYes) rfl sc_isset.nd (pi_list (pv 0)) (blkOk_by (own := [("place", 2)]) (N := ["value", "size", "place", "one", "other"]) (sc := defScope (top 52)) (by decide +kernel))
          (fun _ _ _ _ _ => pg_name (i := 2) sc_isset.nd rfl (Or.inl rfl)) (fun _ _ _ _ _ => pts_nil) (fun _ _ _ _ _ => pe_fn (ok_inrange T) hr (by rfl) T.g_in_range T.d_in_range.kp (pa_cons (pv 2) (pa_cons pe_int (pa_cons (pe_op op_sub (pv 1) pe_int) pa_nil)))) (fun _ => rfl)) pa_nil)))) (pss_never (X := _)) pss_nil)
      (pss_one (ps_ret (pe_callB (cr_all rfl) (by rfl) T.u_all (by decide +kernel) (pa_cons
        (pe_lc (own := [("one", 3), ("other", 4)]) (g := gTup K 2 (gCons (gName 3) (gCons (gName 4) gNil))) (tt := tYes) rfl sc_isset.nd (pi_zip (by rfl) T.u_zip (pa_cons (pv 0) (pa_cons (pe_slice sl_list (pv 0) (po_some pe_int) po_none) pa_nil))) (blkOk_by (own := [("one", 3), ("other", 4)]) (N := ["value", "size", "place", "one", "other"]) (sc := defScope (top 52)) (by decide +kernel))
          (fun _ _ _ _ _ => pg_tup rfl (pgs_cons (pg_name (i := 3) sc_isset.nd rfl (Or.inl rfl)) (pgs_cons (pg_name (i := 4) sc_isset.nd rfl (Or.inl rfl)) pgs_nil))) (fun _ _ _ _ _ => pts_nil) (fun _ _ _ _ _ => pe_cmpR op_lt (pv 3) (pv 4) (nomark _)) (fun _ => rfl)) pa_nil))))), ?_⟩
    have hl := hS.len
    refine ⟨_, rfl, .ref a, .ty "list", _, _, true, rfl, .ty _, .base (.lst ha), kit_ty (by decide +kernel), _, rfl, iteF ?_⟩
    refine ⟨_, rfl, by decide, fun e he => ?_⟩
    have eE := Ext.upd (o := .lst []) he
    refine ⟨_, _, .lst (Or.inl (Or.inl (eE _ _ ha))) (dp_nats K _ S), .lst (Or.inl (Or.inl upd_same)) (dp_nats K _ []), shaped_lst _, shaped_lst _, _, rfl, ?_⟩
    rw [eqv_lst, decide_eq_false hne]
    refine iteF ?_
    have sq : SqL K (upd H e (.lst [])) a (natsV S) := Or.inl (Or.inl (eE _ _ ha))
    refine ⟨_, rfl, a, rfl, ⟨_, sq⟩, fun D hD => ?_⟩
    refine lc_it (walk_list (xs := natsV S)) (fun i H2 => Ext (upd H e (.lst [])) H2 ∧ H2 D = some (.lst ((List.replicate i true).map V.bl))) ⟨Ext.upd hD, upd_same⟩ (fun i H2 _ ⟨e2, _⟩ => sq.ext e2) ?_ ?_
    · rintro i x H2 H3 hi ⟨e2, h2⟩ ⟨rfl, hx⟩
      obtain ⟨b, rfl, hb⟩ := natsV_get hx
      have hbn := hS.lt b (List.mem_of_getElem? hb)
      have hil : i < S.length := (List.getElem?_eq_some_iff.mp hb).1
      refine ⟨rfl, yesT ⟨_, rfl, _, rfl, n, 1, rfl, rfl, b, 0, _, rfl, ?_⟩⟩
      rw [show decide ((0 : Int) ≤ (b : Int) ∧ (b : Int) ≤ (n : Int) - 1) = true from decide_eq_true ⟨by omega, by omega⟩]
      refine ⟨_, h2, ?_, Ext.mut e2 hD, by rw [upd_same, rep_snoc]⟩
      rw [List.length_map, List.length_replicate]
      exact small300 (m := n) (by omega) hn
    · rintro H2 ⟨e2, h2⟩
      refine ⟨D, _, rfl, Or.inl (Or.inl h2), _, rfl, ?_⟩
      rw [all_true]
      refine iteF ?_
      have e02 := Ext.trans eE e2
      have ha2 := e02 _ _ ha
      refine ⟨_, rfl, _, rfl, _, rfl, a, _, rfl, Or.inl (Or.inl ha2), fun z hz => ?_⟩
      have eZ := Ext.upd (o := .lst (cutV (natsV S) (some 1) none)) hz
      have ec : cutV (natsV S) (some 1) none = natsV (S.drop 1) := by
        have hl1 : (natsV S).length = S.length := List.length_map ..
        have hpos : 1 ≤ S.length := by
          rcases S with _ | ⟨a, S⟩
          · exact absurd rfl hne
          · exact Nat.le_add_left 1 _
        unfold cutV
        have e1 : HT.sIx (natsV S).length 0 (some 1) = 1 := by
          have := HT.sIx_nat (natsV S).length 0 1
          rw [show ((1 : Nat) : Int) = 1 from rfl] at this
          rw [this, hl1]
          omega
        rw [e1, HT.sIx_none, hl1, ← List.map_drop, List.take_of_length_le (by rw [List.length_map, List.length_drop]; exact Nat.le_refl _)]
      rw [ec]
      have sq1 : SqL K (upd H2 z (.lst (natsV (S.drop 1)))) a (natsV S) := Or.inl (Or.inl ((Ext.upd hz) _ _ ha2))
      have sq2 : SqL K (upd H2 z (.lst (natsV (S.drop 1)))) z (natsV (S.drop 1)) := Or.inl (Or.inl upd_same)
      have eZ := Ext.upd (o := .lst (natsV (S.drop 1))) hz
      refine ⟨a, z, natsV S, natsV (S.drop 1), rfl, sq1, sq2, fun D2 hD2 => ?_⟩
      refine lc_it (walk_zip rfl) (fun i H3 => Ext (upd H2 z (.lst (natsV (S.drop 1)))) H3 ∧ H3 D2 = some (.lst ((List.replicate i true).map V.bl))) ⟨Ext.upd hD2, upd_same⟩ (fun i H3 _ ⟨e3, _⟩ => ⟨sq1.ext e3, sq2.ext e3⟩) ?_ ?_
      · rintro i x H3 H4 hi ⟨e3, h3⟩ ⟨T', y1, y2, rfl, hT, rfl, hx, hy⟩
        obtain ⟨b, rfl, hb⟩ := natsV_get hx
        obtain ⟨c, rfl, hc⟩ := natsV_get hy
        rw [List.getElem?_drop] at hc
        have hbc : b < c := by
          have h1 := (List.getElem?_eq_some_iff.mp hb).2
          have h2 := (List.getElem?_eq_some_iff.mp hc).2
          have := List.pairwise_iff_getElem.mp hS.asc i (1 + i) (List.getElem?_eq_some_iff.mp hb).1 (List.getElem?_eq_some_iff.mp hc).1 (by omega)
          rw [h1, h2] at this
          exact this
        have hil : i < S.length := (List.getElem?_eq_some_iff.mp hb).1
        have nDT : D2 ≠ T' := ne_of_none h3 hT
        refine ⟨T', _, rfl, Or.inl (Or.inl upd_same), rfl, _, _, rfl, _, _, rfl, rfl, rfl, yesT ⟨_, rfl, _, rfl, b, c, rfl, rfl, ?_⟩⟩
        have hlt : decide ((b : Int) < (c : Int)) = true := decide_eq_true (by omega)
        have eT := Ext.upd' (o := .tup [V.int (b : Int), V.int (c : Int)]) e3 hT
        refine ⟨_, by rw [upd_ne nDT]; exact h3, ?_, Ext.mut eT hD2, by
          rw [upd_same]
          show some (HO.lst (_ ++ [V.bl (decide ((b : Int) < (c : Int)))])) = _
          rw [hlt, rep_snoc]⟩
        rw [List.length_map, List.length_replicate]
        exact small300 (m := n) (by omega) hn
      · rintro H3 ⟨e3, h3⟩
        refine ⟨D2, _, rfl, Or.inl (Or.inl h3), ?_⟩
        rw [all_true]
        exact k _ (Ext.trans e02 (Ext.trans eZ e3))
end
end CM
-- part D15
set_option Elab.async false
set_option linter.all false
set_option maxRecDepth 100000
set_option maxHeartbeats 4000000
/-! ### the law's own small defs -/
namespace CM
open PySem PySem.Spec PyProof.Rows L2 StX
/-- all stands but what is at p -/
def Exb (p : Addr) (H H' : Hp) : Prop := ∀ b o, H b = some o → b ≠ p → H' b = some o
/-- the pool -/
def PoolAt (H : Hp) (p : Addr) : Prop := ∃ a b : Int, 0 ≤ a ∧ 0 ≤ b ∧ b < 4294967296 ∧ H p = some (.lst [.int a, .int b])
theorem Exb.refl (p : Addr) (H : Hp) : Exb p H H := fun _ _ h _ => h
theorem Exb.trans {p : Addr} {H H1 H2 : Hp} (a : Exb p H H1) (b : Exb p H1 H2) : Exb p H H2 := fun c o h n => b c o (a c o h n) n
theorem Ext.exb {p : Addr} {H H' : Hp} (e : Ext H H') : Exb p H H' := fun b o h _ => e b o h
theorem Exb.upd (p : Addr) (H : Hp) (o : HO) : Exb p H (L2.upd H p o) := fun b u h n => by rw [upd_ne n]; exact h
theorem MapAt.exb {C p q : Addr} {H H' : Hp} {n : Nat} {f : PF} {xs : List V} (h : MapAt C H q n f) (hp : H p = some (.lst xs)) (e : Exb p H H') : MapAt C H' q n f := by
  obtain ⟨⟨dx, d, h1, h2⟩, h3, h4, h5⟩ := h
  exact ⟨⟨dx, d, e _ _ h1 (ne_of h1 hp (by intro z; cases z)), e _ _ h2 (ne_of h2 hp (by intro z; cases z))⟩, h3, h4, h5⟩
theorem MapsAt.exb {K : PySem.W.Frag} {p : Addr} {H H' : Hp} {n : Nat} {ps : List Addr} {fs : List PF} {xs : List V} (h : MapsAt K H n ps fs) (hp : H p = some (.lst xs)) (e : Exb p H H') : MapsAt K H' n ps fs := ⟨h.1, fun i q hi => by
  obtain ⟨f, h1, h2⟩ := h.2 i q hi
  exact ⟨f, h1, h2.exb hp e⟩⟩
theorem FamAt.exb {K : PySem.W.Frag} {p q : Addr} {H H' : Hp} {n : Nat} {fs : List PF} {xs : List V} (h : FamAt K H q n fs) (hp : H p = some (.lst xs)) (e : Exb p H H') : FamAt K H' q n fs := by
  obtain ⟨⟨dx, t, ps, h1, h2, h3⟩, h4, h5⟩ := h
  exact ⟨⟨dx, t, ps, e _ _ h1 (ne_of h1 hp (by intro z; cases z)), e _ _ h2 (ne_of h2 hp (by intro z; cases z)), h3.exb hp e⟩, h4, h5⟩
section
variable {P : Program} {w : World} {K : PySem.W.Frag} {mg : Str → Option Value} {base : Heap}
/-! _law_hand -/
def spHand (K : PySem.W.Frag) : Sp := fun vs H Q _ => ∃ (sc : Addr) (k : Nat) (xs : List Int), vs = [.ref sc, .int k] ∧ SqL K H sc (xs.map V.int) ∧ k ≤ 10 ∧ xs.length ≤ 100 ∧ ∀ p H', H p = Option.none → Ext H H' → PoolAt H' p → Q (.ref p) H'
theorem sc_hand : FnScope ["_law_script", "_law_k", "_law_cell", "_law_seed"] ["_law_script", "_law_k"] (defScope (top 55)) := ⟨rfl, rfl, rfl, by decide +kernel, rfl, by decide +kernel, by decide +kernel⟩
theorem cut_ints (xs : List Int) (lo hi : Option Int) : cutV (xs.map V.int) lo hi = (((xs.drop (HT.sIx xs.length 0 lo)).take (HT.sIx xs.length xs.length hi - HT.sIx xs.length 0 lo))).map V.int := by
  unfold cutV
  rw [List.length_map, List.map_take, List.map_drop]
theorem ok_hand (T : Txt K mg) : Fn P w K mg base 1 (He.ga K "_law_hand") (spHand K) := by
  refine fn_by T.d__law_hand sc_hand (fun _ _ _ _ _ _ us hl => match us, hl with | [_, _], _ => rfl) (fun vs H Q E h => ?_) (fun cdv A outer s H vs Q E hr h => ?_)
  · obtain ⟨sc, k, xs, rfl, _⟩ := h
    rfl
  · obtain ⟨sc, kk, xs, rfl, hs, hk, hx, k⟩ := h
    refine ⟨_, pss_cons (ps_set (i := 2) sc_hand.nd rfl (Or.inl rfl) (pe_ix ix_list (pe_op op_cat (pe_slice sl_list (pv 0) (po_some (pv 1)) (po_some (pe_op op_add (pv 1) pe_int))) (pe_lst (pa_cons pe_int pa_nil))) pe_int (fun _ _ => rfl)))
      (pss_cons (ps_set (i := 3) sc_hand.nd rfl (Or.inl rfl) (pe_op op_mod (pe_op op_mul (pe_op op_add (pe_op op_add (pe_op op_mod (pv 2) pe_int) (pe_op op_mul pe_int (pv 1))) pe_int) pe_int) pe_int))
      (pss_one (ps_ret (pe_lst (pa_cons (pe_op op_mul (pe_callTy call_int1 (by rfl) T.u_int (by decide +kernel) (pa_cons (pe_cmpR op_ge (pv 2) (pe_op op_pow pe_int pe_int) (nomark _)) pa_nil)) (pv 2)) (pa_cons (pv 3) pa_nil)))))), ?_⟩
    refine ⟨_, rfl, _, rfl, kk, rfl, _, rfl, _, 1, rfl, rfl, _, rfl, sc, _, rfl, hs, fun a ha => ?_⟩
    rw [cut_ints]
    generalize hys : ((xs.drop (HT.sIx xs.length 0 (some (kk : Int)))).take (HT.sIx xs.length xs.length (some ((kk : Int) + 1)) - HT.sIx xs.length 0 (some (kk : Int)))) = ys
    have hyl : ys.length ≤ 100 := by
      rw [← hys]
      have h1 := List.length_take_le (HT.sIx xs.length xs.length (some ((kk : Int) + 1)) - HT.sIx xs.length 0 (some (kk : Int))) (xs.drop (HT.sIx xs.length 0 (some (kk : Int))))
      have h2 : (xs.drop (HT.sIx xs.length 0 (some (kk : Int)))).length ≤ xs.length := by rw [List.length_drop]; omega
      rw [List.length_take] at *
      omega
    have eA := Ext.upd (o := .lst (ys.map V.int)) ha
    refine ⟨(by show 1 ≤ sizeLine; decide), fun b hb => ?_⟩
    have nab : a ≠ b := fun z => by rw [← z, upd_same] at hb; cases hb
    have eB := Ext.upd (o := .lst [V.int 0]) hb
    refine ⟨a, b, ys.map V.int, [V.int 0], rfl, rfl, by rw [upd_ne nab, upd_same], upd_same, ?_, fun c hc => ?_⟩
    · rw [List.length_map]
      exact Nat.le_trans (by simp; omega : _ ≤ 101) (by decide)
    have eC := Ext.upd (o := .lst (ys.map V.int ++ [V.int 0])) hc
    obtain ⟨cell, hcell⟩ : ∃ cell : Int, (ys.map V.int ++ [V.int 0])[0]? = some (.int cell) := by
      cases ys with
      | nil => exact ⟨0, rfl⟩
      | cons y ys => exact ⟨y, rfl⟩
    refine ⟨c, _, 0, .int cell, rfl, rfl, Or.inl (Or.inl upd_same), atI_zero hcell, ?_⟩
    refine ⟨_, rfl, cell, 2147483647, rfl, rfl, by show (0 : Int) < 2147483647; decide, _, rfl, 7919, kk, rfl, rfl, Or.inl ⟨by decide, by decide⟩, _, _, rfl, rfl, _, 1, rfl, rfl, _, 48271, rfl, rfl, Or.inr ⟨by decide, by decide⟩, _, 2147483629, rfl, rfl, by show (0 : Int) < 2147483629; decide, ?_⟩
    refine ⟨_, rfl, 10, 18, rfl, rfl, ⟨by decide, by decide, by decide⟩, cell, _, rfl, rfl, ?_⟩
    refine Or.inr ⟨_, rfl, _, rfl, _, cell, rfl, rfl, Or.inl ?_, _, rfl, (by show 2 ≤ sizeLine; decide), fun p hp => ?_⟩
    · split <;> exact ⟨by decide, by decide⟩
    have e3 := Ext.trans eA (Ext.trans eB eC)
    refine k p _ (Ext.none e3 hp) (Ext.trans e3 (Ext.upd hp)) ⟨_, _, ?_, ?_, ?_, upd_same⟩
    · by_cases hz : (10 : Int) ^ 18 ≤ cell
      · have : decide ((10 : Int) ^ (18 : Int).toNat ≤ cell) = true := decide_eq_true hz
        rw [this]
        simp
        omega
      · have : decide ((10 : Int) ^ (18 : Int).toNat ≤ cell) = false := decide_eq_false hz
        rw [this]
        simp
    · exact Int.emod_nonneg _ (by decide)
    · have := Int.emod_lt_of_pos (((cell % 2147483647 + 7919 * (kk : Int) + 1) * 48271)) (show (0 : Int) < 2147483629 by decide)
      exact Int.lt_trans this (by decide)
/-! _law_draw -/
def spDraw : Sp := fun vs H Q _ => ∃ (p : Addr) (n : Nat), vs = [.ref p, .int n] ∧ PoolAt H p ∧ 1 ≤ n ∧ n ≤ 1000 ∧ ∀ (r : Nat) H', r < n → PoolAt H' p → Exb p H H' → (∀ b, H b = Option.none → H' b = Option.none) → Q (.int r) H'
theorem sc_draw : FnScope ["_law_pool", "_law_size_here", "_law_found"] ["_law_pool", "_law_size_here"] (defScope (top 56)) := ⟨rfl, rfl, rfl, by decide +kernel, rfl, by decide +kernel, by decide +kernel⟩
theorem mod_nat {a : Int} {n : Nat} (h : 1 ≤ n) : ∃ r : Nat, r < n ∧ a % (n : Int) = (r : Int) := by
  have h1 := Int.emod_nonneg a (show (n : Int) ≠ 0 by omega)
  have h2 := Int.emod_lt_of_pos a (show (0 : Int) < (n : Int) by omega)
  exact ⟨(a % (n : Int)).toNat, by omega, by omega⟩
theorem ok_draw (T : Txt K mg) : Fn P w K mg base 1 (He.ga K "_law_draw") spDraw := by
  refine fn_by T.d__law_draw sc_draw (fun _ _ _ _ _ _ us hl => match us, hl with | [_, _], _ => rfl) (fun vs H Q E h => ?_) (fun cdv A outer s H vs Q E hr h => ?_)
  · obtain ⟨p, n, rfl, _⟩ := h
    rfl
  · obtain ⟨p, n, rfl, ⟨a, b, ha, hb, hb2, hp⟩, hn1, hn2, k⟩ := h
    refine ⟨_, pss_cons (ps_if (pt_cmpR op_gt (pe_ix ix_list (pv 0) pe_int (fun _ _ => rfl)) pe_int (nomark _))
        (pss_cons (ps_set (i := 2) sc_draw.nd rfl (Or.inl rfl) (pe_op op_mod (pe_ix ix_list (pv 0) pe_int (fun _ _ => rfl)) (pv 1)))
        (pss_cons (ps_asg (pe_op op_fdiv (pe_ix ix_list (pv 0) pe_int (fun _ _ => rfl)) (pv 1)) (pg_sub (pv 0) pe_int set_list))
        (pss_one (ps_ret (pv 2))))) pss_nil)
      (pss_cons (ps_asg (pe_op op_mod (pe_op op_add (pe_op op_mul (pe_ix ix_list (pv 0) pe_int (fun _ _ => rfl)) pe_int) pe_int) pe_int) (pg_sub (pv 0) pe_int set_list))
      (pss_one (ps_ret (pe_op op_mod (pe_op op_fdiv (pe_op op_mod (pe_op op_mul (pe_ix ix_list (pv 0) pe_int (fun _ _ => rfl)) (pe_ix ix_list (pv 0) pe_int (fun _ _ => rfl))) pe_int) pe_int) (pv 1))))), ?_⟩
    have sq : SqL K H p [.int a, .int b] := Or.inl (Or.inl hp)
    have none_of : ∀ (o : HO) (b : Addr), H b = Option.none → (upd H p o) b = Option.none := fun o b h => by
      rw [upd_ne (fun z => by rw [z, hp] at h; cases h)]
      exact h
    have sq1 : ∀ (c d : Int), SqL K (upd H p (.lst [.int c, .int d])) p [.int c, .int d] := fun c d => Or.inl (Or.inl upd_same)
    refine ⟨_, rfl, p, _, 0, .int a, rfl, rfl, sq, rfl, a, 0, rfl, rfl, _, rfl, ?_⟩
    by_cases h0 : 0 < a
    · rw [decide_eq_true h0]
      obtain ⟨r, hr1, hr2⟩ := mod_nat (a := a) hn1
      refine iteT ⟨_, rfl, p, _, 0, .int a, rfl, rfl, sq, rfl, _, rfl, a, n, rfl, rfl, (by show (0 : Int) < n; omega), ?_⟩
      refine ⟨_, rfl, p, _, 0, .int a, rfl, rfl, sq, rfl, _, rfl, a, n, rfl, rfl, ⟨by omega, by omega⟩, ?_⟩
      refine ⟨_, rfl, p, _, 0, 0, rfl, rfl, hp, rfl, _, rfl, ?_⟩
      show Q (.int (a % (n : Int))) _
      rw [hr2]
      exact k r _ hr1 ⟨a / (n : Int), b, Int.ediv_nonneg ha (by omega), hb, hb2, upd_same⟩ (Exb.upd p H _) (none_of _)
    · rw [decide_eq_false h0]
      refine iteF ?_
      have hb3 : 0 ≤ (b * 48271 + 11) % 2147483647 := Int.emod_nonneg _ (by decide)
      have hb4 : (b * 48271 + 11) % 2147483647 < 2147483647 := Int.emod_lt_of_pos _ (by decide)
      refine ⟨_, rfl, p, _, 1, .int b, rfl, rfl, sq, rfl, b, 48271, rfl, rfl, Or.inl ⟨by omega, by omega⟩, _, 11, rfl, rfl, _, 2147483647, rfl, rfl, (by show (0 : Int) < 2147483647; decide), ?_⟩
      refine ⟨_, rfl, p, _, 1, 1, rfl, rfl, hp, rfl, ?_⟩
      obtain ⟨c, hc⟩ : ∃ c, (b * 48271 + 11) % 2147483647 = c := ⟨_, rfl⟩
      rw [hc] at hb3 hb4
      have sqc : SqL K (upd H p (.lst [.int a, .int ((b * 48271 + 11) % 2147483647)])) p [.int a, .int c] := by rw [hc]; exact Or.inl (Or.inl upd_same)
      obtain ⟨r, hr1, hr2⟩ := mod_nat (a := c * c % 2147483629 / 64) hn1
      refine ⟨_, rfl, p, _, 1, .int c, rfl, rfl, sqc, rfl, _, rfl, p, _, 1, .int c, rfl, rfl, sqc, rfl, c, c, rfl, rfl, Or.inl ⟨by omega, by omega⟩, _, 2147483629, rfl, rfl, (by show (0 : Int) < 2147483629; decide), _, 64, rfl, rfl, ⟨by decide, by decide⟩, _, rfl, _, n, rfl, rfl, (by show (0 : Int) < n; omega), ?_⟩
      show Q (.int (c * c % 2147483629 / 64 % (n : Int))) _
      rw [hr2]
      exact k r _ hr1 ⟨a, c, ha, hb3, by omega, by rw [← hc]; exact upd_same⟩ (Exb.upd p H _) (none_of _)
end
end CM
-- part D16
set_option Elab.async false
set_option linter.all false
set_option maxRecDepth 100000
set_option maxHeartbeats 4000000
/-! ### arrows, families, sizes of the law -/
namespace CM
open PySem PySem.Spec PyProof.Rows L2 StX
theorem seqN {r n : Nat} (h : r < n) : seqIndex? (r : Int) n = some r := by
  unfold seqIndex?
  have h1 : ¬ ((r : Int) < 0) := by omega
  simp [h1, h]
theorem pop_perm : ∀ {l : List Nat} {r y : Nat}, l[r]? = some y → (y :: l.eraseIdx r).Perm l
  | [], r, y, h => by simp at h
  | a :: l, 0, y, h => by
    cases h
    exact List.Perm.refl _
  | a :: l, r + 1, y, h => by
    have ih := pop_perm (l := l) (r := r) (y := y) (by simpa using h)
    exact (List.Perm.swap a y (l.eraseIdx r)).trans (ih.cons a)
structure ArrSt (n i : Nat) (l : List (Nat × Nat)) (Lf : List Nat) : Prop where
  asc : (l.map Prod.fst).Pairwise (· < ·)
  lo : ∀ p, p ∈ l → p.1 < i
  nd : (l.map Prod.snd ++ Lf).Nodup
  lt : ∀ x, x ∈ l.map Prod.snd ++ Lf → x < n
  len : l.length + Lf.length = n
  few : l.length ≤ i
theorem ArrSt.start (n : Nat) : ArrSt n 0 [] (List.range n) := ⟨List.Pairwise.nil, (fun p h => (nomatch h)), (by simpa using List.nodup_range), (fun x h => by simpa using h), (by simp), Nat.le_refl _⟩
theorem ArrSt.skip {n i : Nat} {l : List (Nat × Nat)} {Lf : List Nat} (h : ArrSt n i l Lf) : ArrSt n (i + 1) l Lf := ⟨h.asc, fun p hp => Nat.lt_succ_of_lt (h.lo p hp), h.nd, h.lt, h.len, Nat.le_succ_of_le h.few⟩
theorem ArrSt.add {n i r y : Nat} {l : List (Nat × Nat)} {Lf : List Nat} (h : ArrSt n i l Lf) (hy : Lf[r]? = some y) : ArrSt n (i + 1) (l ++ [(i, y)]) (Lf.eraseIdx r) := by
  obtain ⟨hr, ey⟩ := List.getElem?_eq_some_iff.mp hy
  have pm : ((l ++ [(i, y)]).map Prod.snd ++ Lf.eraseIdx r).Perm (l.map Prod.snd ++ Lf) := by
    have h1 := pop_perm hy
    have h2 := h1.append_left (l.map Prod.snd)
    simpa using h2
  refine ⟨?_, fun p hp => ?_, pm.nodup_iff.mpr h.nd, fun x hx => h.lt x (pm.mem_iff.mp hx), ?_, ?_⟩
  · rw [List.map_append, List.pairwise_append]
    refine ⟨h.asc, List.pairwise_singleton _ _, fun a ha b hb => ?_⟩
    obtain ⟨p, hp, rfl⟩ := List.mem_map.mp ha
    have := h.lo p hp
    simp at hb
    omega
  · rcases List.mem_append.mp hp with z | z
    · exact Nat.lt_succ_of_lt (h.lo p z)
    · rw [List.mem_singleton.mp z]
      exact Nat.lt_succ_self i
  · have := h.len
    rw [List.length_append, List.length_eraseIdx, if_pos hr]
    simp
    omega
  · rw [List.length_append]
    simp
    exact h.few
theorem ArrSt.good {n i : Nat} {l : List (Nat × Nat)} {Lf : List Nat} (h : ArrSt n i l Lf) (hi : i ≤ n) : Good n l := ⟨asc_nodup h.asc, (List.nodup_append.mp h.nd).1, fun p hp => ⟨Nat.lt_of_lt_of_le (h.lo p hp) hi, h.lt _ (List.mem_append_left _ (List.mem_map.mpr ⟨p, hp, rfl⟩))⟩⟩
theorem ArrSt.new {n i : Nat} {l : List (Nat × Nat)} {Lf : List Nat} (h : ArrSt n i l Lf) : valV (kvN l) (encE i) = none := by
  cases e : valV (kvN l) (encE i) with
  | none => rfl
  | some v =>
    have hm := valV_in e
    unfold kvN at hm
    rw [List.map_map] at hm
    obtain ⟨p, hp, ep⟩ := List.mem_map.mp hm
    have h1 : encE p.1 = encE i := ep
    have := h.lo p hp
    rw [encE_inj h1] at this
    omega
theorem natsV_erase (l : List Nat) (r : Nat) : (natsV l).eraseIdx r = natsV (l.eraseIdx r) := by
  apply List.ext_getElem?
  intro j
  simp only [List.getElem?_eraseIdx, List.getElem?_map]
  split <;> rfl
section
variable {P : Program} {w : World} {K : PySem.W.Frag} {mg : Str → Option Value} {base : Heap}
def spArrowsL : Sp := fun vs H Q _ => ∃ (p : Addr) (n : Nat), vs = [.ref p, .int n] ∧ PoolAt H p ∧ 1 ≤ n ∧ n ≤ 300 ∧ ∀ d l H', H d = Option.none → PoolAt H' p → Exb p H H' → H' d = some (.dK (kvN l)) → Good n l → Q (.ref d) H'
theorem sc_arrowsL : FnScope ["_law_pool", "_law_size_here", "_law_left", "_law_found", "_law_rare", "_law_source"] ["_law_pool", "_law_size_here"] (defScope (top 57)) := ⟨rfl, rfl, rfl, by decide +kernel, rfl, by decide +kernel, by decide +kernel⟩
theorem PoolAt.is {H : Hp} {p : Addr} (h : PoolAt H p) : ∃ xs, H p = some (.lst xs) := let ⟨_, _, _, _, _, e⟩ := h; ⟨_, e⟩
theorem PoolAt.ext {H H' : Hp} {p : Addr} (h : PoolAt H p) (e : Ext H H') : PoolAt H' p := let ⟨a, b, h1, h2, h3, h4⟩ := h; ⟨a, b, h1, h2, h3, e _ _ h4⟩
theorem ok_arrowsL (T : Txt K mg) : Fn P w K mg base 2 (He.ga K "_law_arrows") spArrowsL := by
  refine fn_by T.d__law_arrows sc_arrowsL (fun _ _ _ _ _ _ us hl => match us, hl with | [_, _], _ => rfl) (fun vs H Q E h => ?_) (fun cdv A outer s H vs Q E hr h => ?_)
  · obtain ⟨p, n, rfl, _⟩ := h
    rfl
  · obtain ⟨p, n, rfl, hp, hn1, hn2, k⟩ := h
    have hu := hu_of hr
    refine ⟨_, pss_cons (ps_par3 (i := 2) (j := 3) (l := 4) rfl sc_arrowsL.nd rfl rfl rfl (by decide) (by decide) (by decide) rfl rfl rfl (pa_cons (pe_listRg rfl (by rfl) T.u_list (prg_1 (by rfl) T.u_range (pv 1))) (pa_cons pe_dnewK (pa_cons (pe_op op_add pe_int (pe_fn (ok_draw T) hr (by rfl) T.g__law_draw T.d__law_draw.kp (pa_cons (pv 0) (pa_cons pe_int pa_nil)))) pa_nil))) rfl)
      (pss_cons (ps_for PassesOwn.never rfl (pi_range1 rfl T.u_range (pa_cons (pv 1) pa_nil)) (pg_name (i := 5) sc_arrowsL.nd rfl (Or.inl rfl))
        (pss_one (ps_if (PW.pt (pw_or (pt_cmpR op_gt (pe_fn (ok_draw T) hr (by rfl) T.g__law_draw T.d__law_draw.kp (pa_cons (pv 0) (pa_cons (pv 4) pa_nil))) pe_int (nomark _)) (pw_or1 (pt_cmpR op_eq (pv 4) pe_int (nomark _)))))
          (pss_one (ps_dput hu (pv 3) (pv 5) (pe_bm PySem.F.plainAttrs_list PySem.F.slot_list_pop PySem.F.type_list_pop mt_popAt (pv 2) (pa_cons (pe_fn (ok_draw T) hr (by rfl) T.g__law_draw T.d__law_draw.kp (pa_cons (pv 0) (pa_cons (pe_callB call_len_seq (by rfl) T.u_len (by decide +kernel) (pa_cons (pv 2) pa_nil)) pa_nil))) pa_nil)) rfl)) pss_nil)))
      (pss_one (ps_ret (pv 3)))), ?_⟩
    refine ⟨_, rfl, n, rfl, ⟨by omega, by omega, by omega, by omega, by omega⟩, fun lf hlf => ?_⟩
    rw [rgV_nats]
    intro d hd
    have nld : lf ≠ d := fun z => by rw [← z, upd_same] at hd; cases hd
    have eL := Ext.upd (o := .lst (natsV (List.range n))) hlf
    have e0 := Ext.trans eL (Ext.upd (o := .dK []) hd)
    have hd0 : H d = none := Ext.none eL hd
    have hp0 := hp.ext e0
    refine ⟨_, rfl, p, 5, rfl, hp0, by decide, by decide, fun r0 H1 hr0 hp1 x1 nn1 => ?_⟩
    obtain ⟨ps0, hps0⟩ := hp.is
    have hps := e0 _ _ hps0
    have nlp : lf ≠ p := fun z => by rw [z, hps0] at hlf; cases hlf
    have ndp : d ≠ p := fun z => by rw [z, hps0] at hd0; cases hd0
    refine ⟨1, r0, rfl, rfl, _, _, _, rfl, ?_⟩
    have hrare : (1 : Int) + (r0 : Int) = ((1 + r0 : Nat) : Int) := by omega
    have hL1 : H1 lf = some (.lst (natsV (List.range n))) := x1 _ _ (by rw [upd_ne nld, upd_same]) nlp
    have hD1 : H1 d = some (.dK []) := x1 _ _ upd_same ndp
    have x01 : Exb p H H1 := Exb.trans (Ext.exb e0) x1
    refine ⟨_, rfl, n, rfl, by omega, by omega, ?_⟩
    refine for_it walk_range (fun i σ H2 => ∃ v5 l Lf, σ = [some (.ref p), some (.int n), some (.ref lf), some (.ref d), some (.int ((1 + r0 : Nat) : Int)), v5] ∧ Exb p H H2 ∧ PoolAt H2 p ∧ H2 lf = some (.lst (natsV Lf)) ∧ H2 d = some (.dK (kvN l)) ∧ ArrSt n i l Lf)
      ⟨_, [], List.range n, by rw [← hrare]; rfl, x01, hp1, hL1, hD1, ArrSt.start n⟩ (fun _ _ _ _ _ => trivial) ?_ ?_
    · rintro i x σ H2 H3 hi ⟨v5, l, Lf, rfl, x2, hp2, hL2, hD2, S⟩ ⟨rfl, rfl⟩
      have ei : (0 : Int) + (i : Nat) = (i : Int) := by omega
      show gName 5 (V.int ((0 : Int) + (i : Nat))) _ _ _
      rw [ei]
      have hin : i < n := by
        have : i < (n : Int).toNat := hi
        omega
      refine ⟨_, rfl, _, rfl, p, 1 + r0, rfl, hp2, by omega, by omega, fun r1 H4 hr1 hp4 x4 nn4 => ?_⟩
      have x04 := Exb.trans x2 x4
      have hL4 := x4 _ _ hL2 nlp
      have hD4 := x4 _ _ hD2 ndp
      refine ⟨r1, 0, rfl, rfl, _, rfl, ?_⟩
      have body : ∀ (tb : Prop), tb → tb := fun _ z => z
      have put : ∃ v, (some (V.ref lf) : Option V) = some v ∧ True := ⟨_, rfl, trivial⟩
      have few := S.few
      have len := S.len
      by_cases c1 : (0 : Int) < r1
      · rw [decide_eq_true c1]
        refine iteT ⟨_, rfl, Or.inl ⟨rfl, _, Or.inl (Or.inl hL4)⟩, ?_⟩
        refine ⟨_, rfl, _, rfl, lf, _, rfl, Or.inl (Or.inl (Or.inl hL4)), p, Lf.length, by rw [List.length_map], hp4, by omega, by omega, fun r2 H5 hr2 hp5 x5 nn5 => ?_⟩
        have hL5 := x5 _ _ hL4 nlp
        have hD5 := x5 _ _ hD4 ndp
        have hg : Lf[r2]? = some Lf[r2] := List.getElem?_eq_getElem hr2
        refine ⟨lf, _, r2, r2, _, rfl, rfl, hL5, by omega, by omega, seqN (by rw [List.length_map]; exact hr2), get_natsV hg, ?_⟩
        refine ⟨_, rfl, _, rfl, d, _, rfl, DPut.k (k := encE i) (by rw [upd_ne nld.symm]; exact hD5) (by rw [kvN_length]; exact small300 (m := n) (by omega) hn2), ?_⟩
        rw [putK_new _ S.new, natsV_erase]
        refine ⟨_, l ++ [(i, Lf[r2])], Lf.eraseIdx r2, rfl, fun b o hb hbp => ?_, ?_, ?_, ?_, S.add hg⟩
        · rw [upd_ne (ne_of_none hb hd0), upd_ne (ne_of_none hb hlf)]
          exact x5 _ _ (x04 _ _ hb hbp) hbp
        · obtain ⟨a, b, q1, q2, q3, q4⟩ := hp5
          exact ⟨a, b, q1, q2, q3, by rw [upd_ne ndp.symm, upd_ne nlp.symm]; exact q4⟩
        · rw [upd_ne nld, upd_same]
        · rw [upd_same]
          simp [kvN]
      · rw [decide_eq_false c1]
        refine iteF ⟨_, rfl, rfl, _, rfl, ?_⟩
        by_cases c2 : 1 + r0 = 5
        · rw [show decide (V.int ((1 + r0 : Nat) : Int) = V.int 5) = true from decide_eq_true (by rw [c2]; rfl)]
          refine iteT ⟨_, rfl, Or.inl ⟨rfl, _, Or.inl (Or.inl hL4)⟩, ?_⟩
          refine ⟨_, rfl, _, rfl, lf, _, rfl, Or.inl (Or.inl (Or.inl hL4)), p, Lf.length, by rw [List.length_map], hp4, by omega, by omega, fun r2 H5 hr2 hp5 x5 nn5 => ?_⟩
          have hL5 := x5 _ _ hL4 nlp
          have hD5 := x5 _ _ hD4 ndp
          have hg : Lf[r2]? = some Lf[r2] := List.getElem?_eq_getElem hr2
          refine ⟨lf, _, r2, r2, _, rfl, rfl, hL5, by omega, by omega, seqN (by rw [List.length_map]; exact hr2), get_natsV hg, ?_⟩
          refine ⟨_, rfl, _, rfl, d, _, rfl, DPut.k (k := encE i) (by rw [upd_ne nld.symm]; exact hD5) (by rw [kvN_length]; exact small300 (m := n) (by omega) hn2), ?_⟩
          rw [putK_new _ S.new, natsV_erase]
          refine ⟨_, l ++ [(i, Lf[r2])], Lf.eraseIdx r2, rfl, fun b o hb hbp => ?_, ?_, ?_, ?_, S.add hg⟩
          · rw [upd_ne (ne_of_none hb hd0), upd_ne (ne_of_none hb hlf)]
            exact x5 _ _ (x04 _ _ hb hbp) hbp
          · obtain ⟨a, b, q1, q2, q3, q4⟩ := hp5
            exact ⟨a, b, q1, q2, q3, by rw [upd_ne ndp.symm, upd_ne nlp.symm]; exact q4⟩
          · rw [upd_ne nld, upd_same]
          · rw [upd_same]
            simp [kvN]
        · rw [show decide (V.int ((1 + r0 : Nat) : Int) = V.int 5) = false from decide_eq_false (fun z => by
            injection z with z
            omega)]
          exact iteF ⟨_, l, Lf, rfl, x04, hp4, hL4, hD4, S.skip⟩
    · rintro σ H2 ⟨v5, l, Lf, rfl, x2, hp2, hL2, hD2, S⟩
      rw [Int.toNat_natCast] at S
      exact ⟨_, rfl, k d l H2 hd0 hp2 x2 hD2 (S.good (Nat.le_refl _))⟩
def adrV : V → Addr
  | .ref x => x
  | _ => 0
theorem mk_fam2 {H1 : Hp} {ps : List Addr} {fs : List PF} {n : Nat} {Q : Addr → Hp → Prop} (hm : MapsAt K H1 n ps fs) (h1 : 1 ≤ fs.length) (h2 : fs.length ≤ 10)
    (k : ∀ x H2, H1 x = Option.none → Ext H1 H2 → FamAt K H2 x n fs → Q x H2) :
    ∀ x dx, H1 x = Option.none → H1 dx = Option.none → dx ≠ x → spStar 1 (spFInit0 K) (V.ref x :: refs ps) (upd (upd H1 dx (.own x)) x (.ins (cF K) dx [])) (fun v H2 => v = .non ∧ Q x H2) E0 := mk_fam (Q := fun v H2 => Q (adrV v) H2) hm h1 h2 k
theorem mk_map2 {H1 : Hp} {d : Addr} {l : List (Nat × Nat)} {n : Nat} {Q : Addr → Hp → Prop} (hd : H1 d = some (.dK (kvN l))) (g : Good n l) (h1 : 1 ≤ n) (h2 : n ≤ 300)
    (k : ∀ x H2, H1 x = Option.none → Ext H1 H2 → MapAt (cM K) H2 x n (pf l) → Q x H2) :
    ∀ x dx, H1 x = Option.none → H1 dx = Option.none → dx ≠ x → spMInit K (V.ref x :: [V.int n, V.ref d]) (upd (upd H1 dx (.own x)) x (.ins (cM K) dx [])) (fun v H2 => v = .non ∧ Q x H2) E0 := mk_map (Q := fun v H2 => Q (adrV v) H2) hd g h1 h2 k
/-! _law_family -/
def spFamL (K : PySem.W.Frag) : Sp := fun vs H Q _ => ∃ a n ps fs, vs = [.ref a] ∧ H a = some (.lst (refs ps)) ∧ MapsAt K H n ps fs ∧ 1 ≤ fs.length ∧ fs.length ≤ 10 ∧ ∀ x H', H x = Option.none → Ext H H' → FamAt K H' x n fs → Q (.ref x) H'
theorem sc_famL : FnScope ["_law_maps", "_law_found", "_law_one"] ["_law_maps"] (defScope (top 58)) := ⟨rfl, rfl, rfl, by decide +kernel, rfl, by decide +kernel, by decide +kernel⟩
theorem ok_famL (T : Txt K mg) : Fn P w K mg base 9 (He.ga K "_law_family") (spFamL K) := by
  refine fn_by T.d__law_family sc_famL (fun _ _ _ _ _ _ us hl => match us, hl with | [_], _ => rfl) (fun vs H Q E h => ?_) (fun cdv A outer s H vs Q E hr h => ?_)
  · obtain ⟨a, n, ps, fs, rfl, _⟩ := h
    rfl
  · obtain ⟨a, n, ps, fs, rfl, ha, hm, h1, h2, k⟩ := h
    refine ⟨_, pss_cons (ps_set (i := 1) sc_famL.nd rfl (Or.inl rfl) (pe_mkR T.k_Family (ok_finit T) (hr.mono (by decide)) (by rfl) T.g_Family (pa_cons (pe_ix ix_list (pv 0) pe_int (fun _ _ => rfl)) pa_nil)))
      (pss_cons (ps_for PassesOwn.never rfl (pi_list (pe_slice sl_list (pv 0) (po_some pe_int) po_none)) (pg_name (i := 2) sc_famL.nd rfl (Or.inl rfl))
        (pss_one (ps_set (i := 1) sc_famL.nd rfl (Or.inl rfl) (pe_op (op_own T.s_Family T.m_fAdd.1 T.m_fAdd.2 (ok_fadd T) hr) (pv 1) (pe_mkR T.k_Family (ok_finit T) (hr.mono (by decide)) (by rfl) T.g_Family (pa_cons (pv 2) pa_nil))))))
      (pss_one (ps_ret (pv 1)))), ?_⟩
    obtain ⟨f0, hf0⟩ : ∃ f0, fs[0]? = some f0 := ⟨_, List.getElem?_eq_getElem h1⟩
    obtain ⟨p0, hp0, m0⟩ := hm.get hf0
    refine ⟨_, rfl, a, _, 0, .ref p0, rfl, rfl, Or.inl (Or.inl ha), atI_zero (get_refs hp0), ?_⟩
    refine mk_fam2 (K := K) (ps := [p0]) (fs := [f0]) (MapsAt.one m0) (Nat.le_refl _) (by show 1 ≤ 10; decide) (fun x0 H1 hx0 e1 F0 => ?_)
    refine ⟨_, rfl, _, rfl, a, _, rfl, Or.inl (Or.inl (e1 _ _ ha)), fun c hc => ?_⟩
    have hpl : ps.length = fs.length := hm.1
    have ec : cutV (refs ps) (some 1) none = refs (ps.drop 1) := by
      have hl1 : (refs ps).length = ps.length := List.length_map ..
      unfold cutV
      have e1 : HT.sIx (refs ps).length 0 (some 1) = 1 := by
        have := HT.sIx_nat (refs ps).length 0 1
        rw [show ((1 : Nat) : Int) = 1 from rfl] at this
        rw [this, hl1]
        omega
      rw [e1, HT.sIx_none, hl1, ← List.map_drop, List.take_of_length_le (by rw [List.length_map, List.length_drop]; exact Nat.le_refl _)]
    rw [ec]
    have eC := Ext.upd (o := .lst (refs (ps.drop 1))) hc
    have e2 := Ext.trans e1 eC
    have sq : SqL K (upd H1 c (.lst (refs (ps.drop 1)))) c (refs (ps.drop 1)) := Or.inl (Or.inl upd_same)
    refine ⟨c, rfl, ⟨_, sq⟩, for_it (walk_list (xs := refs (ps.drop 1))) (fun i σ H2 => Ext (upd H1 c (.lst (refs (ps.drop 1)))) H2 ∧ ∃ x v, σ = [some (.ref a), some (.ref x), v] ∧ H x = Option.none ∧ FamAt K H2 x n (fs.take (i + 1)))
      ⟨fun _ _ z => z, x0, _, rfl, hx0, ?_⟩ (fun i σ H2 _ ⟨e, _⟩ => sq.ext e) ?_ ?_⟩
    · have : fs.take (0 + 1) = [f0] := by rw [take_succ hf0]; rfl
      rw [this]
      exact F0.ext eC
    · rintro i y σ H2 H3 hi ⟨e3, x, v, rfl, hx, Fx⟩ ⟨rfl, hy⟩
      obtain ⟨q, rfl, hq⟩ := refs_get hy
      rw [List.getElem?_drop] at hq
      obtain ⟨f, hf, m⟩ := hm.2 _ q hq
      have e02 := Ext.trans e2 e3
      have hfl := (List.getElem?_eq_some_iff.mp hf).1
      refine ⟨_, rfl, _, rfl, ?_⟩
      refine mk_fam2 (K := K) (ps := [q]) (fs := [f]) (MapsAt.one (m.ext e02)) (Nat.le_refl _) (by show 1 ≤ 10; decide) (fun y0 H4 hy0 e4 Fy => ?_)
      have Fx4 := Fx.ext e4
      obtain ⟨dx, tx, psx, o1, _⟩ := Fx4.ob
      obtain ⟨dy, ty, psy, o2, _⟩ := Fy.ob
      have hlt : (fs.take (i + 1)).length = i + 1 := by rw [List.length_take]; omega
      refine ⟨x, y0, dx, dy, _, _, rfl, rfl, o1, o2, x, y0, n, _, _, rfl, Fx4, Fy, by rw [hlt]; simp; omega, fun z H5 hz e5 Fz => ?_⟩
      refine ⟨Ext.trans e3 (Ext.trans e4 e5), z, _, rfl, Ext.none e02 (Ext.none e4 hz), ?_⟩
      have : fs.take (i + 1 + 1) = fs.take (i + 1) ++ [f] := take_succ (by rw [Nat.add_comm]; exact hf)
      rw [this]
      exact Fz
    · rintro σ H2 ⟨e3, x, v, rfl, hx, Fx⟩
      have hl : (refs (ps.drop 1)).length + 1 = fs.length := by rw [List.length_map, List.length_drop]; omega
      rw [hl, List.take_length] at Fx
      exact ⟨_, rfl, k x H2 hx (Ext.trans e2 e3) Fx⟩
/-! _law_size -/
def sizeV (o : Option (List Nat)) : V := match o with | none => .non | some w => .int (w.length : Nat)
def spSizeL : Sp := fun vs H Q _ => ∃ v o, vs = [v] ∧ OptW H v o ∧ Q (sizeV o) H
theorem sc_sizeL : FnScope ["_law_word"] ["_law_word"] (defScope (top 59)) := ⟨rfl, rfl, rfl, by decide +kernel, rfl, by decide +kernel, by decide +kernel⟩
theorem ok_sizeL (T : Txt K mg) : Fn P w K mg base 1 (He.ga K "_law_size") spSizeL := by
  refine fn_by T.d__law_size sc_sizeL (fun _ _ _ _ _ _ us hl => match us, hl with | [_], _ => rfl) (fun vs H Q E h => ?_) (fun cdv A outer s H vs Q E hr h => ?_)
  · obtain ⟨v, o, rfl, _⟩ := h
    rfl
  · obtain ⟨v, o, rfl, hv, k⟩ := h
    refine ⟨_, pss_one (ps_ret (pe_ifExp (pt_cmp (pc_isN (pv 0))) pe_non (pe_callB call_len_seq (by rfl) T.u_len (by decide +kernel) (pa_cons (pv 0) pa_nil)))), ?_⟩
    rcases hv with ⟨rfl, rfl⟩ | ⟨w, a, rfl, rfl, ha⟩
    · exact ⟨_, rfl, _, rfl, iteT k⟩
    · refine ⟨_, rfl, _, rfl, iteF ⟨_, rfl, a, natsV w, rfl, Or.inr (Or.inl (Or.inl ha)), ?_⟩⟩
      rw [List.length_map]
      exact k
end
end CM
-- part D17
set_option Elab.async false
set_option linter.all false
set_option maxRecDepth 100000
set_option maxHeartbeats 4000000
/-! ### the first half of the law -/
namespace CM
open PySem PySem.Spec PyProof.Rows L2 StX
theorem inV_nats (b : Nat) : ∀ l : List Nat, inV (.int (b : Int)) (natsV l) = decide (b ∈ l)
  | [] => by simp [inV]
  | a :: l => by
    have ih := inV_nats b l
    unfold inV at ih ⊢
    rw [show natsV (a :: l) = .int (a : Int) :: natsV l from rfl, List.any_cons, ih]
    show (((a : Int) == (b : Int)) || decide (b ∈ l)) = _
    by_cases h : b = a
    · subst h
      simp
    · have h2 : ¬ ((a : Int) = (b : Int)) := by omega
      simp [h, h2]
theorem flat_nats : ∀ l : List Nat, (natsV l).all flatV = true
  | [] => rfl
  | a :: l => by
    have ih := flat_nats l
    rw [show natsV (a :: l) = .int (a : Int) :: natsV l from rfl, List.all_cons, ih]
    rfl
theorem sizeV_eq {o o' : Option (List Nat)} (h : o.map List.length = o'.map List.length) : sizeV o = sizeV o' := by
  cases o with
  | none =>
    cases o' with
    | none => rfl
    | some w => cases h
  | some v =>
    cases o' with
    | none => cases h
    | some w =>
      have h1 : v.length = w.length := Option.some.inj h
      show V.int ((v.length : Nat) : Int) = V.int ((w.length : Nat) : Int)
      rw [h1]
theorem scal_size (o o' : Option (List Nat)) : scal (sizeV o) (sizeV o') = true := by
  cases o with
  | none => cases o' with
    | none => rfl
    | some w => rfl
  | some v => cases o' with
    | none => rfl
    | some w => rfl
theorem OptL.is {H : Hp} {v : V} {o : Option (List (List Nat))} (h : OptL H v o) : decide (v = .non) = o.isNone := by
  rcases h with ⟨rfl, rfl⟩ | ⟨Ps, r, as, rfl, rfl, _⟩
  · rfl
  · rfl
theorem OptW.is {H : Hp} {v : V} {o : Option (List Nat)} (h : OptW H v o) : decide (v = .non) = o.isNone := by
  rcases h with ⟨rfl, rfl⟩ | ⟨w, a, rfl, rfl, _⟩
  · rfl
  · rfl
theorem OptW.ext {H H' : Hp} {v : V} {o : Option (List Nat)} (h : OptW H v o) (e : Ext H H') : OptW H' v o := by
  rcases h with ⟨rfl, rfl⟩ | ⟨w, a, rfl, rfl, ha⟩
  · exact Or.inl ⟨rfl, rfl⟩
  · exact Or.inr ⟨w, a, rfl, rfl, e _ _ ha⟩
theorem Exb.mut {p D : Addr} {H H' : Hp} {o : HO} (e : Exb p H H') (h : H D = none) : Exb p H (L2.upd H' D o) := fun c u hc hn => by
  rw [upd_ne (ne_of_none hc h)]
  exact e c u hc hn
theorem natsV_rev (w : List Nat) : (natsV w).reverse = natsV w.reverse := by
  show (w.map _).reverse = (w.reverse).map _
  rw [List.map_reverse]
theorem hold_none {n : Nat} {fs : List PF} {o : Option (List (List Nat))} (h : HoldOut n fs o) : o.isNone = true ↔ Loses n fs := by
  cases o with
  | none => exact ⟨fun _ => h, fun _ => rfl⟩
  | some P => exact ⟨fun z => (nomatch z), fun z => absurd z h.1⟩
section
variable {P : Program} {w : World} {K : PySem.W.Frag} {mg : Str → Option Value} {base : Heap}
def spInvR (K : PySem.W.Frag) : Sp := fun vs H Q _ => ∃ p f n fs, vs = [.ref p, .ref f, .int (n : Nat)] ∧ PoolAt H p ∧ FamAt K H f n fs ∧ n ≤ 6 ∧ ∀ H', Exb p H H' → PoolAt H' p → Q (.bl true) H'
theorem sc_invR : FnScope ["_law_pool", "_law_family_here", "_law_size_here", "_law_back", "_law_turn", "_law_word", "_law_start", "_law_goal", "_law_told", "_law_letter"] ["_law_pool", "_law_family_here", "_law_size_here"] (defScope (top 60)) := ⟨rfl, rfl, rfl, by decide +kernel, rfl, by decide +kernel, by decide +kernel⟩
theorem ok_invR (T : Txt K mg) : Fn P w K mg base 10 (He.ga K "_law_inverse_right") (spInvR K) := by
  refine fn_by T.d__law_inverse_right sc_invR (fun _ _ _ _ _ _ us hl => match us, hl with | [_, _, _], _ => rfl) (fun vs H Q E h => ?_) (fun cdv A outer s H vs Q E hr h => ?_)
  · obtain ⟨p, f, n, fs, rfl, _⟩ := h
    rfl
  · obtain ⟨p, f, n, fs, rfl, hp, F, hn6, k⟩ := h
    have hu := hu_of hr
    have hu64 : (A.deeper (envOfC "_law_inverse_right" (defScope (top 60)) s.heap.objs.size (He.ga K "_law_inverse_right") cdv)).units + 64 < cLine := by
      have := hr.un
      omega
    have NM : NeC K (cM K) (He.ma K (cM K) "__eq__") := ⟨T.ne_Map, T.m_mEq.1, T.m_mEq.2, T.ob_Map⟩
    refine ⟨_, pss_cons (ps_set (i := 3) sc_invR.nd rfl (Or.inr rfl) (pe_un (un_own T.m_fInv.1 T.m_fInv.2 (ok_finv T) (hr.mono (by decide))) (pv 1)))
      (pss_cons (ps_for PassesOwn.never rfl (pi_range1 rfl T.u_range (pa_cons pe_int pa_nil)) (pg_name (i := 4) sc_invR.nd rfl (Or.inl rfl))
        (pss_cons (ps_setLc (i := 5) (own := [("_law_letter", 9)]) (g := gName 9) (tt := tYes) rfl sc_invR.nd rfl rfl (sw_true rfl rfl rfl rfl) (pi_range1 rfl T.u_range (pa_cons (pe_fn (ok_draw T) (hr.mono (by decide)) (by rfl) T.g__law_draw T.d__law_draw.kp (pa_cons (pv 0) (pa_cons pe_int pa_nil))) pa_nil)) (blkOk_by (own := [("_law_letter", 9)]) (N := ["_law_pool", "_law_family_here", "_law_size_here", "_law_back", "_law_turn", "_law_word", "_law_start", "_law_goal", "_law_told", "_law_letter"]) (sc := defScope (top 60)) (by decide +kernel))
            (fun _ _ _ _ _ => pg_name (i := 9) sc_invR.nd rfl (Or.inl rfl)) (fun _ _ _ _ _ => pts_nil) (fun _ _ _ _ _ => pe_fn (ok_draw T) (hr.mono (by decide)) (by rfl) T.g__law_draw T.d__law_draw.kp (pa_cons (pv 0) (pa_cons (pe_callB (call_lenOwn T.m_fLen.1 T.m_fLen.2 (ok_flen T) (hr.mono (by decide))) (by rfl) T.u_len (by decide +kernel) (pa_cons (pv 1) pa_nil)) pa_nil))) (fun _ => rfl))
        (pss_one (ps_if (PW.pt (pw_or
            (pt_cmpR (op_neOwn NM (ok_eq T) (hr.mono (by decide)))
              (pe_un (un_own T.m_mInv.1 T.m_mInv.2 (ok_inv T) (hr.mono (by decide))) (StX.pe_callO (pv 1) T.co_Family (ok_fcall T) (hr.mono (by decide)) pass0 (pa_cons (pv 5) pa_nil) rfl))
              (StX.pe_callO (pv 3) T.co_Family (ok_fcall T) (hr.mono (by decide)) pass0 (pa_cons (pe_revL (pv 5)) pa_nil) rfl) (nomark _))
            (pw_or1 (pt_not (pt_cmpR (op_cmpOwn (fun _ _ => rfl) T.m_mLe.1 T.m_mLe.2 (ok_le T) (hr.mono (by decide)))
              (pe_op (op_own T.s_Map T.m_mMul.1 T.m_mMul.2 (ok_mul T) (hr.mono (by decide))) (StX.pe_callO (pv 1) T.co_Family (ok_fcall T) (hr.mono (by decide)) pass0 (pa_cons (pv 5) pa_nil) rfl) (StX.pe_callO (pv 3) T.co_Family (ok_fcall T) (hr.mono (by decide)) pass0 (pa_cons (pe_revL (pv 5)) pa_nil) rfl))
              (ClX.pe_cmeth (pe_glob (v := .ref (cM K)) (by rfl) T.g_Map rfl) T.r_Map T.m_cId (ok_ident T) (hr.mono (by decide)) pass0 (pa_cons (pv 2) pa_nil)) (nomark _))))))
          (pss_never (X := _)) pss_nil))))
      (pss_cons (ps_if (PW.pt (pw_or
            (pt_cmpR (op_neD hu64) (pe_fn (ok_orbits T) (hr.mono (by decide)) (by rfl) T.g_orbits T.d_orbits.kp (pa_cons (pv 1) pa_nil)) (pe_fn (ok_orbits T) (hr.mono (by decide)) (by rfl) T.g_orbits T.d_orbits.kp (pa_cons (pv 3) pa_nil)) (nomark _))
            (pw_or1 (pt_cmpR op_ne (pe_fn (ok_sizeL T) (hr.mono (by decide)) (by rfl) T.g__law_size T.d__law_size.kp (pa_cons (pe_fn (ok_losing T) (hr.mono (by decide)) (by rfl) T.g_losing_word T.d_losing_word.kp (pa_cons (pv 1) pa_nil)) pa_nil))
              (pe_fn (ok_sizeL T) (hr.mono (by decide)) (by rfl) T.g__law_size T.d__law_size.kp (pa_cons (pe_fn (ok_losing T) (hr.mono (by decide)) (by rfl) T.g_losing_word T.d_losing_word.kp (pa_cons (pv 3) pa_nil)) pa_nil)) (nomark _)))))
          (pss_never (X := _)) pss_nil)
      (pss_cons (ps_for PassesOwn.never rfl (pi_range1 rfl T.u_range (pa_cons (pv 2) pa_nil)) (pg_name (i := 6) sc_invR.nd rfl (Or.inr rfl))
        (pss_cons (ps_setLc (i := 8) (own := [("_law_goal", 7)]) (g := gName 7) rfl sc_invR.nd rfl rfl (sw_true rfl rfl rfl rfl) (pi_range1 rfl T.u_range (pa_cons (pv 2) pa_nil)) (blkOk_by (own := [("_law_goal", 7)]) (N := ["_law_pool", "_law_family_here", "_law_size_here", "_law_back", "_law_turn", "_law_word", "_law_start", "_law_goal", "_law_told", "_law_letter"]) (sc := defScope (top 60)) (by decide +kernel))
            (fun _ _ _ _ _ => pg_name (i := 7) sc_invR.nd rfl (Or.inl rfl)) (fun _ _ _ _ _ => pts_one (pt_cmpR (r := rIn K false) op_in_seq (pv 6) (pe_fn (ok_reached T) (hr.mono (by decide)) (by rfl) T.g_reached T.d_reached.kp (pa_cons (pv 3) (pa_cons (pv 7) pa_nil))) (by rfl))) (fun _ _ _ _ _ => pv 7) (fun _ => rfl))
        (pss_cons (ps_if (pt_cmpR (op_neD hu64) (pe_fn (ok_reached T) (hr.mono (by decide)) (by rfl) T.g_reached T.d_reached.kp (pa_cons (pv 1) (pa_cons (pv 6) pa_nil))) (pv 8) (nomark _)) (pss_never (X := _)) pss_nil)
        (pss_one (ps_for PassesOwn.never rfl (pi_range1 rfl T.u_range (pa_cons (pv 2) pa_nil)) (pg_name (i := 7) sc_invR.nd rfl (Or.inl rfl))
          (pss_one (ps_if (pt_cmpR op_ne (pe_fn (ok_sizeL T) (hr.mono (by decide)) (by rfl) T.g__law_size T.d__law_size.kp (pa_cons (pe_fn (ok_path T) (hr.mono (by decide)) (by rfl) T.g_path T.d_path.kp (pa_cons (pv 1) (pa_cons (pv 6) (pa_cons (pv 7) pa_nil)))) pa_nil))
              (pe_fn (ok_sizeL T) (hr.mono (by decide)) (by rfl) T.g__law_size T.d__law_size.kp (pa_cons (pe_fn (ok_path T) (hr.mono (by decide)) (by rfl) T.g_path T.d_path.kp (pa_cons (pv 3) (pa_cons (pv 7) (pa_cons (pv 6) pa_nil)))) pa_nil)) (nomark _)) (pss_never (X := _)) pss_nil)))))))
      (pss_one (ps_ret (pe_cmpR op_eq (pe_cmp (pc_isN (pe_fn (ok_holds T) (hr.mono (by decide)) (by rfl) T.g_holding_sets T.d_holding_sets.kp (pa_cons (pv 1) pa_nil)))) (pe_cmp (pc_isN (pe_fn (ok_holds T) (hr.mono (by decide)) (by rfl) T.g_holding_sets T.d_holding_sets.kp (pa_cons (pv 3) pa_nil)))) (nomark _))))))), ?_⟩
    have wfs := F.wfs
    have sz := F.sz
    obtain ⟨ps0, hps0⟩ := hp.is
    obtain ⟨dx, t, psx, o1, _⟩ := F.ob
    refine ⟨_, rfl, f, dx, _, rfl, o1, f, n, fs, rfl, F, fun b H1 hb0 e1 B => ?_⟩
    have F1 := F.ext e1
    have hp1 := hp.ext e1
    refine ⟨4, rfl, by omega, by omega, ?_⟩
    have wfi := wf_invs (n := n) wfs
    refine for_it walk_range (fun i σ H2 => ∃ v4 v5, σ = [some (.ref p), some (.ref f), some (.int n), some (.ref b), v4, v5, none, none, none, none] ∧ Exb p H1 H2 ∧ PoolAt H2 p) ⟨_, _, rfl, Exb.refl _ _, hp1⟩ (fun _ _ _ _ _ => trivial) ?_ ?_
    · rintro i x σ H2 H3 hi ⟨v4, v5, rfl, x2, hp2⟩ ⟨rfl, rfl⟩
      obtain ⟨ps1, hps1⟩ := hp1.is
      have F2 := F1.exb hps1 x2
      have B2 := B.exb hps1 x2
      refine ⟨_, rfl, p, 7, rfl, hp2, by decide, by decide, fun r H4 hr4 hp4 x4 nn4 => ?_⟩
      refine ⟨r, rfl, by omega, by omega, fun D hD => ?_⟩
      have x24 := Exb.trans x2 x4
      have nDp : D ≠ p := fun z => by obtain ⟨q, hq⟩ := hp4.is; rw [z, hq] at hD; cases hD
      refine lc_it walk_range (fun j H5 => Exb p H4 H5 ∧ PoolAt H5 p ∧ ∃ w : List Nat, w.length = j ∧ okw fs.length w ∧ H5 D = some (.lst (natsV w))) ⟨Ext.exb (Ext.upd hD), hp4.ext (Ext.upd hD), [], rfl, (fun c hc => nomatch hc), upd_same⟩ (fun _ _ _ _ => trivial) ?_ ?_
      · rintro j x H5 H6 hj ⟨x5, hp5, w, hwl, hwo, hwD⟩ ⟨rfl, rfl⟩
        obtain ⟨ps4, hps4⟩ := hp4.is
        have F5 := (F2.exb (hp2.is.choose_spec) x4).exb hps4 x5
        obtain ⟨dxf, tf, psf, of, _⟩ := F5.ob
        have hflo := F.lo
        have hfhi := F.hi
        refine ⟨rfl, yesT ⟨_, rfl, _, rfl, f, dxf, _, rfl, of, f, n, fs, rfl, F5, fs.length, rfl, ⟨by omega, by omega⟩, p, fs.length, rfl, hp5, hflo, by omega, fun c H7 hc hp7 x7 nn7 => ?_⟩⟩
        refine ⟨natsV w, x7 _ _ hwD nDp, ?_, Exb.mut (Exb.trans x5 x7) hD, ?_, w ++ [c], by rw [List.length_append, hwl]; rfl, fun d hd => ?_, by rw [upd_same]; simp⟩
        · rw [List.length_map, hwl]
          have : j < r := by
            have : j < (r : Int).toNat := hj
            omega
          exact small300 (m := 7) (by omega) (by decide)
        · obtain ⟨a, b', q1, q2, q3, q4⟩ := hp7
          exact ⟨a, b', q1, q2, q3, by rw [upd_ne nDp.symm]; exact q4⟩
        · rcases List.mem_append.mp hd with z | z
          · exact hwo d z
          · rw [List.mem_singleton.mp z]
            exact hc
      · rintro H5 ⟨x5, hp5, w, hwl, hwo, hwD⟩
        have hwlen : w.length ≤ 1000 := by
          rw [hwl, Int.toNat_natCast]
          omega
        obtain ⟨ps4, hps4⟩ := hp4.is
        have F5 := (F2.exb (hp2.is.choose_spec) x4).exb hps4 x5
        have B5 := (B2.exb (hp2.is.choose_spec) x4).exb hps4 x5
        obtain ⟨dxf, tf, psf, of, _⟩ := F5.ob
        obtain ⟨dxb, tb, psb, ob, _⟩ := B5.ob
        have hrev : okw (invs n fs).length w.reverse := by rw [len_invs]; exact okw_rev hwo
        refine ⟨_, rfl, f, rfl, _, rfl, Or.inr ⟨_, _, of⟩, f, D, n, fs, w, rfl, F5, Or.inl hwD, hwo, hwlen, fun x1 H6 hx1 e6 M1 => ?_⟩
        obtain ⟨dy1, dd1, om1, _⟩ := M1.ob
        refine ⟨x1, dy1, _, rfl, om1, x1, n, _, rfl, M1, fun x2 H7 hx2 e7 M2 => ?_⟩
        have e57 := Ext.trans e6 e7
        refine ⟨_, rfl, b, rfl, _, rfl, D, natsV w, rfl, Or.inl (Or.inl (e57 _ _ hwD)), fun rv hrv => ?_⟩
        have eR := Ext.upd (o := .lst (natsV w).reverse) hrv
        have e58 := Ext.trans e57 eR
        have hrvw : (upd H7 rv (.lst (natsV w).reverse)) rv = some (.lst (natsV w.reverse)) := by rw [upd_same, natsV_rev]
        refine ⟨Or.inr ⟨_, _, e58 _ _ ob⟩, b, rv, n, invs n fs, w.reverse, rfl, B5.ext e58, Or.inl hrvw, hrev, by rw [List.length_reverse]; exact hwlen, fun x3 H8 hx3 e8 M3 => ?_⟩
        have M2' := M2.ext (Ext.trans eR e8)
        obtain ⟨dy2, dd2, om2, _⟩ := M2'.ob
        obtain ⟨dy3, dd3, om3, _⟩ := M3.ob
        have heq : inv n (prd n fs w) = prd n (invs n fs) w.reverse := inv_prd wfs w
        refine ⟨x2, x3, dy2, dy3, _, _, rfl, rfl, om2, om3, x2, x3, n, _, _, rfl, M2', M3, _, rfl, _, rfl, ?_⟩
        rw [(eqB_iff M2'.wf M3.wf).mpr heq]
        refine iteF ?_
        have e59 := Ext.trans e58 e8
        have F9 := F5.ext e59
        have B9 := B5.ext e59
        refine ⟨_, rfl, f, rfl, _, rfl, Or.inr ⟨_, _, e59 _ _ of⟩, f, D, n, fs, w, rfl, F9, Or.inl (e59 _ _ hwD), hwo, hwlen, fun y1 H10 hy1 e10 N1 => ?_⟩
        refine ⟨_, rfl, b, rfl, _, rfl, D, natsV w, rfl, Or.inl (Or.inl (e10 _ _ (e59 _ _ hwD))), fun rw' hrw => ?_⟩
        have eR2 := Ext.upd (o := .lst (natsV w).reverse) hrw
        have hrw' : (upd H10 rw' (.lst (natsV w).reverse)) rw' = some (.lst (natsV w.reverse)) := by rw [upd_same, natsV_rev]
        have e911 := Ext.trans e10 eR2
        refine ⟨Or.inr ⟨_, _, e911 _ _ (e59 _ _ ob)⟩, b, rw', n, invs n fs, w.reverse, rfl, B9.ext e911, Or.inl hrw', hrev, by rw [List.length_reverse]; exact hwlen, fun y2 H12 hy2 e12 N2 => ?_⟩
        have N1' := N1.ext (Ext.trans eR2 e12)
        obtain ⟨dz1, dc1, on1, _⟩ := N1'.ob
        obtain ⟨dz2, dc2, on2, _⟩ := N2.ob
        refine ⟨y1, y2, dz1, dz2, _, _, rfl, rfl, on1, on2, y1, y2, n, _, _, rfl, N1', N2, fun y3 H13 hy3 e13 N3 => ?_⟩
        refine ⟨rfl, _, rfl, n, rfl, sz.1, sz.2, fun y4 H14 hy4 e14 N4 => ?_⟩
        have N3' := N3.ext e14
        obtain ⟨dz3, dc3, on3, _⟩ := N3'.ob
        obtain ⟨dz4, dc4, on4, _⟩ := N4.ob
        refine ⟨y3, y4, dz3, dz4, _, _, rfl, rfl, on3, on4, y3, y4, n, _, _, rfl, N3', N4, fun H15 e15 => ⟨_, rfl, ?_⟩⟩
        have hpart : Part (cmp (prd n fs w) (prd n (invs n fs) w.reverse)) (idF n) := by
          rw [← heq]
          exact part_id (wf_prd wfs w)
        rw [partB_true hpart]
        have eAll : Ext H5 H15 := Ext.trans e59 (Ext.trans e911 (Ext.trans e12 (Ext.trans e13 (Ext.trans e14 e15))))
        exact iteF ⟨_, _, rfl, Exb.trans x24 (Exb.trans x5 (Ext.exb eAll)), hp5.ext eAll⟩
    · rintro σ H2 ⟨v4, v5, rfl, x2, hp2⟩
      obtain ⟨ps1, hps1⟩ := hp1.is
      have F2 := F1.exb hps1 x2
      have B2 := B.exb hps1 x2
      refine ⟨_, rfl, f, n, fs, rfl, F2, fun r1 as1 H3 hr1 e3 hl1 LL1 => ?_⟩
      refine ⟨_, rfl, b, n, invs n fs, rfl, B2.ext e3, fun r2 as2 H4 hr2 e4 hl2 LL2 => ?_⟩
      have e24 := Ext.trans e3 e4
      have horb : orbOf n (invs n fs) = orbOf n fs := (orbs_inv wfs).symm
      rw [horb] at LL2
      refine ⟨_, _, .lst (Or.inl (Or.inl (e4 _ _ hl1))) (dp_lists (LL1.ext e4)), .lst (Or.inl (Or.inl hl2)) (dp_lists LL2), shaped_lists _, shaped_lists _, _, rfl, ?_⟩
      rw [eqv_lists]
      refine iteF ?_
      refine ⟨_, rfl, f, n, fs, rfl, F2.ext e24, hn6, fun v o H5 e5 ho hlo => ?_⟩
      refine ⟨v, o, rfl, ho, ?_⟩
      refine ⟨_, rfl, b, n, invs n fs, rfl, B2.ext (Ext.trans e24 e5), hn6, fun v' o' H6 e6 ho' hlo' => ?_⟩
      refine ⟨v', o', rfl, ho', scal_size o o', _, rfl, ?_⟩
      refine iteNS (sizeV_eq (lose_rev wfs hlo hlo')) ?_
      have e26 := Ext.trans e24 (Ext.trans e5 e6)
      refine ⟨_, rfl, n, rfl, by omega, by omega, ?_⟩
      refine for_it walk_range (fun i σ H7 => ∃ v4 v5 v6 v7 v8, σ = [some (.ref p), some (.ref f), some (.int n), some (.ref b), v4, v5, v6, v7, v8, none] ∧ Ext H2 H7) ⟨_, _, _, _, _, rfl, e26⟩ (fun _ _ _ _ _ => trivial) ?_ ?_
      · rintro i x σ Hx7 H7 hi ⟨v4, v5, v6, v7, v8, rfl, e7⟩ ⟨rfl, rfl⟩
        have ei : (0 : Int) + (i : Nat) = (i : Int) := by omega
        show gName 6 (V.int ((0 : Int) + (i : Nat))) _ _ _
        rw [ei]
        have hin : i < n := by
          have : i < (n : Int).toNat := hi
          omega
        refine ⟨_, rfl, n, rfl, by omega, by omega, fun D hD => ?_⟩
        refine lc_it walk_range (fun j H8 => Ext H7 H8 ∧ H8 D = some (.lst (natsV ((List.range j).filter fun g => decide (i ∈ rchL n (invs n fs) g))))) ⟨Ext.upd hD, upd_same⟩ (fun _ _ _ _ => trivial) ?_ ?_
        · rintro j x H8 H9 hj ⟨e8, h8⟩ ⟨rfl, rfl⟩
          have ej : (0 : Int) + (j : Nat) = (j : Int) := by omega
          show gName 7 (V.int ((0 : Int) + (j : Nat))) _ _ _
          rw [ej]
          have hjn : j < n := by
            have : j < (n : Int).toNat := hj
            omega
          have e28 := Ext.trans e7 e8
          refine ⟨rfl, _, rfl, _, rfl, _, rfl, b, n, invs n fs, j, rfl, B2.ext e28, hjn, fun r H10 hr e10 h10 => ?_⟩
          refine ⟨r, _, rfl, Or.inl (Or.inl (Or.inl h10)), rfl, flat_nats _, _, rfl, ?_⟩
          have e810 := Ext.trans e8 e10
          rw [if_neg Bool.false_ne_true, inV_nats]
          by_cases hm : i ∈ rchL n (invs n fs) j
          · rw [decide_eq_true hm]
            refine iteT ⟨_, rfl, _, e10 _ _ h8, ?_, Ext.mut e810 hD, ?_⟩
            · rw [List.length_map]
              have := List.length_filter_le (fun g => decide (i ∈ rchL n (invs n fs) g)) (List.range j)
              rw [List.length_range] at this
              exact small300 (m := n) (by omega) sz.2
            · rw [upd_same, List.range_succ, List.filter_append]
              simp [hm]
          · rw [decide_eq_false hm]
            refine iteF ⟨e810, ?_⟩
            rw [e10 _ _ h8, List.range_succ, List.filter_append]
            simp [hm]
        · rintro H8 ⟨e8, h8⟩
          rw [Int.toNat_natCast, ← rchL_rev wfs hin] at h8
          have e28 := Ext.trans e7 e8
          refine ⟨_, rfl, _, rfl, f, n, fs, i, rfl, F2.ext e28, hin, fun r H9 hr e9 h9 => ?_⟩
          refine ⟨_, rfl, _, _, .lst (Or.inl (Or.inl h9)) (dp_nats K _ _), .lst (Or.inl (Or.inl (e9 _ _ h8))) (dp_nats K _ _), shaped_lst _, shaped_lst _, _, rfl, ?_⟩
          rw [eqv_lst, decide_eq_true rfl]
          refine iteF ?_
          have e29 := Ext.trans e28 e9
          refine ⟨_, rfl, n, rfl, by omega, by omega, ?_⟩
          refine for_it walk_range (fun j σ H10 => ∃ v4 v5 v7 v8, σ = [some (.ref p), some (.ref f), some (.int n), some (.ref b), v4, v5, some (.int i), v7, v8, none] ∧ Ext H2 H10) ⟨_, _, _, _, rfl, e29⟩ (fun _ _ _ _ _ => trivial) ?_ ?_
          · rintro j x σ H10 H11 hj ⟨u4, u5, u7, u8, rfl, e10⟩ ⟨rfl, rfl⟩
            have ej : (0 : Int) + (j : Nat) = (j : Int) := by omega
            show gName 7 (V.int ((0 : Int) + (j : Nat))) _ _ _
            rw [ej]
            have hjn : j < n := by
              have : j < (n : Int).toNat := hj
              omega
            refine ⟨_, rfl, _, rfl, _, rfl, f, n, fs, i, j, rfl, F2.ext e10, hin, hjn, fun v o H12 e12 ho hpo => ?_⟩
            refine ⟨v, o, rfl, ho, ?_⟩
            refine ⟨_, rfl, _, rfl, _, rfl, b, n, invs n fs, j, i, rfl, B2.ext (Ext.trans e10 e12), hjn, hin, fun v' o' H13 e13 ho' hpo' => ?_⟩
            refine ⟨v', o', rfl, ho', scal_size o o', _, rfl, ?_⟩
            refine iteNS (sizeV_eq (path_rev wfs hpo hpo')) ?_
            exact ⟨_, _, _, _, rfl, Ext.trans e10 (Ext.trans e12 e13)⟩
          · rintro σ H10 ⟨u4, u5, u7, u8, rfl, e10⟩
            exact ⟨_, _, _, _, _, rfl, e10⟩
      · rintro σ H7 ⟨v4, v5, v6, v7, v8, rfl, e7⟩
        refine ⟨_, rfl, f, n, fs, rfl, F2.ext e7, hn6, fun v o H8 e8 ho hho => ?_⟩
        refine ⟨_, rfl, b, n, invs n fs, rfl, B2.ext (Ext.trans e7 e8), hn6, fun v' o' H9 e9 ho' hho' => ?_⟩
        refine ⟨rfl, ?_⟩
        have hb : o.isNone = o'.isNone := by
          rw [Bool.eq_iff_iff, hold_none hho, hold_none hho', loses_inv wfs]
        rw [ho.is, ho'.is, hb, decide_eq_true rfl]
        have eAll := Ext.trans e7 (Ext.trans e8 e9)
        exact k H9 (Exb.trans (Ext.exb e1) (Exb.trans x2 (Ext.exb eAll))) (hp2.ext eAll)
end
end CM
-- part R6
set_option Elab.async false
set_option linter.all false
set_option maxRecDepth 100000
set_option maxHeartbeats 4000000
/-! ### comprehensions: one frame for all kinds -/
namespace CM
open PySem PySem.Spec PyProof.Rows L2 StX
/-- where a block's loop starts: the iterator it, what it owns (fp), the new thing at D -/
structure BlkAt (X : Cx) (scope : Scope) (own : List (Str × Nat)) (σ : L2.St) (u0 : HO) (it : Addr) (fp : List Addr) (H2 : Hp) (s2 : Shared) (D : Addr) (s3 s4 : Shared) (ce : Env) : Prop where
  env : ∃ cl, ce = compEnvC scope cl s3.heap.objs.size X.env
  inv : Inv (X.blk s3 (upd H2 D u0) scope ce fp) [] (wipe σ (own.map (·.2))) (upd H2 D u0) s4
  fresh : H2 D = none
  at_ : D = s2.heap.objs.size
  keep : ∀ b o, s2.heap.get? b = some o → s4.heap.get? b = some o
  gens : s4.gens = s2.gens
  fpn : ∀ b ∈ fp, (upd H2 D u0) b = none
  os : s4.os = s2.os
  ge : s2.heap.objs.size < s3.heap.objs.size
  loc : ce.locals = s3.heap.objs.size
theorem comp_core {X : Cx} {pins : List (Addr × Obj)} {σ : L2.St} {H : Hp} {s : Shared} {code tg iter : Expr} {ifs : List Expr} {scope : Scope} {own : List (Str × Nat)} {pos' : Pos} {use : Option (Value → Sem Unit)} {Qf : Value → Shared → Prop} {mk : Sem Value} {o0 : Obj} {u0 : HO}
    {Go : Addr → List Addr → Hp → Shared → Prop} {Qd : Addr → Hp → Prop}
    (hN : X.N.Nodup) (I : Inv X pins σ H s) (ok : BlkOk X.N X.env.scope scope own) (hcl : clausesOf code = [⟨tg, iter, ifs, 0⟩]) (hs : ∀ x, foldedSetIterable iter X.env x = pure x)
    (hmk : ∀ (s : Shared) (Q : Value → Shared → Prop), Q (.ref s.heap.objs.size) { s with heap := s.heap.push o0 } → wpAny (model X.prog X.w) X.A mk Q X.xe s) (hfr : o0.isFreed = false)
    (hu0 : ∀ (H : Hp) (s : Shared), sysModules < s.heap.objs.size → ObjOk X.prog X.w (upd H s.heap.objs.size u0) (s.heap.push o0) s.heap.objs.size u0)
    (hit : wpAny (model X.prog X.w) X.A (eval iter X.env) (fun xv s1 => wpAny (model X.prog X.w) X.A (pyIter xv) (fun itv s2 => ∃ it fp H2, itv = .ref it ∧ Inv X pins σ H2 s2 ∧ (∀ b ∈ fp, FpOk X pins H2 b ∧ b < s2.heap.objs.size) ∧ Go it fp H2 s2) X.xe s1) X.xe s)
    (body : ∀ it fp H2 s2 D s3 s4 ce, Go it fp H2 s2 → BlkAt X scope own σ u0 it fp H2 s2 D s3 s4 ce → ∀ R : Result → Shared → Prop,
      (∀ s6 H5, Inv (X.blk s3 (upd H2 D u0) scope ce fp) [] (wipe σ (own.map (·.2))) H5 s6 → Qd D H5 → R (.ok .next) s6) → codeAny (model X.prog X.w) X.A (.compStart code 0 (.ref it) (.ref D) ce) R s4)
    (hRR : ∀ D C s' m H', Inv X pins σ H' s' → Qd D H' → s'.heap.Ns C m → FpOk X pins H' C → compPost (model X.prog X.w) X.A X.xe use Qf (.ref D) C (.ok .next) s') :
    wpAny (model X.prog X.w) X.A (comprehension code scope X.env pos' mk false (eval iter X.env) use) Qf X.xe s := by
  have hf : ∀ y ∈ scope.names, y.2 = .free → ∃ c, X.env.cells.lookup y.1 = some c := fun y hy e => (ok.free y hy e).elim (fun k => I.ok.has _ (.inl k)) fun k => I.ok.has _ (.inr k)
  refine wpAny_comprehension_free (use := use) hcl hs (closure_ok hf) ok.kind (fun y hy e => by rw [ok.uniq y hy, e]) (thn hit fun xv s1 hx => thn hx fun itv s2 h2 => ?_)
  obtain ⟨it, fp, H2, rfl, I2, f2, go⟩ := h2
  refine hmk s2 _ (newEnv_comp ?_)
  have hDn : H2 s2.heap.objs.size = none := I2.hok.fresh (Nat.le_refl _)
  have kp2 : ∀ b o, s2.heap.get? b = some o → (s2.heap.push o0).get? b = some o := fun b o e => Heap.get?_push_of_some _ e
  have I3 : Inv X pins σ (upd H2 s2.heap.objs.size u0) { s2 with heap := s2.heap.push o0 } := I2.laid (t' := s2.toks) kp2 (Nat.le_refl _) (hu0 H2 s2 I2.big)
  have f3 : ∀ b ∈ fp, FpOk X pins (upd H2 s2.heap.objs.size u0) b ∧ b < ({ s2 with heap := s2.heap.push o0 } : Shared).heap.objs.size := fun b hb => by
    obtain ⟨⟨q0, q1⟩, q2⟩ := f2 b hb
    exact ⟨⟨by rw [upd_ne (Nat.ne_of_lt q2)]; exact q0, q1⟩, Nat.lt_of_lt_of_le q2 (by show _ ≤ (s2.heap.push o0).objs.size; rw [Heap.size_push]; omega)⟩
  have I4 := block_start I3 ok hN f3
  refine body it fp H2 s2 s2.heap.objs.size _ _ _ go ⟨⟨_, rfl⟩, I4, hDn, rfl, fun b o e => pushCells_keeps _ _ _ _ (Heap.get?_push_of_some _ (kp2 b o e)), rfl, fun b hb => (f3 b hb).1.1, rfl, by show _ < (s2.heap.push o0).objs.size; rw [Heap.size_push]; omega, rfl⟩ _ fun s6 H5 I6 q => ?_
  have I7 : Inv X pins σ H5 s6 := I3.call' (ch := fp) I6.os I6.base I6.hok I6.bare fun b hb => let z := (f3 b hb).1; ⟨z.2.2.2.1, z.2.1, z.2.2.2.2.1, z.2.2.2.2.2⟩
  obtain ⟨m, hn, _⟩ := I6.loc
  exact hRR s2.heap.objs.size _ s6 m H5 I7 q hn (I3.fpOk (Nat.le_refl _) I6.free)
/-- d[(..)] = v by a comprehension -/
theorem dT_set {X : Cx} {pins : List (Addr × Obj)} {σ : L2.St} {H : Hp} {s : Shared} {E : Value → Shared → Prop} {D b : Addr} {kvs : List (List Key × V)} {k : List Key} {v : V} {r : Value} {Q : Unit → Shared → Prop} (hu : X.A.units + 1 < cLine) (I : Inv X pins σ H s) (hD : H D = some (.dT kvs)) (hz : kvs.length < sizeLine)
    (hb : H b = some (.tup (k.map kV))) (rv : RelV v r) (h : ∀ s', Inv X pins σ (upd H D (.dT (putK kvs k v))) s' → Q () s') : wpAny (model X.prog X.w) X.A (dictSet D (.ref b) r) Q E s := by
  obtain ⟨z, hd, xs, rel, dd⟩ := dt_of I.hok hD
  have hx : xs.length ≤ sizeLine := by rw [← Paired.length rel]; exact z
  have hl : (putK kvs k v).length ≤ sizeLine := by have := length_putK kvs k v; omega
  refine wpAny_dictSet_heap (hsz := hx) (show X.A.units < cLine by omega) (key_of I.hok hb) dd fun h' dd' hs => h { s with heap := h', toks := _ } ?_
  obtain ⟨q, es, ep, hq, h2, h3, h4, _, h5⟩ := dd'
  refine d_write I (by rw [hD]; exact True.intro) hs ⟨q, hq⟩ ⟨hl, hd, _, (rel.put k hb rv).keeps fun c ys ec => ?_, q, es, ep, hq, h2, h3, h4, h5⟩
  rw [upd_ne (ne_of ec hD (fun z => nomatch z))]
  exact ec
/-- {t: v for target in iter}, the keys tuples -/
def tDcT (wi : TI) (g : TG) (tk tv : TE) (vs : List Nat) : TE := fun σ H Q => wi σ H fun J H1 => ∀ D, H1 D = none → ∃ W : Nat → Nat → Hp → Prop, (∃ m, W 0 m (upd H1 D (.dT []))) ∧ ∀ i m H, W i m H →
  (J.stop i H ∧ Q (.ref D) H) ∨ (J.go i H ∧ ∃ Nx : Hp → Prop, (∀ H', Nx H' → ∃ m', m' < m ∧ W (i + 1) m' H') ∧ ∀ x H', J.yld i H x H' → g x (wipe σ vs) H' fun σ2 H2 => wipe σ2 vs = wipe σ vs ∧
    tk σ2 H2 fun y H4 => tv σ2 H4 fun z H5 => ∃ kvs k b, y = .ref b ∧ H5 b = some (.tup (k.map kV)) ∧ H5 D = some (.dT kvs) ∧ kvs.length < sizeLine ∧ Nx (upd H5 D (.dT (putK kvs k z))))
theorem fp_ok {X : Cx} {s3 s' : Shared} {H3 H' : Hp} {scope : Scope} {ce : Env} {fp : List Addr} {σ' : L2.St} (I' : Inv (X.blk s3 H3 scope ce fp) [] σ' H' s') (hn : ∀ b ∈ fp, H' b = none) : ∀ b ∈ fp, FpOk (X.blk s3 H3 scope ce fp) [] H' b := fun b hb =>
  ⟨hn b hb, (I'.ok.exf b hb).1, I'.ok.exfs b hb, .inl hb, fun x c e => (I'.ok.exf b hb).2 x c e, fun p hp => absurd (show p ∈ ([] : List (Addr × Obj)) ++ [] from hp) (by simp)⟩
theorem pe_dcT {X : Cx} {kx vx tg iter : Expr} {scope : Scope} {own : List (Str × Nat)} {pos : Pos} {wi : TI} {g : TG} {tk tv : TE} (hc : X.calm = true) (hu : X.A.units + 1 < cLine) (hN : X.N.Nodup) (hi : PI X tg iter wi) (ok : BlkOk X.N X.env.scope scope own)
    (hg : ∀ (s : Shared) (H : Hp) (C : Addr) (cl : List (Str × Addr)) (fp : List Addr), PG (X.blk s H scope (compEnvC scope cl C X.env) fp) tg g)
    (hk : ∀ (s : Shared) (H : Hp) (C : Addr) (cl : List (Str × Addr)) (fp : List Addr), PE (X.blk s H scope (compEnvC scope cl C X.env) fp) kx tk)
    (he : ∀ (s : Shared) (H : Hp) (C : Addr) (cl : List (Str × Addr)) (fp : List Addr), PE (X.blk s H scope (compEnvC scope cl C X.env) fp) vx tv) (hs : ∀ x, foldedSetIterable iter X.env x = pure x := by intro _; rfl) :
    PE X (.DictComp kx vx [⟨tg, iter, [], 0⟩] scope pos) (tDcT wi g tk tv (own.map (·.2))) := by
  refine ⟨fun pins s σ H Q I h => ?_⟩
  rw [arm_eval_DictComp]
  refine comp_core (ifs := []) (o0 := { cls := .type "dict", data := .dict #[] }) (u0 := .dT []) (Qd := fun D H' => Q (.ref D) H')
    (Go := fun it fp H2 s2 => ∃ (tn : Nat → Heap → Prop) (J : It), Turn X.prog X.w X.K tg J fp it tn ∧ tn 0 s2.heap ∧ ∀ D, H2 D = none → ∃ W : Nat → Nat → Hp → Prop, (∃ m, W 0 m (upd H2 D (.dT []))) ∧ ∀ i m H, W i m H →
      (J.stop i H ∧ Q (.ref D) H) ∨ (J.go i H ∧ ∃ Nx : Hp → Prop, (∀ H', Nx H' → ∃ m', m' < m ∧ W (i + 1) m' H') ∧ ∀ x H', J.yld i H x H' → g x (wipe σ (own.map (·.2))) H' fun σ2 H2 => wipe σ2 (own.map (·.2)) = wipe σ (own.map (·.2)) ∧
        tk σ2 H2 fun y H4 => tv σ2 H4 fun z H5 => ∃ kvs k b, y = .ref b ∧ H5 b = some (.tup (k.map kV)) ∧ H5 D = some (.dT kvs) ∧ kvs.length < sizeLine ∧ Nx (upd H5 D (.dT (putK kvs k z)))))
    hN I ok rfl hs (fun s Q h => wpAny_newObj_type h) rfl (fun H s hb => dt_empty s.heap hb) ?_ ?_ ?_
  · refine thn (hi.run pins s σ H _ I h) fun xv s1 hx => thn hx fun itv s2 h2 => ?_
    obtain ⟨it, fp, tn, J, H2, e, I2, T, st2, f2, q⟩ := h2
    exact ⟨it, fp, H2, e, I2, fun b hb => ⟨f2 b hb, let ⟨o, eo, _⟩ := T.obj _ _ st2 b hb; Heap.lt_size eo⟩, tn, J, T, st2, q⟩
  · rintro it fp H2 s2 D s3 s4 ce ⟨tn, J, T, st2, q⟩ Bk R hR
    obtain ⟨W, ⟨m0, w0⟩, turn⟩ := q D Bk.fresh
    obtain ⟨cl, rfl⟩ := Bk.env
    have pg := hg s3 (upd H2 D (.dT [])) s3.heap.objs.size cl fp
    have pk := hk s3 (upd H2 D (.dT [])) s3.heap.objs.size cl fp
    have pe := he s3 (upd H2 D (.dT [])) s3.heap.objs.size cl fp
    have I4 := Bk.inv
    have n4 := Bk.fpn
    have st4 : tn 0 s4.heap := T.keep _ _ _ st2 fun b _ o e => Bk.keep b o e
    generalize compEnvC scope cl s3.heap.objs.size X.env = ce at I4 hR pg pk pe
    generalize hH3 : upd H2 D (.dT []) = H3 at I4 n4 hR pg pk pe w0
    have loop : codeAny (model X.prog X.w) X.A (.compLoop (.DictComp kx vx [⟨tg, iter, [], 0⟩] scope pos) 0 (.ref it) (.ref D) ce) R s4 := by
      refine compLoop_anyD (fun n s' => ∃ i H', Inv (X.blk s3 H3 scope ce fp) [] (wipe σ (own.map (·.2))) H' s' ∧ tn i s'.heap ∧ (∀ b ∈ fp, H' b = none) ∧ W i n H') ?_ m0 ⟨0, H3, I4, st4, n4, w0⟩
      rintro n s5 ⟨i, H5, I5, st5, n5, w5⟩
      rcases turn i n H5 w5 with ⟨stop, qq⟩ | ⟨go, Nx, hNx, step⟩
      · refine thnF (T.done (X.blk s3 H3 scope ce fp) rfl rfl rfl hc i [] s5 _ H5 (fun _ _ => False) I5 (fp_ok I5 n5) st5 stop) fun r s6 ⟨hr, I6⟩ => ?_
        subst hr
        exact hR s6 H5 I6 qq
      · refine thnF (T.item (X.blk s3 H3 scope ce fp) rfl rfl rfl hc i [] s5 _ H5 (fun _ _ => False) I5 (fp_ok I5 n5) st5 go) fun r s6 ⟨u, hr, h6⟩ => ?_
        subst hr
        refine thnF h6 fun _ s7 ⟨x, H7, I7, r7, y7, st7, n7⟩ => ?_
        have I7' := I7.pinned (fp_ok I7 n7) (T.obj _ _ st7)
        refine thnF (pg.run _ s7 _ H7 x u _ I7' r7 (step x H7 y7)) fun _ s8 ⟨σ8, H8, I8, hw8, q8⟩ => ?_
        refine wpAny_tests_nil ?_
        rw [if_pos rfl]
        refine thnF (pk.run _ s8 σ8 H8 _ I8 q8) fun z s10 ⟨yk, H10, I10, r10, q10⟩ => thnF (pe.run _ s10 σ8 H10 _ I10 q10) fun z2 s11 ⟨yv, H11, I11, r11, kvs, k, b, ek, hb11, hD11, hz11, nx⟩ => ?_
        subst ek
        cases (show z = Value.ref b from r10)
        refine dT_set (X := X.blk s3 H3 scope ce fp) hu I11 hD11 hz11 hb11 r11 fun s12 I12 => ?_
        obtain ⟨m', hm, w'⟩ := hNx _ nx
        have pin' : ∀ b ∈ fp, ∀ o, s7.heap.get? b = some o → s12.heap.get? b = some o ∧ upd H11 D (.dT (putK kvs k yv)) b = none := fun b hb o e =>
          let z := I12.pin (b, o) (List.mem_append_right _ (List.mem_append_right _ (mem_pinsAt hb e)))
          ⟨z.1, z.2.1⟩
        refine ⟨m', hm, i + 1, _, (I12.unpinned (pins := [])).weak (by rw [← hw8, wipe_length]) (fun j v e => by rw [← hw8] at e; exact (wipe_some e).1), T.keep _ _ _ st7 fun b hb o e => (pin' b hb o e).1, fun b hb => ?_, w'⟩
        obtain ⟨o, e, _⟩ := T.obj _ _ st7 b hb
        exact (pin' b hb o e).2
    exact codeAny_compStart_dict loop (T.self X.A 0 _ _ _ st4 loop)
  · intro D C s' m H' I' q hn f
    obtain ⟨f0, f1, f2, f3, f4, f5⟩ := f
    exact ⟨m, hn, fun h'' sb => ⟨.ref D, H', I'.turned (t' := s'.toks) (fun b o hb e => (sb.2 b hb).trans e) f0 f1 f3 f4 f5, rfl, q⟩⟩
end CM
-- part D18
set_option Elab.async false
set_option linter.all false
set_option maxRecDepth 100000
set_option maxHeartbeats 4000000
/-! ### is_holding -/
namespace CM
open PySem PySem.Spec PyProof.Rows L2 StX
section
variable {J : It} {n : Nat} {G : Hp → Prop} {Y : Nat → Hp → V → Hp → Prop}
/-- a dict comprehension with tuples as keys, over a walk -/
theorem dcT_it (w : Walk J n G Y) {g : TG} {tk tv : TE} {vs : List Nat} {σ : L2.St} {H1 : Hp} {D : Addr} {Qd : Hp → Prop} (Pv : Nat → Hp → Prop) (h0 : Pv 0 (upd H1 D (.dT []))) (hG : ∀ i H, i ≤ n → Pv i H → G H)
    (hs : ∀ i x H H', i < n → Pv i H → Y i H x H' → g x (wipe σ vs) H' fun σ2 H2 => wipe σ2 vs = wipe σ vs ∧
      tk σ2 H2 fun y H4 => tv σ2 H4 fun z H5 => ∃ kvs k b, y = .ref b ∧ H5 b = some (.tup (k.map kV)) ∧ H5 D = some (.dT kvs) ∧ kvs.length < sizeLine ∧ Pv (i + 1) (upd H5 D (.dT (putK kvs k z)))) (hd : ∀ H, Pv n H → Qd H) :
    ∃ W : Nat → Nat → Hp → Prop, (∃ m, W 0 m (upd H1 D (.dT []))) ∧ ∀ i m H, W i m H →
      (J.stop i H ∧ Qd H) ∨ (J.go i H ∧ ∃ Nx : Hp → Prop, (∀ H', Nx H' → ∃ m', m' < m ∧ W (i + 1) m' H') ∧ ∀ x H', J.yld i H x H' → g x (wipe σ vs) H' fun σ2 H2 => wipe σ2 vs = wipe σ vs ∧
        tk σ2 H2 fun y H4 => tv σ2 H4 fun z H5 => ∃ kvs k b, y = .ref b ∧ H5 b = some (.tup (k.map kV)) ∧ H5 D = some (.dT kvs) ∧ kvs.length < sizeLine ∧ Nx (upd H5 D (.dT (putK kvs k z)))) := by
  refine ⟨fun i m H => m = n - i ∧ i ≤ n ∧ Pv i H, ⟨n, by simp, Nat.zero_le _, h0⟩, ?_⟩
  rintro i m H ⟨rfl, hi, p⟩
  have q := hG i H hi p
  by_cases hlt : i < n
  · exact .inr ⟨w.goes i H hlt q, Pv (i + 1), fun H' p' => ⟨n - (i + 1), by omega, rfl, hlt, p'⟩, fun x H' y => hs i x H H' hlt p (w.yields i H x H' hlt q y)⟩
  · have e : i = n := by omega
    subst e
    exact .inl ⟨w.stops H q, hd H p⟩
/-- the inner loop of two -/
def In1 (J1 : It) (g1 : TG) (tt1 : TT) (te : TE) (vs1 : List Nat) (σ2 : L2.St) (D : Addr) (H4 : Hp) (Nx : Hp → Prop) : Prop :=
  ∃ W1 : Nat → Nat → Hp → Prop, (∃ m, W1 0 m H4) ∧ ∀ j k H, W1 j k H →
      (J1.stop j H ∧ Nx H) ∨ (J1.go j H ∧ ∃ Nx1 : Hp → Prop, (∀ H', Nx1 H' → ∃ k', k' < k ∧ W1 (j + 1) k' H') ∧ ∀ x H', J1.yld j H x H' → g1 x (wipe σ2 vs1) H' fun σ3 H5 => wipe σ3 vs1 = wipe σ2 vs1 ∧ tt1 σ3 H5 fun b H6 =>
        if b = true then te σ3 H6 fun y H7 => ∃ acc, H7 D = some (.lst acc) ∧ acc.length < sizeLine ∧ Nx1 (upd H7 D (.lst (acc ++ [y]))) else Nx1 H6)
theorem in1_it (w : Walk J n G Y) {g1 : TG} {te : TE} {vs1 : List Nat} {σ2 : L2.St} {D : Addr} {H4 : Hp} {Nx : Hp → Prop} (Pv : Nat → Hp → Prop) (h0 : Pv 0 H4) (hG : ∀ i H, i ≤ n → Pv i H → G H)
    (hs : ∀ i x H H', i < n → Pv i H → Y i H x H' → g1 x (wipe σ2 vs1) H' fun σ3 H5 => wipe σ3 vs1 = wipe σ2 vs1 ∧ te σ3 H5 fun y H7 => ∃ acc, H7 D = some (.lst acc) ∧ acc.length < sizeLine ∧ Pv (i + 1) (upd H7 D (.lst (acc ++ [y]))))
    (hd : ∀ H, Pv n H → Nx H) (mono : ∀ x H' (Q Q' : L2.St → Hp → Prop), (∀ σ H, Q σ H → Q' σ H) → g1 x (wipe σ2 vs1) H' Q → g1 x (wipe σ2 vs1) H' Q') : In1 J g1 tYes te vs1 σ2 D H4 Nx := by
  refine ⟨fun i m H => m = n - i ∧ i ≤ n ∧ Pv i H, ⟨n, by simp, Nat.zero_le _, h0⟩, ?_⟩
  rintro i m H ⟨rfl, hi, p⟩
  have q := hG i H hi p
  by_cases hlt : i < n
  · refine .inr ⟨w.goes i H hlt q, Pv (i + 1), fun H' p' => ⟨n - (i + 1), by omega, rfl, hlt, p'⟩, fun x H' y => mono _ _ _ _ (fun σ3 H5 z => ⟨z.1, yesT z.2⟩) (hs i x H H' hlt p (w.yields i H x H' hlt q y))⟩
  · have e : i = n := by omega
    subst e
    exact .inl ⟨w.stops H q, hd H p⟩
end
section
variable {J : It} {n : Nat} {G : Hp → Prop} {Y : Nat → Hp → V → Hp → Prop}
/-- the outer loop of two -/
theorem outer_it (w : Walk J n G Y) {j : Nat} {J1 : L2.St → Hp → (It → Hp → Prop) → Prop} {g1 : TG} {te : TE} {vs vs1 : List Nat} {σ : L2.St} {H1 : Hp} {D : Addr} {Qd : Hp → Prop} (Pv : Nat → Hp → Prop) (h0 : Pv 0 (upd H1 D (.lst []))) (hG : ∀ i H, i ≤ n → Pv i H → G H)
    (hs : ∀ i x H H', i < n → Pv i H → Y i H x H' → gName j x (wipe σ vs) H' fun σ2 H2 => wipe σ2 vs = wipe σ vs ∧ J1 σ2 H2 fun J2 H4 => In1 J2 g1 tYes te vs1 σ2 D H4 (Pv (i + 1))) (hd : ∀ H, Pv n H → Qd H) :
    ∃ W : Nat → Nat → Hp → Prop, (∃ m, W 0 m (upd H1 D (.lst []))) ∧ ∀ i m H, W i m H →
      (J.stop i H ∧ Qd H) ∨ (J.go i H ∧ ∃ Nx : Hp → Prop, (∀ H', Nx H' → ∃ m', m' < m ∧ W (i + 1) m' H') ∧ ∀ x H', J.yld i H x H' → gName j x (wipe σ vs) H' fun σ2 H2 => wipe σ2 vs = wipe σ vs ∧ tYes σ2 H2 fun b H3 =>
        if b = true then J1 σ2 H3 fun J2 H4 => In1 J2 g1 tYes te vs1 σ2 D H4 Nx else Nx H3) := by
  refine ⟨fun i m H => m = n - i ∧ i ≤ n ∧ Pv i H, ⟨n, by simp, Nat.zero_le _, h0⟩, ?_⟩
  rintro i m H ⟨rfl, hi, p⟩
  have q := hG i H hi p
  by_cases hlt : i < n
  · refine .inr ⟨w.goes i H hlt q, Pv (i + 1), fun H' p' => ⟨n - (i + 1), by omega, rfl, hlt, p'⟩, fun x H' y => ?_⟩
    obtain ⟨z1, z2⟩ := hs i x H H' hlt p (w.yields i H x H' hlt q y)
    exact ⟨z1, yesT z2⟩
  · have e : i = n := by omega
    subst e
    exact .inl ⟨w.stops H q, hd H p⟩
end
section
variable {P : Program} {w : World} {K : PySem.W.Frag} {mg : Str → Option Value} {base : Heap}
def rTupC (K : PySem.W.Frag) : List V → Hp → VK → Prop := fun xs H Q => ∃ (p : Addr) (ys : List V), xs = [V.ref p] ∧ ((SqL K H p ys ∧ ∀ l, H l = none → Q (.ref l) (upd H l (.tup ys))) ∨ (SqT K H p ys ∧ Q (.ref p) H))
def keysOf (Ps : List (List Nat)) : List (List Key × V) := Ps.map fun S => (encS S, V.bl true)
theorem keys_has (Ps : List (List Nat)) (S : List Nat) : (valV (keysOf Ps) (encS S)).isSome = decide (S ∈ Ps) := by
  unfold keysOf
  induction Ps with
  | nil => rfl
  | cons a ks ih =>
    rw [List.map_cons]
    by_cases h : a = S
    · subst h
      rw [valV_pos (p := (encS a, V.bl true)) rfl]
      simp
    · rw [valV_neg (p := (encS a, V.bl true)) (fun z => h (encS_inj z)), ih]
      have : S ≠ a := fun z => h z.symm
      simp [this]
theorem keys_no {Ps : List (List Nat)} {S : List Nat} (h : S ∉ Ps) : valV (keysOf Ps) (encS S) = none := by
  cases e : valV (keysOf Ps) (encS S) with
  | none => rfl
  | some v =>
    have := keys_has Ps S
    rw [e, decide_eq_false h] at this
    cases this
theorem keys_len (Ps : List (List Nat)) : (keysOf Ps).length = Ps.length := List.length_map ..
def spIsHold (K : PySem.W.Frag) : Sp := fun vs H Q _ => ∃ f r n fs as Ps, vs = [.ref f, .ref r] ∧ FamAt K H f n fs ∧ n ≤ 6 ∧ H r = some (.lst (refs as)) ∧ LLAt H as Ps ∧ Paper n fs Ps ∧ Ps.Nodup ∧ Ps.length ≤ 64 ∧ ∀ H', Ext H H' → Q (.bl true) H'
theorem sc_isHold : FnScope ["family", "value", "known", "tables", "places", "one", "table"] ["family", "value"] (defScope (top 53)) := ⟨rfl, rfl, rfl, by decide +kernel, rfl, by decide +kernel, by decide +kernel⟩
theorem ok_isHold (T : Txt K mg) : Fn P w K mg base 5 (He.ga K "is_holding") (spIsHold K) := by
  refine fn_by T.d_is_holding sc_isHold (fun _ _ _ _ _ _ us hl => match us, hl with | [_, _], _ => rfl) (fun vs H Q E h => ?_) (fun cdv A outer s H vs Q E hr h => ?_)
  · obtain ⟨f, r, n, fs, as, Ps, rfl, _⟩ := h
    rfl
  · obtain ⟨f, r, n, fs, as, Ps, rfl, F, hn6, hrl, LL, Pp, nd, few, k⟩ := h
    have hu := hu_of hr
    have sz := F.sz
    refine ⟨_, pss_cons (ps_expr (pe_fn (ok_chkfam T) (hr.mono (by decide)) (by rfl) T.g_check_family T.d_check_family.kp (pa_cons (pv 0) pa_nil)))
      (pss_cons (ps_if (PW.pt (pw_or (pt_not (pt_val (pe_callB call_isi (by rfl) T.u_isinstance (by decide +kernel) (pa_cons (pv 1) (pa_cons (pe_bltn (v := .ty "list") (by rfl) T.u_list (by decide +kernel) rfl) pa_nil)))))
          (pw_or1 (pt_not (pt_val (pe_callB (cr_all rfl) (by rfl) T.u_all (by decide +kernel) (pa_cons
            (pe_lc (own := [("places", 4)]) (g := gName 4) (tt := tYes) rfl sc_isHold.nd (pi_list (pv 1)) (blkOk_by (own := [("places", 4)]) (N := ["family", "value", "known", "tables", "places", "one", "table"]) (sc := defScope (top 53)) (by decide +kernel))
              (fun _ _ _ _ _ => pg_name (i := 4) sc_isHold.nd rfl (Or.inl rfl)) (fun _ _ _ _ _ => pts_nil) (fun _ _ _ _ _ => pe_fn (ok_isset T) (hr.mono (by decide)) (by rfl) T.g_is_set T.d_is_set.kp (pa_cons (pv 4) (pa_cons (pe_pr (pv 0) T.c_Family T.m_pFSize (ok_fsize T) (hr.mono (by decide))) pa_nil))) (fun _ => rfl)) pa_nil))))))) (pss_never (X := _)) pss_nil)
      (pss_cons (ps_set (i := 2) sc_isHold.nd rfl (Or.inr rfl) (pe_dcT (own := [("places", 4)]) (g := gName 4) rfl hu sc_isHold.nd (pi_list (pv 1)) (blkOk_by (own := [("places", 4)]) (N := ["family", "value", "known", "tables", "places", "one", "table"]) (sc := defScope (top 53)) (by decide +kernel))
          (fun _ _ _ _ _ => pg_name (i := 4) sc_isHold.nd rfl (Or.inl rfl)) (fun _ _ _ _ _ => pe_callTy (T := "tuple") (r := rTupC K) call_tuple_of (by rfl) T.u_tuple (by decide +kernel) (pa_cons (pv 4) pa_nil)) (fun _ _ _ _ _ => pe_bl)))
      (pss_cons (ps_if (pt_cmp (pc_dnotin hu (pe_tupRg rfl (by rfl) T.u_tuple (prg_1 (by rfl) T.u_range (pe_pr (pv 0) T.c_Family T.m_pFSize (ok_fsize T) (hr.mono (by decide))))) (pv 2))) (pss_never (X := _)) pss_nil)
      (pss_cons (ps_set (i := 3) sc_isHold.nd rfl (Or.inr rfl) (pe_lc (own := [("one", 5)]) (g := gName 5) (tt := tYes) rfl sc_isHold.nd (pi_tup (pe_pr (pv 0) T.c_Family T.m_pMaps (ok_fmaps T) (hr.mono (by decide)))) (blkOk_by (own := [("one", 5)]) (N := ["family", "value", "known", "tables", "places", "one", "table"]) (sc := defScope (top 53)) (by decide +kernel))
          (fun _ _ _ _ _ => pg_name (i := 5) sc_isHold.nd rfl (Or.inl rfl)) (fun _ _ _ _ _ => pts_nil) (fun _ _ _ _ _ => pe_pr (pv 5) T.c_Map T.m_pArrows (ok_arrows T) (hr.mono (by decide))) (fun _ => rfl)))
      (pss_one (ps_ret (pe_callB (cr_all rfl) (by rfl) T.u_all (by decide +kernel) (pa_cons
        (pe_lock (pe_lc2 (own := [("places", 4), ("table", 6)]) (vs1 := [6]) (g := gName 4) (g1 := gName 6) (tt := tYes) (tt1 := tYes) (wi1 := iList K (tVar 3)) rfl sc_isHold.nd (pi_keys (pv 2)) (blkOk_by (own := [("places", 4), ("table", 6)]) (N := ["family", "value", "known", "tables", "places", "one", "table"]) (sc := defScope (top 53)) (by decide +kernel)) (by decide)
          (fun _ _ _ _ _ => pg_name (i := 4) sc_isHold.nd rfl (Or.inl rfl)) (fun _ _ _ _ _ => pts_nil) (fun _ _ _ _ _ => pi_list (pv 3)) (fun _ _ _ _ _ => pg_name (i := 6) sc_isHold.nd rfl (Or.inl rfl)) (fun _ _ _ _ _ => pts_nil)
          (fun _ _ _ _ _ => pe_cmp (pc_din hu (pe_fn (ok_image T) (hr.mono (by decide)) (by rfl) T.g_image_of T.d_image_of.kp (pa_cons (pv 4) (pa_cons (pv 6) pa_nil))) (pv 2))) (fun _ => rfl) (fun _ _ => rfl))) pa_nil)))))))), ?_⟩
    obtain ⟨dx, t, ps, h1, h2, h3⟩ := F.ob
    have hal : (refs as).length = Ps.length := by rw [List.length_map, LL.1]
    refine ⟨_, rfl, f, n, fs, rfl, F, ?_⟩
    refine ⟨_, rfl, .ref r, .ty "list", _, _, true, rfl, .ty _, .base (.lst hrl), kit_ty (by decide +kernel), _, rfl, iteF ?_⟩
    have sq : SqL K H r (refs as) := Or.inl (Or.inl hrl)
    refine ⟨_, rfl, r, rfl, ⟨_, sq⟩, fun D hD => ?_⟩
    refine lc_it (walk_list (xs := refs as)) (fun i H2 => Ext H H2 ∧ H2 D = some (.lst ((List.replicate i true).map V.bl))) ⟨Ext.upd hD, upd_same⟩ (fun i H2 _ ⟨e2, _⟩ => sq.ext e2) ?_ ?_
    · rintro i x H2 H3 hi ⟨e2, h2'⟩ ⟨rfl, hx⟩
      obtain ⟨a, rfl, ha⟩ := refs_get hx
      obtain ⟨S, hS, haS⟩ := LL.2 i a ha
      have hm := List.mem_of_getElem? hS
      refine ⟨rfl, yesT ⟨_, rfl, _, rfl, f, dx, _, rfl, e2 _ _ h1, f, n, fs, rfl, F.ext e2, a, n, S, rfl, e2 _ _ haS, Pp.asc S hm, Pp.ne S hm, sz.2, fun H4 e4 => ?_⟩⟩
      refine ⟨_, e4 _ _ h2', ?_, Ext.mut (Ext.trans e2 e4) hD, by rw [upd_same, rep_snoc]⟩
      rw [List.length_map, List.length_replicate]
      rw [hal] at hi
      exact small300 (m := 64) (by omega) (by decide)
    rintro H2 ⟨e2, h2'⟩
    refine ⟨D, _, rfl, Or.inl (Or.inl h2'), _, rfl, ?_⟩
    rw [all_true]
    refine iteF ?_
    have hr2 := e2 _ _ hrl
    have sq2 : SqL K H2 r (refs as) := Or.inl (Or.inl hr2)
    refine ⟨_, rfl, r, rfl, ⟨_, sq2⟩, fun d hd => ?_⟩
    refine dcT_it (walk_list (xs := refs as)) (fun i H3 => Ext H2 H3 ∧ H3 d = some (.dT (keysOf (Ps.take i)))) ⟨Ext.upd hd, upd_same⟩ (fun i H3 _ ⟨e3, _⟩ => sq2.ext e3) ?_ ?_
    · rintro i x H3 H4 hi ⟨e3, hd3⟩ ⟨rfl, hx⟩
      obtain ⟨a, rfl, ha⟩ := refs_get hx
      obtain ⟨S, hS, haS⟩ := LL.2 i a ha
      have haS3 := e3 _ _ (e2 _ _ haS)
      refine ⟨rfl, _, rfl, a, natsV S, rfl, Or.inl ⟨Or.inl (Or.inl haS3), fun b hb => ?_⟩⟩
      have ndb : d ≠ b := ne_of_none hd3 hb
      have eB := Ext.upd (o := .tup (natsV S)) hb
      have hnew : valV (keysOf (Ps.take i)) (encS S) = none := keys_no fun hm => by
        obtain ⟨j, hj, ej⟩ := take_mem hm
        have := CM.nodup_ix nd ej hS
        omega
      refine ⟨_, encS S, b, rfl, by rw [upd_same, encS_v], eB _ _ hd3, ?_, Ext.mut (Ext.trans e3 eB) hd, ?_⟩
      · rw [keys_len, List.length_take]
        exact small300 (m := 64) (by omega) (by decide)
      · rw [upd_same, putK_new _ hnew, take_succ hS]
        unfold keysOf
        rw [List.map_append]
        rfl
    rintro H3 ⟨e3, hd3⟩
    rw [hal, List.take_length] at hd3
    have e03 := Ext.trans e2 e3
    refine ⟨_, rfl, f, dx, _, rfl, e03 _ _ h1, f, n, fs, rfl, F.ext e03, n, rfl, ⟨by omega, by omega, by omega, by omega, by omega⟩, fun q hq => ?_⟩
    rw [rgV_nats]
    have eQ := Ext.upd (o := .tup (natsV (List.range n))) hq
    refine ⟨_, rfl, d, _, rfl, DGet.t (k := encS (List.range n)) (eQ _ _ hd3) (by rw [encS_v, upd_same]), _, rfl, ?_⟩
    rw [keys_has, decide_eq_true Pp.full]
    refine iteF ?_
    have e04 := Ext.trans e03 eQ
    refine ⟨_, rfl, f, dx, _, rfl, e04 _ _ h1, f, dx, t, rfl, e04 _ _ h1, t, rfl, ⟨_, Or.inl (Or.inl (e04 _ _ h2))⟩, fun tb htb => ?_⟩
    refine tabs_read (by show 5 < 7; decide) htb (Or.inl (Or.inl (e04 _ _ h2))) (h3.ext e04) F.hi fun H5 ts e5 htb5 hts => ?_
    have hd5 := e5 _ _ (eQ _ _ hd3)
    refine ⟨d, _, hd5, trivial, fun od => ?_⟩
    have ntd : tb ≠ d := ne_of htb5 hd5 (by intro z; cases z)
    have htl : (refs ts).length = fs.length := by rw [List.length_map, hts.1]
    refine ⟨_, rfl, d, od, rfl, Or.inr ⟨keysOf Ps, upd_same, fun D2 hD2 => ?_⟩⟩
    have nDd : D2 ≠ d := fun z => by rw [z, upd_same] at hD2; cases hD2
    have hts6 : TabsAt (upd H5 d (.frz od (.dT (keysOf Ps)))) n ts fs := ⟨hts.1, fun i t' hi => by
      obtain ⟨g, g1, g2, g3⟩ := hts.2 i t' hi
      exact ⟨g, g1, by rw [upd_ne (ne_of g2 hd5 (by intro z; cases z))]; exact g2, g3⟩⟩
    have htb6 : (upd H5 d (.frz od (.dT (keysOf Ps)))) tb = some (.lst (refs ts)) := by rw [upd_ne ntd]; exact htb5
    generalize hH6 : upd H5 d (.frz od (.dT (keysOf Ps))) = H6 at *
    have hd6 : H6 d = some (.frz od (.dT (keysOf Ps))) := by rw [← hH6, upd_same]
    refine outer_it walk_keysT (fun i H7 => Ext H6 H7 ∧ H7 D2 = some (.lst ((List.replicate (i * fs.length) true).map V.bl))) ⟨Ext.upd hD2, by rw [upd_same, Nat.zero_mul]; rfl⟩ (fun i H7 _ ⟨e7, _⟩ => e7 _ _ hd6) ?_ ?_
    · rintro i x H7 H8 hi ⟨e7, h7⟩ ⟨rfl, key, v, qa, hkv, rfl, hqa⟩
      rw [keys_len] at hi
      obtain ⟨S, hS⟩ : ∃ S, Ps[i]? = some S := ⟨_, List.getElem?_eq_getElem hi⟩
      have hm := List.mem_of_getElem? hS
      have hkey : key = encS S := by
        unfold keysOf at hkv
        rw [List.getElem?_map, hS] at hkv
        have := Option.some.inj hkv
        exact (congrArg Prod.fst this).symm
      subst hkey
      rw [encS_v] at hqa
      refine ⟨rfl, ?_⟩
      refine ⟨_, rfl, tb, rfl, ⟨_, Or.inl (Or.inl (e7 _ _ htb6))⟩, ?_⟩
      refine in1_it (walk_list (xs := refs ts)) (fun j H9 => Ext H6 H9 ∧ H9 qa = some (.tup (natsV S)) ∧ H9 D2 = some (.lst ((List.replicate (i * fs.length + j) true).map V.bl))) ⟨e7, hqa, h7⟩ (fun j H9 _ ⟨e9, _⟩ => Or.inl (Or.inl (e9 _ _ htb6))) ?_ ?_ (fun _ _ _ _ m z => m _ _ z)
      · rintro j y H9 H10 hj ⟨e9, hq9, h9⟩ ⟨rfl, hy⟩
        obtain ⟨tp, rfl, htp⟩ := refs_get hy
        obtain ⟨g, hg, htab, hwf⟩ := hts6.2 j tp htp
        have hjl : j < fs.length := (List.getElem?_eq_some_iff.mp hg).1
        refine ⟨rfl, ?_⟩
        refine ⟨_, rfl, _, rfl, qa, tp, n, S, g, rfl, hq9, e9 _ _ htab, hwf, Pp.asc S hm, sz.2, fun lt H11 hlt e11 hl11 => ?_⟩
        have e611 := Ext.trans e9 e11
        refine ⟨_, rfl, d, _, rfl, Or.inr ⟨_, encS (img n g S), lt, Or.inr ⟨od, e611 _ _ hd6⟩, rfl, by rw [encS_v]; exact hl11, rfl⟩, ?_⟩
        have hin : img n g S ∈ Ps := by
          have := Pp.cl S hm j hjl
          rw [ltr_get hg] at this
          exact this
        rw [keys_has, decide_eq_true hin]
        refine ⟨_, e11 _ _ h9, ?_, Ext.mut e611 hD2, ?_, by rw [upd_same, rep_snoc]; rfl⟩
        · rw [List.length_map, List.length_replicate]
          have h10 := F.hi
          have : i * fs.length ≤ 64 * 10 := Nat.mul_le_mul (by omega) h10
          exact Nat.lt_of_le_of_lt (by omega : _ ≤ 700) (by decide)
        · have nq : qa ≠ D2 := ne_of hq9 h9 (by intro z; cases z)
          rw [upd_ne nq]
          exact e11 _ _ hq9
      · rintro H9 ⟨e9, hq9, h9⟩
        rw [htl] at h9
        exact ⟨e9, by rw [h9, Nat.succ_mul]⟩
    · rintro H7 ⟨e7, h7⟩
      refine ⟨e7 _ _ hd6, ?_⟩
      refine ⟨D2, _, rfl, Or.inl (Or.inl (by rw [upd_ne nDd]; exact h7)), ?_⟩
      rw [all_true]
      rw [← hH6] at e7
      exact k _ (Ext.trans e04 (Ext.trans e5 (Ext.unlock e7 hd5)))
end
end CM
-- part R7
set_option Elab.async false
set_option linter.all false
set_option maxRecDepth 100000
set_option maxHeartbeats 4000000
/-! ### promises where nothing is being shown: repr of a dict -/
namespace CM
open PySem PySem.Spec PyProof.Rows L2 StX
/-- a def by its positional promise, called where the stack holds no repr of a container -/
def FnG (P : Program) (w : World) (K : PySem.W.Frag) (mg : Str → Option Value) (base : Heap) (k : Nat) (f : Addr) (sp : Sp) : Prop :=
  ∀ (A : Around) (outer : List Env) (s : Shared) (H : Hp) (us : List Value) (vs : List V) (Q : VK) (E : XK), A.guards = some [] → Room k A → Env0 P w K mg base A outer s H → Vals vs us → sp vs H Q E → codeAny (model P w) A (.call (.ref f) ⟨us, []⟩) (CR CX0 outer P w H s Q E) s
section
variable {P : Program} {w : World} {K : PySem.W.Frag} {mg : Str → Option Value} {base : Heap} {k j : Nat} {f : Addr} {sp : Sp}
theorem Fn.g (F : Fn P w K mg base k f sp) : FnG P w K mg base k f sp := fun A outer s H us vs Q E _ => F A outer s H us vs Q E
theorem FnG.mono (F : FnG P w K mg base j f sp) (h : j ≤ k) : FnG P w K mg base k f sp := fun A outer s H us vs Q E hg hr => F A outer s H us vs Q E hg (hr.mono h)
theorem fng_by {x qual : Str} {st : Stmt} {N ps : List Str} (F : HasD K x qual st f) (S : FnScope N ps (defScope st))
    (hb : ∀ (kV doc pm : Value) (an : Option Addr) (cdv ct : Value) (us : List Value), us.length = ps.length → bindArgs (PySem.W.fnOf x qual (defArgs st) (defBody st) (defScope st) .none kV doc pm an cdv ct) ⟨us, []⟩ = pure (ps.zip us))
    (len : ∀ vs H Q E, sp vs H Q E → vs.length = ps.length)
    (hbody : ∀ (cdv : Value) (A : Around) (outer : List Env) (s : Shared) (H : Hp) (vs : List V) (Q : VK) (E : XK), A.guards = some [] → Room k (A.deeper (envOfC qual (defScope st) s.heap.objs.size f cdv)) → sp vs H Q E →
      ∃ t, PSs (cxOf CX0 P w K mg base N qual (defScope st) f cdv A outer s H E).nox (defBody st) t ∧ t { nx := fun _ H' => Q .non H', rt := Q } (start N vs) H) : FnG P w K mg base (k + 1) f sp := by
  obtain ⟨fd, F⟩ := F
  intro A outer s H us vs Q E hg hr e0 r hsp
  have hl := len _ _ _ _ hsp
  have hul : us.length = ps.length := by rw [← r.length]; exact hl
  obtain ⟨oc, od, dV, kV, doc, pm, an, cdv, ct, osl, rfl, lk, hcd, hD, hK⟩ := F.ex
  rcases hD with ⟨_, rfl⟩ | ⟨e, _⟩
  case inr => exact absurd rfl e
  have KX : K.In s.heap := e0.mod.kin.keeps fun b o e => (e0.bs b o e).1
  have lim : s.heap.NoLimit := e0.mod.nolimit.keeps fun b o e => (e0.bs b o e).1
  refine codeAny_call_function hr.depth (KX _ _ lk) rfl S.co S.gen rfl (PySem.W.codeRec_of KX hcd) (BindsTo.of_eq (hb kV doc pm an cdv ct us hul) _ _ _ _ ?_)
  refine wpAny_newFunctionEnv_cells S.kind (fun y hy => (S.par y.1 (List.of_mem_zip hy).1).imp id fun q => ⟨q, PySem.W.cellsFrom_some _ _ _ (.inl q)⟩) fun env he s1 x => ?_
  subst he
  refine ⟨lim.keeps x.toInCall.keep, codeAny_func ?_⟩
  obtain ⟨t, ht, hq⟩ := hbody cdv A outer s H vs Q E hg (hr.deeper _) hsp
  have I : Inv (cxOf CX0 P w K mg base N qual (defScope _) f cdv A outer s H E) [] (start N vs) H s1 := inv_start S hr.hd e0 hl r x
  refine wpAny_mono (ht.nox.run [] s1 (start N vs) H _ I hq) (fun fl s' hs => ?_) fun e s' hs => hs
  cases fl with
  | ret u =>
    obtain ⟨v, σ', H', Jv, rv, q⟩ := hs
    exact ⟨v, H', Jv.os, Jv.bare, Jv.base, Jv.hok, rv, q⟩
  | next =>
    obtain ⟨σ', H', Jv, q⟩ := hs
    exact ⟨V.non, H', Jv.os, Jv.bare, Jv.base, Jv.hok, rfl, q⟩
  | brk => exact False.elim hs.choose_spec.choose_spec.2
  | cont => exact False.elim hs.choose_spec.choose_spec.2
end
section
variable {X : Cx} {k : Nat} {f : Addr} {sp : Sp} {pins : List (Addr × Obj)} {σ : L2.St} {H : Hp} {s : Shared}
theorem run_subG {A : Around} {us : List Value} {vs : List V} {Q : VK} {E : Value → Shared → Prop} (sb : L2.Sub X k A) (hg : A.guards = some []) (F : FnG X.prog X.w X.K X.mg X.base k f sp) (I : Inv X pins σ H s) (r : Vals vs us) (h : sp vs H Q E0) :
    wpAny (model X.prog X.w) A (call (.ref f) us) (EP X pins σ Q) E s := by
  have e0 : Env0 X.prog X.w X.K X.mg X.base A X.stack s H := by
    have e := I.env0
    exact ⟨by rw [sb.fr]; exact e.frames, e.mod, e.bs, e.bsz, e.funs, e.frf, e.hok, e.bare⟩
  refine wpAny_call (codeAny_mono (F A X.stack s H us vs Q E0 hg sb.room e0 r h) fun r s' hq => ?_)
  cases r with
  | error e => exact hq.elim
  | ok fl =>
    cases fl with
    | ret u => exact I.after hq
    | next => exact hq.elim
    | brk => exact hq.elim
    | cont => exact hq.elim
theorem pe_fnG {x : Str} {e : Expr} {es : List Expr} {t : TA} {p pos : Pos} (F : FnG X.prog X.w X.K X.mg X.base k f sp) (hgd : X.A.guards = some []) (hr : Room k X.A) (hg : Gl X x) (hm : X.mg x = some (.ref f)) (hk : PySem.W.keepIn X.K (.ref f) = true) (ha : PA X (e :: es) t)
    (hdb : (x == ("__debug__" : Str)) = false := by decide) (he : starEach (e :: es) X.env = (false, eval e X.env) :: starEach es X.env := by rfl) (hpl : (backTo pos (starEach es X.env)).any (·.1) = false := by rfl) :
    PE X (.Call (.Name x p) (e :: es) [] pos) (tFn sp t) := by
  refine ⟨fun pins s σ H Q I h => ?_⟩
  refine wpAny_Call_Name_kw (ld_glob I hg hm ?_ hdb)
  refine PySem.W.callWith_K (h₀ := X.base) I.ok.mod.kin hk (thn (ha.run pos pins s σ H _ I h) fun us s1 ⟨vs, H1, I1, r, q⟩ => ⟨I1.kIn, ?_⟩) he hpl
  exact run_subG (sub_self hr) hgd F I1 r q
/-- repr of an instance -/
theorem call_reprG {C : Addr} (hs : PySem.W.findIn X.K (.ref C) "__repr__" = some (some (.ref f))) (hf : PySem.W.isFn X.K (.ref f) = true) (F : FnG X.prog X.w X.K X.mg X.base k f sp) (hgd : X.A.guards = some []) (hr : Room (k + 1) X.A) :
    CallR X (.builtin "repr") (fun xs H Q => ∃ a dx fs, xs = [V.ref a] ∧ H a = some (.ins C dx fs) ∧ sp [.ref a] H (fun v H' => ∃ z : Str, v = .str z ∧ Q (.str z) H') E0) := by
  intro pins s σ H xs us Q I r hq
  obtain ⟨a, dx, fs, rfl, ha, q⟩ := hq
  cases r with
  | cons ra rn =>
  cases rn
  cases ra
  obtain ⟨od, J⟩ := inst_of I ha
  obtain ⟨m, hF⟩ := I.fr
  refine PySem.W.repr_K hr.in1.units0 hF I.ok.mod.kin J hs hf (thn (run_subG (vs := [.ref a]) ⟨hr.in1, rfl⟩ hgd F I (.cons rfl .nil) q) fun u s1 hu => ?_)
  obtain ⟨z, H', I', rz, y, rfl, q'⟩ := hu
  obtain ⟨t, rfl⟩ := rz
  exact ⟨.str y, H', I', ⟨_, rfl⟩, q'⟩
end
/-! the text of a dict of numbers -/
def rowT (p : Nat × Nat) : Str := toString (p.1 : Int) ++ ": " ++ toString (p.2 : Int)
def dictT (l : List (Nat × Nat)) : Str := dictText (l.map rowT)
theorem small_log {i : Nat} (h : i ≤ 300) : ((i : Int).natAbs).log2 < 1920 := by
  have h1 : (i : Int).natAbs = i := rfl
  rw [h1]
  by_cases h0 : i = 0
  · rw [h0]
    decide
  · exact Nat.lt_of_lt_of_le ((Nat.log2_lt h0).mpr (Nat.lt_of_le_of_lt h (by decide : 300 < 2 ^ 10))) (by decide)
theorem entriesK {prog : Program} {w : World} {as : List Addr} {h₀ : Heap} {d : Nat} : ∀ {l : List (Nat × Nat)} {vs : List (Key × Value)} {es : List DictEntry}, (∀ p ∈ l, p.1 ≤ 300 ∧ p.2 ≤ 300) → KV (kvN l) vs → Pairs (mixKind prog w) es vs → ReprEntriesK prog w as h₀ d es (l.map rowT)
  | [], _, _, _, r, p => by
    cases r
    cases p
    exact .nil
  | q :: l, _, _, hl, r, p => by
    cases r with
    | @cons _ x _ xs h t =>
    cases p with
    | @cons e _ es' _ pk pvv pt =>
    obtain ⟨k, v⟩ := x
    obtain ⟨h1, h2⟩ := h
    cases (show Sum.inl (q.1 : Int) = k from h1)
    obtain ⟨tk, e2⟩ : ∃ tk, v = Value.int q.2 tk := h2
    subst e2
    have hk : keyIs (Sum.inl (q.1 : Int)) e.key = true := pk
    rcases keyIs_shape hk with ⟨i, t', e3, e4⟩ | ⟨z, t', e3, e4⟩
    · have e3 := Sum.inl.inj e3
      subst e3
      have hq := hl q List.mem_cons_self
      refine .cons (.of_is ?_ _ _ _) (.of_is ?_ _ _ _) (entriesK (fun p hp => hl p (List.mem_cons_of_mem _ hp)) t pt)
      · rw [e4]
        exact ReprIs.int t' (small_log hq.1)
      · rw [pvv]
        exact ReprIs.int tk (small_log hq.2)
    · cases e3
/-- {d!r}, d a dict of numbers -/
def tFmtD (te : TE) : TE := fun σ H Q => te σ H fun x H1 => ∃ a l, x = .ref a ∧ H1 a = some (.dK (kvN l)) ∧ (∀ p ∈ l, p.1 ≤ 300 ∧ p.2 ≤ 300) ∧ (dictT l).length ≤ sizeLine ∧ Q (.str (dictT l)) H1
theorem pe_fmtD {X : Cx} {e : Expr} {te : TE} {pos : Pos} (hgd : X.A.guards = some []) (hu : X.A.units + 1 < cLine) (he : PE X e te) : PE X (.FormattedValue e 114 none pos) (tFmtD te) := by
  refine ⟨fun pins s σ H Q I h => ?_⟩
  refine wpAny_FormattedValue_repr (thn (he.run pins s σ H _ I h) fun v s1 hv => ?_)
  obtain ⟨x, H1, I1, r1, a, l, rfl, ha, hl, hz, q⟩ := hv
  cases r1
  obtain ⟨_, hsys, vs, rel, o, es, ep, ho, hx, hd, _, hp, _⟩ := dk_of I1.hok ha
  refine wpAny_pyReprObj_dictK (as := []) (d := 0) ho hx.1 hd hsys (fun z => nomatch z) (entriesK hl rel hp) hgd (fun b _ => Clear.nil b) (by omega) (fun _ _ e => e) (fun h' u tk hk => ?_) hz
  have I2 : Inv X pins σ H1 { s1 with heap := h', toks := tk } := I1.kept (t' := tk) hk
  exact wpAny_formatField_str ⟨.str (dictT l), H1, I2, ⟨_, rfl⟩, q⟩ ⟨.str (dictT l), H1, I2.tok _, ⟨_, rfl⟩, q⟩ hz
end CM
-- part D19
set_option Elab.async false
set_option linter.all false
set_option maxRecDepth 100000
set_option maxHeartbeats 4000000
/-! ### texts of maps -/
namespace CM
open PySem PySem.Spec PyProof.Rows L2 StX
def tx (z : Str) : List Nat := z.cps.toList
theorem tx_app (a b : Str) : tx (a ++ b) = tx a ++ tx b := by
  unfold tx
  rw [Str.cps_append]
  simp
theorem tx_len (a : Str) : a.length = (tx a).length := by
  unfold tx Str.length
  simp
theorem tx_inj {a b : Str} (h : tx a = tx b) : a = b := by
  obtain ⟨x⟩ := a
  obtain ⟨y⟩ := b
  have : x.toList = y.toList := h
  rw [Array.toList_inj.mp this]
theorem dig : ∀ {i : Nat}, i ≤ 9 → tx (toString (i : Int) : Str) = [48 + i]
  | 0, _ => by decide +kernel
  | 1, _ => by decide +kernel
  | 2, _ => by decide +kernel
  | 3, _ => by decide +kernel
  | 4, _ => by decide +kernel
  | 5, _ => by decide +kernel
  | 6, _ => by decide +kernel
  | 7, _ => by decide +kernel
  | 8, _ => by decide +kernel
  | 9, _ => by decide +kernel
  | n + 10, h => by omega
theorem row_eq (p : Nat × Nat) : rowT p = (toString (p.1 : Int) : Str) ++ (": " : Str) ++ (toString (p.2 : Int) : Str) := rfl
theorem row_tx {p : Nat × Nat} (h1 : p.1 ≤ 9) (h2 : p.2 ≤ 9) : tx (rowT p) = [48 + p.1, 58, 32, 48 + p.2] := by
  rw [row_eq, tx_app, tx_app, dig h1, dig h2]
  rfl
abbrev Digs (l : List (Nat × Nat)) : Prop := ∀ p, p ∈ l → p.1 ≤ 9 ∧ p.2 ≤ 9
theorem join_two (x y : Str) (r : List Str) : tx (Str.join ", " (x :: y :: r)) = tx x ++ ([44, 32] ++ tx (Str.join ", " (y :: r))) := by
  show tx (x ++ ", " ++ Str.join ", " (y :: r)) = _
  rw [tx_app, tx_app, List.append_assoc]
  rfl
theorem body_one (p : Nat × Nat) : tx (Str.join ", " ([p].map rowT)) = tx (rowT p) := rfl
theorem body_two (p q : Nat × Nat) (r : List (Nat × Nat)) : tx (Str.join ", " ((p :: q :: r).map rowT)) = tx (rowT p) ++ ([44, 32] ++ tx (Str.join ", " ((q :: r).map rowT))) := join_two _ _ _
theorem row_inj {p q : Nat × Nat} (hp : p.1 ≤ 9 ∧ p.2 ≤ 9) (hq : q.1 ≤ 9 ∧ q.2 ≤ 9) (h : tx (rowT p) = tx (rowT q)) : p = q := by
  rw [row_tx hp.1 hp.2, row_tx hq.1 hq.2] at h
  have h1 := (List.cons.inj h).1
  have h2 := (List.cons.inj (List.cons.inj (List.cons.inj (List.cons.inj h).2).2).2).1
  exact Prod.ext (by omega) (by omega)
theorem body_inj : ∀ {l m : List (Nat × Nat)}, Digs l → Digs m → tx (Str.join ", " (l.map rowT)) = tx (Str.join ", " (m.map rowT)) → l = m
  | [], [], _, _, _ => rfl
  | [], [q], _, hm, h => by
    rw [body_one, row_tx (hm q List.mem_cons_self).1 (hm q List.mem_cons_self).2] at h
    cases h
  | [], q :: q' :: r, _, hm, h => by
    rw [body_two, row_tx (hm q List.mem_cons_self).1 (hm q List.mem_cons_self).2] at h
    cases h
  | [p], [], hl, _, h => by
    rw [body_one, row_tx (hl p List.mem_cons_self).1 (hl p List.mem_cons_self).2] at h
    cases h
  | p :: p' :: r, [], hl, _, h => by
    rw [body_two, row_tx (hl p List.mem_cons_self).1 (hl p List.mem_cons_self).2] at h
    cases h
  | [p], [q], hl, hm, h => by
    rw [row_inj (hl p List.mem_cons_self) (hm q List.mem_cons_self) h]
  | [p], q :: q' :: r, hl, hm, h => by
    rw [body_one, body_two, row_tx (hl p List.mem_cons_self).1 (hl p List.mem_cons_self).2, row_tx (hm q List.mem_cons_self).1 (hm q List.mem_cons_self).2] at h
    have := congrArg List.length h
    simp at this
  | p :: p' :: r, [q], hl, hm, h => by
    rw [body_one, body_two, row_tx (hl p List.mem_cons_self).1 (hl p List.mem_cons_self).2, row_tx (hm q List.mem_cons_self).1 (hm q List.mem_cons_self).2] at h
    have := congrArg List.length h
    simp at this
  | p :: p' :: r, q :: q' :: r', hl, hm, h => by
    have hp := hl p List.mem_cons_self
    have hq := hm q List.mem_cons_self
    rw [body_two, body_two] at h
    obtain ⟨e1, e2⟩ := List.append_inj h (by rw [row_tx hp.1 hp.2, row_tx hq.1 hq.2]; rfl)
    have e3 := (List.append_inj e2 rfl).2
    rw [row_inj hp hq e1, body_inj (fun x hx => hl x (List.mem_cons_of_mem _ hx)) (fun x hx => hm x (List.mem_cons_of_mem _ hx)) e3]
theorem body_len : ∀ {l : List (Nat × Nat)}, Digs l → (tx (Str.join ", " (l.map rowT))).length ≤ 6 * l.length
  | [], _ => Nat.zero_le _
  | [p], hl => by
    rw [body_one, row_tx (hl p List.mem_cons_self).1 (hl p List.mem_cons_self).2]
    simp
  | p :: q :: r, hl => by
    have ih := body_len (l := q :: r) fun x hx => hl x (List.mem_cons_of_mem _ hx)
    rw [body_two, row_tx (hl p List.mem_cons_self).1 (hl p List.mem_cons_self).2]
    simp at ih ⊢
    omega
theorem dict_tx (l : List (Nat × Nat)) : tx (dictT l) = [123] ++ tx (Str.join ", " (l.map rowT)) ++ [125] := by
  show tx (("{" : Str) ++ Str.join ", " (l.map rowT) ++ "}") = _
  rw [tx_app, tx_app]
  rfl
def keyT (n : Nat) (l : List (Nat × Nat)) : Str := Str.empty ++ ("Map(" : Str) ++ (toString (n : Int) : Str) ++ (", " : Str) ++ dictT l ++ (")" : Str)
theorem keyT_inj {n : Nat} {l m : List (Nat × Nat)} (hl : Digs l) (hm : Digs m) (h : keyT n l = keyT n m) : l = m := by
  have h2 : tx (keyT n l) = tx (keyT n m) := by rw [h]
  unfold keyT at h2
  rw [tx_app, tx_app _ (")" : Str)] at h2
  have h3 := List.append_cancel_right h2
  rw [tx_app, tx_app _ (dictT m)] at h3
  have h4 := List.append_cancel_left h3
  rw [dict_tx, dict_tx] at h4
  have h5 := List.append_cancel_right h4
  exact body_inj hl hm (List.append_cancel_left h5)
theorem dictT_len {l : List (Nat × Nat)} (hl : Digs l) (h : l.length ≤ 100) : (dictT l).length ≤ 700 := by
  rw [tx_len, dict_tx]
  have := body_len hl
  simp at this ⊢
  omega
theorem sz_small {n : Nat} (h : n ≤ 2000) : n ≤ sizeLine := Nat.le_trans h (by decide)
theorem digs_rows {n : Nat} {f : PF} (h : WF n f) (hn : n ≤ 9) : Digs (rowsOf n f) := fun p hp => by
  obtain ⟨h1, h2⟩ := mem_rows.mp hp
  have := (h.dom _ _ h2).2
  omega
abbrev encM (n : Nat) (f : PF) : Key := Sum.inr (keyT n (rowsOf n f))
theorem encM_inj {n : Nat} {f g : PF} (hf : WF n f) (hg : WF n g) (hn : n ≤ 9) (h : encM n f = encM n g) : f = g := by
  have := keyT_inj (digs_rows hf hn) (digs_rows hg hn) (Sum.inr.inj h)
  rw [← pf_rows hf, ← pf_rows hg, this]
section
variable {P : Program} {w : World} {K : PySem.W.Frag} {mg : Str → Option Value} {base : Heap}
def spRepr (K : PySem.W.Frag) : Sp := fun vs H Q _ => ∃ p n f, vs = [.ref p] ∧ MapAt (cM K) H p n f ∧ n ≤ 9 ∧ Q (.str (keyT n (rowsOf n f))) H
theorem sc_repr : FnScope ["self"] ["self"] (defScope (inMap 26)) := ⟨rfl, rfl, rfl, by decide +kernel, rfl, by decide +kernel, by decide +kernel⟩
theorem ok_repr (T : Txt K mg) : FnG P w K mg base 2 (He.ma K (cM K) "__repr__") (spRepr K) := by
  refine fng_by T.d_mRepr sc_repr (fun _ _ _ _ _ _ us hl => match us, hl with | [_], _ => rfl) (fun vs H Q E h => ?_) (fun cdv A outer s H vs Q E hg hr h => ?_)
  · obtain ⟨p, n, f, rfl, _⟩ := h
    rfl
  · obtain ⟨p, n, f, rfl, M, hn, k⟩ := h
    have hu := hu_of hr
    obtain ⟨dx, d, o1, o2⟩ := M.ob
    refine ⟨_, pss_one (ps_ret (pe_joined (.cons pe_str (.cons (pe_fmt (pe_fld (pv 0) rfl)) (.cons pe_str (.cons (pe_fmtD (hg : (cxOf CX0 P w K mg base _ _ _ _ cdv A outer s H E).nox.A.guards = some []) hu (pe_fld (pv 0) rfl)) (.cons pe_str .nil))))))), ?_⟩
    have dg := digs_rows M.wf hn
    have hl := rows_len M.wf
    have dl := dictT_len dg (by omega)
    have l1 : (Str.empty ++ ("Map(" : Str)).length ≤ 10 := by decide +kernel
    have l2 : (Str.empty ++ ("Map(" : Str) ++ (toString (n : Int) : Str)).length ≤ 20 := by
      rw [Str.length_append]
      have : (toString (n : Int) : Str).length = 1 := by rw [tx_len, dig hn]; rfl
      omega
    have l3 : (Str.empty ++ ("Map(" : Str) ++ (toString (n : Int) : Str) ++ (", " : Str)).length ≤ 30 := by
      rw [Str.length_append]
      have : ((", " : Str)).length = 2 := by decide +kernel
      omega
    have l4 : (Str.empty ++ ("Map(" : Str) ++ (toString (n : Int) : Str) ++ (", " : Str) ++ dictT (rowsOf n f)).length ≤ 800 := by
      rw [Str.length_append]
      omega
    have l5 : (keyT n (rowsOf n f)).length ≤ 810 := by
      unfold keyT
      rw [Str.length_append]
      have : ((")" : Str)).length = 1 := by decide +kernel
      omega
    refine ⟨_, rfl, sz_small (by omega), ?_⟩
    refine ⟨_, rfl, p, cM K, dx, _, _, rfl, o1, T.c_Map, T.n_size, mFld_size _ _, Or.inr ⟨n, rfl, small_log (by omega), _, rfl, sz_small (by omega), ?_⟩⟩
    refine ⟨_, rfl, sz_small (by omega), ?_⟩
    refine ⟨_, rfl, p, cM K, dx, _, _, rfl, o1, T.c_Map, T.n_arrows, mFld_arrows _ _, d, rowsOf n f, rfl, o2, fun q hq => by have := dg q hq; omega, sz_small (by omega), _, rfl, sz_small (by omega), ?_⟩
    exact ⟨_, rfl, sz_small (Nat.le_trans l5 (by decide)), k⟩
theorem sc_key : FnScope ["one"] ["one"] (defScope (top 45)) := ⟨rfl, rfl, rfl, by decide +kernel, rfl, by decide +kernel, by decide +kernel⟩
theorem ok_key (T : Txt K mg) : FnG P w K mg base 4 (He.ga K "key_of") (spRepr K) := by
  refine fng_by T.d_key_of sc_key (fun _ _ _ _ _ _ us hl => match us, hl with | [_], _ => rfl) (fun vs H Q E h => ?_) (fun cdv A outer s H vs Q E hg hr h => ?_)
  · obtain ⟨p, n, f, rfl, _⟩ := h
    rfl
  · obtain ⟨p, n, f, rfl, M, hn, k⟩ := h
    obtain ⟨dx, d, o1, o2⟩ := M.ob
    refine ⟨_, pss_one (ps_ret (pe_callB (call_reprG T.m_mRepr.1 T.m_mRepr.2 (ok_repr T) (hg : (cxOf CX0 P w K mg base _ _ _ _ cdv A outer s H E).nox.A.guards = some []) hr) (by rfl) T.u_repr (by decide +kernel) (pa_cons (pv 0) pa_nil))), ?_⟩
    exact ⟨_, rfl, p, dx, _, rfl, o1, p, n, f, rfl, M, hn, _, rfl, k⟩
end
end CM
-- part R8
set_option Elab.async false
set_option linter.all false
set_option maxRecDepth 100000
set_option maxHeartbeats 4000000
/-! ### generator bodies whose consumer owns several things -/
namespace CM
open PySem PySem.Spec PyProof.Rows L2 StX GenW
abbrev Pins := List (Addr × Obj)
/-- what the consumer owns, and how it stands when ys is its log -/
structure Own where
  as : List Addr
  ok : List V → Pins → Prop
/-- the generator's side: what the consumer owns (O) is pinned -/
def GJ (X : Cx) (O : Own) (ip : Pins) (ys : List V) (σ : L2.St) (H : Hp) (s : Shared) : Prop := ∃ po : Pins, po.map Prod.fst = O.as ∧ O.ok ys po ∧ Inv X (po ++ ip) σ H s
/-- o: what is handed out; k: what the consumer makes of it -/
structure OutJ where
  o : List V → V → Hp → Prop
  k : List V → V → V → Hp → Prop
abbrev FinJ := List V → Hp → Prop
def YJ (X : Cx) (O : Own) (out : OutJ) : Protocol := fun n s₀ v s kap =>
  ∃ ys x ip σ H, n + 1 + ys.length = sizeLine ∧ RelV x v ∧ GJ X O ip ys σ H s ∧ (∀ p ∈ ip, p.1 ∉ O.as) ∧ out.o ys x H ∧ ∀ z s' H', GJ X O ip (ys ++ [z]) σ H' s' → Ext H H' → out.k ys x z H' → kap (.send .none) s'
def EndJ (X : Cx) (O : Own) (fin : FinJ) (n : Nat) (s : Shared) : Prop := ∃ ys ip σ H, n + ys.length = sizeLine ∧ GJ X O ip ys σ H s ∧ (∀ p ∈ ip, p.1 ∉ O.as) ∧ fin ys H
def RJ (X : Cx) (O : Own) (fin : FinJ) : GenEnd := fun n s₀ r s => ((r = .ok (.ret .none) ∨ r = .ok .next) ∧ EndJ X O fin n s) ∨ ∃ e, r = .error e ∧ False
def PJo (X : Cx) (O : Own) (ip : Pins) (D : GEnds) (ys : List V) (f : Flow) (s : Shared) : Prop :=
  match f with
  | .next => ∃ σ H, GJ X O ip ys σ H s ∧ D.nx ys σ H
  | .brk => ∃ σ H, GJ X O ip ys σ H s ∧ D.bk ys σ H
  | .cont => ∃ σ H, GJ X O ip ys σ H s ∧ D.ct ys σ H
  | .ret u => ∃ v σ H, GJ X O ip ys σ H s ∧ RelV v u ∧ D.rt ys v H
structure CJ (X : Cx) (O : Own) (ip : Pins) (A : Around) (c : Code) (fs : List Frame) (gd : Bool → Bool) : Prop where
  ip : ∀ p ∈ ip, p.1 ∉ O.as
  over : A.over c fs = X.A
  split : splitAtGen fs = none
  guard : fs.any Frame.guarded = false
  gd : gd false = false
  nx : ∀ e s, X.xe e s → False
structure KJ (X : Cx) (O : Own) (ip : Pins) (A : Around) (out : OutJ) (R : GenEnd) (c : Code) (fs : List Frame) (K : Flow → Sem PySem.Fin) (D : GEnds) : Prop where
  ok : ∀ (n : Nat) (ys : List V) (s₀ s : Shared) (f : Flow), n + ys.length = sizeLine → PJo X O ip D ys f s → Seg (model X.prog X.w) A R (YJ X O out) n s₀ c (K f) fs s
structure SJ (X : Cx) (out : OutJ) (st : Stmt) (t : TGn) : Prop where
  run : ∀ (A : Around) (O : Own) (ip : Pins) (R : GenEnd) (n : Nat) (ys : List V) (s₀ : Shared) (c : Code) (fs : List Frame) (K : Flow → Sem PySem.Fin) (J : Value → Sem PySem.Fin) (gd : Bool → Bool) (lv : List Value → List Value) (s : Shared) (σ : L2.St) (H : Hp) (D : GEnds),
    CJ X O ip A c fs gd → n + ys.length = sizeLine → KJ X O ip A out R c fs K D → GJ X O ip ys σ H s → t D ys σ H → Seg (model X.prog X.w) A R (YJ X O out) n s₀ c ((exec st X.env).wrap K J gd lv) fs s
structure SsJ (X : Cx) (out : OutJ) (st : List Stmt) (t : TGn) : Prop where
  run : ∀ (A : Around) (O : Own) (ip : Pins) (R : GenEnd) (n : Nat) (ys : List V) (s₀ : Shared) (c : Code) (fs : List Frame) (K : Flow → Sem PySem.Fin) (J : Value → Sem PySem.Fin) (gd : Bool → Bool) (lv : List Value → List Value) (s : Shared) (σ : L2.St) (H : Hp) (D : GEnds),
    CJ X O ip A c fs gd → n + ys.length = sizeLine → KJ X O ip A out R c fs K D → GJ X O ip ys σ H s → t D ys σ H → Seg (model X.prog X.w) A R (YJ X O out) n s₀ c ((execs st X.env).wrap K J gd lv) fs s
section
variable {X : Cx} {out : OutJ} {st : Stmt} {rest : List Stmt}
theorem sp_j {O : Own} {po ip : Pins} {s : Shared} {D : GEnds} {ys : List V} {f : Flow} (e : po.map Prod.fst = O.as) (lg : O.ok ys po) (h : SP X (po ++ ip) (D.at ys) f s) : PJo X O ip D ys f s := by
  cases f with
  | next => exact let ⟨σ, H, I, q⟩ := h; ⟨σ, H, ⟨po, e, lg, I⟩, q⟩
  | brk => exact let ⟨σ, H, I, q⟩ := h; ⟨σ, H, ⟨po, e, lg, I⟩, q⟩
  | cont => exact let ⟨σ, H, I, q⟩ := h; ⟨σ, H, ⟨po, e, lg, I⟩, q⟩
  | ret u => exact let ⟨v, σ, H, I, r1, q⟩ := h; ⟨v, σ, H, ⟨po, e, lg, I⟩, r1, q⟩
/-- a statement that hands out nothing -/
theorem sj_ps {t : TS} (h : PS X st t) : SJ X out st (tPlain t) := ⟨fun A O ip R n ys s₀ c fs K J gd lv s σ H D g hn k hI ht => by
  obtain ⟨po, e, lg, I⟩ := hI
  refine seg_wrap ?_
  rw [g.over]
  exact wpAny_mono (h.run _ s σ H (D.at ys) I ht) (fun f s' hs => k.ok n ys s₀ s' f hn (sp_j e lg hs)) fun x s' hx => (g.nx x s' hx).elim⟩
theorem ssj_nil : SsJ X out [] tG0 := ⟨fun A O ip R n ys s₀ c fs K J gd lv s σ H D g hn k hI ht => seg_execs_nil (k.ok n ys s₀ s .next hn ⟨σ, H, hI, ht⟩)⟩
theorem ssj_cons {t u : TGn} (a : SJ X out st t) (b : SsJ X out rest u) : SsJ X out (st :: rest) (tGThen t u) := ⟨fun A O ip R n ys s₀ c fs K J gd lv s σ H D g hn k hI ht => by
  refine seg_execs_cons (a.run A O ip R n ys s₀ c fs _ J gd lv s σ H { D with nx := fun ys' σ' H' => u D ys' σ' H' } g hn ⟨fun n' ys' s₀' s' f hn' hs => ?_⟩ hI ht)
  cases f with
  | next =>
    obtain ⟨σ', H', I', q⟩ := hs
    exact b.run A O ip R n' ys' s₀' c fs K J gd lv s' σ' H' D g hn' k I' q
  | brk => exact k.ok n' ys' s₀' s' .brk hn' hs
  | cont => exact k.ok n' ys' s₀' s' .cont hn' hs
  | ret u => exact k.ok n' ys' s₀' s' (.ret u) hn' hs⟩
theorem ssj_one {t : TGn} (a : SJ X out st t) : SsJ X out [st] (tGThen t tG0) := ssj_cons a ssj_nil
/-- yield: the consumer may have laid things since -/
def tYieldJ (out : OutJ) (te : TE) : TGn := fun D ys σ H => ys.length < sizeLine ∧ te σ H fun x H1 => out.o ys x H1 ∧ ∀ z H', Ext H1 H' → out.k ys x z H' → D.nx (ys ++ [z]) σ H'
theorem sj_yield {e : Expr} {yp pos : Pos} {te : TE} (he : PE X e te) (hco : X.env.scope.isCoroutine = false := by rfl) (hi : interactive X.env = false := by rfl) : SJ X out (.Expr (.Yield (some e) yp) pos) (tYieldJ out te) := ⟨fun A O ip R n ys s₀ c fs K J gd lv s σ H D g hn k hI ht => by
  obtain ⟨hlt, ht⟩ := ht
  obtain ⟨n, rfl⟩ : ∃ m, n = m + 1 := ⟨n - 1, by omega⟩
  obtain ⟨po, e1, lg, I⟩ := hI
  refine seg_Expr_Yield g.split g.gd g.guard ?_ hco hi
  rw [g.over]
  refine wpAny_mono (he.run _ s σ H _ I ht) (fun v s' hv => ?_) fun x s' hx => (g.nx x s' hx).elim
  obtain ⟨x, H1, I1, rv, q, q2⟩ := hv
  intro kap hk
  refine ⟨ys, x, ip, σ, H1, hn, rv, ⟨po, e1, lg, I1⟩, g.ip, q, fun z s'' H' hG hE hK => hk .none s'' ?_⟩
  exact k.ok n (ys ++ [z]) s'' s'' .next (by rw [List.length_append, List.length_singleton]; omega) ⟨σ, H', hG, q2 z H' hE hK⟩⟩
/-- if -/
def tIfJ (c : TT) (t u : TGn) : TGn := fun D ys σ H => c σ H fun b H1 => if b = true then t D ys σ H1 else u D ys σ H1
theorem sj_if {test : Expr} {body orelse : List Stmt} {pos : Pos} {tc : TT} {t u : TGn} (hc : PT X test tc) (hb : SsJ X out body t) (ho : SsJ X out orelse u) : SJ X out (.If test body orelse pos) (tIfJ tc t u) := ⟨fun A O ip R n ys s₀ c fs K J gd lv s σ H D g hn k hI ht => by
  obtain ⟨po, e1, lg, I⟩ := hI
  rw [exec_If]
  refine seg_at ?_
  show Seg _ _ _ _ n s₀ c ((PySem.isTrue test X.env (eval test X.env) >>= fun b => if b = true then execs body X.env else execs orelse X.env).wrap K J gd lv) fs s
  refine seg_bind_wrap ?_
  rw [g.over]
  refine wpAny_mono (hc.run _ s σ H _ I ht) (fun b s' hs => ?_) fun x s' hx => (g.nx x s' hx).elim
  obtain ⟨H1, I1, q⟩ := hs
  cases b with
  | true =>
    rw [if_pos rfl] at q ⊢
    exact hb.run A O ip R n ys s₀ c fs K J gd lv s' σ H1 D g hn k ⟨po, e1, lg, I1⟩ q
  | false =>
    rw [if_neg Bool.false_ne_true] at q ⊢
    exact ho.run A O ip R n ys s₀ c fs K J gd lv s' σ H1 D g hn k ⟨po, e1, lg, I1⟩ q⟩
theorem cj_loop {O : Own} {ip : Pins} {A : Around} {c c' : Code} {fs : List Frame} {gd : Bool → Bool} {k : Result → Sem PySem.Fin} {l kp : List Value} {p : Pos} (g : CJ X O ip A c fs gd) (hw : c'.weight = 0) (hu : c'.cUnits = 0) :
    CJ X O ip A c' (.ret k none (gd false) l c p kp :: fs) id where
  ip := g.ip
  over := (over_loop hw hu).trans g.over
  split := by
    show (splitAtGen fs).map _ = none
    rw [g.split]
    rfl
  guard := by
    show (gd false || fs.any Frame.guarded) = false
    rw [g.gd, g.guard]
    rfl
  gd := rfl
  nx := g.nx
/-- while -/
theorem sj_while {test : Expr} {body : List Stmt} {pos : Pos} {tc : TT} {tb : TGn} (hc : PT X test tc) (hb : SsJ X out body tb) : SJ X out (.While test body [] pos) (tGWhile tc tb) := ⟨fun A O ip R n ys s₀ c fs K J gd lv s σ H D g hn k hI ht => by
  obtain ⟨W, ⟨m0, w0⟩, turn⟩ := ht
  refine seg_While fun p => ?_
  have gl := fun (kk : Result → Sem PySem.Fin) => cj_loop (k := kk) (c' := .whileLoop test body [] X.env) (l := lv []) (kp := []) (p := p) g rfl rfl
  suffices loop : ∀ (m n : Nat) (ys : List V) (s₀ s : Shared) (σ : L2.St) (H : Hp), n + ys.length = sizeLine → W m ys σ H → GJ X O ip ys σ H s →
      Seg (model X.prog X.w) A R (YJ X O out) n s₀ (.whileLoop test body [] X.env) ((model X.prog X.w).den (.whileLoop test body [] X.env))
        (.ret (fun r => ((match r with | .ok f => (.pure f : Sem Flow) | .error e => .raise e).onRaise (cameBack X.env)).wrap K J gd lv) none (gd false) (lv []) c p [] :: fs) s from loop m0 n ys s₀ s σ H hn w0 hI
  intro m
  induction m using Nat.strongRecOn with
  | ind m ih =>
    intro n ys s₀ s σ H hn w hI
    refine seg_whileLoop ?_
    rw [(gl _).over]
    obtain ⟨po, e1, lg, I⟩ := hI
    refine wpAny_mono (hc.run _ s σ H _ I (turn m ys σ H w)) (fun b s' hb' => ?_) fun x s' hx => (g.nx x s' hx).elim
    obtain ⟨H2, I2, q2⟩ := hb'
    cases b with
    | true =>
      obtain ⟨N, hN, q2⟩ := q2
      rw [if_pos rfl]
      refine hb.run A O ip R n ys s₀ _ _ _ _ id id s' σ H2 { D with nx := N, ct := N, bk := D.nx } (gl _) hn ⟨fun n' ys' s₀' s3 f hn' hs => ?_⟩ ⟨po, e1, lg, I2⟩ q2
      cases f with
      | next =>
        obtain ⟨σ3, H3, I3, n3⟩ := hs
        obtain ⟨m', hm, w3⟩ := hN ys' σ3 H3 n3
        exact seg_again rfl (ih m' hm n' ys' s₀' s3 σ3 H3 hn' w3 I3)
      | cont =>
        obtain ⟨σ3, H3, I3, n3⟩ := hs
        obtain ⟨m', hm, w3⟩ := hN ys' σ3 H3 n3
        exact seg_again rfl (ih m' hm n' ys' s₀' s3 σ3 H3 hn' w3 I3)
      | brk => exact seg_leaf (.ok .next) (k.ok n' ys' s₀' s3 .next hn' hs)
      | ret v => exact seg_leaf (.ok (.ret v)) (k.ok n' ys' s₀' s3 (.ret v) hn' hs)
    | false =>
      rw [if_neg Bool.false_ne_true]
      exact seg_execs_nil (seg_leaf (.ok .next) (k.ok n ys s₀ s' .next hn ⟨σ, H2, ⟨po, e1, lg, I2⟩, q2⟩))⟩
/-- for -/
def tForJ (wi : TI) (g : TG) (tb : TGn) : TGn := fun D ys σ H => wi σ H fun J H1 => ∃ W : Nat → Nat → List V → L2.St → Hp → Prop, (∃ m, W 0 m ys σ H1) ∧ ∀ i m ys σ H, W i m ys σ H →
  (J.stop i H ∧ D.nx ys σ H) ∨ (J.go i H ∧ ∃ N : List V → L2.St → Hp → Prop, (∀ ys' σ' H', N ys' σ' H' → ∃ m', m' < m ∧ W (i + 1) m' ys' σ' H') ∧ ∀ x H', J.yld i H x H' → g x σ H' fun σ2 H2 => tb { D with nx := N, ct := N, bk := D.nx } ys σ2 H2)
end
end CM
-- part R9
set_option Elab.async false
set_option linter.all false
set_option maxRecDepth 100000
set_option maxHeartbeats 4000000
/-! ### for in a generator's body -/
namespace CM
open PySem PySem.Spec PyProof.Rows L2 StX GenW
section
variable {X : Cx} {out : OutJ}
theorem fp_pins {O : List Addr} {po po' ip : Pins} {H H' : Hp} {b : Addr} (e : po.map Prod.fst = O) (e' : po'.map Prod.fst = O) (h : FpOk X (po ++ ip) H b) (hn : H' b = none) : FpOk X (po' ++ ip) H' b := by
  obtain ⟨_, h1, h2, h3, h4, h5⟩ := h
  refine ⟨hn, h1, h2, h3, h4, fun p hp => ?_⟩
  rcases List.mem_append.mp hp with z | z
  · exact h5 p (List.mem_append_left _ z)
  · rcases List.mem_append.mp z with z | z
    · have hm : p.1 ∈ O := by rw [← e']; exact List.mem_map.mpr ⟨p, z, rfl⟩
      rw [← e] at hm
      obtain ⟨q, hq, eq⟩ := List.mem_map.mp hm
      rw [← eq]
      exact h5 q (List.mem_append_right _ (List.mem_append_left _ hq))
    · exact h5 p (List.mem_append_right _ (List.mem_append_right _ z))
theorem fp_notO {O : List Addr} {po ip : Pins} {H : Hp} {b : Addr} (e : po.map Prod.fst = O) (h : FpOk X (po ++ ip) H b) : b ∉ O := fun hm => by
  rw [← e] at hm
  obtain ⟨q, hq, eq⟩ := List.mem_map.mp hm
  exact h.2.2.2.2.2 q (List.mem_append_right _ (List.mem_append_left _ hq)) eq
theorem sj_for {tg iter : Expr} {body : List Stmt} {pos : Pos} {wi : TI} {g : TG} {tb : TGn} (hc : X.calm = true) (hi : PI X tg iter wi) (hg : PG X tg g) (hb : SsJ X out body tb) (hs : ∀ x, foldedSetIterable iter X.env x = pure x := by intro _; rfl) : SJ X out (.For tg iter body [] pos) (tForJ wi g tb) := ⟨fun A O ip R n ys s₀ c fs K J gd lv s σ H D gc hn k hI ht => by
  obtain ⟨po, e1, lg, I⟩ := hI
  rw [exec_For]
  refine seg_at ?_
  show Seg _ _ _ _ n s₀ c ((eval iter X.env >>= fun v => foldedSetIterable iter X.env v >>= fun x => standAt iter.pos >>= fun _ => holding [x] (pyIter x) >>= fun it => runOwn (.forLoop tg it body [] X.env) X.env).wrap K J gd lv) fs s
  refine seg_bind_wrap ?_
  rw [gc.over]
  refine wpAny_mono (hi.run _ s σ H _ I ht) (fun v s1 h1 => ?_) fun x s' hx => (gc.nx x s' hx).elim
  refine seg_bind_wrap (wpAny_of_eq (hs v) ?_)
  refine seg_bind_wrap (wpAny_standAt ?_)
  refine seg_bind_wrap (wpAny_holding ?_)
  rw [gc.over]
  refine wpAny_mono h1 (fun itv s2 h2 => ?_) fun x s' hx => (gc.nx x s' hx).elim
  obtain ⟨it, fp, tn, Jt, H2, rfl, I2, T, st2, f2, W, ⟨m0, w0⟩, turn⟩ := h2
  refine seg_call fun p => ?_
  have gl := fun (kk : Result → Sem PySem.Fin) => cj_loop (k := kk) (c' := .forLoop tg (.ref it) body [] X.env) (l := lv []) (kp := []) (p := p) gc rfl rfl
  suffices loop : ∀ (m i n : Nat) (ys : List V) (s₀ s : Shared) (σ : L2.St) (H : Hp), n + ys.length = sizeLine → W i m ys σ H → GJ X O ip ys σ H s → tn i s.heap → (∀ b ∈ fp, H b = none) →
      Seg (model X.prog X.w) A R (YJ X O out) n s₀ (.forLoop tg (.ref it) body [] X.env) ((model X.prog X.w).den (.forLoop tg (.ref it) body [] X.env))
        (.ret (fun r => ((match r with | .ok f => (.pure f : Sem Flow) | .error e => .raise e).onRaise (cameBack X.env)).wrap K J gd lv) none (gd false) (lv []) c p [] :: fs) s from
    loop m0 0 n ys s₀ s2 σ H2 hn w0 ⟨po, e1, lg, I2⟩ st2 fun b hb => (f2 b hb).1
  intro m
  induction m using Nat.strongRecOn with
  | ind m ih =>
    intro i n ys s₀ s σ H hn w hI st hfn
    obtain ⟨pq, e2, lq, I⟩ := hI
    have fk : ∀ b ∈ fp, FpOk X (pq ++ ip) H b := fun b hb => fp_pins e1 e2 (f2 b hb) (hfn b hb)
    show Seg _ _ _ _ n s₀ _ ((forTurn tg (.ref it) body [] X.env).onRaise (fun x => do noteFrame x X.env; theTreesLotGoes x)) _ s
    rw [Sem.onRaise_eq_wrap]
    unfold forTurn
    refine seg_bind_wrap (wpAny_standAt ?_)
    refine seg_bind_wrap ?_
    rw [(gl _).over]
    rcases turn i m ys σ H w with ⟨stop, qq⟩ | ⟨go, N, hN, step⟩
    · refine wpAny_onRaise (wpAny_mono (T.done X rfl rfl rfl hc i _ s σ H (fun _ _ => False) I fk st stop) (fun r s1 hr => ?_) fun x s' hx => hx.elim)
      obtain ⟨rfl, I1⟩ := hr
      refine seg_again rfl ?_
      exact seg_leaf (.ok .next) (k.ok n ys s₀ s1 .next hn ⟨σ, H, ⟨pq, e2, lq, I1⟩, qq⟩)
    · refine wpAny_onRaise (wpAny_mono (T.item X rfl rfl rfl hc i _ s σ H (fun _ _ => False) I fk st go) (fun r s1 hr => ?_) fun x s' hx => hx.elim)
      obtain ⟨u, rfl, h6⟩ := hr
      refine seg_bind_wrap ?_
      rw [(gl _).over]
      refine wpAny_mono h6 (fun _ s7 h7 => ?_) fun x s' hx => hx.elim
      obtain ⟨x, H7, I7, r7, y7, st7, n7⟩ := h7
      have fk7 : ∀ b ∈ fp, FpOk X (pq ++ ip) H7 b := fun b hb => fp_pins e2 e2 (fk b hb) (n7 b hb)
      have I7' := I7.pinned fk7 (T.obj _ _ st7)
      rw [List.append_assoc] at I7'
      refine seg_bind_wrap ?_
      rw [(gl _).over]
      refine wpAny_mono (hg.run _ s7 σ H7 x u _ I7' r7 (step x H7 y7)) (fun _ s8 h8 => ?_) fun x s' hx => (gc.nx x s' hx).elim
      obtain ⟨σ8, H8, I8, q8⟩ := h8
      rw [Sem.bind_eq_wrap', Sem.wrap_wrap]
      have ipn : ∀ q ∈ ip ++ pinsAt fp s7.heap, q.1 ∉ O.as := fun q hq => by
        rcases List.mem_append.mp hq with z | z
        · exact gc.ip q z
        · exact fp_notO e2 (fk7 q.1 (of_pinsAt z).1)
      -- the pins let go
      have back : ∀ {ys' : List V} {σ' : L2.St} {H' : Hp} {s' : Shared}, GJ X O (ip ++ pinsAt fp s7.heap) ys' σ' H' s' → GJ X O ip ys' σ' H' s' ∧ tn (i + 1) s'.heap ∧ ∀ b ∈ fp, H' b = none := fun {ys' σ' H' s'} hG => by
        obtain ⟨pr, e3, lr, J3⟩ := hG
        have pin' : ∀ b ∈ fp, ∀ o, s7.heap.get? b = some o → s'.heap.get? b = some o ∧ H' b = none := fun b hb o e =>
          let z := J3.pin (b, o) (List.mem_append_right _ (List.mem_append_right _ (List.mem_append_right _ (mem_pinsAt hb e))))
          ⟨z.1, z.2.1⟩
        refine ⟨⟨pr, e3, lr, ?_⟩, T.keep _ _ _ st7 fun b hb o e => (pin' b hb o e).1, fun b hb => ?_⟩
        · rw [← List.append_assoc] at J3
          exact J3.unpinned
        · obtain ⟨o, e, _⟩ := T.obj _ _ st7 b hb
          exact (pin' b hb o e).2
      have gg := gl (fun r => ((match r with | .ok f => (.pure f : Sem Flow) | .error e => .raise e).onRaise (cameBack X.env)).wrap K J gd lv)
      refine hb.run A O (ip ++ pinsAt fp s7.heap) R n ys s₀ _ _ _ _ _ _ s8 σ8 H8 { D with nx := N, ct := N, bk := D.nx } ⟨ipn, gg.over, gg.split, gg.guard, rfl, gg.nx⟩ hn ⟨fun n' ys' s₀' s3 f hn' hs => ?_⟩ ⟨pq, e2, lq, I8⟩ q8
      cases f with
      | next =>
        obtain ⟨σ3, H3, G3, n3⟩ := hs
        obtain ⟨b1, b2, b3⟩ := back G3
        obtain ⟨m', hm, w3⟩ := hN ys' σ3 H3 n3
        exact seg_again rfl (ih m' hm (i + 1) n' ys' s₀' s3 σ3 H3 hn' w3 b1 b2 b3)
      | cont =>
        obtain ⟨σ3, H3, G3, n3⟩ := hs
        obtain ⟨b1, b2, b3⟩ := back G3
        obtain ⟨m', hm, w3⟩ := hN ys' σ3 H3 n3
        exact seg_again rfl (ih m' hm (i + 1) n' ys' s₀' s3 σ3 H3 hn' w3 b1 b2 b3)
      | brk =>
        obtain ⟨σ3, H3, G3, n3⟩ := hs
        exact seg_leaf (.ok .next) (k.ok n' ys' s₀' s3 .next hn' ⟨σ3, H3, (back G3).1, n3⟩)
      | ret v =>
        obtain ⟨u, σ3, H3, G3, r3, n3⟩ := hs
        exact seg_leaf (.ok (.ret v)) (k.ok n' ys' s₀' s3 (.ret v) hn' ⟨u, σ3, H3, (back G3).1, r3, n3⟩)⟩
end
section
variable {J : It} {n : Nat} {G : Hp → Prop} {Y : Nat → Hp → V → Hp → Prop}
/-- for over a walk, in a generator -/
theorem forj_it (w : Walk J n G Y) {g : TG} {tb : TGn} {D : GEnds} {ys : List V} {σ : L2.St} {H : Hp} (Pv : Nat → List V → L2.St → Hp → Prop) (h0 : Pv 0 ys σ H) (hG : ∀ i ys σ H, i ≤ n → Pv i ys σ H → G H)
    (hs : ∀ i x ys σ H H', i < n → Pv i ys σ H → Y i H x H' → g x σ H' fun σ2 H2 => tb { D with nx := Pv (i + 1), ct := Pv (i + 1), bk := D.nx } ys σ2 H2) (hd : ∀ ys σ H, Pv n ys σ H → D.nx ys σ H) :
    ∃ W : Nat → Nat → List V → L2.St → Hp → Prop, (∃ m, W 0 m ys σ H) ∧ ∀ i m ys σ H, W i m ys σ H →
      (J.stop i H ∧ D.nx ys σ H) ∨ (J.go i H ∧ ∃ N : List V → L2.St → Hp → Prop, (∀ ys' σ' H', N ys' σ' H' → ∃ m', m' < m ∧ W (i + 1) m' ys' σ' H') ∧ ∀ x H', J.yld i H x H' → g x σ H' fun σ2 H2 => tb { D with nx := N, ct := N, bk := D.nx } ys σ2 H2) := by
  refine ⟨fun i m ys σ H => m = n - i ∧ i ≤ n ∧ Pv i ys σ H, ⟨n, by simp, Nat.zero_le _, h0⟩, ?_⟩
  rintro i m ys σ H ⟨rfl, hi, p⟩
  have q := hG i ys σ H hi p
  by_cases hlt : i < n
  · exact .inr ⟨w.goes i H hlt q, Pv (i + 1), fun ys' σ' H' p' => ⟨n - (i + 1), by omega, rfl, hlt, p'⟩, fun x H' y => hs i x ys σ H H' hlt p (w.yields i H x H' hlt q y)⟩
  · have e : i = n := by omega
    subst e
    exact .inl ⟨w.stops H q, hd ys σ H p⟩
end
end CM
-- part R10
set_option Elab.async false
set_option linter.all false
set_option maxRecDepth 100000
set_option maxHeartbeats 4000000
/-! ### a generator def: what its call makes, how it wakes -/
namespace CM
open PySem PySem.Spec PyProof.Rows L2 StX GenW
/-- the same state, seen from another frame of the same start -/
theorem inv_switch {X Y : Cx} {pX pY pY0 : Pins} {σX σY : L2.St} {H H0 : Hp} {s s0 : Shared} {o : Obj} (I : Inv X pX σX H s) (J : Inv Y pY0 σY H0 s0) (e1 : X.s_0 = Y.s_0) (e2 : X.H_0 = Y.H_0) (e3 : X.fs = Y.fs) (e4 : X.ex = Y.ex) (e5 : X.prog = Y.prog) (e6 : X.w = Y.w)
    (hc : ∀ x c, Y.env.cells.lookup x = some c → False) (h0 : s0.heap.get? Y.env.locals = some o) (h1 : s.heap.get? Y.env.locals = some o) (hn : H Y.env.locals = none)
    (hp : ∀ p ∈ Y.pn ++ pY, s.heap.get? p.1 = some p.2 ∧ H p.1 = none ∧ p.1 ≠ Y.env.locals ∧ p.1 ∉ Y.fs ∧ ∀ v, p.2.data ≠ .cell v) : Inv Y pY σY H s := by
  refine ⟨J.ok, by rw [I.os, e1], I.bare, by rw [← e3, ← e4, ← e2, ← e1]; exact I.base, ?_, fun x c e => (hc x c e).elim, hn, fun x c e => (hc x c e).elim, hp, by rw [← e5, ← e6]; exact I.hok, J.len⟩
  obtain ⟨m, ⟨o', es, ep, ho, r⟩, hl⟩ := J.loc
  rw [h0] at ho
  cases ho
  refine ⟨m, ⟨o, es, ep, h1, r⟩, fun i x v a b c => ?_⟩
  obtain ⟨u, ru, q⟩ := hl i x v a b c
  exact ⟨u, ru, q.imp id fun ⟨_, c, e, _⟩ => (hc x c e).elim⟩
/-- a generator that has not begun, to be woken under Aw -/
structure GMadeJ (P : Program) (w : World) (outer : List Env) (H : Hp) (s : Shared) (out : OutJ) (fin : FinJ) (Aw : Around) (X : Cx) (a : Addr) (g : Nat) (c : Code) (oL go : Obj) (σ0 : L2.St) (s' : Shared) : Prop where
  lo : s.heap.objs.size ≤ X.env.locals
  la : X.env.locals < a
  hi : a < s'.heap.objs.size
  ga : s'.heap.get? a = some go
  gen : ∀ h : Heap, h.get? a = some go → h.IsGen a g
  gs : s'.gens[g]? = some (.fresh c)
  os : s'.os = s.os
  bare : AllBare s'.gens
  lim : s'.heap.NoLimit
  keep : ∀ b o, s.heap.get? b = some o → s'.heap.get? b = some o
  gL : s'.heap.get? X.env.locals = some oL
  dL : ∀ v, oL.data ≠ .cell v
  dg : ∀ v, go.data ≠ .cell v
  xs : X.s_0 = s
  xh : X.H_0 = H
  xf : X.fs = frs outer
  xe : X.ex = []
  xp : X.prog = P
  xw : X.w = w
  xc : ∀ x c, X.env.cells.lookup x = some c → False
  xn : X.pn = [(a, go)]
  Lf : X.env.locals ∉ frs outer
  af : a ∉ frs outer
  inv : Inv X [] σ0 H s'
  wake : ∀ (O : Own) (s2 : Shared) (H2 : Hp), GJ X O [] [] σ0 H2 s2 → Ext H H2 → Seg (model P w) Aw (RJ X O fin) (YJ X O out) sizeLine s2 c ((model P w).den c) [] s2
abbrev SpJ := List V → Hp → OutJ → FinJ → Prop
def GFnJ (P : Program) (w : World) (K : PySem.W.Frag) (mg : Str → Option Value) (base : Heap) (k : Nat) (f : Addr) (sp : SpJ) : Prop :=
  ∀ (A : Around) (outer : List Env) (s : Shared) (H : Hp) (us : List Value) (vs : List V) (out : OutJ) (fin : FinJ), Room k A → Env0 P w K mg base A outer s H → Vals vs us → sp vs H out fin →
    codeAny (model P w) A (.call (.ref f) ⟨us, []⟩) (fun r s' => match r with
      | .ok (.ret u) => ∀ Aw : Around, Aw.guards = some [] → Room k Aw → Aw.frames = some outer → ∃ X a g c oL go σ0, u = .ref a ∧ GMadeJ P w outer H s out fin Aw X a g c oL go σ0 s'
      | _ => False) s
theorem gfnj_by {P : Program} {w : World} {K : PySem.W.Frag} {mg : Str → Option Value} {base : Heap} {nx qual : Str} {st : Stmt} {f : Addr} {N ps : List Str} {k : Nat} {sp : SpJ} (F : HasD K nx qual st f) (S : GScope N ps (defScope st)) (hcl : ∀ n, cellsFrom n (defScope st).names [] = [])
    (hb : ∀ (kV doc pm : Value) (an : Option Addr) (cdv ct : Value) (us : List Value), us.length = ps.length → bindArgs (PySem.W.fnOf nx qual (defArgs st) (defBody st) (defScope st) .none kV doc pm an cdv ct) ⟨us, []⟩ = pure (ps.zip us))
    (len : ∀ vs H o e, sp vs H o e → vs.length = ps.length)
    (hbody : ∀ (cdv : Value) (A : Around) (outer : List Env) (s : Shared) (H : Hp) (vs : List V) (out : OutJ) (fin : FinJ) (pn : Pins), A.guards = some [] → Room k (A.deeper (envOfC qual (defScope st) s.heap.objs.size f cdv)) → sp vs H out fin → ∀ H2, Ext H H2 →
      ∃ t, SsJ (gcxOf P w K mg base N qual (defScope st) f cdv A outer s H E0 pn).nox out (defBody st) t ∧ t { nx := fun ys _ H' => fin ys H', rt := fun ys v H' => v = .non ∧ fin ys H' } [] (start N vs) H2) :
    GFnJ P w K mg base (k + 1) f sp := by
  obtain ⟨fd, F⟩ := F
  intro A outer s H us vs out fin hr e0 r hsp
  have hl := len _ _ _ _ hsp
  have hul : us.length = ps.length := by rw [← r.length]; exact hl
  obtain ⟨oc, od, dV, kV, doc, pm, an, cdv, ct, osl, rfl, lk, hcd, hD, hK⟩ := F.ex
  rcases hD with ⟨_, rfl⟩ | ⟨e, _⟩
  case inr => exact absurd rfl e
  have KX : K.In s.heap := e0.mod.kin.keeps fun b o e => (e0.bs b o e).1
  have lim : s.heap.NoLimit := e0.mod.nolimit.keeps fun b o e => (e0.bs b o e).1
  refine codeAny_call_generator hr.depth (KX _ _ lk) rfl S.co S.gen rfl (PySem.W.codeRec_of KX hcd) (BindsTo.of_eq (hb kV doc pm an cdv ct us hul) _ _ _ _ ?_)
  refine wpAny_newFunctionEnv_cells S.kind (fun y hy => (S.par y.1 (List.of_mem_zip hy).1).imp id fun q => ⟨q, PySem.W.cellsFrom_some _ _ _ (.inl q)⟩) fun env he s1 x => ?_
  subst he
  have lim1 : s1.heap.NoLimit := lim.keeps x.toInCall.keep
  refine ⟨lim1, ?_⟩
  have os1 : s1.os = s.os := by obtain ⟨h1, tk, es1, hk1⟩ := x.done; rw [es1]
  have gen1 : s1.gens = s.gens := by obtain ⟨h1, tk, es1, hk1⟩ := x.done; rw [es1]
  have lt1 : s.heap.objs.size < s1.heap.objs.size := x.toInCall.ns.lt
  have kp1 : ∀ b o, s.heap.get? b = some o → s1.heap.get? b = some o := x.toInCall.keep
  have main : ∀ (go : Obj) (nm qn : Value) (tk2 : Nat), go.cls = .type "generator" → go.data = .fields #[.int s1.gens.size 0, nm, qn] → go.slots = #[] → (∀ h : Heap, (h.push go).get? h.objs.size = some go) → ∀ Aw : Around, Aw.guards = some [] → Room (k + 1) Aw → Aw.frames = some outer →
      ∃ X a g c oL gz σ0, Value.ref s1.heap.objs.size = .ref a ∧ GMadeJ P w outer H s out fin Aw X a g c oL gz σ0 { s1 with gens := s1.gens.push (.fresh (.func (defBody st) (envOfC qual (defScope st) s.heap.objs.size f cdv))), toks := tk2, heap := s1.heap.push go } := by
    intro go nm qn tk2 hgc hgd0 hgs hgp Aw hgd hrw hfr
    have e0w : Env0 P w K mg base Aw outer s H := ⟨hfr, e0.mod, e0.bs, e0.bsz, e0.funs, e0.frf, e0.hok, e0.bare⟩
    have I1 : Inv (gcxOf P w K mg base N qual (defScope st) f cdv Aw outer s H E0 []) [] (start N vs) H s1 := inv_startG S hrw.hd e0w hl r x
    have hpushed : (s1.heap.push go).get? s1.heap.objs.size = some go := hgp _
    have kp2 : ∀ b o, s1.heap.get? b = some o → (s1.heap.push go).get? b = some o := fun b o e => Heap.get?_push_of_some _ e
    have hba : AllBare (s1.gens.push (.fresh (.func (defBody st) (envOfC qual (defScope st) s.heap.objs.size f cdv)))) := AllBare.push (by rw [gen1]; exact e0.bare) rfl
    have I2 : Inv (gcxOf P w K mg base N qual (defScope st) f cdv Aw outer s H E0 []) [] (start N vs) H { s1 with gens := s1.gens.push (.fresh (.func (defBody st) (envOfC qual (defScope st) s.heap.objs.size f cdv))), toks := tk2, heap := s1.heap.push go } :=
      I1.call' (ch := []) rfl (Un.kept kp2) (I1.hok.kept kp2) hba fun b z => by simp at z
    have hcells : ∀ y c, (cellsFrom (s.heap.objs.size + 1) (defScope st).names []).lookup y = some c → False := fun y c e => by rw [hcl] at e; simp at e
    have af : s1.heap.objs.size ∉ frs outer := I1.nofs (Nat.le_refl _)
    have I3 : Inv (gcxOf P w K mg base N qual (defScope st) f cdv Aw outer s H E0 [(s1.heap.objs.size, go)]) [] (start N vs) H { s1 with gens := s1.gens.push (.fresh (.func (defBody st) (envOfC qual (defScope st) s.heap.objs.size f cdv))), toks := tk2, heap := s1.heap.push go } := by
      refine Inv.pinnedG I2 fun p hp => ?_
      rw [List.append_nil] at hp
      rw [List.mem_singleton.mp hp]
      exact ⟨hpushed, I1.hok.fresh (Nat.le_refl _), Nat.ne_of_gt lt1, af, fun v q => by rw [hgd0] at q; cases q⟩
    have gen : ∀ h : Heap, h.get? s1.heap.objs.size = some go → h.IsGen s1.heap.objs.size s1.gens.size := fun h e => ⟨go, nm, qn, e, hgc, hgd0, hgs⟩
    obtain ⟨m, ⟨oL, es, ep, hoL, hdL, _⟩, _⟩ := I3.loc
    refine ⟨(gcxOf P w K mg base N qual (defScope st) f cdv Aw outer s H E0 [(s1.heap.objs.size, go)]).nox, s1.heap.objs.size, s1.gens.size, .func (defBody st) (envOfC qual (defScope st) s.heap.objs.size f cdv), oL, go, start N vs, rfl, ?_⟩
    refine ⟨Nat.le_refl _, lt1, (by show _ < (s1.heap.push go).objs.size; rw [Heap.size_push]; omega), hpushed, gen, Array.getElem?_push_size .., os1, hba, lim1.keeps kp2, fun b o e => kp2 b o (kp1 b o e), hoL, fun v q => (by rw [hdL] at q; cases q), fun v q => (by rw [hgd0] at q; cases q),
      rfl, rfl, rfl, rfl, rfl, rfl, hcells, rfl, ?_, af, I3.wish _, ?_⟩
    · exact fun z => absurd (e0.frf _ z) (fun _ => (I1.ok.funs.mem z).elim fun q1 q2 => by
        obtain ⟨ob, hob⟩ := q2
        exact absurd (Heap.lt_size hob.1) (Nat.lt_irrefl _))
    · intro O s2 H2 I4 hE
      obtain ⟨t, ht, hq⟩ := hbody cdv Aw outer s H vs out fin [(s1.heap.objs.size, go)] hgd (hrw.deeper _) hsp H2 hE
      refine seg_func ?_
      refine ht.run Aw O [] _ sizeLine [] s2 _ [] _ _ id id s2 (start N vs) H2 _ ⟨fun p hp => (by simp at hp), over_func, rfl, rfl, rfl, fun _ _ z => z⟩ (Nat.add_zero _) ⟨fun n ys s₀ s' fl hn hs => ?_⟩ I4 hq
      cases fl with
      | next =>
        obtain ⟨σ', H', hI, hQ⟩ := hs
        exact seg_end (.ok (.ret .none)) (.inl ⟨.inl rfl, ys, [], σ', H', hn, hI, fun p hp => (by simp at hp), hQ⟩)
      | brk => obtain ⟨_, _, _, q⟩ := hs; exact False.elim q
      | cont => obtain ⟨_, _, _, q⟩ := hs; exact False.elim q
      | ret u =>
        obtain ⟨v, σ', H', hI, rv, ev, hQ⟩ := hs
        subst ev
        cases (show u = Value.none from rv)
        exact seg_end (.ok (.ret .none)) (.inl ⟨.inl rfl, ys, [], σ', H', hn, hI, fun p hp => (by simp at hp), hQ⟩)
  intro Aw h1 h2 h3
  have m1 := main { cls := .type "generator", data := .fields #[.int s1.gens.size 0, .str (PySem.W.fnOf nx qual (defArgs st) (defBody st) (defScope st) .none kV doc pm an cdv ct).name s1.toks, .str (PySem.W.fnOf nx qual (defArgs st) (defBody st) (defScope st) .none kV doc pm an cdv ct).qualname (s1.toks + 1)] } _ _ (s1.toks + 1 + 1) rfl rfl rfl (fun h => Heap.get?_push_size h rfl) Aw h1 h2 h3
  exact m1
end CM
-- part R11
set_option Elab.async false
set_option linter.all false
set_option maxRecDepth 100000
set_option maxHeartbeats 4000000
/-! ### list(g) -/
namespace CM
open PySem PySem.Spec PyProof.Rows L2 StX GenW
def ownL (S : Addr) : Own := ⟨[S], fun ys po => ∃ acc c, po = [(S, lstObj acc c)] ∧ Vals ys acc.toList⟩
theorem gj_of {X : Cx} {S : Addr} {ip : Pins} {ys : List V} {σ : L2.St} {H : Hp} {s : Shared} (h : GI X S ip ys σ H s) : GJ X (ownL S) ip ys σ H s :=
  let ⟨acc, c, r, I⟩ := h; ⟨[(S, lstObj acc c)], rfl, ⟨acc, c, rfl, r⟩, I⟩
theorem gi_of {X : Cx} {S : Addr} {ip : Pins} {ys : List V} {σ : L2.St} {H : Hp} {s : Shared} (h : GJ X (ownL S) ip ys σ H s) : GI X S ip ys σ H s := by
  obtain ⟨po, e, ⟨acc, c, rfl, r⟩, I⟩ := h
  exact ⟨acc, c, r, I⟩
theorem inv_gen {X : Cx} {pins : Pins} {σ : L2.St} {H : Hp} {s : Shared} {g : Nat} {x : GenState} (I : Inv X pins σ H s) (hx : x.bare = true) : Inv X pins σ H (s.setGen g x) :=
  ⟨I.ok, I.os, allBare_setGen I.bare hx, I.base, I.loc, I.cell, I.free, I.freeC, I.pin, I.hok, I.len⟩
theorem gi_gen {X : Cx} {S : Addr} {ip : Pins} {ys : List V} {σ : L2.St} {H : Hp} {s : Shared} {g : Nat} {x : GenState} (h : GI X S ip ys σ H s) (hx : x.bare = true) : GI X S ip ys σ H (s.setGen g x) :=
  let ⟨acc, c, r, I⟩ := h; ⟨acc, c, r, inv_gen I hx⟩
theorem gi_keep {X : Cx} {S : Addr} {ip : Pins} {ys : List V} {σ : L2.St} {H : Hp} {s : Shared} {h' : Heap} (h : GI X S ip ys σ H s) (k : ∀ b o, s.heap.get? b = some o → h'.get? b = some o) : GI X S ip ys σ H { s with heap := h' } :=
  let ⟨acc, c, r, I⟩ := h; ⟨acc, c, r, I.un (h' := h') (t' := s.toks) (Un.kept k) (I.hok.kept k)⟩
theorem drainJ {Xg : Cx} {out : OutJ} {fin : FinJ} {A : Around} {R : Result → Shared → Prop} {S a : Addr} {g : Nat} {go : Obj} {res : Value} (hh : A.handled = none) (hd : A.depth < recursionLimit) (hpn : Xg.pn = [(a, go)]) (hg : ∀ h : Heap, h.get? a = some go → h.IsGen a g) (hA : Apart Xg S) (hSa : a ≠ S)
    (hk : ∀ ys x H, out.o ys x H → out.k ys x x H) (hend : ∀ s' ys ip σ H', GI Xg S ip ys σ H' s' → ys.length ≤ sizeLine → fin ys H' → R (.ok (.ret res)) s') :
    ∀ (m : Nat) (s : Shared) (gs : GenState) (ip : Pins) (ys : List V) (σ : L2.St) (H : Hp), s.gens[g]? = some gs → GI Xg S ip ys σ H s → (∀ p ∈ ip, p.1 ∉ [S]) → m + ys.length = sizeLine →
      (∀ s2, GJ Xg (ownL S) ip ys σ H s2 → gs.Goes (model Xg.prog Xg.w) A.in1.in1 (RJ Xg (ownL S) fin) (YJ Xg (ownL S) out) m (.send .none) s2) → codeAny (model Xg.prog Xg.w) A (.builtin "list.extend.loop" ⟨[.ref S, .ref a, res], []⟩) R s := by
  have goes : ∀ {gs : GenState} {B : Around} {n : Nat} {r : Resume} {s : Shared}, gs.Goes (model Xg.prog Xg.w) B (RJ Xg (ownL S) fin) (YJ Xg (ownL S) out) n r s →
      gs.Goes (model Xg.prog Xg.w) B (fun n s₀ r s1 => ((r = .ok (.ret .none) ∨ r = .ok .next) ∧ EndJ Xg (ownL S) fin n s1) ∨ ∃ e, r = .error e ∧ (fun (_ : Value) (_ : Shared) => False) e s1) (YJ Xg (ownL S) out) n r s := fun h => h
  have pg : ∀ {ip : Pins} {ys : List V} {σ : L2.St} {H : Hp} {s : Shared}, GI Xg S ip ys σ H s → s.heap.get? a = some go := fun {ip ys σ H s} h => by
    obtain ⟨acc, c, r, I⟩ := h
    exact (I.pin (a, go) (List.mem_append_left _ (by rw [hpn]; exact List.mem_singleton.mpr rfl))).1
  have pn : ∀ p ∈ Xg.pn, p.1 ≠ S := fun p hp => by
    rw [hpn] at hp
    rw [List.mem_singleton.mp hp]
    exact hSa
  have nl : ∀ {ip : Pins} {ys : List V} {σ : L2.St} {H : Hp} {s : Shared}, GI Xg S ip ys σ H s → s.heap.NoLimit := fun h => let ⟨_, _, _, I⟩ := h; I.nolimit
  -- what the consumer does with an item
  have take : ∀ {ip : Pins} {ys : List V} {x : V} {v : Value} {σ : L2.St} {H : Hp} {s : Shared} {G : Array GenState}, GI Xg S ip ys σ H s → (∀ p ∈ ip, p.1 ∉ [S]) → RelV x v → AllBare G → GI Xg S ip (ys ++ [x]) σ H { s with gens := G, heap := s.heap.update S (Obj.mapSeq (·.push v)) } := fun {ip ys x v σ H s G} h hip rv hG => by
    obtain ⟨_, _, _, acc, c, _, hS⟩ := h.at
    exact GI.woken pn (fun p hp e => hip p hp (List.mem_singleton.mpr e)) hA h rv (Slept.push hS hG)
  intro m
  induction m with
  | zero =>
    intro s gs ip ys σ H hgs hG hip hm hgo
    refine codeAny_builtin F.entry_extend_loop ?_
    rw [Around.under_plainId F.plain_extend_loop _]
    show wpAny _ A.in1 (pyNext (.ref a) >>= _) _ _ s
    refine wpAny_bind (next_genG (A := A.in1) hh (nl hG) hd (hg _ (pg hG)) hgs (goes (hgo _ (gj_of (gi_gen hG rfl)))) (fun v s₁ gs' hbare hv => ?_) (fun s₁ hp h' hkp => ?_) fun e s₁ he => he.elim)
    · obtain ⟨ys', x, ip', σ', H', _, rv, hJ, hip', ho, hkk⟩ := hv
      have hI := gi_of hJ
      have hb1 : AllBare s₁.gens := let ⟨_, _, _, I⟩ := hI; I.bare
      exact (hkk x _ H' (gj_of (take hI hip' rv hb1)) (fun _ _ h => h) (hk _ _ _ ho)).elim
    · obtain ⟨ys', ip', σ', H', hn, hJ, hip', hf⟩ := hp
      exact wpAny_pure (hend _ ys' ip' σ' H' (gi_keep (gi_gen (gi_of hJ) rfl) hkp) (by omega) hf)
  | succ m ih =>
    intro s gs ip ys σ H hgs hG hip hm hgo
    have hgl : g < s.gens.size := (Array.getElem?_eq_some_iff.mp hgs).1
    refine codeAny_builtin F.entry_extend_loop ?_
    rw [Around.under_plainId F.plain_extend_loop _]
    show wpAny _ A.in1 (pyNext (.ref a) >>= _) _ _ s
    refine wpAny_bind (wpAny_gsz (n := g + 1) hgl (next_genG (A := A.in1) hh (nl hG) hd (hg _ (pg hG)) hgs (goes (hgo _ (gj_of (gi_gen hG rfl)))) (fun v s₁ gs' hbare hv => ?_) (fun s₁ hp h' hkp => ?_) fun e s₁ he => he.elim))
    · intro hsz
      obtain ⟨ys', x, ip', σ', H', hn, rv, hJ, hip', ho, hkk⟩ := hv
      have hI := gi_of hJ
      have hb1 : AllBare s₁.gens := let ⟨_, _, _, I⟩ := hI; I.bare
      obtain ⟨_, _, _, acc, c, rr, hS1⟩ := hI.at
      have hz : acc.size < sizeLine := by
        have e1 : ys'.length = acc.size := rr.length
        have e2 : m + 1 + ys'.length = sizeLine := hn
        omega
      show wpAny _ A.in1 (updateSeq S (·.push v) >>= _) _ _ _
      refine wpAny_bind ?_
      refine wpAny_updateSeq hS1 rfl (wpAny_pure ⟨plainId_quiet F.plain_extend_loop _, ?_⟩) (Nat.le_of_lt hz) (by show (acc.push v).size ≤ sizeLine + 1; rw [Array.size_push]; omega)
      have hsz1 : g < s₁.gens.size := by
        have q : (s₁.setGen g gs').gens.size = s₁.gens.size := setGen_size _ _ _
        have hsz' : g + 1 ≤ (s₁.setGen g gs').gens.size := hsz
        omega
      have hb2 : AllBare (s₁.setGen g gs').gens := allBare_setGen hb1 hbare
      refine ih { s₁.setGen g gs' with heap := s₁.heap.update S (Obj.mapSeq (·.push v)) } gs' ip' (ys' ++ [x]) σ' H' (setGen_at hsz1) (take hI hip' rv hb2) hip' (by rw [List.length_append, List.length_singleton]; omega) fun s2 h2 => ?_
      exact hkk x s2 H' h2 (fun _ _ h => h) (hk _ _ _ ho)
    · intro hsz
      obtain ⟨ys', ip', σ', H', hn, hJ, hip', hf⟩ := hp
      exact wpAny_pure (hend _ ys' ip' σ' H' (gi_keep (gi_gen (gi_of hJ) rfl) hkp) (by omega) hf)
end CM
-- part R12
set_option Elab.async false
set_option linter.all false
set_option maxRecDepth 100000
set_option maxHeartbeats 4000000
/-! ### list(g): the expression -/
namespace CM
open PySem PySem.Spec PyProof.Rows L2 StX GenW
/-- what it will hand out (out), what its end gives (fin) -/
abbrev TGenJ := L2.St → Hp → OutJ → FinJ → Prop
/-- a call's value is a generator that has not begun -/
structure PGenJ (X : Cx) (k : Nat) (e : Expr) (tg : TGenJ) : Prop where
  run : ∀ (pins : Pins) (s : Shared) (σ : L2.St) (H : Hp) (out : OutJ) (fin : FinJ), Inv X pins σ H s → tg σ H out fin → wpAny (model X.prog X.w) X.A (eval e X.env)
    (fun u s' => ∃ H1 sc, Inv X pins σ H1 sc ∧ ∀ Aw : Around, Aw.guards = some [] → Room k Aw → Aw.frames = some X.stack → ∃ Xg a g c oL go σ0, u = .ref a ∧ GMadeJ X.prog X.w X.stack H1 sc out fin Aw Xg a g c oL go σ0 s') X.xe s
section
variable {X : Cx} {k : Nat} {f : Addr} {sp : SpJ}
theorem run_gfnj {pins : Pins} {σ : L2.St} {H : Hp} {s : Shared} {us : List Value} {vs : List V} {out : OutJ} {fin : FinJ} {E1 : Value → Shared → Prop} (F : GFnJ X.prog X.w X.K X.mg X.base k f sp) (hr : Room k X.A) (I : Inv X pins σ H s) (r : Vals vs us) (h : sp vs H out fin) :
    wpAny (model X.prog X.w) X.A (call (.ref f) us) (fun u s' => ∃ H1 sc, Inv X pins σ H1 sc ∧ ∀ Aw : Around, Aw.guards = some [] → Room k Aw → Aw.frames = some X.stack → ∃ Xg a g c oL go σ0, u = .ref a ∧ GMadeJ X.prog X.w X.stack H1 sc out fin Aw Xg a g c oL go σ0 s') E1 s := by
  refine wpAny_call (codeAny_mono (F X.A X.stack s H us vs out fin hr I.env0 r h) fun r s' hq => ?_)
  cases r with
  | error e => exact hq.elim
  | ok fl =>
    cases fl with
    | ret u => exact ⟨H, s, I, hq⟩
    | next => exact hq.elim
    | brk => exact hq.elim
    | cont => exact hq.elim
def tGenJ (sp : SpJ) (t : TA) : TGenJ := fun σ H out fin => t σ H fun vs H1 => sp vs H1 out fin
theorem pgj_call {x : Str} {e : Expr} {es : List Expr} {t : TA} {p pos : Pos} (F : GFnJ X.prog X.w X.K X.mg X.base k f sp) (hr : Room k X.A) (hg : Gl X x) (hm : X.mg x = some (.ref f)) (hk : PySem.W.keepIn X.K (.ref f) = true) (ha : PA X (e :: es) t)
    (hdb : (x == ("__debug__" : Str)) = false := by decide) (he : starEach (e :: es) X.env = (false, eval e X.env) :: starEach es X.env := by rfl) (hpl : (backTo pos (starEach es X.env)).any (·.1) = false := by rfl) :
    PGenJ X k (.Call (.Name x p) (e :: es) [] pos) (tGenJ sp t) := by
  refine ⟨fun pins s σ H out fin I h => ?_⟩
  refine wpAny_Call_Name_kw (ld_glob I hg hm ?_ hdb)
  refine PySem.W.callWith_K (h₀ := X.base) I.ok.mod.kin hk (thn (ha.run pos pins s σ H _ I h) fun us s1 ⟨vs, H1, I1, r, q⟩ => ⟨I1.kIn, ?_⟩) he hpl
  exact run_gfnj F hr I1 r q
theorem call_listJ {P : Program} {w : World} {outer : List Env} {H1 : Hp} {sc s : Shared} {out : OutJ} {fin : FinJ} {A : Around} {u : Value} {Q' : Value → Shared → Prop} {E : Value → Shared → Prop} (hr : Room (k + 3) A) (hgd : A.guards = some []) (hfr : A.frames = some outer)
    (h : ∀ Aw : Around, Aw.guards = some [] → Room k Aw → Aw.frames = some outer → ∃ Xg a g c oL go σ0, u = .ref a ∧ GMadeJ P w outer H1 sc out fin Aw Xg a g c oL go σ0 s) (hk : ∀ ys x H, out.o ys x H → out.k ys x x H)
    (hQ : ∀ S s' acc c H' ys, s.heap.objs.size ≤ S → s'.heap.get? S = some (lstObj acc c) → Vals ys acc.toList → ys.length ≤ sizeLine → s'.os = sc.os → AllBare s'.gens → Un (frs outer) [] H1 H' sc.heap s'.heap → HOk P w H' s'.heap → H' S = none → fin ys H' → Q' (.ref S) s') :
    wpAny (model P w) A (call (.type "list") [u]) Q' E s := by
  have hrw : Room k A.in1.in1.in1 := ⟨hr.hd, by have := hr.dp; show A.depth + 3 * k + 5 < _; omega, by have := hr.un; show A.units + 1 + 1 + 1 + 16 * k + 200 < _; omega⟩
  obtain ⟨Xg, a, g, c, oL, go, σ0, rfl, G⟩ := h A.in1.in1.in1 hgd hrw hfr
  have hSa : s.heap.objs.size ≠ a := Nat.ne_of_gt G.hi
  have hg0 : s.heap.IsGen a g := G.gen _ G.ga
  have gty : ∀ {h : Heap}, (∀ b o, s.heap.get? b = some o → h.get? b = some o) → h.IsGen a g := fun {h} q => hg0.keeps q
  refine callType_codes (Q₁ := fun obj s₁ => obj = .ref s.heap.objs.size ∧ s₁ = { s with heap := s.heap.push { cls := .type "list", data := .seq #[] } }) F.called_list (F.typeCall_list_1 _) F.entry_list_init
    (code_list_new _ ⟨rfl, rfl⟩) fun obj s₁ h₁ => ?_
  obtain ⟨rfl, rfl⟩ := h₁
  have hS : (s.heap.push { cls := .type "list", data := .seq #[] }).get? s.heap.objs.size = some { cls := .type "list", data := .seq #[] } := Heap.get?_push_size _ rfl
  refine ⟨⟨_, hS, rfl⟩, F.args_list_init_2 _ _, ?_⟩
  show wpAny _ A.in1.in1 (do let old ← Builtin.List.listItems (.ref s.heap.objs.size); Builtin.List.listUpdate (.ref s.heap.objs.size) (fun _ => #[]); letGo old.toList.reverse; Builtin.List.listExtendWith (.ref s.heap.objs.size) (.ref a) .none) _ _ _
  refine wpAny_bind ?_
  unfold Builtin.List.listItems
  refine wpAny_bind (wpAny_seqItems hS rfl (wpAny_pure ?_))
  show wpAny _ A.in1.in1 (updateSeq s.heap.objs.size (fun _ => #[]) >>= fun _ => letGo (#[] : Array Value).toList.reverse >>= fun _ => Builtin.List.listExtendWith (.ref s.heap.objs.size) (.ref a) .none) _ _ _
  refine wpAny_bind (wpAny_updateSeq hS rfl ?_)
  have hS2 := Heap.get?_update_self (Obj.mapSeq (fun _ => (#[] : Array Value))) hS rfl
  refine wpAny_bind (wpAny_letGo ?_)
  unfold Builtin.List.listExtendWith
  have up : ∀ (h : Heap) (f : Obj → Obj), (∀ b o, s.heap.get? b = some o → h.get? b = some o) → ∀ b o, s.heap.get? b = some o → (h.update s.heap.objs.size f).get? b = some o := fun h f q b o e =>
    (Heap.get?_update_other _ _ (Ne.symm (Nat.ne_of_lt (Heap.lt_size e)))).trans (q b o e)
  have k1 : ∀ b o, s.heap.get? b = some o → (s.heap.push { cls := .type "list", data := .seq #[] }).get? b = some o := fun b o e => Heap.get?_push_of_some _ e
  have k2 := up _ (Obj.mapSeq (fun _ => (#[] : Array Value))) k1
  refine wpAny_bind (wpAny_typeOf (Heap.IsGen.typeIs (s := { s with heap := _ }) (gty k2)) ?_)
  have h1 : Builtin.List.listSameRef (.ref s.heap.objs.size) (.ref a) = false := by simp [Builtin.List.listSameRef, hSa]
  have h2 : (Value.type "generator" == Value.type "list") = false := by decide
  have h3 : (Value.type "generator" == Value.type "tuple") = false := by decide
  simp only [h1, h2, h3, Bool.or_false, Bool.false_eq_true, if_false]
  refine wpAny_bind (wpAny_pyIter_gen (s := { s with heap := _ }) (gty k2) ?_)
  refine wpAny_bind (wpAny_holding ?_)
  unfold Builtin.List.listLengthHint
  refine wpAny_bind (wpAny_specialOf (Heap.IsGen.typeIs (s := { s with heap := _ }) (gty k2)) F.gen_no_len ?_)
  show wpAny _ A.in1.in1 (specialOf (Value.ref a) (Str.ofString "__length_hint__") >>= _) _ _ _
  refine wpAny_bind (wpAny_specialOf (Heap.IsGen.typeIs (s := { s with heap := _ }) (gty k2)) F.gen_no_hint ?_)
  refine wpAny_pure ?_
  show wpAny _ A.in1.in1 (rule "list.extend.makes-room" >>= fun _ => Builtin.List.listTouch (.ref s.heap.objs.size) >>= fun _ =>
    again (.builtin "list.extend.loop" ⟨[.ref s.heap.objs.size, .ref a, .none], []⟩)) _ _ _
  refine wpAny_bind (wpAny_rule ?_)
  refine wpAny_bind ?_
  show wpAny _ A.in1.in1 (updateSeq s.heap.objs.size (·.push .none) >>= fun _ => updateSeq s.heap.objs.size (·.pop)) _ _ _
  refine wpAny_bind (wpAny_updateSeq hS2 rfl ?_)
  have hS3 := Heap.get?_update_self (Obj.mapSeq (·.push Value.none)) hS2 rfl
  refine wpAny_updateSeq (hz := by seq_fits) hS3 rfl ?_
  have hS4 := Heap.get?_update_self (Obj.mapSeq (·.pop)) hS3 rfl
  have k4 := up _ (Obj.mapSeq (·.pop)) (up _ (Obj.mapSeq (·.push Value.none)) k2)
  refine wpAny_pure ⟨plainId_quiet F.plain_extend_loop _, ?_⟩
  have szs : Xg.s_0.heap.objs.size ≤ s.heap.objs.size := by rw [G.xs]; exact Nat.le_trans G.lo (Nat.le_of_lt (Nat.lt_trans G.la G.hi))
  have hA : Apart Xg s.heap.objs.size := ⟨szs, fun e => absurd (e ▸ Nat.lt_trans G.la G.hi) (Nat.lt_irrefl _), fun x c e => (G.xc x c e).elim⟩
  obtain ⟨xp, xw⟩ : Xg.prog = P ∧ Xg.w = w := ⟨G.xp, G.xw⟩
  subst xp xw
  -- the generator's own state, with the list
  have hI : Inv Xg [] σ0 H1 s := G.inv
  obtain ⟨c0, hS5⟩ : ∃ c0, ((((s.heap.push { cls := .type "list", data := .seq #[] }).update s.heap.objs.size (Obj.mapSeq (fun _ => (#[] : Array Value)))).update s.heap.objs.size (Obj.mapSeq (·.push Value.none))).update s.heap.objs.size (Obj.mapSeq (·.pop))).get? s.heap.objs.size = some (lstObj #[] c0) := ⟨_, hS4⟩
  generalize ((((s.heap.push { cls := .type "list", data := .seq #[] }).update s.heap.objs.size (Obj.mapSeq (fun _ => (#[] : Array Value)))).update s.heap.objs.size (Obj.mapSeq (·.push Value.none))).update s.heap.objs.size (Obj.mapSeq (·.pop))) = h4 at k4 hS5 ⊢
  have hn : H1 s.heap.objs.size = none := hI.hok.fresh (Nat.le_refl _)
  have I4 : Inv Xg [] σ0 H1 { s with heap := h4 } := hI.un (h' := h4) (t' := s.toks) (Un.kept k4) (hI.hok.kept k4)
  have hG : GI Xg s.heap.objs.size [] [] σ0 H1 { s with heap := h4 } := ⟨#[], c0, .nil, I4.ok, I4.os, I4.bare, I4.base, I4.loc, I4.cell, I4.free, I4.freeC, fun p hp => by
    rcases List.mem_append.mp hp with z | z
    · exact I4.pin p (List.mem_append_left _ z)
    · rw [List.mem_singleton.mp z]
      exact ⟨hS5, hn, hA.2.1, fun q => by
        have := hI.nofs (Nat.le_refl s.heap.objs.size)
        exact this q, fun v q => by cases q⟩, I4.hok, I4.len⟩
  refine drainJ (Xg := Xg) (out := out) (fin := fin) (A := A.in1) (g := g) hr.hd (by have := hr.dp; show A.depth < _; omega) G.xn G.gen hA (Ne.symm hSa) hk (fun s' ys ip σ' H' hg' hl hf => ⟨rfl, ?_⟩) sizeLine _ (.fresh c) [] [] σ0 H1 G.gs hG (fun p hp => (by simp at hp)) (Nat.add_zero _) fun s2 h2 => ⟨rfl, G.wake _ s2 H1 h2 (fun _ _ h => h)⟩
  obtain ⟨acc, cc, rr, I5⟩ := hg'
  have p5 := I5.pin (s.heap.objs.size, lstObj acc cc) (List.mem_append_right _ List.mem_cons_self)
  refine hQ s.heap.objs.size s' acc cc H' ys (Nat.le_refl _) p5.1 rr hl ?_ I5.bare ?_ I5.hok p5.2.1 hf
  · have := I5.os
    rw [G.xs] at this
    exact this
  · have := I5.base
    rw [G.xs, G.xh, G.xf, G.xe] at this
    exact this
def tListJ (tg : TGenJ) : TE := fun σ H Q => ∃ (out : OutJ) (fin : FinJ), tg σ H out fin ∧ (∀ ys x H, out.o ys x H → out.k ys x x H) ∧ ∀ ys H2, fin ys H2 → ys.length ≤ sizeLine → ∀ p, H2 p = none → Q (.ref p) (upd H2 p (.lst ys))
theorem pe_listJ {e : Expr} {tg : TGenJ} {nm : Str} {p pos : Pos} (h : PGenJ X k e tg) (hgd : X.A.guards = some []) (hr : Room (k + 3) X.A) (hg : Gl X nm) (hmg : X.mg nm = none) (hv : bootBuiltins nm = some (.type "list")) (hnm : nm ≠ "__name__" := by decide) (hdb : (nm == ("__debug__" : Str)) = false := by decide)
    (he : starEach [e] X.env = (false, eval e X.env) :: starEach [] X.env := by rfl) : PE X (.Call (.Name nm p) [e] [] pos) (tListJ tg) := by
  refine ⟨fun pins s σ H Q I hq => ?_⟩
  obtain ⟨out, fin, htg, hk, hq⟩ := hq
  refine wpAny_Call_Name_kw (ld_blt I hg hmg hv ?_ hnm hdb)
  refine PyProof.Rows.callWith_type1 ?_ he rfl
  rw [he]
  show wpAny _ _ (spliced ((false, eval e X.env) :: backTo pos (starEach [] X.env))) _ _ s
  refine Calls.spliced_cons (thn (h.run pins s σ H out fin I htg) fun u s1 ⟨H1, sc, I1, hG⟩ => ?_)
  refine Calls.spliced_nil ?_
  have hsz : sc.heap.objs.size ≤ s1.heap.objs.size := by
    have hrw : Room k X.A := hr.mono (by omega)
    obtain ⟨_, _, _, _, _, _, _, _, G⟩ := hG X.A hgd hrw I1.ok.frames
    exact Nat.le_trans G.lo (Nat.le_of_lt (Nat.lt_trans G.la G.hi))
  refine call_listJ hr hgd I1.ok.frames hG hk fun S s' acc c H' ys q0 q1 q2 hl q3 q4 q5 q6 q7 q8 => ?_
  exact ⟨.ref S, upd H' S (.lst ys), I1.drained (Nat.le_trans hsz q0) hl q1 q2 .nil q3 q4 q5 q6 q7, rfl, hq ys H' q8 hl S q7⟩
end
end CM
-- part R13
set_option Elab.async false
set_option linter.all false
set_option maxRecDepth 100000
set_option maxHeartbeats 4000000
/-! ### steps that let the sleeping generators be -/
namespace CM
open PySem PySem.Spec PyProof.Rows L2 StX GenW
theorem inv_store {X : Cx} {pins : Pins} {σ : L2.St} {H : Hp} {s : Shared} {h' : Heap} {t' i : Nat} {x : Str} {v : V} {u : Value} {m : Str → Option Value} (I : Inv X pins σ H s) (hN : X.N.Nodup) (hi : X.N[i]? = some x) (hk : X.env.kindOf x = some .local) (r : RelV v u)
    (hl : ∀ (j : Nat) (y : Str) (z : V), X.N[j]? = some y → σ[j]? = some (some z) → Vis X.env.scope y → ∃ u, RelV z u ∧ Look X.env s.heap m y u) (hm : s.heap.Ns X.env.locals m)
    (hn : h'.Ns X.env.locals (fun y => if y = x then some u else m y)) (hs : Heap.SameBut X.env.locals s.heap h') : Inv X pins (σ.set i (some v)) H { s with heap := h', toks := t' } := by
  have hiσ : i < σ.length := by rw [I.len]; exact (List.getElem?_eq_some_iff.mp hi).1
  have old : ∀ {b : Addr} {o : Obj}, X.s_0.heap.get? b = some o → b ≠ X.env.locals := fun {b o} e => Nat.ne_of_lt (Nat.lt_of_lt_of_le (Heap.lt_size e) I.ok.above)
  refine ⟨I.ok, I.os, I.bare, ⟨fun b o e n hb hx => (hs.2 b (old e)).trans (I.base.keep b o e n hb hx), fun b o e n hb hx => ?_, I.base.free, fun b o e hx => ?_, I.base.tups, I.base.frzs, I.base.tbls⟩, ⟨_, hn, fun j y z e1 e2 e3 => ?_⟩, fun y c e => ?_, I.free, I.freeC, fun p hp => ?_, fun b ob e => ?_, by simpa using I.len⟩
  · have ⟨sl, q⟩ := I.base.slot b o e n hb hx
    exact ⟨sl, (hs.2 b (old e)).trans q⟩
  · have ⟨o', q⟩ := I.base.there b o e hx
    exact ⟨o', (hs.2 b (old e)).trans q⟩
  · by_cases hj : i = j
    · subst hj
      have ey : x = y := by rw [hi] at e1; exact Option.some.inj e1
      subst ey
      rw [List.getElem?_set_self hiσ] at e2
      cases e2
      exact ⟨u, r, .inl ⟨hk, by simp⟩⟩
    · rw [List.getElem?_set_ne hj] at e2
      obtain ⟨u', r', q⟩ := hl j y z e1 e2 e3
      refine ⟨u', r', q.imp (fun ⟨k, e⟩ => ⟨k, ?_⟩) fun ⟨k, c, e, w⟩ => ⟨k, c, e, w.sameBut hs (I.cne y c e)⟩⟩
      have ne : y ≠ x := fun e => hj (nodup_ix hN hi (e ▸ e1))
      simp [ne, e]
  · have ⟨w', z⟩ := I.cell y c e
    exact ⟨w', z.sameBut hs (I.cne y c e)⟩
  · have ⟨e, n, ne, nf, d⟩ := I.pin p hp
    exact ⟨(hs.2 p.1 ne).trans e, n, ne, nf, d⟩
  · refine (I.hok b ob e).stay (fun c w' hc q => (hs.2 c fun z => ?_).trans q) (fun _ q => q) fun _ _ q => q
    have fr := I.free
    rw [← z] at fr
    rcases hc with hc | hc
    · rw [← hc] at e
      rw [fr] at e
      cases e
    · rw [fr] at hc
      cases hc
/-- like PE; and no generator is touched -/
structure PEg (X : Cx) (e : Expr) (t : TE) : Prop where
  run : ∀ (pins : Pins) (s : Shared) (σ : L2.St) (H : Hp) (Q : VK), Inv X pins σ H s → t σ H Q → wpAny (model X.prog X.w) X.A (eval e X.env) (fun u s' => EP X pins σ Q u s' ∧ s'.gens = s.gens) X.xe s
section
variable {X : Cx} {i j : Nat} {x y : Str} {px py pos : Pos}
theorem peg_var (hi : X.N[i]? = some x) (hk : X.env.kindOf x = some .local) (hd : (x == ("__debug__" : Str)) = false := by decide) : PEg X (.Name x px) (tVar i) := by
  refine ⟨fun pins s σ H Q I h => ?_⟩
  obtain ⟨v, e, h⟩ := h
  obtain ⟨m, hn, hl⟩ := I.loc
  obtain ⟨u, r, l⟩ := hl i x v hi e (.inl hk)
  rcases l with ⟨_, hm⟩ | ⟨k, _⟩
  · exact wpAny_Name (wpAny_loadName_local I.ok.kind hk hn hm ⟨⟨v, H, I, r, h⟩, rfl⟩) hd
  · rw [hk] at k
    rcases k with k | k <;> cases k
def tPairV (i j : Nat) : TE := fun σ H Q => ∃ v w, σ[i]? = some (some v) ∧ σ[j]? = some (some w) ∧ ∀ p, H p = none → Q (.ref p) (upd H p (.tup [v, w]))
theorem peg_pair {k} (hi : X.N[i]? = some x) (hki : X.env.kindOf x = some .local) (hj : X.N[j]? = some y) (hkj : X.env.kindOf y = some .local) (hd : (x == ("__debug__" : Str)) = false := by decide) (hd2 : (y == ("__debug__" : Str)) = false := by decide)
    (h1 : starEach [.Name x px, .Name y py] X.env = (false, eval (.Name x px) X.env) :: starEach [.Name y py] X.env := by rfl) (h2 : starEach [.Name y py] X.env = [(false, eval (.Name y py) X.env)] := by rfl) : PEg X (.Tuple [.Name x px, .Name y py] k pos) (tPairV i j) := by
  refine ⟨fun pins s σ H Q I h => ?_⟩
  obtain ⟨v, w, e1, e2, h⟩ := h
  refine wpAny_Tuple_spliced ?_
  rw [h1, h2]
  refine Calls.spliced_cons (thn ((peg_var hi hki hd).run pins s σ H (fun a H' => a = v ∧ H' = H) I ⟨v, e1, rfl, rfl⟩) fun u1 s1 ⟨⟨a1, H1, I1, r1, q1, q2⟩, g1⟩ => ?_)
  subst q1 q2
  refine Calls.spliced_cons (thn ((peg_var hj hkj hd2).run pins s1 σ _ (fun a H' => a = w ∧ H' = _) I1 ⟨w, e2, rfl, rfl⟩) fun u2 s2 ⟨⟨a2, H2, I2, r2, q1, q2⟩, g2⟩ => ?_)
  subst q1 q2
  refine Calls.spliced_nil ⟨(by show 2 ≤ sizeLine; decide), ?_⟩
  have hf : H2 s2.heap.objs.size = none := I2.hok.fresh (Nat.le_refl _)
  refine ⟨⟨.ref s2.heap.objs.size, upd H2 s2.heap.objs.size (.tup [a1, a2]), I2.laid (t' := s2.toks) (fun b u e => Heap.get?_push_of_some _ e) (Nat.le_refl _) ⟨(by show 2 ≤ sizeLine; decide), [u1, u2], .cons r1 (.cons r2 .nil), ⟨_, Heap.get?_push_size _ rfl, rfl, _, rfl⟩⟩, rfl, h _ hf⟩, g2.trans g1⟩
/-- x, y = a pair -/
theorem asg_pair {k} {pins : Pins} {s : Shared} {σ : L2.St} {H : Hp} {t : Addr} {v w : V} {E : Value → Shared → Prop} {Q : Unit → Shared → Prop} (hc : X.calm = true) (hN : X.N.Nodup) (hi : X.N[i]? = some x) (hki : X.env.kindOf x = some .local) (hj : X.N[j]? = some y) (hkj : X.env.kindOf y = some .local)
    (I : Inv X pins σ H s) (ht : H t = some (.tup [v, w])) (hQ : ∀ s', Inv X pins ((σ.set i (some v)).set j (some w)) H s' → s'.gens = s.gens → Q () s')
    (h1 : (assignEach [.Name x px, .Name y py] X.env).map (·.2) = [assign (.Name x px) X.env, assign (.Name y py) X.env] := by rfl) (hn : (assignEach [.Name x px, .Name y py] X.env).length = 2 := by rfl) (hst : (assignEach [.Name x px, .Name y py] X.env).findIdx? (·.1) = none := by rfl) :
    wpAny (model X.prog X.w) X.A (assign (.Tuple [.Name x px, .Name y py] k pos) X.env (.ref t)) Q E s := by
  have cls : (X.env.scope.kind == .class || (X.env.scope.kind == .module && X.env.locals != X.env.globals)) = false := by rw [I.ok.kind]; rfl
  obtain ⟨its, rv, hT, hz⟩ := I.tuple (xs := [v, w]) (.inl (.inl ht))
  cases rv with
  | cons r1 rv =>
  cases rv with
  | cons r2 rv =>
  cases rv
  refine assign_Tuple_tuple (I.ok.hd hc) hT (by rw [hn]; rfl) hst fun h' hx => ?_
  have I1 : Inv X pins σ H { s with heap := h' } := I.kept (t' := s.toks) fun b o e => hx b o (Nat.ne_of_lt (Heap.lt_size e)) e
  rw [h1]
  obtain ⟨m1, n1, l1⟩ := I1.loc
  refine assignInOrder_cons (wpAny_assign_Name (wpAny_storeName_local hki n1 (fun h2 n2 s2 => ?_) cls))
  have I2 := inv_store (t' := s.toks + 1) I1 hN hi hki r1 l1 n1 n2 s2
  obtain ⟨m3, n3, l3⟩ := I2.loc
  refine assignInOrder_cons (wpAny_assign_Name (wpAny_storeName_local hkj n3 (fun h4 n4 s4 => ?_) cls))
  exact assignInOrder_nil (hQ _ (inv_store (t' := s.toks + 1 + 1) I2 hN hj hkj r2 l3 n3 n4 s4) rfl)
end
end CM
-- part R14
set_option Elab.async false
set_option linter.all false
set_option maxRecDepth 100000
set_option maxHeartbeats 4000000
/-! ### a comprehension over a generator of pairs -/
namespace CM
open PySem PySem.Spec PyProof.Rows L2 StX GenW
def ownC (D C : Addr) : Own := ⟨[D, C], fun ys po => ∃ acc c oC es ep, po = [(D, lstObj acc c), (C, oC)] ∧ Vals ys acc.toList ∧ oC.data = .dict es ep ∧ StrKeys es⟩
/-- what is handed out is a pair; the element's value; the list at the end -/
def tGlc (tg : TGenJ) (i j : Nat) (te : TE) (vs : List Nat) : TE := fun σ H Q => ∃ (out : OutJ) (fin : FinJ), tg σ H out fin ∧
  (∀ ys v H1, out.o ys v H1 → ∃ t a b, v = .ref t ∧ H1 t = some (.tup [a, b]) ∧ te (((wipe σ vs).set i (some a)).set j (some b)) H1 fun z H2 => Ext H1 H2 ∧ out.k ys v z H2) ∧
  ∀ ys H2, fin ys H2 → ys.length ≤ sizeLine → ∀ p, H2 p = none → Q (.ref p) (upd H2 p (.lst ys))
theorem wipe_mono {σ : L2.St} {vs : List Nat} {i j : Nat} {a b : Option V} (hi : i ∈ vs) (hj : j ∈ vs) (n : Nat) (v : V) (e : (wipe σ vs)[n]? = some (some v)) : (((wipe σ vs).set i a).set j b)[n]? = some (some v) := by
  have q := (wipe_some e).2
  have h1 : i ≠ n := fun z => q (by rw [← z]; exact hi)
  have h2 : j ≠ n := fun z => q (by rw [← z]; exact hj)
  rw [List.getElem?_set_ne h2, List.getElem?_set_ne h1]
  exact e
theorem letgo_gen {prog : Program} {w : World} {A : Around} {E : Value → Shared → Prop} {s : Shared} {a t : Addr} {g : Nat} {elts : List Expr} {k} {pos : Pos} {Q : Unit → Shared → Prop} (hg : s.heap.IsGen a g) (hQ : Q () s) : wpAny (model prog w) A (letOwnedTupleGo (.Tuple elts k pos) (.ref a) (.ref t)) Q E s := by
  obtain ⟨o, nm, qn, ho, hc, hd, hs⟩ := hg
  unfold letOwnedTupleGo
  refine wpAny_bind (wpAny_load ho ?_)
  rw [hc, hd]
  exact wpAny_pure hQ
section
variable {X : Cx} {k : Nat}
theorem glc_core {pins : Pins} {s : Shared} {σ : L2.St} {H : Hp} {Q : VK} {elt iter : Expr} {x y : Str} {px py tp : Pos} {kt} {scope : Scope} {own : List (Str × Nat)} {pos pos' : Pos} {use : Option (Value → Sem Unit)} {Qf : Value → Shared → Prop} {tg : TGenJ} {i j : Nat} {te : TE}
    (hc : X.calm = true) (hgd : X.A.guards = some []) (hr : Room (k + 1) X.A) (hN : X.N.Nodup) (I : Inv X pins σ H s) (hi : PGenJ X k iter tg) (ok : BlkOk X.N X.env.scope scope own)
    (hcl : ∀ n, cellsFrom n scope.names (cloFrom X.env.cells scope.names []) = []) (ix : X.N[i]? = some x) (jy : X.N[j]? = some y) (kx : (relS scope X.env.scope).names.lookup x = some .local) (ky : (relS scope X.env.scope).names.lookup y = some .local) (vi : i ∈ own.map (·.2)) (vj : j ∈ own.map (·.2))
    (he : ∀ (s : Shared) (H : Hp) (C : Addr) (cl : List (Str × Addr)), PEg (X.blk s H scope (compEnvC scope cl C X.env) []) elt te) (hs : ∀ x, foldedSetIterable iter X.env x = pure x)
    (h : tGlc tg i j te (own.map (·.2)) σ H Q)
    (hRR : ∀ D C s' m H', Inv X pins σ H' s' → Q (.ref D) H' → s'.heap.Ns C m → FpOk X pins H' C → compPost (model X.prog X.w) X.A X.xe use Qf (.ref D) C (.ok .next) s') 
    (ha1 : ∀ env : Env, (assignEach [.Name x px, .Name y py] env).map (·.2) = [assign (.Name x px) env, assign (.Name y py) env] := by intro _; rfl) (ha2 : ∀ env : Env, (assignEach [.Name x px, .Name y py] env).length = 2 := by intro _; rfl) (ha3 : ∀ env : Env, (assignEach [.Name x px, .Name y py] env).findIdx? (·.1) = none := by intro _; rfl) :
    wpAny (model X.prog X.w) X.A (comprehension (.ListComp elt [⟨.Tuple [.Name x px, .Name y py] kt tp, iter, [], 0⟩] scope pos) scope X.env pos' (newList []) false (eval iter X.env) use) Qf X.xe s := by
  obtain ⟨out, fin, htg, hstep, hfin⟩ := h
  have hfree : ∀ y ∈ scope.names, y.2 = .free → ∃ c, X.env.cells.lookup y.1 = some c := fun y hy e => (ok.free y hy e).elim (fun k => I.ok.has _ (.inl k)) fun k => I.ok.has _ (.inr k)
  refine wpAny_comprehension_free (use := use) rfl hs (closure_ok hfree) ok.kind (fun y hy e => by rw [ok.uniq y hy, e]) (thn (hi.run pins s σ H out fin I htg) fun u s1 ⟨H1, sc, I1, hG⟩ => ?_)
  obtain ⟨Xg, a, g, c, oL, go, σ0, rfl, G⟩ := hG X.A.in1 hgd hr.in1 I1.ok.frames
  refine wpAny_pyIter_gen (G.gen _ G.ga) ?_
  have IX1 : Inv X pins σ H1 s1 := I1.call' (ch := []) G.os (Un.kept G.keep) (I1.hok.kept G.keep) G.bare fun b z => by simp at z
  have szc : sc.heap.objs.size < s1.heap.objs.size := Nat.lt_of_le_of_lt G.lo (Nat.lt_trans G.la G.hi)
  refine wpAny_newObj_type (newEnv_comp ?_) (by show 0 ≤ sizeLine; decide)
  generalize hD : s1.heap.objs.size = D
  have hpush : (s1.heap.push { cls := .type "list", data := .seq ([] : List Value).toArray }).get? D = some (lstObj #[] 0) := by rw [← hD]; exact Heap.get?_push_size _ rfl
  have hsz2 : (s1.heap.push { cls := .type "list", data := .seq ([] : List Value).toArray }).objs.size = D + 1 := by rw [Heap.size_push, hD]
  have kp2 : ∀ b o, s1.heap.get? b = some o → (s1.heap.push { cls := .type "list", data := .seq ([] : List Value).toArray }).get? b = some o := fun b o e => Heap.get?_push_of_some _ e
  generalize (s1.heap.push { cls := .type "list", data := .seq ([] : List Value).toArray }) = h2 at hpush hsz2 kp2 ⊢
  have IX2 : Inv X pins σ H1 { s1 with heap := h2 } := IX1.un (h' := h2) (t' := s1.toks) (Un.kept kp2) (IX1.hok.kept kp2)
  have I4 := block_start (fp := []) IX2 ok hN (fun b hb => by simp at hb)
  have hC0 : (pushCells (h2.push { cls := .type "dict", data := .dict #[] }) scope.names).get? (D + 1) = some { cls := .type "dict", data := .dict #[] } := pushCells_keeps _ _ _ _ (by rw [← hsz2]; exact Heap.get?_push_size _ rfl)
  have kp4 : ∀ b o, h2.get? b = some o → (pushCells (h2.push { cls := .type "dict", data := .dict #[] }) scope.names).get? b = some o := fun b o e => pushCells_keeps _ _ _ _ (Heap.get?_push_of_some _ e)
  have hceC : (compEnvC scope (cellsFrom (h2.objs.size + 1) scope.names (cloFrom X.env.cells scope.names [])) h2.objs.size X.env).cells = [] := hcl _
  have hceL : (compEnvC scope (cellsFrom (h2.objs.size + 1) scope.names (cloFrom X.env.cells scope.names [])) h2.objs.size X.env).locals = D + 1 := hsz2
  have hceS : (compEnvC scope (cellsFrom (h2.objs.size + 1) scope.names (cloFrom X.env.cells scope.names [])) h2.objs.size X.env).scope = relS scope X.env.scope := rfl
  have pe := he sc H1 h2.objs.size (cellsFrom (h2.objs.size + 1) scope.names (cloFrom X.env.cells scope.names []))
  show codeAny _ _ (.compStart _ 0 (.ref a) (.ref D) (compEnvC scope (cellsFrom (h2.objs.size + 1) scope.names (cloFrom X.env.cells scope.names [])) h2.objs.size X.env)) (compPost (model X.prog X.w) X.A X.xe use Qf (.ref D) h2.objs.size) { s1 with heap := pushCells (h2.push { cls := .type "dict", data := .dict #[] }) scope.names }
  have I4 : Inv (X.blk { s1 with heap := h2 } H1 scope (compEnvC scope (cellsFrom (h2.objs.size + 1) scope.names (cloFrom X.env.cells scope.names [])) h2.objs.size X.env) []) [] (wipe σ (own.map (·.2))) H1 { s1 with heap := pushCells (h2.push { cls := .type "dict", data := .dict #[] }) scope.names } := I4
  rw [hsz2] at I4 pe hceC hceL hceS ⊢
  generalize compEnvC scope (cellsFrom (D + 1 + 1) scope.names (cloFrom X.env.cells scope.names [])) (D + 1) X.env = ce at I4 pe hceC hceL hceS ⊢
  generalize (pushCells (h2.push { cls := .type "dict", data := .dict #[] }) scope.names) = h4 at I4 hC0 kp4 ⊢
  have kp14 : ∀ b o, s1.heap.get? b = some o → h4.get? b = some o := fun b o e => kp4 b o (kp2 b o e)
  -- the block, seen from the state ahead of the call
  have okB : (X.blk sc H1 scope ce []).Ok := by
    have o := I4.ok
    refine ⟨o.mod, o.kind, o.glob, o.blt, ?_, o.inj, o.has, fun y c _ e => ?_, o.hd, o.frames, o.stk, fun b hb => by simp at hb, I1.bs, Nat.le_trans I1.ok.bsz I1.sz, fun b o e hb => by simp at hb, fun b hb => by simp at hb, I1.stack, I1.stkFree⟩
    · show sc.heap.objs.size ≤ ce.locals
      rw [hceL]; omega
    · have e : ce.cells.lookup y = some c := e
      rw [hceC] at e
      cases e
  have noc : ∀ y c, (X.blk sc H1 scope ce []).env.cells.lookup y = some c → False := fun y c e => by
    have e : ce.cells.lookup y = some c := e
    rw [hceC] at e
    cases e
  have vac : ∀ (n : Nat) (z : Str) (v : V), X.N[n]? = some z → (wipe σ (own.map (·.2)))[n]? = some (some v) → Vis ce.scope z → False := fun n z v e1 e2 e3 => by
    obtain ⟨m, ⟨o, es, ep, ho, hd, _, hm⟩, hl⟩ := I4.loc
    have ho : h4.get? ce.locals = some o := ho
    rw [hceL, hC0] at ho
    cases ho
    cases hd
    obtain ⟨u, _, q⟩ := hl n z v e1 e2 e3
    rcases q with ⟨_, q⟩ | ⟨_, c, q, _⟩
    · rw [← hm z] at q
      cases q
    · exact noc z c q
  have lenB : (wipe σ (own.map (·.2))).length = X.N.length := I4.len
  have dLg : Xg.env.locals < D := by rw [← hD]; exact Nat.lt_trans G.la G.hi
  have daD : a < D := by rw [← hD]; exact G.hi
  have fLC : Xg.env.locals ≠ D + 1 := Nat.ne_of_lt (Nat.lt_succ_of_lt dLg)
  have faC : a ≠ D + 1 := Nat.ne_of_lt (Nat.lt_succ_of_lt daD)
  have fLD : Xg.env.locals ≠ D := Nat.ne_of_lt dLg
  have faD : a ≠ D := Nat.ne_of_lt daD
  have Df : D ∉ frs X.stack := by
    have q := G.inv.nofs (Nat.le_of_eq hD)
    have q : D ∉ Xg.fs := q
    rwa [G.xf] at q
  have Cf : D + 1 ∉ frs X.stack := by
    have q := G.inv.nofs (show s1.heap.objs.size ≤ D + 1 by omega)
    have q : D + 1 ∉ Xg.fs := q
    rwa [G.xf] at q
  obtain ⟨xp, xw⟩ : Xg.prog = X.prog ∧ Xg.w = X.w := ⟨G.xp, G.xw⟩
  -- back in the block when the generator sleeps
  have enter : ∀ {acc : Array Value} {cc : Nat} {oC oM : Obj} {es : Array DictEntry} {ep : Nat} {ip : Pins} {σg : L2.St} {H' : Hp} {s' : Shared}, Inv Xg ([(D, lstObj acc cc), (D + 1, oC)] ++ ip) σg H' s' → oC.data = .dict es ep → StrKeys es → (∀ p ∈ ip, p.1 ∉ [D, D + 1]) → s'.heap.get? Xg.env.locals = some oM → (∀ v, oM.data ≠ .cell v) →
      Inv (X.blk sc H1 scope ce []) ((Xg.env.locals, oM) :: (a, go) :: (D, lstObj acc cc) :: ip) (wipe σ (own.map (·.2))) H' s' := fun {acc cc oC oM es ep ip σg H' s'} J hd hk hip hM hMc => by
    have pC := J.pin (D + 1, oC) (List.mem_append_right _ (by simp))
    have pD := J.pin (D, lstObj acc cc) (List.mem_append_right _ (by simp))
    have pa := J.pin (a, go) (List.mem_append_left _ (by rw [G.xn]; simp))
    refine ⟨okB, by rw [J.os, G.xs], J.bare, ?_, ⟨_, ⟨oC, es, ep, by show s'.heap.get? ce.locals = some oC; rw [hceL]; exact pC.1, hd, hk, fun _ => rfl⟩, fun n z v e1 e2 e3 => (vac n z v e1 e2 e3).elim⟩, fun y c e => (noc y c e).elim, by show H' ce.locals = none; rw [hceL]; exact pC.2.1, fun y c e => (noc y c e).elim, fun p hp => ?_, by have q := J.hok; rw [xp, xw] at q; exact q, lenB⟩
    · have q := J.base
      rw [G.xf, G.xe, G.xs, G.xh] at q
      exact q
    · show s'.heap.get? p.1 = some p.2 ∧ H' p.1 = none ∧ p.1 ≠ ce.locals ∧ p.1 ∉ frs X.stack ∧ _
      rw [hceL]
      have hp : p ∈ (Xg.env.locals, oM) :: (a, go) :: (D, lstObj acc cc) :: ip := hp
      rcases List.mem_cons.mp hp with z | hp
      · rw [z]
        exact ⟨hM, J.free, fLC, G.Lf, hMc⟩
      rcases List.mem_cons.mp hp with z | hp
      · rw [z]
        exact ⟨pa.1, pa.2.1, faC, G.af, G.dg⟩
      rcases List.mem_cons.mp hp with z | hp
      · rw [z]
        exact ⟨pD.1, pD.2.1, Nat.ne_of_lt (Nat.lt_succ_self D), Df, fun v q => by cases q⟩
      · have q := J.pin p (List.mem_append_right _ (List.mem_append_right _ hp))
        refine ⟨q.1, q.2.1, fun z => hip p hp (by rw [z]; simp), ?_, q.2.2.2.2⟩
        have q4 : p.1 ∉ Xg.fs := q.2.2.2.1
        rwa [G.xf] at q4
  -- .. and out of it
  have leave : ∀ {acc acc' : Array Value} {cc cc' : Nat} {oC oM : Obj} {ip : Pins} {σg : L2.St} {σ' : L2.St} {H0 H' : Hp} {s' s'' : Shared}, Inv Xg ([(D, lstObj acc cc), (D + 1, oC)] ++ ip) σg H0 s' → s'.heap.get? Xg.env.locals = some oM → Inv (X.blk sc H1 scope ce []) ((Xg.env.locals, oM) :: (a, go) :: ip) σ' H' s'' →
      s''.heap.get? D = some (lstObj acc' cc') → H' D = none → ∃ oC' es ep, oC'.data = .dict es ep ∧ StrKeys es ∧ Inv Xg ([(D, lstObj acc' cc'), (D + 1, oC')] ++ ip) σg H' s'' := fun {acc acc' cc cc' oC oM ip σg σ' H0 H' s' s''} J hM IB hD2 nD => by
    obtain ⟨m, ⟨oC', es, ep, ho, hd, hk, _⟩, _⟩ := IB.loc
    have ho : s''.heap.get? ce.locals = some oC' := ho
    have nC : H' ce.locals = none := IB.free
    rw [hceL] at ho nC
    have pL := IB.pin (Xg.env.locals, oM) (List.mem_append_right _ (by simp))
    have pa := IB.pin (a, go) (List.mem_append_right _ (by simp))
    refine ⟨oC', es, ep, hd, hk, inv_switch IB J G.xs.symm G.xh.symm G.xf.symm G.xe.symm xp.symm xw.symm G.xc hM pL.1 pL.2.1 fun p hp => ?_⟩
    rw [G.xn] at hp
    have hp : p ∈ (a, go) :: (D, lstObj acc' cc') :: (D + 1, oC') :: ip := hp
    rcases List.mem_cons.mp hp with z | hp
    · rw [z]
      exact ⟨pa.1, pa.2.1, Nat.ne_of_gt G.la, by rw [G.xf]; exact G.af, G.dg⟩
    rcases List.mem_cons.mp hp with z | hp
    · rw [z]
      exact ⟨hD2, nD, Ne.symm fLD, by rw [G.xf]; exact Df, fun v q => by cases q⟩
    rcases List.mem_cons.mp hp with z | hp
    · rw [z]
      exact ⟨ho, nC, Ne.symm fLC, by rw [G.xf]; exact Cf, fun v q => by rw [hd] at q; cases q⟩
    · have q := IB.pin p (List.mem_append_right _ (by simp [hp]))
      have q0 := J.pin p (List.mem_append_right _ (List.mem_append_right _ hp))
      exact ⟨q.1, q.2.1, q0.2.2.1, q0.2.2.2.1, q.2.2.2.2⟩
  have goes : ∀ {gs : GenState} {B : Around} {n : Nat} {r : Resume} {s : Shared}, gs.Goes (model X.prog X.w) B (RJ Xg (ownC D (D + 1)) fin) (YJ Xg (ownC D (D + 1)) out) n r s →
      gs.Goes (model X.prog X.w) B (fun n s₀ r s1 => ((r = .ok (.ret .none) ∨ r = .ok .next) ∧ EndJ Xg (ownC D (D + 1)) fin n s1) ∨ ∃ e, r = .error e ∧ (fun (_ : Value) (_ : Shared) => False) e s1) (YJ Xg (ownC D (D + 1)) out) n r s := fun h => h
  have gjgen : ∀ {ip : Pins} {ys : List V} {σg : L2.St} {H' : Hp} {s' : Shared} {g : Nat} {x : GenState}, GJ Xg (ownC D (D + 1)) ip ys σg H' s' → x.bare = true → GJ Xg (ownC D (D + 1)) ip ys σg H' (s'.setGen g x) := fun h hx => let ⟨po, e, o, J⟩ := h; ⟨po, e, o, inv_gen J hx⟩
  have pga : ∀ {ip : Pins} {ys : List V} {σg : L2.St} {H' : Hp} {s' : Shared}, GJ Xg (ownC D (D + 1)) ip ys σg H' s' → s'.heap.IsGen a g ∧ s'.heap.NoLimit := fun {ip ys σg H' s'} h => by
    obtain ⟨po, e, o, J⟩ := h
    exact ⟨G.gen _ (J.pin (a, go) (List.mem_append_left _ (by rw [G.xn]; simp))).1, J.nolimit⟩
  have loop : codeAny (model X.prog X.w) X.A (.compLoop (.ListComp elt [⟨.Tuple [.Name x px, .Name y py] kt tp, iter, [], 0⟩] scope pos) 0 (.ref a) (.ref D) ce) (compPost (model X.prog X.w) X.A X.xe use Qf (.ref D) (D + 1)) { s1 with heap := h4 } := by
    refine compLoop_any (fun n s' => ∃ gs ip ys σg H', s'.gens[g]? = some gs ∧ GJ Xg (ownC D (D + 1)) ip ys σg H' s' ∧ (∀ p ∈ ip, p.1 ∉ [D, D + 1]) ∧ n + ys.length = sizeLine ∧ ∀ s2, GJ Xg (ownC D (D + 1)) ip ys σg H' s2 → gs.Goes (model X.prog X.w) X.A.in1 (RJ Xg (ownC D (D + 1)) fin) (YJ Xg (ownC D (D + 1)) out) n (.send .none) s2) ?_ sizeLine
      ⟨.fresh c, [], [], σ0, H1, G.gs, ?_, fun p hp => (by simp at hp), Nat.add_zero _, fun s2 h2 => ⟨rfl, G.wake _ s2 H1 h2 (fun _ _ h => h)⟩⟩
    · rintro n s5 ⟨gs, ip, ys, σg, H5, hgs, hJ, hip, hn, hgo⟩
      have hgl : g < s5.gens.size := (Array.getElem?_eq_some_iff.mp hgs).1
      obtain ⟨hga, hnl⟩ := pga hJ
      refine wpAny_gsz (n := g + 1) hgl (next_genG (A := X.A) (I1.ok.hd hc) hnl hr.depth hga hgs (goes (hgo _ (gjgen hJ rfl))) (fun v s6 gs' hbare hv => ?_) (fun s6 hp h' hkp => ?_) fun e s₁ he => he.elim)
      · intro hsz
        obtain ⟨ys', xv, ip', σ', H6, hn', rv, hJ6, hip', ho, hkk⟩ := hv
        have hn' : n - 1 + 1 + ys'.length = sizeLine := hn'
        obtain ⟨t, va, vb, rfl, ht, hte⟩ := hstep _ _ _ ho
        cases (show v = Value.ref t from rv)
        obtain ⟨po, epo, ⟨acc, cc, oC, es, ep, rfl, rvs, hd, hks⟩, J6⟩ := gjgen (g := g) (x := gs') hJ6 hbare
        obtain ⟨mL, ⟨oM, esM, epM, hM, hMd, _⟩, _⟩ := id J6.loc
        have IB := enter J6 hd hks hip' hM (fun v q => by rw [hMd] at q; cases q)
        refine letgo_gen (pga ⟨_, epo, ⟨acc, cc, oC, es, ep, rfl, rvs, hd, hks⟩, J6⟩).1 ?_
        refine asg_pair (X := X.blk sc H1 scope ce []) hc hN ix (by show ce.scope.names.lookup x = _; rw [hceS]; exact kx) jy (by show ce.scope.names.lookup y = _; rw [hceS]; exact ky) IB ht (fun s7 I7 g7 => ?_) (ha1 _) (ha2 _) (ha3 _)
        refine wpAny_tests_nil ?_
        rw [if_pos rfl]
        refine thnF (pe.run _ s7 _ H6 _ I7 hte) fun z s8 ⟨⟨vz, H8, I8, r8, hE8, hK8⟩, g8⟩ => ?_
        have pD8 := I8.pin (D, lstObj acc cc) (List.mem_append_right _ (by simp))
        have hz : acc.size ≤ sizeLine := by
          have e1 : ys'.length = acc.size := rvs.length
          omega
        refine append_at pD8.1 (fun h9 hs9 hD9 => ?_) hz
        have I8' : Inv (X.blk sc H1 scope ce []) ((Xg.env.locals, oM) :: (a, go) :: ip') _ H8 s8 := I8.pins_of fun p hp => I8.pin p (by
          have hp : p ∈ (Xg.env.locals, oM) :: (a, go) :: ip' := hp
          show p ∈ (Xg.env.locals, oM) :: (a, go) :: (D, lstObj acc cc) :: ip'
          simp only [List.mem_cons] at hp ⊢
          rcases hp with h | h | h
          · exact .inl h
          · exact .inr (.inl h)
          · exact .inr (.inr (.inr h)))
        have I9 : Inv (X.blk sc H1 scope ce []) ((Xg.env.locals, oM) :: (a, go) :: ip') _ H8 { s8 with heap := h9 } := I8'.turned (t' := s8.toks) (it := D) (fun b o hb e => (hs9.2 b hb).trans e) pD8.2.1 (by show D ≠ ce.locals; rw [hceL]; omega) (.inr (by show sc.heap.objs.size ≤ D; omega)) (fun y c e => (noc y c e).elim) fun p hp => by
          have hp : p ∈ (Xg.env.locals, oM) :: (a, go) :: ip' := hp
          rcases List.mem_cons.mp hp with z | hp
          · rw [z]; exact fLD
          rcases List.mem_cons.mp hp with z | hp
          · rw [z]; exact faD
          · exact fun z => hip' p hp (by rw [z]; show D ∈ [D, D + 1]; simp)
        obtain ⟨oC', es', ep', hd', hks', J9⟩ := leave J6 hM I9 hD9 pD8.2.1
        have hG9 : GJ Xg (ownC D (D + 1)) ip' (ys' ++ [vz]) σ' H8 { s8 with heap := h9 } := ⟨_, rfl, ⟨acc.push z, cc + 1, oC', es', ep', rfl, by rw [Array.toList_push]; exact rvs.append (.cons r8 .nil), hd', hks'⟩, J9⟩
        have hgn : ({ s8 with heap := h9 } : Shared).gens = (s6.setGen g gs').gens := g8.trans g7
        have hsz6 : g < s6.gens.size := by
          have q : (s6.setGen g gs').gens.size = s6.gens.size := setGen_size _ _ _
          have hsz' : g + 1 ≤ (s6.setGen g gs').gens.size := hsz
          omega
        have hgg : ({ s8 with heap := h9 } : Shared).gens[g]? = some gs' := by rw [hgn]; exact setGen_at hsz6
        cases n with
        | zero => exact (hkk vz _ H8 hG9 hE8 hK8).elim
        | succ n => exact ⟨n, Nat.lt_succ_self n, gs', ip', ys' ++ [vz], σ', H8, hgg, hG9, hip', by rw [List.length_append, List.length_singleton]; omega, fun s2 h2 => hkk vz s2 H8 h2 hE8 hK8⟩
      · intro _
        obtain ⟨ys', ip', σ', H6, hn', hJ6, hip', hf⟩ := hp
        obtain ⟨po, epo, ⟨acc, cc, oC, es, ep, rfl, rvs, hd, hks⟩, J6⟩ := gjgen (g := g) (x := .finished) hJ6 rfl
        have J7 : Inv Xg ([(D, lstObj acc cc), (D + 1, oC)] ++ ip') σ' H6 { s6.setGen g .finished with heap := h' } := J6.un (h' := h') (t' := (s6.setGen g .finished).toks) (Un.kept hkp) (J6.hok.kept hkp)
        have pD := J7.pin (D, lstObj acc cc) (List.mem_append_right _ (by simp))
        have pC := J7.pin (D + 1, oC) (List.mem_append_right _ (by simp))
        have hle : ys'.length ≤ sizeLine := by omega
        have I9 : Inv X pins σ (upd H6 D (.lst ys')) { s6.setGen g .finished with heap := h' } := I1.drained (by omega) hle pD.1 rvs .nil (by rw [J7.os, G.xs]) J7.bare (by have q := J7.base; rw [G.xf, G.xe, G.xs, G.xh] at q; exact q) (by have q := J7.hok; rw [xp, xw] at q; exact q) pD.2.1
        refine hRR D (D + 1) _ (fun z => nsFind es z) _ I9 (hfin ys' H6 hf hle D pD.2.1) ⟨oC, es, ep, pC.1, hd, hks, fun _ => rfl⟩ (I1.fpOk (by omega) ?_)
        rw [upd_ne (Nat.ne_of_gt (Nat.lt_succ_self D))]
        exact pC.2.1
    · refine ⟨[(D, lstObj #[] 0), (D + 1, { cls := .type "dict", data := .dict #[] })], rfl, ⟨#[], 0, _, #[], _, rfl, .nil, rfl, fun e he => (by simp at he)⟩, ?_⟩
      have J4 : Inv Xg [] σ0 H1 { s1 with heap := h4 } := G.inv.un (h' := h4) (t' := s1.toks) (Un.kept kp14) (G.inv.hok.kept kp14)
      refine ⟨J4.ok, J4.os, J4.bare, J4.base, J4.loc, J4.cell, J4.free, J4.freeC, fun p hp => ?_, J4.hok, J4.len⟩
      rcases List.mem_append.mp hp with z | z
      · exact J4.pin p (List.mem_append_left _ z)
      · have z : p ∈ [(D, lstObj #[] 0), (D + 1, ({ cls := .type "dict", data := .dict #[] } : Obj))] := z
        rcases List.mem_cons.mp z with z | z
        · rw [z]
          exact ⟨kp4 _ _ hpush, G.inv.hok.fresh (Nat.le_of_eq hD), Ne.symm fLD, by rw [G.xf]; exact Df, fun v q => by cases q⟩
        · rw [List.mem_singleton.mp z]
          exact ⟨hC0, G.inv.hok.fresh (by omega), Ne.symm fLC, by rw [G.xf]; exact Cf, fun v q => by cases q⟩
  exact codeAny_compStart_list loop (wpAny_pyIter_gen (G.gen _ (kp14 _ _ G.ga)) loop)
end
end CM
-- part R15
set_option Elab.async false
set_option linter.all false
set_option maxRecDepth 100000
set_option maxHeartbeats 4000000
/-! ### .. as an expression, and into a local name -/
namespace CM
open PySem PySem.Spec PyProof.Rows L2 StX GenW
section
variable {X : Cx} {k : Nat} {elt iter : Expr} {x y : Str} {px py tp : Pos} {kt : _} {scope : Scope} {own : List (Str × Nat)} {pos : Pos} {tg : TGenJ} {i j : Nat} {te : TE}
theorem pe_glc (hc : X.calm = true) (hgd : X.A.guards = some []) (hr : Room (k + 1) X.A) (hN : X.N.Nodup) (hi : PGenJ X k iter tg) (ok : BlkOk X.N X.env.scope scope own)
    (hcl : ∀ n, cellsFrom n scope.names (cloFrom X.env.cells scope.names []) = []) (ix : X.N[i]? = some x) (jy : X.N[j]? = some y) (kx : (relS scope X.env.scope).names.lookup x = some .local) (ky : (relS scope X.env.scope).names.lookup y = some .local) (vi : i ∈ own.map (·.2)) (vj : j ∈ own.map (·.2))
    (he : ∀ (s : Shared) (H : Hp) (C : Addr) (cl : List (Str × Addr)), PEg (X.blk s H scope (compEnvC scope cl C X.env) []) elt te) (hs : ∀ x, foldedSetIterable iter X.env x = pure x := by intro _; rfl)
    (ha1 : ∀ env : Env, (assignEach [.Name x px, .Name y py] env).map (·.2) = [assign (.Name x px) env, assign (.Name y py) env] := by intro _; rfl) (ha2 : ∀ env : Env, (assignEach [.Name x px, .Name y py] env).length = 2 := by intro _; rfl) (ha3 : ∀ env : Env, (assignEach [.Name x px, .Name y py] env).findIdx? (·.1) = none := by intro _; rfl) :
    PE X (.ListComp elt [⟨.Tuple [.Name x px, .Name y py] kt tp, iter, [], 0⟩] scope pos) (tGlc tg i j te (own.map (·.2))) := by
  refine ⟨fun pins s σ H Q I h => ?_⟩
  rw [eval_ListComp]
  refine glc_core hc hgd hr hN I hi ok hcl ix jy kx ky vi vj he hs h (fun D C s' m H' I' q hn f => ⟨m, hn, fun h'' sb => ?_⟩) ha1 ha2 ha3
  obtain ⟨f0, f1, f2, f3, f4, f5⟩ := f
  exact ⟨.ref D, H', I'.turned (t' := s'.toks) (fun b o hb e => (sb.2 b hb).trans e) f0 f1 f3 f4 f5, rfl, q⟩
theorem ps_setGlc {n : Nat} {z : Str} {pz spos : Pos} (hc : X.calm = true) (hgd : X.A.guards = some []) (hr : Room (k + 1) X.A) (hN : X.N.Nodup) (hz : X.N[n]? = some z) (hzl : X.env.scope.names.lookup z = some .local)
    (hsw : swapsWith (.ListComp elt [⟨.Tuple [.Name x px, .Name y py] kt tp, iter, [], 0⟩] scope pos) (some (.Name z pz)) spos.line X.env = pure true) (hi : PGenJ X k iter tg) (ok : BlkOk X.N X.env.scope scope own)
    (hcl : ∀ n, cellsFrom n scope.names (cloFrom X.env.cells scope.names []) = []) (ix : X.N[i]? = some x) (jy : X.N[j]? = some y) (kx : (relS scope X.env.scope).names.lookup x = some .local) (ky : (relS scope X.env.scope).names.lookup y = some .local) (vi : i ∈ own.map (·.2)) (vj : j ∈ own.map (·.2))
    (he : ∀ (s : Shared) (H : Hp) (C : Addr) (cl : List (Str × Addr)), PEg (X.blk s H scope (compEnvC scope cl C X.env) []) elt te) (hs : ∀ x, foldedSetIterable iter X.env x = pure x := by intro _; rfl)
    (ha1 : ∀ env : Env, (assignEach [.Name x px, .Name y py] env).map (·.2) = [assign (.Name x px) env, assign (.Name y py) env] := by intro _; rfl) (ha2 : ∀ env : Env, (assignEach [.Name x px, .Name y py] env).length = 2 := by intro _; rfl) (ha3 : ∀ env : Env, (assignEach [.Name x px, .Name y py] env).findIdx? (·.1) = none := by intro _; rfl) :
    PS X (.Assign [.Name z pz] (.ListComp elt [⟨.Tuple [.Name x px, .Name y py] kt tp, iter, [], 0⟩] scope pos) spos) (tAsg (tGlc tg i j te (own.map (·.2))) (gName n)) := by
  refine ⟨fun pins s σ H D I h => ?_⟩
  rw [exec_Assign_Name_used _ _ _ _ hsw]
  refine wpAny_bind (wpAny_standAt (wpAny_bind ?_))
  show wpAny _ X.A (do let _ ← comprehension (.ListComp elt [⟨.Tuple [.Name x px, .Name y py] kt tp, iter, [], 0⟩] scope pos) scope X.env (firstIterPos [⟨.Tuple [.Name x px, .Name y py] kt tp, iter, [], 0⟩] pos) (newList []) false (eval iter X.env) (some (assign (.Name z pz) X.env))) _ _ s
  have h : tGlc tg i j te (own.map (·.2)) σ H (fun x H1 => gName n x σ H1 D.nx) := h
  refine wpAny_bind (thn (glc_core (Qf := fun _ s' => SP X pins D .next s') hc hgd hr hN I hi ok hcl ix jy kx ky vi vj he hs h (fun L C s' m H' I' q hn f => ?_) ha1 ha2 ha3) fun _ s' hq => wpAny_pure (wpAny_pure hq))
  show wpAny _ _ (assign (.Name z pz) X.env (.ref L)) _ _ _
  refine wpAny_assign_Name (store_ok2 (v := V.ref L) I' hN hz (.inl hzl) rfl (fun s2 I2 ⟨a, sb, ha⟩ => ?_) (.inr hzl))
  obtain ⟨f0, f1, f2, f3, f4, f5⟩ := f
  have haC : C ≠ a := ha.elim (fun q => by rw [q]; exact f1) fun q e => f4 z a q e.symm
  exact ⟨m, hn.sameBut sb haC, fun h3 sb3 => ⟨_, H', I2.turned (t' := s2.toks) (fun b o hb e => (sb3.2 b hb).trans e) f0 f1 f3 f4 f5, q⟩⟩
end
end CM
-- part D20
set_option Elab.async false
set_option linter.all false
set_option maxRecDepth 100000
set_option maxHeartbeats 4000000
/-! ### walked -/
namespace CM
open PySem PySem.Spec PyProof.Rows L2 StX GenW
/-- a pair of a map and a word -/
def ItemAt (K : PySem.W.Frag) (H : Hp) (t : Addr) (n : Nat) (f : PF) (w : List Nat) : Prop := ∃ m wa, H t = some (.tup [.ref m, .ref wa]) ∧ MapAt (cM K) H m n f ∧ H wa = some (.tup (natsV w))
def Its (K : PySem.W.Frag) (H : Hp) (n : Nat) (ts : List Addr) (L : List (PF × List Nat)) : Prop := ts.length = L.length ∧ ∀ (j : Nat) (t : Addr) (f : PF) (w : List Nat), ts[j]? = some t → L[j]? = some (f, w) → ItemAt K H t n f w
section
variable {K : PySem.W.Frag} {H H' : Hp} {n : Nat} {ts : List Addr} {L : List (PF × List Nat)} {t : Addr} {f : PF} {w : List Nat}
theorem ItemAt.ext (h : ItemAt K H t n f w) (e : Ext H H') : ItemAt K H' t n f w := let ⟨m, wa, h1, h2, h3⟩ := h; ⟨m, wa, e _ _ h1, h2.ext e, e _ _ h3⟩
theorem Its.imp (h : Its K H n ts L) (k : ∀ t f w, ItemAt K H t n f w → ItemAt K H' t n f w) : Its K H' n ts L := ⟨h.1, fun j t f w a b => k t f w (h.2 j t f w a b)⟩
theorem Its.ext (h : Its K H n ts L) (e : Ext H H') : Its K H' n ts L := h.imp fun _ _ _ z => z.ext e
theorem Its.nil : Its K H n [] [] := ⟨rfl, fun j t f w a => by simp at a⟩
theorem Its.snoc (h : Its K H n ts L) (i : ItemAt K H t n f w) : Its K H n (ts ++ [t]) (L ++ [(f, w)]) := by
  refine ⟨by rw [List.length_append, List.length_append, h.1]; rfl, fun j t' f' w' a b => ?_⟩
  rcases get_snoc_pair b with c | ⟨c, rfl, rfl⟩
  · have hj : j < ts.length := by rw [h.1]; exact (List.getElem?_eq_some_iff.mp c).1
    rw [List.getElem?_append_left hj] at a
    exact h.2 j t' f' w' a c
  · rw [c, ← h.1, List.getElem?_append_right (Nat.le_refl _), Nat.sub_self] at a
    cases a
    exact i
theorem Its.cons_inv {p : PF × List Nat} {M : List (PF × List Nat)} (h : Its K H n ts (p :: M)) : ∃ t r, ts = t :: r ∧ ItemAt K H t n p.1 p.2 ∧ Its K H n r M := by
  cases ts with
  | nil => exact absurd h.1 (by simp)
  | cons t r => exact ⟨t, r, rfl, h.2 0 t p.1 p.2 rfl rfl, Nat.succ.inj h.1, fun j t' f' w' a b => h.2 (j + 1) t' f' w' a b⟩
theorem map_keep {d q m : Addr} {z : Str} {v : V} {kvs : List (Key × V)} {xs : List V} (hd : H d = some (.dK ((Sum.inr z, v) :: kvs))) (hq : H q = some (.lst xs)) (k : ∀ b o, b ≠ d → b ≠ q → H b = some o → H' b = some o) (h : MapAt (cM K) H m n f) : MapAt (cM K) H' m n f := by
  obtain ⟨⟨dx, dm, h1, h2⟩, h3, h4, h5⟩ := h
  refine ⟨⟨dx, dm, k _ _ (ne_of h1 hd (fun z => nomatch z)) (ne_of h1 hq (fun z => nomatch z)) h1, k _ _ (fun e => ?_) (ne_of h2 hq (fun z => nomatch z)) h2⟩, h3, h4, h5⟩
  rw [e, hd] at h2
  cases hr : rowsOf n f with
  | nil =>
    rw [hr] at h2
    cases h2
  | cons a r =>
    rw [hr] at h2
    cases h2
theorem item_keep {d q : Addr} {z : Str} {v : V} {kvs : List (Key × V)} {xs : List V} (hd : H d = some (.dK ((Sum.inr z, v) :: kvs))) (hq : H q = some (.lst xs)) (k : ∀ b o, b ≠ d → b ≠ q → H b = some o → H' b = some o) (h : ItemAt K H t n f w) : ItemAt K H' t n f w := by
  obtain ⟨m, wa, h1, h2, h3⟩ := h
  exact ⟨m, wa, k _ _ (ne_of h1 hd (fun z => nomatch z)) (ne_of h1 hq (fun z => nomatch z)) h1, map_keep hd hq k h2, k _ _ (ne_of h3 hd (fun z => nomatch z)) (ne_of h3 hq (fun z => nomatch z)) h3⟩
end
/-- the dict of the known maps -/
abbrev known (n : Nat) (L : List (PF × List Nat)) : List (Key × V) := L.map fun p => (encM n p.1, V.bl true)
theorem known_some {n : Nat} (hn : n ≤ 9) : ∀ {L : List (PF × List Nat)} {g : PF}, (∀ f, f ∈ L.map Prod.fst → WF n f) → WF n g → g ∈ L.map Prod.fst → valV (known n L) (encM n g) = some (V.bl true)
  | [], g, _, _, h => by simp at h
  | p :: L, g, hw, hg, h => by
    by_cases e : encM n p.1 = encM n g
    · show valV ((encM n p.1, V.bl true) :: known n L) (encM n g) = _
      rw [e]
      simp [valV]
    · have hm : g ∈ L.map Prod.fst := by
        rcases List.mem_cons.mp h with z | z
        · exact absurd (by rw [z]) e
        · exact z
      have ih := known_some hn (fun f hf => hw f (List.mem_cons_of_mem _ hf)) hg hm
      show valV ((encM n p.1, V.bl true) :: known n L) (encM n g) = _
      simp only [valV] at ih ⊢
      rw [List.find?_cons_of_neg (by simpa using e)]
      exact ih
theorem known_none {n : Nat} (hn : n ≤ 9) : ∀ {L : List (PF × List Nat)} {g : PF}, (∀ f, f ∈ L.map Prod.fst → WF n f) → WF n g → ¬ g ∈ L.map Prod.fst → valV (known n L) (encM n g) = none
  | [], g, _, _, h => rfl
  | p :: L, g, hw, hg, h => by
    have e : ¬ encM n p.1 = encM n g := fun z => h (by rw [← encM_inj (hw _ List.mem_cons_self) hg hn z]; exact List.mem_cons_self)
    have ih := known_none hn (fun f hf => hw f (List.mem_cons_of_mem _ hf)) hg fun z => h (List.mem_cons_of_mem _ z)
    show valV ((encM n p.1, V.bl true) :: known n L) (encM n g) = _
    simp only [valV] at ih ⊢
    rw [List.find?_cons_of_neg (by simpa using e)]
    exact ih
theorem pow_few : ∀ {n : Nat}, n ≤ 4 → (n + 1) ^ n ≤ 625
  | 0, _ => by decide
  | 1, _ => by decide
  | 2, _ => by decide
  | 3, _ => by decide
  | 4, _ => by decide
  | n + 5, h => by omega
/-- the walk so far -/
structure WkSt (K : PySem.W.Frag) (H H' : Hp) (d n : Nat) (fs : List PF) (L : List (PF × List Nat)) (i a : Nat) (ys : List V) : Prop where
  ex : Ext H H'
  bi : BI fs.length (stepM fs) (idF n) L i a
  bl : ∀ (j : Nat) (f : PF) w, L[j]? = some (f, w) → w.length ≤ j
  hd : H' d = some (.dK (known n L))
  its : ∃ ts, ys = refs ts ∧ Its K H' n ts (L.drop 1)
section
variable {K : PySem.W.Frag} {H H1 H2 : Hp} {d n : Nat} {fs : List PF} {L : List (PF × List Nat)} {i a : Nat} {ys : List V}
theorem WkSt.wf (h : WkSt K H H1 d n fs L i a ys) (hw : WFs n fs) : ∀ f, f ∈ L.map Prod.fst → WF n f := fun f hf => by
  obtain ⟨w, hm⟩ := mem_fst.mp hf
  rw [(bi_word hw h.bi hm).2]
  exact wf_prd hw w
theorem WkSt.few (h : WkSt K H H1 d n fs L i a ys) (hw : WFs n fs) (hn : n ≤ 4) : L.length ≤ 625 := by
  have := maps_few h.bi.nd (h.wf hw)
  rw [List.length_map] at this
  exact Nat.le_trans this (pow_few hn)
theorem WkSt.hdL (h : WkSt K H H1 d n fs L i a ys) : ∃ M, L = (idF n, []) :: M := by
  have z := h.bi.zero
  cases L with
  | nil => cases z
  | cons p M =>
    cases z
    exact ⟨M, rfl⟩
theorem WkSt.ext (h : WkSt K H H1 d n fs L i a ys) (e : Ext H1 H2) : WkSt K H H2 d n fs L i a ys := ⟨Ext.trans h.ex e, h.bi, h.bl, e _ _ h.hd, let ⟨ts, e1, e2⟩ := h.its; ⟨ts, e1, e2.ext e⟩⟩
theorem WkSt.item {q t : Addr} {xs : List V} {f : PF} {w : List Nat} (h : WkSt K H H1 d n fs L i a ys) (hq : H1 q = some (.lst xs)) (k : ∀ b o, b ≠ d → b ≠ q → H1 b = some o → H2 b = some o) (hi : ItemAt K H1 t n f w) : ItemAt K H2 t n f w := by
  obtain ⟨M, rfl⟩ := h.hdL
  exact item_keep h.hd hq k hi
theorem WkSt.map {q m : Addr} {xs : List V} {f : PF} (h : WkSt K H H1 d n fs L i a ys) (hq : H1 q = some (.lst xs)) (k : ∀ b o, b ≠ d → b ≠ q → H1 b = some o → H2 b = some o) (hi : MapAt (cM K) H1 m n f) : MapAt (cM K) H2 m n f := by
  obtain ⟨M, rfl⟩ := h.hdL
  exact map_keep h.hd hq k hi
/-- only the waiting list is changed -/
theorem WkSt.lst {q : Addr} {xs ys' : List V} (h : WkSt K H H1 d n fs L i a ys) (hq : H1 q = some (.lst xs)) (h0 : H q = none) : WkSt K H (upd H1 q (.lst ys')) d n fs L i a ys :=
  ⟨Ext.mut h.ex h0, h.bi, h.bl, by rw [upd_ne (ne_of h.hd hq (fun z => nomatch z))]; exact h.hd, let ⟨ts, e1, e2⟩ := h.its; ⟨ts, e1, e2.imp fun t f w z => h.item hq (fun b o _ hb e => by rw [upd_ne hb]; exact e) z⟩⟩
end
end CM
-- part D21
set_option Elab.async false
set_option linter.all false
set_option maxRecDepth 100000
set_option maxHeartbeats 4000000
/-! ### walked: the generator -/
namespace CM
open PySem PySem.Spec PyProof.Rows L2 StX GenW
def outW : OutJ := ⟨fun _ _ _ => True, fun _ x z _ => z = x⟩
section
variable {P : Program} {w : World} {K : PySem.W.Frag} {mg : Str → Option Value} {base : Heap}
def spWalk (K : PySem.W.Frag) : SpJ := fun vs H out fin => ∃ fa p n fs, vs = [.ref fa, .ref p] ∧ FamAt K H fa n fs ∧ n ≤ 4 ∧ MapAt (cM K) H p n (idF n) ∧ out = outW ∧
  ∀ ys ts L H', Ext H H' → ys = refs ts → Its K H' n ts (L.drop 1) → GenOut n fs L → (∀ (j : Nat) (f : PF) w, L[j]? = some (f, w) → w.length ≤ j) → L.length ≤ 625 → fin ys H'
theorem sc_walked : GScope ["family", "first", "known", "waiting", "one", "word", "index", "factor", "later", "key"] ["family", "first"] (defScope (top 47)) := ⟨rfl, rfl, rfl, by decide +kernel, rfl, by decide +kernel, by decide +kernel⟩
theorem ok_walked (T : Txt K mg) : GFnJ P w K mg base 8 (He.ga K "walked") (spWalk K) := by
  refine gfnj_by T.d_walked sc_walked (fun _ => rfl) (fun _ _ _ _ _ _ us hl => match us, hl with | [_, _], _ => rfl) (fun vs H Q E h => ?_) (fun cdv A outer s H vs out fin pn hg hr h H2 e02 => ?_)
  · obtain ⟨fa, p, n, fs, rfl, _⟩ := h
    rfl
  · obtain ⟨fa, p, n, fs, rfl, Fm, hn4, Mp, rfl, kf⟩ := h
    have hu := hu_of hr
    obtain ⟨tk, hM⟩ := T.i_MOST_GENERATED
    refine ⟨_, (ssj_cons (sj_ps (ps_set (i := 2) sc_walked.nd rfl (Or.inl rfl) (pe_disp (pps_cons (pe_fnG (ok_key T) hg (hr.mono (by decide)) (by rfl) T.g_key_of T.d_key_of.kp (pa_cons (pv 1) pa_nil)) pe_bl pps_nil) rfl rfl (fun z => (nomatch z)) (by decide))))
      (ssj_cons (sj_ps (ps_set (i := 3) sc_walked.nd rfl (Or.inl rfl) (pe_lst (pa_cons (pe_tup (pa_cons (pv 1) (pa_cons (pe_tup pa_nil) pa_nil))) pa_nil))))
      (ssj_one (sj_while (pt_cmpR (op_neNil (Nat.lt_of_succ_lt hu)) (pv 3) (pe_lst pa_nil) (nomark _)) (ssj_cons (sj_ps (ps_asg (pe_bm PySem.F.plainAttrs_list PySem.F.slot_list_pop PySem.F.type_list_pop mt_popAt (pv 3) (pa_cons pe_int pa_nil)) (pg_tup rfl (pgs_cons (pg_name (i := 4) sc_walked.nd rfl (Or.inl rfl)) (pgs_cons (pg_name (i := 5) sc_walked.nd rfl (Or.inl rfl)) pgs_nil)))))
      (ssj_one (sj_for rfl (pi_enumA (by rfl) T.u_enumerate (pa_cons (pe_pr (pv 0) T.c_Family T.m_pMaps (ok_fmaps T) (hr.mono (by decide))) pa_nil) rfl) (pg_tup rfl (pgs_cons (pg_name (i := 6) sc_walked.nd rfl (Or.inl rfl)) (pgs_cons (pg_name (i := 7) sc_walked.nd rfl (Or.inl rfl)) pgs_nil))) (ssj_cons (sj_ps (ps_set (i := 8) sc_walked.nd rfl (Or.inl rfl) (pe_op (op_own T.s_Map T.m_mMul.1 T.m_mMul.2 (ok_mul T) (hr.mono (by decide))) (pv 4) (pv 7))))
      (ssj_cons (sj_ps (ps_set (i := 9) sc_walked.nd rfl (Or.inl rfl) (pe_fnG (ok_key T) hg (hr.mono (by decide)) (by rfl) T.g_key_of T.d_key_of.kp (pa_cons (pv 8) pa_nil))))
      (ssj_one (sj_if (pt_cmp (pc_dnotin hu (pv 9) (pv 2))) (ssj_cons (sj_ps (ps_if (pt_cmpR op_eq (pe_callB call_lenD (by rfl) T.u_len (by decide +kernel) (pa_cons (pv 2) pa_nil)) (pe_glob (v := .int 1000) (by rfl) hM ⟨_, rfl⟩) (nomark _)) (pss_never (X := _)) pss_nil))
      (ssj_cons (sj_ps (ps_dput hu (pv 2) (pv 9) pe_bl rfl))
      (ssj_cons (sj_ps (ps_expr (pe_bm PySem.F.plainAttrs_list PySem.F.slot_list_append PySem.F.type_list_append mt_append (pv 3) (pa_cons (pe_tup (pa_cons (pv 8) (pa_cons (pe_tup (pa_star (pv 5) (pa_cons (pv 6) pa_nil))) pa_nil))) pa_nil))))
      (ssj_one (sj_yield (pe_tup (pa_cons (pv 8) (pa_cons (pe_tup (pa_star (pv 5) (pa_cons (pv 6) pa_nil))) pa_nil)))))))) ssj_nil))))))))))), ?_⟩
    have hn9 : n ≤ 9 := by omega
    have sz := Fm.sz
    have wfs := Fm.wfs
    have Fm2 := Fm.ext e02
    have Mp2 := Mp.ext e02
    have szl : ∀ {k : Nat}, k ≤ 700 → k < sizeLine := fun h => Nat.lt_of_le_of_lt h (by decide)
    intro d hd
    have ed := Ext.upd (o := .dK []) hd
    refine ⟨_, rfl, p, n, idF n, rfl, Mp2.ext ed, hn9, ?_⟩
    refine ⟨upd_same, [(encM n (idF n), V.bl true)], rfl, (by show 1 ≤ 15; decide), ?_⟩
    have e2 : Ext H2 (upd (upd H2 d (.dK [])) d (.dK (mergeK [] [(encM n (idF n), V.bl true)]))) := Ext.mut ed hd
    have hd3 : (upd (upd H2 d (.dK [])) d (.dK (mergeK [] [(encM n (idF n), V.bl true)]))) d = some (.dK (known n [(idF n, [])])) := upd_same
    generalize (upd (upd H2 d (.dK [])) d (.dK (mergeK [] [(encM n (idF n), V.bl true)]))) = H3 at e2 hd3
    refine ⟨_, rfl, (by show 0 ≤ sizeLine; decide), fun u0 hu0 => ⟨(by show 2 ≤ sizeLine; decide), fun t0 ht0 => ⟨(by show 1 ≤ sizeLine; decide), fun q hq => ?_⟩⟩⟩
    have eu := Ext.upd (o := .tup []) hu0
    have et := Ext.upd (o := .tup [.ref p, .ref u0]) ht0
    have eq := Ext.upd (o := .lst [.ref t0]) hq
    have e36 := Ext.trans eu (Ext.trans et eq)
    have it0 := ItemAt.ext (⟨p, u0, upd_same, Mp2.ext (Ext.trans e2 (Ext.trans eu et)), et _ _ upd_same⟩ : ItemAt K _ t0 n (idF n) []) eq
    have hq2 : H2 q = none := Ext.none (Ext.trans e2 (Ext.trans eu et)) hq
    have S0 := WkSt.ext (K := K) (H := H2) (d := d) (n := n) (fs := fs) (L := [(idF n, [])]) (i := 0) (a := 0) (ys := []) ⟨e2, BI.start, fun j f w h => by
      { cases j with
      | zero => cases h; exact Nat.le_refl _
      | succ j => cases h }, hd3, [], rfl, Its.nil⟩ e36
    refine ⟨fun m ys σ H' => ∃ L i ws v4 v5 v6 v7 v8 v9, m = 625 - i ∧ i ≤ L.length ∧ σ = [some (.ref fa), some (.ref p), some (.ref d), some (.ref q), v4, v5, v6, v7, v8, v9] ∧ WkSt K H2 H' d n fs L i 0 ys ∧ H' q = some (.lst (refs ws)) ∧ Its K H' n ws (L.drop i), ⟨_, [(idF n, [])], 0, [t0], _, _, _, _, _, _, rfl, Nat.zero_le _, rfl, S0, upd_same, Its.snoc Its.nil it0⟩, ?_⟩
    rintro m ys σ H3 ⟨L, i, ws, v4, v5, v6, v7, v8, v9, rfl, hil, rfl, S, hQ, hW⟩
    refine ⟨_, rfl, (by show 0 ≤ sizeLine; decide), fun x hx => ?_⟩
    have eX := Ext.upd (o := .lst []) hx
    refine ⟨q, x, _, rfl, rfl, eX _ _ hQ, upd_same, _, rfl, ?_⟩
    have S := S.ext eX
    have hQ := eX _ _ hQ
    have hW := hW.ext eX
    generalize upd H3 x (.lst []) = H4 at S hQ hW
    have few := S.few wfs hn4
    cases hL : L[i]? with
    | none =>
      have hge : L.length ≤ i := List.getElem?_eq_none_iff.mp hL
      have hi : i = L.length := by omega
      subst hi
      rw [List.drop_length] at hW
      have hws : ws = [] := List.length_eq_zero_iff.mp hW.1
      subst hws
      refine iteF ?_
      obtain ⟨ts, e1, e3⟩ := S.its
      exact kf ys ts L _ (Ext.trans e02 S.ex) e1 e3 ⟨0, S.bi⟩ S.bl few
    | some pr =>
      obtain ⟨f0, w0⟩ := pr
      have hlt : i < L.length := (List.getElem?_eq_some_iff.mp hL).1
      have hdr : L.drop i = (f0, w0) :: L.drop (i + 1) := by
        rw [List.drop_eq_getElem_cons hlt]
        have := (List.getElem?_eq_some_iff.mp hL).2
        rw [this]
      rw [hdr] at hW
      obtain ⟨t, wr, rfl, it, hW⟩ := hW.cons_inv
      have few' := few
      refine iteT ⟨fun ys' σ' H' => ∃ L i' ws v4 v5 v6 v7 v8 v9, i' = i + 1 ∧ i' ≤ L.length ∧ σ' = [some (.ref fa), some (.ref p), some (.ref d), some (.ref q), v4, v5, v6, v7, v8, v9] ∧ WkSt K H2 H' d n fs L i' 0 ys' ∧ H' q = some (.lst (refs ws)) ∧ Its K H' n ws (L.drop i'), ?_, ?_⟩
      · rintro ys' σ' H' ⟨L', i', ws', u4, u5, u6, u7, u8, u9, rfl, h1, h2, h3, h4, h5⟩
        exact ⟨625 - (i + 1), by omega, L', i + 1, ws', u4, u5, u6, u7, u8, u9, rfl, h1, h2, h3, h4, h5⟩
      refine ⟨_, rfl, Or.inl ⟨rfl, _, Or.inl (Or.inl hQ)⟩, q, _, 0, 0, .ref t, rfl, rfl, hQ, by decide, by decide, seq0 _, rfl, ?_⟩
      have kq : ∀ c o, c ≠ d → c ≠ q → H4 c = some o → (upd H4 q (.lst ((refs (t :: wr)).eraseIdx 0))) c = some o := fun c o _ hb e => by rw [upd_ne hb]; exact e
      have S5 := S.lst (ys' := (refs (t :: wr)).eraseIdx 0) hQ hq2
      have it5 := S.item hQ kq it
      have hW5 := hW.imp fun t' f' w' z => S.item hQ kq z
      have hQ5 : (upd H4 q (.lst ((refs (t :: wr)).eraseIdx 0))) q = some (.lst (refs wr)) := upd_same
      clear it
      generalize upd H4 q (.lst ((refs (t :: wr)).eraseIdx 0)) = H5 at S5 it5 hW5 hQ5
      obtain ⟨m0, wa, ht, hm0, hwa⟩ := it5
      refine ⟨t, _, rfl, Or.inl (Or.inl ht), rfl, _, _, rfl, _, _, rfl, rfl, ?_⟩
      obtain ⟨fdx, ft, ps, hf1, hf2, hf3⟩ := Fm2.ob
      refine ⟨_, rfl, fa, fdx, _, rfl, S5.ex _ _ hf1, fa, fdx, ft, rfl, S5.ex _ _ hf1, ft, refs ps, rfl, Or.inr ⟨Or.inl (Or.inl (S5.ex _ _ hf2)), ?_⟩⟩
      refine forj_it (walk_enumT (xs := refs ps)) (fun b ys σ H6 => ∃ L ws v6 v7 v8 v9, i + 1 ≤ L.length ∧ L[i]? = some (f0, w0) ∧ σ = [some (.ref fa), some (.ref p), some (.ref d), some (.ref q), some (.ref m0), some (.ref wa), v6, v7, v8, v9] ∧ WkSt K H2 H6 d n fs L i b ys ∧ H6 q = some (.lst (refs ws)) ∧ Its K H6 n ws (L.drop (i + 1)) ∧ MapAt (cM K) H6 m0 n f0 ∧ H6 wa = some (.tup (natsV w0)))
        ⟨L, wr, _, _, _, _, hlt, hL, rfl, S5, hQ5, hW5, hm0, hwa⟩ (fun b ys σ H6 _ ⟨_, _, _, _, _, _, _, _, _, S6, _⟩ => Or.inl (Or.inl (S6.ex _ _ hf2))) ?_ ?_
      · rintro b y ys σ H6 H7 hb ⟨L, ws, v6, v7, v8, v9, hle, hL, rfl, S6, hQ6, hW6, hm6, hw6⟩ ⟨T', y1, y2, rfl, hT, rfl, hx, hy⟩
        simp only at hx hy
        obtain ⟨pb, rfl, hpb⟩ := refs_get hy
        cases hx
        obtain ⟨g, hg, hMg⟩ := hf3.2 b pb hpb
        have bm : b < fs.length := (List.getElem?_eq_some_iff.mp hg).1
        have eT := Ext.upd (o := .tup [.int (b : Nat), .ref pb]) hT
        have hstep : stepM fs b f0 = some (cmp f0 g) := by unfold stepM; rw [ltr_get hg]
        have hMg6 := (hMg.ext S6.ex).ext eT
        have hm6 := hm6.ext eT
        obtain ⟨dm, _, om, _⟩ := id hm6.ob
        obtain ⟨dg, _, og, _⟩ := id hMg6.ob
        refine ⟨T', _, rfl, Or.inl (Or.inl upd_same), rfl, _, _, rfl, _, _, rfl, rfl, ?_⟩
        refine ⟨_, rfl, _, rfl, m0, pb, dm, dg, _, _, rfl, rfl, om, og, m0, pb, n, f0, g, rfl, hm6, hMg6, fun lt H8 hlt8 e8 hM8 => ?_⟩
        have e68 := Ext.trans eT e8
        have S8 := S6.ext e68
        have hQ8 := e68 _ _ hQ6
        have hW8 := hW6.ext e68
        have hm8 := hm6.ext e8
        have hw8 := e68 _ _ hw6
        have few8 := S8.few wfs hn4
        have wf8 := S8.wf wfs
        have wfg : WF n (cmp f0 g) := hM8.wf
        refine ⟨_, rfl, lt, n, cmp f0 g, rfl, hM8, hn9, ?_⟩
        refine ⟨_, rfl, _, rfl, d, _, rfl, DGet.k (k := encM n (cmp f0 g)) S8.hd, _, rfl, ?_⟩
        by_cases hmem : cmp f0 g ∈ L.map Prod.fst
        · rw [known_some hn9 wf8 wfg hmem]
          exact iteF ⟨L, ws, _, _, _, _, hle, hL, rfl, ⟨S8.ex, S8.bi.skip hL (fun y hy => by rw [hstep] at hy; cases hy; exact hmem), S8.bl, S8.hd, S8.its⟩, hQ8, hW8, hm8, hw8⟩
        have hv := known_none hn9 wf8 wfg hmem
        rw [hv]
        refine iteT ?_
        have hkl : (known n L).length = L.length := List.length_map ..
        refine ⟨_, rfl, d, known n L, rfl, S8.hd, ?_⟩
        refine ⟨rfl, _, rfl, ?_⟩
        rw [hkl, show decide (V.int ((L.length : Nat) : Int) = V.int 1000) = false from decide_eq_false (fun z => by
          injection z with z
          omega)]
        refine iteF ?_
        refine ⟨_, rfl, _, rfl, d, _, rfl, DPut.k (k := encM n (cmp f0 g)) S8.hd (by rw [hkl]; exact szl (by omega)), ?_⟩
        rw [putK_new _ hv]
        have ekn : known n L ++ [(encM n (cmp f0 g), V.bl true)] = known n (L ++ [(cmp f0 g, w0 ++ [b])]) := by
          unfold known
          rw [List.map_append]
          rfl
        rw [ekn]
        have ndq : d ≠ q := ne_of S8.hd hQ8 (fun z => nomatch z)
        have k9 : ∀ c o, c ≠ d → H8 c = some o → (upd H8 d (.dK (known n (L ++ [(cmp f0 g, w0 ++ [b])])))) c = some o := fun c o hc e => by rw [upd_ne hc]; exact e
        have ex9 : Ext H2 (upd H8 d (.dK (known n (L ++ [(cmp f0 g, w0 ++ [b])])))) := Ext.mut S8.ex hd
        have hd9 : (upd H8 d (.dK (known n (L ++ [(cmp f0 g, w0 ++ [b])])))) d = some (.dK (known n (L ++ [(cmp f0 g, w0 ++ [b])]))) := upd_same
        generalize upd H8 d (.dK (known n (L ++ [(cmp f0 g, w0 ++ [b])]))) = H9 at k9 ex9 hd9
        have hQ9 := k9 q _ (Ne.symm ndq) hQ8
        have hw9 := k9 wa _ (ne_of hw8 S8.hd (fun z => nomatch z)) hw8
        have bl0 := S8.bl i f0 w0 hL
        have lw : (natsV w0 ++ [V.int (b : Int)]).length ≤ sizeLine := by
          rw [List.length_append, List.length_map]
          exact Nat.le_of_lt (szl (by simp; omega))
        refine ⟨_, rfl, Or.inl ⟨rfl, _, Or.inl (Or.inl hQ9)⟩, _, rfl, _, rfl, wa, natsV w0, rfl, Or.inl (Or.inl (Or.inl hw9)), _, rfl, lw, fun a1 ha1 => ⟨(by show 2 ≤ sizeLine; decide), fun t1 ht1 => ?_⟩⟩
        have ea1 := Ext.upd (o := .tup (natsV w0 ++ [V.int (b : Int)])) ha1
        have et1 := Ext.upd (o := .tup [.ref lt, .ref a1]) ht1
        have k10 : ∀ c o, c ≠ d → H8 c = some o → (upd (upd H9 a1 (.tup (natsV w0 ++ [V.int (b : Int)]))) t1 (.tup [.ref lt, .ref a1])) c = some o := fun c o hc e => et1 _ _ (ea1 _ _ (k9 c o hc e))
        have h1a := et1 _ _ (upd_same (H := H9) (a := a1) (o := .tup (natsV w0 ++ [V.int (b : Int)])))
        have h1t : (upd (upd H9 a1 (.tup (natsV w0 ++ [V.int (b : Int)]))) t1 (.tup [.ref lt, .ref a1])) t1 = some (.tup [.ref lt, .ref a1]) := upd_same
        have ex10 := Ext.trans ex9 (Ext.trans ea1 et1)
        have hd10 := et1 _ _ (ea1 _ _ hd9)
        generalize upd (upd H9 a1 (.tup (natsV w0 ++ [V.int (b : Int)]))) t1 (.tup [.ref lt, .ref a1]) = H10 at k10 h1a h1t ex10 hd10
        have hQ10 : H10 q = some (.lst (refs ws)) := k10 q _ (Ne.symm ndq) hQ8
        refine ⟨q, _, _, rfl, rfl, hQ10, ?_, ?_⟩
        · rw [List.length_map, hW8.1, List.length_drop]
          exact szl (by omega)
        have k11 : ∀ c o, c ≠ d → c ≠ q → H8 c = some o → (upd H10 q (.lst (refs ws ++ [.ref t1]))) c = some o := fun c o hc hq' e => by rw [upd_ne hq']; exact k10 c o hc e
        have ex11 : Ext H2 (upd H10 q (.lst (refs ws ++ [.ref t1]))) := Ext.mut ex10 hq2
        have hd11 : (upd H10 q (.lst (refs ws ++ [.ref t1]))) d = some (.dK (known n (L ++ [(cmp f0 g, w0 ++ [b])]))) := by rw [upd_ne ndq]; exact hd10
        have h1a11 : (upd H10 q (.lst (refs ws ++ [.ref t1]))) a1 = some (.tup (natsV w0 ++ [V.int (b : Int)])) := by rw [upd_ne (ne_of h1a hQ10 (fun z => nomatch z))]; exact h1a
        have h1t11 : (upd H10 q (.lst (refs ws ++ [.ref t1]))) t1 = some (.tup [.ref lt, .ref a1]) := by rw [upd_ne (ne_of h1t hQ10 (fun z => nomatch z))]; exact h1t
        have hQ11 : (upd H10 q (.lst (refs ws ++ [.ref t1]))) q = some (.lst (refs ws ++ [.ref t1])) := upd_same
        generalize upd H10 q (.lst (refs ws ++ [.ref t1])) = H11 at k11 ex11 hd11 h1a11 h1t11 hQ11
        have en : natsV w0 ++ [V.int (b : Int)] = natsV (w0 ++ [b]) := by simp
        have er : refs ws ++ [V.ref t1] = refs (ws ++ [t1]) := by simp
        have hM11 := S8.map hQ8 k11 hM8
        have hm11 := S8.map hQ8 k11 hm8
        have hw11 := k11 wa _ (ne_of hw8 S8.hd (fun z => nomatch z)) (ne_of hw8 hQ8 (fun z => nomatch z)) hw8
        have it11 : ItemAt K H11 t1 n (cmp f0 g) (w0 ++ [b]) := ⟨lt, a1, h1t11, hM11, by rw [← en]; exact h1a11⟩
        have hW11 := (hW8.imp fun t' f' w' z => S8.item hQ8 k11 z).snoc it11
        rw [er] at hQ11
        obtain ⟨ts, eys, hts⟩ := S8.its
        have hts11 := hts.imp fun t' f' w' z => S8.item hQ8 k11 z
        have hyl : ys.length < sizeLine := by
          rw [eys, List.length_map, hts.1, List.length_drop]
          exact szl (by omega)
        refine ⟨hyl, _, rfl, _, rfl, wa, natsV w0, rfl, Or.inl (Or.inl (Or.inl hw11)), _, rfl, lw, fun a2 ha2 => ⟨(by show 2 ≤ sizeLine; decide), fun t2 ht2 => ⟨trivial, fun z H14 e14 hz => ?_⟩⟩⟩
        have hz : z = V.ref t2 := hz
        subst hz
        have ea2 := Ext.upd (o := .tup (natsV w0 ++ [V.int (b : Int)])) ha2
        have et2 := Ext.upd (o := .tup [.ref lt, .ref a2]) ht2
        have e11 := Ext.trans ea2 (Ext.trans et2 e14)
        have it14 : ItemAt K H14 t2 n (cmp f0 g) (w0 ++ [b]) := ⟨lt, a2, e14 _ _ upd_same, hM11.ext e11, by rw [← en]; exact e14 _ _ (et2 _ _ upd_same)⟩
        refine ⟨L ++ [(cmp f0 g, w0 ++ [b])], ws ++ [t1], _, _, _, _, by rw [List.length_append]; omega, by rw [List.getElem?_append_left (by omega)]; exact hL, rfl, ⟨Ext.trans ex11 e11, S8.bi.add hL bm hstep hmem, ?_, e11 _ _ hd11, ts ++ [t2], by rw [eys]; simp, ?_⟩, e11 _ _ hQ11, ?_, hm11.ext e11, e11 _ _ hw11⟩
        · intro j e' w' hm
          rcases get_snoc_pair hm with z | ⟨rfl, _, rfl⟩
          · exact S8.bl j e' w' z
          · rw [List.length_append]
            simp
            omega
        · rw [drop_snoc (by omega)]
          exact (hts11.ext e11).snoc it14
        · rw [drop_snoc hle]
          exact hW11.ext e11
      · rintro ys σ H6 ⟨L, ws, v6, v7, v8, v9, hle, hL, rfl, S6, hQ6, hW6, _, _⟩
        have hm : (refs ps).length = fs.length := by rw [List.length_map, hf3.1]
        rw [hm] at S6
        exact ⟨L, i + 1, ws, _, _, _, _, _, _, rfl, hle, rfl, ⟨S6.ex, S6.bi.next hL, S6.bl, S6.hd, S6.its⟩, hQ6, hW6⟩
end
end CM
-- part D22
set_option Elab.async false
set_option linter.all false
set_option maxRecDepth 100000
set_option maxHeartbeats 4000000
/-! ### generated -/
namespace CM
open PySem PySem.Spec PyProof.Rows L2 StX GenW
section
variable {P : Program} {w : World} {K : PySem.W.Frag} {mg : Str → Option Value} {base : Heap}
/-- Rel: what the consumer has of the maps that it was told -/
structure Tells (K : PySem.W.Frag) (n : Nat) (fs : List PF) (H : Hp) (out : OutJ) (fin : FinJ) (Rel : List V → List (PF × List Nat) → Hp → Prop) : Prop where
  zero : ∀ H', Ext H H' → Rel [] [] H'
  mono : ∀ ys L H1 H2, Rel ys L H1 → Ext H1 H2 → Rel ys L H2
  say : ∀ ys L t f w H1, Rel ys L H1 → ItemAt K H1 t n f w → out.o ys (.ref t) H1
  back : ∀ ys L t f w z H1 H2, Rel ys L H1 → ItemAt K H1 t n f w → Ext H1 H2 → out.k ys (.ref t) z H2 → Rel (ys ++ [z]) (L ++ [(f, w)]) H2
  done : ∀ ys L H', Ext H H' → Rel ys L H' → GenOut n fs L → (∀ (j : Nat) (f : PF) w, L[j]? = some (f, w) → w.length ≤ j) → L.length ≤ 625 → fin ys H'
def spGen (K : PySem.W.Frag) : SpJ := fun vs H out fin => ∃ fa n fs Rel, vs = [.ref fa] ∧ FamAt K H fa n fs ∧ n ≤ 4 ∧ Tells K n fs H out fin Rel
theorem sc_gen : GScope ["family", "first", "found", "one", "word"] ["family"] (defScope (top 46)) := ⟨rfl, rfl, rfl, by decide +kernel, rfl, by decide +kernel, by decide +kernel⟩
theorem ok_gen (T : Txt K mg) : GFnJ P w K mg base 12 (He.ga K "generated") (spGen K) := by
  refine gfnj_by T.d_generated sc_gen (fun _ => rfl) (fun _ _ _ _ _ _ us hl => match us, hl with | [_], _ => rfl) (fun vs H Q E h => ?_) (fun cdv A outer s H vs out fin pn hg hr h H2 e02 => ?_)
  · obtain ⟨fa, n, fs, _, rfl, _⟩ := h
    rfl
  · obtain ⟨fa, n, fs, Rel, rfl, Fm, hn4, R⟩ := h
    refine ⟨_, ssj_cons (sj_ps (ps_expr (pe_fn (ok_chkfam T) (hr.mono (by decide)) (by rfl) T.g_check_family T.d_check_family.kp (pa_cons (pv 0) pa_nil))))
      (ssj_cons (sj_ps (ps_set (i := 1) sc_gen.nd rfl (Or.inl rfl) (ClX.pe_cmeth (pe_glob (v := .ref (cM K)) (by rfl) T.g_Map rfl) T.r_Map T.m_cId (ok_ident T) (hr.mono (by decide)) pass0 (pa_cons (pe_pr (pv 0) T.c_Family T.m_pFSize (ok_fsize T) (hr.mono (by decide))) pa_nil))))
      (ssj_cons (sj_ps (ps_set (i := 2) sc_gen.nd rfl (Or.inl rfl) (pe_listJ (pgj_call (ok_walked T) (hr.mono (by decide)) (by rfl) T.g_walked T.d_walked.kp (pa_cons (pv 0) (pa_cons (pv 1) pa_nil))) hg hr (by rfl) T.u_list (by decide +kernel))))
      (ssj_cons (sj_yield (pe_tup (pa_cons (pv 1) (pa_cons (pe_tup pa_nil) pa_nil))))
      (ssj_one (sj_for rfl (pi_list (pv 2)) (pg_tup rfl (pgs_cons (pg_name (i := 3) sc_gen.nd rfl (Or.inl rfl)) (pgs_cons (pg_name (i := 4) sc_gen.nd rfl (Or.inl rfl)) pgs_nil)))
        (ssj_one (sj_yield (pe_tup (pa_cons (pv 3) (pa_cons (pv 4) pa_nil)))))))))), ?_⟩
    have F2 := Fm.ext e02
    have sz := Fm.sz
    obtain ⟨fdx, ft, ps, hf1, _, _⟩ := F2.ob
    refine ⟨_, rfl, fa, n, fs, rfl, F2, ?_⟩
    refine ⟨rfl, _, rfl, fa, fdx, _, rfl, hf1, fa, n, fs, rfl, F2, n, rfl, sz.1, sz.2, fun m H3 hm e23 M3 => ?_⟩
    have F3 := F2.ext e23
    refine ⟨outW, fun ys H' => ∃ ts L, Ext H3 H' ∧ ys = refs ts ∧ Its K H' n ts (L.drop 1) ∧ GenOut n fs L ∧ (∀ (j : Nat) (f : PF) w, L[j]? = some (f, w) → w.length ≤ j) ∧ L.length ≤ 625,
      ⟨_, rfl, _, rfl, fa, m, n, fs, rfl, F3, hn4, M3, rfl, fun ys ts L H' a b c d e f => by exact ⟨ts, L, a, b, c, d, e, f⟩⟩, fun _ _ _ _ => rfl, ?_⟩
    rintro ys H4 ⟨ts, L, e34, rfl, its, go, bl, few⟩ hle q hq
    have eq := Ext.upd (o := .lst (refs ts)) hq
    have hQ : (upd H4 q (.lst (refs ts))) q = some (.lst (refs ts)) := upd_same
    have its := its.ext eq
    have e35 := Ext.trans e34 eq
    generalize upd H4 q (.lst (refs ts)) = H5 at hQ its e35
    have M5 := M3.ext e35
    have e05 := Ext.trans e02 (Ext.trans e23 e35)
    obtain ⟨M, rfl⟩ : ∃ M, L = (idF n, []) :: M := by
      obtain ⟨a, bi⟩ := go
      have z := bi.zero
      cases L with
      | nil => cases z
      | cons p M => cases z; exact ⟨M, rfl⟩
    have its : Its K H5 n ts M := its
    refine ⟨(by show 0 < sizeLine; decide), _, rfl, (by show 0 ≤ sizeLine; decide), fun u0 hu0 => ⟨(by show 2 ≤ sizeLine; decide), fun t0 ht0 => ?_⟩⟩
    have eu := Ext.upd (o := .tup []) hu0
    have et := Ext.upd (o := .tup [.ref m, .ref u0]) ht0
    have it0 : ItemAt K (upd (upd H5 u0 (.tup [])) t0 (.tup [.ref m, .ref u0])) t0 n (idF n) [] := ⟨m, u0, upd_same, M5.ext (Ext.trans eu et), et _ _ upd_same⟩
    have R0 := R.zero _ (Ext.trans e05 (Ext.trans eu et))
    refine ⟨R.say _ _ _ _ _ _ R0 it0, fun z H6 e6 hz => ?_⟩
    have R1 := R.back _ _ _ _ _ _ _ _ R0 it0 e6 hz
    have e56 := Ext.trans eu (Ext.trans et e6)
    refine ⟨_, rfl, q, rfl, ⟨_, Or.inl (Or.inl (e56 _ _ hQ))⟩, ?_⟩
    refine forj_it (walk_list (xs := refs ts)) (fun b ys σ H7 => ∃ v3 v4, σ = [some (.ref fa), some (.ref m), some (.ref q), v3, v4] ∧ Ext H5 H7 ∧ ys.length = b + 1 ∧ Rel ys (((idF n, []) :: M).take (b + 1)) H7)
      ⟨_, _, rfl, e56, rfl, R1⟩ (fun b ys σ H7 _ ⟨_, _, _, e7, _⟩ => Or.inl (Or.inl (e7 _ _ hQ))) ?_ ?_
    · rintro b y ys σ H7 H8 hb ⟨v3, v4, rfl, e7, hl, R7⟩ ⟨rfl, hy⟩
      obtain ⟨t, rfl, ht⟩ := refs_get hy
      have hbt : b < ts.length := (List.getElem?_eq_some_iff.mp ht).1
      have hbM : b < M.length := by rw [← its.1]; exact hbt
      have hMb : M[b]? = some (M[b].1, M[b].2) := List.getElem?_eq_getElem hbM
      obtain ⟨m1, wa, h1, h2, h3⟩ := (its.2 b t _ _ ht hMb).ext e7
      refine ⟨t, _, rfl, Or.inl (Or.inl h1), rfl, _, _, rfl, _, _, rfl, rfl, ?_⟩
      have hfew : b + 1 < 625 := by
        have : ((idF n, []) :: M).length = M.length + 1 := rfl
        omega
      refine ⟨by rw [hl]; exact Nat.lt_of_lt_of_le hfew (by decide), _, rfl, _, rfl, (by show 2 ≤ sizeLine; decide), fun t2 ht2 => ?_⟩
      have e2 := Ext.upd (o := .tup [.ref m1, .ref wa]) ht2
      have it2 : ItemAt K (upd H8 t2 (.tup [.ref m1, .ref wa])) t2 n M[b].1 M[b].2 := ⟨m1, wa, upd_same, h2.ext e2, e2 _ _ h3⟩
      have R8 := R.mono _ _ _ _ R7 e2
      refine ⟨R.say _ _ _ _ _ _ R8 it2, fun z H9 e9 hz => ⟨_, _, rfl, Ext.trans e7 (Ext.trans e2 e9), by rw [List.length_append, hl]; rfl, ?_⟩⟩
      have R9 := R.back _ _ _ _ _ _ _ _ R8 it2 e9 hz
      have et : ((idF n, []) :: M).take (b + 1 + 1) = ((idF n, []) :: M).take (b + 1) ++ [(M[b].1, M[b].2)] := take_succ (l := (idF n, []) :: M) (i := b + 1) hMb
      rw [et]
      exact R9
    · rintro ys σ H7 ⟨v3, v4, rfl, e7, hl, R7⟩
      have hlen : (refs ts).length + 1 = ((idF n, []) :: M).length := by rw [List.length_map, its.1]; rfl
      rw [hlen, List.take_length] at R7
      exact R.done ys _ H7 (Ext.trans e05 e7) R7 go bl few
end
end CM
-- part R16
set_option Elab.async false
set_option linter.all false
set_option maxRecDepth 100000
set_option maxHeartbeats 4000000
/-! ### a map not in a list of maps -/
namespace CM
open PySem PySem.Spec PyProof.Rows L2 StX PySem.SeqAt
open AutoSeq1 (wpAny_loadPart')
open MeetsSeq MeetsSeq2 MeetsSeq3 SeqRoads2
def rNotInM (K : PySem.W.Frag) : R2 := fun x y H Q => ∃ a l ts n g gs, x = V.ref a ∧ y = V.ref l ∧ H l = some (.lst (refs ts)) ∧ MapAt (cM K) H a n g ∧ MapsAt K H n ts gs ∧ g ∈ gs ∧ Q (.bl false) H
section
variable {X : Cx} {k : Nat} {f : Addr} {pins : List (Addr × Obj)} {σ : L2.St} {H : Hp}
theorem eqb_map {A : Around} {s : Shared} {n : Nat} {a t : Addr} {g h : PF} {E : Value → Shared → Prop} (sb : L2.Sub X k A) (hs : PySem.W.findIn X.K (.ref (cM X.K)) "__eq__" = some (some (.ref f))) (hf : PySem.W.isFn X.K (.ref f) = true) (F : Fn X.prog X.w X.K X.mg X.base k f (spEq X.K)) (I : Inv X pins σ H s)
    (ma : MapAt (cM X.K) H t n h) (mb : MapAt (cM X.K) H a n g) : wpAny (model X.prog X.w) A (eqBool (.ref t) (.ref a)) (fun r s' => ((r = true ∧ h = g) ∨ (r = false ∧ h ≠ g)) ∧ Inv X pins σ H s') E s := by
  by_cases e : t = a
  · subst e
    refine EqAt.same (A := A) (s := s) (.ref t) X.prog X.w E _ ⟨Or.inl ⟨rfl, ?_⟩, I⟩
    obtain ⟨⟨dx, d, h1, h2⟩, w1, _, _⟩ := ma
    obtain ⟨⟨dy, d', h3, h4⟩, w2, _, _⟩ := mb
    rw [h1] at h3
    have hd : d = d' := by
      injection h3 with h3
      injection h3 with _ _ h3
      have h5 := mFld_arrows n d
      rw [h3, mFld_arrows] at h5
      cases h5
      rfl
    subst hd
    rw [h2] at h4
    injection h4 with h4
    injection h4 with h4
    have hr : rowsOf n h = rowsOf n g := by
      refine (List.map_inj_right ?_).mp h4
      intro x y q
      have q1 := congrArg Prod.fst q
      have q2 := congrArg Prod.snd q
      simp at q1 q2
      exact Prod.ext (by omega) (by omega)
    rw [← pf_rows w1, ← pf_rows w2, hr]
  · obtain ⟨dx, _, o1, _⟩ := id ma.ob
    obtain ⟨dy, _, o2, _⟩ := id mb.ob
    refine GQ.eqBool_refG e (thn (rc_own (op := .Eq) (Q := fun v H' => v = .bl (eqB n h g) ∧ H' = H) sb hs hf F I o1 o2 ⟨t, a, n, h, g, rfl, ma, mb, rfl, rfl⟩) fun v s' hv => ?_)
    obtain ⟨z, H', I', rz, rfl, rfl⟩ := hv
    cases rz
    refine ⟨_, rfl, ?_, I'⟩
    by_cases q : h = g
    · exact Or.inl ⟨(eqB_iff ma.wf mb.wf).mpr q, q⟩
    · exact Or.inr ⟨eqB_false ma.wf mb.wf q, q⟩
theorem in_loop {R : Result → Shared → Prop} {n : Nat} {a l : Addr} {ts : List Addr} {g : PF} {gs : List PF} (hr : Room (k + 1) X.A) (hs : PySem.W.findIn X.K (.ref (cM X.K)) "__eq__" = some (some (.ref f))) (hf : PySem.W.isFn X.K (.ref f) = true) (F : Fn X.prog X.w X.K X.mg X.base k f (spEq X.K))
    (hl : H l = some (.lst (refs ts))) (ma : MapAt (cM X.K) H a n g) (ml : MapsAt X.K H n ts gs) (fin : ∀ s, Inv X pins σ H s → R (.ok (.ret (.bool true))) s) :
    ∀ (m i : Nat), ts.length - i = m → (∃ j, i ≤ j ∧ gs[j]? = some g) → ∀ s, Inv X pins σ H s →
      wpAny (model X.prog X.w) X.A.in1 (Builtin.«list.__contains__.loop» ⟨[.ref l, .ref a, rawInt i], []⟩) (GQ.FinOf X.prog X.w X.A R) (fun e s' => R (.error e) s') s := by
  intro m
  induction m with
  | zero =>
    rintro i hi ⟨j, hj, hg⟩
    have := (List.getElem?_eq_some_iff.mp hg).1
    rw [← ml.1] at this
    omega
  | succ m ih =>
    rintro i hi ⟨j, hj, hg⟩ s I
    obtain ⟨_, its, c, rv, eL⟩ := I.hok l _ hl
    have hit : i < ts.length := by omega
    have hz : its.length = ts.length := by rw [← rv.length, List.length_map]
    have hti : its.toArray[((i : Nat) : Int).toNat]? = some (.ref ts[i]) := by
      have e1 : (refs ts)[i]? = some (.ref ts[i]) := get_refs (List.getElem?_eq_getElem hit)
      obtain ⟨u, hu, ru⟩ := rv.get e1
      cases (show u = Value.ref ts[i] from ru)
      simpa using hu
    have hlt : i < gs.length := by rw [← ml.1]; exact hit
    obtain ⟨h, hh, mt⟩ := ml.2 i ts[i] (List.getElem?_eq_getElem hit)
    unfold Builtin.«list.__contains__.loop»
    refine wpAny_bind ?_
    show wpAny _ _ (Builtin.List.listItems (.ref l)) _ _ s
    unfold Builtin.List.listItems
    refine wpAny_bind (wpAny_seqItems eL rfl (wpAny_pure ?_))
    rw [hti]
    dsimp only
    refine wpAny_bind (thn (eqb_map (A := X.A.in1) ⟨hr.in1, rfl⟩ hs hf F I mt ma) fun r s' hr' => ?_)
    obtain ⟨q, I'⟩ := hr'
    rcases q with ⟨rfl, rfl⟩ | ⟨rfl, ne⟩
    · rw [if_pos rfl]
      exact wpAny_pure (fin s' I')
    · rw [if_neg Bool.false_ne_true]
      have hc : ((i : Int) + 1) = ((i + 1 : Nat) : Int) := by push_cast; rfl
      have hij : i + 1 ≤ j := by
        rcases Nat.lt_or_ge i j with q | q
        · exact q
        · have : i = j := by omega
          subst this
          rw [hh] at hg
          cases hg
          exact absurd rfl ne
      rw [hc]
      refine wpAny_pure ⟨plainId_quiet plain_contains_loop _, codeAny_builtin entry_contains_loop ?_⟩
      rw [Around.under_plainId plain_contains_loop _]
      exact ih (i + 1) (by omega) ⟨j, hij, hg⟩ s' I'
theorem op_notinMap (hr : Room (k + 1) X.A) (hs : PySem.W.findIn X.K (.ref (cM X.K)) "__eq__" = some (some (.ref f))) (hf : PySem.W.isFn X.K (.ref f) = true) (F : Fn X.prog X.w X.K X.mg X.base k f (spEq X.K)) : OpR X (compareOp .NotIn) (rNotInM X.K) := by
  intro pins s σ H x y v u Q I rx ry hq
  obtain ⟨a, l, ts, n, g, gs, rfl, rfl, hl, ma, ml, hg, hq⟩ := hq
  cases rx
  cases ry
  obtain ⟨_, its, c, rv, eL⟩ := I.hok l _ hl
  obtain ⟨j, hj⟩ := List.mem_iff_getElem?.mp hg
  have hT : s.TypeIs (.ref l) "list" := ⟨_, eL, rfl⟩
  show wpAny _ X.A (do return .bool (!(← contains (.ref l) (.ref a)))) (EP X pins σ Q) X.xe s
  refine wpAny_bind (wpAny_contains_slot hT PySem.F.slot_list_contains (GQ.call_here PySem.F.slot_list_contains hT PySem.F.entry_list_contains (PySem.F.args_list_contains_2 _ _) ?_))
  unfold Builtin.«list.__contains__»
  refine wpAny_bind (m := slotArgs "__contains__" 1 _) (wpAny_pure ?_)
  dsimp only
  refine wpAny_pure ⟨plainId_quiet plain_contains_loop _, codeAny_builtin entry_contains_loop ?_⟩
  rw [Around.under_plainId plain_contains_loop _]
  refine in_loop hr hs hf F hl ma ml (fun s' I' => ?_) _ 0 rfl ⟨j, Nat.zero_le _, hj⟩ s I
  exact wpAny_truthy_bool (wpAny_pure ⟨.bl false, H, I', rfl, hq⟩)
end
end CM
-- part R17
set_option Elab.async false
set_option linter.all false
set_option maxRecDepth 100000
set_option maxHeartbeats 4000000
/-! ### what a comprehension over generated has at its end -/
namespace CM
open PySem PySem.Spec PyProof.Rows L2 StX GenW
section
variable {K : PySem.W.Frag} {H : Hp} {n : Nat} {fs : List PF}
def outP (K : PySem.W.Frag) (n : Nat) : OutJ := ⟨fun _ v H1 => ∃ t f w, v = .ref t ∧ ItemAt K H1 t n f w, fun _ x z H2 => ∃ t m wa t2, x = .ref t ∧ H2 t = some (.tup [.ref m, .ref wa]) ∧ z = .ref t2 ∧ H2 t2 = some (.tup [.ref m, .ref wa])⟩
def finP (K : PySem.W.Frag) (H : Hp) (n : Nat) (fs : List PF) : FinJ := fun ys H' => ∃ ts L, Ext H H' ∧ ys = refs ts ∧ Its K H' n ts L ∧ GenOut n fs L ∧ (∀ (j : Nat) (f : PF) w, L[j]? = some (f, w) → w.length ≤ j) ∧ L.length ≤ 625
theorem tells_pairs : Tells K n fs H (outP K n) (finP K H n fs) (fun ys L H' => ∃ ts, ys = refs ts ∧ Its K H' n ts L) where
  zero := fun _ _ => ⟨[], rfl, Its.nil⟩
  mono := fun _ _ _ _ ⟨ts, e1, e2⟩ e => ⟨ts, e1, e2.ext e⟩
  say := fun _ _ t f w _ _ h => ⟨t, f, w, rfl, h⟩
  back := by
    rintro ys L t f w z H1 H2 ⟨ts, rfl, its⟩ ⟨m, wa, h1, h2, h3⟩ e ⟨t', m', wa', t2, q1, q2, rfl, q4⟩
    cases q1
    rw [e _ _ h1] at q2
    cases q2
    exact ⟨ts ++ [t2], by simp, (its.ext e).snoc ⟨m, wa, q4, h2.ext e, e _ _ h3⟩⟩
  done := fun _ L _ e ⟨ts, e1, e2⟩ go bl few => ⟨ts, L, e, e1, e2, go, bl, few⟩
def outO (K : PySem.W.Frag) (n : Nat) : OutJ := ⟨fun _ v H1 => ∃ t f w, v = .ref t ∧ ItemAt K H1 t n f w, fun _ x z H2 => ∃ t m wa, x = .ref t ∧ H2 t = some (.tup [.ref m, .ref wa]) ∧ z = .ref m⟩
def finO (K : PySem.W.Frag) (H : Hp) (n : Nat) (fs : List PF) : FinJ := fun ys H' => ∃ ms L, Ext H H' ∧ ys = refs ms ∧ MapsAt K H' n ms (L.map Prod.fst) ∧ GenOut n fs L ∧ L.length ≤ 625
theorem tells_ones : Tells K n fs H (outO K n) (finO K H n fs) (fun ys L H' => ∃ ms, ys = refs ms ∧ MapsAt K H' n ms (L.map Prod.fst)) where
  zero := fun _ _ => ⟨[], rfl, MapsAt.nil⟩
  mono := fun _ _ _ _ ⟨ts, e1, e2⟩ e => ⟨ts, e1, e2.ext e⟩
  say := fun _ _ t f w _ _ h => ⟨t, f, w, rfl, h⟩
  back := by
    rintro ys L t f w z H1 H2 ⟨ms, rfl, its⟩ ⟨m, wa, h1, h2, h3⟩ e ⟨t', m', wa', q1, q2, rfl⟩
    cases q1
    rw [e _ _ h1] at q2
    cases q2
    refine ⟨ms ++ [m], by simp, ?_⟩
    rw [List.map_append]
    exact (its.ext e).snoc (h2.ext e)
  done := fun _ L _ e ⟨ms, e1, e2⟩ go _ few => ⟨ms, L, e, e1, e2, go, few⟩
/-- [reached(family, place) for place in range(n)] -/
theorem reach_lists {σ : L2.St} {H1 : Hp} {D fi : Addr} {j c n : Nat} {gs : List PF} {Qd : Hp → Prop} (hc : σ[c]? = some (some (.ref fi))) (hjc : j ≠ c) (hj : j < σ.length) (hD : H1 D = none) (F : FamAt K H1 fi n gs) (hn : n ≤ 300)
    (k : ∀ H2 as, Ext H1 H2 → H2 D = some (.lst (refs as)) → LLAt H2 as ((List.range n).map (rchL n gs)) → Qd H2) : LcW (Itr 0 n) (gName j) tYes (tFn (spReached K) (tCons (tVar c) (tCons (tVar j) tNil))) [j] σ H1 D Qd := by
  refine lc_it walk_range (fun i H2 => Ext H1 H2 ∧ ∃ as, H2 D = some (.lst (refs as)) ∧ D ∉ as ∧ LLAt H2 as ((List.range i).map (rchL n gs))) ⟨Ext.upd hD, [], upd_same, by simp, rfl, fun i a h => by simp at h⟩ (fun _ _ _ _ => trivial) ?_ ?_
  · rintro i x H2 H3 hi ⟨e2, as, has, nD, LL⟩ ⟨rfl, rfl⟩
    have ei : (0 : Int) + (i : Nat) = (i : Int) := by omega
    show gName j (V.int ((0 : Int) + (i : Nat))) (wipe σ [j]) H3 _
    rw [ei]
    have hin : i < n := hi
    have hal : as.length = i := by rw [LL.1, List.length_map, List.length_range]
    refine ⟨set_back _ _ _, yesT ⟨_, by rw [wipe1, set_ne hjc]; exact hc, _, set_self hj _, fi, n, gs, i, rfl, F.ext e2, hin, fun r H4 hr e4 h4 => ⟨refs as, e4 _ _ has, ?_, Ext.mut (Ext.trans e2 e4) hD, as ++ [r], by rw [upd_same]; simp, ?_, ?_⟩⟩⟩
    · rw [List.length_map, hal]
      exact small300 (m := n) (by omega) hn
    · intro h
      rcases List.mem_append.mp h with z | z
      · exact nD z
      · rw [← List.mem_singleton.mp z, has] at hr
        cases hr
    · rw [List.range_succ, List.map_append]
      refine LLAt.snoc ((LL.ext e4).on fun a u ha hu => ?_) ?_
      · have na : a ≠ D := fun z => nD (by rw [← z]; exact ha)
        rw [upd_ne na]
        exact hu
      · have nr : r ≠ D := fun z => by rw [z, has] at hr; cases hr
        rw [upd_ne nr]
        exact h4
  · rintro H2 ⟨e2, as, has, nD, LL⟩
    exact k H2 as e2 has LL
end
end CM
-- part D23
set_option Elab.async false
set_option linter.all false
set_option maxRecDepth 100000
set_option maxHeartbeats 4000000
/-! ### the second half of the law -/
namespace CM
open PySem PySem.Spec PyProof.Rows L2 StX GenW
section
variable {P : Program} {w : World} {K : PySem.W.Frag} {mg : Str → Option Value} {base : Heap}
def spMore (K : PySem.W.Frag) : Sp := fun vs H Q _ => ∃ p f n fs, vs = [.ref p, .ref f, .int (n : Nat)] ∧ PoolAt H p ∧ FamAt K H f n fs ∧ n ≤ 4 ∧ fs.length ≤ 9 ∧ ∀ H', Exb p H H' → PoolAt H' p → Q (.bl true) H'
theorem sc_more : FnScope ["_law_pool", "_law_family_here", "_law_size_here", "_law_every", "_law_one", "_law_word", "_law_some", "_law_turn", "_law_first", "_law_second", "_law_wide", "_law_found", "_law_paper", "_law_at"] ["_law_pool", "_law_family_here", "_law_size_here"] (defScope (top 61)) := ⟨rfl, rfl, rfl, by decide +kernel, rfl, by decide +kernel, by decide +kernel⟩
theorem ok_more (T : Txt K mg) : FnG P w K mg base 14 (He.ga K "_law_more_right") (spMore K) := by
  refine fng_by T.d__law_more_right sc_more (fun _ _ _ _ _ _ us hl => match us, hl with | [_, _, _], _ => rfl) (fun vs H Q E h => ?_) (fun cdv A outer s H vs Q E hg hr h => ?_)
  · obtain ⟨p, f, n, fs, rfl, _⟩ := h
    rfl
  · obtain ⟨p, f, n, fs, rfl, hp, Fm, hn4, hf9, k⟩ := h
    have hu := hu_of hr
    have hu64 : (A.deeper (envOfC "_law_more_right" (defScope (top 61)) s.heap.objs.size (He.ga K "_law_more_right") cdv)).units + 64 < cLine := by
      have := hr.un
      omega
    have NM : NeC K (cM K) (He.ma K (cM K) "__eq__") := ⟨T.ne_Map, T.m_mEq.1, T.m_mEq.2, T.ob_Map⟩
    refine ⟨_, (pss_cons (ps_setGlc (n := 3) (i := 4) (j := 5) (own := [("_law_one", 4), ("_law_word", 5)]) rfl hg hr sc_more.nd rfl rfl (sw_true rfl rfl rfl rfl) (pgj_call (ok_gen T) (hr.mono (by decide)) (by rfl) T.g_generated T.d_generated.kp (pa_cons (pv 1) pa_nil)) (blkOk_by (own := [("_law_one", 4), ("_law_word", 5)]) (N := ["_law_pool", "_law_family_here", "_law_size_here", "_law_every", "_law_one", "_law_word", "_law_some", "_law_turn", "_law_first", "_law_second", "_law_wide", "_law_found", "_law_paper", "_law_at"]) (sc := defScope (top 61)) (by decide +kernel)) (fun _ => rfl) rfl rfl rfl rfl (by decide) (by decide) (fun _ _ _ _ => peg_pair (i := 4) (j := 5) rfl rfl rfl rfl) (fun _ => rfl))
      (pss_cons (ps_for PassesOwn.never rfl (pi_list (pv 3)) (pg_tup rfl (pgs_cons (pg_name (i := 4) sc_more.nd rfl (Or.inl rfl)) (pgs_cons (pg_name (i := 5) sc_more.nd rfl (Or.inl rfl)) pgs_nil))) (pss_one (ps_if (pt_cmpR (op_neOwn NM (ok_eq T) (hr.mono (by decide))) (StX.pe_callO (pv 1) T.co_Family (ok_fcall T) (hr.mono (by decide)) pass0 (pa_cons (pv 5) pa_nil) rfl) (pv 4) (nomark _)) (pss_never (X := _)) pss_nil)))
      (pss_cons (ps_set (i := 6) sc_more.nd rfl (Or.inr rfl) (pe_lc (own := [("_law_one", 4), ("_law_word", 5)]) (g := gTup K 2 (gCons (gName 4) (gCons (gName 5) gNil))) (tt := tYes) rfl sc_more.nd (pi_list (pv 3)) (blkOk_by (own := [("_law_one", 4), ("_law_word", 5)]) (N := ["_law_pool", "_law_family_here", "_law_size_here", "_law_every", "_law_one", "_law_word", "_law_some", "_law_turn", "_law_first", "_law_second", "_law_wide", "_law_found", "_law_paper", "_law_at"]) (sc := defScope (top 61)) (by decide +kernel)) (fun _ _ _ _ _ => (pg_tup rfl (pgs_cons (pg_name (i := 4) sc_more.nd rfl (Or.inl rfl)) (pgs_cons (pg_name (i := 5) sc_more.nd rfl (Or.inl rfl)) pgs_nil)))) (fun _ _ _ _ _ => pts_nil) (fun _ _ _ _ _ => pv 4) (fun _ => rfl)))
      (pss_cons (ps_for PassesOwn.never rfl (pi_range1 rfl T.u_range (pa_cons pe_int pa_nil)) (pg_name (i := 7) sc_more.nd rfl (Or.inl rfl)) (pss_cons (ps_par (i := 8) (j := 9) rfl sc_more.nd rfl rfl (by decide) rfl rfl (pa_cons (pe_ix ix_list (pv 6) (pe_fn (ok_draw T) (hr.mono (by decide)) (by rfl) T.g__law_draw T.d__law_draw.kp (pa_cons (pv 0) (pa_cons (pe_callB call_len_seq (by rfl) T.u_len (by decide +kernel) (pa_cons (pv 6) pa_nil)) pa_nil))) (fun _ _ => rfl)) (pa_cons (pe_ix ix_list (pv 6) (pe_fn (ok_draw T) (hr.mono (by decide)) (by rfl) T.g__law_draw T.d__law_draw.kp (pa_cons (pv 0) (pa_cons (pe_callB call_len_seq (by rfl) T.u_len (by decide +kernel) (pa_cons (pv 6) pa_nil)) pa_nil))) (fun _ _ => rfl)) pa_nil)) rfl)
      (pss_one (ps_if (pt_cmpR (r := rNotInM K) (op_notinMap (hr.mono (by decide)) T.m_mEq.1 T.m_mEq.2 (ok_eq T)) (pe_fn (ok_prod T) (hr.mono (by decide)) (by rfl) T.g_product T.d_product.kp (pa_cons (pv 8) (pa_cons (pv 9) pa_nil))) (pv 6) (by rfl)) (pss_never (X := _)) pss_nil))))
      (pss_cons (ps_set (i := 10) sc_more.nd rfl (Or.inr rfl) (pe_op (op_own T.s_Family T.m_fAdd.1 T.m_fAdd.2 (ok_fadd T) (hr.mono (by decide))) (pv 1) (pe_mkR T.k_Family (ok_finit T) (hr.mono (by decide)) (by rfl) T.g_Family (pa_cons (pe_ix ix_list (pv 6) (pe_fn (ok_draw T) (hr.mono (by decide)) (by rfl) T.g__law_draw T.d__law_draw.kp (pa_cons (pv 0) (pa_cons (pe_callB call_len_seq (by rfl) T.u_len (by decide +kernel) (pa_cons (pv 6) pa_nil)) pa_nil))) (fun _ _ => rfl)) pa_nil))))
      (pss_cons (ps_setGlc (n := 11) (i := 4) (j := 5) (own := [("_law_one", 4), ("_law_word", 5)]) rfl hg hr sc_more.nd rfl rfl (sw_true rfl rfl rfl rfl) (pgj_call (ok_gen T) (hr.mono (by decide)) (by rfl) T.g_generated T.d_generated.kp (pa_cons (pv 10) pa_nil)) (blkOk_by (own := [("_law_one", 4), ("_law_word", 5)]) (N := ["_law_pool", "_law_family_here", "_law_size_here", "_law_every", "_law_one", "_law_word", "_law_some", "_law_turn", "_law_first", "_law_second", "_law_wide", "_law_found", "_law_paper", "_law_at"]) (sc := defScope (top 61)) (by decide +kernel)) (fun _ => rfl) rfl rfl rfl rfl (by decide) (by decide) (fun _ _ _ _ => peg_var (i := 4) rfl rfl) (fun _ => rfl))
      (pss_cons (ps_if (PW.pt (pw_or (pt_cmpR op_ne (pe_callB call_len_seq (by rfl) T.u_len (by decide +kernel) (pa_cons (pv 11) pa_nil)) (pe_callB call_len_seq (by rfl) T.u_len (by decide +kernel) (pa_cons (pv 6) pa_nil)) (nomark _)) (pw_or1 (pt_cmpR (op_neNil (Nat.lt_of_succ_lt hu)) (pe_lc (own := [("_law_one", 4)]) (g := gName 4) rfl sc_more.nd (pi_list (pv 11)) (blkOk_by (own := [("_law_one", 4)]) (N := ["_law_pool", "_law_family_here", "_law_size_here", "_law_every", "_law_one", "_law_word", "_law_some", "_law_turn", "_law_first", "_law_second", "_law_wide", "_law_found", "_law_paper", "_law_at"]) (sc := defScope (top 61)) (by decide +kernel)) (fun _ _ _ _ _ => (pg_name (i := 4) sc_more.nd rfl (Or.inl rfl))) (fun _ _ _ _ _ => pts_one (pt_cmpR (r := rNotInM K) (op_notinMap (hr.mono (by decide)) T.m_mEq.1 T.m_mEq.2 (ok_eq T)) (pv 4) (pv 6) (by rfl))) (fun _ _ _ _ _ => pv 4) (fun _ => rfl)) (pe_lst pa_nil) (nomark _))))) (pss_never (X := _)) pss_nil)
      (pss_cons (ps_if (pt_cmpR (op_neD hu64) (pe_lc (own := [("_law_at", 13)]) (g := gName 13) (tt := tYes) rfl sc_more.nd (pi_range1 rfl T.u_range (pa_cons (pv 2) pa_nil)) (blkOk_by (own := [("_law_at", 13)]) (N := ["_law_pool", "_law_family_here", "_law_size_here", "_law_every", "_law_one", "_law_word", "_law_some", "_law_turn", "_law_first", "_law_second", "_law_wide", "_law_found", "_law_paper", "_law_at"]) (sc := defScope (top 61)) (by decide +kernel)) (fun _ _ _ _ _ => (pg_name (i := 13) sc_more.nd rfl (Or.inl rfl))) (fun _ _ _ _ _ => pts_nil) (fun _ _ _ _ _ => (pe_fn (ok_reached T) (hr.mono (by decide)) (by rfl) T.g_reached T.d_reached.kp (pa_cons (pv 10) (pa_cons (pv 13) pa_nil)))) (fun _ => rfl)) (pe_lc (own := [("_law_at", 13)]) (g := gName 13) (tt := tYes) rfl sc_more.nd (pi_range1 rfl T.u_range (pa_cons (pv 2) pa_nil)) (blkOk_by (own := [("_law_at", 13)]) (N := ["_law_pool", "_law_family_here", "_law_size_here", "_law_every", "_law_one", "_law_word", "_law_some", "_law_turn", "_law_first", "_law_second", "_law_wide", "_law_found", "_law_paper", "_law_at"]) (sc := defScope (top 61)) (by decide +kernel)) (fun _ _ _ _ _ => (pg_name (i := 13) sc_more.nd rfl (Or.inl rfl))) (fun _ _ _ _ _ => pts_nil) (fun _ _ _ _ _ => (pe_fn (ok_reached T) (hr.mono (by decide)) (by rfl) T.g_reached T.d_reached.kp (pa_cons (pv 1) (pa_cons (pv 13) pa_nil)))) (fun _ => rfl)) (nomark _)) (pss_never (X := _)) pss_nil)
      (pss_cons (ps_if (PW.pt (pw_or (pt_cmpR op_ne (pe_cmp (pc_isN (pe_fn (ok_losing T) (hr.mono (by decide)) (by rfl) T.g_losing_word T.d_losing_word.kp (pa_cons (pv 10) pa_nil)))) (pe_cmp (pc_isN (pe_fn (ok_losing T) (hr.mono (by decide)) (by rfl) T.g_losing_word T.d_losing_word.kp (pa_cons (pv 1) pa_nil)))) (nomark _)) (pw_or1 (pt_cmpR (op_neD hu64) (pe_fn (ok_orbits T) (hr.mono (by decide)) (by rfl) T.g_orbits T.d_orbits.kp (pa_cons (pv 10) pa_nil)) (pe_fn (ok_orbits T) (hr.mono (by decide)) (by rfl) T.g_orbits T.d_orbits.kp (pa_cons (pv 1) pa_nil)) (nomark _))))) (pss_never (X := _)) pss_nil)
      (pss_cons (ps_set (i := 12) sc_more.nd rfl (Or.inl rfl) (pe_fn (ok_holds T) (hr.mono (by decide)) (by rfl) T.g_holding_sets T.d_holding_sets.kp (pa_cons (pv 1) pa_nil)))
      (pss_one (ps_ret (pe_or (pe_cmp (pc_isN (pv 12))) (pe_one (pe_fn (ok_isHold T) (hr.mono (by decide)) (by rfl) T.g_is_holding T.d_is_holding.kp (pa_cons (pv 10) (pa_cons (pv 12) pa_nil))))))))))))))))), ?_⟩
    have wfs := Fm.wfs
    have sz := Fm.sz
    have szl : ∀ {k : Nat}, k ≤ 700 → k < sizeLine := fun h => Nat.lt_of_le_of_lt h (by decide)
    obtain ⟨ps0, hps0⟩ := hp.is
    refine ⟨outP K n, finP K H n fs, ⟨_, rfl, f, n, fs, _, rfl, Fm, hn4, tells_pairs⟩, ?_, ?_⟩
    · rintro ys v H1 ⟨t, g, w, rfl, m, wa, h1, h2, h3⟩
      refine ⟨t, _, _, rfl, h1, _, _, rfl, rfl, fun q hq => ?_⟩
      have eq := Ext.upd (o := .tup [.ref m, .ref wa]) hq
      exact ⟨eq, t, m, wa, q, rfl, eq _ _ h1, rfl, upd_same⟩
    rintro ys H1 ⟨ts, L, e01, rfl, its, go, bl, few⟩ hle ev hev
    have eE := Ext.upd (o := .lst (refs ts)) hev
    have hE : (upd H1 ev (.lst (refs ts))) ev = some (.lst (refs ts)) := upd_same
    have its := its.ext eE
    have e02 := Ext.trans e01 eE
    clear eE hev
    generalize upd H1 ev (.lst (refs ts)) = H2 at hE its e02
    have F2 := Fm.ext e02
    refine ⟨_, rfl, ev, rfl, ⟨_, Or.inl (Or.inl hE)⟩, ?_⟩
    refine for_it (walk_list (xs := refs ts)) (fun i σ H3 => ∃ v4 v5, σ = [some (.ref p), some (.ref f), some (.int n), some (.ref ev), v4, v5, none, none, none, none, none, none, none, none] ∧ Ext H2 H3) ⟨_, _, rfl, fun _ _ z => z⟩ (fun i σ H3 _ ⟨_, _, _, e⟩ => Or.inl (Or.inl (e _ _ hE))) ?_ ?_
    · rintro i y σ H3 H4 hi ⟨v4, v5, rfl, e3⟩ ⟨rfl, hy⟩
      obtain ⟨t, rfl, ht⟩ := refs_get hy
      have hit : i < ts.length := (List.getElem?_eq_some_iff.mp ht).1
      have hiL : i < L.length := by rw [← its.1]; exact hit
      have hL : L[i]? = some (L[i].1, L[i].2) := List.getElem?_eq_getElem hiL
      obtain ⟨m, wa, h1, h2, h3⟩ := (its.2 i t _ _ ht hL).ext e3
      obtain ⟨w1, w2⟩ := gen_word wfs go (List.mem_of_getElem? hL)
      have F4 := F2.ext e3
      obtain ⟨dxf, tf, psf, of, _⟩ := F4.ob
      have wl := bl i _ _ hL
      refine ⟨t, _, rfl, Or.inl (Or.inl h1), rfl, _, _, rfl, _, _, rfl, rfl, ?_⟩
      refine ⟨_, rfl, f, rfl, _, rfl, Or.inr ⟨_, _, of⟩, f, wa, n, fs, L[i].2, rfl, F4, Or.inr h3, w1, by omega, fun x1 H6 hx1 e6 M1 => ?_⟩
      have M2 := h2.ext e6
      obtain ⟨dy, _, o1, _⟩ := id M1.ob
      obtain ⟨dz, _, o2, _⟩ := id M2.ob
      refine ⟨_, rfl, x1, m, dy, dz, _, _, rfl, rfl, o1, o2, x1, m, n, _, _, rfl, M1, M2, _, rfl, _, rfl, ?_⟩
      rw [(eqB_iff M1.wf M2.wf).mpr w2.symm]
      exact iteF ⟨_, _, rfl, Ext.trans e3 e6⟩
    rintro σ H3 ⟨v4, v5, rfl, e23⟩
    have its := its.ext e23
    have hE := e23 _ _ hE
    have e03 := Ext.trans e02 e23
    refine ⟨_, rfl, ev, rfl, ⟨_, Or.inl (Or.inl hE)⟩, fun so hso => ?_⟩
    refine lc_it (walk_list (xs := refs ts)) (fun i H4 => Ext H3 H4 ∧ ∃ ms, H4 so = some (.lst (refs ms)) ∧ MapsAt K H4 n ms ((L.take i).map Prod.fst)) ⟨Ext.upd hso, [], upd_same, MapsAt.nil⟩ (fun i H4 _ ⟨e, _⟩ => Or.inl (Or.inl (e _ _ hE))) ?_ ?_
    · rintro i y H4 H5 hi ⟨e4, ms, hms, hM⟩ ⟨rfl, hy⟩
      obtain ⟨t, rfl, ht⟩ := refs_get hy
      have hit : i < ts.length := (List.getElem?_eq_some_iff.mp ht).1
      have hiL : i < L.length := by rw [← its.1]; exact hit
      have hL : L[i]? = some (L[i].1, L[i].2) := List.getElem?_eq_getElem hiL
      obtain ⟨m, wa, h1, h2, h3⟩ := (its.2 i t _ _ ht hL).ext e4
      have hml : ms.length = i := by rw [hM.1, List.length_map, List.length_take]; omega
      refine ⟨t, _, rfl, Or.inl (Or.inl h1), rfl, _, _, rfl, _, _, rfl, rfl, rfl, yesT ⟨_, rfl, refs ms, hms, ?_, Ext.mut e4 hso, ms ++ [m], by rw [upd_same]; simp, ?_⟩⟩
      · rw [List.length_map, hml]
        exact szl (by omega)
      · have et : L.take (i + 1) = L.take i ++ [(L[i].1, L[i].2)] := take_succ hL
        rw [et, List.map_append]
        have kq : ∀ {p' : Addr} {g : PF}, MapAt (cM K) H5 p' n g → MapAt (cM K) (upd H5 so (.lst (refs ms ++ [.ref m]))) p' n g := fun M => mapAt_lst M hms
        exact MapsAt.snoc ⟨hM.1, fun j q hq => let ⟨g, g1, g2⟩ := hM.2 j q hq; ⟨g, g1, kq g2⟩⟩ (kq h2)
    rintro H4 ⟨e34, ms, hms, hM⟩
    have hll : (refs ts).length = L.length := by rw [List.length_map, its.1]
    rw [hll, List.take_length] at hM
    have e04 := Ext.trans e03 e34
    have hp4 := hp.ext e04
    obtain ⟨ps4, hps4⟩ := hp4.is
    have hML : ms.length = L.length := by rw [hM.1, List.length_map]
    have hL1 : 1 ≤ L.length := by
      obtain ⟨a, bi⟩ := id go
      have z := bi.zero
      cases L with
      | nil => cases z
      | cons q M => simp
    have nso : so ≠ p := fun z => by
      obtain ⟨q, hq⟩ := (hp.ext e03).is
      rw [z, hq] at hso
      cases hso
    clear e34 hE its hso
    refine ⟨6, rfl, by omega, by omega, ?_⟩
    refine for_it walk_range (fun i σ H5 => ∃ v7 v8 v9, σ = [some (.ref p), some (.ref f), some (.int n), some (.ref ev), v4, v5, some (.ref so), v7, v8, v9, none, none, none, none] ∧ Exb p H4 H5 ∧ PoolAt H5 p) ⟨_, _, _, rfl, Exb.refl _ _, hp4⟩ (fun _ _ _ _ _ => trivial) ?_ ?_
    · rintro i x σ H5 H6 hi ⟨v7, v8, v9, rfl, x5, hp5⟩ ⟨rfl, rfl⟩
      have hms5 := x5 _ _ hms nso
      refine ⟨_, rfl, _, rfl, _, rfl, so, _, rfl, Or.inl (Or.inl (Or.inl hms5)), p, ms.length, by rw [List.length_map], hp5, by omega, by omega, fun r1 H6 hr1 hp6 x6 nn6 => ?_⟩
      have hms6 := x6 _ _ hms5 nso
      refine ⟨so, _, r1, .ref ms[r1], rfl, rfl, Or.inl (Or.inl hms6), atI_nat (get_refs (List.getElem?_eq_getElem hr1)), ?_⟩
      refine ⟨_, rfl, _, rfl, _, rfl, so, _, rfl, Or.inl (Or.inl (Or.inl hms6)), p, ms.length, by rw [List.length_map], hp6, by omega, by omega, fun r2 H7 hr2 hp7 x7 nn7 => ?_⟩
      have hms7 := x7 _ _ hms6 nso
      refine ⟨so, _, r2, .ref ms[r2], rfl, rfl, Or.inl (Or.inl hms7), atI_nat (get_refs (List.getElem?_eq_getElem hr2)), ?_⟩
      have x47 := Exb.trans x5 (Exb.trans x6 x7)
      have hM7 := hM.exb hps4 x47
      obtain ⟨g1, hg1, M1⟩ := hM7.2 r1 _ (List.getElem?_eq_getElem hr1)
      obtain ⟨g2, hg2, M2⟩ := hM7.2 r2 _ (List.getElem?_eq_getElem hr2)
      refine ⟨_, _, rfl, ?_⟩
      refine ⟨_, rfl, _, rfl, [], _, rfl, rfl, (by show 2 ≤ sizeLine; decide), fun tp htp => ?_⟩
      have eT := Ext.upd (o := .tup [.ref ms[r1], .ref ms[r2]]) htp
      refine ⟨tp, ms[r1], ms[r2], n, g1, g2, rfl, upd_same, M1.ext eT, M2.ext eT, fun y H8 hy e8 M8 => ?_⟩
      have e78 := Ext.trans eT e8
      have mem1 : g1 ∈ L.map Prod.fst := List.mem_of_getElem? hg1
      have mem2 : g2 ∈ L.map Prod.fst := List.mem_of_getElem? hg2
      refine ⟨_, rfl, y, so, ms, n, _, _, rfl, rfl, e78 _ _ hms7, M8, hM7.ext e78, gen_mul wfs go mem1 mem2, _, rfl, iteF ?_⟩
      exact ⟨_, _, _, rfl, Exb.trans x47 (Ext.exb e78), hp7.ext e78⟩
    rintro σ H5 ⟨v7, v8, v9, rfl, x5, hp5⟩
    have hms5 := x5 _ _ hms nso
    have hM5 := hM.exb hps4 x5
    have F5 := (Fm.ext e04).exb hps4 x5
    refine ⟨_, rfl, _, rfl, _, rfl, _, rfl, so, _, rfl, Or.inl (Or.inl (Or.inl hms5)), p, ms.length, by rw [List.length_map], hp5, by omega, by omega, fun r1 H6 hr1 hp6 x6 nn6 => ?_⟩
    obtain ⟨ps5, hps5⟩ := hp5.is
    have hms6 := x6 _ _ hms5 nso
    refine ⟨so, _, r1, .ref ms[r1], rfl, rfl, Or.inl (Or.inl hms6), atI_nat (get_refs (List.getElem?_eq_getElem hr1)), ?_⟩
    have hM6 := hM5.exb hps5 x6
    have F6 := F5.exb hps5 x6
    obtain ⟨g1, hg1, M1⟩ := hM6.2 r1 _ (List.getElem?_eq_getElem hr1)
    obtain ⟨wd, hwd, rfl⟩ := (gen_mem wfs go g1).mp (List.mem_of_getElem? hg1)
    refine mk_fam2 (K := K) (ps := [ms[r1]]) (fs := [prd n fs wd]) (MapsAt.one M1) (Nat.le_refl _) (by show 1 ≤ 10; decide) (fun y0 H7 hy0 e7 Fy => ?_)
    have F7 := F6.ext e7
    obtain ⟨dx, tx, psx, o1, _⟩ := F7.ob
    obtain ⟨dy, ty, psy, o2, _⟩ := Fy.ob
    refine ⟨f, y0, dx, dy, _, _, rfl, rfl, o1, o2, f, y0, n, _, _, rfl, F7, Fy, by show fs.length + 1 ≤ 10; omega, fun wi H8 hwi e8 Fw => ?_⟩
    have e68 := Ext.trans e7 e8
    have F8 := F7.ext e8
    have hms8 := e68 _ _ hms6
    have hM8 := hM6.ext e68
    have hp8 := hp6.ext e68
    have x08 : Exb p H H8 := Exb.trans (Ext.exb e04) (Exb.trans x5 (Exb.trans x6 (Ext.exb e68)))
    clear hms5 hM5 F5 hms6 hM6 F6 F7 hp6 hp5 x5 x6 e7 e8 e68 hps5 hp4 hps4 hM hms e04 e03 e02 e01
    refine ⟨outO K n, finO K H8 n (fs ++ [prd n fs wd]), ⟨_, rfl, wi, n, _, _, rfl, Fw, hn4, tells_ones⟩, ?_, ?_⟩
    · rintro ys v H1 ⟨t, g, w, rfl, m, wa, h1, h2, h3⟩
      exact ⟨t, _, _, rfl, h1, _, rfl, fun _ _ z => z, t, m, wa, rfl, h1, rfl⟩
    rintro ys H9 ⟨qs, M, e89, rfl, hN, go', few'⟩ hle' fo hfo
    obtain ⟨gw1, gw2⟩ := gen_wide wfs hwd go go'
    have eF := Ext.upd (o := .lst (refs qs)) hfo
    have hF : (upd H9 fo (.lst (refs qs))) fo = some (.lst (refs qs)) := upd_same
    have hN := hN.ext eF
    have e810 := Ext.trans e89 eF
    clear eF hfo
    generalize upd H9 fo (.lst (refs qs)) = H10 at hF hN e810
    have hqM : qs.length = M.length := by rw [hN.1, List.length_map]
    have hms10 := e810 _ _ hms8
    have hM10 := hM8.ext e810
    refine ⟨_, rfl, fo, _, rfl, Or.inl (Or.inl (Or.inl hF)), _, rfl, so, _, rfl, Or.inl (Or.inl (Or.inl hms10)), rfl, _, rfl, ?_⟩
    refine iteNS (by rw [List.length_map, List.length_map, hqM, hML, gw1]) ?_
    refine ⟨_, rfl, fo, rfl, ⟨_, Or.inl (Or.inl hF)⟩, fun D hD => ?_⟩
    refine lc_it (walk_list (xs := refs qs)) (fun i H11 => Ext H10 H11 ∧ H11 D = some (.lst [])) ⟨Ext.upd hD, upd_same⟩ (fun i H11 _ ⟨e, _⟩ => Or.inl (Or.inl (e _ _ hF))) ?_ ?_
    · rintro i y H11 H12 hi ⟨e11, hD11⟩ ⟨rfl, hy⟩
      obtain ⟨q, rfl, hq⟩ := refs_get hy
      obtain ⟨g, hg, Mg⟩ := (hN.ext e11).2 i q hq
      refine ⟨rfl, _, rfl, _, rfl, q, so, ms, n, g, _, rfl, rfl, e11 _ _ hms10, Mg, hM10.ext e11, gw2 g (List.mem_of_getElem? hg), _, rfl, iteF ⟨e11, hD11⟩⟩
    rintro H11 ⟨e11, hD11⟩
    refine ⟨(by show 0 ≤ sizeLine; decide), fun z hz => ?_⟩
    have eZ := Ext.upd (o := .lst []) hz
    refine ⟨D, z, [], rfl, rfl, eZ _ _ hD11, upd_same, _, rfl, iteF ?_⟩
    have e812 := Ext.trans e810 (Ext.trans e11 eZ)
    generalize upd H11 z (.lst []) = H12 at e812
    clear eZ hz hD11 e11 hD hF hN hms10 hM10 e810
    have Fw12 := Fw.ext e812
    have F12 := F8.ext e812
    refine ⟨_, rfl, n, rfl, by omega, by omega, fun D1 hD1 => ?_⟩
    refine reach_lists (n := n) (by rfl) (by decide) (by show 13 < 14; decide) hD1 Fw12 sz.2 fun H13 as1 e13 h1 LL1 => ?_
    refine ⟨_, rfl, n, rfl, by omega, by omega, fun D2 hD2 => ?_⟩
    refine reach_lists (n := n) (by rfl) (by decide) (by show 13 < 14; decide) hD2 (F12.ext e13) sz.2 fun H14 as2 e14 h2 LL2 => ?_
    have hrw : (List.range n).map (rchL n (fs ++ [prd n fs wd])) = (List.range n).map (rchL n fs) := List.map_congr_left fun x _ => (rch_wide wfs hwd x).symm
    rw [hrw] at LL1
    refine ⟨_, _, .lst (Or.inl (Or.inl (e14 _ _ h1))) (dp_lists (LL1.ext e14)), .lst (Or.inl (Or.inl h2)) (dp_lists LL2), shaped_lists _, shaped_lists _, _, rfl, ?_⟩
    rw [eqv_lists]
    refine iteF ?_
    have e1214 := Ext.trans e13 e14
    have Fw14 := Fw12.ext e1214
    have F14 := F12.ext e1214
    have e814 := Ext.trans e812 e1214
    have hn6 : n ≤ 6 := by omega
    refine ⟨_, rfl, wi, n, _, rfl, Fw14, hn6, fun v o H15 e15 ho hlo => ?_⟩
    refine ⟨_, rfl, f, n, fs, rfl, F14.ext e15, hn6, fun v' o' H16 e16 ho' hlo' => ?_⟩
    have hb : o.isNone = o'.isNone := by
      rw [Bool.eq_iff_iff, Option.isNone_iff_eq_none, Option.isNone_iff_eq_none, lose_none hlo, lose_none hlo', ← loses_wide wfs hwd]
    refine ⟨rfl, _, rfl, ?_⟩
    refine iteNS (by rw [ho.is, ho'.is, hb]) ?_
    have e1416 := Ext.trans e15 e16
    refine ⟨_, rfl, wi, n, _, rfl, Fw14.ext e1416, fun r1 as1 H17 hr1 e17 hl1 LL1 => ?_⟩
    refine ⟨_, rfl, f, n, fs, rfl, F14.ext (Ext.trans e1416 e17), fun r2 as2 H18 hr2 e18 hl2 LL2 => ?_⟩
    have horb : orbOf n (fs ++ [prd n fs wd]) = orbOf n fs := (orbs_wide wfs hwd).symm
    rw [horb] at LL1
    refine ⟨_, _, .lst (Or.inl (Or.inl (e18 _ _ hl1))) (dp_lists (LL1.ext e18)), .lst (Or.inl (Or.inl hl2)) (dp_lists LL2), shaped_lists _, shaped_lists _, _, rfl, ?_⟩
    rw [eqv_lists]
    refine iteF ?_
    have e1418 := Ext.trans e1416 (Ext.trans e17 e18)
    refine ⟨_, rfl, f, n, fs, rfl, F14.ext e1418, hn6, fun v o H19 e19 ho hho => ?_⟩
    have e819 := Ext.trans e814 (Ext.trans e1418 e19)
    have xAll := Exb.trans x08 (Ext.exb e819)
    have hp19 := hp8.ext e819
    refine ⟨_, rfl, _, rfl, ?_⟩
    rcases ho with ⟨rfl, rfl⟩ | ⟨Ps, r, as, rfl, rfl, ha, LL, hl64, hnd⟩
    · exact iteT (k H19 xAll hp19)
    · refine iteF ?_
      refine ⟨_, rfl, _, rfl, wi, r, n, _, as, Ps, rfl, Fw14.ext (Ext.trans e1418 e19), hn6, ha, LL, paper_wide wfs hwd hho.2, hnd, hl64, fun H20 e20 => ?_⟩
      exact k H20 (Exb.trans xAll (Ext.exb e20)) (hp19.ext e20)
end
end CM
-- part D24
set_option Elab.async false
set_option linter.all false
set_option maxRecDepth 100000
set_option maxHeartbeats 4000000
/-! ### the law -/
namespace CM
open PySem PySem.Spec PyProof.Rows L2 StX GenW
section
variable {P : Program} {w : World} {K : PySem.W.Frag} {mg : Str → Option Value} {base : Heap}
theorem tells_ones_at {H0 H : Hp} {n : Nat} {fs : List PF} (e0 : Ext H0 H) : Tells K n fs H (outO K n) (finO K H0 n fs) (fun ys L H' => ∃ ms, ys = refs ms ∧ MapsAt K H' n ms (L.map Prod.fst)) :=
  ⟨tells_ones.zero (fs := fs), tells_ones.mono (fs := fs) (H := H), tells_ones.say (fs := fs) (H := H), tells_ones.back (fs := fs) (H := H), fun ys L H' e a b c d => let ⟨ms, L, e1, e2⟩ := tells_ones.done ys L H' e a b c d; ⟨ms, L, Ext.trans e0 e1, e2⟩⟩
def spLaw (K : PySem.W.Frag) : Sp := fun vs H Q _ => ∃ (sc : Addr) (xs : List Int), vs = [.ref sc] ∧ SqL K H sc (xs.map V.int) ∧ xs.length ≤ 100 ∧ ∀ H', Q (.bl true) H'
theorem sc_law : FnScope ["_law_script", "_law_k", "_law_pool", "_law_size_here", "_law_family_here", "_law_small", "_law_turn", "_law_one", "_law_word"] ["_law_script"] (defScope (top 62)) := ⟨rfl, rfl, rfl, by decide +kernel, rfl, by decide +kernel, by decide +kernel⟩
theorem ok_law (T : Txt K mg) : FnG P w K mg base 15 (He.ga K "law") (spLaw K) := by
  refine fng_by T.d_law sc_law (fun _ _ _ _ _ _ us hl => match us, hl with | [_], _ => rfl) (fun vs H Q E h => ?_) (fun cdv A outer s H vs Q E hg hr h => ?_)
  · obtain ⟨sc, xs, rfl, _⟩ := h
    rfl
  · obtain ⟨sc, xs, rfl, hsc, hxs, k⟩ := h
    have hu := hu_of hr
    refine ⟨_, (pss_cons (ps_for PassesOwn.never rfl (pi_range1 rfl T.u_range (pa_cons (pe_callB (call_max2 rfl) (by rfl) T.u_max (by decide +kernel) (pa_cons pe_int (pa_cons (pe_callB (call_min2 rfl) (by rfl) T.u_min (by decide +kernel) (pa_cons (pe_callB call_len_seq (by rfl) T.u_len (by decide +kernel) (pa_cons (pv 0) pa_nil)) (pa_cons pe_int pa_nil))) pa_nil))) pa_nil)) (pg_name (i := 1) sc_law.nd rfl (Or.inl rfl)) (pss_cons (ps_set (i := 2) sc_law.nd rfl (Or.inr rfl) (pe_fn (ok_hand T) (hr.mono (by decide)) (by rfl) T.g__law_hand T.d__law_hand.kp (pa_cons (pv 0) (pa_cons (pv 1) pa_nil))))
      (pss_cons (ps_set (i := 3) sc_law.nd rfl (Or.inr rfl) (pe_op op_add pe_int (pe_fn (ok_draw T) (hr.mono (by decide)) (by rfl) T.g__law_draw T.d__law_draw.kp (pa_cons (pv 2) (pa_cons pe_int pa_nil)))))
      (pss_cons (ps_set (i := 4) sc_law.nd rfl (Or.inl rfl) (pe_fn (ok_famL T) (hr.mono (by decide)) (by rfl) T.g__law_family T.d__law_family.kp (pa_cons (pe_lc (own := [("_law_turn", 6)]) (g := gName 6) (tt := tYes) rfl sc_law.nd (pi_range1 rfl T.u_range (pa_cons (pe_op op_add pe_int (pe_fn (ok_draw T) (hr.mono (by decide)) (by rfl) T.g__law_draw T.d__law_draw.kp (pa_cons (pv 2) (pa_cons pe_int pa_nil)))) pa_nil)) (blkOk_by (own := [("_law_turn", 6)]) (N := ["_law_script", "_law_k", "_law_pool", "_law_size_here", "_law_family_here", "_law_small", "_law_turn", "_law_one", "_law_word"]) (sc := defScope (top 62)) (by decide +kernel)) (fun _ _ _ _ _ => (pg_name (i := 6) sc_law.nd rfl (Or.inl rfl))) (fun _ _ _ _ _ => pts_nil) (fun _ _ _ _ _ => pe_mkR T.k_Map (ok_minit T) (hr.mono (by decide)) (by rfl) T.g_Map (pa_cons (pv 3) (pa_cons (pe_fn (ok_arrowsL T) (hr.mono (by decide)) (by rfl) T.g__law_arrows T.d__law_arrows.kp (pa_cons (pv 2) (pa_cons (pv 3) pa_nil))) pa_nil))) (fun _ => rfl)) pa_nil)))
      (pss_cons (ps_if (pt_not (pt_val (pe_fn (ok_invR T) (hr.mono (by decide)) (by rfl) T.g__law_inverse_right T.d__law_inverse_right.kp (pa_cons (pv 2) (pa_cons (pv 4) (pa_cons (pv 3) pa_nil)))))) (pss_never (X := _)) pss_nil)
      (pss_cons (ps_set (i := 5) sc_law.nd rfl (Or.inr rfl) (pe_op op_add pe_int (pe_fn (ok_draw T) (hr.mono (by decide)) (by rfl) T.g__law_draw T.d__law_draw.kp (pa_cons (pv 2) (pa_cons pe_int pa_nil)))))
      (pss_cons (ps_set (i := 4) sc_law.nd rfl (Or.inl rfl) (pe_fn (ok_famL T) (hr.mono (by decide)) (by rfl) T.g__law_family T.d__law_family.kp (pa_cons (pe_lc (own := [("_law_turn", 6)]) (g := gName 6) (tt := tYes) rfl sc_law.nd (pi_range1 rfl T.u_range (pa_cons (pe_op op_add pe_int (pe_fn (ok_draw T) (hr.mono (by decide)) (by rfl) T.g__law_draw T.d__law_draw.kp (pa_cons (pv 2) (pa_cons pe_int pa_nil)))) pa_nil)) (blkOk_by (own := [("_law_turn", 6)]) (N := ["_law_script", "_law_k", "_law_pool", "_law_size_here", "_law_family_here", "_law_small", "_law_turn", "_law_one", "_law_word"]) (sc := defScope (top 62)) (by decide +kernel)) (fun _ _ _ _ _ => (pg_name (i := 6) sc_law.nd rfl (Or.inl rfl))) (fun _ _ _ _ _ => pts_nil) (fun _ _ _ _ _ => pe_mkR T.k_Map (ok_minit T) (hr.mono (by decide)) (by rfl) T.g_Map (pa_cons (pv 5) (pa_cons (pe_fn (ok_arrowsL T) (hr.mono (by decide)) (by rfl) T.g__law_arrows T.d__law_arrows.kp (pa_cons (pv 2) (pa_cons (pv 5) pa_nil))) pa_nil))) (fun _ => rfl)) pa_nil)))
      (pss_cons (ps_if (pt_not (pt_val (pe_fnG (ok_more T) hg (hr.mono (by decide)) (by rfl) T.g__law_more_right T.d__law_more_right.kp (pa_cons (pv 2) (pa_cons (pv 4) (pa_cons (pv 5) pa_nil)))))) (pss_never (X := _)) pss_nil)
      (pss_one (ps_if (pt_cmpR op_ne (pe_callB call_len_seq (by rfl) T.u_len (by decide +kernel) (pa_cons (pe_glc (k := 12) (i := 7) (j := 8) (own := [("_law_one", 7), ("_law_word", 8)]) rfl hg (hr.mono (by decide)) sc_law.nd (pgj_call (ok_gen T) (hr.mono (by decide)) (by rfl) T.g_generated T.d_generated.kp (pa_cons (pv 4) pa_nil)) (blkOk_by (own := [("_law_one", 7), ("_law_word", 8)]) (N := ["_law_script", "_law_k", "_law_pool", "_law_size_here", "_law_family_here", "_law_small", "_law_turn", "_law_one", "_law_word"]) (sc := defScope (top 62)) (by decide +kernel)) (fun _ => rfl) rfl rfl rfl rfl (by decide) (by decide) (fun _ _ _ _ => peg_var (i := 7) rfl rfl) (fun _ => rfl)) pa_nil)) (pe_callB call_len_seq (by rfl) T.u_len (by decide +kernel) (pa_cons (pe_glc (k := 12) (i := 7) (j := 8) (own := [("_law_one", 7), ("_law_word", 8)]) rfl hg (hr.mono (by decide)) sc_law.nd (pgj_call (ok_gen T) (hr.mono (by decide)) (by rfl) T.g_generated T.d_generated.kp (pa_cons (pe_un (un_own T.m_fInv.1 T.m_fInv.2 (ok_finv T) (hr.mono (by decide))) (pv 4)) pa_nil)) (blkOk_by (own := [("_law_one", 7), ("_law_word", 8)]) (N := ["_law_script", "_law_k", "_law_pool", "_law_size_here", "_law_family_here", "_law_small", "_law_turn", "_law_one", "_law_word"]) (sc := defScope (top 62)) (by decide +kernel)) (fun _ => rfl) rfl rfl rfl rfl (by decide) (by decide) (fun _ _ _ _ => peg_var (i := 7) rfl rfl) (fun _ => rfl)) pa_nil)) (nomark _)) (pss_never (X := _)) pss_nil))))))))))
      (pss_one (ps_ret pe_bl))), ?_⟩
    have szl : ∀ {k : Nat}, k ≤ 700 → k < sizeLine := fun h => Nat.lt_of_le_of_lt h (by decide)
    refine ⟨_, rfl, sc, _, rfl, Or.inl hsc, _, _, rfl, _, _, rfl, ?_⟩
    obtain ⟨m, hm, hm5⟩ : ∃ m : Nat, (if (if (5 : Int) < ((xs.map V.int).length : Nat) then (5 : Int) else ((xs.map V.int).length : Nat)) > 2 then (if (5 : Int) < ((xs.map V.int).length : Nat) then (5 : Int) else ((xs.map V.int).length : Nat)) else (2 : Int)) = (m : Int) ∧ m ≤ 5 := by
      generalize ((xs.map V.int).length : Int) = z
      by_cases c1 : (5 : Int) < z
      · rw [if_pos c1]
        exact ⟨5, by simp, by omega⟩
      · rw [if_neg c1]
        by_cases c2 : z > 2
        · rw [if_pos c2]
          exact ⟨z.toNat, by omega, by omega⟩
        · rw [if_neg c2]
          exact ⟨2, rfl, by omega⟩
    rw [hm]
    refine ⟨m, rfl, by omega, by omega, ?_⟩
    refine for_it walk_range (fun i σ H2 => ∃ v1 v2 v3 v4 v5, σ = [some (.ref sc), v1, v2, v3, v4, v5, none, none, none] ∧ Ext H H2) ⟨_, _, _, _, _, rfl, fun _ _ z => z⟩ (fun _ _ _ _ _ => trivial) ?_ ?_
    · rintro i x σ Hx H2 hi ⟨v1, v2, v3, v4, v5, rfl, e2⟩ ⟨rfl, rfl⟩
      have ei : (0 : Int) + (i : Nat) = (i : Int) := by omega
      show gName 1 (V.int ((0 : Int) + (i : Nat))) _ _ _
      rw [ei]
      have him : i < m := by
        have : i < (m : Int).toNat := hi
        omega
      refine ⟨_, rfl, _, rfl, sc, i, xs, rfl, hsc.ext e2, by omega, hxs, fun p H3 hp0 e3 hp3 => ?_⟩
      have hp00 : H p = none := Ext.none e2 hp0
      have e03 := Ext.trans e2 e3
      refine ⟨_, rfl, p, 6, rfl, hp3, by decide, by decide, fun r0 H4 hr0 hp4 x4 nn4 => ?_⟩
      have hs0 : (1 : Int) + (r0 : Int) = ((1 + r0 : Nat) : Int) := by omega
      refine ⟨1, r0, rfl, rfl, ?_⟩
      show gName 3 (V.int ((1 : Int) + (r0 : Nat))) _ _ _
      rw [hs0]
      have hn1 : 1 ≤ 1 + r0 := by omega
      have hn6 : 1 + r0 ≤ 6 := by omega
      generalize 1 + r0 = n at hn1 hn6
      refine ⟨_, rfl, p, 3, rfl, hp4, by decide, by decide, fun r1 H5 hr1 hp5 x5 nn5 => ⟨1, r1, rfl, rfl, ?_⟩⟩
      have hs1 : (1 : Int) + (r1 : Int) = ((1 + r1 : Nat) : Int) := by omega
      refine ⟨((1 + r1 : Nat) : Int), by rw [← hs1], by omega, by omega, fun D hD => ?_⟩
      obtain ⟨ps5, hps5⟩ := hp5.is
      have nD : D ≠ p := fun z => by rw [z, hps5] at hD; cases hD
      refine lc_it walk_range (fun j H6 => Exb p H5 H6 ∧ PoolAt H6 p ∧ ∃ ms fs, fs.length = j ∧ H6 D = some (.lst (refs ms)) ∧ MapsAt K H6 n ms fs) ⟨Ext.exb (Ext.upd hD), hp5.ext (Ext.upd hD), [], [], rfl, upd_same, MapsAt.nil⟩ (fun _ _ _ _ => trivial) ?_ ?_
      · rintro j x H6 H7 hj ⟨x6, hp6, ms, fs, hfl, hD6, hM6⟩ ⟨rfl, rfl⟩
        have hj' : j < 1 + r1 := hj
        refine ⟨rfl, yesT ⟨_, rfl, _, rfl, _, rfl, p, n, rfl, hp6, hn1, by omega, fun d l H8 hd0 hp8 x8 hdl good => ?_⟩⟩
        obtain ⟨ps6, hps6⟩ := hp6.is
        refine mk_map2 (K := K) (n := n) hdl good hn1 (by omega) (fun y H9 hy e9 My => ?_)
        have hD9 := e9 _ _ (x8 _ _ hD6 nD)
        have hM9 := (hM6.exb hps6 x8).ext e9
        refine ⟨refs ms, hD9, by rw [List.length_map, hM6.1, hfl]; exact szl (by omega), Exb.mut (Exb.trans x6 (Exb.trans x8 (Ext.exb e9))) hD, ?_, ms ++ [y], fs ++ [pf l], by rw [List.length_append, hfl]; rfl, by rw [upd_same]; simp, ?_⟩
        · obtain ⟨a, b, q1, q2, q3, q4⟩ := hp8.ext e9
          exact ⟨a, b, q1, q2, q3, by rw [upd_ne (Ne.symm nD)]; exact q4⟩
        · have kq : ∀ {p' : Addr} {g : PF}, MapAt (cM K) H9 p' n g → MapAt (cM K) (upd H9 D (.lst (refs ms ++ [.ref y]))) p' n g := fun M => mapAt_lst M hD9
          exact MapsAt.snoc ⟨hM9.1, fun j q hq => let ⟨g, g1, g2⟩ := hM9.2 j q hq; ⟨g, g1, kq g2⟩⟩ (kq My)
      rintro H6 ⟨x6, hp6, ms, fs, hfl, hD6, hM6⟩
      have hfl : fs.length = 1 + r1 := hfl
      refine ⟨D, n, ms, fs, rfl, hD6, hM6, by omega, by omega, fun fm H7 hfm e7 Fm => ?_⟩
      have hp7 := hp6.ext e7
      refine ⟨_, rfl, _, rfl, _, rfl, p, fm, n, fs, rfl, hp7, Fm, hn6, fun H8 x8 hp8 => ?_⟩
      have x38 : Exb p H3 H8 := Exb.trans x4 (Exb.trans x5 (Exb.trans x6 (Exb.trans (Ext.exb e7) x8)))
      refine ⟨_, rfl, ?_⟩
      refine iteF ?_
      clear hM6 hD6 hD nD hp7 hp6 x6 Fm e7 hfm hps5 hp5 x5
      have hp3' := hp3
      refine ⟨_, rfl, p, 4, rfl, hp8, by decide, by decide, fun r2 H9 hr2 hp9 x9 nn9 => ?_⟩
      have hs2 : (1 : Int) + (r2 : Int) = ((1 + r2 : Nat) : Int) := by omega
      refine ⟨1, r2, rfl, rfl, ?_⟩
      show gName 5 (V.int ((1 : Int) + (r2 : Nat))) _ _ _
      rw [hs2]
      have hk1 : 1 ≤ 1 + r2 := by omega
      have hk4 : 1 + r2 ≤ 4 := by omega
      generalize 1 + r2 = n2 at hk1 hk4
      refine ⟨_, rfl, p, 2, rfl, hp9, by decide, by decide, fun r3 H10 hr3 hp10 x10 nn10 => ⟨1, r3, rfl, rfl, ?_⟩⟩
      have hs3 : (1 : Int) + (r3 : Int) = ((1 + r3 : Nat) : Int) := by omega
      refine ⟨((1 + r3 : Nat) : Int), by rw [← hs3], by omega, by omega, fun D hD => ?_⟩
      obtain ⟨ps10, hps10⟩ := hp10.is
      have nD : D ≠ p := fun z => by rw [z, hps10] at hD; cases hD
      refine lc_it walk_range (fun j H11 => Exb p H10 H11 ∧ PoolAt H11 p ∧ ∃ ms fs, fs.length = j ∧ H11 D = some (.lst (refs ms)) ∧ MapsAt K H11 n2 ms fs) ⟨Ext.exb (Ext.upd hD), hp10.ext (Ext.upd hD), [], [], rfl, upd_same, MapsAt.nil⟩ (fun _ _ _ _ => trivial) ?_ ?_
      · rintro j x H6 H7 hj ⟨x6, hp6, ms, fs, hfl, hD6, hM6⟩ ⟨rfl, rfl⟩
        have hj' : j < 1 + r3 := hj
        refine ⟨rfl, yesT ⟨_, rfl, _, rfl, _, rfl, p, n2, rfl, hp6, hk1, by omega, fun d l H8 hd0 hp8 x8 hdl good => ?_⟩⟩
        obtain ⟨ps6, hps6⟩ := hp6.is
        refine mk_map2 (K := K) (n := n2) hdl good hk1 (by omega) (fun y H9 hy e9 My => ?_)
        have hD9 := e9 _ _ (x8 _ _ hD6 nD)
        have hM9 := (hM6.exb hps6 x8).ext e9
        refine ⟨refs ms, hD9, by rw [List.length_map, hM6.1, hfl]; exact szl (by omega), Exb.mut (Exb.trans x6 (Exb.trans x8 (Ext.exb e9))) hD, ?_, ms ++ [y], fs ++ [pf l], by rw [List.length_append, hfl]; rfl, by rw [upd_same]; simp, ?_⟩
        · obtain ⟨a, b, q1, q2, q3, q4⟩ := hp8.ext e9
          exact ⟨a, b, q1, q2, q3, by rw [upd_ne (Ne.symm nD)]; exact q4⟩
        · have kq : ∀ {p' : Addr} {g : PF}, MapAt (cM K) H9 p' n2 g → MapAt (cM K) (upd H9 D (.lst (refs ms ++ [.ref y]))) p' n2 g := fun M => mapAt_lst M hD9
          exact MapsAt.snoc ⟨hM9.1, fun j q hq => let ⟨g, g1, g2⟩ := hM9.2 j q hq; ⟨g, g1, kq g2⟩⟩ (kq My)
      rintro H11 ⟨x11, hp11, ms2, gs, hgl, hD11, hM11⟩
      have hgl : gs.length = 1 + r3 := hgl
      refine ⟨D, n2, ms2, gs, rfl, hD11, hM11, by omega, by omega, fun fm2 H12 hfm e12 Fm => ?_⟩
      have hp12 := hp11.ext e12
      refine ⟨_, rfl, _, rfl, _, rfl, p, fm2, n2, gs, rfl, hp12, Fm, hk4, by omega, fun H13 x13 hp13 => ?_⟩
      refine ⟨_, rfl, ?_⟩
      refine iteF ?_
      obtain ⟨ps12, hps12⟩ := hp12.is
      have F13 := Fm.exb hps12 x13
      have wfs := F13.wfs
      have x313 : Exb p H3 H13 := Exb.trans x38 (Exb.trans x9 (Exb.trans x10 (Exb.trans x11 (Exb.trans (Ext.exb e12) x13))))
      have e013 : Ext H H13 := fun c o hc => x313 c o (e03 c o hc) (ne_of_none hc hp00)
      refine ⟨outO K n2, finO K H13 n2 gs, ⟨_, rfl, fm2, n2, gs, _, rfl, F13, hk4, tells_ones⟩, ?_, ?_⟩
      · rintro ys v H1 ⟨t, g, w, rfl, m, wa, h1, h2, h3⟩
        exact ⟨t, _, _, rfl, h1, _, rfl, fun _ _ z => z, t, m, wa, rfl, h1, rfl⟩
      rintro ys H14 ⟨ms, L, e14, rfl, hM, go, few⟩ hle l1 hl1
      have eL1 := Ext.upd (o := .lst (refs ms)) hl1
      have hL1 : (upd H14 l1 (.lst (refs ms))) l1 = some (.lst (refs ms)) := upd_same
      have e1315 := Ext.trans e14 eL1
      refine ⟨l1, _, rfl, Or.inl (Or.inl (Or.inl hL1)), ?_⟩
      generalize upd H14 l1 (.lst (refs ms)) = H15 at e1315 hL1
      have F15 := F13.ext e1315
      obtain ⟨dx, tx, psx, ob, _⟩ := F15.ob
      refine ⟨outO K n2, finO K H15 n2 (invs n2 gs), ⟨_, rfl, fm2, dx, _, rfl, ob, fm2, n2, gs, rfl, F15, fun bk H16 hbk e16 FB => ⟨bk, n2, _, _, rfl, FB, hk4, tells_ones_at e16⟩⟩, ?_, ?_⟩
      · rintro ys v H1 ⟨t, g, w, rfl, m, wa, h1, h2, h3⟩
        exact ⟨t, _, _, rfl, h1, _, rfl, fun _ _ z => z, t, m, wa, rfl, h1, rfl⟩
      rintro ys H17 ⟨ms', M, e17, rfl, hM', go', few'⟩ hle' l2 hl2
      have eL2 := Ext.upd (o := .lst (refs ms')) hl2
      refine ⟨l2, _, rfl, Or.inl (Or.inl (Or.inl upd_same)), rfl, _, rfl, ?_⟩
      have hml : (refs ms).length = (refs ms').length := by
        rw [List.length_map, List.length_map, hM.1, hM'.1, List.length_map, List.length_map]
        exact gen_inv wfs go go'
      refine iteNS (by rw [hml]) ?_
      exact ⟨_, _, _, _, _, rfl, Ext.trans e013 (Ext.trans e1315 (Ext.trans e17 eL2))⟩
    · rintro σ H2 ⟨v1, v2, v3, v4, v5, rfl, e2⟩
      exact k H2
end
end CM
-- part H1
set_option Elab.async false
set_option linter.all false
set_option maxRecDepth 100000
set_option maxHeartbeats 4000000
/-! ### a Hook of our own: defs by any address, facts by Bools (printed by gen_h1.py) -/
namespace CM
open PySem PySem.Spec PyProof.Rows L2
/-- a def: its address, its names, its statement -/
structure DefA where
  ad : PySem.W.Frag → Addr
  name : Str
  qual : Str
  st : Stmt
def fnA (K : PySem.W.Frag) (a : Addr) : He.FnW := match K.lookup a with
  | some ⟨_, _, .func fd, _⟩ => some (fd.name, fd.qualname, fd.params, fd.body, fd.scope, fd.globals, fd.closure, fd.builtins)
  | _ => none
def DefA.val (d : DefA) : He.FnW := some (d.name, d.qual, defArgs d.st, .stmts (defBody d.st), defScope d.st, mainGlobals, [], builtinsNs)
def DefA.ok (K : PySem.W.Frag) (d : DefA) : Bool := PySem.W.keepIn K (.ref (d.ad K)) && (match K.lookup (d.ad K) with
  | some ⟨_, _, .func fd, _⟩ => PySem.W.codeIn K fd.code d.qual && (He.dflB K fd.defaults [] && He.kwdB K fd.kwdefaults [])
  | _ => false)
theorem DefA.hasD {K : PySem.W.Frag} {d : DefA} (e : fnA K (d.ad K) = d.val) (c : d.ok K = true) : HasD K d.name d.qual d.st (d.ad K) := by
  obtain ⟨kp, c2⟩ := He.ba c
  unfold fnA at e
  cases q : K.lookup (d.ad K) with
  | none =>
    rw [q] at c2
    cases c2
  | some o =>
    obtain ⟨oc, od, dt, osl⟩ := o
    rw [q] at c2 e
    cases dt with
    | func fd =>
      obtain ⟨n1, n2, n3, n4, n5, n6, n7, n8, n9, n10, n11, n12, n13, n14, n15⟩ := fd
      have e2 : (some (n1, n2, n3, n4, n5, n6, n7, n15) : He.FnW) = some (d.name, d.qual, defArgs d.st, .stmts (defBody d.st), defScope d.st, mainGlobals, [], builtinsNs) := e
      simp only [Option.some.injEq, Prod.mk.injEq] at e2
      obtain ⟨h1, h2, h3, h4, h5, h6, h7, h8⟩ := e2
      subst h1 h2 h3 h4 h5 h6 h7 h8
      obtain ⟨k1, k2⟩ := He.ba (show (PySem.W.codeIn K n13 d.qual && (He.dflB K n8 [] && He.kwdB K n9 [])) = true from c2)
      obtain ⟨k3, k4⟩ := He.ba k2
      exact ⟨_, ⟨oc, od, n8, n9, n10, n11, n12, n13, n14, osl, rfl, q, k1, He.dflB_ok k3, He.kwdB_ok k4⟩, kp⟩
    | _ => cases c2
/-- a record of a property, a classmethod: its first part is an object -/
def recB (K : PySem.W.Frag) (p : Addr) (T : String) : Bool := match PySem.W.recIn K p T with
  | some (.ref _ :: _) => true
  | _ => false
def propB (K : PySem.W.Frag) (C : Addr) (m : Str) : Bool := He.eqO (PySem.W.findIn K (.ref C) m) (some (some (.ref (pAt K C m)))) && (He.eqO (PySem.W.specialIn K (.ref (pAt K C m)) "__get__") (some (some (.builtin "property.__get__"))) &&
  (decide (PySem.W.takesIn K (.ref (pAt K C m)) = some true) && recB K (pAt K C m) "property"))
theorem propB_ok {K : PySem.W.Frag} {C : Addr} {m : Str} (c : propB K C m = true) : PropOf K C m (pAt K C m) (pFn K C m) := by
  obtain ⟨c1, c⟩ := He.ba c
  obtain ⟨c2, c⟩ := He.ba c
  obtain ⟨c3, c4⟩ := He.ba c
  refine ⟨He.eqO_ok c1, He.eqO_ok c2, of_decide_eq_true c3, ?_⟩
  unfold recB at c4
  unfold pFn
  split at c4
  · rename_i g rest h
    rw [h]
    exact ⟨rest, rfl⟩
  · cases c4
def gotB (p C : Addr) : Option PySem.W.CFound → Bool
  | some (.get (.builtin s) (.ref p') .none (.ref C')) => decide (s = "classmethod.__get__") && (decide (p' = p) && decide (C' = C))
  | _ => false
def cmetB (K : PySem.W.Frag) (C : Addr) (m : Str) : Bool := gotB (pAt K C m) C (PySem.W.findCls K (.ref C) (.type "type") m) && (recB K (pAt K C m) "classmethod" && PySem.W.fnIn K (cFn K C m))
theorem cmetB_ok {K : PySem.W.Frag} {C : Addr} {m : Str} (c : cmetB K C m = true) : ClX.CMet K C (.type "type") m (pAt K C m) (cFn K C m) := by
  obtain ⟨c1, c⟩ := He.ba c
  obtain ⟨c2, c3⟩ := He.ba c
  refine ⟨?_, ?_, c3⟩
  · unfold gotB at c1
    split at c1
    · rename_i s p' C' h
      obtain ⟨d1, d2⟩ := He.ba c1
      obtain ⟨d3, d4⟩ := He.ba d2
      rw [h, of_decide_eq_true d1, of_decide_eq_true d3, of_decide_eq_true d4]
    · cases c1
  · unfold recB at c2
    unfold cFn
    split at c2
    · rename_i g rest h
      rw [h]
      exact ⟨rest, rfl⟩
    · cases c2
def insB (K : PySem.W.Frag) (C : Addr) : Bool := He.eqO (PySem.W.findIn K (.ref C) "__class__") (some (some (.builtin "object.__class__"))) && (He.eqO (PySem.W.specialIn K (.builtin "object.__class__") "__get__") (some (some (.builtin "getset_descriptor.__get__"))) &&
  (decide (PySem.W.takesIn K (.builtin "object.__class__") = some true) && (decide (PySem.W.mroIn K C (.type "object") = some true) && decide (PySem.W.kitOne K (.ref C) (.ref C) = some true))))
theorem insB_ok {K : PySem.W.Frag} {C : Addr} (h : Cls K C) (c : insB K C = true) : C8.InsC K C := by
  obtain ⟨c1, c⟩ := He.ba c
  obtain ⟨c2, c⟩ := He.ba c
  obtain ⟨c3, c⟩ := He.ba c
  obtain ⟨c4, c5⟩ := He.ba c
  exact ⟨h, He.eqO_ok c1, He.eqO_ok c2, of_decide_eq_true c3, of_decide_eq_true c4, of_decide_eq_true c5⟩
def creadB (K : PySem.W.Frag) (C : Addr) : Bool := PySem.W.readsIn K C (.type "type") && He.eqO (PySem.W.specialIn K (.ref C) "__getattribute__") (some (some (.builtin "type.__getattribute__")))
theorem creadB_ok {K : PySem.W.Frag} {C : Addr} (c : creadB K C = true) : ClX.CRead K C (.type "type") := let ⟨c1, c2⟩ := He.ba c; ⟨c1, He.eqO_ok c2⟩
def calloB (K : PySem.W.Frag) (C : Addr) : Bool := He.eqO (PySem.W.findIn K (.ref C) "__call__") (some (some (.ref (He.ma K C "__call__")))) && (PySem.W.isFn K (.ref (He.ma K C "__call__")) && PySem.W.fnIn K (He.ma K C "__call__"))
theorem calloB_ok {K : PySem.W.Frag} {C : Addr} (c : calloB K C = true) : StX.CallO K C (He.ma K C "__call__") := by
  obtain ⟨c1, c⟩ := He.ba c
  obtain ⟨c2, c3⟩ := He.ba c
  exact ⟨He.eqO_ok c1, c2, c3⟩
/-! the Hook -/
abbrev AlA : Type := Bool × List He.FnW
def obsA (fb : PySem.W.Frag → Bool) (fn : List DefA) (K : PySem.W.Frag) : AlA := (fb K && fn.all fun d => d.ok K, fn.map fun d => fnA K (d.ad K))
def valA (fn : List DefA) : AlA := (true, fn.map DefA.val)
def obsAG (n : Nat) (fb : PySem.W.Frag → Bool) (fn : List DefA) (g : Addr → Option Obj) : AlA := obsA fb fn (He.frG g (cStatics :: He.asD g n))
def hookA (n : Nat) (fb : PySem.W.Frag → Bool) (fn : List DefA) : PySem.W.Hook where
  α := AlA
  obs := fun s => obsAG n fb fn s.heap.get?
  val := fun _ => valA fn
  says := fun _ h => ∃ K : PySem.W.Frag, K.In h ∧ obsA fb fn K = valA fn
  of := fun _ _ e => ⟨_, He.frG_in, e⟩
  keeps := fun _ _ _ ⟨K, hK, c⟩ k => ⟨K, PySem.W.Frag.In.keeps hK k, c⟩
theorem obsAG_eq {n : Nat} {fb : PySem.W.Frag → Bool} {fn : List DefA} {g : Addr → Option Obj} {s : Shared} (h : ∀ a, g a = s.heap.get? a) : obsAG n fb fn g = (hookA n fb fn).obs s := by
  have e : g = s.heap.get? := funext h
  rw [e]
  rfl
theorem saysA_fb {fb : PySem.W.Frag → Bool} {fn : List DefA} {K : PySem.W.Frag} (c : obsA fb fn K = valA fn) : fb K = true := (He.ba (show (fb K && fn.all fun d => d.ok K) = true from congrArg (fun z : AlA => z.1) c)).1
theorem saysA_def {fb : PySem.W.Frag → Bool} {fn : List DefA} {K : PySem.W.Frag} (c : obsA fb fn K = valA fn) (i : Nat) {d : DefA} (h : fn[i]? = some d) : HasD K d.name d.qual d.st (d.ad K) := by
  have c2 := (He.ba (show (fb K && fn.all fun d => d.ok K) = true from congrArg (fun z : AlA => z.1) c)).2
  have e : fn.map (fun d => fnA K (d.ad K)) = fn.map DefA.val := congrArg (fun z : AlA => z.2) c
  have e2 : (fn.map fun d => fnA K (d.ad K))[i]? = (fn.map DefA.val)[i]? := by rw [e]
  rw [List.getElem?_map, List.getElem?_map, h] at e2
  exact DefA.hasD (Option.some.inj e2) (List.all_eq_true.mp c2 d (List.mem_of_getElem? h))
def theDefs : List DefA := [
  ⟨fun K => He.ga K "is_integer", "is_integer", "is_integer", (top 14)⟩,
  ⟨fun K => He.ga K "in_range", "in_range", "in_range", (top 15)⟩,
  ⟨fun K => He.ga K "check_size", "check_size", "check_size", (top 16)⟩,
  ⟨fun K => He.ga K "check_elements", "check_elements", "check_elements", (top 17)⟩,
  ⟨fun K => He.ga K "are_arrows", "are_arrows", "are_arrows", (top 18)⟩,
  ⟨fun K => He.ga K "common_size", "common_size", "common_size", (top 19)⟩,
  ⟨fun K => He.ga K "is_part", "is_part", "is_part", (top 23)⟩,
  ⟨fun K => He.ga K "check_map", "check_map", "check_map", (top 25)⟩,
  ⟨fun K => He.ga K "check_all", "check_all", "check_all", (top 27)⟩,
  ⟨fun K => He.ga K "product", "product", "product", (top 29)⟩,
  ⟨fun K => He.ga K "places_after", "places_after", "places_after", (top 30)⟩,
  ⟨fun K => He.ga K "check_many", "check_many", "check_many", (top 36)⟩,
  ⟨fun K => He.ga K "made", "made", "made", (top 38)⟩,
  ⟨fun K => He.ga K "check_word", "check_word", "check_word", (top 39)⟩,
  ⟨fun K => He.ga K "check_family", "check_family", "check_family", (top 40)⟩,
  ⟨fun K => He.ga K "first_words", "first_words", "first_words", (top 41)⟩,
  ⟨fun K => He.ga K "reached", "reached", "reached", (top 42)⟩,
  ⟨fun K => He.ga K "path", "path", "path", (top 43)⟩,
  ⟨fun K => He.ga K "orbits", "orbits", "orbits", (top 44)⟩,
  ⟨fun K => He.ga K "key_of", "key_of", "key_of", (top 45)⟩,
  ⟨fun K => He.ga K "generated", "generated", "generated", (top 46)⟩,
  ⟨fun K => He.ga K "walked", "walked", "walked", (top 47)⟩,
  ⟨fun K => He.ga K "image_of", "image_of", "image_of", (top 48)⟩,
  ⟨fun K => He.ga K "searched", "searched", "searched", (top 49)⟩,
  ⟨fun K => He.ga K "losing_word", "losing_word", "losing_word", (top 50)⟩,
  ⟨fun K => He.ga K "holding_sets", "holding_sets", "holding_sets", (top 51)⟩,
  ⟨fun K => He.ga K "is_set", "is_set", "is_set", (top 52)⟩,
  ⟨fun K => He.ga K "is_holding", "is_holding", "is_holding", (top 53)⟩,
  ⟨fun K => He.ga K "_law_hand", "_law_hand", "_law_hand", (top 55)⟩,
  ⟨fun K => He.ga K "_law_draw", "_law_draw", "_law_draw", (top 56)⟩,
  ⟨fun K => He.ga K "_law_arrows", "_law_arrows", "_law_arrows", (top 57)⟩,
  ⟨fun K => He.ga K "_law_family", "_law_family", "_law_family", (top 58)⟩,
  ⟨fun K => He.ga K "_law_size", "_law_size", "_law_size", (top 59)⟩,
  ⟨fun K => He.ga K "_law_inverse_right", "_law_inverse_right", "_law_inverse_right", (top 60)⟩,
  ⟨fun K => He.ga K "_law_more_right", "_law_more_right", "_law_more_right", (top 61)⟩,
  ⟨fun K => He.ga K "law", "law", "law", (top 62)⟩,
  ⟨fun K => He.ma K (cM K) "__init__", "__init__", "Map.__init__", (inMap 0)⟩,
  ⟨fun K => He.ma K (cM K) "__mul__", "__mul__", "Map.__mul__", (inMap 8)⟩,
  ⟨fun K => He.ma K (cM K) "__invert__", "__invert__", "Map.__invert__", (inMap 9)⟩,
  ⟨fun K => He.ma K (cM K) "__le__", "__le__", "Map.__le__", (inMap 15)⟩,
  ⟨fun K => He.ma K (cM K) "__eq__", "__eq__", "Map.__eq__", (inMap 25)⟩,
  ⟨fun K => He.ma K (cM K) "__repr__", "__repr__", "Map.__repr__", (inMap 26)⟩,
  ⟨fun K => He.ma K (cF K) "__init__", "__init__", "Family.__init__", (inFam 1)⟩,
  ⟨fun K => He.ma K (cF K) "__call__", "__call__", "Family.__call__", (inFam 4)⟩,
  ⟨fun K => He.ma K (cF K) "__add__", "__add__", "Family.__add__", (inFam 5)⟩,
  ⟨fun K => He.ma K (cF K) "__invert__", "__invert__", "Family.__invert__", (inFam 6)⟩,
  ⟨fun K => He.ma K (cF K) "__len__", "__len__", "Family.__len__", (inFam 8)⟩,
  ⟨fun K => pFn K (cM K) "size", "size", "Map.size", (inMap 6)⟩,
  ⟨fun K => pFn K (cM K) "arrows", "arrows", "Map.arrows", (inMap 7)⟩,
  ⟨fun K => pFn K (cF K) "maps", "maps", "Family.maps", (inFam 2)⟩,
  ⟨fun K => pFn K (cF K) "size", "size", "Family.size", (inFam 3)⟩,
  ⟨fun K => cFn K (cM K) "identity", "identity", "Map.identity", (inMap 1)⟩]
def theFacts : List (PySem.W.Frag → Bool) := [
  fun K => (He.Fa.glo "is_integer").ok K,
  fun K => (He.Fa.glo "in_range").ok K,
  fun K => (He.Fa.glo "check_size").ok K,
  fun K => (He.Fa.glo "check_elements").ok K,
  fun K => (He.Fa.glo "are_arrows").ok K,
  fun K => (He.Fa.glo "common_size").ok K,
  fun K => (He.Fa.glo "is_part").ok K,
  fun K => (He.Fa.glo "check_map").ok K,
  fun K => (He.Fa.glo "check_all").ok K,
  fun K => (He.Fa.glo "product").ok K,
  fun K => (He.Fa.glo "places_after").ok K,
  fun K => (He.Fa.glo "check_many").ok K,
  fun K => (He.Fa.glo "made").ok K,
  fun K => (He.Fa.glo "check_word").ok K,
  fun K => (He.Fa.glo "check_family").ok K,
  fun K => (He.Fa.glo "first_words").ok K,
  fun K => (He.Fa.glo "reached").ok K,
  fun K => (He.Fa.glo "path").ok K,
  fun K => (He.Fa.glo "orbits").ok K,
  fun K => (He.Fa.glo "key_of").ok K,
  fun K => (He.Fa.glo "generated").ok K,
  fun K => (He.Fa.glo "walked").ok K,
  fun K => (He.Fa.glo "image_of").ok K,
  fun K => (He.Fa.glo "searched").ok K,
  fun K => (He.Fa.glo "losing_word").ok K,
  fun K => (He.Fa.glo "holding_sets").ok K,
  fun K => (He.Fa.glo "is_set").ok K,
  fun K => (He.Fa.glo "is_holding").ok K,
  fun K => (He.Fa.glo "_law_hand").ok K,
  fun K => (He.Fa.glo "_law_draw").ok K,
  fun K => (He.Fa.glo "_law_arrows").ok K,
  fun K => (He.Fa.glo "_law_family").ok K,
  fun K => (He.Fa.glo "_law_size").ok K,
  fun K => (He.Fa.glo "_law_inverse_right").ok K,
  fun K => (He.Fa.glo "_law_more_right").ok K,
  fun K => (He.Fa.glo "law").ok K,
  fun K => (He.Fa.meth "Map" "__init__").ok K,
  fun K => (He.Fa.meth "Map" "__mul__").ok K,
  fun K => (He.Fa.meth "Map" "__invert__").ok K,
  fun K => (He.Fa.meth "Map" "__le__").ok K,
  fun K => (He.Fa.meth "Map" "__eq__").ok K,
  fun K => (He.Fa.meth "Map" "__repr__").ok K,
  fun K => (He.Fa.meth "Family" "__init__").ok K,
  fun K => (He.Fa.meth "Family" "__call__").ok K,
  fun K => (He.Fa.meth "Family" "__add__").ok K,
  fun K => (He.Fa.meth "Family" "__invert__").ok K,
  fun K => (He.Fa.meth "Family" "__len__").ok K,
  fun K => propB K (cM K) "size",
  fun K => propB K (cM K) "arrows",
  fun K => propB K (cF K) "maps",
  fun K => propB K (cF K) "size",
  fun K => cmetB K (cM K) "identity",
  fun K => (He.Fa.free "len").ok K,
  fun K => (He.Fa.free "isinstance").ok K,
  fun K => (He.Fa.free "range").ok K,
  fun K => (He.Fa.free "enumerate").ok K,
  fun K => (He.Fa.free "zip").ok K,
  fun K => (He.Fa.free "dict").ok K,
  fun K => (He.Fa.free "tuple").ok K,
  fun K => (He.Fa.free "list").ok K,
  fun K => (He.Fa.free "sorted").ok K,
  fun K => (He.Fa.free "int").ok K,
  fun K => (He.Fa.free "bool").ok K,
  fun K => (He.Fa.free "all").ok K,
  fun K => (He.Fa.free "repr").ok K,
  fun K => (He.Fa.free "min").ok K,
  fun K => (He.Fa.free "max").ok K,
  fun K => (He.Fa.int "MAX_SIZE" 300).ok K,
  fun K => (He.Fa.int "MOST_MAPS" 10).ok K,
  fun K => (He.Fa.int "MOST_LETTERS" 1000).ok K,
  fun K => (He.Fa.int "MOST_GENERATED" 1000).ok K,
  fun K => (He.Fa.int "MOST_SETS" 2000).ok K,
  fun K => (He.Fa.glo "Map").ok K,
  fun K => (He.Fa.cls "Map").ok K,
  fun K => PySem.W.selfFirst K (cM K),
  fun K => (He.Fa.mkr "Map").ok K,
  fun K => insB K (cM K),
  fun K => decide (PySem.W.typeIn K (.ref (cM K)) = some (.type "type")),
  fun K => (He.Fa.glo "Family").ok K,
  fun K => (He.Fa.cls "Family").ok K,
  fun K => PySem.W.selfFirst K (cF K),
  fun K => (He.Fa.mkr "Family").ok K,
  fun K => insB K (cF K),
  fun K => decide (PySem.W.typeIn K (.ref (cF K)) = some (.type "type")),
  fun K => creadB K (cM K),
  fun K => He.eqO (PySem.W.findIn K (.ref (cM K)) "__ne__") (some (some (.builtin "object.__ne__"))),
  fun K => decide (PySem.W.mroIn K (cM K) (.type "object") = some true),
  fun K => (He.Fa.noat "Map" "own_size").ok K,
  fun K => (He.Fa.noat "Map" "own_arrows").ok K,
  fun K => (He.Fa.noat "Family" "own_maps").ok K,
  fun K => calloB K (cF K)]
def theFb (K : PySem.W.Frag) : Bool := theFacts.all fun f => f K
theorem fb_at {K : PySem.W.Frag} (c : theFb K = true) (i : Nat) {f : PySem.W.Frag → Bool} (h : theFacts[i]? = some f) : f K = true := List.all_eq_true.mp c f (List.mem_of_getElem? h)
theorem txt_of {K : PySem.W.Frag} {h : Heap} {mg : Str → Option Value} (X : K.In h) (G : h.Ns mainGlobals mg) (e : obsA theFb theDefs K = valA theDefs) : Txt K mg := by
  have c := saysA_fb e
  exact {
    g_is_integer := He.glo_ok X G (fb_at c 0 rfl)
    d_is_integer := saysA_def e 0 rfl
    g_in_range := He.glo_ok X G (fb_at c 1 rfl)
    d_in_range := saysA_def e 1 rfl
    g_check_size := He.glo_ok X G (fb_at c 2 rfl)
    d_check_size := saysA_def e 2 rfl
    g_check_elements := He.glo_ok X G (fb_at c 3 rfl)
    d_check_elements := saysA_def e 3 rfl
    g_are_arrows := He.glo_ok X G (fb_at c 4 rfl)
    d_are_arrows := saysA_def e 4 rfl
    g_common_size := He.glo_ok X G (fb_at c 5 rfl)
    d_common_size := saysA_def e 5 rfl
    g_is_part := He.glo_ok X G (fb_at c 6 rfl)
    d_is_part := saysA_def e 6 rfl
    g_check_map := He.glo_ok X G (fb_at c 7 rfl)
    d_check_map := saysA_def e 7 rfl
    g_check_all := He.glo_ok X G (fb_at c 8 rfl)
    d_check_all := saysA_def e 8 rfl
    g_product := He.glo_ok X G (fb_at c 9 rfl)
    d_product := saysA_def e 9 rfl
    g_places_after := He.glo_ok X G (fb_at c 10 rfl)
    d_places_after := saysA_def e 10 rfl
    g_check_many := He.glo_ok X G (fb_at c 11 rfl)
    d_check_many := saysA_def e 11 rfl
    g_made := He.glo_ok X G (fb_at c 12 rfl)
    d_made := saysA_def e 12 rfl
    g_check_word := He.glo_ok X G (fb_at c 13 rfl)
    d_check_word := saysA_def e 13 rfl
    g_check_family := He.glo_ok X G (fb_at c 14 rfl)
    d_check_family := saysA_def e 14 rfl
    g_first_words := He.glo_ok X G (fb_at c 15 rfl)
    d_first_words := saysA_def e 15 rfl
    g_reached := He.glo_ok X G (fb_at c 16 rfl)
    d_reached := saysA_def e 16 rfl
    g_path := He.glo_ok X G (fb_at c 17 rfl)
    d_path := saysA_def e 17 rfl
    g_orbits := He.glo_ok X G (fb_at c 18 rfl)
    d_orbits := saysA_def e 18 rfl
    g_key_of := He.glo_ok X G (fb_at c 19 rfl)
    d_key_of := saysA_def e 19 rfl
    g_generated := He.glo_ok X G (fb_at c 20 rfl)
    d_generated := saysA_def e 20 rfl
    g_walked := He.glo_ok X G (fb_at c 21 rfl)
    d_walked := saysA_def e 21 rfl
    g_image_of := He.glo_ok X G (fb_at c 22 rfl)
    d_image_of := saysA_def e 22 rfl
    g_searched := He.glo_ok X G (fb_at c 23 rfl)
    d_searched := saysA_def e 23 rfl
    g_losing_word := He.glo_ok X G (fb_at c 24 rfl)
    d_losing_word := saysA_def e 24 rfl
    g_holding_sets := He.glo_ok X G (fb_at c 25 rfl)
    d_holding_sets := saysA_def e 25 rfl
    g_is_set := He.glo_ok X G (fb_at c 26 rfl)
    d_is_set := saysA_def e 26 rfl
    g_is_holding := He.glo_ok X G (fb_at c 27 rfl)
    d_is_holding := saysA_def e 27 rfl
    g__law_hand := He.glo_ok X G (fb_at c 28 rfl)
    d__law_hand := saysA_def e 28 rfl
    g__law_draw := He.glo_ok X G (fb_at c 29 rfl)
    d__law_draw := saysA_def e 29 rfl
    g__law_arrows := He.glo_ok X G (fb_at c 30 rfl)
    d__law_arrows := saysA_def e 30 rfl
    g__law_family := He.glo_ok X G (fb_at c 31 rfl)
    d__law_family := saysA_def e 31 rfl
    g__law_size := He.glo_ok X G (fb_at c 32 rfl)
    d__law_size := saysA_def e 32 rfl
    g__law_inverse_right := He.glo_ok X G (fb_at c 33 rfl)
    d__law_inverse_right := saysA_def e 33 rfl
    g__law_more_right := He.glo_ok X G (fb_at c 34 rfl)
    d__law_more_right := saysA_def e 34 rfl
    g_law := He.glo_ok X G (fb_at c 35 rfl)
    d_law := saysA_def e 35 rfl
    d_mInit := saysA_def e 36 rfl
    m_mInit := He.meth_ok (fb_at c 36 rfl)
    d_mMul := saysA_def e 37 rfl
    m_mMul := He.meth_ok (fb_at c 37 rfl)
    d_mInv := saysA_def e 38 rfl
    m_mInv := He.meth_ok (fb_at c 38 rfl)
    d_mLe := saysA_def e 39 rfl
    m_mLe := He.meth_ok (fb_at c 39 rfl)
    d_mEq := saysA_def e 40 rfl
    m_mEq := He.meth_ok (fb_at c 40 rfl)
    d_mRepr := saysA_def e 41 rfl
    m_mRepr := He.meth_ok (fb_at c 41 rfl)
    d_fInit := saysA_def e 42 rfl
    m_fInit := He.meth_ok (fb_at c 42 rfl)
    d_fCall := saysA_def e 43 rfl
    m_fCall := He.meth_ok (fb_at c 43 rfl)
    d_fAdd := saysA_def e 44 rfl
    m_fAdd := He.meth_ok (fb_at c 44 rfl)
    d_fInv := saysA_def e 45 rfl
    m_fInv := He.meth_ok (fb_at c 45 rfl)
    d_fLen := saysA_def e 46 rfl
    m_fLen := He.meth_ok (fb_at c 46 rfl)
    d_pSize := saysA_def e 47 rfl
    m_pSize := propB_ok (fb_at c 47 rfl)
    d_pArrows := saysA_def e 48 rfl
    m_pArrows := propB_ok (fb_at c 48 rfl)
    d_pMaps := saysA_def e 49 rfl
    m_pMaps := propB_ok (fb_at c 49 rfl)
    d_pFSize := saysA_def e 50 rfl
    m_pFSize := propB_ok (fb_at c 50 rfl)
    d_cId := saysA_def e 51 rfl
    m_cId := cmetB_ok (fb_at c 51 rfl)
    u_len := He.free_ok X G (fb_at c 52 rfl)
    u_isinstance := He.free_ok X G (fb_at c 53 rfl)
    u_range := He.free_ok X G (fb_at c 54 rfl)
    u_enumerate := He.free_ok X G (fb_at c 55 rfl)
    u_zip := He.free_ok X G (fb_at c 56 rfl)
    u_dict := He.free_ok X G (fb_at c 57 rfl)
    u_tuple := He.free_ok X G (fb_at c 58 rfl)
    u_list := He.free_ok X G (fb_at c 59 rfl)
    u_sorted := He.free_ok X G (fb_at c 60 rfl)
    u_int := He.free_ok X G (fb_at c 61 rfl)
    u_bool := He.free_ok X G (fb_at c 62 rfl)
    u_all := He.free_ok X G (fb_at c 63 rfl)
    u_repr := He.free_ok X G (fb_at c 64 rfl)
    u_min := He.free_ok X G (fb_at c 65 rfl)
    u_max := He.free_ok X G (fb_at c 66 rfl)
    i_MAX_SIZE := He.int_ok X G (fb_at c 67 rfl)
    i_MOST_MAPS := He.int_ok X G (fb_at c 68 rfl)
    i_MOST_LETTERS := He.int_ok X G (fb_at c 69 rfl)
    i_MOST_GENERATED := He.int_ok X G (fb_at c 70 rfl)
    i_MOST_SETS := He.int_ok X G (fb_at c 71 rfl)
    g_Map := He.glo_ok X G (fb_at c 72 rfl)
    c_Map := He.cls_ok (fb_at c 73 rfl)
    s_Map := (fb_at c 74 rfl)
    k_Map := He.mkr_ok (fb_at c 75 rfl)
    e_Map := insB_ok (He.cls_ok (fb_at c 73 rfl)) (fb_at c 76 rfl)
    t_Map := of_decide_eq_true (fb_at c 77 rfl)
    g_Family := He.glo_ok X G (fb_at c 78 rfl)
    c_Family := He.cls_ok (fb_at c 79 rfl)
    s_Family := (fb_at c 80 rfl)
    k_Family := He.mkr_ok (fb_at c 81 rfl)
    e_Family := insB_ok (He.cls_ok (fb_at c 79 rfl)) (fb_at c 82 rfl)
    t_Family := of_decide_eq_true (fb_at c 83 rfl)
    r_Map := creadB_ok (fb_at c 84 rfl)
    ne_Map := He.eqO_ok (fb_at c 85 rfl)
    ob_Map := of_decide_eq_true (fb_at c 86 rfl)
    n_size := He.noat_ok (fb_at c 87 rfl)
    n_arrows := He.noat_ok (fb_at c 88 rfl)
    n_maps := He.noat_ok (fb_at c 89 rfl)
    co_Family := calloB_ok (fb_at c 90 rfl) }
end CM
-- part H3
set_option Elab.async false
set_option linter.all false
set_option maxRecDepth 100000
set_option maxHeartbeats 4000000
/-! ### the law's end for a promise that looks at the stack's guards -/
namespace CM
open PySem PySem.Spec PyProof.Rows L2
theorem law_callG {P : Program} {w : World} {K : PySem.W.Frag} {mg mb : Str → Option Value} {k : Nat} {fa a : Addr} {sp : Sp} {s₁ : Shared} {vs : List Value} {ns : List Int} (KX : K.In s₁.heap) (hns : s₁.heap.Ns mainGlobals mg) (hb : s₁.heap.Ns builtinsNs mb)
    (hbb : ∀ x : Str, x ≠ "__name__" → mb x = bootBuiltins x) (hlim : s₁.heap.NoLimit) (hg : s₁.gens = #[]) (ha : s₁.heap.get? a = some { cls := .type "list", data := .seq vs.toArray }) (hi : IntsAre vs ns) (hl : ns.length ≤ sizeLine) (hr : Room k callerA)
    (F : ∀ base : Heap, FnG P w K mg base k fa sp) (hsp : ∀ H : Hp, SqL K H a (ns.map V.int) → sp [.ref a] H (fun v _ => v = .bl true) E0) :
    codeAny (model P w) callerA (.call (.ref fa) ⟨[.ref a], []⟩) (fun r s' => r = .ok (.ret (.bool true)) ∧ OldK s₁.heap s'.heap ∧ s'.os = s₁.os ∧ AllBare s'.gens) s₁ := by
  have rv := vals_ints hi
  have lenV := hi.length
  -- what is tracked at the start: the script, locked, or nothing
  suffices core : ∀ H : Hp, Only H → SqL K H a (ns.map V.int) → HOk P w H s₁.heap → (∀ b, H b ≠ none → b = a) → (H a ≠ none → K.lookup a = none) →
      codeAny (model P w) callerA (.call (.ref fa) ⟨[.ref a], []⟩) (fun r s' => r = .ok (.ret (.bool true)) ∧ OldK s₁.heap s'.heap ∧ s'.os = s₁.os ∧ AllBare s'.gens) s₁ by
    cases hk : K.lookup a with
    | some o =>
      have e := KX a o hk
      rw [ha] at e
      cases e
      refine core (fun _ => none) (fun _ => Or.inl rfl) (Or.inr ⟨_, vs.toArray, _, hk, rfl, rfl, rfl, by rw [List.size_toArray, lenV]; exact hl, by simpa using rv⟩) (fun b u z => by cases z) (fun b z => absurd rfl z) fun z => absurd rfl z
    | none =>
      have at_ : ∀ b, b = a → (if b = a then some (HO.frz { cls := .type "list", data := .seq vs.toArray } (.lst (ns.map V.int))) else none) = some (HO.frz { cls := .type "list", data := .seq vs.toArray } (.lst (ns.map V.int))) := fun b h => if_pos h
      refine core (fun b => if b = a then some (.frz { cls := .type "list", data := .seq vs.toArray } (.lst (ns.map V.int))) else none) (fun b => ?_) (Or.inl (Or.inr ⟨_, if_pos rfl⟩)) (fun b u z => ?_) (fun b z => ?_) fun _ => hk
      · by_cases h : b = a
        · exact Or.inr ⟨_, _, if_pos h⟩
        · exact Or.inl (if_neg h)
      · by_cases h : b = a
        · have z' := (if_pos h).symm.trans z
          cases z'
          subst h
          exact ⟨ha, by rw [List.length_map]; exact hl, vs, _, rv, ha⟩
        · have z' := (if_neg h).symm.trans z
          cases z'
      · by_cases h : b = a
        · exact h
        · exact absurd (if_neg h) z
  intro H hO hS hok hA hK
  have seqA : ∀ {b : Addr} {o : Obj}, s₁.heap.get? b = some o → (∀ its c, o.data ≠ .seq its c) → H b = none := fun {b o} e d => by
    cases q : H b with
    | none => rfl
    | some u =>
      have e' : b = a := hA b (by rw [q]; simp)
      subst e'
      rw [ha] at e
      cases e
      exact absurd rfl (d _ _)
  have nsK : ∀ {b : Addr} {m : Str → Option Value}, s₁.heap.Ns b m → (hidT s₁.heap H).Ns b m := fun {b m} ⟨o, es, ep, e, d, r⟩ => ⟨o, es, ep, hidT_get e (seqA e fun its c z => by rw [d] at z; cases z), d, r⟩
  have hKb : K.In (hidT s₁.heap H) := fun b o e => hidT_get (KX b o e) (by
    cases q : H b with
    | none => rfl
    | some u =>
      have e' : b = a := hA b (by rw [q]; simp)
      subst e'
      rw [hK (by rw [q]; simp)] at e
      cases e)
  obtain ⟨mc, l1, l2⟩ := hlim
  have hM : Mod K mg (hidT s₁.heap H) := ⟨hKb, nsK hns, ⟨mb, nsK hb, hbb⟩, ⟨mc, nsK l1, l2⟩⟩
  have e0 : Env0 P w K mg (hidT s₁.heap H) callerA [] s₁ H := ⟨rfl, hM, fun b o e => of_hidT e, Nat.le_of_eq (hidT_size _ _), trivial, fun b hb => (by cases hb), hok, .of_eq hg⟩
  refine codeAny_mono (F (hidT s₁.heap H) callerA [] s₁ H [.ref a] [.ref a] _ _ rfl hr e0 (.cons rfl .nil) (hsp H hS)) fun r s' h => ?_
  cases r with
  | error e => exact h.elim
  | ok fl =>
    cases fl with
    | next => exact h.elim
    | brk => exact h.elim
    | cont => exact h.elim
    | ret u =>
      obtain ⟨v, H', os, bare, un, hok', r', q⟩ := h
      have q' : v = .bl true := q
      subst q'
      cases (show u = Value.bool true from r')
      refine ⟨rfl, OldK.of_keep fun b o e => ?_, os, bare⟩
      cases q : H b with
      | none => exact un.keep b o e q (fun z => by cases z) (fun z => by cases z)
      | some u =>
        rcases hO b with z | ⟨ob, xs, z⟩
        · rw [q] at z
          cases z
        · obtain ⟨e1, _⟩ := hok b _ z
          obtain ⟨e2, _⟩ := hok' b _ (un.frzs b ob _ z)
          rw [e] at e1
          cases e1
          exact e2
end CM
-- part H2
set_option Elab.async false
set_option linter.all false
set_option maxRecDepth 100000
set_option maxHeartbeats 0
/-! ### the top's run, looked at in parts -/
namespace CM
open PySem PySem.Spec PyProof.Rows L2
abbrev R : PySem.W.OpenRow := PySem.W.OpenLaw.row PySem.Challenge.rw_chainmaps_k91_whole_words_and_inverses
def names1 : List Str := ["__name__", "_wall", "InvalidMap", "InvalidSize", "InvalidElement", "InvalidNumber", "SizeMismatch", "Clash", "Undefined", "LimitExceeded", "InvalidFamily", "InvalidWord", "MAX_SIZE", "is_integer", "in_range", "check_size", "check_elements", "are_arrows", "common_size", "row_from", "moved", "Map", "is_part", "first_clash", "check_map", "check_all", "product", "places_after", "MOST_MAPS", "MOST_LETTERS"]
def names2 : List Str := ["MOST_GENERATED", "MOST_SETS", "check_many", "Family", "made", "check_word", "check_family", "first_words", "reached", "path", "orbits", "key_of", "generated", "walked", "image_of", "searched", "losing_word", "holding_sets", "is_set", "is_holding", "_law_hand", "_law_draw", "_law_arrows", "_law_family", "_law_size", "_law_inverse_right", "_law_more_right"]
def names : List Str := names1 ++ names2
abbrev qv : Program := PySem.W.view R.prog [62]
noncomputable abbrev mach (w : World) (os : OsState) : Option PySem.W.SharedT := HandSHeadRun.endF (HandSHeadRun.stepQ (HandSHeadRun.denQ HandSHeadRun.tabQ) R.prog w) 20000 R.prog w os
theorem part0 (w : World) : HandSHeadRun.RunEq R qv PySem.W.Hook.none (fun _ => ()) 20000 names w := by
  intro os
  kernel_rfl
theorem part1 (w : World) : ∀ os : OsState, (mach w os).map (fun s => obsAG 5 (fun K => (theFacts.take 46).all fun f => f K) (theDefs.take 26) (HandSHeadRun.getT s)) = some (valA (theDefs.take 26)) := by
  intro os
  kernel_rfl
theorem part2 (w : World) : ∀ os : OsState, (mach w os).map (fun s => obsAG 5 (fun K => (theFacts.drop 46).all fun f => f K) (theDefs.drop 26) (HandSHeadRun.getT s)) = some (valA (theDefs.drop 26)) := by
  intro os
  kernel_rfl
theorem obsA_join {f1 f2 fb : PySem.W.Frag → Bool} {d1 d2 ds : List DefA} {K : PySem.W.Frag} (hf : fb K = (f1 K && f2 K)) (hd : ds = d1 ++ d2) (h1 : obsA f1 d1 K = valA d1) (h2 : obsA f2 d2 K = valA d2) : obsA fb ds K = valA ds := by
  subst hd
  have a1 : (f1 K && d1.all fun d => d.ok K) = true := congrArg (fun z : AlA => z.1) h1
  have a2 : (f2 K && d2.all fun d => d.ok K) = true := congrArg (fun z : AlA => z.1) h2
  have b1 : d1.map (fun d => fnA K (d.ad K)) = d1.map DefA.val := congrArg (fun z : AlA => z.2) h1
  have b2 : d2.map (fun d => fnA K (d.ad K)) = d2.map DefA.val := congrArg (fun z : AlA => z.2) h2
  obtain ⟨c1, c2⟩ := He.ba a1
  obtain ⟨c3, c4⟩ := He.ba a2
  unfold obsA valA
  rw [hf, c1, c3, List.all_append, c2, c4, List.map_append, List.map_append, b1, b2]
  rfl
abbrev hk : PySem.W.Hook := hookA 5 theFb theDefs
def ob (s : PySem.W.SharedT) : AlA := obsAG 5 theFb theDefs (HandSHeadRun.getT s)
theorem ob_eq (s : PySem.W.SharedT) : ob s = hk.obs s.abs := obsAG_eq (HandSHeadRun.getT_eq s)
theorem topRun (w : World) : HandSHeadRun.RunEq R qv hk ob 20000 names w := by
  intro os
  obtain ⟨s, hs, e0⟩ := Option.map_eq_some_iff.mp (part0 w os)
  obtain ⟨s1, hs1, e1⟩ := Option.map_eq_some_iff.mp (part1 w os)
  obtain ⟨s2, hs2, e2⟩ := Option.map_eq_some_iff.mp (part2 w os)
  have q1 : s = s1 := Option.some.inj (hs.symm.trans hs1)
  have q2 : s = s2 := Option.some.inj (hs.symm.trans hs2)
  subst q1 q2
  have e3 : ob s = valA theDefs := obsA_join (K := He.frG (HandSHeadRun.getT s) (cStatics :: He.asD (HandSHeadRun.getT s) 5)) (by
    show (theFacts.all _) = _
    rw [← List.all_append, List.take_append_drop]) (List.take_append_drop 26 theDefs).symm e1 e2
  refine Option.map_eq_some_iff.mpr ⟨s, hs, ?_⟩
  have l1 := congrArg (fun z => z.1) e0
  have l2 := congrArg (fun z => z.2.1) e0
  show (_, _, ob s) = (true, _, valA theDefs)
  rw [e3]
  exact Prod.ext l1 (Prod.ext l2 rfl)
end CM
-- part H4
set_option Elab.async false
set_option linter.all false
set_option maxRecDepth 100000
set_option maxHeartbeats 0
/-! ### the end -/
open PySem PySem.W PySem.Calls PyProof.Rows
theorem PySem.Challenge.cw_chainmaps_k91_whole_words_and_inverses_holds : PySem.Challenge.rw_chainmaps_k91_whole_words_and_inverses.Holds := by
  w_on; o_law
  refine HandSHeadRun.head_any (r := OpenLaw.row PySem.Challenge.rw_chainmaps_k91_whole_words_and_inverses) (q := CM.qv) (H := CM.hk) (ob := CM.ob) (M := 20000) (loose := CM.names) (d := HandSHeadRun.topDef (OpenLaw.row PySem.Challenge.rw_chainmaps_k91_whole_words_and_inverses).prog 62) (kwd := []) CM.ob_eq
    (by kernel_rfl) (fun s => by kernel_rfl) CM.topRun (by kernel_rfl) (by kernel_rfl) (by kernel_rfl) (by rfl) (by first | assumption | decide +kernel) (by decide +kernel) ⟨rfl, rfl, rfl, rfl, rfl, by decide +kernel⟩ ?hw ?hc
  case hw => w_witness2
  case hc =>
    refine _root_.Att.attach_call (l := PySem.Challenge.rw_chainmaps_k91_whole_words_and_inverses) (n := 63) rfl (by kernel_rfl) fun w s₀ s₁ mg mb fa o pm cd doc a vs ns G Y ho hd hcd hmg0 hobj hints hlen hg => ?_
    obtain ⟨K, KX, c⟩ := Y
    have T : CM.Txt K mg := CM.txt_of KX G.T.g c
    have hmg : mg ("law" : PySem.Str) = some (.ref fa) := by
      have e : (HandSHeadRun.topDef (OpenLaw.row PySem.Challenge.rw_chainmaps_k91_whole_words_and_inverses).prog 62).name = ("law" : PySem.Str) := by kernel_rfl
      rw [← e]
      exact hmg0
    have ea : fa = He.ga K "law" := by
      have := hmg.symm.trans T.g_law
      cases this
      rfl
    subst ea
    exact CM.law_callG KX G.T.g G.T.b G.T.builtins G.T.nolimit hg hobj hints (Nat.le_trans hlen (by decide)) (k := 15) ⟨rfl, by decide, by decide⟩ (fun base => CM.ok_law T) fun H hS => ⟨a, ns, rfl, hS, by omega, fun _ => rfl⟩
