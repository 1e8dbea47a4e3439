import PyProof.Rows.All
import Wide.All
import OpenK.AllK
import Wide.FinOn
import HandS.ForMost
import HandS.Wide
import HandS.IsInst
import HandS.Style
import HandS.TupMul
import HandS.Zip
import HandS.More
import HandS.Conv
import HandS.EndBits
import HandS.Evl
import PySem.Challenge.RW_everyflow_k75_whole_pulls_and_flows_upri
set_option Elab.async false
set_option linter.all false
set_option maxRecDepth 100000
set_option maxHeartbeats 16000000
namespace KM
def sumR : Nat → (Nat → Int) → Int
  | 0, _ => 0
  | m + 1, g => sumR m g + g m
theorem sumR_congr {g h : Nat → Int} : ∀ {m : Nat}, (∀ k, k < m → g k = h k) → sumR m g = sumR m h
  | 0, _ => rfl
  | m + 1, e => by
    show sumR m g + g m = sumR m h + h m
    rw [sumR_congr (m := m) fun k hk => e k (by omega), e m (by omega)]
theorem sumR_zero : ∀ (m : Nat), sumR m (fun _ => 0) = 0
  | 0 => rfl
  | m + 1 => by
    show sumR m (fun _ => 0) + 0 = 0
    rw [sumR_zero m]
    rfl
theorem sumR_add {g h : Nat → Int} : ∀ (m : Nat), sumR m (fun k => g k + h k) = sumR m g + sumR m h
  | 0 => rfl
  | m + 1 => by
    show sumR m (fun k => g k + h k) + (g m + h m) = (sumR m g + g m) + (sumR m h + h m)
    rw [sumR_add m]
    omega
theorem sumR_mul {g : Nat → Int} (c : Int) : ∀ (m : Nat), sumR m (fun k => c * g k) = c * sumR m g
  | 0 => by simp [sumR]
  | m + 1 => by
    show sumR m (fun k => c * g k) + c * g m = c * (sumR m g + g m)
    rw [sumR_mul c m, Int.mul_add]
theorem sumR_set {g : Nat → Int} {i : Nat} {c : Int} : ∀ {m : Nat}, i < m → sumR m (fun k => if k = i then c else g k) = sumR m g + (c - g i)
  | 0, h => by omega
  | m + 1, h => by
    show sumR m (fun k => if k = i then c else g k) + (if m = i then c else g m) = sumR m g + g m + (c - g i)
    by_cases e : m = i
    · subst e
      rw [if_pos rfl, sumR_congr (g := fun k => if k = m then c else g k) (h := g) fun k hk => if_neg (by omega)]
      omega
    · rw [if_neg e, sumR_set (m := m) (by omega)]
      omega
theorem sumR_list (g : Nat → Int) : ∀ (m : Nat), ((List.range m).map g).sum = sumR m g
  | 0 => rfl
  | m + 1 => by
    rw [List.range_succ, List.map_append, List.sum_append, sumR_list g m]
    simp [sumR]
abbrev Web := List (Nat × Nat)
def src (E : Web) (k : Nat) : Nat := (E.getD k (0, 0)).1
def dst (E : Web) (k : Nat) : Nat := (E.getD k (0, 0)).2
def at0 (v : List Int) (k : Nat) : Int := v.getD k 0
/-- differences of a potential along an arrow -/
def pd (E : Web) (f : Nat → Int) (k : Nat) : Int := f (dst E k) - f (src E k)
def dlt (p : Nat) : Nat → Int := fun q => if q = p then 1 else 0
def pull (E : Web) (f : Nat → Int) : List Int := E.map fun e => f e.2 - f e.1
def dot (m : Nat) (a b : Nat → Int) : Int := sumR m fun k => a k * b k
def exc (E : Web) (v : Nat → Int) (m : Nat) (p : Nat) : Int := sumR m fun k => v k * (dlt p (src E k) - dlt p (dst E k))
def Good (n : Nat) (E : Web) : Prop := ∀ e ∈ E, e.1 < n ∧ e.2 < n
theorem Good.src {n : Nat} {E : Web} (h : Good n E) {k : Nat} (hk : k < E.length) : src E k < n := by
  have e : E.getD k (0, 0) = E[k] := by simp [List.getD_eq_getElem?_getD, hk]
  show (E.getD k (0, 0)).1 < n
  rw [e]
  exact (h _ (List.getElem_mem hk)).1
theorem Good.dst {n : Nat} {E : Web} (h : Good n E) {k : Nat} (hk : k < E.length) : dst E k < n := by
  have e : E.getD k (0, 0) = E[k] := by simp [List.getD_eq_getElem?_getD, hk]
  show (E.getD k (0, 0)).2 < n
  rw [e]
  exact (h _ (List.getElem_mem hk)).2
theorem src_of {E : Web} {k : Nat} {e : Nat × Nat} (h : E[k]? = some e) : src E k = e.1 := by
  simp [src, List.getD_eq_getElem?_getD, h]
theorem dst_of {E : Web} {k : Nat} {e : Nat × Nat} (h : E[k]? = some e) : dst E k = e.2 := by
  simp [dst, List.getD_eq_getElem?_getD, h]
theorem pull_length (E : Web) (f : Nat → Int) : (pull E f).length = E.length := by simp [pull]
theorem pull_at {E : Web} {f : Nat → Int} {k : Nat} (hk : k < E.length) : at0 (pull E f) k = pd E f k := by
  simp [at0, pull, pd, src, dst, List.getD_eq_getElem?_getD, hk]
theorem pull_congr {n : Nat} {E : Web} (g : Good n E) {f h : Nat → Int} (e : ∀ p, p < n → f p = h p) : pull E f = pull E h := by
  unfold pull
  refine List.map_congr_left fun a ha => ?_
  rw [e _ (g a ha).1, e _ (g a ha).2]
theorem list_at {a b : List Int} (hl : a.length = b.length) (h : ∀ k, k < a.length → at0 a k = at0 b k) : a = b := by
  refine List.ext_getElem hl fun k h1 h2 => ?_
  have := h k h1
  simpa [at0, List.getD_eq_getElem?_getD, h1, h2] using this
theorem pull_iff {E : Web} {v : List Int} (hl : v.length = E.length) {f : Nat → Int} : v = pull E f ↔ ∀ k, k < E.length → at0 v k = pd E f k := by
  constructor
  · intro e k hk
    rw [e, pull_at hk]
  · intro h
    refine list_at (by rw [hl, pull_length]) fun k hk => ?_
    rw [h k (by omega), pull_at (by omega)]
theorem dot_comm (m : Nat) (a b : Nat → Int) : dot m a b = dot m b a := sumR_congr fun k _ => Int.mul_comm _ _
theorem dot_add (m : Nat) (a f g : Nat → Int) : dot m a (fun k => f k + g k) = dot m a f + dot m a g := by
  unfold dot
  rw [← sumR_add]
  exact sumR_congr fun k _ => Int.mul_add _ _ _
theorem dot_mul (m : Nat) (a f : Nat → Int) (c : Int) : dot m a (fun k => c * f k) = c * dot m a f := by
  unfold dot
  rw [← sumR_mul]
  exact sumR_congr fun k _ => by rw [← Int.mul_assoc, Int.mul_comm (a k) c, Int.mul_assoc]
theorem dot_congr {m : Nat} {a b f g : Nat → Int} (h1 : ∀ k, k < m → a k = b k) (h2 : ∀ k, k < m → f k = g k) : dot m a f = dot m b g :=
  sumR_congr fun k hk => by rw [h1 k hk, h2 k hk]
theorem exc_flux (E : Web) (v : Nat → Int) (m p : Nat) : exc E v m p = - dot m v (pd E (dlt p)) := by
  have : - dot m v (pd E (dlt p)) = (-1) * dot m v (pd E (dlt p)) := by omega
  rw [this, ← dot_mul]
  refine sumR_congr fun k _ => ?_
  show v k * (dlt p (src E k) - dlt p (dst E k)) = v k * (-1 * (dlt p (dst E k) - dlt p (src E k)))
  congr 1
  omega
def below (f : Nat → Int) (j : Nat) : Nat → Int := fun x => if x < j then f x else 0
theorem flux_below {E : Web} {v : Nat → Int} {m n : Nat} (h : ∀ p, p < n → exc E v m p = 0) (f : Nat → Int) : ∀ j, j ≤ n → dot m v (pd E (below f j)) = 0
  | 0, _ => by
    rw [dot_congr (fun _ _ => rfl) (g := fun _ => 0 * 0) fun k _ => by simp [pd, below], dot_mul]
    simp
  | j + 1, hj => by
    have h1 := flux_below h f j (by omega)
    have h2 : dot m v (pd E (dlt j)) = 0 := by
      have := exc_flux E v m j
      rw [h j (by omega)] at this
      omega
    have e : ∀ x, below f (j + 1) x = below f j x + f j * dlt j x := fun x => by
      unfold below dlt
      by_cases a : x = j
      · subst a
        simp
      · by_cases b : x < j
        · rw [if_pos (by omega), if_pos b, if_neg a]
          omega
        · rw [if_neg (by omega), if_neg b, if_neg a]
          omega
    rw [dot_congr (fun _ _ => rfl) (g := fun k => pd E (below f j) k + f j * pd E (dlt j) k) fun k _ => by
      unfold pd
      rw [e, e, Int.mul_sub]
      omega]
    rw [dot_add, dot_mul, h1, h2]
    simp
/-- a flow is upright to the pull of all heights -/
theorem flow_upright {E : Web} {v : Nat → Int} {n : Nat} (g : Good n E) (h : ∀ p, p < n → exc E v E.length p = 0) (f : Nat → Int) : dot E.length v (pd E f) = 0 := by
  rw [← flux_below h f n (Nat.le_refl _)]
  refine dot_congr (fun _ _ => rfl) fun k hk => ?_
  unfold pd below
  rw [if_pos (g.src hk), if_pos (g.dst hk)]
def IsFlow (n : Nat) (E : Web) (v : List Int) : Prop := ∀ p, p < n → exc E (at0 v) E.length p = 0
def IsPull (E : Web) (v : List Int) : Prop := ∃ f, v = pull E f
theorem isFlow_iff (n : Nat) (E : Web) (v : List Int) : IsFlow n E v ↔ ∀ p, p < n → dot E.length (at0 (pull E (dlt p))) (at0 v) = 0 := by
  have e : ∀ p, dot E.length (at0 (pull E (dlt p))) (at0 v) = - exc E (at0 v) E.length p := fun p => by
    rw [dot_comm, exc_flux, dot_congr (g := pd E (dlt p)) (fun _ _ => rfl) fun k hk => pull_at hk]
    omega
  constructor
  · intro h p hp
    rw [e, h p hp]
    rfl
  · intro h p hp
    have := h p hp
    rw [e] at this
    omega
theorem isFlow_dot {n : Nat} {E : Web} {v : List Int} (g : Good n E) (h : IsFlow n E v) (f : Nat → Int) : dot E.length (at0 (pull E f)) (at0 v) = 0 := by
  rw [dot_comm, dot_congr (fun _ _ => rfl) fun k hk => pull_at hk]
  exact flow_upright g h f
theorem isFlow_of {n : Nat} {E : Web} {v : List Int} (h : ∀ f, dot E.length (at0 v) (pd E f) = 0) : IsFlow n E v := fun p _ => by
  rw [exc_flux, h]
  rfl
end KM
namespace KM
def gt (hs : List (Option Int)) (p : Nat) : Option Int := hs.getD p none
theorem gt_set {hs : List (Option Int)} {i : Nat} {x : Option Int} (hi : i < hs.length) (p : Nat) : gt (hs.set i x) p = if p = i then x else gt hs p := by
  unfold gt
  rw [List.getD_eq_getElem?_getD, List.getD_eq_getElem?_getD, List.getElem?_set]
  by_cases e : i = p
  · subst e
    simp [hi]
  · rw [if_neg e, if_neg (Ne.symm e)]
theorem gt_none_len {hs : List (Option Int)} {p : Nat} (h : gt hs p ≠ none) : p < hs.length := by
  by_cases e : p < hs.length
  · exact e
  · exact absurd (by unfold gt; rw [List.getD_eq_getElem?_getD, List.getElem?_eq_none (by omega)]; rfl) h
def Pot (E : Web) (v : List Int) (f : Nat → Int) : Prop := ∀ k, k < E.length → at0 v k = pd E f k
/-- between two starts -/
structure OI (n : Nat) (E : Web) (v : List Int) (r : Nat) (hs : List (Option Int)) : Prop where
  len : hs.length = n
  done : ∀ p, p < r → gt hs p ≠ none
  shut : ∀ k, k < E.length → (gt hs (src E k) = none ↔ gt hs (dst E k) = none)
  pot : ∀ f, Pot E v f → ∀ k, k < E.length → ∀ a b, gt hs (src E k) = some a → gt hs (dst E k) = some b → b - a = pd E f k
  zero : (∀ k, k < E.length → at0 v k = 0) → ∀ p a, gt hs p = some a → a = 0
/-- within the search from r -/
structure DI (n : Nat) (E : Web) (v : List Int) (r : Nat) (hs : List (Option Int)) (here : List Nat) (low : Option Nat) (t : Nat) : Prop where
  len : hs.length = n
  done : ∀ p, p < r + 1 → gt hs p ≠ none
  mem : ∀ q, (q ∈ here ∨ low = some q) → ∃ a, gt hs q = some a
  f1 : ∀ k, k < E.length → gt hs (src E k) ≠ none → gt hs (dst E k) = none → src E k ∈ here ∨ (low = some (src E k) ∧ t ≤ 2 * k)
  f2 : ∀ k, k < E.length → gt hs (dst E k) ≠ none → gt hs (src E k) = none → dst E k ∈ here ∨ (low = some (dst E k) ∧ t ≤ 2 * k + 1)
  pot : ∀ f, Pot E v f → ∀ k, k < E.length → ∀ a b, gt hs (src E k) = some a → gt hs (dst E k) = some b → b - a = pd E f k
  off : ∀ f, Pot E v f → ∀ q, (q ∈ here ∨ low = some q) → ∀ a, gt hs q = some a → a = f q - f r
  zero : (∀ k, k < E.length → at0 v k = 0) → ∀ p a, gt hs p = some a → a = 0
theorem gt_rep (n p : Nat) : gt (List.replicate n none) p = none := by
  unfold gt
  rw [List.getD_eq_getElem?_getD, List.getElem?_replicate]
  split <;> rfl
theorem oi_start (n : Nat) (E : Web) (v : List Int) : OI n E v 0 (List.replicate n none) where
  len := by simp
  done := fun p h => by omega
  shut := fun k _ => by rw [gt_rep, gt_rep]
  pot := fun f _ k _ a b h => by
    rw [gt_rep] at h
    cases h
  zero := fun _ p a h => by
    rw [gt_rep] at h
    cases h
theorem OI.skip {n : Nat} {E : Web} {v : List Int} {r : Nat} {hs : List (Option Int)} (o : OI n E v r hs) (h : gt hs r ≠ none) : OI n E v (r + 1) hs :=
  ⟨o.len, fun p hp => by
    by_cases e : p = r
    · rw [e]
      exact h
    · exact o.done p (by omega), o.shut, o.pot, o.zero⟩
theorem OI.begin {n : Nat} {E : Web} {v : List Int} {r : Nat} {hs : List (Option Int)} (o : OI n E v r hs) (h : gt hs r = none) (hr : r < n) : DI n E v r (hs.set r (some 0)) [r] none 0 := by
  have hl : r < hs.length := by
    rw [o.len]
    exact hr
  have g := gt_set (x := some (0 : Int)) hl
  refine ⟨by simpa using o.len, fun p hp => ?_, fun q hq => ?_, fun k hk h1 h2 => ?_, fun k hk h1 h2 => ?_, fun f hf k hk a b h1 h2 => ?_, fun f hf q hq a ha => ?_, fun hz p a ha => ?_⟩
  · rw [g]
    split
    · exact fun z => nomatch z
    · exact o.done p (by omega)
  · rcases hq with hq | hq
    · have e : q = r := by simpa using hq
      exact ⟨0, by rw [g, if_pos e]⟩
    · cases hq
  · refine .inl ?_
    rw [g] at h1 h2
    by_cases e1 : src E k = r
    · simp [e1]
    · by_cases e2 : dst E k = r
      · rw [if_pos e2] at h2
        cases h2
      · rw [if_neg e1] at h1
        rw [if_neg e2] at h2
        exact absurd ((o.shut k hk).mpr h2) h1
  · refine .inl ?_
    rw [g] at h1 h2
    by_cases e1 : dst E k = r
    · simp [e1]
    · by_cases e2 : src E k = r
      · rw [if_pos e2] at h2
        cases h2
      · rw [if_neg e1] at h1
        rw [if_neg e2] at h2
        exact absurd ((o.shut k hk).mp h2) h1
  · rw [g] at h1 h2
    by_cases e1 : src E k = r
    · by_cases e2 : dst E k = r
      · rw [if_pos e1] at h1
        rw [if_pos e2] at h2
        cases h1
        cases h2
        unfold pd
        rw [e1, e2]
        omega
      · rw [if_neg e2] at h2
        have := (o.shut k hk).mp (by rw [e1]; exact h)
        rw [this] at h2
        cases h2
    · by_cases e2 : dst E k = r
      · rw [if_neg e1] at h1
        have := (o.shut k hk).mpr (by rw [e2]; exact h)
        rw [this] at h1
        cases h1
      · rw [if_neg e1] at h1
        rw [if_neg e2] at h2
        exact o.pot f hf k hk a b h1 h2
  · rcases hq with hq | hq
    · have e : q = r := by simpa using hq
      rw [g, if_pos e] at ha
      cases ha
      rw [e]
      omega
    · cases hq
  · rw [g] at ha
    split at ha
    · cases ha
      rfl
    · exact o.zero hz p a ha
section
variable {n : Nat} {E : Web} {v : List Int} {r : Nat} {hs : List (Option Int)} {here : List Nat} {low : Nat} {t : Nat}
theorem DI.pop (d : DI n E v r hs (here ++ [low]) none 0) : DI n E v r hs here (some low) 0 := by
  have sp : ∀ q, (q ∈ here ∨ some low = some q) → (q ∈ here ++ [low] ∨ none = some q) := fun q hq => .inl (by
    rcases hq with h | h
    · exact List.mem_append_left _ h
    · cases h
      simp)
  refine ⟨d.len, d.done, fun q hq => d.mem q (sp q hq), fun k hk h1 h2 => ?_, fun k hk h1 h2 => ?_, d.pot, fun f hf q hq => d.off f hf q (sp q hq), d.zero⟩
  · rcases d.f1 k hk h1 h2 with h | h
    · rcases List.mem_append.mp h with h | h
      · exact .inl h
      · exact .inr ⟨by simpa using (List.mem_singleton.mp h).symm, Nat.zero_le _⟩
    · cases h.1
  · rcases d.f2 k hk h1 h2 with h | h
    · rcases List.mem_append.mp h with h | h
      · exact .inl h
      · exact .inr ⟨by simpa using (List.mem_singleton.mp h).symm, Nat.zero_le _⟩
    · cases h.1
theorem DI.turned (d : DI n E v r hs here (some low) t) (ht : 2 * E.length ≤ t) : DI n E v r hs here none 0 := by
  have sp : ∀ q, (q ∈ here ∨ none = some q) → (q ∈ here ∨ some low = some q) := fun q hq => .inl (hq.elim id fun z => nomatch z)
  refine ⟨d.len, d.done, fun q hq => d.mem q (sp q hq), fun k hk h1 h2 => ?_, fun k hk h1 h2 => ?_, d.pot, fun f hf q hq => d.off f hf q (sp q hq), d.zero⟩
  · rcases d.f1 k hk h1 h2 with h | h
    · exact .inl h
    · omega
  · rcases d.f2 k hk h1 h2 with h | h
    · exact .inl h
    · omega
theorem DI.stop (d : DI n E v r hs [] none t) : OI n E v (r + 1) hs := by
  have nn : ∀ {A : Prop} {q : Nat}, (q ∈ ([] : List Nat) ∨ ((none : Option Nat) = some q ∧ A)) → False := fun {A q} h => by
    rcases h with h | h
    · cases h
    · exact nomatch h.1
  refine ⟨d.len, d.done, fun k hk => ⟨fun h1 => ?_, fun h1 => ?_⟩, d.pot, d.zero⟩
  · cases h2 : gt hs (dst E k) with
    | none => rfl
    | some b => exact (nn (d.f2 k hk (by rw [h2]; exact fun z => nomatch z) h1)).elim
  · cases h2 : gt hs (src E k) with
    | none => rfl
    | some b => exact (nn (d.f1 k hk (by rw [h2]; exact fun z => nomatch z) h1)).elim
/-- a step that finds nothing new: even steps look along arrow t / 2, odd ones against it -/
theorem DI.miss (d : DI n E v r hs here (some low) t) (h0 : ∀ k, t = 2 * k → k < E.length → src E k = low → gt hs (dst E k) ≠ none) (h1 : ∀ k, t = 2 * k + 1 → k < E.length → dst E k = low → gt hs (src E k) ≠ none) :
    DI n E v r hs here (some low) (t + 1) := by
  refine ⟨d.len, d.done, d.mem, fun k hk a b => ?_, fun k hk a b => ?_, d.pot, d.off, d.zero⟩
  · rcases d.f1 k hk a b with h | ⟨h, hle⟩
    · exact .inl h
    · refine .inr ⟨h, ?_⟩
      by_cases e : t = 2 * k
      · exact absurd b (h0 k e hk (Option.some.inj h).symm)
      · omega
  · rcases d.f2 k hk a b with h | ⟨h, hle⟩
    · exact .inl h
    · refine .inr ⟨h, ?_⟩
      by_cases e : t = 2 * k + 1
      · exact absurd b (h1 k e hk (Option.some.inj h).symm)
      · omega
/-- a place is found: the height that it gets agrees with all -/
theorem DI.found {other : Nat} {a c : Int} (d : DI n E v r hs here (some low) t) (g : Good n E) (hl : gt hs low = some a) (ho : gt hs other = none) (hn : other < n)
    (hc : ∀ f, Pot E v f → c = f other - f low) (hz : (∀ k, k < E.length → at0 v k = 0) → c = 0)
    (h0 : ∀ k, t = 2 * k → k < E.length → src E k = low → dst E k = other) (h1 : ∀ k, t = 2 * k + 1 → k < E.length → dst E k = low → src E k = other) :
    DI n E v r (hs.set other (some (a + c))) (here ++ [other]) (some low) (t + 1) := by
  have ln : other < hs.length := by
    rw [d.len]
    exact hn
  have gs := gt_set (x := some (a + c)) ln
  have off1 : ∀ f, Pot E v f → a + c = f other - f r := fun f hf => by
    have := d.off f hf low (.inr rfl) a hl
    have := hc f hf
    omega
  refine ⟨by simpa using d.len, fun p hp => ?_, fun q hq => ?_, fun k hk h2 h3 => ?_, fun k hk h2 h3 => ?_, fun f hf k hk x y h2 h3 => ?_, fun f hf q hq x hx => ?_, fun z p x hx => ?_⟩
  · rw [gs]
    split
    · exact fun z => nomatch z
    · exact d.done p hp
  · rw [gs]
    split
    · exact ⟨_, rfl⟩
    · rename_i ne
      refine d.mem q (hq.imp (fun h => ?_) id)
      rcases List.mem_append.mp h with h | h
      · exact h
      · exact absurd (List.mem_singleton.mp h) ne
  · rw [gs] at h2 h3
    by_cases e2 : dst E k = other
    · rw [if_pos e2] at h3
      cases h3
    · rw [if_neg e2] at h3
      by_cases e1 : src E k = other
      · exact .inl (by simp [e1])
      · rw [if_neg e1] at h2
        rcases d.f1 k hk h2 h3 with h | ⟨h, hle⟩
        · exact .inl (List.mem_append_left _ h)
        · refine .inr ⟨h, ?_⟩
          by_cases e : t = 2 * k
          · exact absurd (h0 k e hk (Option.some.inj h).symm) e2
          · omega
  · rw [gs] at h2 h3
    by_cases e2 : src E k = other
    · rw [if_pos e2] at h3
      cases h3
    · rw [if_neg e2] at h3
      by_cases e1 : dst E k = other
      · exact .inl (by simp [e1])
      · rw [if_neg e1] at h2
        rcases d.f2 k hk h2 h3 with h | ⟨h, hle⟩
        · exact .inl (List.mem_append_left _ h)
        · refine .inr ⟨h, ?_⟩
          by_cases e : t = 2 * k + 1
          · exact absurd (h1 k e hk (Option.some.inj h).symm) e2
          · omega
  · rw [gs] at h2 h3
    by_cases e1 : src E k = other
    · rw [if_pos e1] at h2
      by_cases e2 : dst E k = other
      · rw [if_pos e2] at h3
        cases h2
        cases h3
        unfold pd
        rw [e1, e2]
        omega
      · rw [if_neg e2] at h3
        have hm : dst E k ∈ here ∨ some low = some (dst E k) := by
          rcases d.f2 k hk (by rw [h3]; exact fun z => nomatch z) (by rw [e1]; exact ho) with h | h
          · exact .inl h
          · exact .inr h.1
        have q1 := d.off f hf _ hm y h3
        have q2 := off1 f hf
        cases h2
        unfold pd
        rw [e1]
        omega
    · rw [if_neg e1] at h2
      by_cases e2 : dst E k = other
      · rw [if_pos e2] at h3
        have hm : src E k ∈ here ∨ some low = some (src E k) := by
          rcases d.f1 k hk (by rw [h2]; exact fun z => nomatch z) (by rw [e2]; exact ho) with h | h
          · exact .inl h
          · exact .inr h.1
        have q1 := d.off f hf _ hm x h2
        have q2 := off1 f hf
        cases h3
        unfold pd
        rw [e2]
        omega
      · rw [if_neg e2] at h3
        exact d.pot f hf k hk x y h2 h3
  · rw [gs] at hx
    split at hx
    · rename_i e
      cases hx
      rw [e]
      exact off1 f hf
    · rename_i ne
      refine d.off f hf q (hq.imp (fun h => ?_) id) x hx
      rcases List.mem_append.mp h with h | h
      · exact h
      · exact absurd (List.mem_singleton.mp h) ne
  · rw [gs] at hx
    split at hx
    · cases hx
      have q1 := d.zero z low a hl
      have q2 := hz z
      omega
    · exact d.zero z p x hx
/-- how many places have no height yet -/
def bare (hs : List (Option Int)) : Nat := hs.countP fun x => x.isNone
theorem bare_set {hs : List (Option Int)} {i : Nat} {c : Int} (hi : i < hs.length) (h : gt hs i = none) : bare (hs.set i (some c)) + 1 = bare hs := by
  have e : hs[i] = none := by
    have : gt hs i = hs[i] := by simp [gt, List.getD_eq_getElem?_getD, hi]
    rw [← this]
    exact h
  have p : 0 < bare hs := by
    unfold bare
    rw [List.countP_pos_iff]
    exact ⟨hs[i], List.getElem_mem hi, by rw [e]; rfl⟩
  unfold bare at p ⊢
  rw [List.countP_set hi, e]
  simp
  omega
/-- the search's end -/
theorem OI.all (o : OI n E v n hs) (g : Good n E) : ∃ xs : List Int, hs = xs.map some ∧ xs.length = n ∧ (IsPull E v → v.length = E.length → pull E (at0 xs) = v) ∧ ((∀ k, k < E.length → at0 v k = 0) → xs = List.replicate n 0) := by
  have all : ∀ i (h : i < hs.length), ∃ a, hs[i] = some a := fun i h => by
    have q := o.done i (by rw [← o.len]; exact h)
    have e : gt hs i = hs[i] := by simp [gt, List.getD_eq_getElem?_getD, h]
    cases z : hs[i] with
    | none => exact absurd (e.trans z) q
    | some a => exact ⟨a, rfl⟩
  have hx : hs = (hs.map fun x => x.getD 0).map some := by
    refine List.ext_getElem (by simp) fun i h1 h2 => ?_
    obtain ⟨a, e⟩ := all i h1
    simp [e]
  have gx : ∀ i, i < n → gt hs i = some (at0 (hs.map fun x => x.getD 0) i) := fun i hi => by
    have h : i < hs.length := by
      rw [o.len]
      exact hi
    obtain ⟨a, e⟩ := all i h
    simp [gt, at0, List.getD_eq_getElem?_getD, h, e]
  refine ⟨hs.map fun x => x.getD 0, hx, by simpa using o.len, fun ⟨f, hf⟩ hl => ?_, fun hz => ?_⟩
  · refine ((pull_iff hl).mpr fun k hk => ?_).symm
    have hp : Pot E v f := (pull_iff hl).mp hf
    rw [hp k hk]
    exact (o.pot f hp k hk _ _ (gx _ (g.src hk)) (gx _ (g.dst hk))).symm
  · refine list_at (by simpa using o.len) fun k hk => ?_
    have hk : k < n := by
      rw [← o.len]
      simpa using hk
    rw [o.zero hz k _ (gx k hk)]
    simp [at0, List.getD_eq_getElem?_getD, hk]
end
end KM
namespace KM
abbrev Ring := List (Nat × Int)
def rsum : Ring → (Nat → Int) → Int
  | [], _ => 0
  | p :: R, w => p.2 * w p.1 + rsum R w
theorem rsum_app (w : Nat → Int) (a : Nat) (s : Int) : ∀ R : Ring, rsum (R ++ [(a, s)]) w = rsum R w + s * w a
  | [] => by simp [rsum]
  | p :: R => by
    show p.2 * w p.1 + rsum (R ++ [(a, s)]) w = p.2 * w p.1 + rsum R w + s * w a
    rw [rsum_app w a s R]
    omega
theorem rsum_congr {w u : Nat → Int} : ∀ {R : Ring}, (∀ p ∈ R, w p.1 = u p.1) → rsum R w = rsum R u
  | [], _ => rfl
  | p :: R, h => by
    show p.2 * w p.1 + rsum R w = p.2 * u p.1 + rsum R u
    rw [h p (by simp), rsum_congr (R := R) fun q hq => h q (List.mem_cons_of_mem _ hq)]
theorem rsum_take {R : Ring} {i : Nat} {a : Nat} {s : Int} (w : Nat → Int) (h : R[i]? = some (a, s)) : rsum (R.take (i + 1)) w = rsum (R.take i) w + s * w a := by
  rw [List.take_add_one, h]
  exact rsum_app w a s _
structure Walk (E : Web) (k : Nat) (R : Ring) (q : Nat) (seen : List Nat) : Prop where
  sum : ∀ f, rsum R (pd E f) = f q - f (src E k)
  nd : (R.map (·.1)).Nodup
  lt : ∀ p ∈ R, p.1 < E.length
  sg : ∀ p ∈ R, p.2 = 1 ∨ p.2 = -1
  ends : ∀ p ∈ R, p.1 = k ∨ (src E p.1 ∈ seen ∧ dst E p.1 ∈ seen)
  own : (k, 1) ∈ R
structure RingOk (E : Web) (R : Ring) : Prop where
  sum : ∀ f, rsum R (pd E f) = 0
  nd : (R.map (·.1)).Nodup
  lt : ∀ p ∈ R, p.1 < E.length
  sg : ∀ p ∈ R, p.2 = 1 ∨ p.2 = -1
def Apart (E : Web) (k : Nat) : Prop := ∃ C : Nat → Prop, C (dst E k) ∧ ¬ C (src E k) ∧ ∀ j, j < E.length → j ≠ k → (C (src E j) ↔ C (dst E j))
structure RingSpec (E : Web) (k : Nat) (R : Ring) : Prop where
  ok : RingOk E R
  none : R = [] → Apart E k
  own : R ≠ [] → (k, 1) ∈ R
structure BI (n : Nat) (E : Web) (k : Nat) (seen : List Nat) (S : List Ring) (a t : Nat) : Prop where
  len : S.length = seen.length
  nd : seen.Nodup
  lt : ∀ q ∈ seen, q < n
  y : dst E k ∈ seen
  walk : ∀ (i q : Nat) (R : Ring), seen[i]? = some q → S[i]? = some R → Walk E k R q seen
  past : ∀ i q, i < a → seen[i]? = some q → q ≠ src E k
  shut : ∀ i q j, i < a → seen[i]? = some q → j < E.length → j ≠ k → (src E j = q → dst E j ∈ seen) ∧ (dst E j = q → src E j ∈ seen)
  now : ∀ q j, seen[a]? = some q → j < E.length → j ≠ k → (2 * j < t → src E j = q → dst E j ∈ seen) ∧ (2 * j + 1 < t → dst E j = q → src E j ∈ seen)
theorem bi_start {n : Nat} {E : Web} {k : Nat} (g : Good n E) (hk : k < E.length) : BI n E k [dst E k] [[(k, 1)]] 0 0 where
  len := rfl
  nd := by simp
  lt := fun q hq => by
    have e : q = dst E k := by simpa using hq
    rw [e]
    exact g.dst hk
  y := by simp
  walk := fun i q R h1 h2 => by
    cases i with
    | succ i => simp at h1
    | zero =>
      have e1 : dst E k = q := by simpa using h1
      have e2 : [(k, 1)] = R := by simpa using h2
      subst e1
      subst e2
      refine ⟨fun f => ?_, by simp, fun p hp => ?_, fun p hp => ?_, fun p hp => ?_, by simp⟩
      · simp [rsum, pd]
      · have e : p = (k, 1) := by simpa using hp
        rw [e]
        exact hk
      · have e : p = (k, 1) := by simpa using hp
        rw [e]
        exact .inl rfl
      · have e : p = (k, 1) := by simpa using hp
        rw [e]
        exact .inl rfl
  past := fun i q h => by omega
  shut := fun i q j h => by omega
  now := fun q j _ _ _ => ⟨fun h => by omega, fun h => by omega⟩
section
variable {n : Nat} {E : Web} {k : Nat} {seen : List Nat} {S : List Ring} {a t : Nat}
theorem BI.miss (b : BI n E k seen S a t) {q : Nat} (hq : seen[a]? = some q) (h0 : ∀ j, t = 2 * j → j < E.length → j ≠ k → src E j = q → dst E j ∈ seen) (h1 : ∀ j, t = 2 * j + 1 → j < E.length → j ≠ k → dst E j = q → src E j ∈ seen) : BI n E k seen S a (t + 1) :=
  ⟨b.len, b.nd, b.lt, b.y, b.walk, b.past, b.shut, fun q' j hq' hj hk => by
    have e : q = q' := Option.some.inj (hq.symm.trans hq')
    subst e
    refine ⟨fun ht hs => ?_, fun ht hs => ?_⟩
    · by_cases e : t = 2 * j
      · exact h0 j e hj hk hs
      · exact (b.now q j hq hj hk).1 (by omega) hs
    · by_cases e : t = 2 * j + 1
      · exact h1 j e hj hk hs
      · exact (b.now q j hq hj hk).2 (by omega) hs⟩
theorem BI.found (b : BI n E k seen S a t) {q new : Nat} {R : Ring} {j : Nat} {s : Int} (hq : seen[a]? = some q) (hR : S[a]? = some R) (hn : new < n) (hnew : new ∉ seen) (hj : j < E.length) (hjk : j ≠ k) (hs : s = 1 ∨ s = -1)
    (he : (t = 2 * j ∧ s = 1 ∧ src E j = q ∧ dst E j = new) ∨ (t = 2 * j + 1 ∧ s = -1 ∧ dst E j = q ∧ src E j = new)) : BI n E k (seen ++ [new]) (S ++ [R ++ [(j, s)]]) a (t + 1) := by
  have hal : a < seen.length := (List.getElem?_eq_some_iff.mp hq).1
  have old : ∀ {i q'}, i < seen.length → (seen ++ [new])[i]? = some q' → seen[i]? = some q' := fun {i q'} hi h => by
    rw [List.getElem?_append_left hi] at h
    exact h
  have hmq : q ∈ seen := List.mem_of_getElem? hq
  have up : ∀ {x}, x ∈ seen → x ∈ seen ++ [new] := fun h => List.mem_append_left _ h
  have W := b.walk a q R hq hR
  have jn : j ∉ R.map (·.1) := fun hm => by
    obtain ⟨p, hp, e⟩ := List.mem_map.mp hm
    rcases W.ends p hp with h | ⟨h1, h2⟩
    · exact hjk (e ▸ h)
    · rw [e] at h1 h2
      rcases he with ⟨_, _, _, z⟩ | ⟨_, _, _, z⟩
      · exact hnew (z ▸ h2)
      · exact hnew (z ▸ h1)
  refine ⟨by simp [b.len], ?_, fun x hx => ?_, up b.y, fun i x R' h1 h2 => ?_, fun i x hi h => b.past i x hi (old (by omega) h), fun i x j' hi h hj' hk' => ?_, fun x j' h hj' hk' => ?_⟩
  · refine List.nodup_append.mpr ⟨b.nd, by simp, fun x hx y hy e => ?_⟩
    have e2 : y = new := by simpa using hy
    exact hnew (e2 ▸ e ▸ hx)
  · rcases List.mem_append.mp hx with h | h
    · exact b.lt x h
    · have e : x = new := by simpa using h
      rw [e]
      exact hn
  · by_cases hi : i < seen.length
    · rw [List.getElem?_append_left hi] at h1
      rw [List.getElem?_append_left (by rw [b.len]; exact hi)] at h2
      have W' := b.walk i x R' h1 h2
      exact ⟨W'.sum, W'.nd, W'.lt, W'.sg, fun p hp => (W'.ends p hp).imp id fun h => ⟨up h.1, up h.2⟩, W'.own⟩
    · have ei : i = seen.length := by
        have := (List.getElem?_eq_some_iff.mp h1).1
        simp at this
        omega
      subst ei
      have e1 : new = x := by simpa using h1
      have e2 : R ++ [(j, s)] = R' := by
        have h3 := h2
        rw [← b.len] at h3
        simpa using h3
      subst e1
      subst e2
      refine ⟨fun f => ?_, ?_, fun p hp => ?_, fun p hp => ?_, fun p hp => ?_, List.mem_append_left _ W.own⟩
      · rw [rsum_app, W.sum]
        rcases he with ⟨_, e, z1, z2⟩ | ⟨_, e, z1, z2⟩
        · rw [e]
          unfold pd
          rw [z1, z2]
          omega
        · rw [e]
          unfold pd
          rw [z1, z2]
          omega
      · rw [List.map_append]
        refine List.nodup_append.mpr ⟨W.nd, by simp, fun x hx y hy e => ?_⟩
        have e2 : y = j := by simpa using hy
        exact jn (e2 ▸ e ▸ hx)
      · rcases List.mem_append.mp hp with h | h
        · exact W.lt p h
        · have e : p = (j, s) := by simpa using h
          rw [e]
          exact hj
      · rcases List.mem_append.mp hp with h | h
        · exact W.sg p h
        · have e : p = (j, s) := by simpa using h
          rw [e]
          exact hs
      · rcases List.mem_append.mp hp with h | h
        · exact (W.ends p h).imp id fun h => ⟨up h.1, up h.2⟩
        · have e : p = (j, s) := by simpa using h
          rw [e]
          refine .inr ?_
          rcases he with ⟨_, _, z1, z2⟩ | ⟨_, _, z1, z2⟩
          · rw [z1, z2]
            exact ⟨up hmq, by simp⟩
          · rw [z1, z2]
            exact ⟨by simp, up hmq⟩
  · obtain ⟨f1, f2⟩ := b.shut i x j' hi (old (by omega) h) hj' hk'
    exact ⟨fun z => up (f1 z), fun z => up (f2 z)⟩
  · have hx := old hal h
    have ex : q = x := Option.some.inj (hq.symm.trans hx)
    subst ex
    obtain ⟨f1, f2⟩ := b.now q j' hq hj' hk'
    refine ⟨fun ht hs => ?_, fun ht hs => ?_⟩
    · by_cases e : 2 * j' < t
      · exact up (f1 e hs)
      · rcases he with ⟨e1, _, _, z2⟩ | ⟨e1, _, _, _⟩
        · have : j' = j := by omega
          rw [this, z2]
          simp
        · omega
    · by_cases e : 2 * j' + 1 < t
      · exact up (f2 e hs)
      · rcases he with ⟨e1, _, _, _⟩ | ⟨e1, _, _, z2⟩
        · omega
        · have : j' = j := by omega
          rw [this, z2]
          simp
theorem BI.next (b : BI n E k seen S a t) {q : Nat} (hq : seen[a]? = some q) (hx : q ≠ src E k) (ht : 2 * E.length ≤ t) : BI n E k seen S (a + 1) 0 :=
  ⟨b.len, b.nd, b.lt, b.y, b.walk, fun i x hi h => by
    by_cases e : i = a
    · rw [e, hq] at h
      rw [← Option.some.inj h]
      exact hx
    · exact b.past i x (by omega) h, fun i x j hi h hj hk => by
    by_cases e : i = a
    · rw [e] at h
      obtain ⟨f1, f2⟩ := b.now x j h hj hk
      exact ⟨f1 (by omega), f2 (by omega)⟩
    · exact b.shut i x j (by omega) h hj hk, fun q j _ _ _ => ⟨fun h => by omega, fun h => by omega⟩⟩
theorem BI.hit (b : BI n E k seen S a t) {R : Ring} (hq : seen[a]? = some (src E k)) (hR : S[a]? = some R) : RingSpec E k R := by
  have W := b.walk a _ R hq hR
  refine ⟨⟨fun f => ?_, W.nd, W.lt, W.sg⟩, fun e => ?_, fun _ => W.own⟩
  rotate_left
  · have := W.own
    rw [e] at this
    simp at this
  rw [W.sum]
  omega
theorem BI.none (b : BI n E k seen S a t) (ha : seen.length ≤ a) : RingSpec E k [] := by
  refine ⟨⟨fun f => rfl, by simp, fun p hp => by simp at hp, fun p hp => by simp at hp⟩, fun _ => ⟨fun x => x ∈ seen, b.y, fun h => ?_, fun j hj hk => ⟨fun h => ?_, fun h => ?_⟩⟩, fun h => absurd rfl h⟩
  · obtain ⟨i, hi, e⟩ := List.mem_iff_getElem.mp h
    exact b.past i _ (by omega) (by rw [List.getElem?_eq_getElem hi, e]) rfl
  · obtain ⟨i, hi, e⟩ := List.mem_iff_getElem.mp h
    exact (b.shut i _ j (by omega) (by rw [List.getElem?_eq_getElem hi, e]) hj hk).1 rfl
  · obtain ⟨i, hi, e⟩ := List.mem_iff_getElem.mp h
    exact (b.shut i _ j (by omega) (by rw [List.getElem?_eq_getElem hi, e]) hj hk).2 rfl
end
theorem nodup_le : ∀ {n : Nat} {l : List Nat}, l.Nodup → (∀ x ∈ l, x < n) → l.length ≤ n
  | 0, l, _, h => by
    cases l with
    | nil => simp
    | cons x r => exact absurd (h x (by simp)) (by omega)
  | n + 1, l, nd, h => by
    have nd' : (l.erase n).Nodup := nd.erase n
    have h' : ∀ x ∈ l.erase n, x < n := fun x hx => by
      have := h x (List.mem_of_mem_erase hx)
      have ne : x ≠ n := fun e => by
        rw [e] at hx
        exact absurd rfl (nd.mem_erase_iff.mp hx).1
      omega
    have := nodup_le nd' h'
    have := List.length_erase (l := l) (a := n)
    split at this <;> omega
theorem BI.le {n : Nat} {E : Web} {k : Nat} {seen : List Nat} {S : List Ring} {a t : Nat} (b : BI n E k seen S a t) : seen.length ≤ n := nodup_le b.nd b.lt
theorem RingOk.le {E : Web} {R : Ring} (r : RingOk E R) : R.length ≤ E.length := by
  have := nodup_le (n := E.length) r.nd (fun x hx => by
    obtain ⟨p, hp, e⟩ := List.mem_map.mp hx
    rw [← e]
    exact r.lt p hp)
  simpa using this
theorem at0_set {r : List Int} {i : Nat} {c : Int} (hi : i < r.length) (k : Nat) : at0 (r.set i c) k = if k = i then c else at0 r k := by
  unfold at0
  rw [List.getD_eq_getElem?_getD, List.getD_eq_getElem?_getD, List.getElem?_set]
  by_cases e : i = k
  · subst e
    simp [hi]
  · rw [if_neg e, if_neg (Ne.symm e)]
theorem dot_set {m : Nat} {r : List Int} {i : Nat} {c : Int} (w : Nat → Int) (hi : i < m) (hl : r.length = m) : dot m (at0 (r.set i c)) w = dot m (at0 r) w + (c - at0 r i) * w i := by
  unfold dot
  have hg : ∀ k, at0 (r.set i c) k * w k = if k = i then c * w i else at0 r k * w k := fun k => by
    rw [at0_set (by omega)]
    by_cases e : k = i
    · rw [if_pos e, if_pos e, e]
    · rw [if_neg e, if_neg e]
  rw [sumR_congr fun k _ => hg k, sumR_set (g := fun k => at0 r k * w k) hi, Int.sub_mul]
theorem mem_at0 {r : List Int} {c : Int} (h : c ∈ r) : ∃ i, i < r.length ∧ at0 r i = c := by
  obtain ⟨i, hi, e⟩ := List.mem_iff_getElem.mp h
  exact ⟨i, hi, by simp [at0, List.getD_eq_getElem?_getD, hi, e]⟩
theorem at0_zero (m i : Nat) : at0 (List.replicate m 0) i = 0 := by
  unfold at0
  rw [List.getD_eq_getElem?_getD, List.getElem?_replicate]
  split <;> rfl
theorem dot_zero (m : Nat) (w : Nat → Int) : dot m (at0 (List.replicate m 0)) w = 0 := by
  unfold dot
  rw [sumR_congr (h := fun _ => 0) fun k _ => by rw [at0_zero]; simp]
  exact sumR_zero m
/-- the first i steps of a ring of a part of the web are written in -/
structure AI (m : Nat) (φ : Nat → Nat) (R : Ring) (i : Nat) (r : List Int) : Prop where
  len : r.length = m
  sum : ∀ w, dot m (at0 r) w = rsum (R.take i) fun x => w (φ x)
  small : ∀ k, -1 ≤ at0 r k ∧ at0 r k ≤ 1
  from_ : ∀ k, at0 r k ≠ 0 → ∃ p ∈ R.take i, φ p.1 = k
  put : ∀ p ∈ R.take i, at0 r (φ p.1) = p.2
theorem ai_start (m : Nat) (φ : Nat → Nat) (R : Ring) : AI m φ R 0 (List.replicate m 0) where
  len := by simp
  sum := fun w => by rw [dot_zero]; rfl
  small := fun k => by rw [at0_zero]; omega
  from_ := fun k h => absurd (at0_zero m k) h
  put := fun p h => by simp at h
theorem AI.step {m : Nat} {φ : Nat → Nat} {R : Ring} {i : Nat} {r : List Int} {a : Nat} {s : Int} (A : AI m φ R i r) (h : R[i]? = some (a, s)) (hs : s = 1 ∨ s = -1) (hsg : ∀ p ∈ R, p.2 = 1 ∨ p.2 = -1) (nd : (R.map (·.1)).Nodup) (hm : φ a < m)
    (inj : ∀ p ∈ R, φ p.1 = φ a → p.1 = a) : AI m φ R (i + 1) (r.set (φ a) s) := by
  have fresh : at0 r (φ a) = 0 := by
    by_cases z : at0 r (φ a) = 0
    · exact z
    · obtain ⟨p, hp, e⟩ := A.from_ _ z
      have e2 := inj p (List.mem_of_mem_take hp) e
      obtain ⟨j, hj, ej⟩ := List.mem_iff_getElem.mp hp
      have hjl : j < i ∧ j < R.length := by
        simp at hj
        omega
      have hil : i < R.length := (List.getElem?_eq_some_iff.mp h).1
      have e3 : R[j] = p := by
        rw [← ej]
        simp
      have e4 : R[i] = (a, s) := (List.getElem?_eq_some_iff.mp h).2
      have := (List.getElem_inj (h₀ := by simpa using hjl.2) (h₁ := by simpa using hil) nd).mp (by simp [e3, e4, e2])
      omega
  have hl : φ a < r.length := by
    rw [A.len]
    exact hm
  have tk : R.take (i + 1) = R.take i ++ [(a, s)] := by
    rw [List.take_add_one, h]
    rfl
  refine ⟨by simpa using A.len, fun w => ?_, fun k => ?_, fun k hk => ?_, fun p hp => ?_⟩
  · rw [dot_set w hm A.len, fresh, A.sum, rsum_take _ h]
    simp
  · rw [at0_set hl]
    split
    · rcases hs with e | e <;> rw [e] <;> decide
    · exact A.small k
  · rw [at0_set hl] at hk
    rw [tk]
    by_cases e : k = φ a
    · exact ⟨(a, s), by simp, e.symm⟩
    · rw [if_neg e] at hk
      obtain ⟨p, hp, e2⟩ := A.from_ k hk
      exact ⟨p, List.mem_append_left _ hp, e2⟩
  · rw [at0_set hl]
    rw [tk] at hp
    rcases List.mem_append.mp hp with h1 | h1
    · have e1 := A.put p h1
      by_cases e : φ p.1 = φ a
      · have : at0 r (φ p.1) = 0 := by
          rw [e]
          exact fresh
        have := inj p (List.mem_of_mem_take h1) e
        rcases hsg p (List.mem_of_mem_take h1) with z | z <;> omega
      · rw [if_neg e]
        exact e1
    · have e : p = (a, s) := by simpa using h1
      rw [e, if_pos rfl]
def hp0 (heaps : List Nat) (p : Nat) : Nat := heaps.getD p 0
def arr (E : Web) (j : Nat) : Nat × Nat := (src E j, dst E j)
def part (E : Web) (tree : List Nat) (k : Nat) : Web := tree.map (arr E) ++ [arr E k]
def phi (tree : List Nat) (k : Nat) (a : Nat) : Nat := if a = tree.length then k else tree.getD a 0
theorem part_at {E : Web} {tree : List Nat} {k a : Nat} (ha : a < tree.length + 1) : src (part E tree k) a = src E (phi tree k a) ∧ dst (part E tree k) a = dst E (phi tree k a) := by
  have e : (part E tree k).getD a (0, 0) = arr E (phi tree k a) := by
    unfold part phi
    rw [List.getD_eq_getElem?_getD]
    by_cases h : a = tree.length
    · subst h
      rw [if_pos rfl, List.getElem?_append_right (by simp)]
      simp
    · have h2 : a < tree.length := by omega
      rw [if_neg h, List.getElem?_append_left (by simpa using h2)]
      simp [List.getD_eq_getElem?_getD, h2]
  unfold src dst
  rw [e]
  exact ⟨rfl, rfl⟩
structure GI (n : Nat) (E : Web) (k : Nat) (heaps tree : List Nat) (found : List (List Int)) : Prop where
  len : heaps.length = n
  tlt : ∀ j ∈ tree, j < k
  tnd : tree.Nodup
  t1 : ∀ j, j < k → hp0 heaps (src E j) = hp0 heaps (dst E j)
  t2 : ∀ C : Nat → Prop, (∀ j ∈ tree, (C (src E j) ↔ C (dst E j))) → ∀ p q, p < n → q < n → hp0 heaps p = hp0 heaps q → C p → C q
  t3 : ∀ v : Nat → Int, (∀ r ∈ found, dot E.length (at0 r) v = 0) → ∃ h, ∀ j, j < k → v j = pd E h j
  t4 : ∀ r ∈ found, r.length = E.length ∧ (∀ f, dot E.length (at0 r) (pd E f) = 0) ∧ ∀ i, -1 ≤ at0 r i ∧ at0 r i ≤ 1
theorem gi_start (n : Nat) (E : Web) : GI n E 0 (List.range n) [] [] where
  len := by simp
  tlt := fun j h => by simp at h
  tnd := by simp
  t1 := fun j h => by omega
  t2 := fun C _ p q hp hq e hC => by
    have : p = q := by simpa [hp0, List.getD_eq_getElem?_getD, hp, hq] using e
    rw [← this]
    exact hC
  t3 := fun v _ => ⟨fun _ => 0, fun j h => by omega⟩
  t4 := fun r h => by simp at h
section
variable {n : Nat} {E : Web} {k : Nat} {heaps tree : List Nat} {found : List (List Int)}
theorem GI.join (G : GI n E k heaps tree found) (g : Good n E) (hk : k < E.length) (hne : hp0 heaps (src E k) ≠ hp0 heaps (dst E k)) :
    GI n E (k + 1) (heaps.map fun h => if h = hp0 heaps (dst E k) then hp0 heaps (src E k) else h) (tree ++ [k]) found := by
  have hm : ∀ p, p < n → hp0 (heaps.map fun h => if h = hp0 heaps (dst E k) then hp0 heaps (src E k) else h) p = if hp0 heaps p = hp0 heaps (dst E k) then hp0 heaps (src E k) else hp0 heaps p := fun p hp => by
    have hl : p < heaps.length := by
      rw [G.len]
      exact hp
    simp [hp0, List.getD_eq_getElem?_getD, hl]
  have hs := g.src hk
  have hd := g.dst hk
  refine ⟨by simpa using G.len, fun j hj => ?_, ?_, fun j hj => ?_, fun C hC p q hp hq e hCp => ?_, fun v hv => ?_, G.t4⟩
  · rcases List.mem_append.mp hj with h | h
    · have := G.tlt j h
      omega
    · have : j = k := by simpa using h
      omega
  · refine List.nodup_append.mpr ⟨G.tnd, by simp, fun x hx y hy e => ?_⟩
    have e2 : y = k := by simpa using hy
    have := G.tlt x hx
    omega
  · have hjl : j < E.length := by omega
    rw [hm _ (g.src hjl), hm _ (g.dst hjl)]
    by_cases e : j = k
    · rw [e, if_neg hne, if_pos rfl]
    · rw [G.t1 j (by omega)]
  · have hC0 : ∀ j ∈ tree, (C (src E j) ↔ C (dst E j)) := fun j hj => hC j (List.mem_append_left _ hj)
    have hCk : C (src E k) ↔ C (dst E k) := hC k (by simp)
    have t2 := G.t2 C hC0
    rw [hm p hp, hm q hq] at e
    by_cases e1 : hp0 heaps p = hp0 heaps (dst E k)
    · rw [if_pos e1] at e
      by_cases e2 : hp0 heaps q = hp0 heaps (dst E k)
      · exact t2 p q hp hq (e1.trans e2.symm) hCp
      · rw [if_neg e2] at e
        exact t2 _ q hs hq e (hCk.mpr (t2 p _ hp hd e1 hCp))
    · rw [if_neg e1] at e
      by_cases e2 : hp0 heaps q = hp0 heaps (dst E k)
      · rw [if_pos e2] at e
        exact t2 _ q hd hq e2.symm (hCk.mp (t2 p _ hp hs e hCp))
      · rw [if_neg e2] at e
        exact t2 p q hp hq e hCp
  · obtain ⟨h, hh⟩ := G.t3 v hv
    refine ⟨fun x => if hp0 heaps x = hp0 heaps (dst E k) then h x + (v k - pd E h k) else h x, fun j hj => ?_⟩
    have hjl : j < E.length := by omega
    show v j = (if hp0 heaps (dst E j) = hp0 heaps (dst E k) then h (dst E j) + (v k - pd E h k) else h (dst E j)) - (if hp0 heaps (src E j) = hp0 heaps (dst E k) then h (src E j) + (v k - pd E h k) else h (src E j))
    by_cases e : j = k
    · subst e
      rw [if_pos rfl, if_neg hne]
      unfold pd
      omega
    · have z := hh j (by omega)
      unfold pd at z
      rw [← G.t1 j (by omega)]
      by_cases e1 : hp0 heaps (src E j) = hp0 heaps (dst E k)
      · rw [if_pos e1, if_pos e1]
        omega
      · rw [if_neg e1, if_neg e1]
        exact z
theorem GI.ring (G : GI n E k heaps tree found) (g : Good n E) (hk : k < E.length) (heq : hp0 heaps (src E k) = hp0 heaps (dst E k)) {R : Ring} {r : List Int} (hR : RingSpec (part E tree k) tree.length R)
    (hr : AI E.length (phi tree k) R R.length r) : GI n E (k + 1) heaps tree (found ++ [r]) := by
  have pl : (part E tree k).length = tree.length + 1 := by simp [part]
  have ne : R ≠ [] := fun e => by
    obtain ⟨C, c1, c2, c3⟩ := hR.none e
    have pk := part_at (E := E) (tree := tree) (k := k) (a := tree.length) (by omega)
    have ph : phi tree k tree.length = k := if_pos rfl
    rw [ph] at pk
    rw [pk.2] at c1
    rw [pk.1] at c2
    refine c2 (G.t2 C (fun j hj => ?_) _ _ (g.dst hk) (g.src hk) heq.symm c1)
    obtain ⟨a, ha, ea⟩ := List.mem_iff_getElem.mp hj
    have pa := part_at (E := E) (tree := tree) (k := k) (a := a) (by omega)
    have pj : phi tree k a = j := by
      unfold phi
      rw [if_neg (by omega)]
      simp [List.getD_eq_getElem?_getD, ha, ea]
    rw [pj] at pa
    have := c3 a (by omega) (by omega)
    rw [pa.1, pa.2] at this
    exact this
  have flat : ∀ f, dot E.length (at0 r) (pd E f) = 0 := fun f => by
    rw [hr.sum, List.take_length, ← hR.ok.sum f]
    refine rsum_congr fun p hp => ?_
    have := part_at (E := E) (tree := tree) (k := k) (a := p.1) (by have := hR.ok.lt p hp; omega)
    unfold pd
    rw [this.1, this.2]
  refine ⟨G.len, fun j hj => Nat.lt_succ_of_lt (G.tlt j hj), G.tnd, fun j hj => ?_, G.t2, fun v hv => ?_, fun x hx => ?_⟩
  · by_cases e : j = k
    · rw [e]
      exact heq
    · exact G.t1 j (by omega)
  · obtain ⟨h, hh⟩ := G.t3 v fun x hx => hv x (List.mem_append_left _ hx)
    refine ⟨h, fun j hj => ?_⟩
    by_cases e : j = k
    · subst e
      have z1 := hv r (by simp)
      have z2 := flat h
      obtain ⟨s, hs, es⟩ : ∃ s : Int, (s = 1 ∨ s = -1) ∧ at0 r j = s := by
        have z := hr.put (tree.length, 1) (by rw [List.take_length]; exact hR.own ne)
        have ph : phi tree j tree.length = j := if_pos rfl
        refine ⟨1, .inl rfl, ?_⟩
        rw [← ph]
        exact z
      have low : ∀ i, j < i → at0 r i = 0 := fun i hi => by
        by_cases z : at0 r i = 0
        · exact z
        · obtain ⟨p, hp, e⟩ := hr.from_ i z
          have hlt := hR.ok.lt p (List.mem_of_mem_take hp)
          unfold phi at e
          split at e
          · omega
          · rename_i nz
            have hl : p.1 < tree.length := by omega
            have : tree[p.1] = i := by simpa [List.getD_eq_getElem?_getD, hl] using e
            have := G.tlt i (this ▸ List.getElem_mem hl)
            omega
      have d : dot E.length (at0 r) (fun i => v i + (-1) * pd E h i) = 0 := by
        rw [dot_add, dot_mul, z1, z2]
        rfl
      have d2 : dot E.length (at0 r) (fun i => v i + (-1) * pd E h i) = s * (v j - pd E h j) := by
        unfold dot
        rw [sumR_congr (h := fun i => if i = j then s * (v j - pd E h j) else (fun _ => 0) i) fun i hi => ?_, sumR_set (g := fun _ => 0) hk, sumR_zero]
        · omega
        · by_cases e : i = j
          · subst e
            rw [if_pos rfl, es]
            show s * (v i + (-1) * pd E h i) = s * (v i - pd E h i)
            congr 1
            omega
          · rw [if_neg e]
            show at0 r i * (v i + (-1) * pd E h i) = 0
            by_cases l : i < j
            · have z : v i + (-1) * pd E h i = 0 := by
                have := hh i l
                omega
              rw [z]
              simp
            · rw [low i (by omega)]
              simp
      rw [d] at d2
      rcases hs with e | e <;> rw [e] at d2 <;> omega
    · exact hh j (by omega)
  · rcases List.mem_append.mp hx with h | h
    · exact G.t4 x h
    · have e : x = r := by simpa using h
      rw [e]
      exact ⟨hr.len, flat, hr.small⟩
/-- pulls are what is upright to the rings -/
theorem GI.pulls (G : GI n E E.length heaps tree found) {v : List Int} (hl : v.length = E.length) : IsPull E v ↔ ∀ r ∈ found, dot E.length (at0 r) (at0 v) = 0 := by
  constructor
  · rintro ⟨f, hf⟩ r hr
    rw [dot_congr (fun _ _ => rfl) fun k hk => (pull_iff hl).mp hf k hk]
    exact (G.t4 r hr).2.1 f
  · intro h
    obtain ⟨f, hf⟩ := G.t3 (at0 v) h
    exact ⟨f, (pull_iff hl).mpr hf⟩
end
end KM
namespace KR
open PySem PySem.Spec PyProof.Rows L2
section
variable {X : Cx}
theorem op_mulI : OpR X (binaryOp .Mult) (rI IntMulOk fun i j => .int (i * j)) := opI fun _ _ _ _ _ _ _ hc q => mul_int q hc
/-- bits of a number below a power of two -/
theorem bits_lt {i : Int} {a : Nat} (h : i.natAbs < 2 ^ a) : Builtin.Int.intBits i ≤ a := by
  unfold Builtin.Int.intBits
  split
  · exact Nat.zero_le _
  · rename_i h0
    have : i.natAbs ≠ 0 := by simpa using h0
    have := (Nat.log2_lt this).mpr h
    omega
theorem mulOk_of {i j : Int} {a b : Nat} (ha : i.natAbs < 2 ^ a) (hb : j.natAbs < 2 ^ b) (h : a + b ≤ 134217728) : IntMulOk i j := by
  have h1 := bits_lt ha
  have h2 := bits_lt hb
  have e : bitsLine = 134217728 := by decide
  unfold IntMulOk
  intro z
  rw [Bool.and_eq_true] at z
  have z2 := z.2
  unfold Builtin.Int.intTooBig at z2
  have z3 := of_decide_eq_true z2
  rw [e] at z3
  omega
theorem get_list : PGet X (rIxL X.K) := by
  intro pins s σ H o i ov iv Q I ro ri h
  obtain ⟨p, xs, k, z, rfl, rfl, hq, he, q⟩ := h
  cases ro
  obtain ⟨t, rfl⟩ := ri
  obtain ⟨its, r, pl, hz⟩ := I.list hq
  obtain ⟨j, h1, h2, h3, h4, h5⟩ := atI_get he
  obtain ⟨w, ew, rw'⟩ := r.get h2
  have hl := r.length
  have hn := line63
  by_cases h0 : 0 ≤ k
  · have hj : k.toNat = j := by
      rw [seqIndex_of h0 h5] at h1
      exact Option.some.inj h1
    exact wpAny_getItem_list pl.isList h0 (by omega) (by rw [hj]; simpa using ew) ⟨z, H, I, rw', q⟩
  · have hj : (k + (its.toArray.size : Int)).toNat = j := by
      rw [seqIndex_neg (by omega) h4] at h1
      rw [List.size_toArray, ← hl]
      exact Option.some.inj h1
    exact wpAny_getItem_list_neg pl.isList (by omega) (by rw [List.size_toArray] <;> omega) (by omega) (by rw [hj]; simpa using ew) ⟨z, H, I, rw', q⟩
theorem adjust_back (n : Nat) : Builtin.Slice.sliceAdjust none none (-1) (n : Int) = ((n : Int) - 1, -1) := by
  unfold Builtin.Slice.sliceAdjust
  simp
theorem places_back (n : Nat) : Builtin.Slice.slicePlaces ((n : Int) - 1) (-1) (-1) = n := by
  unfold Builtin.Slice.slicePlaces
  rw [if_neg (by decide)]
  split
  · rw [show (-(-1) : Int) = 1 from rfl, Int.ediv_one]
    omega
  · omega
theorem pick_back (xs : Array Value) : ((List.range xs.size).filterMap fun (k : Nat) => xs[(((xs.size : Nat) : Int) - 1 + (k : Int) * -1).toNat]?).toArray = xs.toList.reverse.toArray := by
  have h := PySem.W.krv_all xs
  have e : ((List.range xs.size).filterMap fun (k : Nat) => xs[(((xs.size : Nat) : Int) - 1 + (k : Int) * -1).toNat]?) = ((List.range xs.size).map fun k => xs.size - 1 - k).filterMap (xs[·]?) := by
    rw [List.filterMap_map]
    refine congrArg (fun f => List.filterMap f _) (funext fun k => ?_)
    have z : (((xs.size : Nat) : Int) - 1 + (k : Int) * -1).toNat = xs.size - 1 - k := by omega
    show xs[(((xs.size : Nat) : Int) - 1 + (k : Int) * -1).toNat]? = xs[xs.size - 1 - k]?
    rw [z]
  rw [e, PySem.W.krv_range, List.filterMap_reverse, h]
theorem getItem_tuple_back {prog : Program} {w : World} {A : Around} {E : Value → Shared → Prop} {s : Shared} {t sl : Addr} {items : Array Value} {u : Tok} {Q : Value → Shared → Prop} (ht : IsTup s.heap t items) (hs : s.heap.IsSliceOf sl .none .none (.int (-1) u))
    (h : Q (.ref s.heap.objs.size) { s with heap := s.heap.push { cls := .type "tuple", data := .seq items.toList.reverse.toArray } })
    (hsz : items.size ≤ sizeLine) : wpAny (model prog w) A (getItem (.ref t) (.ref sl)) Q E s := by
  have htake : sizeOk (.seq items.toList.reverse.toArray) := by
    show items.toList.reverse.toArray.size ≤ sizeLine
    rw [List.size_toArray, List.length_reverse, Array.length_toList]
    exact hsz
  obtain ⟨os, hos, hcs, hds⟩ := id hs
  have hTs : s.TypeIs (.ref sl) "slice" := ⟨os, hos, hcs⟩
  unfold getItem
  try with_reducible refine wpAny_holding ?_
  first | refine wpAny_bind (wpAny_pure ?_) | skip
  refine wpAny_bind (wpAny_sequenceKey ht.typeIs (by decide) ?_)
  refine wpAny_bind (wpAny_callSpecial?_slot (name := Str.ofString "__getitem__") ht.typeIs PyProof.Rows.slot_tuple_getitem
    (wpAny_call_entry PyProof.Rows.slot_tuple_getitem ht.typeIs entry_tuple_getitem ?_ (args_tuple_getitem _ _)))
  show wpAny _ _ (Builtin.Tuple.tupleItemsOf (.ref t) >>= _) _ _ s
  refine wpAny_bind (tupleItemsOf_ ht ?_)
  refine wpAny_bind (wpAny_typeOf hTs ?_)
  rw [if_pos (by decide)]
  refine wpAny_bind ?_
  unfold Builtin.Slice.sliceApplied Builtin.Slice.sliceFields
  refine wpAny_bind (wpAny_bind (wpAny_field hos hds (x := .none) rfl (wpAny_bind (wpAny_field hos hds (x := .none) rfl (wpAny_bind (wpAny_field hos hds (x := .int (-1) u) rfl (wpAny_pure ?_)))))))
  refine wpAny_bind (slicePart_int ?_)
  show wpAny _ _ (if ((-1 : Int) == 0) = true then _ else _) _ _ s
  rw [if_neg (by decide)]
  refine wpAny_bind (slicePart_none (wpAny_bind (slicePart_none (wpAny_bind (wpAny_pure ?_)))))
  show wpAny _ _ (match Builtin.Slice.sliceAdjust none none (-1) ((items.size : Nat) : Int) with | (lo, hi) => pure (lo, (-1 : Int), Builtin.Slice.slicePlaces lo hi (-1))) _ _ s
  rw [adjust_back]
  show wpAny _ _ (pure (((items.size : Nat) : Int) - 1, (-1 : Int), Builtin.Slice.slicePlaces (((items.size : Nat) : Int) - 1) (-1) (-1))) _ _ s
  rw [places_back]
  refine wpAny_pure ?_
  have hno : ¬ ((((items.size : Nat) : Int) - 1 == 0 && (-1 : Int) == 1 && items.size == items.size) = true) := by
    intro q
    rw [Bool.and_eq_true, Bool.and_eq_true] at q
    exact absurd q.1.2 (by decide)
  show wpAny _ _ (if (((items.size : Nat) : Int) - 1 == 0 && (-1 : Int) == 1 && items.size == items.size) = true then _ else _) _ _ s
  rw [if_neg hno, pick_back]
  first
    | exact wpAny_bind (m := Builtin.Tuple.tupleExact _) (wpAny_newObj_type (wpAny_pure ⟨_, rfl, wpAny_pure h⟩) htake)
    | exact wpAny_bind (m := Builtin.Tuple.tupleExact _) (wpAny_newObj_type (wpAny_bind (wpAny_pure (wpAny_pure ⟨_, rfl, wpAny_pure h⟩))) htake)
def tRevT (K : PySem.W.Frag) (te : TE) : TE := fun σ H Q => te σ H fun x H1 => ∃ a xs, x = .ref a ∧ SqT K H1 a xs ∧ ∀ p, H1 p = none → Q (.ref p) (upd H1 p (.tup xs.reverse))
theorem pe_revT {e : Expr} {te : TE} {k : Nat} {p1 p2 p3 pos : Pos} (he : PE X e te) : PE X (.Subscript e (.Slice none none (some (.UnaryOp .USub (.Constant (.int 1) k p1) p2)) p3) pos) (tRevT X.K te) := by
  refine ⟨fun pins s σ H Q I h => ?_⟩
  refine Subscript_ (thn (he.run pins s σ H _ I h) fun v s1 ⟨x, H1, I1, r1, q1⟩ => ?_)
  obtain ⟨a, xs, ex, hx, q⟩ := q1
  subst ex
  cases r1
  have hst : PO X (some (.UnaryOp .USub (.Constant (.int 1) k p1) p2)) (tPart (tUn (rU fun i => .int (-i)) (tC (.int 1)))) := po_some (pe_un un_neg pe_int)
  refine wpAny_Slice (thn (po_none.run pins s1 σ H1 (fun o H2 => o = none ∧ H2 = H1) I1 ⟨rfl, rfl⟩) fun vl s2 ⟨l, H2, I2, pl, el, e2⟩ => ?_)
  subst el e2
  refine thn (po_none.run pins s2 σ H2 (fun o H3 => o = none ∧ H3 = H2) I2 ⟨rfl, rfl⟩) fun vu s3 ⟨u, H3, I3, pu, eu, e3⟩ => ?_
  subst eu e3
  refine thn (hst.run pins s3 σ H3 (fun o H4 => o = some (-1) ∧ H4 = H3) I3 ⟨1, rfl, -1, rfl, rfl, rfl⟩) fun vs s4 ⟨o, H4, I4, ps, eo, e4⟩ => ?_
  subst eo e4
  cases pl
  cases pu
  cases ps with
  | int i tk =>
  have I5 : Inv X pins σ H4 { s4 with heap := s4.heap.push { cls := .type "slice", data := .fields #[.none, .none, .int (-1) tk] } } := I4.kept (t' := s4.toks) fun b ob q => Heap.get?_push_of_some _ q
  obtain ⟨its, r, ht, hz⟩ := I5.tuple hx
  have hlen := r.length
  show wpAny (model X.prog X.w) X.A (subscriptTail e (.Slice none none (some (.UnaryOp .USub (.Constant (.int 1) k p1) p2)) p3) (.ref a) (.ref s4.heap.objs.size)) (EP X pins σ Q) X.xe { s4 with heap := s4.heap.push { cls := .type "slice", data := .fields #[.none, .none, .int (-1) tk] } }
  refine tail_any (ops := [.ref a, .ref s4.heap.objs.size]) ht.typeIs (PyProof.Rows.slot_tuple_getitem.lookup) ?_ (by with_unfolding_all rfl)
  refine getItem_tuple_back ht (Heap.IsSliceOf.new _ _ _ _) ?_ (by rw [List.size_toArray]; omega)
  refine ⟨.ref _, _, I5.laid (t' := s4.toks) (o := .tup xs.reverse) (fun b ob q => Heap.get?_push_of_some _ q) (Nat.le_refl _) ?_, rfl, q _ (I5.hok.fresh (Nat.le_refl _))⟩
  exact ⟨by rw [List.length_reverse]; exact hz, _, r.reverse, IsTup.new _ _⟩
theorem vals_intsK : ∀ {ns : List Int} {us : List Value}, Vals (ns.map V.int) us → ∀ (i : Nat) (v : Value), us[i]? = some v → ∃ n t, ns[i]? = some n ∧ v = Value.int n t
  | [], _, .nil, i, v, h => by simp at h
  | n :: ns, _, .cons r t, 0, v, h => by
    obtain ⟨k, e⟩ := r
    have q : v = Value.int n k := (Option.some.inj h).symm.trans e
    exact ⟨n, k, rfl, q⟩
  | n :: ns, _, .cons r t, i + 1, v, h => by
    obtain ⟨m, k, e1, e2⟩ := vals_intsK t i v (by simpa using h)
    exact ⟨m, k, by simpa using e1, e2⟩
theorem any_at (ns : List Int) : (List.range ns.length).any (fun i => ns.getD i 0 != 0) = ns.any (· != 0) := by
  have h : ∀ l : List Int, (List.range l.length).any (fun i => l.getD i 0 != 0) = l.any (· != 0) := fun l => by
    induction l with
    | nil => rfl
    | cons b bs ih =>
      rw [List.length_cons, List.range_succ_eq_map, List.any_cons, List.any_map, List.any_cons, ← ih]
      all_goals rfl
  exact h ns
def rAnyI (K : PySem.W.Frag) : List V → Hp → VK → Prop := fun vs H Q => ∃ (a : Addr) (ns : List Int), vs = [V.ref a] ∧ SqL K H a (ns.map V.int) ∧ Q (.bl (ns.any (· != 0))) H
theorem call_anyI (hc : X.calm = true) : CallR X (.builtin "any") (rAnyI X.K) := by
  intro pins s σ H vs us Q I r h
  obtain ⟨a, ns, rfl, hs, q⟩ := h
  obtain ⟨its, rv, hl, _⟩ := I.list hs
  rw [Vals.ref1 r]
  have hb := vals_intsK rv
  have hlen : its.length = ns.length := by
    have := rv.length
    simpa using this.symm
  refine call_any_walk (iter_any hl.isList fun s₂ e2 st hne => ?_)
  subst e2
  refine ⟨_, _, _, _, _, _, fun i => ns.getD i 0 != 0, rfl, Walks.list (A := X.A.in1) (I.ok.hd hc) _ a hne its.toArray, st, fun i v s' Q' E' hv hq => ?_, fun h' tk hk => ?_⟩
  · have hv' : its[i]? = some v := by simpa using hv
    obtain ⟨n, t, e1, rfl⟩ := hb i v hv'
    have hg : ns.getD i 0 = n := by rw [List.getD_eq_getElem?_getD, e1] <;> rfl
    have hq' : Q' (ns.getD i 0 != 0) s' := hq
    rw [hg] at hq'
    exact truthy_int hq'
  · refine ⟨.bl _, H, I.kept fun b o eo => hk b o (fun hmem => ?_) (Heap.get?_push_of_some _ eo), ?_, q⟩
    · rcases List.mem_cons.mp hmem with e1 | hmem
      · exact absurd (e1 ▸ Heap.lt_size eo) (Nat.lt_irrefl _)
      · cases hmem
    · show Value.bool _ = Value.bool _
      rw [← any_at, List.size_toArray, hlen]
theorem tuple_mul1 (l : Addr) (items : Array Value) (n : Nat) (dd : Option Addr) (sl : Array (Option Value)) (u : Tok) :
    Meets (Builtin.«tuple.__mul__» ⟨[.ref l, .int 1 u], []⟩) (fun _ R s => s.heap.get? l = some { cls := .type "tuple", dict := dd, data := .seq items n, slots := sl } ∧ R (.ok (.ret (Value.ref l))) s) :=
  .of_wp fun prog w A R s h => by
    obtain ⟨hp, g, d, tk, os⟩ := s
    obtain ⟨hl, h⟩ := h
    have f1 := AutoSeq1.idx_int
    have c0 : (decide ((1 : Int) < -(2 ^ 63)) || decide ((1 : Int) ≥ 2 ^ 63)) = false := by decide
    have c1 : (items.isEmpty || (1 : Int) == 1) = true := by rw [Bool.or_eq_true]; exact Or.inr rfl
    wp_walk using wpAny_loadPart' hl
    repeat (first
      | (refine wpAny_ite_false (decide_eq_false (by rw [c0]; exact Bool.false_ne_true)) ?_; wp_walk using wpAny_loadPart' hl)
      | (refine wpAny_ite_true (decide_eq_true (by rw [c1])) ?_; wp_walk using wpAny_loadPart' hl))
    exact ⟨_, rfl, h⟩
theorem tuple_mul0 (l : Addr) (items : Array Value) (n : Nat) (dd : Option Addr) (sl : Array (Option Value)) (u : Tok) (c1 : items.isEmpty = false) :
    Meets (Builtin.«tuple.__mul__» ⟨[.ref l, .int 0 u], []⟩) (fun _ R s => s.heap.get? l = some { cls := .type "tuple", dict := dd, data := .seq items n, slots := sl } ∧
      R (.ok (.ret (Value.ref s.heap.objs.size))) { s with heap := s.heap.push { cls := Value.type "tuple", data := Data.seq #[] }, toks := s.toks }) :=
  .of_wp fun prog w A R s h => by
    obtain ⟨hp, g, d, tk, os⟩ := s
    obtain ⟨hl, h⟩ := h
    have f1 := AutoSeq1.idx_int
    have c0 : (decide ((0 : Int) < -(2 ^ 63)) || decide ((0 : Int) ≥ 2 ^ 63)) = false := by decide
    have c1' : (items.isEmpty || (0 : Int) == 1) = false := by rw [c1]; rfl
    have c2 : (decide ((0 : Int) ≤ 0) || items.isEmpty) = true := by rw [c1]; rfl
    have hsz : (#[] : Array Value).size ≤ sizeLine := Nat.zero_le _
    wp_walk using wpAny_loadPart' hl
    repeat (first
      | (refine wpAny_ite_false (decide_eq_false (by rw [c0]; exact Bool.false_ne_true)) ?_; wp_walk using wpAny_loadPart' hl)
      | (refine wpAny_ite_false (decide_eq_false (by rw [c1']; exact Bool.false_ne_true)) ?_; wp_walk using wpAny_loadPart' hl)
      | (refine wpAny_ite_true (decide_eq_true (by rw [c2])) ?_; wp_walk using wpAny_loadPart' hl)
      | (refine wpAny_ite_false (decide_eq_false (Nat.not_lt.mpr hsz)) ?_; wp_walk using wpAny_loadPart' hl))
    exact ⟨_, rfl, h⟩
/-- t * k, 0 ≤ k: some tuple of the items k times -/
def rRepX : R2 := fun x y H Q => ∃ l k xs, x = .ref l ∧ y = .int k ∧ H l = some (.tup xs) ∧ xs ≠ [] ∧ 0 ≤ k ∧ k ≤ 1000 ∧ xs.length ≤ 1000 ∧ ∀ p H', (∀ b o, H b = some o → H' b = some o) → H' p = some (.tup (List.replicate k.toNat xs).flatten) → Q (.ref p) H'
theorem op_repX : OpR X (binaryOp .Mult) rRepX := by
  intro pins s σ H x y v u Q I rx ry h
  obtain ⟨l, k, xs, rfl, rfl, hT0, hne, h0, h2, hz, q⟩ := h
  have hT : SqT X.K H l xs := SqT.of hT0
  by_cases hk : 2 ≤ k
  · exact op_repT pins s σ H _ _ v u Q I rx ry ⟨l, k, xs, rfl, rfl, hT, hne, hk, h2, hz, fun p hp => q p _ (fun b o e => by rw [upd_ne (ne_of_none e hp)]; exact e) upd_same⟩
  · cases rx
    obtain ⟨t, rfl⟩ := ry
    obtain ⟨its, r, ⟨⟨cls, dd, data, sl⟩, ho, hc, n, hd⟩, hs⟩ := I.tuple hT
    simp only at hc hd
    subst hc hd
    have hn : its ≠ [] := fun e => hne (by
      have hle : its.length = xs.length := r.length.symm
      rw [e] at hle
      exact List.eq_nil_of_length_eq_zero hle.symm)
    have hi : its.toArray.isEmpty = false := by
      cases its with
      | nil => exact absurd rfl hn
      | cons a b => rfl
    by_cases hk1 : k = 1
    · subst hk1
      refine wpAny_binaryOp_repeat_ref (T := "tuple") (U := "int") (by decide) ⟨_, ho, rfl⟩ (fun s' => typeIs_int s' 1 t) noFill_tuple_mul F.fills_int_mul F.slot_int_rmul repeat_tuple F.slot_int_index.lookup
        (call_meets F.slot_int_rmul (typeIs_int s 1 t) F.entry_int_rmul (F.args_int_rmul_2 _ _) (int_rmul_tuple 1 t l its.toArray n dd sl)
          ⟨ho, rfl, ⟨_, ho, rfl⟩, call_meets F.slot_tuple_mul ⟨_, ho, rfl⟩ F.entry_tuple_mul (F.args_tuple_mul_2 _ _) (tuple_mul1 l its.toArray n dd sl t) ⟨ho, ?_⟩⟩)
      refine ⟨.ref l, H, I, rfl, q l H (fun _ _ e => e) ?_⟩
      have e1 : (List.replicate (1 : Int).toNat xs).flatten = xs := by simp
      rw [e1]
      exact hT0
    · have hk0 : k = 0 := by omega
      subst hk0
      refine wpAny_binaryOp_repeat_ref (T := "tuple") (U := "int") (by decide) ⟨_, ho, rfl⟩ (fun s' => typeIs_int s' 0 t) noFill_tuple_mul F.fills_int_mul F.slot_int_rmul repeat_tuple F.slot_int_index.lookup
        (call_meets F.slot_int_rmul (typeIs_int s 0 t) F.entry_int_rmul (F.args_int_rmul_2 _ _) (int_rmul_tuple 0 t l its.toArray n dd sl)
          ⟨ho, rfl, ⟨_, ho, rfl⟩, call_meets F.slot_tuple_mul ⟨_, ho, rfl⟩ F.entry_tuple_mul (F.args_tuple_mul_2 _ _) (tuple_mul0 l its.toArray n dd sl t hi) ⟨ho, ?_⟩⟩)
      have hp := I.hok.fresh (Nat.le_refl _)
      refine ⟨.ref s.heap.objs.size, upd H s.heap.objs.size (.tup []), I.laid (t' := s.toks) (o := .tup []) (fun b ob q => Heap.get?_push_of_some _ q) (Nat.le_refl _) ?_, rfl, q _ _ (fun b o e => by rw [upd_ne (ne_of_none e hp)]; exact e) upd_same⟩
      exact ⟨Nat.zero_le _, [], .nil, IsTup.new _ _⟩
end
end KR
namespace KW
open PySem PySem.Spec PyProof.Rows L2 KR
open KM (Web src dst Good)
def topS (i : Nat) : Stmt := PySem.Challenge.pw_everyflow_k75_whole_pulls_and_flows_upri.main.body.getD i (.Pass ⟨0, 0, 0, 0⟩)
abbrev s_is_integer : Stmt := topS 9
abbrev N_is_integer : List Str := ["value"]
abbrev P_is_integer : List Str := ["value"]
theorem sc_is_integer : FnScope N_is_integer P_is_integer (defScope s_is_integer) := ⟨rfl, rfl, rfl, by decide +kernel, rfl, by decide +kernel, by decide +kernel⟩
abbrev s_is_between : Stmt := topS 10
abbrev N_is_between : List Str := ["low", "value", "high"]
abbrev P_is_between : List Str := ["low", "value", "high"]
theorem sc_is_between : FnScope N_is_between P_is_between (defScope s_is_between) := ⟨rfl, rfl, rfl, by decide +kernel, rfl, by decide +kernel, by decide +kernel⟩
abbrev s_is_tuple_of : Stmt := topS 11
abbrev N_is_tuple_of : List Str := ["many", "value"]
abbrev P_is_tuple_of : List Str := ["many", "value"]
theorem sc_is_tuple_of : FnScope N_is_tuple_of P_is_tuple_of (defScope s_is_tuple_of) := ⟨rfl, rfl, rfl, by decide +kernel, rfl, by decide +kernel, by decide +kernel⟩
abbrev s_is_lot_of : Stmt := topS 12
abbrev N_is_lot_of : List Str := ["many", "value", "k", "place"]
abbrev P_is_lot_of : List Str := ["many", "value"]
theorem sc_is_lot_of : FnScope N_is_lot_of P_is_lot_of (defScope s_is_lot_of) := ⟨rfl, rfl, rfl, by decide +kernel, rfl, by decide +kernel, by decide +kernel⟩
abbrev s_check_lot : Stmt := topS 13
abbrev N_check_lot : List Str := ["many", "value"]
abbrev P_check_lot : List Str := ["many", "value"]
theorem sc_check_lot : FnScope N_check_lot P_check_lot (defScope s_check_lot) := ⟨rfl, rfl, rfl, by decide +kernel, rfl, by decide +kernel, by decide +kernel⟩
abbrev s_is_web : Stmt := topS 15
abbrev N_is_web : List Str := ["value", "arrow"]
abbrev P_is_web : List Str := ["value"]
theorem sc_is_web : FnScope N_is_web P_is_web (defScope s_is_web) := ⟨rfl, rfl, rfl, by decide +kernel, rfl, by decide +kernel, by decide +kernel⟩
abbrev s_check_web : Stmt := topS 16
abbrev N_check_web : List Str := ["web"]
abbrev P_check_web : List Str := ["web"]
theorem sc_check_web : FnScope N_check_web P_check_web (defScope s_check_web) := ⟨rfl, rfl, rfl, by decide +kernel, rfl, by decide +kernel, by decide +kernel⟩
abbrev s_excess_of : Stmt := topS 17
abbrev N_excess_of : List Str := ["web", "amounts", "found", "x", "y", "amount"]
abbrev P_excess_of : List Str := ["web", "amounts"]
theorem sc_excess_of : FnScope N_excess_of P_excess_of (defScope s_excess_of) := ⟨rfl, rfl, rfl, by decide +kernel, rfl, by decide +kernel, by decide +kernel⟩
abbrev s_are_amounts : Stmt := topS 18
abbrev N_are_amounts : List Str := ["web", "value", "amount"]
abbrev P_are_amounts : List Str := ["web", "value"]
theorem sc_are_amounts : FnScope N_are_amounts P_are_amounts (defScope s_are_amounts) := ⟨rfl, rfl, rfl, by decide +kernel, rfl, by decide +kernel, by decide +kernel⟩
abbrev s_is_flow_of : Stmt := topS 19
abbrev N_is_flow_of : List Str := ["web", "value"]
abbrev P_is_flow_of : List Str := ["web", "value"]
theorem sc_is_flow_of : FnScope N_is_flow_of P_is_flow_of (defScope s_is_flow_of) := ⟨rfl, rfl, rfl, by decide +kernel, rfl, by decide +kernel, by decide +kernel⟩
abbrev s_is_flow : Stmt := topS 20
abbrev N_is_flow : List Str := ["web", "value"]
abbrev P_is_flow : List Str := ["web", "value"]
theorem sc_is_flow : FnScope N_is_flow P_is_flow (defScope s_is_flow) := ⟨rfl, rfl, rfl, by decide +kernel, rfl, by decide +kernel, by decide +kernel⟩
abbrev s_check_heights : Stmt := topS 23
abbrev N_check_heights : List Str := ["web", "heights", "one"]
abbrev P_check_heights : List Str := ["web", "heights"]
theorem sc_check_heights : FnScope N_check_heights P_check_heights (defScope s_check_heights) := ⟨rfl, rfl, rfl, by decide +kernel, rfl, by decide +kernel, by decide +kernel⟩
abbrev s_pull_by : Stmt := topS 24
abbrev N_pull_by : List Str := ["web", "heights", "x", "y"]
abbrev P_pull_by : List Str := ["web", "heights"]
theorem sc_pull_by : FnScope N_pull_by P_pull_by (defScope s_pull_by) := ⟨rfl, rfl, rfl, by decide +kernel, rfl, by decide +kernel, by decide +kernel⟩
abbrev s_pull_of : Stmt := topS 25
abbrev N_pull_of : List Str := ["web", "heights"]
abbrev P_pull_of : List Str := ["web", "heights"]
theorem sc_pull_of : FnScope N_pull_of P_pull_of (defScope s_pull_of) := ⟨rfl, rfl, rfl, by decide +kernel, rfl, by decide +kernel, by decide +kernel⟩
abbrev s_lot_pull : Stmt := topS 26
abbrev N_lot_pull : List Str := ["web", "lot", "place"]
abbrev P_lot_pull : List Str := ["web", "lot"]
theorem sc_lot_pull : FnScope N_lot_pull P_lot_pull (defScope s_lot_pull) := ⟨rfl, rfl, rfl, by decide +kernel, rfl, by decide +kernel, by decide +kernel⟩
abbrev s_heights_by : Stmt := topS 27
abbrev N_heights_by : List Str := ["web", "amounts", "heights", "place", "here", "low", "x", "y", "amount", "one", "other", "rise"]
abbrev P_heights_by : List Str := ["web", "amounts"]
theorem sc_heights_by : FnScope N_heights_by P_heights_by (defScope s_heights_by) := ⟨rfl, rfl, rfl, by decide +kernel, rfl, by decide +kernel, by decide +kernel⟩
abbrev s_is_pull_of : Stmt := topS 28
abbrev N_is_pull_of : List Str := ["web", "value"]
abbrev P_is_pull_of : List Str := ["web", "value"]
theorem sc_is_pull_of : FnScope N_is_pull_of P_is_pull_of (defScope s_is_pull_of) := ⟨rfl, rfl, rfl, by decide +kernel, rfl, by decide +kernel, by decide +kernel⟩
abbrev s_is_pull : Stmt := topS 29
abbrev N_is_pull : List Str := ["web", "value"]
abbrev P_is_pull : List Str := ["web", "value"]
theorem sc_is_pull : FnScope N_is_pull P_is_pull (defScope s_is_pull) := ⟨rfl, rfl, rfl, by decide +kernel, rfl, by decide +kernel, by decide +kernel⟩
abbrev s_check_pull : Stmt := topS 30
abbrev N_check_pull : List Str := ["web", "pull", "one"]
abbrev P_check_pull : List Str := ["web", "pull"]
theorem sc_check_pull : FnScope N_check_pull P_check_pull (defScope s_check_pull) := ⟨rfl, rfl, rfl, by decide +kernel, rfl, by decide +kernel, by decide +kernel⟩
abbrev s_heights_of : Stmt := topS 31
abbrev N_heights_of : List Str := ["web", "pull"]
abbrev P_heights_of : List Str := ["web", "pull"]
theorem sc_heights_of : FnScope N_heights_of P_heights_of (defScope s_heights_of) := ⟨rfl, rfl, rfl, by decide +kernel, rfl, by decide +kernel, by decide +kernel⟩
abbrev s_mill : Stmt := topS 33
abbrev N_mill : List Str := ["_law_script", "_law_great_here", "_law_mixed", "_law_cell"]
abbrev P_mill : List Str := ["_law_script"]
theorem sc_mill : FnScope N_mill P_mill (defScope s_mill) := ⟨rfl, rfl, rfl, by decide +kernel, rfl, by decide +kernel, by decide +kernel⟩
abbrev s_grind : Stmt := topS 34
abbrev N_grind : List Str := ["_law_mill_here", "_law_many", "_law_found"]
abbrev P_grind : List Str := ["_law_mill_here", "_law_many"]
theorem sc_grind : FnScope N_grind P_grind (defScope s_grind) := ⟨rfl, rfl, rfl, by decide +kernel, rfl, by decide +kernel, by decide +kernel⟩
abbrev s_row : Stmt := topS 35
abbrev N_row : List Str := ["_law_mill_here", "_law_many", "_law_found", "_law_x"]
abbrev P_row : List Str := ["_law_mill_here", "_law_many"]
theorem sc_row : FnScope N_row P_row (defScope s_row) := ⟨rfl, rfl, rfl, by decide +kernel, rfl, by decide +kernel, by decide +kernel⟩
abbrev s_web : Stmt := topS 36
abbrev N_web : List Str := ["_law_mill_here", "_law_places", "_law_arrows", "_law_many", "_law_count", "_law_way", "_law_row_here", "_law_found", "_law_k", "_law_x", "_law_y"]
abbrev P_web : List Str := ["_law_mill_here", "_law_places", "_law_arrows"]
theorem sc_web : FnScope N_web P_web (defScope s_web) := ⟨rfl, rfl, rfl, by decide +kernel, rfl, by decide +kernel, by decide +kernel⟩
abbrev s_great : Stmt := topS 38
abbrev N_great : List Str := ["_law_mill_here"]
abbrev P_great : List Str := ["_law_mill_here"]
theorem sc_great : FnScope N_great P_great (defScope s_great) := ⟨rfl, rfl, rfl, by decide +kernel, rfl, by decide +kernel, by decide +kernel⟩
abbrev s_ring : Stmt := topS 44
abbrev N_ring : List Str := ["_law_web_here", "_law_k", "_law_x", "_law_y", "_law_ways", "_law_steps", "_law_seen", "_law_at", "_law_here", "_law_j", "_law_low", "_law_high", "_law_sign"]
abbrev P_ring : List Str := ["_law_web_here", "_law_k"]
theorem sc_ring : FnScope N_ring P_ring (defScope s_ring) := ⟨rfl, rfl, rfl, by decide +kernel, rfl, by decide +kernel, by decide +kernel⟩
abbrev s_some_flow : Stmt := topS 43
abbrev N_some_flow : List Str := ["_law_mill_here", "_law_web_here", "_law_found", "_law_turn", "_law_k", "_law_times", "_law_arrow", "_law_sign"]
abbrev P_some_flow : List Str := ["_law_mill_here", "_law_web_here"]
theorem sc_some_flow : FnScope N_some_flow P_some_flow (defScope s_some_flow) := ⟨rfl, rfl, rfl, by decide +kernel, rfl, by decide +kernel, by decide +kernel⟩
abbrev s_drawn : Stmt := topS 48
abbrev N_drawn : List Str := ["_law_mill_here", "_law_many", "_law_top", "_law_times", "_law_x"]
abbrev P_drawn : List Str := ["_law_mill_here", "_law_many"]
theorem sc_drawn : FnScope N_drawn P_drawn (defScope s_drawn) := ⟨rfl, rfl, rfl, by decide +kernel, rfl, by decide +kernel, by decide +kernel⟩
abbrev s_sum : Stmt := topS 49
abbrev N_sum : List Str := ["_law_one", "_law_other", "_law_k"]
abbrev P_sum : List Str := ["_law_one", "_law_other"]
theorem sc_sum : FnScope N_sum P_sum (defScope s_sum) := ⟨rfl, rfl, rfl, by decide +kernel, rfl, by decide +kernel, by decide +kernel⟩
abbrev s_rings : Stmt := topS 50
abbrev N_rings : List Str := ["_law_web_here", "_law_heaps", "_law_tree", "_law_found", "_law_k", "_law_x", "_law_y", "_law_part", "_law_ring_here", "_law_arrow", "_law_sign", "_law_heap", "_law_j"]
abbrev P_rings : List Str := ["_law_web_here"]
theorem sc_rings : FnScope N_rings P_rings (defScope s_rings) := ⟨rfl, rfl, rfl, by decide +kernel, rfl, by decide +kernel, by decide +kernel⟩
abbrev s_law : Stmt := topS 51
abbrev N_law : List Str := ["_law_script", "_law_mill_here", "_law_web_here", "_law_many", "_law_heights_here", "_law_others", "_law_pull_here", "_law_flow", "_law_rings_here", "_law_singles", "_law_loose", "_law_value", "_law_upright", "_law_level", "_law_lot", "_law_times", "_law_both", "_law_other", "_law_rest", "_law_x", "_law_ends", "_law_k", "_law_one", "_law_ring_here"]
abbrev P_law : List Str := ["_law_script"]
theorem sc_law : FnScope N_law P_law (defScope s_law) := ⟨rfl, rfl, rfl, by decide +kernel, rfl, by decide +kernel, by decide +kernel⟩
/-- the built-in names that the text does not bind -/
structure Bt (mg : Str → Option Value) : Prop where
  isinstance : mg "isinstance" = none
  len : mg "len" = none
  all : mg "all" = none
  any : mg "any" = none
  sum : mg "sum" = none
  max : mg "max" = none
  abs : mg "abs" = none
  tuple : mg "tuple" = none
  int : mg "int" = none
  bool : mg "bool" = none
  list : mg "list" = none
  range : mg "range" = none
  zip : mg "zip" = none
structure Cn (mg : Str → Option Value) (t1 t2 t3 : Tok) : Prop where
  MOST_PLACES : mg "MOST_PLACES" = some (.int 10 t1)
  MOST_ARROWS : mg "MOST_ARROWS" = some (.int 15 t2)
  MOST_HEIGHT : mg "MOST_HEIGHT" = some (.int (10 ^ 60) t3)
/-- a def that keeps its promise, by its name -/
structure Def (P : Program) (w : World) (K : PySem.W.Frag) (mg : Str → Option Value) (base : Heap) (x : Str) (ps : List Str) (k : Nat) (sp : Sp) : Prop where
  ex : ∃ (f : Addr) (fd : FuncData), FnOk P w K mg base CX0 k f fd ps sp ∧ mg x = some (.ref f) ∧ PySem.W.keepIn K (.ref f) = true ∧ Binds K fd ps []
theorem pe_cd {X : Cx} {x : Str} {ps : List Str} {k : Nat} {sp : Sp} {e : Expr} {es : List Expr} {t : TA} {p pos : Pos} (D : Def X.prog X.w X.K X.mg X.base x ps k sp) (hr : Room k X.A) (hg : Gl X x) (ha : PA X (e :: es) t)
    (hdb : (x == ("__debug__" : Str)) = false := by decide) (he : starEach (e :: es) X.env = (false, eval e X.env) :: starEach es X.env := by rfl) (hpl : (backTo pos (starEach es X.env)).any (·.1) = false := by rfl) :
    PE X (.Call (.Name x p) (e :: es) [] pos) (tCall sp [] E0 t) := by
  obtain ⟨f, fd, F, hm, hk, hb⟩ := D.ex
  exact pe_call F hr hg hm hk hb .nil pass0 ha hdb he hpl
def Ex (H H' : Hp) : Prop := ∀ a o, H a = some o → H' a = some o
theorem Ex.refl (H : Hp) : Ex H H := fun _ _ h => h
theorem Ex.trans {H H1 H2 : Hp} (a : Ex H H1) (b : Ex H1 H2) : Ex H H2 := fun x o h => b x o (a x o h)
theorem Ex.new {H : Hp} {p : Addr} {o : HO} (h : H p = none) : Ex H (upd H p o) := fun a u e => by
  rw [upd_ne (ne_of_none e h)]
  exact e
/-- an object that H does not know may change -/
theorem Ex.mut {H H' : Hp} {p : Addr} {o : HO} (e : Ex H H') (h : H p = none) : Ex H (upd H' p o) := fun a u ha => by
  rw [upd_ne (ne_of_none ha h)]
  exact e a u ha
theorem Ex.back {H H' : Hp} {p : Addr} (e : Ex H H') (h : H' p = none) : H p = none := by
  cases h1 : H p with
  | none => rfl
  | some o =>
    rw [e p o h1] at h
    cases h
theorem tyx_tup {K : PySem.W.Frag} {H : Hp} {a : Addr} {xs : List V} (h : H a = some (.tup xs)) : TyX K H (.ref a) (.type "tuple") := .base (.tup h)
theorem tyx_int {K : PySem.W.Frag} {H : Hp} {i : Int} : TyX K H (.int i) (.type "int") := .base (.int i)
theorem sz_of {n : Nat} (h : n ≤ 100000) : n ≤ sizeLine := Nat.le_trans h (by decide)
theorem sz_lt {n : Nat} (h : n < 100000) : n < sizeLine := Nat.lt_of_lt_of_le h (by decide)
theorem qT {Q : VK} {b : Bool} {H : Hp} (h : b = true) (q : Q (.bl true) H) : Q (.bl b) H := by
  rw [h]
  exact q
theorem ixN_nat {n j : Nat} (hj : j < n) : ixN n (j : Int) = some j := by
  unfold ixN
  rw [if_pos (by omega), if_pos (by omega)]
  simp
theorem map_set_int (xs : List Int) (j : Nat) (z : Int) : (xs.map V.int).set j (.int z) = (xs.set j z).map V.int := by rw [List.map_set]
structure Cw (H : Hp) (vals : Nat → List V) (D : Addr) (i : Nat) (H' : Hp) : Prop where
  new : H D = none
  ex : Ex H H'
  at_ : H' D = some (.lst (vals i))
theorem Cw.start {H : Hp} {vals : Nat → List V} {D : Addr} (h : H D = none) (e : vals 0 = []) : Cw H vals D 0 (upd H D (.lst [])) := ⟨h, Ex.new h, by rw [upd_same, e]⟩
theorem Cw.put {H H3 H4 : Hp} {vals : Nat → List V} {D : Addr} {i : Nat} {y : V} (c : Cw H vals D i H3) (e : Ex H3 H4) (hv : vals (i + 1) = vals i ++ [y]) (hl : (vals i).length < 100000) :
    ∃ acc, H4 D = some (.lst acc) ∧ acc.length < sizeLine ∧ Cw H vals D (i + 1) (upd H4 D (.lst (acc ++ [y]))) :=
  ⟨vals i, e _ _ c.at_, sz_lt hl, c.new, (c.ex.trans e).mut c.new, by rw [upd_same, hv]⟩
theorem Cw.skip {H H3 H4 : Hp} {vals : Nat → List V} {D : Addr} {i : Nat} (c : Cw H vals D i H3) (e : Ex H3 H4) (hv : vals (i + 1) = vals i) : Cw H vals D (i + 1) H4 :=
  ⟨c.new, c.ex.trans e, by rw [hv]; exact e _ _ c.at_⟩
/-- the values of the first turns -/
def upto (v : Nat → V) (i : Nat) : List V := (List.range i).map v
theorem upto_succ (v : Nat → V) (i : Nat) : upto v (i + 1) = upto v i ++ [v i] := by
  unfold upto
  rw [List.range_succ, List.map_append]
  rfl
theorem upto_len (v : Nat → V) (i : Nat) : (upto v i).length = i := by
  unfold upto
  simp
theorem upto_map {α : Type} (f : α → V) (xs : List α) (v : Nat → V) (h : ∀ (i : Nat) (x : α), xs[i]? = some x → v i = f x) : upto v xs.length = xs.map f := by
  unfold upto
  refine List.ext_getElem (by simp) fun i h1 h2 => ?_
  have hi : i < xs.length := by simpa using h1
  rw [List.getElem_map, List.getElem_map, List.getElem_range]
  exact h i _ (List.getElem?_eq_getElem hi)
theorem upto_const (b : Bool) (n : Nat) : upto (fun _ => V.bl b) n = (List.replicate n b).map V.bl := by
  unfold upto
  rw [List.map_replicate]
  refine List.ext_getElem (by simp) fun i h1 h2 => ?_
  simp
theorem all_true (n : Nat) : (List.replicate n true).all id = true := by simp
structure WebAt (H : Hp) (w : Addr) (n : Nat) (E : Web) (ta : Addr) (rs : List Addr) : Prop where
  w : H w = some (.tup [.int n, .ref ta])
  t : H ta = some (.tup (rs.map .ref))
  len : rs.length = E.length
  a : ∀ (i : Nat) (r : Addr), rs[i]? = some r → H r = some (.tup [.int (src E i), .int (dst E i)])
  n1 : 1 ≤ n
  n10 : n ≤ 10
  m15 : E.length ≤ 15
  good : Good n E
theorem WebAt.mono {H H' : Hp} {w : Addr} {n : Nat} {E : Web} {ta : Addr} {rs : List Addr} (W : WebAt H w n E ta rs) (e : Ex H H') : WebAt H' w n E ta rs :=
  ⟨e _ _ W.w, e _ _ W.t, W.len, fun i r h => e _ _ (W.a i r h), W.n1, W.n10, W.m15, W.good⟩
theorem refs_at {rs : List Addr} {i : Nat} {x : V} (h : (rs.map V.ref)[i]? = some x) : ∃ r, rs[i]? = some r ∧ x = .ref r := by
  rw [List.getElem?_map] at h
  cases e : rs[i]? with
  | none =>
    rw [e] at h
    cases h
  | some r =>
    rw [e] at h
    exact ⟨r, rfl, (Option.some.inj h).symm⟩
theorem ints_at {ns : List Int} {i : Nat} {x : V} (h : (ns.map V.int)[i]? = some x) : ∃ n, ns[i]? = some n ∧ x = .int n := by
  rw [List.getElem?_map] at h
  cases e : ns[i]? with
  | none =>
    rw [e] at h
    cases h
  | some r =>
    rw [e] at h
    exact ⟨r, rfl, (Option.some.inj h).symm⟩
theorem int_get {ns : List Int} {i : Nat} (h : i < ns.length) : (ns.map V.int)[i]? = some (.int (KM.at0 ns i)) := by
  rw [List.getElem?_map, List.getElem?_eq_getElem h]
  simp [KM.at0, List.getD_eq_getElem?_getD, h]
end KW
namespace KW
open PySem PySem.Spec PyProof.Rows L2 KR
open KM (Web src dst Good)
section
variable {P : Program} {w : World} {K : PySem.W.Frag} {mg : Str → Option Value} {base : Heap} {f : Addr} {fd : FuncData} {t1 t2 t3 : Tok}
def spInt : Sp := fun vs H Q _ => ∃ i : Int, vs = [.int i] ∧ Q (.bl true) H
theorem ok_is_integer (B : Bt mg) (F : Fun K "is_integer" "is_integer" s_is_integer f fd) : FnOk P w K mg base CX0 1 f fd P_is_integer spInt := by
  refine F.ok sc_is_integer (fun vs H Q E h => ?_) (fun cdv A outer s H vs Q E hr h => ?_)
  · obtain ⟨i, rfl, _⟩ := h
    rfl
  · obtain ⟨i, rfl, q⟩ := h
    refine ⟨_, (pss_one (ps_ret (pe_and (pe_callB call_isi (by rfl) B.isinstance (by decide +kernel) (pa_cons (pv 0) (pa_cons (pe_bltn (v := .ty "int") (by rfl) B.int (by decide +kernel) rfl) pa_nil))) (pe_one (pe_not (pe_callB call_isi (by rfl) B.isinstance (by decide +kernel) (pa_cons (pv 0) (pa_cons (pe_bltn (v := .ty "bool") (by rfl) B.bool (by decide +kernel) rfl) pa_nil)))))))), ?_⟩
    refine ⟨_, rfl, _, _, _, _, _, rfl, .ty _, tyx_int, kit_ty (by decide +kernel), true, rfl, iteT ?_⟩
    refine ⟨_, rfl, _, _, _, _, _, rfl, .ty _, tyx_int, kit_ty (by decide +kernel), false, rfl, ?_⟩
    exact q
def spBetween : Sp := fun vs H Q _ => ∃ a b c : Int, vs = [.int a, .int b, .int c] ∧ a ≤ b ∧ b ≤ c ∧ Q (.bl true) H
theorem ok_is_between (D_is_integer : Def P w K mg base "is_integer" P_is_integer 1 spInt) (F : Fun K "is_between" "is_between" s_is_between f fd) : FnOk P w K mg base CX0 2 f fd P_is_between spBetween := by
  refine F.ok sc_is_between (fun vs H Q E h => ?_) (fun cdv A outer s H vs Q E hr h => ?_)
  · obtain ⟨a, b, c, rfl, _⟩ := h
    rfl
  · obtain ⟨a, b, c, rfl, h1, h2, q⟩ := h
    refine ⟨_, (pss_one (ps_ret (pe_and (pe_cd D_is_integer (hr.mono (by decide)) (by rfl) (pa_cons (pv 1) pa_nil)) (pe_one (pe_chain op_le op_le (pv 0) (pv 1) (pv 2)))))), ?_⟩
    refine ⟨_, rfl, b, rfl, true, rfl, iteT ?_⟩
    refine ⟨_, rfl, _, rfl, a, b, rfl, rfl, true, congrArg V.bl (decide_eq_true h1), iteT ⟨_, rfl, b, c, rfl, rfl, ?_⟩⟩
    exact qT (Q := Q) (decide_eq_true h2) q
def spTupleOf : Sp := fun vs H Q _ => ∃ (n : Int) (a : Addr) (xs : List V), vs = [.int n, .ref a] ∧ H a = some (.tup xs) ∧ (xs.length : Int) = n ∧ Q (.bl true) H
theorem ok_is_tuple_of (B : Bt mg) (F : Fun K "is_tuple_of" "is_tuple_of" s_is_tuple_of f fd) : FnOk P w K mg base CX0 1 f fd P_is_tuple_of spTupleOf := by
  refine F.ok sc_is_tuple_of (fun vs H Q E h => ?_) (fun cdv A outer s H vs Q E hr h => ?_)
  · obtain ⟨n, a, xs, rfl, _⟩ := h
    rfl
  · obtain ⟨n, a, xs, rfl, ha, hl, q⟩ := h
    refine ⟨_, (pss_one (ps_ret (pe_and (pe_callB call_isi (by rfl) B.isinstance (by decide +kernel) (pa_cons (pv 1) (pa_cons (pe_bltn (v := .ty "tuple") (by rfl) B.tuple (by decide +kernel) rfl) pa_nil))) (pe_one (pe_cmpR op_eq (pe_callB call_len_seq (by rfl) B.len (by decide +kernel) (pa_cons (pv 1) pa_nil)) (pv 0) (nomark _)))))), ?_⟩
    refine ⟨_, rfl, _, _, _, _, _, rfl, .ty _, tyx_tup ha, kit_ty (by decide +kernel), true, rfl, iteT ?_⟩
    refine ⟨_, rfl, a, xs, rfl, .inr (SqT.of ha), _, rfl, rfl, ?_⟩
    rw [hl, decide_eq_true rfl]
    exact q
structure IsLot (n : Int) (ns : List Int) : Prop where
  lo : ∀ x ∈ ns, 0 ≤ x ∧ x ≤ n - 1
  up : ∀ k, k + 1 < ns.length → KM.at0 ns k < KM.at0 ns (k + 1)
  few : ns.length ≤ 1000
def spLotOf : Sp := fun vs H Q _ => ∃ (n : Int) (a : Addr) (ns : List Int), vs = [.int n, .ref a] ∧ H a = some (.tup (ns.map V.int)) ∧ IsLot n ns ∧ ∀ H', Ex H H' → Q (.bl true) H'
theorem ok_is_lot_of (B : Bt mg) (D_is_between : Def P w K mg base "is_between" P_is_between 2 spBetween) (F : Fun K "is_lot_of" "is_lot_of" s_is_lot_of f fd) : FnOk P w K mg base CX0 3 f fd P_is_lot_of spLotOf := by
  refine F.ok sc_is_lot_of (fun vs H Q E h => ?_) (fun cdv A outer s H vs Q E hr h => ?_)
  · obtain ⟨n, a, xs, rfl, _⟩ := h
    rfl
  · obtain ⟨n, a, ns, rfl, ha, hL, q⟩ := h
    refine ⟨_, (pss_cons (ps_if (PW.pt (pw_or (pt_not (pt_val (pe_callB call_isi (by rfl) B.isinstance (by decide +kernel) (pa_cons (pv 1) (pa_cons (pe_bltn (v := .ty "tuple") (by rfl) B.tuple (by decide +kernel) rfl) pa_nil))))) (pw_or1 (pt_not (pt_val (pe_callB (cr_all rfl) (by rfl) B.all (by decide +kernel) (pa_cons (pe_lc (own := [(("place" : Str), 3)]) (g := (gName 3)) rfl sc_is_lot_of.nd (pi_tup (pv 1)) (blkOk_by (own := [(("place" : Str), 3)]) (N := N_is_lot_of) (sc := defScope s_is_lot_of) (by decide +kernel)) (fun _ _ _ _ _ => (pg_name (i := 3) sc_is_lot_of.nd rfl (.inl rfl))) (fun _ _ _ _ _ => pts_nil) (fun _ _ _ _ _ => (pe_cd D_is_between (hr.mono (by decide)) (by rfl) (pa_cons pe_int (pa_cons (pv 3) (pa_cons (pe_op op_sub (pv 0) pe_int) pa_nil)))))) pa_nil)))))))
        (pss_one (ps_ret pe_bl))
        pss_nil)
      (pss_one (ps_ret (pe_callB (cr_all rfl) (by rfl) B.all (by decide +kernel) (pa_cons (pe_lc (own := [(("k" : Str), 2)]) (g := (gName 2)) rfl sc_is_lot_of.nd (pi_range1 (by rfl) B.range (pa_cons (pe_op op_sub (pe_callB call_len_seq (by rfl) B.len (by decide +kernel) (pa_cons (pv 1) pa_nil)) pe_int) pa_nil)) (blkOk_by (own := [(("k" : Str), 2)]) (N := N_is_lot_of) (sc := defScope s_is_lot_of) (by decide +kernel)) (fun _ _ _ _ _ => (pg_name (i := 2) sc_is_lot_of.nd rfl (.inl rfl))) (fun _ _ _ _ _ => pts_nil) (fun _ _ _ _ _ => (pe_cmpR op_lt (pe_ix (r := rIxT K) ix_tup (pv 1) (pv 2) (fun _ _ => rfl)) (pe_ix (r := rIxT K) ix_tup (pv 1) (pe_op op_add (pv 2) pe_int) (fun _ _ => rfl)) (nomark _)))) pa_nil))))), ?_⟩
    refine ⟨_, rfl, _, _, _, _, _, rfl, .ty _, tyx_tup ha, kit_ty (by decide +kernel), true, rfl, iteF ?_⟩
    refine ⟨_, rfl, a, rfl, ⟨_, SqT.of ha⟩, fun D hD => lc_tup (K := K) (a := a) (xs := ns.map V.int) (Cw H (upto fun _ => .bl true) D) (Cw.start hD rfl) (fun i H' _ c => SqT.of (c.ex _ _ ha)) (fun i x H' hx c => ?_) (fun H1 c => ?_)⟩
    · obtain ⟨z, hz, rfl⟩ := ints_at hx
      obtain ⟨z0, z1⟩ := hL.lo z (List.mem_of_getElem? hz)
      have hi : i < ns.length := (List.getElem?_eq_some_iff.mp hz).1
      have hf := hL.few
      exact ⟨rfl, _, rfl, _, rfl, n, 1, rfl, rfl, 0, z, n - 1, rfl, z0, z1, c.put (Ex.refl _) (upto_succ _ _) (by rw [upto_len]; omega)⟩
    · refine ⟨D, List.replicate ns.length true, rfl, SqL.of (by rw [c.at_, List.length_map, upto_const]), _, rfl, ?_⟩
      rw [all_true]
      refine iteF ?_
      have ha1 := c.ex _ _ ha
      have hf := hL.few
      refine ⟨_, rfl, a, _, rfl, .inr (SqT.of ha1), _, 1, rfl, rfl, _, rfl, by rw [List.length_map]; omega, by rw [List.length_map]; omega, fun D2 hD2 => ?_⟩
      rw [List.length_map]
      refine lc_range (lo := 0) (n := ((ns.length : Int) - 1).toNat) (Cw H1 (upto fun _ => .bl true) D2) (Cw.start hD2 rfl) (fun i H' hi c2 => ?_) (fun H2 c2 => ?_)
      · have ha2 := c2.ex _ _ ha1
        have hk : i + 1 < ns.length := by omega
        refine ⟨rfl, _, rfl, _, rfl, a, _, (i : Int), _, rfl, by rw [Int.zero_add], SqT.of ha2, atI_nat (int_get (by omega)), _, rfl, _, rfl, _, 1, rfl, rfl, a, _, ((i + 1 : Nat) : Int), _, rfl, by rw [Int.zero_add]; rfl, SqT.of ha2, atI_nat (int_get hk), _, _, rfl, rfl, ?_⟩
        have e : decide (KM.at0 ns i < KM.at0 ns (i + 1)) = true := decide_eq_true (hL.up i hk)
        simp only [e]
        exact c2.put (Ex.refl _) (upto_succ _ _) (by rw [upto_len]; omega)
      · refine ⟨D2, List.replicate ((ns.length : Int) - 1).toNat true, rfl, SqL.of (by rw [c2.at_, upto_const]), ?_⟩
        exact qT (Q := Q) (all_true _) (q _ (c.ex.trans c2.ex))
def spCheckLot : Sp := fun vs H Q _ => ∃ (n : Int) (a : Addr) (ns : List Int), vs = [.int n, .ref a] ∧ H a = some (.tup (ns.map V.int)) ∧ IsLot n ns ∧ ∀ H', Ex H H' → Q .non H'
theorem ok_check_lot (D_is_lot_of : Def P w K mg base "is_lot_of" P_is_lot_of 3 spLotOf) (F : Fun K "check_lot" "check_lot" s_check_lot f fd) : FnOk P w K mg base CX0 4 f fd P_check_lot spCheckLot := by
  refine F.ok sc_check_lot (fun vs H Q E h => ?_) (fun cdv A outer s H vs Q E hr h => ?_)
  · obtain ⟨n, a, xs, rfl, _⟩ := h
    rfl
  · obtain ⟨n, a, ns, rfl, ha, hL, q⟩ := h
    refine ⟨_, (pss_one (ps_if (pt_not (pt_val (pe_cd D_is_lot_of (hr.mono (by decide)) (by rfl) (pa_cons (pv 0) (pa_cons (pv 1) pa_nil)))))
        (pss_one ps_never)
        pss_nil)), ?_⟩
    exact ⟨_, rfl, _, rfl, n, a, ns, rfl, ha, hL, fun H1 e => ⟨true, rfl, iteF (q H1 e)⟩⟩
def spIsWeb : Sp := fun vs H Q _ => ∃ (a : Addr) (n : Nat) (W : Web) (ta : Addr) (rs : List Addr), vs = [.ref a] ∧ WebAt H a n W ta rs ∧ ∀ H', Ex H H' → Q (.bl true) H'
theorem ok_is_web (B : Bt mg) (C : Cn mg t1 t2 t3) (D_is_between : Def P w K mg base "is_between" P_is_between 2 spBetween) (D_is_tuple_of : Def P w K mg base "is_tuple_of" P_is_tuple_of 1 spTupleOf) (F : Fun K "is_web" "is_web" s_is_web f fd) : FnOk P w K mg base CX0 3 f fd P_is_web spIsWeb := by
  refine F.ok sc_is_web (fun vs H Q E h => ?_) (fun cdv A outer s H vs Q E hr h => ?_)
  · obtain ⟨a, n, W, ta, rs, rfl, _⟩ := h
    rfl
  · obtain ⟨a, n, W, ta, rs, rfl, ha, q⟩ := h
    refine ⟨_, (pss_cons (ps_if (PW.pt (pw_or (pt_not (pt_val (pe_cd D_is_tuple_of (hr.mono (by decide)) (by rfl) (pa_cons pe_int (pa_cons (pv 0) pa_nil))))) (pw_or (pt_not (pt_val (pe_cd D_is_between (hr.mono (by decide)) (by rfl) (pa_cons pe_int (pa_cons (pe_ix (r := rIxT K) ix_tup (pv 0) pe_int (fun _ _ => rfl)) (pa_cons (pe_glob (v := .int (10)) (by rfl) C.MOST_PLACES ⟨_, rfl⟩) pa_nil)))))) (pw_or1 (pt_not (pt_val (pe_callB call_isi (by rfl) B.isinstance (by decide +kernel) (pa_cons (pe_ix (r := rIxT K) ix_tup (pv 0) pe_int (fun _ _ => rfl)) (pa_cons (pe_bltn (v := .ty "tuple") (by rfl) B.tuple (by decide +kernel) rfl) pa_nil)))))))))
        (pss_one (ps_ret pe_bl))
        pss_nil)
      (pss_cons (ps_if (PW.pt (pw_or (pt_cmpR op_gt (pe_callB call_len_seq (by rfl) B.len (by decide +kernel) (pa_cons (pe_ix (r := rIxT K) ix_tup (pv 0) pe_int (fun _ _ => rfl)) pa_nil)) (pe_glob (v := .int (15)) (by rfl) C.MOST_ARROWS ⟨_, rfl⟩) (nomark _)) (pw_or1 (pt_not (pt_val (pe_callB (cr_all rfl) (by rfl) B.all (by decide +kernel) (pa_cons (pe_lc (own := [(("arrow" : Str), 1)]) (g := (gName 1)) rfl sc_is_web.nd (pi_tup (pe_ix (r := rIxT K) ix_tup (pv 0) pe_int (fun _ _ => rfl))) (blkOk_by (own := [(("arrow" : Str), 1)]) (N := N_is_web) (sc := defScope s_is_web) (by decide +kernel)) (fun _ _ _ _ _ => (pg_name (i := 1) sc_is_web.nd rfl (.inl rfl))) (fun _ _ _ _ _ => pts_nil) (fun _ _ _ _ _ => (pe_cd D_is_tuple_of (hr.mono (by decide)) (by rfl) (pa_cons pe_int (pa_cons (pv 1) pa_nil))))) pa_nil)))))))
        (pss_one (ps_ret pe_bl))
        pss_nil)
      (pss_one (ps_ret (pe_callB (cr_all rfl) (by rfl) B.all (by decide +kernel) (pa_cons (pe_lc (own := [(("arrow" : Str), 1)]) (g := (gName 1)) rfl sc_is_web.nd (pi_tup (pe_ix (r := rIxT K) ix_tup (pv 0) pe_int (fun _ _ => rfl))) (blkOk_by (own := [(("arrow" : Str), 1)]) (N := N_is_web) (sc := defScope s_is_web) (by decide +kernel)) (fun _ _ _ _ _ => (pg_name (i := 1) sc_is_web.nd rfl (.inl rfl))) (fun _ _ _ _ _ => pts_nil) (fun _ _ _ _ _ => (pe_and (pe_cd D_is_between (hr.mono (by decide)) (by rfl) (pa_cons pe_int (pa_cons (pe_ix (r := rIxT K) ix_tup (pv 1) pe_int (fun _ _ => rfl)) (pa_cons (pe_op op_sub (pe_ix (r := rIxT K) ix_tup (pv 0) pe_int (fun _ _ => rfl)) pe_int) pa_nil)))) (pe_one (pe_cd D_is_between (hr.mono (by decide)) (by rfl) (pa_cons pe_int (pa_cons (pe_ix (r := rIxT K) ix_tup (pv 1) pe_int (fun _ _ => rfl)) (pa_cons (pe_op op_sub (pe_ix (r := rIxT K) ix_tup (pv 0) pe_int (fun _ _ => rfl)) pe_int) pa_nil)))))))) pa_nil)))))), ?_⟩
    refine ⟨_, rfl, 2, a, _, rfl, ha.w, rfl, true, rfl, iteF ?_⟩
    refine ⟨_, rfl, a, _, 0, _, rfl, rfl, SqT.of ha.w, atI_nat (j := 0) rfl, 1, (n : Int), 10, rfl, ?_, ?_, true, rfl, iteF ?_⟩
    · have := ha.n1
      omega
    · have := ha.n10
      omega
    refine ⟨_, rfl, a, _, 1, _, rfl, rfl, SqT.of ha.w, atI_nat (j := 1) rfl, _, _, _, _, _, rfl, .ty _, tyx_tup ha.t, kit_ty (by decide +kernel), true, rfl, iteF ?_⟩
    have hm := ha.m15
    have hl := ha.len
    refine ⟨_, rfl, a, _, 1, _, rfl, rfl, SqT.of ha.w, atI_nat (j := 1) rfl, ta, _, rfl, .inr (SqT.of ha.t), _, 15, rfl, rfl, false, congrArg V.bl (decide_eq_false (by rw [List.length_map]; omega)), iteF ?_⟩
    refine ⟨_, rfl, a, _, 1, _, rfl, rfl, SqT.of ha.w, atI_nat (j := 1) rfl, ta, rfl, ⟨_, SqT.of ha.t⟩, fun D hD => lc_tup (K := K) (a := ta) (xs := rs.map V.ref) (Cw H (upto fun _ => .bl true) D) (Cw.start hD rfl) (fun i H' _ c => SqT.of (c.ex _ _ ha.t)) (fun i x H' hx c => ?_) (fun H1 c => ?_)⟩
    · obtain ⟨r, hr', rfl⟩ := refs_at hx
      have hi : i < rs.length := (List.getElem?_eq_some_iff.mp hr').1
      exact ⟨rfl, _, rfl, 2, r, _, rfl, c.ex _ _ (ha.a i r hr'), rfl, c.put (Ex.refl _) (upto_succ _ _) (by rw [upto_len]; omega)⟩
    · refine ⟨D, List.replicate rs.length true, rfl, SqL.of (by rw [c.at_, List.length_map, upto_const]), _, rfl, ?_⟩
      rw [all_true]
      refine iteF ?_
      have ha1 := ha.mono c.ex
      refine ⟨_, rfl, a, _, 1, _, rfl, rfl, SqT.of ha1.w, atI_nat (j := 1) rfl, ta, rfl, ⟨_, SqT.of ha1.t⟩, fun D2 hD2 => lc_tup (K := K) (a := ta) (xs := rs.map V.ref) (Cw H1 (upto fun _ => .bl true) D2) (Cw.start hD2 rfl) (fun i H' _ c => SqT.of (c.ex _ _ ha1.t)) (fun i x H' hx c2 => ?_) (fun H2 c2 => ?_)⟩
      · obtain ⟨r, hr', rfl⟩ := refs_at hx
        have hi : i < rs.length := (List.getElem?_eq_some_iff.mp hr').1
        have hw := c2.ex _ _ ha1.w
        have hr2 := c2.ex _ _ (ha1.a i r hr')
        have h1 := ha.good.src (k := i) (by omega)
        have h2 := ha.good.dst (k := i) (by omega)
        exact ⟨rfl, _, rfl, r, _, 0, _, rfl, rfl, SqT.of hr2, atI_nat (j := 0) rfl, _, rfl, a, _, 0, _, rfl, rfl, SqT.of hw, atI_nat (j := 0) rfl, _, 1, rfl, rfl, 0, (src W i : Int), (n : Int) - 1, rfl, by omega, by omega, true, rfl, iteT
          ⟨_, rfl, r, _, 1, _, rfl, rfl, SqT.of hr2, atI_nat (j := 1) rfl, _, rfl, a, _, 0, _, rfl, rfl, SqT.of hw, atI_nat (j := 0) rfl, _, 1, rfl, rfl, 0, (dst W i : Int), (n : Int) - 1, rfl, by omega, by omega, c2.put (Ex.refl _) (upto_succ _ _) (by rw [upto_len]; omega)⟩⟩
      · refine ⟨D2, List.replicate rs.length true, rfl, SqL.of (by rw [c2.at_, List.length_map, upto_const]), ?_⟩
        exact qT (Q := Q) (all_true _) (q _ (c.ex.trans c2.ex))
def spCheckWeb : Sp := fun vs H Q _ => ∃ (a : Addr) (n : Nat) (W : Web) (ta : Addr) (rs : List Addr), vs = [.ref a] ∧ WebAt H a n W ta rs ∧ ∀ H', Ex H H' → Q .non H'
theorem ok_check_web (D_is_web : Def P w K mg base "is_web" P_is_web 3 spIsWeb) (F : Fun K "check_web" "check_web" s_check_web f fd) : FnOk P w K mg base CX0 4 f fd P_check_web spCheckWeb := by
  refine F.ok sc_check_web (fun vs H Q E h => ?_) (fun cdv A outer s H vs Q E hr h => ?_)
  · obtain ⟨a, n, W, ta, rs, rfl, _⟩ := h
    rfl
  · obtain ⟨a, n, W, ta, rs, rfl, ha, q⟩ := h
    refine ⟨_, (pss_one (ps_if (pt_not (pt_val (pe_cd D_is_web (hr.mono (by decide)) (by rfl) (pa_cons (pv 0) pa_nil))))
        (pss_one ps_never)
        pss_nil)), ?_⟩
    exact ⟨_, rfl, a, n, W, ta, rs, rfl, ha, fun H1 e => ⟨true, rfl, iteF (q H1 e)⟩⟩
end
end KW
namespace KW
open PySem PySem.Spec PyProof.Rows L2 KR RZ
open KM (Web src dst Good at0 exc)
section
variable {P : Program} {w : World} {K : PySem.W.Frag} {mg : Str → Option Value} {base : Heap} {f : Addr} {fd : FuncData} {t1 t2 t3 : Tok}
def spExcess : Sp := fun vs H Q _ => ∃ (a : Addr) (n : Nat) (W : Web) (ta : Addr) (rs : List Addr) (v : Addr) (ns : List Int), vs = [.ref a, .ref v] ∧ WebAt H a n W ta rs ∧ H v = some (.tup (ns.map V.int)) ∧ ns.length = W.length ∧
  ∀ p H' (xs : List Int), Ex H H' → H' p = some (.lst (xs.map V.int)) → xs.length = n → (∀ q, q < n → at0 xs q = exc W (at0 ns) W.length q) → Q (.ref p) H'
theorem exc_step {W : Web} {ns xs : List Int} {n i : Nat} (hx : xs.length = n) (h : ∀ q, q < n → at0 xs q = exc W (at0 ns) i q) (hs : src W i < n) (hd : dst W i < n) (q : Nat) (hq : q < n) :
    at0 ((xs.set (src W i) (at0 xs (src W i) + at0 ns i)).set (dst W i) (at0 (xs.set (src W i) (at0 xs (src W i) + at0 ns i)) (dst W i) - at0 ns i)) q = exc W (at0 ns) (i + 1) q := by
  have e : exc W (at0 ns) (i + 1) q = exc W (at0 ns) i q + at0 ns i * (KM.dlt q (src W i) - KM.dlt q (dst W i)) := rfl
  rw [e, ← h q hq, KM.at0_set (by rw [List.length_set]; omega), KM.at0_set (by omega), KM.at0_set (by omega)]
  unfold KM.dlt
  by_cases e1 : q = dst W i
  · by_cases e2 : q = src W i
    · have e3 : dst W i = src W i := by omega
      rw [if_pos e1, if_pos e3, if_pos e2.symm, if_pos e1.symm, e2]
      omega
    · have e3 : ¬ dst W i = src W i := by omega
      rw [if_pos e1, if_neg e3, if_neg (by omega), if_pos e1.symm, e1]
      omega
  · by_cases e2 : q = src W i
    · rw [if_neg e1, if_pos e2, if_pos e2.symm, if_neg (by omega), e2]
      omega
    · rw [if_neg e1, if_neg e2, if_neg (by omega), if_neg (by omega)]
      omega
theorem ok_excess_of (B : Bt mg) (F : Fun K "excess_of" "excess_of" s_excess_of f fd) : FnOk P w K mg base CX0 1 f fd P_excess_of spExcess := by
  refine F.ok sc_excess_of (fun vs H Q E h => ?_) (fun cdv A outer s H vs Q E hr h => ?_)
  · obtain ⟨a, n, W, ta, rs, v, ns, rfl, _⟩ := h
    rfl
  · obtain ⟨a, n, W, ta, rs, v, ns, rfl, ha, hv, hl, q⟩ := h
    refine ⟨_, (pss_cons (ps_set (i := 2) sc_excess_of.nd rfl (.inl rfl) (pe_op op_rep (pe_lst (pa_cons pe_int pa_nil)) (pe_ix (r := rIxT K) ix_tup (pv 0) pe_int (fun _ _ => rfl))))
      (pss_cons (ps_for PassesOwn.never rfl (pi_zipA (by rfl) B.zip (pa_cons (pe_ix (r := rIxT K) ix_tup (pv 0) pe_int (fun _ _ => rfl)) (pa_cons (pv 1) pa_nil))) (pg_tup rfl (pgs_cons (pg_tup rfl (pgs_cons (pg_name (i := 3) sc_excess_of.nd rfl (.inl rfl)) (pgs_cons (pg_name (i := 4) sc_excess_of.nd rfl (.inl rfl)) pgs_nil))) (pgs_cons (pg_name (i := 5) sc_excess_of.nd rfl (.inl rfl)) pgs_nil)))
        (pss_cons (ps_augS (pv 2) (pv 3) get_list (pv 5) ip_add set_list)
        (pss_one (ps_augS (pv 2) (pv 4) get_list (pv 5) ip_sub set_list))))
      (pss_one (ps_ret (pv 2))))), ?_⟩
    have hn := ha.n10
    have hm := ha.m15
    have hrl := ha.len
    refine ⟨by decide, fun z hz => ?_⟩
    have e0 := Ex.new (o := .lst [V.int 0]) hz
    refine ⟨_, rfl, a, _, 0, _, rfl, rfl, SqT.of (e0 _ _ ha.w), atI_nat (j := 0) rfl, z, (n : Int), _, rfl, rfl, upd_same, by omega, by omega, sz_of (by simp; omega), fun l hl0 => ?_⟩
    have e1 := e0.trans (Ex.new (o := .lst (List.replicate ((n : Int)).toNat [V.int 0]).flatten) hl0)
    have hln := e0.back hl0
    refine ⟨_, rfl, a, _, 1, _, rfl, rfl, SqT.of (e1 _ _ ha.w), atI_nat (j := 1) rfl, _, rfl, ta, v, rs.map V.ref, ns.map V.int, rfl, .inr ⟨SqT.of (e1 _ _ ha.t), SqT.of (e1 _ _ hv), ?_⟩⟩
    refine for_zipT (K := K) (a := ta) (b := v) (xs := rs.map V.ref) (ys := ns.map V.int) (by simp; omega) (fun i σ H' => ∃ (xs : List Int) (o3 o4 o5 : Option V), σ = [some (.ref a), some (.ref v), some (.ref l), o3, o4, o5] ∧ Ex H H' ∧ H' l = some (.lst (xs.map V.int)) ∧ xs.length = n ∧ ∀ q, q < n → at0 xs q = exc W (at0 ns) i q)
      ⟨List.replicate n 0, none, none, none, rfl, e1, ?_, by simp, fun q hq => ?_⟩ ?_ ?_ ?_
    · rw [upd_same]
      simp
    · rw [KM.at0_zero]
      rfl
    · rintro i σ H' ⟨xs, o3, o4, o5, rfl, e, _⟩
      exact ⟨SqT.of (e _ _ ha.t), SqT.of (e _ _ hv)⟩
    · rintro i x y T σ H' hx hy ⟨xs, o3, o4, o5, rfl, e, hL, hxl, hq⟩ hT
      obtain ⟨r, hr', rfl⟩ := refs_at hx
      have hi : i < rs.length := (List.getElem?_eq_some_iff.mp hr').1
      have hy2 : y = .int (at0 ns i) := Option.some.inj (hy.symm.trans (int_get (by omega)))
      subst hy2
      have hs := ha.good.src (k := i) (by omega)
      have hd := ha.good.dst (k := i) (by omega)
      have e2 := e.trans (Ex.new (o := .tup [.ref r, .int (at0 ns i)]) hT)
      have nlT : l ≠ T := ne_of_none hL hT
      refine ⟨T, _, rfl, SqT.of upd_same, rfl, _, _, rfl, r, _, rfl, SqT.of (e2 _ _ (ha.a i r hr')), rfl, _, _, rfl, _, _, rfl, rfl, _, _, rfl, rfl, ?_⟩
      have hL2 : (upd H' T (.tup [.ref r, .int (at0 ns i)])) l = some (.lst (xs.map V.int)) := by rw [upd_ne nlT]; exact hL
      refine ⟨_, rfl, _, rfl, l, _, (src W i : Int), _, rfl, rfl, SqL.of hL2, atI_nat (int_get (by omega)), _, rfl, _, _, rfl, rfl, l, _, (src W i : Int), src W i, rfl, rfl, hL2, ixN_nat (by simp; omega), ?_⟩
      rw [map_set_int]
      refine ⟨_, rfl, _, rfl, l, _, (dst W i : Int), _, rfl, rfl, SqL.of upd_same, atI_nat (int_get (by rw [List.length_set]; omega)), _, rfl, _, _, rfl, rfl, l, _, (dst W i : Int), dst W i, rfl, rfl, upd_same, ixN_nat (by simp; omega), ?_⟩
      rw [map_set_int, upd_upd]
      exact ⟨_, _, _, _, rfl, e2.mut hln, upd_same, by simp [hxl], fun q hq' => exc_step hxl hq hs hd q hq'⟩
    · rintro σ H' ⟨xs, o3, o4, o5, rfl, e, hL, hxl, hq⟩
      rw [List.length_map, hrl] at hq
      exact ⟨_, rfl, q l H' xs e hL hxl hq⟩
def spAmounts : Sp := fun vs H Q _ => ∃ (a : Addr) (n : Nat) (W : Web) (ta : Addr) (rs : List Addr) (v : Addr) (ns : List Int), vs = [.ref a, .ref v] ∧ WebAt H a n W ta rs ∧ H v = some (.tup (ns.map V.int)) ∧ ns.length = W.length ∧ ∀ H', Ex H H' → Q (.bl true) H'
theorem ok_are_amounts (B : Bt mg) (D_is_integer : Def P w K mg base "is_integer" P_is_integer 1 spInt) (D_is_tuple_of : Def P w K mg base "is_tuple_of" P_is_tuple_of 1 spTupleOf) (F : Fun K "are_amounts" "are_amounts" s_are_amounts f fd) : FnOk P w K mg base CX0 2 f fd P_are_amounts spAmounts := by
  refine F.ok sc_are_amounts (fun vs H Q E h => ?_) (fun cdv A outer s H vs Q E hr h => ?_)
  · obtain ⟨a, n, W, ta, rs, v, ns, rfl, _⟩ := h
    rfl
  · obtain ⟨a, n, W, ta, rs, v, ns, rfl, ha, hv, hl, q⟩ := h
    refine ⟨_, (pss_one (ps_ret (pe_and (pe_cd D_is_tuple_of (hr.mono (by decide)) (by rfl) (pa_cons (pe_callB call_len_seq (by rfl) B.len (by decide +kernel) (pa_cons (pe_ix (r := rIxT K) ix_tup (pv 0) pe_int (fun _ _ => rfl)) pa_nil)) (pa_cons (pv 1) pa_nil))) (pe_one (pe_callB (cr_all rfl) (by rfl) B.all (by decide +kernel) (pa_cons (pe_lc (own := [(("amount" : Str), 2)]) (g := (gName 2)) rfl sc_are_amounts.nd (pi_tup (pv 1)) (blkOk_by (own := [(("amount" : Str), 2)]) (N := N_are_amounts) (sc := defScope s_are_amounts) (by decide +kernel)) (fun _ _ _ _ _ => (pg_name (i := 2) sc_are_amounts.nd rfl (.inl rfl))) (fun _ _ _ _ _ => pts_nil) (fun _ _ _ _ _ => (pe_cd D_is_integer (hr.mono (by decide)) (by rfl) (pa_cons (pv 2) pa_nil)))) pa_nil)))))), ?_⟩
    have hm := ha.m15
    have hrl := ha.len
    refine ⟨_, rfl, a, _, 1, _, rfl, rfl, SqT.of ha.w, atI_nat (j := 1) rfl, ta, _, rfl, .inr (SqT.of ha.t), _, rfl, _, v, _, rfl, hv, by simp; omega, true, rfl, iteT ?_⟩
    refine ⟨_, rfl, v, rfl, ⟨_, SqT.of hv⟩, fun D hD => lc_tup (K := K) (a := v) (xs := ns.map V.int) (Cw H (upto fun _ => .bl true) D) (Cw.start hD rfl) (fun i H' _ c => SqT.of (c.ex _ _ hv)) (fun i x H' hx c => ?_) (fun H1 c => ?_)⟩
    · obtain ⟨z, hz, rfl⟩ := ints_at hx
      have hi : i < ns.length := (List.getElem?_eq_some_iff.mp hz).1
      exact ⟨rfl, _, rfl, z, rfl, c.put (Ex.refl _) (upto_succ _ _) (by rw [upto_len]; omega)⟩
    · refine ⟨D, List.replicate ns.length true, rfl, SqL.of (by rw [c.at_, List.length_map, upto_const]), ?_⟩
      exact qT (Q := Q) (all_true _) (q _ c.ex)
/-- whether all excesses are 0 -/
def spIsFlow : Sp := fun vs H Q _ => ∃ (a : Addr) (n : Nat) (W : Web) (ta : Addr) (rs : List Addr) (v : Addr) (ns : List Int), vs = [.ref a, .ref v] ∧ WebAt H a n W ta rs ∧ H v = some (.tup (ns.map V.int)) ∧ ns.length = W.length ∧
  ∀ (b : Bool) H', (b = true ↔ KM.IsFlow n W ns) → Ex H H' → Q (.bl b) H'
theorem ok_is_flow_of (B : Bt mg) (D_excess_of : Def P w K mg base "excess_of" P_excess_of 1 spExcess) (D_are_amounts : Def P w K mg base "are_amounts" P_are_amounts 2 spAmounts) (F : Fun K "is_flow_of" "is_flow_of" s_is_flow_of f fd) : FnOk P w K mg base CX0 3 f fd P_is_flow_of spIsFlow := by
  refine F.ok sc_is_flow_of (fun vs H Q E h => ?_) (fun cdv A outer s H vs Q E hr h => ?_)
  · obtain ⟨a, n, W, ta, rs, v, ns, rfl, _⟩ := h
    rfl
  · obtain ⟨a, n, W, ta, rs, v, ns, rfl, ha, hv, hl, q⟩ := h
    refine ⟨_, (pss_one (ps_ret (pe_and (pe_cd D_are_amounts (hr.mono (by decide)) (by rfl) (pa_cons (pv 0) (pa_cons (pv 1) pa_nil))) (pe_one (pe_not (pe_callB (call_anyI rfl) (by rfl) B.any (by decide +kernel) (pa_cons (pe_cd D_excess_of (hr.mono (by decide)) (by rfl) (pa_cons (pv 0) (pa_cons (pv 1) pa_nil))) pa_nil))))))), ?_⟩
    refine ⟨_, rfl, _, rfl, a, n, W, ta, rs, v, ns, rfl, ha, hv, hl, fun H1 e1 => ⟨true, rfl, iteT ?_⟩⟩
    refine ⟨_, rfl, _, rfl, a, n, W, ta, rs, v, ns, rfl, ha.mono e1, e1 _ _ hv, hl, fun p H2 xs e2 hp hxl hx => ⟨p, xs, rfl, SqL.of hp, _, rfl, q _ _ ?_ (e1.trans e2)⟩⟩
    have e : (xs.any fun x => x != 0) = false ↔ KM.IsFlow n W ns := by
      rw [List.any_eq_false]
      constructor
      · intro h p hp
        have hp2 : p < xs.length := by omega
        have h1 := h xs[p] (List.getElem_mem hp2)
        rw [← hx p hp]
        simpa [at0, List.getD_eq_getElem?_getD, hp2] using h1
      · intro h x hx'
        obtain ⟨i, hi, rfl⟩ := List.mem_iff_getElem.mp hx'
        have h1 := hx i (by omega)
        rw [h i (by omega)] at h1
        simpa [at0, List.getD_eq_getElem?_getD, hi] using h1
    rw [← e]
    simp
theorem ok_is_flow (D_check_web : Def P w K mg base "check_web" P_check_web 4 spCheckWeb) (D_is_flow_of : Def P w K mg base "is_flow_of" P_is_flow_of 3 spIsFlow) (F : Fun K "is_flow" "is_flow" s_is_flow f fd) : FnOk P w K mg base CX0 5 f fd P_is_flow spIsFlow := by
  refine F.ok sc_is_flow (fun vs H Q E h => ?_) (fun cdv A outer s H vs Q E hr h => ?_)
  · obtain ⟨a, n, W, ta, rs, v, ns, rfl, _⟩ := h
    rfl
  · obtain ⟨a, n, W, ta, rs, v, ns, rfl, ha, hv, hl, q⟩ := h
    refine ⟨_, (pss_cons (ps_expr (pe_cd D_check_web (hr.mono (by decide)) (by rfl) (pa_cons (pv 0) pa_nil)))
      (pss_one (ps_ret (pe_cd D_is_flow_of (hr.mono (by decide)) (by rfl) (pa_cons (pv 0) (pa_cons (pv 1) pa_nil)))))), ?_⟩
    exact ⟨_, rfl, a, n, W, ta, rs, rfl, ha, fun H1 e1 => ⟨_, rfl, _, rfl, a, n, W, ta, rs, v, ns, rfl, ha.mono e1, e1 _ _ hv, hl, fun b H2 hb e2 => q b H2 hb (e1.trans e2)⟩⟩
end
end KW
namespace KW
open PySem PySem.Spec PyProof.Rows L2 KR RZ
open KM (Web src dst Good at0 exc pull)
section
variable {P : Program} {w : World} {K : PySem.W.Frag} {mg : Str → Option Value} {base : Heap} {f : Addr} {fd : FuncData} {t1 t2 t3 : Tok}
def spCheckHeights : Sp := fun vs H Q _ => ∃ (a : Addr) (n : Nat) (W : Web) (ta : Addr) (rs : List Addr) (v : Addr) (hs : List Int), vs = [.ref a, .ref v] ∧ WebAt H a n W ta rs ∧ H v = some (.tup (hs.map V.int)) ∧ hs.length = n ∧
  (∀ x ∈ hs, -(10 ^ 60) ≤ x ∧ x ≤ 10 ^ 60) ∧ ∀ H', Ex H H' → Q .non H'
theorem ok_check_heights (B : Bt mg) (C : Cn mg t1 t2 t3) (D_is_between : Def P w K mg base "is_between" P_is_between 2 spBetween) (D_is_tuple_of : Def P w K mg base "is_tuple_of" P_is_tuple_of 1 spTupleOf) (F : Fun K "check_heights" "check_heights" s_check_heights f fd) : FnOk P w K mg base CX0 3 f fd P_check_heights spCheckHeights := by
  refine F.ok sc_check_heights (fun vs H Q E h => ?_) (fun cdv A outer s H vs Q E hr h => ?_)
  · obtain ⟨a, n, W, ta, rs, v, hs, rfl, _⟩ := h
    rfl
  · obtain ⟨a, n, W, ta, rs, v, hs, rfl, ha, hv, hl, hb, q⟩ := h
    refine ⟨_, (pss_one (ps_if (PW.pt (pw_or (pt_not (pt_val (pe_cd D_is_tuple_of (hr.mono (by decide)) (by rfl) (pa_cons (pe_ix (r := rIxT K) ix_tup (pv 0) pe_int (fun _ _ => rfl)) (pa_cons (pv 1) pa_nil))))) (pw_or1 (pt_not (pt_val (pe_callB (cr_all rfl) (by rfl) B.all (by decide +kernel) (pa_cons (pe_lc (own := [(("one" : Str), 2)]) (g := (gName 2)) rfl sc_check_heights.nd (pi_tup (pv 1)) (blkOk_by (own := [(("one" : Str), 2)]) (N := N_check_heights) (sc := defScope s_check_heights) (by decide +kernel)) (fun _ _ _ _ _ => (pg_name (i := 2) sc_check_heights.nd rfl (.inl rfl))) (fun _ _ _ _ _ => pts_nil) (fun _ _ _ _ _ => (pe_cd D_is_between (hr.mono (by decide)) (by rfl) (pa_cons (pe_un un_neg (pe_glob (v := .int (10 ^ 60)) (by rfl) C.MOST_HEIGHT ⟨_, rfl⟩)) (pa_cons (pv 2) (pa_cons (pe_glob (v := .int (10 ^ 60)) (by rfl) C.MOST_HEIGHT ⟨_, rfl⟩) pa_nil)))))) pa_nil)))))))
        (pss_one ps_never)
        pss_nil)), ?_⟩
    have hn := ha.n10
    refine ⟨_, rfl, a, _, 0, _, rfl, rfl, SqT.of ha.w, atI_nat (j := 0) rfl, _, rfl, _, v, _, rfl, hv, by simp; omega, true, rfl, iteF ?_⟩
    refine ⟨_, rfl, v, rfl, ⟨_, SqT.of hv⟩, fun D hD => lc_tup (K := K) (a := v) (xs := hs.map V.int) (Cw H (upto fun _ => .bl true) D) (Cw.start hD rfl) (fun i H' _ c => SqT.of (c.ex _ _ hv)) (fun i x H' hx c => ?_) (fun H1 c => ?_)⟩
    · obtain ⟨z, hz, rfl⟩ := ints_at hx
      have hi : i < hs.length := (List.getElem?_eq_some_iff.mp hz).1
      obtain ⟨z0, z1⟩ := hb z (List.mem_of_getElem? hz)
      exact ⟨rfl, _, rfl, _, rfl, _, z, _, rfl, z0, z1, c.put (Ex.refl _) (upto_succ _ _) (by rw [upto_len]; omega)⟩
    · refine ⟨D, List.replicate hs.length true, rfl, SqL.of (by rw [c.at_, List.length_map, upto_const]), _, rfl, ?_⟩
      rw [all_true]
      exact iteF (q _ c.ex)
/-- heights in a list or a tuple -/
def Seq (H : Hp) (v : Addr) (hs : List Int) : Prop := H v = some (.lst (hs.map V.int)) ∨ H v = some (.tup (hs.map V.int))
theorem Seq.mono {H H' : Hp} {v : Addr} {hs : List Int} (h : Seq H v hs) (e : Ex H H') : Seq H' v hs := h.imp (e _ _) (e _ _)
theorem Seq.ix {H : Hp} {v : Addr} {hs : List Int} {k : Nat} {Q : VK} (h : Seq H v hs) (hk : k < hs.length) (q : Q (.int (at0 hs k)) H) : rIx K (.ref v) (.int k) H Q := by
  rcases h with h | h
  · exact .inl ⟨v, _, _, _, rfl, rfl, SqL.of h, atI_nat (int_get hk), q⟩
  · exact .inr (.inl ⟨v, _, _, _, rfl, rfl, SqT.of h, atI_nat (int_get hk), q⟩)
def spPullBy : Sp := fun vs H Q _ => ∃ (a : Addr) (n : Nat) (W : Web) (ta : Addr) (rs : List Addr) (v : Addr) (hs : List Int), vs = [.ref a, .ref v] ∧ WebAt H a n W ta rs ∧ Seq H v hs ∧ hs.length = n ∧
  ∀ p H', Ex H H' → H p = none → H' p = some (.tup ((pull W (at0 hs)).map V.int)) → Q (.ref p) H'
theorem upto_pull (W : Web) (g : Nat → Int) (v : Nat → V) (h : ∀ k, v k = .int (KM.pd W g k)) : upto v W.length = (pull W g).map V.int := by
  unfold pull
  rw [List.map_map]
  refine upto_map _ W v fun i e he => ?_
  rw [h]
  unfold KM.pd
  rw [KM.src_of he, KM.dst_of he]
  rfl
theorem ok_pull_by (B : Bt mg) (F : Fun K "pull_by" "pull_by" s_pull_by f fd) : FnOk P w K mg base CX0 1 f fd P_pull_by spPullBy := by
  refine F.ok sc_pull_by (fun vs H Q E h => ?_) (fun cdv A outer s H vs Q E hr h => ?_)
  · obtain ⟨a, n, W, ta, rs, v, hs, rfl, _⟩ := h
    rfl
  · obtain ⟨a, n, W, ta, rs, v, hs, rfl, ha, hv, hl, q⟩ := h
    refine ⟨_, (pss_one (ps_ret (pe_callTy call_tuple_of (by rfl) B.tuple (by decide +kernel) (pa_cons (pe_lc (own := [(("x" : Str), 2), (("y" : Str), 3)]) (g := (gTup K 2 (gCons (gName 2) (gCons (gName 3) gNil)))) rfl sc_pull_by.nd (pi_tup (pe_ix (r := rIxT K) ix_tup (pv 0) pe_int (fun _ _ => rfl))) (blkOk_by (own := [(("x" : Str), 2), (("y" : Str), 3)]) (N := N_pull_by) (sc := defScope s_pull_by) (by decide +kernel)) (fun _ _ _ _ _ => (pg_tup rfl (pgs_cons (pg_name (i := 2) sc_pull_by.nd rfl (.inl rfl)) (pgs_cons (pg_name (i := 3) sc_pull_by.nd rfl (.inl rfl)) pgs_nil)))) (fun _ _ _ _ _ => pts_nil) (fun _ _ _ _ _ => (pe_op op_sub (pe_ix (r := rIx K) ix_seq (pv 1) (pv 3) (fun _ _ => rfl)) (pe_ix (r := rIx K) ix_seq (pv 1) (pv 2) (fun _ _ => rfl))))) pa_nil)))), ?_⟩
    have hm := ha.m15
    have hrl := ha.len
    refine ⟨_, rfl, a, _, 1, _, rfl, rfl, SqT.of ha.w, atI_nat (j := 1) rfl, ta, rfl, ⟨_, SqT.of ha.t⟩, fun D hD => lc_tup (K := K) (a := ta) (xs := rs.map V.ref) (Cw H (upto fun k => .int (KM.pd W (at0 hs) k)) D) (Cw.start hD rfl) (fun i H' _ c => SqT.of (c.ex _ _ ha.t)) (fun i x H' hx c => ?_) (fun H1 c => ?_)⟩
    · obtain ⟨r, hr', rfl⟩ := refs_at hx
      have hi : i < rs.length := (List.getElem?_eq_some_iff.mp hr').1
      have h1 := ha.good.src (k := i) (by omega)
      have h2 := ha.good.dst (k := i) (by omega)
      have hv1 := hv.mono c.ex
      refine ⟨r, _, rfl, SqT.of (c.ex _ _ (ha.a i r hr')), rfl, _, _, rfl, _, _, rfl, rfl, rfl, ?_⟩
      refine ⟨_, rfl, _, rfl, hv1.ix (by omega) ⟨_, rfl, _, rfl, hv1.ix (by omega) ⟨_, _, rfl, rfl, ?_⟩⟩⟩
      exact c.put (Ex.refl _) (upto_succ _ _) (by rw [upto_len]; omega)
    · refine ⟨D, _, rfl, .inl ⟨SqL.of c.at_, fun p hp => ?_⟩⟩
      have e := c.ex.trans (Ex.new (o := .tup (upto (fun k => .int (KM.pd W (at0 hs) k)) (rs.map V.ref).length)) hp)
      refine q p _ e (c.ex.back hp) ?_
      rw [upd_same, List.length_map, hrl, upto_pull W (at0 hs) _ fun _ => rfl]
def spPullOf : Sp := fun vs H Q _ => ∃ (a : Addr) (n : Nat) (W : Web) (ta : Addr) (rs : List Addr) (v : Addr) (hs : List Int), vs = [.ref a, .ref v] ∧ WebAt H a n W ta rs ∧ H v = some (.tup (hs.map V.int)) ∧ hs.length = n ∧ (∀ x ∈ hs, -(10 ^ 60) ≤ x ∧ x ≤ 10 ^ 60) ∧
  ∀ p H', Ex H H' → H p = none → H' p = some (.tup ((pull W (at0 hs)).map V.int)) → Q (.ref p) H'
theorem ok_pull_of (D_check_web : Def P w K mg base "check_web" P_check_web 4 spCheckWeb) (D_check_heights : Def P w K mg base "check_heights" P_check_heights 3 spCheckHeights) (D_pull_by : Def P w K mg base "pull_by" P_pull_by 1 spPullBy) (F : Fun K "pull_of" "pull_of" s_pull_of f fd) :
    FnOk P w K mg base CX0 5 f fd P_pull_of spPullOf := by
  refine F.ok sc_pull_of (fun vs H Q E h => ?_) (fun cdv A outer s H vs Q E hr h => ?_)
  · obtain ⟨a, n, W, ta, rs, v, hs, rfl, _⟩ := h
    rfl
  · obtain ⟨a, n, W, ta, rs, v, hs, rfl, ha, hv, hl, hb, q⟩ := h
    refine ⟨_, (pss_cons (ps_expr (pe_cd D_check_web (hr.mono (by decide)) (by rfl) (pa_cons (pv 0) pa_nil)))
      (pss_cons (ps_expr (pe_cd D_check_heights (hr.mono (by decide)) (by rfl) (pa_cons (pv 0) (pa_cons (pv 1) pa_nil))))
      (pss_one (ps_ret (pe_cd D_pull_by (hr.mono (by decide)) (by rfl) (pa_cons (pv 0) (pa_cons (pv 1) pa_nil))))))), ?_⟩
    refine ⟨_, rfl, a, n, W, ta, rs, rfl, ha, fun H1 e1 => ⟨_, rfl, _, rfl, a, n, W, ta, rs, v, hs, rfl, ha.mono e1, e1 _ _ hv, hl, hb, fun H2 e2 => ?_⟩⟩
    have e := e1.trans e2
    exact ⟨_, rfl, _, rfl, a, n, W, ta, rs, v, hs, rfl, ha.mono e, .inr (e _ _ hv), hl, fun p H3 e3 hp h3 => q p H3 (e.trans e3) (e.back hp) h3⟩
/-- 1 in the lot, 0 out of it -/
def ind (lot : List Int) (p : Nat) : Int := if (p : Int) ∈ lot then 1 else 0
theorem inV_int (i : Int) (ns : List Int) : inV (.int i) (ns.map V.int) = decide (i ∈ ns) := by
  unfold inV
  rw [List.any_map, Bool.eq_iff_iff, List.any_eq_true, decide_eq_true_iff]
  constructor
  · rintro ⟨x, hx, e⟩
    have : x = i := by simpa [eqV] using e
    rw [← this]
    exact hx
  · intro h
    exact ⟨i, h, by simp [eqV]⟩
theorem flat_ints (ns : List Int) : (ns.map V.int).all flatV = true := by
  rw [List.all_map, List.all_eq_true]
  intro x _
  rfl
def spLotPull : Sp := fun vs H Q _ => ∃ (a : Addr) (n : Nat) (W : Web) (ta : Addr) (rs : List Addr) (v : Addr) (lot : List Int), vs = [.ref a, .ref v] ∧ WebAt H a n W ta rs ∧ H v = some (.tup (lot.map V.int)) ∧ IsLot n lot ∧
  ∀ p H', Ex H H' → H p = none → H' p = some (.tup ((pull W (ind lot)).map V.int)) → Q (.ref p) H'
theorem ok_lot_pull (B : Bt mg) (D_check_web : Def P w K mg base "check_web" P_check_web 4 spCheckWeb) (D_check_lot : Def P w K mg base "check_lot" P_check_lot 4 spCheckLot) (D_pull_by : Def P w K mg base "pull_by" P_pull_by 1 spPullBy) (F : Fun K "lot_pull" "lot_pull" s_lot_pull f fd) :
    FnOk P w K mg base CX0 5 f fd P_lot_pull spLotPull := by
  refine F.ok sc_lot_pull (fun vs H Q E h => ?_) (fun cdv A outer s H vs Q E hr h => ?_)
  · obtain ⟨a, n, W, ta, rs, v, hs, rfl, _⟩ := h
    rfl
  · obtain ⟨a, n, W, ta, rs, v, lot, rfl, ha, hv, hL, q⟩ := h
    refine ⟨_, (pss_cons (ps_expr (pe_cd D_check_web (hr.mono (by decide)) (by rfl) (pa_cons (pv 0) pa_nil)))
      (pss_cons (ps_expr (pe_cd D_check_lot (hr.mono (by decide)) (by rfl) (pa_cons (pe_ix (r := rIxT K) ix_tup (pv 0) pe_int (fun _ _ => rfl)) (pa_cons (pv 1) pa_nil))))
      (pss_one (ps_ret (pe_cd D_pull_by (hr.mono (by decide)) (by rfl) (pa_cons (pv 0) (pa_cons (pe_lc (own := [(("place" : Str), 2)]) (g := (gName 2)) rfl sc_lot_pull.nd (pi_range1 (by rfl) B.range (pa_cons (pe_ix (r := rIxT K) ix_tup (pv 0) pe_int (fun _ _ => rfl)) pa_nil)) (blkOk_by (own := [(("place" : Str), 2)]) (N := N_lot_pull) (sc := defScope s_lot_pull) (by decide +kernel)) (fun _ _ _ _ _ => (pg_name (i := 2) sc_lot_pull.nd rfl (.inl rfl))) (fun _ _ _ _ _ => pts_nil) (fun _ _ _ _ _ => (pe_callTy call_int1 (by rfl) B.int (by decide +kernel) (pa_cons (pe_cmpR (r := rIn K false) op_in_seq (pv 2) (pv 1) (by rfl)) pa_nil)))) pa_nil))))))), ?_⟩
    have hn := ha.n10
    refine ⟨_, rfl, a, n, W, ta, rs, rfl, ha, fun H1 e1 => ?_⟩
    refine ⟨_, rfl, a, _, 0, _, rfl, rfl, SqT.of (e1 _ _ ha.w), atI_nat (j := 0) rfl, _, rfl, n, v, lot, rfl, e1 _ _ hv, hL, fun H2 e2 => ?_⟩
    have e := e1.trans e2
    refine ⟨_, rfl, _, rfl, a, _, 0, _, rfl, rfl, SqT.of (e _ _ ha.w), atI_nat (j := 0) rfl, (n : Int), rfl, by omega, by omega, fun D hD => ?_⟩
    refine lc_range (lo := 0) (n := ((n : Int)).toNat) (Cw H2 (upto fun k => .int (ind lot k)) D) (Cw.start hD rfl) (fun i H' hi c => ?_) (fun H3 c => ?_)
    · have hi2 : i < n := by omega
      refine ⟨rfl, _, rfl, _, rfl, v, _, rfl, .inr (SqT.of (c.ex _ _ (e _ _ hv))), rfl, flat_ints lot, .inr ⟨_, rfl, ?_⟩⟩
      have ev : V.int (if inV (.int (0 + (i : Int))) (lot.map V.int) = true then 1 else 0) = .int (ind lot i) := by
        rw [inV_int, Int.zero_add]
        unfold ind
        by_cases z : (i : Int) ∈ lot
        · rw [if_pos z, if_pos (decide_eq_true z)]
        · rw [if_neg z, if_neg (by simpa using z)]
      show ∃ acc, H' D = some (.lst acc) ∧ acc.length < sizeLine ∧ Cw H2 (upto fun k => .int (ind lot k)) D (i + 1) (upd H' D (.lst (acc ++ [V.int (if inV (.int (0 + (i : Int))) (lot.map V.int) = true then 1 else 0)])))
      rw [ev]
      exact c.put (Ex.refl _) (upto_succ _ _) (by rw [upto_len]; omega)
    · have e3 := e.trans c.ex
      have hD3 : Seq H3 D ((List.range n).map (ind lot)) := .inl (by
        rw [c.at_, Int.toNat_natCast]
        unfold upto
        rw [List.map_map]
        rfl)
      refine ⟨a, n, W, ta, rs, D, _, rfl, ha.mono e3, hD3, by simp, fun p H4 e4 hp h4 => q p H4 (e3.trans e4) (e3.back hp) ?_⟩
      rw [h4, KM.pull_congr ha.good (h := ind lot) fun p hp => by simp [at0, List.getD_eq_getElem?_getD, hp]]
end
end KW
namespace KW
open PySem PySem.Spec PyProof.Rows L2 KR RZ
open KM (Web src dst Good at0 exc pull)
section
variable {K : PySem.W.Frag} {H : Hp} {a b : Addr} {Q : VK}
def idata (ns : List Int) : List PyData := ns.map PyData.int
theorem idata_lay : ∀ ns : List Int, PyData.canLayAll0 (idata ns) = true
  | [] => by simp [idata, PyData.canLayAll0]
  | n :: ns => by
    have := idata_lay ns
    unfold idata at this ⊢
    simp [PyData.canLayAll0, PyData.canLay0, this]
theorem idata_depth : ∀ ns : List Int, PyData.depthAll (idata ns) = 0
  | [] => by simp [idata, PyData.depthAll]
  | n :: ns => by
    have := idata_depth ns
    unfold idata at this ⊢
    simp [PyData.depthAll, PyData.depth, this]
theorem idata_dp : ∀ ns : List Int, DpAll K H (ns.map V.int) (idata ns)
  | [] => .nil
  | n :: ns => .cons (.int n) (idata_dp ns)
theorem idata_eqv : ∀ xs ys : List Int, PyData.eqvAll (idata xs) (idata ys) = decide (xs = ys)
  | [], [] => by simp [idata, PyData.eqvAll]
  | [], y :: ys => by simp [idata, PyData.eqvAll]
  | x :: xs, [] => by simp [idata, PyData.eqvAll]
  | x :: xs, y :: ys => by
    have ih := idata_eqv xs ys
    unfold idata at ih ⊢
    simp only [List.map_cons, PyData.eqvAll, PyData.eqv, ih]
    rw [Bool.eq_iff_iff]
    simp
/-- data that == can walk -/
def Plain (K : PySem.W.Frag) (H : Hp) (xs : List V) : Prop := ∃ ds : List PyData, DpAll K H xs ds ∧ PyData.canLayAll0 ds = true ∧ PyData.depthAll ds ≤ 60
theorem plain_ints (ns : List Int) : Plain K H (ns.map V.int) := ⟨idata ns, idata_dp ns, idata_lay ns, by rw [idata_depth]; omega⟩
theorem plain_refs : ∀ {rs : List Addr}, (∀ r ∈ rs, ∃ ns, Seq H r ns) → Plain K H (rs.map V.ref) := by
  intro rs h
  suffices hh : ∃ ds : List PyData, DpAll K H (rs.map V.ref) ds ∧ PyData.canLayAll0 ds = true ∧ PyData.depthAll ds ≤ 1 by
    obtain ⟨ds, h1, h2, h3⟩ := hh
    exact ⟨ds, h1, h2, by omega⟩
  induction rs with
  | nil => exact ⟨[], .nil, by simp [PyData.canLayAll0], by simp [PyData.depthAll]⟩
  | cons r rs ih =>
    obtain ⟨ds, h1, h2, h3⟩ := ih fun x hx => h x (List.mem_cons_of_mem _ hx)
    obtain ⟨ns, hn⟩ := h r (by simp)
    rcases hn with hn | hn
    · refine ⟨.list (idata ns) :: ds, .cons (.lst (SqL.of hn) (idata_dp ns)) h1, ?_, ?_⟩
      · simp [PyData.canLayAll0, PyData.canLay0, idata_lay, h2]
      · simp only [PyData.depthAll, PyData.depth, idata_depth]
        omega
    · refine ⟨.tuple (idata ns) :: ds, .cons (.tup (SqT.of hn) (idata_dp ns)) h1, ?_, ?_⟩
      · simp [PyData.canLayAll0, PyData.canLay0, idata_lay, h2]
      · simp only [PyData.depthAll, PyData.depth, idata_depth]
        omega
theorem shaped_of {ds : List PyData} (h1 : PyData.canLayAll0 ds = true) (h2 : PyData.depthAll ds ≤ 60) : SeqAt.shaped (.list ds) = true ∧ SeqAt.shaped (.tuple ds) = true := by
  unfold SeqAt.shaped
  simp only [PyData.canLay0, PyData.depth, h1, Bool.true_and]
  exact ⟨decide_eq_true (by omega), decide_eq_true (by omega)⟩
theorem nil_eqv {xs : List V} {ds : List PyData} (h : DpAll K H xs ds) : PyData.eqvAll ds [] = xs.isEmpty := by
  cases h with
  | nil => simp [PyData.eqvAll]
  | cons _ _ => simp [PyData.eqvAll]
theorem nil_shaped : SeqAt.shaped (.list []) = true ∧ SeqAt.shaped (.tuple []) = true := shaped_of (by simp [PyData.canLayAll0]) (by simp [PyData.depthAll])
theorem rNe_nil {xs : List V} (ha : H a = some (.lst xs)) (hp : Plain K H xs) (hb : H b = some (.lst [])) (q : Q (.bl (!xs.isEmpty)) H) : rNeD K (.ref a) (.ref b) H Q := by
  obtain ⟨ds, h1, h2, h3⟩ := hp
  refine ⟨.list ds, .list [], .lst (SqL.of ha) h1, .lst (SqL.of hb) .nil, (shaped_of h2 h3).1, nil_shaped.1, ?_⟩
  simp only [PyData.eqv]
  rw [nil_eqv h1]
  exact q
theorem rEq_nil {xs : List V} (ha : H a = some (.lst xs)) (hp : Plain K H xs) (hb : H b = some (.lst [])) (q : Q (.bl xs.isEmpty) H) : rEqD K (.ref a) (.ref b) H Q := by
  obtain ⟨ds, h1, h2, h3⟩ := hp
  refine ⟨.list ds, .list [], .lst (SqL.of ha) h1, .lst (SqL.of hb) .nil, (shaped_of h2 h3).1, nil_shaped.1, ?_⟩
  simp only [PyData.eqv]
  rw [nil_eqv h1]
  exact q
theorem rNe_unit {xs : List V} (ha : H a = some (.tup xs)) (hp : Plain K H xs) (hb : H b = some (.tup [])) (q : Q (.bl (!xs.isEmpty)) H) : rNeD K (.ref a) (.ref b) H Q := by
  obtain ⟨ds, h1, h2, h3⟩ := hp
  refine ⟨.tuple ds, .tuple [], .tup (SqT.of ha) h1, .tup (SqT.of hb) .nil, (shaped_of h2 h3).2, nil_shaped.2, ?_⟩
  simp only [PyData.eqv]
  rw [nil_eqv h1]
  exact q
theorem rEq_ints {xs ys : List Int} (ha : H a = some (.tup (xs.map V.int))) (hb : H b = some (.tup (ys.map V.int))) (q : Q (.bl (decide (xs = ys))) H) : rEqD K (.ref a) (.ref b) H Q := by
  refine ⟨.tuple (idata xs), .tuple (idata ys), .tup (SqT.of ha) (idata_dp xs), .tup (SqT.of hb) (idata_dp ys), (shaped_of (idata_lay xs) (by rw [idata_depth]; omega)).2, (shaped_of (idata_lay ys) (by rw [idata_depth]; omega)).2, ?_⟩
  simp only [PyData.eqv]
  rw [idata_eqv]
  exact q
theorem rNe_ints {xs ys : List Int} (ha : H a = some (.tup (xs.map V.int))) (hb : H b = some (.tup (ys.map V.int))) (q : Q (.bl (!decide (xs = ys))) H) : rNeD K (.ref a) (.ref b) H Q := by
  refine ⟨.tuple (idata xs), .tuple (idata ys), .tup (SqT.of ha) (idata_dp xs), .tup (SqT.of hb) (idata_dp ys), (shaped_of (idata_lay xs) (by rw [idata_depth]; omega)).2, (shaped_of (idata_lay ys) (by rw [idata_depth]; omega)).2, ?_⟩
  simp only [PyData.eqv]
  rw [idata_eqv]
  exact q
end
end KW
namespace KW
open PySem PySem.Spec PyProof.Rows L2 KR RZ
open KM (Web src dst Good at0 exc pull OI DI bare gt)
section
variable {P : Program} {w : World} {K : PySem.W.Frag} {mg : Str → Option Value} {base : Heap} {f : Addr} {fd : FuncData} {t1 t2 t3 : Tok}
def oV : Option Int → V
  | none => .non
  | some i => .int i
def nV (q : Nat) : V := .int (q : Int)
theorem oV_none (x : Option Int) : decide (oV x = .non) = x.isNone := by
  cases x with
  | none => rfl
  | some i => rfl
theorem oV_get {hs : List (Option Int)} {k : Nat} (hk : k < hs.length) : (hs.map oV)[k]? = some (oV (gt hs k)) := by
  rw [List.getElem?_map, List.getElem?_eq_getElem hk]
  simp [gt, List.getD_eq_getElem?_getD, hk]
theorem oV_set (hs : List (Option Int)) (j : Nat) (z : Int) : (hs.map oV).set j (.int z) = (hs.set j (some z)).map oV := by rw [List.map_set]; rfl
theorem nV_map (l : List Nat) : l.map nV = (l.map fun (q : Nat) => (q : Int)).map V.int := by
  rw [List.map_map]
  rfl
theorem plain_nats {H : Hp} (l : List Nat) : Plain K H (l.map nV) := by
  rw [nV_map]
  exact plain_ints _
section
variable (H : Hp) (a v l : Addr) (n : Nat) (W : Web) (ns : List Int)
def HI (i : Nat) (σ : L2.St) (H' : Hp) : Prop := ∃ (hs : List (Option Int)) (o3 o4 o5 o6 o7 o8 o9 o10 o11 : Option V), σ = [some (.ref a), some (.ref v), some (.ref l), o3, o4, o5, o6, o7, o8, o9, o10, o11] ∧ Ex H H' ∧ H' l = some (.lst (hs.map oV)) ∧ OI n W ns i hs
def HW (i : Nat) (hh : Addr) (m : Nat) (σ : L2.St) (H' : Hp) : Prop := ∃ (hs : List (Option Int)) (here : List Nat) (o5 o6 o7 o8 o9 o10 o11 : Option V), σ = [some (.ref a), some (.ref v), some (.ref l), some (nV i), some (.ref hh), o5, o6, o7, o8, o9, o10, o11] ∧
  Ex H H' ∧ H' l = some (.lst (hs.map oV)) ∧ H' hh = some (.lst (here.map nV)) ∧ DI n W ns i hs here none 0 ∧ 2 * bare hs + here.length = m ∧ m ≤ 21
def HZ (i : Nat) (hh : Addr) (low m j : Nat) (σ : L2.St) (H' : Hp) : Prop := ∃ (hs : List (Option Int)) (here : List Nat) (o6 o7 o8 o9 o10 o11 : Option V), σ = [some (.ref a), some (.ref v), some (.ref l), some (nV i), some (.ref hh), some (nV low), o6, o7, o8, o9, o10, o11] ∧
  Ex H H' ∧ H' l = some (.lst (hs.map oV)) ∧ H' hh = some (.lst (here.map nV)) ∧ DI n W ns i hs here (some low) (2 * j) ∧ 2 * bare hs + here.length < m
def HC (i : Nat) (hh T1 T2 T : Addr) (low m j c : Nat) (σ : L2.St) (H' : Hp) : Prop := ∃ (hs : List (Option Int)) (here : List Nat) (o9 o10 o11 : Option V), σ = [some (.ref a), some (.ref v), some (.ref l), some (nV i), some (.ref hh), some (nV low), some (nV (src W j)), some (nV (dst W j)), some (.int (at0 ns j)), o9, o10, o11] ∧
  Ex H H' ∧ H' l = some (.lst (hs.map oV)) ∧ H' hh = some (.lst (here.map nV)) ∧ DI n W ns i hs here (some low) (2 * j + c) ∧ 2 * bare hs + here.length < m ∧
  H' T1 = some (.tup [nV (src W j), nV (dst W j), .int (at0 ns j)]) ∧ H' T2 = some (.tup [nV (dst W j), nV (src W j), .int (-at0 ns j)]) ∧ H' T = some (.tup [.ref T1, .ref T2])
end
def spHeightsBy : Sp := fun vs H Q _ => ∃ (a : Addr) (n : Nat) (W : Web) (ta : Addr) (rs : List Addr) (v : Addr) (ns : List Int), vs = [.ref a, .ref v] ∧ WebAt H a n W ta rs ∧ H v = some (.tup (ns.map V.int)) ∧ ns.length = W.length ∧
  ∀ p H' (xs : List Int), Ex H H' → H' p = some (.lst (xs.map V.int)) → xs.length = n → (KM.IsPull W ns → pull W (at0 xs) = ns) → ((∀ k, k < W.length → at0 ns k = 0) → xs = List.replicate n 0) → Q (.ref p) H'
theorem ok_heights_by (B : Bt mg) (F : Fun K "heights_by" "heights_by" s_heights_by f fd) : FnOk P w K mg base CX0 1 f fd P_heights_by spHeightsBy := by
  refine F.ok sc_heights_by (fun vs H Q E h => ?_) (fun cdv A outer s H vs Q E hr h => ?_)
  · obtain ⟨a, n, W, ta, rs, v, ns, rfl, _⟩ := h
    rfl
  · obtain ⟨a, n, W, ta, rs, v, ns, rfl, ha, hv, hl, q⟩ := h
    have hu := hr.units
    refine ⟨_, (pss_cons (ps_set (i := 2) sc_heights_by.nd rfl (.inl rfl) (pe_op op_rep (pe_lst (pa_cons pe_non pa_nil)) (pe_ix (r := rIxT K) ix_tup (pv 0) pe_int (fun _ _ => rfl))))
      (pss_cons (ps_for PassesOwn.never rfl (pi_range1 (by rfl) B.range (pa_cons (pe_ix (r := rIxT K) ix_tup (pv 0) pe_int (fun _ _ => rfl)) pa_nil)) (pg_name (i := 3) sc_heights_by.nd rfl (.inl rfl))
        (pss_one (ps_if (pt_cmpR op_isN (pe_ix (r := rIxL K) ix_list (pv 2) (pv 3) (fun _ _ => rfl)) pe_non (nomark _))
          (pss_cons (ps_asg pe_int (pg_sub (pv 2) (pv 3) set_list))
          (pss_cons (ps_set (i := 4) sc_heights_by.nd rfl (.inl rfl) (pe_lst (pa_cons (pv 3) pa_nil)))
          (pss_one (ps_while PassesOwn.never (pt_cmpR (op_neD hu) (pv 4) (pe_lst pa_nil) (nomark _))
            (pss_cons (ps_set (i := 5) sc_heights_by.nd rfl (.inl rfl) (pe_bm0 PySem.F.plainAttrs_list PySem.F.slot_list_pop PySem.F.type_list_pop mt_pop (pv 4)))
            (pss_one (ps_for PassesOwn.never rfl (pi_zipA (by rfl) B.zip (pa_cons (pe_ix (r := rIxT K) ix_tup (pv 0) pe_int (fun _ _ => rfl)) (pa_cons (pv 1) pa_nil))) (pg_tup rfl (pgs_cons (pg_tup rfl (pgs_cons (pg_name (i := 6) sc_heights_by.nd rfl (.inl rfl)) (pgs_cons (pg_name (i := 7) sc_heights_by.nd rfl (.inl rfl)) pgs_nil))) (pgs_cons (pg_name (i := 8) sc_heights_by.nd rfl (.inl rfl)) pgs_nil)))
              (pss_one (ps_for PassesOwn.never rfl (pi_tup (pe_tup (pa_cons (pe_tup (pa_cons (pv 6) (pa_cons (pv 7) (pa_cons (pv 8) pa_nil)))) (pa_cons (pe_tup (pa_cons (pv 7) (pa_cons (pv 6) (pa_cons (pe_un un_neg (pv 8)) pa_nil)))) pa_nil)))) (pg_tup rfl (pgs_cons (pg_name (i := 9) sc_heights_by.nd rfl (.inl rfl)) (pgs_cons (pg_name (i := 10) sc_heights_by.nd rfl (.inl rfl)) (pgs_cons (pg_name (i := 11) sc_heights_by.nd rfl (.inl rfl)) pgs_nil))))
                (pss_one (ps_if (PW.pt (pw_and (pt_cmpR op_eq (pv 9) (pv 5) (nomark _)) (pw_and1 (pt_cmpR op_isN (pe_ix (r := rIxL K) ix_list (pv 2) (pv 10) (fun _ _ => rfl)) pe_non (nomark _)))))
                  (pss_cons (ps_asg (pe_op op_add (pe_ix (r := rIxL K) ix_list (pv 2) (pv 5) (fun _ _ => rfl)) (pv 11)) (pg_sub (pv 2) (pv 10) set_list))
                  (pss_one (ps_expr (pe_bm PySem.F.plainAttrs_list PySem.F.slot_list_append PySem.F.type_list_append mt_append (pv 4) (pa_cons (pv 10) pa_nil)))))
                  pss_nil)))))))))))
          pss_nil)))
      (pss_one (ps_ret (pv 2))))), ?_⟩
    have hn := ha.n10
    have hm := ha.m15
    have hrl := ha.len
    refine ⟨by decide, fun z hz => ?_⟩
    have e0 := Ex.new (o := .lst [V.non]) hz
    refine ⟨_, rfl, a, _, 0, _, rfl, rfl, SqT.of (e0 _ _ ha.w), atI_nat (j := 0) rfl, z, (n : Int), _, rfl, rfl, upd_same, by omega, by omega, sz_of (by simp; omega), fun l hl0 => ?_⟩
    have e1 := e0.trans (Ex.new (o := .lst (List.replicate ((n : Int)).toNat [V.non]).flatten) hl0)
    have hln := e0.back hl0
    refine ⟨_, rfl, a, _, 0, _, rfl, rfl, SqT.of (e1 _ _ ha.w), atI_nat (j := 0) rfl, (n : Int), rfl, by omega, by omega, ?_⟩
    refine for_range (lo := 0) (n := ((n : Int)).toNat) (HI H a v l n W ns) ⟨List.replicate n none, none, none, none, none, none, none, none, none, none, rfl, e1, ?_, KM.oi_start n W ns⟩ ?_ ?_
    · rw [upd_same]
      simp [oV]
    · rintro i σ H1 hi ⟨hs, o3, o4, o5, o6, o7, o8, o9, o10, o11, rfl, e, hL, hO⟩
      have hi2 : i < n := by omega
      have hil : i < hs.length := by rw [hO.len]; exact hi2
      have zi : V.int (0 + (i : Int)) = nV i := by rw [Int.zero_add]; rfl
      rw [zi]
      refine ⟨_, rfl, _, rfl, l, _, (i : Int), _, rfl, rfl, SqL.of hL, atI_nat (oV_get hil), rfl, _, congrArg V.bl (oV_none _), ?_⟩
      cases hg : gt hs i with
      | some x => exact iteF ⟨hs, _, _, _, _, _, _, _, _, _, rfl, e, hL, hO.skip (by rw [hg]; exact fun z => nomatch z)⟩
      | none =>
        refine iteT ?_
        refine ⟨_, rfl, _, rfl, l, _, (i : Int), i, rfl, rfl, hL, ixN_nat (by simp; omega), ?_⟩
        rw [oV_set]
        have e2 := e.mut (o := .lst ((hs.set i (some 0)).map oV)) hln
        refine ⟨_, rfl, by show 1 ≤ sizeLine; decide, fun hh hhn => ?_⟩
        have e3 := e2.trans (Ex.new (o := .lst [nV i]) hhn)
        have nlh : l ≠ hh := fun z => by
          rw [← z, upd_same] at hhn
          cases hhn
        have hhn0 := e2.back hhn
        refine ⟨HW H a v l n W ns i hh, ⟨_, hs.set i (some 0), [i], _, _, _, _, _, _, _, rfl, e3, by rw [upd_ne nlh, upd_same], upd_same, hO.begin hg hi2, rfl, ?_⟩, ?_⟩
        · have hb : bare (hs.set i (some 0)) ≤ (hs.set i (some 0)).length := List.countP_le_length
          rw [List.length_set, hO.len] at hb
          show 2 * bare (hs.set i (some 0)) + 1 ≤ 21
          omega
        rintro m σ H2 ⟨hs, here, o5, o6, o7, o8, o9, o10, o11, rfl, e, hL, hh2, hD, hm2, hm21⟩
        refine ⟨_, rfl, Nat.zero_le _, fun z hz => rNe_nil (by rw [upd_ne (ne_of_none hh2 hz)]; exact hh2) (plain_nats here) upd_same ⟨_, rfl, ?_⟩⟩
        have e4 := e.trans (Ex.new (o := .lst []) hz)
        have hL4 : (upd H2 z (.lst [])) l = some (.lst (hs.map oV)) := by rw [upd_ne (ne_of_none hL hz)]; exact hL
        have hh4 : (upd H2 z (.lst [])) hh = some (.lst (here.map nV)) := by rw [upd_ne (ne_of_none hh2 hz)]; exact hh2
        rcases List.eq_nil_or_concat here with rfl | ⟨init, low, rfl⟩
        · exact iteF ⟨hs, _, _, _, _, _, _, _, _, _, rfl, e4, hL4, hD.stop⟩
        · rw [List.concat_eq_append] at hm2 hD hh4
          have hemp : (!(List.map nV (init.concat low)).isEmpty) = true := by simp
          rw [hemp]
          refine iteT ⟨fun σ' H' => ∃ m', m' < m ∧ HW H a v l n W ns i hh m' σ' H', fun _ _ h => h, ?_⟩
          refine ⟨_, rfl, .inl ⟨rfl, _, SqL.of hh4⟩, hh, _, nV low, rfl, rfl, hh4, by simp, ?_⟩
          have hdl : ((init ++ [low]).map nV).dropLast = init.map nV := by simp
          rw [hdl]
          have e5 := e4.mut (o := .lst (init.map nV)) hhn0
          have hL5 : (upd (upd H2 z (.lst [])) hh (.lst (init.map nV))) l = some (.lst (hs.map oV)) := by rw [upd_ne nlh]; exact hL4
          have hlow : ∃ x, gt hs low = some x := hD.mem low (.inl (by simp))
          have hlown : low < n := by
            obtain ⟨x, hx⟩ := hlow
            rw [← hD.len]
            exact KM.gt_none_len (by rw [hx]; exact fun z => nomatch z)
          refine ⟨_, rfl, a, _, 1, _, rfl, rfl, SqT.of (e5 _ _ ha.w), atI_nat (j := 1) rfl, _, rfl, ta, v, rs.map V.ref, ns.map V.int, rfl, .inr ⟨SqT.of (e5 _ _ ha.t), SqT.of (e5 _ _ hv), ?_⟩⟩
          refine for_zipT (K := K) (a := ta) (b := v) (xs := rs.map V.ref) (ys := ns.map V.int) (by simp; omega) (HZ H a v l n W ns i hh low m) ⟨hs, init, _, _, _, _, _, _, rfl, e5, hL5, upd_same, hD.pop, ?_⟩ ?_ ?_ ?_
          · rw [List.length_append] at hm2
            simp at hm2
            omega
          · rintro j σ H' ⟨_, _, _, _, _, _, _, _, _, e, _⟩
            exact ⟨SqT.of (e _ _ ha.t), SqT.of (e _ _ hv)⟩
          · rintro j x y T0 σ H3 hx hy ⟨hs, here, o6, o7, o8, o9, o10, o11, rfl, e, hL, hh3, hD, hm3⟩ hT0
            obtain ⟨r, hr', rfl⟩ := refs_at hx
            have hj : j < rs.length := (List.getElem?_eq_some_iff.mp hr').1
            have hy2 : y = .int (at0 ns j) := Option.some.inj (hy.symm.trans (int_get (by omega)))
            subst hy2
            have hsj := ha.good.src (k := j) (by omega)
            have hdj := ha.good.dst (k := j) (by omega)
            have e6 := e.trans (Ex.new (o := .tup [.ref r, .int (at0 ns j)]) hT0)
            refine ⟨T0, _, rfl, SqT.of upd_same, rfl, _, _, rfl, r, _, rfl, SqT.of (e6 _ _ (ha.a j r hr')), rfl, _, _, rfl, _, _, rfl, rfl, _, _, rfl, rfl, ?_⟩
            refine ⟨_, rfl, _, rfl, _, rfl, by show 3 ≤ sizeLine; decide, fun T1 hT1 => ?_⟩
            refine ⟨_, rfl, _, rfl, _, rfl, _, rfl, by show 3 ≤ sizeLine; decide, fun T2 hT2 => ?_⟩
            refine ⟨by show 2 ≤ sizeLine; decide, fun T hT => ⟨T, rfl, ⟨_, SqT.of upd_same⟩, ?_⟩⟩
            have g1 := Ex.new (o := .tup [nV (src W j), nV (dst W j), .int (at0 ns j)]) hT1
            have g2 := Ex.new (o := .tup [nV (dst W j), nV (src W j), .int (-at0 ns j)]) hT2
            have g3 := Ex.new (o := .tup [.ref T1, .ref T2]) hT
            have g := ((Ex.new (o := .tup [.ref r, .int (at0 ns j)]) hT0).trans g1).trans (g2.trans g3)
            refine for_tup (K := K) (a := T) (xs := [.ref T1, .ref T2]) (HC H a v l n W ns i hh T1 T2 T low m j) ⟨hs, here, _, _, _, rfl, e.trans g, g _ _ hL, g _ _ hh3, hD, hm3, g3 _ _ (g2 _ _ upd_same), g3 _ _ upd_same, upd_same⟩ ?_ ?_ ?_
            · rintro c σ H' _ ⟨_, _, _, _, _, _, _, _, _, _, _, _, _, h⟩
              exact SqT.of h
            · rintro c x σ H4 hx ⟨hs, here, o9, o10, o11, rfl, e, hL, hF, hD, hm4, h1, h2, h3⟩
              obtain ⟨one, other, rise, T', hxe, hT', hone, hother, hpot, hzero, hk0, hk1⟩ : ∃ (one other : Nat) (rise : Int) (T' : Addr), x = .ref T' ∧ H4 T' = some (.tup [nV one, nV other, .int rise]) ∧ one < n ∧ other < n ∧
                  (∀ f, KM.Pot W ns f → rise = f other - f one) ∧ ((∀ k, k < W.length → at0 ns k = 0) → rise = 0) ∧
                  (∀ k, 2 * j + c = 2 * k → k < W.length → src W k = one ∧ dst W k = other) ∧ (∀ k, 2 * j + c = 2 * k + 1 → k < W.length → dst W k = one ∧ src W k = other) := by
                have hjw : j < W.length := by omega
                match c, hx with
                | 0, hx =>
                  refine ⟨src W j, dst W j, at0 ns j, T1, (Option.some.inj hx).symm, h1, hsj, hdj, fun f hf => hf j hjw, fun z => z j hjw, fun k hk _ => ?_, fun k hk _ => by omega⟩
                  have : k = j := by omega
                  rw [this]
                  exact ⟨rfl, rfl⟩
                | 1, hx =>
                  refine ⟨dst W j, src W j, -at0 ns j, T2, (Option.some.inj hx).symm, h2, hdj, hsj, fun f hf => ?_, fun z => ?_, fun k hk _ => by omega, fun k hk _ => ?_⟩
                  · have := hf j hjw
                    unfold KM.pd at this
                    omega
                  · have := z j hjw
                    omega
                  · have : k = j := by omega
                    rw [this]
                    exact ⟨rfl, rfl⟩
                | c + 2, hx => simp at hx
              subst hxe
              refine ⟨T', _, rfl, SqT.of hT', rfl, _, _, rfl, _, _, rfl, _, _, rfl, rfl, ?_⟩
              have hol : other < hs.length := by rw [hD.len]; exact hother
              refine ⟨_, rfl, _, rfl, rfl, _, rfl, ?_⟩
              have hdec : decide (nV one = nV low) = decide (one = low) := by
                by_cases z : one = low
                · rw [z]
                  simp
                · rw [decide_eq_false z]
                  refine decide_eq_false fun y => z ?_
                  have := V.int.inj y
                  omega
              rw [hdec]
              by_cases hol1 : one = low
              · rw [decide_eq_true hol1]
                refine iteT ?_
                subst hol1
                refine ⟨_, rfl, _, rfl, l, _, (other : Int), _, rfl, rfl, SqL.of hL, atI_nat (oV_get hol), rfl, _, congrArg V.bl (oV_none _), ?_⟩
                cases hg : gt hs other with
                | some x =>
                  refine iteF ⟨hs, here, _, _, _, rfl, e, hL, hF, ?_, hm4, h1, h2, h3⟩
                  refine hD.miss (fun k hk hkl hs1 => ?_) (fun k hk hkl hs1 => ?_)
                  · rw [(hk0 k hk hkl).2, hg]
                    exact fun z => nomatch z
                  · rw [(hk1 k hk hkl).2, hg]
                    exact fun z => nomatch z
                | none =>
                  refine iteT ?_
                  obtain ⟨x, hx2⟩ := hD.mem one (.inr rfl)
                  have hlow2 : one < hs.length := by rw [hD.len]; exact hone
                  refine ⟨_, rfl, _, rfl, l, _, (one : Int), _, rfl, rfl, SqL.of hL, atI_nat ((oV_get hlow2).trans (by rw [hx2]; rfl)), _, rfl, x, rise, rfl, rfl, _, rfl, _, rfl, l, _, (other : Int), other, rfl, rfl, hL, ixN_nat (by simp; omega), ?_⟩
                  rw [oV_set]
                  have hh5 : (upd H4 l (.lst ((hs.set other (some (x + rise))).map oV))) hh = some (.lst (here.map nV)) := by rw [upd_ne nlh.symm]; exact hF
                  refine ⟨_, rfl, .inl ⟨rfl, _, SqL.of hh5⟩, _, rfl, hh, _, nV other, rfl, rfl, hh5, sz_lt (by simp; omega), ?_⟩
                  have tl : ∀ {p : Addr} {xs : List V}, H4 p = some (.tup xs) → (upd (upd H4 l (.lst ((hs.set other (some (x + rise))).map oV))) hh (.lst (here.map nV ++ [nV other]))) p = some (.tup xs) := fun {p xs} hp => by
                    rw [upd_ne (ne_of hp hF (fun z => by cases z)), upd_ne (ne_of hp hL (fun z => by cases z))]
                    exact hp
                  refine ⟨hs.set other (some (x + rise)), here ++ [other], _, _, _, rfl, (e.mut hln).mut hhn0, by rw [upd_ne nlh, upd_same], by rw [upd_same, List.map_append]; rfl, ?_, ?_, tl h1, tl h2, tl h3⟩
                  · exact hD.found ha.good hx2 hg hother hpot hzero (fun k hk hkl _ => (hk0 k hk hkl).2) (fun k hk hkl _ => (hk1 k hk hkl).2)
                  · have := KM.bare_set (c := x + rise) hol hg
                    rw [List.length_append]
                    show 2 * bare (hs.set other (some (x + rise))) + (here.length + 1) < m
                    omega
              · rw [decide_eq_false hol1]
                refine iteF (iteF ⟨hs, here, _, _, _, rfl, e, hL, hF, ?_, hm4, h1, h2, h3⟩)
                refine hD.miss (fun k hk hkl hs1 => ?_) (fun k hk hkl hs1 => ?_)
                · exact absurd ((hk0 k hk hkl).1.symm.trans hs1) hol1
                · exact absurd ((hk1 k hk hkl).1.symm.trans hs1) hol1
            · rintro σ H' ⟨hs, here, o9, o10, o11, rfl, e, hL, hh4, hD, hm4, _⟩
              exact ⟨hs, here, _, _, _, _, _, _, rfl, e, hL, hh4, hD, hm4⟩
          · rintro σ H' ⟨hs, here, o6, o7, o8, o9, o10, o11, rfl, e, hL, hh3, hD, hm3⟩
            rw [List.length_map] at hD
            exact ⟨_, hm3, hs, here, _, _, _, _, _, _, _, rfl, e, hL, hh3, hD.turned (by omega), rfl, by omega⟩
    · rintro σ H' ⟨hs, o3, o4, o5, o6, o7, o8, o9, o10, o11, rfl, e, hL, hO⟩
      rw [Int.toNat_natCast] at hO
      obtain ⟨xs, rfl, hx1, hx2, hx3⟩ := hO.all ha.good
      refine ⟨_, rfl, q l H' xs e ?_ hx1 (fun h => hx2 h hl) hx3⟩
      rw [hL, List.map_map]
      rfl
end
end KW
namespace KW
open PySem PySem.Spec PyProof.Rows L2 KR RZ
open KM (Web src dst Good at0 exc pull)
section
variable {P : Program} {w : World} {K : PySem.W.Frag} {mg : Str → Option Value} {base : Heap} {f : Addr} {fd : FuncData} {t1 t2 t3 : Tok}
def spIsPull : Sp := fun vs H Q _ => ∃ (a : Addr) (n : Nat) (W : Web) (ta : Addr) (rs : List Addr) (v : Addr) (ns : List Int), vs = [.ref a, .ref v] ∧ WebAt H a n W ta rs ∧ H v = some (.tup (ns.map V.int)) ∧ ns.length = W.length ∧
  ∀ (b : Bool) H', (b = true ↔ KM.IsPull W ns) → Ex H H' → Q (.bl b) H'
theorem ok_is_pull_of (D_are_amounts : Def P w K mg base "are_amounts" P_are_amounts 2 spAmounts) (D_heights_by : Def P w K mg base "heights_by" P_heights_by 1 spHeightsBy) (D_pull_by : Def P w K mg base "pull_by" P_pull_by 1 spPullBy)
    (F : Fun K "is_pull_of" "is_pull_of" s_is_pull_of f fd) : FnOk P w K mg base CX0 3 f fd P_is_pull_of spIsPull := by
  refine F.ok sc_is_pull_of (fun vs H Q E h => ?_) (fun cdv A outer s H vs Q E hr h => ?_)
  · obtain ⟨a, n, W, ta, rs, v, ns, rfl, _⟩ := h
    rfl
  · obtain ⟨a, n, W, ta, rs, v, ns, rfl, ha, hv, hl, q⟩ := h
    have hu := hr.units
    refine ⟨_, (pss_one (ps_ret (pe_and (pe_cd D_are_amounts (hr.mono (by decide)) (by rfl) (pa_cons (pv 0) (pa_cons (pv 1) pa_nil))) (pe_one (pe_cmpR (op_eqD hu) (pe_cd D_pull_by (hr.mono (by decide)) (by rfl) (pa_cons (pv 0) (pa_cons (pe_cd D_heights_by (hr.mono (by decide)) (by rfl) (pa_cons (pv 0) (pa_cons (pv 1) pa_nil))) pa_nil))) (pv 1) (nomark _)))))), ?_⟩
    refine ⟨_, rfl, _, rfl, a, n, W, ta, rs, v, ns, rfl, ha, hv, hl, fun H1 e1 => ⟨true, rfl, iteT ?_⟩⟩
    refine ⟨_, rfl, _, rfl, _, rfl, a, n, W, ta, rs, v, ns, rfl, ha.mono e1, e1 _ _ hv, hl, fun p H2 xs e2 hp hxl hx1 hx2 => ?_⟩
    have e12 := e1.trans e2
    refine ⟨a, n, W, ta, rs, p, xs, rfl, ha.mono e12, .inl hp, hxl, fun p2 H3 e3 _ h3 => ?_⟩
    refine ⟨_, rfl, rEq_ints h3 (e3 _ _ (e12 _ _ hv)) (q _ _ ?_ (e12.trans e3))⟩
    rw [decide_eq_true_iff]
    exact ⟨fun h => ⟨_, h.symm⟩, fun h => hx1 h⟩
theorem ok_is_pull (D_check_web : Def P w K mg base "check_web" P_check_web 4 spCheckWeb) (D_is_pull_of : Def P w K mg base "is_pull_of" P_is_pull_of 3 spIsPull) (F : Fun K "is_pull" "is_pull" s_is_pull f fd) : FnOk P w K mg base CX0 5 f fd P_is_pull spIsPull := by
  refine F.ok sc_is_pull (fun vs H Q E h => ?_) (fun cdv A outer s H vs Q E hr h => ?_)
  · obtain ⟨a, n, W, ta, rs, v, ns, rfl, _⟩ := h
    rfl
  · obtain ⟨a, n, W, ta, rs, v, ns, rfl, ha, hv, hl, q⟩ := h
    refine ⟨_, (pss_cons (ps_expr (pe_cd D_check_web (hr.mono (by decide)) (by rfl) (pa_cons (pv 0) pa_nil)))
      (pss_one (ps_ret (pe_cd D_is_pull_of (hr.mono (by decide)) (by rfl) (pa_cons (pv 0) (pa_cons (pv 1) pa_nil)))))), ?_⟩
    exact ⟨_, rfl, a, n, W, ta, rs, rfl, ha, fun H1 e1 => ⟨_, rfl, _, rfl, a, n, W, ta, rs, v, ns, rfl, ha.mono e1, e1 _ _ hv, hl, fun b H2 hb e2 => q b H2 hb (e1.trans e2)⟩⟩
def spCheckPull : Sp := fun vs H Q _ => ∃ (a : Addr) (n : Nat) (W : Web) (ta : Addr) (rs : List Addr) (v : Addr) (ns : List Int), vs = [.ref a, .ref v] ∧ WebAt H a n W ta rs ∧ H v = some (.tup (ns.map V.int)) ∧ ns.length = W.length ∧
  KM.IsPull W ns ∧ (∀ x ∈ ns, -(10 ^ 60) ≤ x ∧ x ≤ 10 ^ 60) ∧ ∀ H', Ex H H' → Q .non H'
theorem ok_check_pull (B : Bt mg) (C : Cn mg t1 t2 t3) (D_is_pull_of : Def P w K mg base "is_pull_of" P_is_pull_of 3 spIsPull) (F : Fun K "check_pull" "check_pull" s_check_pull f fd) : FnOk P w K mg base CX0 4 f fd P_check_pull spCheckPull := by
  refine F.ok sc_check_pull (fun vs H Q E h => ?_) (fun cdv A outer s H vs Q E hr h => ?_)
  · obtain ⟨a, n, W, ta, rs, v, ns, rfl, _⟩ := h
    rfl
  · obtain ⟨a, n, W, ta, rs, v, ns, rfl, ha, hv, hl, hp, hb, q⟩ := h
    refine ⟨_, (pss_one (ps_if (PW.pt (pw_or (pt_not (pt_val (pe_cd D_is_pull_of (hr.mono (by decide)) (by rfl) (pa_cons (pv 0) (pa_cons (pv 1) pa_nil))))) (pw_or1 (pt_not (pt_val (pe_callB (cr_all rfl) (by rfl) B.all (by decide +kernel) (pa_cons (pe_lc (own := [(("one" : Str), 2)]) (g := (gName 2)) rfl sc_check_pull.nd (pi_tup (pv 1)) (blkOk_by (own := [(("one" : Str), 2)]) (N := N_check_pull) (sc := defScope s_check_pull) (by decide +kernel)) (fun _ _ _ _ _ => (pg_name (i := 2) sc_check_pull.nd rfl (.inl rfl))) (fun _ _ _ _ _ => pts_nil) (fun _ _ _ _ _ => (pe_chain op_le op_le (pe_un un_neg (pe_glob (v := .int (10 ^ 60)) (by rfl) C.MOST_HEIGHT ⟨_, rfl⟩)) (pv 2) (pe_glob (v := .int (10 ^ 60)) (by rfl) C.MOST_HEIGHT ⟨_, rfl⟩)))) pa_nil)))))))
        (pss_one ps_never)
        pss_nil)), ?_⟩
    have hm := ha.m15
    refine ⟨_, rfl, _, rfl, a, n, W, ta, rs, v, ns, rfl, ha, hv, hl, fun b H1 hb1 e1 => ⟨true, congrArg V.bl (hb1.mpr hp), iteF ?_⟩⟩
    have hv1 := e1 _ _ hv
    refine ⟨_, rfl, v, rfl, ⟨_, SqT.of hv1⟩, fun D hD => lc_tup (K := K) (a := v) (xs := ns.map V.int) (Cw H1 (upto fun _ => .bl true) D) (Cw.start hD rfl) (fun i H' _ c => SqT.of (c.ex _ _ hv1)) (fun i x H' hx c => ?_) (fun H2 c => ?_)⟩
    · obtain ⟨z, hz, rfl⟩ := ints_at hx
      have hi : i < ns.length := (List.getElem?_eq_some_iff.mp hz).1
      obtain ⟨z0, z1⟩ := hb z (List.mem_of_getElem? hz)
      refine ⟨rfl, _, rfl, _, rfl, _, z, rfl, rfl, true, congrArg V.bl (decide_eq_true z0), iteT ⟨z, _, rfl, rfl, ?_⟩⟩
      have ez : decide (z ≤ 10 ^ 60) = true := decide_eq_true z1
      simp only [ez]
      exact c.put (Ex.refl _) (upto_succ _ _) (by rw [upto_len]; omega)
    · refine ⟨D, List.replicate ns.length true, rfl, SqL.of (by rw [c.at_, List.length_map, upto_const]), _, rfl, ?_⟩
      rw [all_true]
      exact iteF (q _ (e1.trans c.ex))
def spHeightsOf : Sp := fun vs H Q _ => ∃ (a : Addr) (n : Nat) (W : Web) (ta : Addr) (rs : List Addr) (v : Addr), vs = [.ref a, .ref v] ∧ WebAt H a n W ta rs ∧ H v = some (.tup ((List.replicate W.length (0 : Int)).map V.int)) ∧
  ∀ p H', Ex H H' → H' p = some (.tup ((List.replicate n (0 : Int)).map V.int)) → Q (.ref p) H'
theorem ok_heights_of (B : Bt mg) (D_check_web : Def P w K mg base "check_web" P_check_web 4 spCheckWeb) (D_check_pull : Def P w K mg base "check_pull" P_check_pull 4 spCheckPull) (D_heights_by : Def P w K mg base "heights_by" P_heights_by 1 spHeightsBy)
    (F : Fun K "heights_of" "heights_of" s_heights_of f fd) : FnOk P w K mg base CX0 5 f fd P_heights_of spHeightsOf := by
  refine F.ok sc_heights_of (fun vs H Q E h => ?_) (fun cdv A outer s H vs Q E hr h => ?_)
  · obtain ⟨a, n, W, ta, rs, v, rfl, _⟩ := h
    rfl
  · obtain ⟨a, n, W, ta, rs, v, rfl, ha, hv, q⟩ := h
    refine ⟨_, (pss_cons (ps_expr (pe_cd D_check_web (hr.mono (by decide)) (by rfl) (pa_cons (pv 0) pa_nil)))
      (pss_cons (ps_expr (pe_cd D_check_pull (hr.mono (by decide)) (by rfl) (pa_cons (pv 0) (pa_cons (pv 1) pa_nil))))
      (pss_one (ps_ret (pe_callTy call_tuple_of (by rfl) B.tuple (by decide +kernel) (pa_cons (pe_cd D_heights_by (hr.mono (by decide)) (by rfl) (pa_cons (pv 0) (pa_cons (pv 1) pa_nil))) pa_nil)))))), ?_⟩
    have hz : KM.IsPull W (List.replicate W.length 0) := ⟨fun _ => 0, (KM.pull_iff (by simp)).mpr fun k hk => by
      rw [KM.at0_zero]
      rfl⟩
    refine ⟨_, rfl, a, n, W, ta, rs, rfl, ha, fun H1 e1 => ?_⟩
    refine ⟨_, rfl, _, rfl, a, n, W, ta, rs, v, _, rfl, ha.mono e1, e1 _ _ hv, by simp, hz, fun x hx => ?_, fun H2 e2 => ?_⟩
    · have : x = 0 := (List.mem_replicate.mp hx).2
      subst this
      decide
    · have e := e1.trans e2
      refine ⟨_, rfl, _, rfl, a, n, W, ta, rs, v, _, rfl, ha.mono e, e _ _ hv, by simp, fun p H3 xs e3 hp hxl _ hx2 => ⟨p, _, rfl, .inl ⟨SqL.of hp, fun p2 hp2 => ?_⟩⟩⟩
      refine q p2 _ ((e.trans e3).trans (Ex.new hp2)) ?_
      rw [upd_same, hx2 fun k _ => KM.at0_zero _ _]
end
end KW
namespace KW
open PySem PySem.Spec PyProof.Rows L2 KR RZ
open KM (Web src dst Good at0 exc pull)
def Mill (H : Hp) (m : Addr) : Prop := ∃ g x : Int, H m = some (.lst [.int g, .int x])
structure Mx (m : Addr) (H H' : Hp) : Prop where
  keep : ∀ b o, b ≠ m → H b = some o → H' b = some o
  mill : Mill H' m
theorem Mx.refl {m : Addr} {H : Hp} (h : Mill H m) : Mx m H H := ⟨fun _ _ _ e => e, h⟩
theorem Mx.trans {m : Addr} {H H1 H2 : Hp} (a : Mx m H H1) (b : Mx m H1 H2) : Mx m H H2 := ⟨fun c o n e => b.keep c o n (a.keep c o n e), b.mill⟩
theorem Mill.ex {m : Addr} {H H' : Hp} (h : Mill H m) (e : Ex H H') : Mill H' m := by
  obtain ⟨g, x, h⟩ := h
  exact ⟨g, x, e _ _ h⟩
theorem Mx.of_ex {m : Addr} {H H' : Hp} (h : Mill H m) (e : Ex H H') : Mx m H H' := ⟨fun c o _ q => e c o q, h.ex e⟩
theorem Mx.ex {m : Addr} {H H1 H2 : Hp} (a : Mx m H H1) (e : Ex H1 H2) : Mx m H H2 := a.trans (.of_ex a.mill e)
theorem Mx.put {m : Addr} {H : Hp} (g x : Int) : Mx m H (upd H m (.lst [.int g, .int x])) := ⟨fun c o n e => by rw [upd_ne n]; exact e, g, x, upd_same⟩
theorem Mill.ne {m a : Addr} {H : Hp} (h : Mill H m) (ha : H a = none) : a ≠ m := by
  obtain ⟨g, x, h⟩ := h
  exact (ne_of_none h ha).symm
theorem Mx.back {m p : Addr} {H H' : Hp} (e : Mx m H H') (h : H' p = none) : H p = none := by
  have n := e.mill.ne h
  cases h1 : H p with
  | none => rfl
  | some o =>
    rw [e.keep p o n h1] at h
    cases h
theorem Mx.tup {m a : Addr} {H H' : Hp} {xs : List V} (e : Mx m H H') (h0 : Mill H m) (h : H a = some (.tup xs)) : H' a = some (.tup xs) := by
  obtain ⟨g, x, h0⟩ := h0
  exact e.keep _ _ (ne_of h h0 (fun z => by cases z)) h
/-- an object that H does not know may change -/
theorem Mx.mut {m p : Addr} {H H' : Hp} {o : HO} (e : Mx m H H') (h : H p = none) (hm : p ≠ m) : Mx m H (upd H' p o) := ⟨fun a u n ha => by
  rw [upd_ne (ne_of_none ha h)]
  exact e.keep a u n ha, by
  obtain ⟨g, x, h2⟩ := e.mill
  exact ⟨g, x, by rw [upd_ne hm.symm]; exact h2⟩⟩
theorem WebAt.mx {m : Addr} {H H' : Hp} {w : Addr} {n : Nat} {E : Web} {ta : Addr} {rs : List Addr} (W : WebAt H w n E ta rs) (e : Mx m H H') (h0 : Mill H m) : WebAt H' w n E ta rs :=
  ⟨e.tup h0 W.w, e.tup h0 W.t, W.len, fun i r h => e.tup h0 (W.a i r h), W.n1, W.n10, W.m15, W.good⟩
theorem abs_if (z : Int) : (if z < 0 then -z else z) = (z.natAbs : Int) := by
  split <;> omega
/-- one cell more in the mill -/
theorem mill_lt {B i : Nat} {g c : Int} (h0 : 0 ≤ g) (hg : g.natAbs < 2 ^ (i * (B + 4))) (hc : c.natAbs < 2 ^ B) :
    0 ≤ g * (2 * (c.natAbs : Int) + 7) + (c.natAbs : Int) ∧ (g * (2 * (c.natAbs : Int) + 7) + (c.natAbs : Int)).natAbs < 2 ^ ((i + 1) * (B + 4)) := by
  have e1 : (2 : Nat) ^ ((i + 1) * (B + 4)) = 2 ^ (i * (B + 4)) * (2 ^ B * 16) := by
    rw [Nat.succ_mul, Nat.pow_add, Nat.pow_add]
  rw [e1]
  obtain ⟨G, rfl⟩ := Int.eq_ofNat_of_zero_le h0
  have hg2 : G < 2 ^ (i * (B + 4)) := by simpa using hg
  generalize 2 ^ (i * (B + 4)) = X at hg2 ⊢
  generalize c.natAbs = d at hc ⊢
  generalize 2 ^ B = Y at hc ⊢
  have e2 : ((G : Int) * (2 * (d : Int) + 7) + (d : Int)) = ((G * (2 * d + 7) + d : Nat) : Int) := by push_cast; rfl
  rw [e2]
  refine ⟨by omega, ?_⟩
  rw [Int.natAbs_natCast]
  have h1 : G * (2 * d + 7) + d < (G + 1) * (2 * d + 7) := by
    have ht : d < 2 * d + 7 := by omega
    generalize 2 * d + 7 = t at ht
    rw [Nat.add_mul, Nat.one_mul]
    omega
  have h2 : (G + 1) * (2 * d + 7) ≤ X * (Y * 16) := Nat.mul_le_mul (by omega) (by omega)
  exact Nat.lt_of_lt_of_le h1 h2
theorem fac_lt {B : Nat} {c : Int} (hc : c.natAbs < 2 ^ B) : (2 * (c.natAbs : Int) + 7).natAbs < 2 ^ (B + 4) := by
  have e1 : (2 : Nat) ^ (B + 4) = 2 ^ B * 16 := Nat.pow_add ..
  rw [e1]
  generalize c.natAbs = d at hc ⊢
  generalize 2 ^ B = Y at hc ⊢
  omega
theorem lt_of_bits {B : Nat} {c : Int} (h : Builtin.Int.intBits c ≤ B) : c.natAbs < 2 ^ B := by
  unfold Builtin.Int.intBits at h
  by_cases z : c.natAbs = 0
  · rw [z]
    exact Nat.two_pow_pos B
  · refine (Nat.log2_lt z).mp ?_
    split at h
    · rename_i h1
      exact absurd (by simpa using h1) z
    · omega
section
variable {P : Program} {w : World} {K : PySem.W.Frag} {mg : Str → Option Value} {base : Heap} {f : Addr} {fd : FuncData} {t1 t2 t3 : Tok}
def spMill (K : PySem.W.Frag) : Sp := fun vs H Q _ => ∃ (a : Addr) (ns : List Int), vs = [.ref a] ∧ SqL K H a (ns.map V.int) ∧ ns.length ≤ 63 ∧ (∀ z ∈ ns, Builtin.Int.intBits z ≤ 1048576) ∧ ∀ p H', Ex H H' → H p = none → Mill H' p → Q (.ref p) H'
theorem ok_mill (B : Bt mg) (F : Fun K "_law_mill" "_law_mill" s_mill f fd) : FnOk P w K mg base CX0 1 f fd P_mill (spMill K) := by
  refine F.ok sc_mill (fun vs H Q E h => ?_) (fun cdv A outer s H vs Q E hr h => ?_)
  · obtain ⟨a, ns, rfl, _⟩ := h
    rfl
  · obtain ⟨a, ns, rfl, ha, hl, hb, q⟩ := h
    refine ⟨_, (pss_cons (ps_set (i := 1) sc_mill.nd rfl (.inl rfl) pe_int)
      (pss_cons (ps_set (i := 2) sc_mill.nd rfl (.inl rfl) (pe_op op_add pe_int (pe_callB call_len_seq (by rfl) B.len (by decide +kernel) (pa_cons (pv 0) pa_nil))))
      (pss_cons (ps_for PassesOwn.never rfl (pi_list (pv 0)) (pg_name (i := 3) sc_mill.nd rfl (.inl rfl))
        (pss_cons (ps_set (i := 1) sc_mill.nd rfl (.inl rfl) (pe_op op_add (pe_op op_mulI (pv 1) (pe_op op_add (pe_op op_mul pe_int (pe_callB call_abs (by rfl) B.abs (by decide +kernel) (pa_cons (pv 3) pa_nil))) pe_int)) (pe_callB call_abs (by rfl) B.abs (by decide +kernel) (pa_cons (pv 3) pa_nil))))
        (pss_one (ps_set (i := 2) sc_mill.nd rfl (.inl rfl) (pe_op op_mod (pe_callTy call_int1 (by rfl) B.int (by decide +kernel) (pa_cons (pe_op op_add (pe_op op_add (pe_op op_mul (pv 2) pe_int) (pe_op op_mul (pv 3) pe_int)) pe_int) pa_nil)) (pe_op op_sub (pe_op op_pow pe_int pe_int) pe_int))))))
      (pss_one (ps_ret (pe_lst (pa_cons (pv 1) (pa_cons (pv 2) pa_nil)))))))), ?_⟩
    obtain ⟨N, hN⟩ : ∃ N, N = 1048576 := ⟨_, rfl⟩
    rw [← hN] at hb
    refine ⟨_, rfl, a, _, rfl, .inl ha, _, _, rfl, rfl, ?_⟩
    refine ⟨_, rfl, a, rfl, ⟨_, ha⟩, for_list (K := K) (a := a) (xs := ns.map V.int) (fun i σ H' => ∃ (g x : Int) (o3 : Option V), σ = [some (.ref a), some (.int g), some (.int x), o3] ∧ H' = H ∧ 0 ≤ g ∧ g.natAbs < 2 ^ (i * (N + 4)))
      ⟨0, _, none, rfl, rfl, by omega, by simp⟩ (fun i σ H' _ ⟨_, _, _, _, e, _⟩ => by rw [e]; exact ha) ?_ ?_⟩
    · rintro i y σ H' hy ⟨g, x, o3, rfl, rfl, hg0, hg⟩
      obtain ⟨z, hz, rfl⟩ := ints_at hy
      have hi : i < ns.length := (List.getElem?_eq_some_iff.mp hz).1
      have hc := lt_of_bits (hb z (List.mem_of_getElem? hz))
      obtain ⟨k1, k2⟩ := mill_lt hg0 hg hc
      refine ⟨_, rfl, _, rfl, z, rfl, 2, _, rfl, rfl, .inl ⟨by decide, by decide⟩, _, 7, rfl, rfl, g, _, rfl, rfl, ?_, _, rfl, z, rfl, _, _, rfl, rfl, ?_⟩
      · rw [abs_if]
        refine mulOk_of hg (fac_lt hc) ?_
        have : i * (N + 4) ≤ 62 * (N + 4) := Nat.mul_le_mul_right _ (by omega)
        omega
      · rw [abs_if]
        refine ⟨_, rfl, x, _, rfl, rfl, .inr ⟨by decide, by decide⟩, _, rfl, z, _, rfl, rfl, .inr ⟨by decide, by decide⟩, _, _, rfl, rfl, _, 71, rfl, rfl, .inl ⟨_, rfl, 2, 61, rfl, rfl, ⟨by decide, by decide, by decide⟩, _, 1, rfl, rfl, _, _, rfl, rfl, (by show (0 : Int) < 2 ^ (61 : Int).toNat - 1; decide), ?_⟩⟩
        exact ⟨_, _, _, rfl, rfl, k1, k2⟩
    · rintro σ H' ⟨g, x, o3, rfl, rfl, hg0, hg⟩
      exact ⟨_, rfl, _, rfl, by show 2 ≤ sizeLine; decide, fun p hp => q p _ (Ex.new hp) hp ⟨g, x, upd_same⟩⟩
def spGrind : Sp := fun vs H Q _ => ∃ (m : Addr) (k : Int), vs = [.ref m, .int k] ∧ Mill H m ∧ 0 < k ∧ k ≤ 10 ^ 19 ∧ ∀ (r g x : Int), 0 ≤ r → r < k → Q (.int r) (upd H m (.lst [.int g, .int x]))
theorem small_log {k : Int} (h0 : 0 < k) (h : k ≤ 10 ^ 19) : k.natAbs.log2 < 9000 := by
  have h1 : k.natAbs ≠ 0 := by omega
  have := (Nat.log2_lt (k := 64) h1).mpr (by omega)
  omega
theorem ok_grind (B : Bt mg) (F : Fun K "_law_grind" "_law_grind" s_grind f fd) : FnOk P w K mg base CX0 1 f fd P_grind spGrind := by
  refine F.ok sc_grind (fun vs H Q E h => ?_) (fun cdv A outer s H vs Q E hr h => ?_)
  · obtain ⟨m, k, rfl, _⟩ := h
    rfl
  · obtain ⟨m, k, rfl, ⟨g, x, hm⟩, hk0, hk1, q⟩ := h
    refine ⟨_, (pss_cons (ps_if (pt_cmpR op_gt (pe_ix (r := rIxL K) ix_list (pv 0) pe_int (fun _ _ => rfl)) pe_int (nomark _))
        (pss_cons (ps_set (i := 2) sc_grind.nd rfl (.inl rfl) (pe_op op_mod (pe_callTy call_int1 (by rfl) B.int (by decide +kernel) (pa_cons (pe_ix (r := rIxL K) ix_list (pv 0) pe_int (fun _ _ => rfl)) pa_nil)) (pv 1)))
        (pss_cons (ps_asg (pe_op op_fdivW (pe_ix (r := rIxL K) ix_list (pv 0) pe_int (fun _ _ => rfl)) (pv 1)) (pg_sub (pv 0) pe_int set_list))
        (pss_one (ps_ret (pv 2)))))
        pss_nil)
      (pss_cons (ps_asg (pe_op op_mod (pe_callTy call_int1 (by rfl) B.int (by decide +kernel) (pa_cons (pe_op op_add (pe_op op_mul (pe_ix (r := rIxL K) ix_list (pv 0) pe_int (fun _ _ => rfl)) pe_int) pe_int) pa_nil)) (pe_op op_sub (pe_op op_pow pe_int pe_int) pe_int)) (pg_sub (pv 0) pe_int set_list))
      (pss_one (ps_ret (pe_op op_mod (pe_callTy call_int1 (by rfl) B.int (by decide +kernel) (pa_cons (pe_op op_fdivW (pe_ix (r := rIxL K) ix_list (pv 0) pe_int (fun _ _ => rfl)) pe_int) pa_nil)) (pv 1)))))), ?_⟩
    refine ⟨_, rfl, m, _, 0, _, rfl, rfl, SqL.of hm, atI_nat (j := 0) rfl, g, 0, rfl, rfl, _, rfl, ite2 (fun _ => ?_) (fun _ => ?_)⟩
    · refine ⟨_, rfl, m, _, 0, _, rfl, rfl, SqL.of hm, atI_nat (j := 0) rfl, .inl ⟨g, rfl, _, rfl, g, k, rfl, rfl, hk0, ?_⟩⟩
      refine ⟨_, rfl, m, _, 0, _, rfl, rfl, SqL.of hm, atI_nat (j := 0) rfl, _, rfl, g, k, rfl, rfl, ⟨hk0, small_log hk0 hk1⟩, _, rfl, m, _, 0, 0, rfl, rfl, hm, rfl, ?_⟩
      exact ⟨_, rfl, q _ _ _ (Int.emod_nonneg _ (by omega)) (Int.emod_lt_of_pos _ hk0)⟩
    · refine ⟨_, rfl, m, _, 1, _, rfl, rfl, SqL.of hm, atI_nat (j := 1) rfl, x, _, rfl, rfl, .inr ⟨by decide, by decide⟩, _, _, rfl, rfl, .inl ⟨_, rfl, 2, 61, rfl, rfl, ⟨by decide, by decide, by decide⟩, _, 1, rfl, rfl, _, _, rfl, rfl, (by show (0 : Int) < 2 ^ (61 : Int).toNat - 1; decide), ?_⟩⟩
      refine ⟨_, rfl, m, _, 1, 1, rfl, rfl, hm, rfl, ?_⟩
      refine ⟨_, rfl, m, _, 1, _, rfl, rfl, SqL.of upd_same, atI_nat (j := 1) rfl, _, 32749, rfl, rfl, ⟨by decide, small_log (by decide) (by decide)⟩, .inl ⟨_, rfl, _, rfl, _, k, rfl, rfl, hk0, ?_⟩⟩
      exact q _ _ _ (Int.emod_nonneg _ (by omega)) (Int.emod_lt_of_pos _ hk0)
/-- a drawn sequence -/
def spRow : Sp := fun vs H Q _ => ∃ (m : Addr) (k : Nat), vs = [.ref m, .int k] ∧ Mill H m ∧ k ≤ 100 ∧ ∀ p H' (ns : List Int), Mx m H H' → H p = none → H' p = some (.tup (ns.map V.int)) → ns.length = k → (∀ x ∈ ns, 0 ≤ x ∧ x < k) → Q (.ref p) H'
theorem ok_row (B : Bt mg) (D_grind : Def P w K mg base "_law_grind" P_grind 1 spGrind) (F : Fun K "_law_row" "_law_row" s_row f fd) : FnOk P w K mg base CX0 2 f fd P_row spRow := by
  refine F.ok sc_row (fun vs H Q E h => ?_) (fun cdv A outer s H vs Q E hr h => ?_)
  · obtain ⟨m, k, rfl, _⟩ := h
    rfl
  · obtain ⟨m, k, rfl, hm, hk, q⟩ := h
    refine ⟨_, (pss_cons (ps_set (i := 2) sc_row.nd rfl (.inl rfl) (pe_lst pa_nil))
      (pss_cons (ps_for PassesOwn.never rfl (pi_range1 (by rfl) B.range (pa_cons (pv 1) pa_nil)) (pg_name (i := 3) sc_row.nd rfl (.inl rfl))
        (pss_one (ps_expr (pe_bm PySem.F.plainAttrs_list PySem.F.slot_list_insert PySem.F.type_list_insert mt_insert (pv 2) (pa_cons (pe_cd D_grind (hr.mono (by decide)) (by rfl) (pa_cons (pv 0) (pa_cons (pe_op op_add (pv 3) pe_int) pa_nil))) (pa_cons (pv 3) pa_nil))))))
      (pss_one (ps_ret (pe_callTy call_tuple_of (by rfl) B.tuple (by decide +kernel) (pa_cons (pv 2) pa_nil)))))), ?_⟩
    refine ⟨Nat.zero_le _, fun l hl => ?_⟩
    have e1 := Mx.of_ex hm (Ex.new (o := .lst []) hl)
    have nlm := hm.ne hl
    refine ⟨_, rfl, (k : Int), rfl, by omega, by omega, for_range (lo := 0) (n := ((k : Int)).toNat) (fun i σ H' => ∃ (ns : List Int) (o3 : Option V), σ = [some (.ref m), some (.int k), some (.ref l), o3] ∧ Mx m H H' ∧ H' l = some (.lst (ns.map V.int)) ∧ ns.length = i ∧ ∀ x ∈ ns, 0 ≤ x ∧ x < k)
      ⟨[], none, rfl, e1, upd_same, rfl, fun x hx => by simp at hx⟩ ?_ ?_⟩
    · rintro i σ H' hi ⟨ns, o3, rfl, e, hL, hln, hb⟩
      have hi2 : i < k := by omega
      refine ⟨_, rfl, .inl ⟨rfl, _, SqL.of hL⟩, _, rfl, _, rfl, _, 1, rfl, rfl, m, _, rfl, e.mill, by omega, by omega, fun r g x hr0 hr1 => ?_⟩
      have hL2 : (upd H' m (.lst [.int g, .int x])) l = some (.lst (ns.map V.int)) := by rw [upd_ne nlm]; exact hL
      refine ⟨_, rfl, l, _, r, _, rfl, rfl, hL2, sz_lt (by simp; omega), hr0, by omega, ?_⟩
      refine ⟨ns.take r.toNat ++ [0 + (i : Int)] ++ ns.drop r.toNat, _, rfl, (e.trans (.put g x)).mut hl nlm, by rw [upd_same]; simp [List.map_take, List.map_drop], by simp; omega, fun y hy => ?_⟩
      rcases List.mem_append.mp hy with h | h
      · rcases List.mem_append.mp h with h | h
        · exact hb y (List.mem_of_mem_take h)
        · have : y = 0 + (i : Int) := by simpa using h
          omega
      · exact hb y (List.mem_of_mem_drop h)
    · rintro σ H' ⟨ns, o3, rfl, e, hL, hln, hb⟩
      refine ⟨_, rfl, l, _, rfl, .inl ⟨SqL.of hL, fun p hp => ?_⟩⟩
      exact q p _ ns (e.ex (Ex.new hp)) (e.back hp) upd_same (by omega) hb
end
end KW
namespace KW
open PySem PySem.Spec PyProof.Rows L2 KR RZ
open KM (Web src dst Good at0 exc pull)
/-- the ends of an arrow, in a tuple -/
def ArrowAt (H : Hp) (n : Nat) (r : Addr) : Prop := ∃ x y : Nat, x < n ∧ y < n ∧ H r = some (.tup [.int x, .int y])
theorem web_of {H : Hp} {n : Nat} : ∀ {rs : List Addr}, (∀ r ∈ rs, ArrowAt H n r) → ∃ W : Web, W.length = rs.length ∧ Good n W ∧ ∀ (i : Nat) (r : Addr), rs[i]? = some r → H r = some (.tup [.int (src W i), .int (dst W i)])
  | [], _ => ⟨[], rfl, fun e he => by simp at he, fun i r h => by simp at h⟩
  | r :: rs, h => by
    obtain ⟨W, h1, h2, h3⟩ := web_of (rs := rs) fun x hx => h x (List.mem_cons_of_mem _ hx)
    obtain ⟨x, y, hx, hy, hr⟩ := h r (by simp)
    refine ⟨(x, y) :: W, by simp [h1], fun e he => ?_, fun i r' hr' => ?_⟩
    · rcases List.mem_cons.mp he with e2 | e2
      · rw [e2]
        exact ⟨hx, hy⟩
      · exact h2 e e2
    · cases i with
      | zero =>
        have : r = r' := by simpa using hr'
        rw [← this]
        exact hr
      | succ i =>
        have := h3 i r' (by simpa using hr')
        exact this
/-- what stands while the arrows are made -/
structure WC (H : Hp) (m row l : Addr) (n : Nat) (perm : List Int) (rs : List Addr) (i : Nat) (H' : Hp) : Prop where
  mx : Mx m H H'
  row : H' row = some (.tup (perm.map V.int))
  lst : H' l = some (.lst (rs.map V.ref))
  nl : H l = none
  nm : l ≠ m
  len : rs.length = i
  arr : ∀ r ∈ rs, ArrowAt H' n r
theorem WC.go {H H' H2 : Hp} {m row l : Addr} {n : Nat} {perm : List Int} {rs : List Addr} {i : Nat} (c : WC H m row l n perm rs i H') (e : Mx m H' H2) : WC H m row l n perm rs i H2 :=
  ⟨c.mx.trans e, e.tup c.mx.mill c.row, e.keep _ _ c.nm c.lst, c.nl, c.nm, c.len, fun r hr => by
    obtain ⟨x, y, hx, hy, h⟩ := c.arr r hr
    exact ⟨x, y, hx, hy, e.tup c.mx.mill h⟩⟩
section
variable {P : Program} {w : World} {K : PySem.W.Frag} {mg : Str → Option Value} {base : Heap} {f : Addr} {fd : FuncData} {t1 t2 t3 : Tok}
def spMakeWeb : Sp := fun vs H Q _ => ∃ (m : Addr) (pl ar : Int), vs = [.ref m, .int pl, .int ar] ∧ Mill H m ∧ 1 ≤ pl ∧ pl ≤ 10 ∧ 0 ≤ ar ∧ ar ≤ 15 ∧ ∀ (a : Addr) (n : Nat) (W : Web) (ta : Addr) (rs : List Addr) (H' : Hp), Mx m H H' → WebAt H' a n W ta rs → Q (.ref a) H'
theorem ok_web (B : Bt mg) (D_grind : Def P w K mg base "_law_grind" P_grind 1 spGrind) (D_row : Def P w K mg base "_law_row" P_row 2 spRow) (F : Fun K "_law_web" "_law_web" s_web f fd) : FnOk P w K mg base CX0 3 f fd P_web spMakeWeb := by
  refine F.ok sc_web (fun vs H Q E h => ?_) (fun cdv A outer s H vs Q E hr h => ?_)
  · obtain ⟨m, pl, ar, rfl, _⟩ := h
    rfl
  · obtain ⟨m, pl, ar, rfl, hm, hp1, hp2, ha1, ha2, q⟩ := h
    refine ⟨_, (pss_cons (ps_set (i := 3) sc_web.nd rfl (.inl rfl) (pe_op op_add pe_int (pe_cd D_grind (hr.mono (by decide)) (by rfl) (pa_cons (pv 0) (pa_cons (pv 1) pa_nil)))))
      (pss_cons (ps_set (i := 4) sc_web.nd rfl (.inl rfl) (pe_cd D_grind (hr.mono (by decide)) (by rfl) (pa_cons (pv 0) (pa_cons (pe_op op_add (pv 2) pe_int) pa_nil))))
      (pss_cons (ps_set (i := 5) sc_web.nd rfl (.inl rfl) (pe_cd D_grind (hr.mono (by decide)) (by rfl) (pa_cons (pv 0) (pa_cons pe_int pa_nil))))
      (pss_cons (ps_set (i := 6) sc_web.nd rfl (.inl rfl) (pe_cd D_row (hr.mono (by decide)) (by rfl) (pa_cons (pv 0) (pa_cons (pv 3) pa_nil))))
      (pss_cons (ps_set (i := 7) sc_web.nd rfl (.inr rfl) (pe_lst pa_nil))
      (pss_cons (ps_for PassesOwn.never rfl (pi_range1 (by rfl) B.range (pa_cons (pv 4) pa_nil)) (pg_name (i := 8) sc_web.nd rfl (.inl rfl))
        (pss_cons (ps_set (i := 9) sc_web.nd rfl (.inl rfl) (pe_cd D_grind (hr.mono (by decide)) (by rfl) (pa_cons (pv 0) (pa_cons (pv 3) pa_nil))))
        (pss_cons (ps_set (i := 10) sc_web.nd rfl (.inl rfl) (pe_cd D_grind (hr.mono (by decide)) (by rfl) (pa_cons (pv 0) (pa_cons (pv 3) pa_nil))))
        (Evl.pss_cut (ps_if (PW.pt (pw_and (pt_cmpR op_eq (pv 5) pe_int (nomark _)) (pw_and1 (pt_cmpR op_lt (pv 8) (pv 3) (nomark _)))))
          (pss_one (ps_par (i := 9) (j := 10) rfl sc_web.nd rfl rfl (by decide) rfl rfl (pa_cons (pv 8) (pa_cons (pe_op op_mod (pe_callTy call_int1 (by rfl) B.int (by decide +kernel) (pa_cons (pe_op op_add (pv 8) pe_int) pa_nil)) (pv 3)) pa_nil)) (by rfl)))
          pss_nil)
        (Evl.pss_cut (ps_if (PW.pt (pw_and (pt_cmpR op_eq (pv 5) pe_int (nomark _)) (pw_and1 (pt_chain op_lt op_lt pe_int (pv 8) (pv 3)))))
          (pss_one (ps_par (i := 9) (j := 10) rfl sc_web.nd rfl rfl (by decide) rfl rfl (pa_cons (pe_cd D_grind (hr.mono (by decide)) (by rfl) (pa_cons (pv 0) (pa_cons (pv 8) pa_nil))) (pa_cons (pv 8) pa_nil)) (by rfl)))
          pss_nil)
        (Evl.pss_cut (ps_if (pt_cmpR op_eq (pv 5) pe_int (nomark _))
          (pss_one (ps_par (i := 9) (j := 10) rfl sc_web.nd rfl rfl (by decide) rfl rfl (pa_cons (pe_op op_mod (pe_op op_mod (pe_callTy call_int1 (by rfl) B.int (by decide +kernel) (pa_cons (pv 9) pa_nil)) pe_int) (pv 3)) (pa_cons (pe_op op_mod (pe_op op_mod (pe_callTy call_int1 (by rfl) B.int (by decide +kernel) (pa_cons (pv 10) pa_nil)) pe_int) (pv 3)) pa_nil)) (by rfl)))
          pss_nil)
        (Evl.pss_cut (ps_if (pt_cmpR op_eq (pe_cd D_grind (hr.mono (by decide)) (by rfl) (pa_cons (pv 0) (pa_cons pe_int pa_nil))) pe_int (nomark _))
          (pss_one (ps_par (i := 9) (j := 10) rfl sc_web.nd rfl rfl (by decide) rfl rfl (pa_cons (pv 10) (pa_cons (pv 9) pa_nil)) (by rfl)))
          pss_nil)
        (pss_one (ps_expr (pe_bm PySem.F.plainAttrs_list PySem.F.slot_list_append PySem.F.type_list_append mt_append (pv 7) (pa_cons (pe_tup (pa_cons (pe_ix (r := rIxT K) ix_tup (pv 6) (pv 9) (fun _ _ => rfl)) (pa_cons (pe_ix (r := rIxT K) ix_tup (pv 6) (pv 10) (fun _ _ => rfl)) pa_nil))) pa_nil)))))))))))
      (pss_one (ps_ret (pe_tup (pa_cons (pv 3) (pa_cons (pe_callTy call_tuple_of (by rfl) B.tuple (by decide +kernel) (pa_cons (pe_lc (own := [(("_law_k" : Str), 8)]) (g := (gName 8)) rfl sc_web.nd (pi_tup (pe_cd D_row (hr.mono (by decide)) (by rfl) (pa_cons (pv 0) (pa_cons (pe_callB call_len_seq (by rfl) B.len (by decide +kernel) (pa_cons (pv 7) pa_nil)) pa_nil)))) (blkOk_by (own := [(("_law_k" : Str), 8)]) (N := N_web) (sc := defScope s_web) (by decide +kernel)) (fun _ _ _ _ _ => (pg_name (i := 8) sc_web.nd rfl (.inl rfl))) (fun _ _ _ _ _ => pts_nil) (fun _ _ _ _ _ => (pe_ix (r := rIxL K) ix_list (pv 7) (pv 8) (fun _ _ => rfl)))) pa_nil)) pa_nil))))))))))), ?_⟩
    refine ⟨_, rfl, _, rfl, m, pl, rfl, hm, by omega, by omega, fun r g x hr0 hr1 => ⟨1, r, rfl, rfl, ?_⟩⟩
    have m1 : Mx m H _ := .put g x
    refine ⟨_, rfl, _, rfl, ar, 1, rfl, rfl, m, _, rfl, m1.mill, by omega, by omega, fun cnt g2 x2 hc0 hc1 => ?_⟩
    have m2 := m1.trans (.put g2 x2)
    refine ⟨_, rfl, m, 4, rfl, m2.mill, by omega, by omega, fun way g3 x3 hw0 hw1 => ?_⟩
    have m3 := m2.trans (.put g3 x3)
    obtain ⟨n, hn⟩ := Int.eq_ofNat_of_zero_le (show 0 ≤ 1 + r by omega)
    have hn10 : 1 ≤ n ∧ n ≤ 10 := by omega
    refine ⟨_, rfl, _, rfl, m, n, congrArg (fun z => [V.ref m, V.int z]) hn, m3.mill, by omega, fun row H4 perm m4 _ hrow hpl hpb => ?_⟩
    have m5 := m3.trans m4
    refine ⟨Nat.zero_le _, fun l hl => ?_⟩
    have nl := m5.back hl
    have nlm := hm.ne nl
    have eL := Ex.new (o := .lst []) hl
    have hM : V.int (1 + r) = V.int n := congrArg V.int hn
    refine ⟨_, rfl, cnt, rfl, by omega, by omega, for_range (lo := 0) (n := cnt.toNat) (fun i σ H' => ∃ (rs : List Addr) (o8 o9 o10 : Option V), σ = [some (.ref m), some (.int pl), some (.int ar), some (.int n), some (.int cnt), some (.int way), some (.ref row), some (.ref l), o8, o9, o10] ∧ WC H m row l n perm rs i H')
      ⟨[], none, none, none, by rw [← hM]; rfl, m5.ex eL, eL _ _ hrow, upd_same, nl, nlm, rfl, fun r hr => by simp at hr⟩ ?_ ?_⟩
    · rintro i σ H' hi ⟨rs, o8, o9, o10, rfl, c⟩
      have zi : V.int (0 + (i : Int)) = V.int i := by rw [Int.zero_add]
      rw [zi]
      refine ⟨_, rfl, _, rfl, m, n, rfl, c.mx.mill, by omega, by omega, fun x1 g4 x4 h10 h11 => ?_⟩
      have c1 := c.go (.put g4 x4)
      refine ⟨_, rfl, _, rfl, m, n, rfl, c1.mx.mill, by omega, by omega, fun y1 g5 x5 h20 h21 => ?_⟩
      have c2 := c1.go (.put g5 x5)
      have mid : ∃ Mid : L2.St → Hp → Prop, Mid = fun σ' H' => ∃ x y : Int, σ' = [some (.ref m), some (.int pl), some (.int ar), some (.int n), some (.int cnt), some (.int way), some (.ref row), some (.ref l), some (.int i), some (.int x), some (.int y)] ∧ 0 ≤ x ∧ x < n ∧ 0 ≤ y ∧ y < n ∧ WC H m row l n perm rs i H' := ⟨_, rfl⟩
      obtain ⟨Mid, hMid⟩ := mid
      have mk : ∀ {x y : Int} {H'}, 0 ≤ x → x < n → 0 ≤ y → y < n → WC H m row l n perm rs i H' → Mid [some (.ref m), some (.int pl), some (.int ar), some (.int n), some (.int cnt), some (.int way), some (.ref row), some (.ref l), some (.int i), some (.int x), some (.int y)] H' := fun {x y H'} a b d e f => by
        rw [hMid]
        exact ⟨x, y, rfl, a, b, d, e, f⟩
      refine ⟨Mid, ?_, fun σ' H6 hM1 => ?_⟩
      · refine ⟨_, rfl, rfl, _, rfl, ite2 (fun _ => ?_) (fun _ => iteF (mk h10 h11 h20 h21 c2))⟩
        refine ⟨_, rfl, _, rfl, (i : Int), (n : Int), rfl, rfl, _, rfl, ite2 (fun hk => ?_) (fun _ => mk h10 h11 h20 h21 c2)⟩
        have hk1 : (i : Int) < n := of_decide_eq_true hk
        refine ⟨_, rfl, _, rfl, (i : Int), 1, rfl, rfl, .inl ⟨_, rfl, _, rfl, _, (n : Int), rfl, rfl, by show (0 : Int) < n; omega, _, _, rfl, ?_⟩⟩
        exact mk (by omega) hk1 (Int.emod_nonneg _ (by omega)) (Int.emod_lt_of_pos _ (by omega)) c2
      rw [hMid] at hM1
      obtain ⟨x, y, rfl, hx0, hx1, hy0, hy1, c3⟩ := hM1
      refine ⟨Mid, ?_, fun σ' H7 hM2 => ?_⟩
      · refine ⟨_, rfl, rfl, _, rfl, ite2 (fun _ => ?_) (fun _ => iteF (mk hx0 hx1 hy0 hy1 c3))⟩
        refine ⟨_, rfl, 0, (i : Int), rfl, rfl, _, rfl, ite2 (fun hk0 => ?_) (fun _ => ⟨false, rfl, iteF (mk hx0 hx1 hy0 hy1 c3)⟩)⟩
        refine ⟨_, rfl, (i : Int), (n : Int), rfl, rfl, _, rfl, ite2 (fun hk => ?_) (fun _ => mk hx0 hx1 hy0 hy1 c3)⟩
        have hk1 : (i : Int) < n := of_decide_eq_true hk
        have hk2 : (0 : Int) < i := of_decide_eq_true hk0
        refine ⟨_, rfl, _, rfl, m, (i : Int), rfl, c3.mx.mill, hk2, by omega, fun x2 g6 x6 h0 h1 => ⟨_, rfl, _, _, rfl, ?_⟩⟩
        exact mk h0 (by omega) (by omega) hk1 (c3.go (.put g6 x6))
      rw [hMid] at hM2
      obtain ⟨x, y, rfl, hx0, hx1, hy0, hy1, c4⟩ := hM2
      refine ⟨Mid, ?_, fun σ' H8 hM3 => ?_⟩
      · refine ⟨_, rfl, rfl, _, rfl, ite2 (fun _ => ?_) (fun _ => mk hx0 hx1 hy0 hy1 c4)⟩
        refine ⟨_, rfl, .inl ⟨x, rfl, x, 3, rfl, rfl, by show (0 : Int) < 3; decide, _, rfl, _, (n : Int), rfl, rfl, by show (0 : Int) < n; omega, ?_⟩⟩
        refine ⟨_, rfl, .inl ⟨y, rfl, y, 3, rfl, rfl, by show (0 : Int) < 3; decide, _, rfl, _, (n : Int), rfl, rfl, by show (0 : Int) < n; omega, _, _, rfl, ?_⟩⟩
        exact mk (Int.emod_nonneg _ (by omega)) (Int.emod_lt_of_pos _ (by omega)) (Int.emod_nonneg _ (by omega)) (Int.emod_lt_of_pos _ (by omega)) c4
      rw [hMid] at hM3
      obtain ⟨x, y, rfl, hx0, hx1, hy0, hy1, c5⟩ := hM3
      refine ⟨Mid, ?_, fun σ' H9 hM4 => ?_⟩
      · refine ⟨_, rfl, m, 3, rfl, c5.mx.mill, by omega, by omega, fun z g7 x7 _ _ => ⟨rfl, _, rfl, ite2 (fun _ => ?_) (fun _ => mk hx0 hx1 hy0 hy1 (c5.go (.put g7 x7)))⟩⟩
        exact ⟨_, rfl, _, rfl, _, _, rfl, mk hy0 hy1 hx0 hx1 (c5.go (.put g7 x7))⟩
      rw [hMid] at hM4
      obtain ⟨x, y, rfl, hx0, hx1, hy0, hy1, c6⟩ := hM4
      obtain ⟨X, rfl⟩ := Int.eq_ofNat_of_zero_le hx0
      obtain ⟨Y, rfl⟩ := Int.eq_ofNat_of_zero_le hy0
      have hXl : X < perm.length := by omega
      have hYl : Y < perm.length := by omega
      have at_ : ∀ {j : Nat}, j < perm.length → ∃ z : Nat, z < n ∧ at0 perm j = z := fun {j} hj => by
        have := hpb (at0 perm j) (by
          have : at0 perm j = perm[j] := by simp [at0, List.getD_eq_getElem?_getD, hj]
          rw [this]
          exact List.getElem_mem hj)
        obtain ⟨z, hz⟩ := Int.eq_ofNat_of_zero_le this.1
        exact ⟨z, by omega, hz⟩
      obtain ⟨X2, hX2, eX⟩ := at_ hXl
      obtain ⟨Y2, hY2, eY⟩ := at_ hYl
      refine ⟨_, rfl, .inl ⟨rfl, _, SqL.of c6.lst⟩, _, rfl, _, rfl, row, _, (X : Int), _, rfl, rfl, SqT.of c6.row, atI_nat (int_get hXl), _, rfl, _, rfl, row, _, (Y : Int), _, rfl, rfl, SqT.of c6.row, atI_nat (int_get hYl), by show 2 ≤ sizeLine; decide, fun p hp => ?_⟩
      have ep := Ex.new (o := .tup [V.int (at0 perm X), V.int (at0 perm Y)]) hp
      have hlen := c6.len
      refine ⟨l, _, _, rfl, rfl, ep _ _ c6.lst, sz_lt (by simp; omega), ?_⟩
      have npl : p ≠ l := (ne_of_none c6.lst hp).symm
      refine ⟨rs ++ [p], _, _, _, rfl, (c6.mx.ex ep).mut nl nlm, ?_, by rw [upd_same, List.map_append]; rfl, nl, nlm, by simp [c6.len], fun r' hr' => ?_⟩
      · rw [upd_ne (ne_of c6.row c6.lst (fun z => by cases z))]
        exact ep _ _ c6.row
      · rcases List.mem_append.mp hr' with h | h
        · obtain ⟨a1, b1, h1, h2, h3⟩ := c6.arr r' h
          refine ⟨a1, b1, h1, h2, ?_⟩
          rw [upd_ne (ne_of h3 c6.lst (fun z => by cases z))]
          exact ep _ _ h3
        · have : r' = p := by simpa using h
          subst this
          refine ⟨X2, Y2, hX2, hY2, ?_⟩
          rw [upd_ne npl, upd_same, eX, eY]
    · rintro σ H' ⟨rs, o8, o9, o10, rfl, c⟩
      have hlen := c.len
      refine ⟨_, rfl, _, rfl, _, rfl, l, _, rfl, .inl (SqL.of c.lst), m, rs.length, by simp, c.mx.mill, by omega, fun p2 H5 ix m6 _ hp2 hil hib => ?_⟩
      refine ⟨p2, rfl, ⟨_, SqT.of hp2⟩, fun D hD => ?_⟩
      have c7 := c.go m6
      have pick : ∀ (i : Nat), i < ix.length → ∃ r, (ix.map V.int)[i]? = some (.int (at0 ix i)) ∧ atI (rs.map V.ref) (at0 ix i) = some (V.ref r) ∧ rs[(at0 ix i).toNat]? = some r := fun i hi => by
        have hb := hib (at0 ix i) (by
          have : at0 ix i = ix[i] := by simp [at0, List.getD_eq_getElem?_getD, hi]
          rw [this]
          exact List.getElem_mem hi)
        obtain ⟨z, hz⟩ := Int.eq_ofNat_of_zero_le hb.1
        have hz2 : z < rs.length := by omega
        refine ⟨rs[z], int_get hi, ?_, ?_⟩
        · rw [hz]
          exact atI_nat (by rw [List.getElem?_map, List.getElem?_eq_getElem hz2]; rfl)
        · rw [hz]
          simp [hz2]
      refine lc_tup (K := K) (a := p2) (xs := ix.map V.int) (Cw H5 (upto fun k => .ref (rs.getD (at0 ix k).toNat 0)) D) (Cw.start hD rfl) (fun i H' _ c => SqT.of (c.ex _ _ hp2)) (fun i x H' hx cw => ?_) (fun H6 cw => ?_)
      · obtain ⟨z, hz, rfl⟩ := ints_at hx
        have hi : i < ix.length := (List.getElem?_eq_some_iff.mp hz).1
        obtain ⟨r', h1, h2, h3⟩ := pick i hi
        have ez : z = at0 ix i := by simp [at0, List.getD_eq_getElem?_getD, hz]
        subst ez
        refine ⟨rfl, _, rfl, _, rfl, l, _, _, _, rfl, rfl, SqL.of (cw.ex _ _ c7.lst), h2, ?_⟩
        have er : r' = rs.getD (at0 ix i).toNat 0 := by rw [List.getD_eq_getElem?_getD, h3]; rfl
        rw [er]
        exact cw.put (Ex.refl _) (upto_succ _ _) (by rw [upto_len]; omega)
      · refine ⟨D, _, rfl, .inl ⟨SqL.of cw.at_, fun p3 hp3 => ?_⟩⟩
        have e3 := Ex.new (o := .tup (upto (fun k => .ref (rs.getD (at0 ix k).toNat 0)) (ix.map V.int).length)) hp3
        refine ⟨by show 2 ≤ sizeLine; decide, fun p4 hp4 => ?_⟩
        have e4 := (cw.ex.trans e3).trans (Ex.new (o := .tup [V.int n, V.ref p3]) hp4)
        have c8 := c7.go (.of_ex c7.mx.mill e4)
        have hrs : upto (fun k => V.ref (rs.getD (at0 ix k).toNat 0)) (ix.map V.int).length = ((List.range ix.length).map fun k => rs.getD (at0 ix k).toNat 0).map V.ref := by
          rw [List.length_map]
          unfold upto
          rw [List.map_map]
          rfl
        obtain ⟨W, hW1, hW2, hW3⟩ := web_of (H := upd (upd H6 p3 (.tup (upto (fun k => .ref (rs.getD (at0 ix k).toNat 0)) (ix.map V.int).length))) p4 (.tup [V.int n, V.ref p3])) (n := n) (rs := (List.range ix.length).map fun k => rs.getD (at0 ix k).toNat 0) fun r' hr' => by
          obtain ⟨k, hk, rfl⟩ := List.mem_map.mp hr'
          have hk2 : k < ix.length := by simpa using hk
          obtain ⟨r2, _, _, h3⟩ := pick k hk2
          have er : rs.getD (at0 ix k).toNat 0 = r2 := by rw [List.getD_eq_getElem?_getD, h3]; rfl
          rw [er]
          exact c8.arr r2 (List.mem_of_getElem? h3)
        have hWl : W.length = ix.length := by rw [hW1]; simp
        refine q p4 n W p3 _ _ c8.mx ⟨upd_same, ?_, hW1.symm, hW3, hn10.1, hn10.2, by omega, hW2⟩
        rw [upd_ne (ne_of_none upd_same hp4), upd_same, hrs]
def spGreat : Sp := fun vs H Q _ => ∃ (m : Addr), vs = [.ref m] ∧ Mill H m ∧ ∀ (a : Addr) (n : Nat) (W : Web) (ta : Addr) (rs : List Addr) (H' : Hp), Mx m H H' → WebAt H' a n W ta rs → Q (.ref a) H'
theorem ok_great (D_web : Def P w K mg base "_law_web" P_web 3 spMakeWeb) (F : Fun K "_law_great" "_law_great" s_great f fd) : FnOk P w K mg base CX0 4 f fd P_great spGreat := by
  refine F.ok sc_great (fun vs H Q E h => ?_) (fun cdv A outer s H vs Q E hr h => ?_)
  · obtain ⟨m, rfl, _⟩ := h
    rfl
  · obtain ⟨m, rfl, hm, q⟩ := h
    refine ⟨_, (pss_one (ps_ret (pe_cd D_web (hr.mono (by decide)) (by rfl) (pa_cons (pv 0) (pa_cons pe_int (pa_cons pe_int pa_nil)))))), ?_⟩
    exact ⟨_, rfl, m, 10, 15, rfl, hm, by omega, by omega, by omega, by omega, q⟩
end
end KW
namespace KW
open PySem PySem.Spec PyProof.Rows L2 KR RZ
open KM (Web src dst Good at0 exc pull BI RingSpec)
def off (L : List Addr) (H : Hp) : Hp := fun b => if b ∈ L then none else H b
theorem off_get {L : List Addr} {H : Hp} {b : Addr} {o : HO} (h : off L H b = some o) : H b = some o ∧ b ∉ L := by
  unfold off at h
  split at h
  · cases h
  · rename_i n
    exact ⟨h, n⟩
theorem off_le {L : List Addr} {H : Hp} : Ex (off L H) H := fun _ _ h => (off_get h).1
theorem off_of {L : List Addr} {H : Hp} {b : Addr} {o : HO} (h : H b = some o) (n : b ∉ L) : off L H b = some o := by
  unfold off
  rw [if_neg n]
  exact h
theorem off_ex {L : List Addr} {H H' : Hp} (e : Ex H H') : Ex (off L H) (off L H') := fun b o h => off_of (e _ _ (off_get h).1) (off_get h).2
theorem off_upd {L : List Addr} {H : Hp} {a : Addr} {o : HO} (h : a ∈ L) : off L (upd H a o) = off L H := by
  funext b
  unfold off
  by_cases n : b ∈ L
  · rw [if_pos n, if_pos n]
  · have ne : b ≠ a := fun z => n (z ▸ h)
    rw [if_neg n, if_neg n, upd_ne ne]
/-- steps in the heap: a list of pairs (arrow, sign) -/
def StepsAt (H : Hp) (p : Addr) (R : KM.Ring) : Prop := ∃ qs : List Addr, H p = some (.lst (qs.map V.ref)) ∧ qs.length = R.length ∧ ∀ (i : Nat) (q : Addr), qs[i]? = some q → ∃ (a : Nat) (s : Int), R[i]? = some (a, s) ∧ H q = some (.tup [nV a, .int s])
theorem StepsAt.mono {H H' : Hp} {p : Addr} {R : KM.Ring} (h : StepsAt H p R) (e : Ex H H') : StepsAt H' p R := by
  obtain ⟨qs, h1, h2, h3⟩ := h
  refine ⟨qs, e _ _ h1, h2, fun i q hq => ?_⟩
  obtain ⟨a, s, h4, h5⟩ := h3 i q hq
  exact ⟨a, s, h4, e _ _ h5⟩
/-- the three lists of the search -/
structure RK (H H' : Hp) (lw ls le : Addr) (seen : List Nat) (S : List KM.Ring) : Prop where
  ex : Ex H H'
  w : ∃ ws : List Addr, H' lw = some (.lst (ws.map V.ref)) ∧ ws.length = seen.length ∧ ∀ (i : Nat) (r : Addr) (q : Nat), ws[i]? = some r → seen[i]? = some q → ∃ pre : List V, off [lw, ls, le] H' r = some (.lst (pre ++ [nV q])) ∧ pre.length ≤ i
  s : ∃ ss : List Addr, H' ls = some (.lst (ss.map V.ref)) ∧ ss.length = S.length ∧ ∀ (i : Nat) (r : Addr) (R : KM.Ring), ss[i]? = some r → S[i]? = some R → StepsAt (off [lw, ls, le] H') r R
  e : H' le = some (.lst (seen.map nV))
theorem RK.go {H H' H2 : Hp} {lw ls le : Addr} {seen : List Nat} {S : List KM.Ring} (k : RK H H' lw ls le seen S) (e : Ex H' H2) : RK H H2 lw ls le seen S := by
  obtain ⟨ws, w1, w2, w3⟩ := k.w
  obtain ⟨ss, s1, s2, s3⟩ := k.s
  refine ⟨k.ex.trans e, ⟨ws, e _ _ w1, w2, fun i r q h1 h2 => ?_⟩, ⟨ss, e _ _ s1, s2, fun i r R h1 h2 => (s3 i r R h1 h2).mono (off_ex e)⟩, e _ _ k.e⟩
  obtain ⟨pre, h3, h4⟩ := w3 i r q h1 h2
  exact ⟨pre, off_ex e _ _ h3, h4⟩
theorem get_last {α : Type} {xs : List α} {x y : α} {i : Nat} (h : (xs ++ [x])[i]? = some y) : (i < xs.length ∧ xs[i]? = some y) ∨ (i = xs.length ∧ y = x) := by
  by_cases hi : i < xs.length
  · rw [List.getElem?_append_left hi] at h
    exact .inl ⟨hi, h⟩
  · have hl := (List.getElem?_eq_some_iff.mp h).1
    rw [List.length_append] at hl
    have hi2 : i = xs.length := by simp at hl; omega
    subst hi2
    exact .inr ⟨rfl, by simpa using h.symm⟩
/-- a place more -/
theorem RK.add {H H' H2 : Hp} {lw ls le p p2 T : Addr} {seen : List Nat} {S : List KM.Ring} {q new j : Nat} {s : Int} {R : KM.Ring} {a : Nat} {pre : List V} {ws ss qs : List Addr} (k : RK H H' lw ls le seen S) (hx : Ex H H2) (ho : Ex (off [lw, ls, le] H') (off [lw, ls, le] H2))
    (hw : H' lw = some (.lst (ws.map V.ref))) (hs : H' ls = some (.lst (ss.map V.ref))) (hw2 : H2 lw = some (.lst (ws.map V.ref ++ [V.ref p]))) (hs2 : H2 ls = some (.lst (ss.map V.ref ++ [V.ref p2]))) (he2 : H2 le = some (.lst (seen.map nV ++ [nV new])))
    (hp : off [lw, ls, le] H2 p = some (.lst (pre ++ [nV q] ++ [nV new]))) (hpl : pre.length + 1 ≤ seen.length) (hq : off [lw, ls, le] H' p2 = none → True) (hqs : StepsAt (off [lw, ls, le] H2) p2 (R ++ [(j, s)])) :
    RK H H2 lw ls le (seen ++ [new]) (S ++ [R ++ [(j, s)]]) := by
  obtain ⟨ws', w1, w2, w3⟩ := k.w
  obtain ⟨ss', s1, s2, s3⟩ := k.s
  have ew : ws'.map V.ref = ws.map V.ref := by
    rw [hw] at w1
    injection w1 with w1
    injection w1 with w1
    exact w1.symm
  have es : ss'.map V.ref = ss.map V.ref := by
    rw [hs] at s1
    injection s1 with s1
    injection s1 with s1
    exact s1.symm
  refine ⟨hx, ⟨ws' ++ [p], ?_, by simp [w2], fun i r x h1 h2 => ?_⟩, ⟨ss' ++ [p2], ?_, by simp [s2], fun i r R' h1 h2 => ?_⟩, ?_⟩
  · rw [hw2, List.map_append, ew]
    rfl
  · rcases get_last h1 with ⟨hi, h1⟩ | ⟨hi, rfl⟩
    · rcases get_last h2 with ⟨_, h2⟩ | ⟨hi2, _⟩
      · obtain ⟨pre', h3, h4⟩ := w3 i r x h1 h2
        exact ⟨pre', ho _ _ h3, h4⟩
      · omega
    · rcases get_last h2 with ⟨hi2, _⟩ | ⟨_, rfl⟩
      · omega
      · exact ⟨pre ++ [nV q], hp, by simp; omega⟩
  · rw [hs2, List.map_append, es]
    rfl
  · rcases get_last h1 with ⟨hi, h1⟩ | ⟨hi, rfl⟩
    · rcases get_last h2 with ⟨_, h2⟩ | ⟨hi2, _⟩
      · exact (s3 i r R' h1 h2).mono ho
      · omega
    · rcases get_last h2 with ⟨hi2, _⟩ | ⟨_, rfl⟩
      · omega
      · exact hqs
  · rw [he2, List.map_append]
    rfl
section
variable {P : Program} {w : World} {K : PySem.W.Frag} {mg : Str → Option Value} {base : Heap} {f : Addr} {fd : FuncData} {t1 t2 t3 : Tok}
section
variable (H : Hp) (a lw ls le : Addr) (n : Nat) (W : Web) (k : Nat)
def BW (m : Nat) (σ : L2.St) (H' : Hp) : Prop := ∃ (seen : List Nat) (S : List KM.Ring) (at_ : Nat) (o8 o9 o10 o11 o12 : Option V), σ = [some (.ref a), some (nV k), some (nV (src W k)), some (nV (dst W k)), some (.ref lw), some (.ref ls), some (.ref le), some (nV at_), o8, o9, o10, o11, o12] ∧
  RK H H' lw ls le seen S ∧ BI n W k seen S at_ 0 ∧ m + at_ = 20
def BJ (at_ q : Nat) (j : Nat) (σ : L2.St) (H' : Hp) : Prop := ∃ (seen : List Nat) (S : List KM.Ring) (o9 o10 o11 o12 : Option V), σ = [some (.ref a), some (nV k), some (nV (src W k)), some (nV (dst W k)), some (.ref lw), some (.ref ls), some (.ref le), some (nV at_), some (nV q), o9, o10, o11, o12] ∧
  RK H H' lw ls le seen S ∧ BI n W k seen S at_ (2 * j) ∧ seen[at_]? = some q
def BC (at_ q j : Nat) (T1 T2 Lx : Addr) (c : Nat) (σ : L2.St) (H' : Hp) : Prop := ∃ (seen : List Nat) (S : List KM.Ring) (o10 o11 o12 : Option V), σ = [some (.ref a), some (nV k), some (nV (src W k)), some (nV (dst W k)), some (.ref lw), some (.ref ls), some (.ref le), some (nV at_), some (nV q), some (nV j), o10, o11, o12] ∧
  RK H H' lw ls le seen S ∧ BI n W k seen S at_ (2 * j + c) ∧ seen[at_]? = some q ∧ off [lw, ls, le] H' T1 = some (.tup [nV (src W j), nV (dst W j), .int 1]) ∧ off [lw, ls, le] H' T2 = some (.tup [nV (dst W j), nV (src W j), .int (-1)]) ∧
  off [lw, ls, le] H' Lx = some (.lst [.ref T1, .ref T2])
end
theorem nV_eq (x y : Nat) : decide (nV x = nV y) = decide (x = y) := by
  by_cases z : x = y
  · rw [z]
    simp
  · rw [decide_eq_false z]
    refine decide_eq_false fun y => z ?_
    have := V.int.inj y
    omega
theorem inV_nat (x : Nat) (l : List Nat) : inV (nV x) (l.map nV) = decide (x ∈ l) := by
  rw [nV_map]
  show inV (.int (x : Int)) _ = _
  rw [inV_int]
  by_cases h : x ∈ l
  · rw [decide_eq_true h, decide_eq_true (List.mem_map.mpr ⟨x, h, rfl⟩)]
  · rw [decide_eq_false h, decide_eq_false fun z => h ?_]
    obtain ⟨y, hy, e⟩ := List.mem_map.mp z
    have : y = x := by omega
    rw [← this]
    exact hy
def spRing : Sp := fun vs H Q _ => ∃ (a : Addr) (n : Nat) (W : Web) (ta : Addr) (rs : List Addr) (k : Nat), vs = [.ref a, nV k] ∧ WebAt H a n W ta rs ∧ k < W.length ∧ ∀ p H' (R : KM.Ring), Ex H H' → StepsAt H' p R → RingSpec W k R → Q (.ref p) H'
theorem ok_ring (B : Bt mg) (F : Fun K "_law_ring" "_law_ring" s_ring f fd) : FnOk P w K mg base CX0 1 f fd P_ring spRing := by
  refine F.ok sc_ring (fun vs H Q E h => ?_) (fun cdv A outer s H vs Q E hr h => ?_)
  · obtain ⟨a, n, W, ta, rs, k, rfl, _⟩ := h
    rfl
  · obtain ⟨a, n, W, ta, rs, k, rfl, ha, hk, q⟩ := h
    refine ⟨_, (pss_cons (ps_asg (pe_ix (r := rIxT K) ix_tup (pe_ix (r := rIxT K) ix_tup (pv 0) pe_int (fun _ _ => rfl)) (pv 1) (fun _ _ => rfl)) (pg_tup rfl (pgs_cons (pg_name (i := 2) sc_ring.nd rfl (.inl rfl)) (pgs_cons (pg_name (i := 3) sc_ring.nd rfl (.inl rfl)) pgs_nil))))
      (pss_cons (ps_set (i := 4) sc_ring.nd rfl (.inl rfl) (pe_lst (pa_cons (pe_lst (pa_cons (pv 3) pa_nil)) pa_nil)))
      (pss_cons (ps_set (i := 5) sc_ring.nd rfl (.inl rfl) (pe_lst (pa_cons (pe_lst (pa_cons (pe_tup (pa_cons (pv 1) (pa_cons pe_int pa_nil))) pa_nil)) pa_nil)))
      (pss_cons (ps_set (i := 6) sc_ring.nd rfl (.inl rfl) (pe_lst (pa_cons (pv 3) pa_nil)))
      (pss_cons (ps_set (i := 7) sc_ring.nd rfl (.inl rfl) pe_int)
      (pss_cons (ps_while PassesOwn.never (pt_cmpR op_lt (pv 7) (pe_callB call_len_seq (by rfl) B.len (by decide +kernel) (pa_cons (pv 4) pa_nil)) (nomark _))
        (pss_cons (ps_set (i := 8) sc_ring.nd rfl (.inl rfl) (pe_ix (r := rIxL K) ix_list (pe_ix (r := rIxL K) ix_list (pv 4) (pv 7) (fun _ _ => rfl)) (pe_un un_neg pe_int) (fun _ _ => rfl)))
        (pss_cons (ps_if (pt_cmpR op_eq (pv 8) (pv 2) (nomark _))
          (pss_one (ps_ret (pe_ix (r := rIxL K) ix_list (pv 5) (pv 7) (fun _ _ => rfl))))
          pss_nil)
        (pss_cons (ps_for PassesOwn.never rfl (pi_range1 (by rfl) B.range (pa_cons (pe_callB call_len_seq (by rfl) B.len (by decide +kernel) (pa_cons (pe_ix (r := rIxT K) ix_tup (pv 0) pe_int (fun _ _ => rfl)) pa_nil)) pa_nil)) (pg_name (i := 9) sc_ring.nd rfl (.inl rfl))
          (pss_one (ps_for PassesOwn.never rfl (pi_list (pe_lst (pa_cons (pe_op op_catT (pe_ix (r := rIxT K) ix_tup (pe_ix (r := rIxT K) ix_tup (pv 0) pe_int (fun _ _ => rfl)) (pv 9) (fun _ _ => rfl)) (pe_tup (pa_cons pe_int pa_nil))) (pa_cons (pe_op op_catT (pe_revT (pe_ix (r := rIxT K) ix_tup (pe_ix (r := rIxT K) ix_tup (pv 0) pe_int (fun _ _ => rfl)) (pv 9) (fun _ _ => rfl))) (pe_tup (pa_cons (pe_un un_neg pe_int) pa_nil))) pa_nil)))) (pg_tup rfl (pgs_cons (pg_name (i := 10) sc_ring.nd rfl (.inl rfl)) (pgs_cons (pg_name (i := 11) sc_ring.nd rfl (.inl rfl)) (pgs_cons (pg_name (i := 12) sc_ring.nd rfl (.inl rfl)) pgs_nil))))
            (pss_one (ps_if (PW.pt (pw_and (pt_cmpR op_ne (pv 9) (pv 1) (nomark _)) (pw_and (pt_cmpR op_eq (pv 10) (pv 8) (nomark _)) (pw_and1 (pt_cmpR (r := rIn K true) op_notIn_seq (pv 11) (pv 6) (by rfl))))))
              (pss_cons (ps_expr (pe_bm PySem.F.plainAttrs_list PySem.F.slot_list_append PySem.F.type_list_append mt_append (pv 6) (pa_cons (pv 11) pa_nil)))
              (pss_cons (ps_expr (pe_bm PySem.F.plainAttrs_list PySem.F.slot_list_append PySem.F.type_list_append mt_append (pv 4) (pa_cons (pe_op op_cat (pe_ix (r := rIxL K) ix_list (pv 4) (pv 7) (fun _ _ => rfl)) (pe_lst (pa_cons (pv 11) pa_nil))) pa_nil)))
              (pss_one (ps_expr (pe_bm PySem.F.plainAttrs_list PySem.F.slot_list_append PySem.F.type_list_append mt_append (pv 5) (pa_cons (pe_op op_cat (pe_ix (r := rIxL K) ix_list (pv 5) (pv 7) (fun _ _ => rfl)) (pe_lst (pa_cons (pe_tup (pa_cons (pv 9) (pa_cons (pv 12) pa_nil))) pa_nil))) pa_nil))))))
              pss_nil)))))
        (pss_one (ps_set (i := 7) sc_ring.nd rfl (.inl rfl) (pe_op op_add (pv 7) pe_int)))))))
      (pss_one (ps_ret (pe_lst pa_nil))))))))), ?_⟩
    have hn := ha.n10
    have hm := ha.m15
    have hrl := ha.len
    have rget : ∀ {j : Nat}, j < W.length → ∃ r, (rs.map V.ref)[j]? = some (V.ref r) ∧ rs[j]? = some r := fun {j} hj => by
      have h : j < rs.length := by omega
      exact ⟨rs[j], by rw [List.getElem?_map, List.getElem?_eq_getElem h]; rfl, List.getElem?_eq_getElem h⟩
    obtain ⟨rk, hrk1, hrk2⟩ := rget hk
    refine ⟨_, rfl, a, _, 1, _, rfl, rfl, SqT.of ha.w, atI_nat (j := 1) rfl, _, rfl, ta, _, (k : Int), _, rfl, rfl, SqT.of ha.t, atI_nat hrk1, rk, _, rfl, SqT.of (ha.a k rk hrk2), rfl, _, _, rfl, _, _, rfl, rfl, ?_⟩
    refine ⟨_, rfl, by show 1 ≤ sizeLine; decide, fun i1 hi1 => ⟨by show 1 ≤ sizeLine; decide, fun lw hlw => ?_⟩⟩
    have x1 := Ex.new (o := .lst [V.int (dst W k)]) hi1
    have x2 := Ex.new (o := .lst [V.ref i1]) hlw
    refine ⟨_, rfl, by show 2 ≤ sizeLine; decide, fun i2 hi2 => ⟨by show 1 ≤ sizeLine; decide, fun i3 hi3 => ⟨by show 1 ≤ sizeLine; decide, fun ls hls => ?_⟩⟩⟩
    have x3 := Ex.new (o := .tup [V.int k, V.int 1]) hi2
    have x4 := Ex.new (o := .lst [V.ref i2]) hi3
    have x5 := Ex.new (o := .lst [V.ref i3]) hls
    refine ⟨_, rfl, by show 1 ≤ sizeLine; decide, fun le hle => ?_⟩
    have x6 := Ex.new (o := .lst [V.int (dst W k)]) hle
    have y6 := x6
    have y5 := x5.trans y6
    have y4 := x4.trans y5
    have y3 := x3.trans y4
    have y2 := x2.trans y3
    have y1 := x1.trans y2
    have n_i1_lw : i1 ≠ lw := ne_of_none upd_same hlw
    have n_lw_ls : lw ≠ ls := ne_of_none (x4 _ _ (x3 _ _ upd_same)) hls
    have n_i1_ls : i1 ≠ ls := ne_of_none (x4 _ _ (x3 _ _ (x2 _ _ upd_same))) hls
    have n_lw_le : lw ≠ le := ne_of_none (x5 _ _ (x4 _ _ (x3 _ _ upd_same))) hle
    have n_ls_le : ls ≠ le := ne_of_none upd_same hle
    have n_i1_le : i1 ≠ le := ne_of_none (x5 _ _ (x4 _ _ (x3 _ _ (x2 _ _ upd_same)))) hle
    have n_i2_ls : i2 ≠ ls := ne_of_none (x4 _ _ upd_same) hls
    have n_i2_le : i2 ≠ le := ne_of_none (x5 _ _ (x4 _ _ upd_same)) hle
    have n_i2_lw : i2 ≠ lw := (ne_of_none upd_same hi2).symm
    have n_i3_ls : i3 ≠ ls := ne_of_none upd_same hls
    have n_i3_le : i3 ≠ le := ne_of_none (x5 _ _ upd_same) hle
    have n_i3_lw : i3 ≠ lw := (ne_of_none (x3 _ _ upd_same) hi3).symm
    have nw0 : H lw = none := x1.back hlw
    have ns0 : H ls = none := (((x1.trans x2).trans x3).trans x4).back hls
    have ne0 : H le = none := ((((x1.trans x2).trans x3).trans x4).trans x5).back hle
    have kN : V.int (k : Int) = nV k := rfl
    have hl0 : ∀ (H' : Hp) (seen : List Nat) (S : List KM.Ring), RK H H' lw ls le seen S → WebAt H' a n W ta rs := fun H' seen S r => ha.mono r.ex
    refine ⟨BW H a lw ls le n W k, ⟨20, [dst W k], [[(k, 1)]], 0, _, _, _, _, _, rfl, ⟨y1, ⟨[i1], y3 _ _ upd_same, rfl, fun i r q h1 h2 => ?_⟩, ⟨[i3], y6 _ _ upd_same, rfl, fun i r R h1 h2 => ?_⟩, upd_same⟩, KM.bi_start ha.good hk, rfl⟩, ?_⟩
    · cases i with
      | succ i => simp at h1
      | zero =>
        have e1 : i1 = r := by simpa using h1
        have e2 : dst W k = q := by simpa using h2
        subst e1
        subst e2
        exact ⟨[], off_of (y2 _ _ upd_same) (by simp [n_i1_lw, n_i1_ls, n_i1_le]), Nat.le_refl _⟩
    · cases i with
      | succ i => simp at h1
      | zero =>
        have e1 : i3 = r := by simpa using h1
        have e2 : [(k, 1)] = R := by simpa using h2
        subst e1
        subst e2
        refine ⟨[i2], off_of (y5 _ _ upd_same) (by simp [n_i3_lw, n_i3_ls, n_i3_le]), rfl, fun i q hq => ?_⟩
        cases i with
        | succ i => simp at hq
        | zero =>
          have e3 : i2 = q := by simpa using hq
          subst e3
          exact ⟨k, 1, rfl, off_of (y4 _ _ upd_same) (by simp [n_i2_lw, n_i2_ls, n_i2_le])⟩
    · rintro m σ H1 ⟨seen, S, at_, o8, o9, o10, o11, o12, rfl, rk1, b, hmm⟩
      obtain ⟨ws, w1, w2, w3⟩ := rk1.w
      obtain ⟨ss, s1, s2, s3⟩ := rk1.s
      have hsl := b.le
      refine ⟨_, rfl, _, rfl, lw, _, rfl, .inl (SqL.of w1), (at_ : Int), _, rfl, rfl, _, rfl, ite2 (fun hlt => ?_) (fun hlt => ?_)⟩
      · have hlt2 : at_ < seen.length := by
          have := of_decide_eq_true hlt
          simp at this
          omega
        obtain ⟨qq, hq⟩ : ∃ qq, seen[at_]? = some qq := ⟨_, List.getElem?_eq_getElem hlt2⟩
        obtain ⟨RR, hRR⟩ : ∃ RR, S[at_]? = some RR := ⟨_, List.getElem?_eq_getElem (by rw [b.len]; exact hlt2)⟩
        obtain ⟨r, hr1⟩ : ∃ r, ws[at_]? = some r := ⟨_, List.getElem?_eq_getElem (by omega)⟩
        obtain ⟨r2, hr2⟩ : ∃ r2, ss[at_]? = some r2 := ⟨_, List.getElem?_eq_getElem (by rw [s2, b.len]; exact hlt2)⟩
        obtain ⟨pre, hpre, _⟩ := w3 at_ r qq hr1 hq
        have wr : (ws.map V.ref)[at_]? = some (V.ref r) := by rw [List.getElem?_map, hr1]; rfl
        have sr : (ss.map V.ref)[at_]? = some (V.ref r2) := by rw [List.getElem?_map, hr2]; rfl
        refine ⟨fun σ' H' => ∃ m', m' < m ∧ BW H a lw ls le n W k m' σ' H', fun _ _ h => h, ?_⟩
        refine ⟨_, rfl, _, rfl, lw, _, (at_ : Int), _, rfl, rfl, SqL.of w1, atI_nat wr, 1, rfl, r, _, -1, _, rfl, rfl, SqL.of (off_le _ _ hpre), atI_last _ _, ?_⟩
        refine ⟨_, rfl, _, rfl, rfl, _, rfl, ?_⟩
        rw [nV_eq]
        refine ite2 (fun hx => ?_) (fun hx => ?_)
        · have hx2 : qq = src W k := of_decide_eq_true hx
          subst hx2
          exact ⟨_, rfl, _, rfl, ls, _, (at_ : Int), _, rfl, rfl, SqL.of s1, atI_nat sr, q r2 H1 RR rk1.ex ((s3 at_ r2 RR hr2 hRR).mono off_le) (b.hit hq hRR)⟩
        · have hx2 : qq ≠ src W k := fun z => hx (decide_eq_true z)
          have ha1 := hl0 _ _ _ rk1
          refine ⟨_, rfl, a, _, 1, _, rfl, rfl, SqT.of ha1.w, atI_nat (j := 1) rfl, ta, _, rfl, .inr (SqT.of ha1.t), _, rfl, by rw [List.length_map]; omega, by rw [List.length_map]; omega, ?_⟩
          refine for_range (lo := 0) (n := (((rs.map V.ref).length : Nat) : Int).toNat) (BJ H a lw ls le n W k at_ qq) ⟨seen, S, _, _, _, _, rfl, rk1, b, hq⟩ ?_ ?_
          · rintro j σ H2 hj ⟨seen, S, o9, o10, o11, o12, rfl, rk2, b, hq⟩
            have hjw : j < W.length := by simp at hj; omega
            have zj : V.int (0 + (j : Int)) = nV j := by rw [Int.zero_add]; rfl
            rw [zj]
            have ha2 := hl0 _ _ _ rk2
            obtain ⟨rj, hrj1, hrj2⟩ := rget hjw
            refine ⟨_, rfl, a, _, 1, _, rfl, rfl, SqT.of ha2.w, atI_nat (j := 1) rfl, _, rfl, ta, _, (j : Int), _, rfl, rfl, SqT.of ha2.t, atI_nat hrj1, by show 1 ≤ sizeLine; decide, fun u1 hu1 => ?_⟩
            have z1 := Ex.new (o := .tup [V.int 1]) hu1
            have ha3 := ha2.mono z1
            refine ⟨rj, u1, _, _, rfl, rfl, SqT.of (ha3.a j rj hrj2), SqT.of upd_same, (fun z => by cases z), by show 3 ≤ sizeLine; decide, (fun z => by cases z), fun _ T1 hT1 => ?_⟩
            have z2 := Ex.new (o := .tup ([V.int (src W j), V.int (dst W j)] ++ [V.int 1])) hT1
            have ha4 := ha3.mono z2
            refine ⟨_, rfl, a, _, 1, _, rfl, rfl, SqT.of ha4.w, atI_nat (j := 1) rfl, _, rfl, ta, _, (j : Int), _, rfl, rfl, SqT.of ha4.t, atI_nat hrj1, rj, _, rfl, SqT.of (ha4.a j rj hrj2), fun u2 hu2 => ?_⟩
            have z3 := Ex.new (o := .tup ([V.int (src W j), V.int (dst W j)].reverse)) hu2
            refine ⟨1, rfl, by show 1 ≤ sizeLine; decide, fun u3 hu3 => ?_⟩
            have z4 := Ex.new (o := .tup [V.int (-1)]) hu3
            refine ⟨u2, u3, _, _, rfl, rfl, SqT.of (z4 _ _ upd_same), SqT.of upd_same, (fun z => by cases z), by show 3 ≤ sizeLine; decide, (fun z => by cases z), fun _ T2 hT2 => ?_⟩
            have z5 := Ex.new (o := .tup ([V.int (src W j), V.int (dst W j)].reverse ++ [V.int (-1)])) hT2
            refine ⟨by show 2 ≤ sizeLine; decide, fun Lx hLx => ?_⟩
            have z6 := Ex.new (o := .lst [V.ref T1, V.ref T2]) hLx
            have z26 := (z3.trans z4).trans (z5.trans z6)
            have z := (z1.trans z2).trans z26
            have rk3 := rk2.go z
            have inL : ∀ {p : Addr} {o : HO}, H2 p = none → p ∉ [lw, ls, le] := fun {p o} hp hm => by
              obtain ⟨ws, w1, _⟩ := rk2.w
              obtain ⟨ss, s1, _⟩ := rk2.s
              have : p = lw ∨ p = ls ∨ p = le := by simpa using hm
              rcases this with e | e | e
              · rw [e, w1] at hp; cases hp
              · rw [e, s1] at hp; cases hp
              · rw [e, rk2.e] at hp; cases hp
            refine ⟨Lx, rfl, ⟨_, SqL.of upd_same⟩, for_list (K := K) (a := Lx) (xs := [.ref T1, .ref T2]) (BC H a lw ls le n W k at_ qq j T1 T2 Lx) ⟨seen, S, _, _, _, rfl, rk3, b, hq, off_of (z26 _ _ upd_same) (inL (o := .lst []) (z1.back hT1)), off_of (z6 _ _ upd_same) (inL (o := .lst []) (((z1.trans z2).trans (z3.trans z4)).back hT2)),
              off_of upd_same (inL (o := .lst []) (((z1.trans z2).trans ((z3.trans z4).trans z5)).back hLx))⟩ ?_ ?_ ?_⟩
            · rintro c σ H' _ ⟨_, _, _, _, _, _, _, _, _, _, _, h⟩
              exact SqL.of (off_le _ _ h)
            · rintro c x σ H3 hx ⟨seen, S, o10, o11, o12, rfl, rk4, b, hq, g1, g2, g3⟩
              obtain ⟨low, high, sg, T', hxe, hT', hlow, hhigh, hsg, hcase⟩ : ∃ (low high : Nat) (sg : Int) (T' : Addr), x = .ref T' ∧ off [lw, ls, le] H3 T' = some (.tup [nV low, nV high, .int sg]) ∧ low < n ∧ high < n ∧ (sg = 1 ∨ sg = -1) ∧
                  ((2 * j + c = 2 * j ∧ sg = 1 ∧ src W j = low ∧ dst W j = high) ∨ (2 * j + c = 2 * j + 1 ∧ sg = -1 ∧ dst W j = low ∧ src W j = high)) := by
                match c, hx with
                | 0, hx => exact ⟨src W j, dst W j, 1, T1, (Option.some.inj hx).symm, g1, ha.good.src hjw, ha.good.dst hjw, .inl rfl, .inl ⟨rfl, rfl, rfl, rfl⟩⟩
                | 1, hx => exact ⟨dst W j, src W j, -1, T2, (Option.some.inj hx).symm, g2, ha.good.dst hjw, ha.good.src hjw, .inr rfl, .inr ⟨rfl, rfl, rfl, rfl⟩⟩
                | c + 2, hx => simp at hx
              subst hxe
              have miss : ¬ (j ≠ k ∧ low = qq ∧ high ∉ seen) → BC H a lw ls le n W k at_ qq j T1 T2 Lx (c + 1) [some (.ref a), some (nV k), some (nV (src W k)), some (nV (dst W k)), some (.ref lw), some (.ref ls), some (.ref le), some (nV at_), some (nV qq), some (nV j), some (nV low), some (nV high), some (.int sg)] H3 := fun hno => by
                refine ⟨seen, S, _, _, _, rfl, rk4, ?_, hq, g1, g2, g3⟩
                refine b.miss hq (fun j' e hj' hk' hs' => ?_) (fun j' e hj' hk' hs' => ?_)
                · have ej : j' = j := by rcases hcase with ⟨h, _⟩ | ⟨h, _⟩ <;> omega
                  subst ej
                  rcases hcase with ⟨_, _, e1, e2⟩ | ⟨h, _⟩
                  · by_cases hin : high ∈ seen
                    · rw [e2]
                      exact hin
                    · exact absurd ⟨hk', e1.symm.trans hs', hin⟩ hno
                  · omega
                · have ej : j' = j := by rcases hcase with ⟨h, _⟩ | ⟨h, _⟩ <;> omega
                  subst ej
                  rcases hcase with ⟨h, _⟩ | ⟨_, _, e1, e2⟩
                  · omega
                  · by_cases hin : high ∈ seen
                    · rw [e2]
                      exact hin
                    · exact absurd ⟨hk', e1.symm.trans hs', hin⟩ hno
              refine ⟨T', _, rfl, SqT.of (off_le _ _ hT'), rfl, _, _, rfl, _, _, rfl, _, _, rfl, rfl, ?_⟩
              refine ⟨_, rfl, _, rfl, rfl, _, rfl, ?_⟩
              rw [nV_eq]
              refine ite2 (fun c1 => ?_) (fun c1 => iteF (miss fun z => c1 (by simpa using z.1)))
              refine ⟨_, rfl, _, rfl, rfl, _, rfl, ?_⟩
              rw [nV_eq]
              refine ite2 (fun c2 => ?_) (fun c2 => iteF (miss fun z => c2 (decide_eq_true z.2.1)))
              refine ⟨_, rfl, _, rfl, le, _, rfl, .inl (SqL.of rk4.e), rfl, (by rw [nV_map]; exact flat_ints _), _, rfl, ?_⟩
              have hin2 : (if true = true then !inV (nV high) (seen.map nV) else inV (nV high) (seen.map nV)) = !decide (high ∈ seen) := by rw [inV_nat]; rfl
              rw [hin2]
              refine ite2 (fun c3 => ?_) (fun c3 => miss fun z => c3 (by simpa using z.2.2))
              have hjk : j ≠ k := by simpa using c1
              have hlq : low = qq := of_decide_eq_true c2
              have hnew : high ∉ seen := by simpa using c3
              obtain ⟨ws, w1, w2, w3⟩ := rk4.w
              obtain ⟨ss, s1, s2, s3⟩ := rk4.s
              have hat : at_ < seen.length := (List.getElem?_eq_some_iff.mp hq).1
              have hsl := b.le
              obtain ⟨RR, hRR⟩ : ∃ RR, S[at_]? = some RR := ⟨_, List.getElem?_eq_getElem (by rw [b.len]; exact hat)⟩
              obtain ⟨r, hr1⟩ : ∃ r, ws[at_]? = some r := ⟨_, List.getElem?_eq_getElem (by omega)⟩
              obtain ⟨r2, hr2⟩ : ∃ r2, ss[at_]? = some r2 := ⟨_, List.getElem?_eq_getElem (by rw [s2, b.len]; exact hat)⟩
              have wr : (ws.map V.ref)[at_]? = some (V.ref r) := by rw [List.getElem?_map, hr1]; rfl
              have sr : (ss.map V.ref)[at_]? = some (V.ref r2) := by rw [List.getElem?_map, hr2]; rfl
              obtain ⟨pre, hpre, hpl⟩ := w3 at_ r qq hr1 hq
              have hRl : RR.length ≤ W.length := by
                have hW := b.walk at_ qq RR hq hRR
                have := KM.nodup_le hW.nd (fun x hx => by
                  obtain ⟨p, hp, e⟩ := List.mem_map.mp hx
                  rw [← e]
                  exact hW.lt p hp)
                simpa using this
              have st := s3 at_ r2 RR hr2 hRR
              have mw : lw ∈ [lw, ls, le] := by simp
              have ms : ls ∈ [lw, ls, le] := by simp
              have me : le ∈ [lw, ls, le] := by simp
              refine ⟨_, rfl, .inl ⟨rfl, _, SqL.of rk4.e⟩, _, rfl, le, _, nV high, rfl, rfl, rk4.e, sz_lt (by simp; omega), ?_⟩
              obtain ⟨H4, hH4⟩ : ∃ H4, H4 = upd H3 le (.lst (seen.map nV ++ [nV high])) := ⟨_, rfl⟩
              rw [← hH4]
              have o4 : off [lw, ls, le] H4 = off [lw, ls, le] H3 := by rw [hH4]; exact off_upd me
              have x4' : Ex H H4 := by rw [hH4]; exact rk4.ex.mut ne0
              have w4 : H4 lw = some (.lst (ws.map V.ref)) := by rw [hH4, upd_ne n_lw_le]; exact w1
              have s4 : H4 ls = some (.lst (ss.map V.ref)) := by rw [hH4, upd_ne n_ls_le]; exact s1
              have e4 : H4 le = some (.lst (seen.map nV ++ [nV high])) := by rw [hH4, upd_same]
              rw [← o4] at hpre st
              refine ⟨_, rfl, .inl ⟨rfl, _, SqL.of w4⟩, _, rfl, _, rfl, lw, _, (at_ : Int), _, rfl, rfl, SqL.of w4, atI_nat wr, _, rfl, by show 1 ≤ sizeLine; decide, fun u hu => ?_⟩
              have x5' := Ex.new (o := .lst [nV high]) hu
              refine ⟨r, u, _, _, rfl, rfl, x5' _ _ (off_le _ _ hpre), upd_same, sz_of (by simp; omega), fun p hp => ?_⟩
              have x6' := x5'.trans (Ex.new (o := .lst (pre ++ [nV qq] ++ [nV high])) hp)
              refine ⟨lw, _, _, rfl, rfl, x6' _ _ w4, sz_lt (by simp; omega), ?_⟩
              have pL : p ∉ [lw, ls, le] := fun hm => by
                have hp' := x5'.back hp
                have : p = lw ∨ p = ls ∨ p = le := by simpa using hm
                rcases this with e | e | e
                · rw [e, w4] at hp'; cases hp'
                · rw [e, s4] at hp'; cases hp'
                · rw [e, e4] at hp'; cases hp'
              obtain ⟨H6, hH6⟩ : ∃ H6, H6 = upd (upd H4 u (.lst [nV high])) p (.lst (pre ++ [nV qq] ++ [nV high])) := ⟨_, rfl⟩
              rw [← hH6] at x6'
              have p6 : H6 p = some (.lst (pre ++ [nV qq] ++ [nV high])) := by rw [hH6, upd_same]
              obtain ⟨H7, hH7⟩ : ∃ H7, H7 = upd H6 lw (.lst (ws.map V.ref ++ [.ref p])) := ⟨_, rfl⟩
              rw [← hH6, ← hH7]
              have o7 : off [lw, ls, le] H7 = off [lw, ls, le] H6 := by rw [hH7]; exact off_upd mw
              have x7' : Ex H H7 := by rw [hH7]; exact (x4'.trans x6').mut nw0
              have w7 : H7 lw = some (.lst (ws.map V.ref ++ [.ref p])) := by rw [hH7, upd_same]
              have s7 : H7 ls = some (.lst (ss.map V.ref)) := by rw [hH7, upd_ne n_lw_ls.symm]; exact x6' _ _ s4
              have e7 : H7 le = some (.lst (seen.map nV ++ [nV high])) := by rw [hH7, upd_ne n_lw_le.symm]; exact x6' _ _ e4
              have q7 : off [lw, ls, le] H7 p = some (.lst (pre ++ [nV qq] ++ [nV high])) := by rw [o7]; exact off_of p6 pL
              have O47 : Ex (off [lw, ls, le] H4) (off [lw, ls, le] H7) := by rw [o7]; exact off_ex x6'
              have st7 := st.mono O47
              obtain ⟨qs, st1, st2, st3⟩ := id st7
              refine ⟨_, rfl, .inl ⟨rfl, _, SqL.of s7⟩, _, rfl, _, rfl, ls, _, (at_ : Int), _, rfl, rfl, SqL.of s7, atI_nat sr, _, rfl, _, rfl, by show 2 ≤ sizeLine; decide, fun T hT => ⟨by show 1 ≤ sizeLine; decide, fun u2 hu2 => ?_⟩⟩
              have x8' := Ex.new (o := .tup [nV j, .int sg]) hT
              have x9' := x8'.trans (Ex.new (o := .lst [.ref T]) hu2)
              refine ⟨r2, u2, _, _, rfl, rfl, x9' _ _ (off_le _ _ st1), upd_same, sz_of (by simp; omega), fun p2 hp2 => ?_⟩
              have x10' := x9'.trans (Ex.new (o := .lst (qs.map V.ref ++ [.ref T])) hp2)
              refine ⟨ls, _, _, rfl, rfl, x10' _ _ s7, sz_lt (by have := b.len; simp; omega), ?_⟩
              have nL : ∀ {z : Addr}, H7 z = none → z ∉ [lw, ls, le] := fun {z} hz hm => by
                have : z = lw ∨ z = ls ∨ z = le := by simpa using hm
                rcases this with e | e | e
                · rw [e, w7] at hz; cases hz
                · rw [e, s7] at hz; cases hz
                · rw [e, e7] at hz; cases hz
              have TL := nL hT
              have p2L := nL (x9'.back hp2)
              obtain ⟨H10, hH10⟩ : ∃ H10, H10 = upd (upd (upd H7 T (.tup [nV j, .int sg])) u2 (.lst [.ref T])) p2 (.lst (qs.map V.ref ++ [.ref T])) := ⟨_, rfl⟩
              have T10 : H10 T = some (.tup [nV j, .int sg]) := by
                rw [hH10]
                exact Ex.new hp2 _ _ (Ex.new hu2 _ _ upd_same)
              have P10 : H10 p2 = some (.lst (qs.map V.ref ++ [.ref T])) := by rw [hH10, upd_same]
              rw [← hH10] at x10'
              obtain ⟨H11, hH11⟩ : ∃ H11, H11 = upd H10 ls (.lst (ss.map V.ref ++ [.ref p2])) := ⟨_, rfl⟩
              show BC H a lw ls le n W k at_ qq j T1 T2 Lx (c + 1) _ (upd (upd (upd (upd H7 T (.tup [nV j, .int sg])) u2 (.lst [.ref T])) p2 (.lst (qs.map V.ref ++ [.ref T]))) ls (.lst (ss.map V.ref ++ [.ref p2])))
              rw [← hH10, ← hH11]
              have o11 : off [lw, ls, le] H11 = off [lw, ls, le] H10 := by rw [hH11]; exact off_upd ms
              have O : Ex (off [lw, ls, le] H3) (off [lw, ls, le] H11) := by
                rw [o11, ← o4]
                exact O47.trans (off_ex x10')
              have hR2 : StepsAt (off [lw, ls, le] H11) p2 (RR ++ [(j, sg)]) := by
                rw [o11]
                refine ⟨qs ++ [T], off_of (by rw [List.map_append]; exact P10) p2L, by simp [st2], fun i y hy => ?_⟩
                rcases get_last hy with ⟨hi, hy⟩ | ⟨hi, rfl⟩
                · obtain ⟨aa, s', h4, h5⟩ := st3 i y hy
                  exact ⟨aa, s', by rw [List.getElem?_append_left (by omega)]; exact h4, off_ex x10' _ _ h5⟩
                · exact ⟨j, sg, by rw [hi, st2]; simp, off_of T10 TL⟩
              refine ⟨seen ++ [high], S ++ [RR ++ [(j, sg)]], _, _, _, rfl, rk4.add (q := qq) (pre := pre) (p := p) (p2 := p2) (T := T) (a := at_) (qs := qs) ?_ O w1 s1 ?_ ?_ ?_ ?_ (by omega) (fun _ => trivial) hR2, ?_, by rw [List.getElem?_append_left hat]; exact hq, O _ _ g1, O _ _ g2, O _ _ g3⟩
              · rw [hH11]
                exact (x7'.trans x10').mut ns0
              · rw [hH11, upd_ne n_lw_ls]
                exact x10' _ _ w7
              · rw [hH11, upd_same]
              · rw [hH11, upd_ne n_ls_le.symm]
                exact x10' _ _ e7
              · rw [o11]
                exact off_ex x10' _ _ q7
              · subst hlq
                exact b.found hq hRR hhigh hnew hjw hjk hsg (by
                  rcases hcase with ⟨h1, h2, h3, h4⟩ | ⟨h1, h2, h3, h4⟩
                  · exact .inl ⟨h1, h2, h3, h4⟩
                  · exact .inr ⟨h1, h2, h3, h4⟩)
            · rintro σ H' ⟨seen, S, o10, o11, o12, rfl, rk4, b, hq, _⟩
              exact ⟨seen, S, _, _, _, _, rfl, rk4, b, hq⟩
          · rintro σ H2 ⟨seen, S, o9, o10, o11, o12, rfl, rk2, b, hq⟩
            refine ⟨_, rfl, (at_ : Int), 1, rfl, rfl, m - 1, by omega, seen, S, at_ + 1, _, _, _, _, _, rfl, rk2, b.next hq hx2 (by simp; omega), by omega⟩
      · -- return []
        refine ⟨Nat.zero_le _, fun p hp => ?_⟩
        have hge : seen.length ≤ at_ := by
          have := fun z => hlt (decide_eq_true z)
          simp at this
          omega
        exact q p _ [] (rk1.ex.trans (Ex.new hp)) ⟨[], upd_same, rfl, fun i q hq => by simp at hq⟩ (b.none hge)
end
end KW
namespace KW
open PySem PySem.Spec PyProof.Rows L2 KR RZ
open KM (Web src dst Good at0 exc pull RingSpec dot pd rsum)
section
variable {P : Program} {w : World} {K : PySem.W.Frag} {mg : Str → Option Value} {base : Heap} {f : Addr} {fd : FuncData} {t1 t2 t3 : Tok}
def spSum : Sp := fun vs H Q _ => ∃ (p q : Addr) (as bs : List Int), vs = [.ref p, .ref q] ∧ Seq H p as ∧ Seq H q bs ∧ as.length = bs.length ∧ as.length ≤ 1000 ∧ (∀ k, k < as.length → CMul (at0 as k) (at0 bs k)) ∧ ∀ H', Ex H H' → Q (.int (dot as.length (at0 as) (at0 bs))) H'
theorem ok_sum (B : Bt mg) (F : Fun K "_law_sum" "_law_sum" s_sum f fd) : FnOk P w K mg base CX0 1 f fd P_sum spSum := by
  refine F.ok sc_sum (fun vs H Q E h => ?_) (fun cdv A outer s H vs Q E hr h => ?_)
  · obtain ⟨p, q, as, bs, rfl, _⟩ := h
    rfl
  · obtain ⟨p, q, as, bs, rfl, ha, hb, hl, hl2, hc, k⟩ := h
    refine ⟨_, (pss_one (ps_ret (pe_callB (cr_sum rfl) (by rfl) B.sum (by decide +kernel) (pa_cons (pe_lc (own := [(("_law_k" : Str), 2)]) (g := (gName 2)) rfl sc_sum.nd (pi_range1 (by rfl) B.range (pa_cons (pe_callB call_len_seq (by rfl) B.len (by decide +kernel) (pa_cons (pv 0) pa_nil)) pa_nil)) (blkOk_by (own := [(("_law_k" : Str), 2)]) (N := N_sum) (sc := defScope s_sum) (by decide +kernel)) (fun _ _ _ _ _ => (pg_name (i := 2) sc_sum.nd rfl (.inl rfl))) (fun _ _ _ _ _ => pts_nil) (fun _ _ _ _ _ => (pe_op op_mul (pe_ix (r := rIx K) ix_seq (pv 0) (pv 2) (fun _ _ => rfl)) (pe_ix (r := rIx K) ix_seq (pv 1) (pv 2) (fun _ _ => rfl))))) pa_nil)))), ?_⟩
    have len_ : SqL K H p (as.map V.int) ∨ SqT K H p (as.map V.int) := ha.imp SqL.of SqT.of
    refine ⟨_, rfl, p, _, rfl, len_, _, rfl, by rw [List.length_map]; omega, by rw [List.length_map]; omega, fun D hD => ?_⟩
    rw [List.length_map]
    refine lc_range (lo := 0) (n := ((as.length : Nat) : Int).toNat) (Cw H (upto fun k => .int (at0 as k * at0 bs k)) D) (Cw.start hD rfl) (fun i H' hi c => ?_) (fun H1 c => ?_)
    · have hi2 : i < as.length := by omega
      have zi : V.int (0 + (i : Int)) = V.int i := by rw [Int.zero_add]
      rw [zi]
      refine ⟨rfl, _, rfl, _, rfl, (ha.mono c.ex).ix hi2 ⟨_, rfl, _, rfl, (hb.mono c.ex).ix (by omega) ⟨_, _, rfl, rfl, hc i hi2, ?_⟩⟩⟩
      exact c.put (Ex.refl _) (upto_succ _ _) (by rw [upto_len]; omega)
    · refine ⟨D, (List.range as.length).map fun k => at0 as k * at0 bs k, rfl, SqL.of ?_, ?_⟩
      · rw [c.at_, Int.toNat_natCast]
        unfold upto
        rw [List.map_map]
        rfl
      · have e : ((List.range as.length).map fun k => at0 as k * at0 bs k).sum = dot as.length (at0 as) (at0 bs) := KM.sumR_list _ _
        show Q (V.int ((List.range as.length).map fun k => at0 as k * at0 bs k).sum) H1
        rw [e]
        exact k _ c.ex
def spDrawn : Sp := fun vs H Q _ => ∃ (m : Addr) (n : Nat), vs = [.ref m, .int n] ∧ Mill H m ∧ n ≤ 10 ∧ ∀ p H' (hs : List Int), Mx m H H' → H' p = some (.tup (hs.map V.int)) → hs.length = n → (∀ x ∈ hs, -(10 ^ 48) ≤ x ∧ x ≤ 10 ^ 48) → Q (.ref p) H'
theorem ok_drawn (B : Bt mg) (D_grind : Def P w K mg base "_law_grind" P_grind 1 spGrind) (F : Fun K "_law_drawn_heights" "_law_drawn_heights" s_drawn f fd) : FnOk P w K mg base CX0 2 f fd P_drawn spDrawn := by
  refine F.ok sc_drawn (fun vs H Q E h => ?_) (fun cdv A outer s H vs Q E hr h => ?_)
  · obtain ⟨m, n, rfl, _⟩ := h
    rfl
  · obtain ⟨m, n, rfl, hm, hn, q⟩ := h
    refine ⟨_, (pss_cons (ps_set (i := 2) sc_drawn.nd rfl (.inr rfl) (pe_ix (r := rIxL K) ix_list (pe_lst (pa_cons pe_int (pa_cons pe_int (pa_cons pe_int (pa_cons (pe_op op_pow pe_int pe_int) pa_nil))))) (pe_cd D_grind (hr.mono (by decide)) (by rfl) (pa_cons (pv 0) (pa_cons pe_int pa_nil))) (fun _ _ => rfl)))
      (pss_cons (ps_set (i := 3) sc_drawn.nd rfl (.inr rfl) (pe_ix (r := rIxL K) ix_list (pe_lst (pa_cons pe_int (pa_cons pe_int (pa_cons (pe_op op_pow pe_int pe_int) pa_nil)))) (pe_cd D_grind (hr.mono (by decide)) (by rfl) (pa_cons (pv 0) (pa_cons pe_int pa_nil))) (fun _ _ => rfl)))
      (pss_one (ps_ret (pe_callTy call_tuple_of (by rfl) B.tuple (by decide +kernel) (pa_cons (pe_lc (own := [(("_law_x" : Str), 4)]) (g := (gName 4)) rfl sc_drawn.nd (pi_range1 (by rfl) B.range (pa_cons (pv 1) pa_nil)) (blkOk_by (own := [(("_law_x" : Str), 4)]) (N := N_drawn) (sc := defScope s_drawn) (by decide +kernel)) (fun _ _ _ _ _ => (pg_name (i := 4) sc_drawn.nd rfl (.inl rfl))) (fun _ _ _ _ _ => pts_nil) (fun _ _ _ _ _ => (pe_op op_mul (pe_op op_sub (pe_cd D_grind (hr.mono (by decide)) (by rfl) (pa_cons (pv 0) (pa_cons (pe_op op_add (pe_op op_mul pe_int (pv 2)) pe_int) pa_nil))) (pv 2)) (pv 3)))) pa_nil)))))), ?_⟩
    refine ⟨10, 18, rfl, rfl, ⟨by decide, by decide, by decide⟩, by show 4 ≤ sizeLine; decide, fun z1 hz1 => ?_⟩
    have e1 := Ex.new (o := .lst [V.int 2, V.int 5, V.int 100, V.int (10 ^ (18 : Int).toNat)]) hz1
    have n1 := hm.ne hz1
    have m1 := Mx.of_ex hm e1
    refine ⟨_, rfl, m, 4, rfl, m1.mill, by omega, by omega, fun r1 g1 x1 h10 h11 => ?_⟩
    have m2 := m1.trans (.put g1 x1)
    obtain ⟨top, ht, htop⟩ : ∃ top : Int, atI [V.int 2, V.int 5, V.int 100, V.int (10 ^ (18 : Int).toNat)] r1 = some (.int top) ∧ 1 ≤ top ∧ top ≤ 10 ^ 18 := by
      have : r1 = 0 ∨ r1 = 1 ∨ r1 = 2 ∨ r1 = 3 := by omega
      rcases this with e | e | e | e <;> rw [e]
      · exact ⟨2, rfl, by decide, by decide⟩
      · exact ⟨5, rfl, by decide, by decide⟩
      · exact ⟨100, rfl, by decide, by decide⟩
      · exact ⟨10 ^ 18, rfl, by decide, by decide⟩
    refine ⟨z1, _, r1, _, rfl, rfl, SqL.of (by rw [upd_ne n1, upd_same]), ht, ?_⟩
    refine ⟨10, 30, rfl, rfl, ⟨by decide, by decide, by decide⟩, by show 3 ≤ sizeLine; decide, fun z2 hz2 => ?_⟩
    have e2 := Ex.new (o := .lst [V.int 1, V.int 1, V.int (10 ^ (30 : Int).toNat)]) hz2
    have n2 := m2.mill.ne hz2
    have m3 := m2.ex e2
    refine ⟨_, rfl, m, 3, rfl, m3.mill, by omega, by omega, fun r2 g2 x2 h20 h21 => ?_⟩
    have m4 := m3.trans (.put g2 x2)
    obtain ⟨times, ht2, htim⟩ : ∃ times : Int, atI [V.int 1, V.int 1, V.int (10 ^ (30 : Int).toNat)] r2 = some (.int times) ∧ (times = 1 ∨ times = 10 ^ 30) := by
      have : r2 = 0 ∨ r2 = 1 ∨ r2 = 2 := by omega
      rcases this with e | e | e <;> rw [e]
      · exact ⟨1, rfl, .inl rfl⟩
      · exact ⟨1, rfl, .inl rfl⟩
      · exact ⟨10 ^ 30, rfl, .inr rfl⟩
    refine ⟨z2, _, r2, _, rfl, rfl, SqL.of (by rw [upd_ne n2, upd_same]), ht2, ?_⟩
    refine ⟨_, rfl, (n : Int), rfl, by omega, by omega, fun D hD => ?_⟩
    have nD := m4.mill.ne hD
    have hD0 := m4.back hD
    refine lc_range (lo := 0) (n := ((n : Int)).toNat) (fun i H' => ∃ hs : List Int, Mx m H H' ∧ H' D = some (.lst (hs.map V.int)) ∧ hs.length = i ∧ ∀ x ∈ hs, -(10 ^ 48) ≤ x ∧ x ≤ 10 ^ 48)
      ⟨[], m4.ex (Ex.new hD), upd_same, rfl, fun x hx => by simp at hx⟩ (fun i H' hi ⟨hs, c, hL, hl, hb⟩ => ?_) (fun H1 ⟨hs, c, hL, hl, hb⟩ => ?_)
    · refine ⟨rfl, _, rfl, _, rfl, 2, top, rfl, rfl, .inl ⟨by decide, by decide⟩, _, 1, rfl, rfl, m, _, rfl, c.mill, by omega, by omega, fun r g x hr0 hr1 => ?_⟩
      refine ⟨_, rfl, r, top, rfl, rfl, _, rfl, r - top, times, rfl, rfl, .inl ⟨by omega, by omega⟩, hs.map V.int, by rw [upd_ne nD]; exact hL, sz_lt (by simp; omega), hs ++ [(r - top) * times], (c.trans (.put g x)).mut hD0 nD, by rw [upd_same, List.map_append]; rfl, by simp [hl], fun y hy => ?_⟩
      rcases List.mem_append.mp hy with h | h
      · exact hb y h
      · have hy2 : y = (r - top) * times := by simpa using h
        rw [hy2]
        rcases htim with e | e
        · rw [e]
          omega
        · rw [e]
          omega
    · refine ⟨D, _, rfl, .inl ⟨SqL.of hL, fun p hp => q p _ hs (c.ex (Ex.new hp)) upd_same (by omega) hb⟩⟩
theorem refs_ints {qs : List Addr} {ns : List Int} (h : qs.map V.ref = ns.map V.int) : ns = [] := by
  cases ns with
  | nil => rfl
  | cons n ns =>
    cases qs with
    | nil => simp at h
    | cons q qs => simp at h
theorem two_lists {H : Hp} {p l : Addr} {qs : List Addr} {ns : List Int} (h1 : H p = some (.lst (qs.map V.ref))) (h2 : H l = some (.lst (ns.map V.int))) (hn : ns ≠ []) : p ≠ l := fun e => hn (refs_ints (by
  rw [e, h2] at h1
  injection h1 with h1
  injection h1 with h1
  exact h1.symm))
/-- a flow, drawn: led back along rings -/
structure FI (W : Web) (B : Int) (ns : List Int) : Prop where
  len : ns.length = W.length
  flat : ∀ f, dot W.length (at0 ns) (pd W f) = 0
  small : ∀ k, -B ≤ at0 ns k ∧ at0 ns k ≤ B
def spSomeFlow : Sp := fun vs H Q _ => ∃ (m a : Addr) (n : Nat) (W : Web) (ta : Addr) (rs : List Addr), vs = [.ref m, .ref a] ∧ Mill H m ∧ WebAt H a n W ta rs ∧ ∀ p H' (ns : List Int), Mx m H H' → H' p = some (.lst (ns.map V.int)) → FI W 135 ns → Q (.ref p) H'
theorem ok_some_flow (B : Bt mg) (D_grind : Def P w K mg base "_law_grind" P_grind 1 spGrind) (D_ring : Def P w K mg base "_law_ring" P_ring 1 spRing) (F : Fun K "_law_some_flow" "_law_some_flow" s_some_flow f fd) : FnOk P w K mg base CX0 2 f fd P_some_flow spSomeFlow := by
  refine F.ok sc_some_flow (fun vs H Q E h => ?_) (fun cdv A outer s H vs Q E hr h => ?_)
  · obtain ⟨m, a, n, W, ta, rs, rfl, _⟩ := h
    rfl
  · obtain ⟨m, a, n, W, ta, rs, rfl, hm, ha, q⟩ := h
    have hu := hr.units
    refine ⟨_, (pss_cons (ps_set (i := 2) sc_some_flow.nd rfl (.inl rfl) (pe_op op_rep (pe_lst (pa_cons pe_int pa_nil)) (pe_callB call_len_seq (by rfl) B.len (by decide +kernel) (pa_cons (pe_ix (r := rIxT K) ix_tup (pv 1) pe_int (fun _ _ => rfl)) pa_nil))))
      (pss_cons (ps_for PassesOwn.never rfl (pi_range1 (by rfl) B.range (pa_cons pe_int pa_nil)) (pg_name (i := 3) sc_some_flow.nd rfl (.inl rfl))
        (pss_one (ps_if (pt_cmpR (op_neD hu) (pe_ix (r := rIxT K) ix_tup (pv 1) pe_int (fun _ _ => rfl)) (pe_tup pa_nil) (nomark _))
          (pss_cons (ps_set (i := 4) sc_some_flow.nd rfl (.inl rfl) (pe_cd D_grind (hr.mono (by decide)) (by rfl) (pa_cons (pv 0) (pa_cons (pe_callB call_len_seq (by rfl) B.len (by decide +kernel) (pa_cons (pe_ix (r := rIxT K) ix_tup (pv 1) pe_int (fun _ _ => rfl)) pa_nil)) pa_nil))))
          (pss_cons (ps_set (i := 5) sc_some_flow.nd rfl (.inl rfl) (pe_op op_sub (pe_cd D_grind (hr.mono (by decide)) (by rfl) (pa_cons (pv 0) (pa_cons pe_int pa_nil))) pe_int))
          (pss_one (ps_for PassesOwn.never rfl (pi_list (pe_cd D_ring (hr.mono (by decide)) (by rfl) (pa_cons (pv 1) (pa_cons (pv 4) pa_nil)))) (pg_tup rfl (pgs_cons (pg_name (i := 6) sc_some_flow.nd rfl (.inl rfl)) (pgs_cons (pg_name (i := 7) sc_some_flow.nd rfl (.inl rfl)) pgs_nil)))
            (pss_one (ps_asg (pe_op op_add (pe_ix (r := rIxL K) ix_list (pv 2) (pv 6) (fun _ _ => rfl)) (pe_op op_mul (pv 7) (pv 5))) (pg_sub (pv 2) (pv 6) set_list)))))))
          pss_nil)))
      (pss_one (ps_ret (pv 2))))), ?_⟩
    have hm15 := ha.m15
    have hrl := ha.len
    refine ⟨by show 1 ≤ sizeLine; decide, fun z hz => ?_⟩
    have e0 := Ex.new (o := .lst [V.int 0]) hz
    refine ⟨_, rfl, a, _, 1, _, rfl, rfl, SqT.of (e0 _ _ ha.w), atI_nat (j := 1) rfl, ta, _, rfl, .inr (SqT.of (e0 _ _ ha.t)), z, _, _, rfl, rfl, upd_same, by omega, by rw [List.length_map]; omega, sz_of (by simp; omega), fun l hl0 => ?_⟩
    have e1 := e0.trans (Ex.new (o := .lst (List.replicate (((rs.map V.ref).length : Nat) : Int).toNat [V.int 0]).flatten) hl0)
    have nl := e0.back hl0
    have nlm := hm.ne nl
    refine ⟨3, rfl, by omega, by omega, for_range (lo := 0) (n := (3 : Int).toNat) (fun i σ H' => ∃ (ns : List Int) (o3 o4 o5 o6 o7 : Option V), σ = [some (.ref m), some (.ref a), some (.ref l), o3, o4, o5, o6, o7] ∧ Mx m H H' ∧ H' l = some (.lst (ns.map V.int)) ∧ FI W (45 * i) ns)
      ⟨List.replicate W.length 0, none, none, none, none, none, rfl, .of_ex hm e1, ?_, by simp, fun f => KM.dot_zero _ _, fun k => by rw [KM.at0_zero]; omega⟩ ?_ ?_⟩
    · rw [upd_same]
      simp [hrl]
    · rintro i σ H1 hi ⟨ns, o3, o4, o5, o6, o7, rfl, c, hL, hF⟩
      have ha1 := ha.mx c hm
      refine ⟨_, rfl, a, _, 1, _, rfl, rfl, SqT.of ha1.w, atI_nat (j := 1) rfl, Nat.zero_le _, fun y hy => ?_⟩
      have ey := Ex.new (o := .tup []) hy
      have ha2 := ha1.mono ey
      have c2 := c.ex ey
      have hL2 := ey _ _ hL
      refine rNe_unit ha2.t (plain_refs fun r hr => ?_) upd_same ⟨_, rfl, ?_⟩
      · obtain ⟨j, hj, e⟩ := List.mem_iff_getElem.mp hr
        exact ⟨[(src W j : Int), (dst W j : Int)], .inr (ha2.a j r (by rw [List.getElem?_eq_getElem hj, e]))⟩
      have fin : ∀ {o4 o5 o6 o7 : Option V} {H' : Hp} {ns' : List Int}, Mx m H H' → H' l = some (.lst (ns'.map V.int)) → FI W (45 * i + 45) ns' → ∃ (ns : List Int) (o3 o4' o5' o6' o7' : Option V), [some (V.ref m), some (.ref a), some (.ref l), some (V.int (0 + (i : Int))), o4, o5, o6, o7] = [some (.ref m), some (.ref a), some (.ref l), o3, o4', o5', o6', o7'] ∧ Mx m H H' ∧ H' l = some (.lst (ns.map V.int)) ∧ FI W (45 * ((i + 1 : Nat) : Int)) ns := fun {o4 o5 o6 o7 H' ns'} h1 h2 h3 =>
        ⟨ns', _, _, _, _, _, rfl, h1, h2, h3.len, h3.flat, fun k => by have := h3.small k; omega⟩
      cases hrs : rs with
      | nil =>
        refine iteF (fin c2 hL2 ⟨hF.len, hF.flat, fun k => ?_⟩)
        have := hF.small k
        omega
      | cons r0 rs0 =>
        rw [← hrs]
        have hne : (!(rs.map V.ref).isEmpty) = true := by rw [hrs]; rfl
        rw [hne]
        refine iteT ?_
        have hpos : 0 < rs.length := by rw [hrs]; simp
        refine ⟨_, rfl, _, rfl, a, _, 1, _, rfl, rfl, SqT.of ha2.w, atI_nat (j := 1) rfl, ta, _, rfl, .inr (SqT.of ha2.t), m, _, rfl, c2.mill, by rw [List.length_map]; omega, by rw [List.length_map]; omega, fun kk g1 x1 hk0 hk1 => ?_⟩
        rw [List.length_map] at hk1
        have c3 := c2.trans (.put g1 x1)
        obtain ⟨k, rfl⟩ := Int.eq_ofNat_of_zero_le hk0
        refine ⟨_, rfl, m, 7, rfl, c3.mill, by omega, by omega, fun tt g2 x2 ht0 ht1 => ⟨tt, 3, rfl, rfl, ?_⟩⟩
        have c4 := c3.trans (.put g2 x2)
        have hL4 : (upd (upd (upd H1 y (.tup [])) m (.lst [.int g1, .int x1])) m (.lst [.int g2, .int x2])) l = some (.lst (ns.map V.int)) := by rw [upd_ne nlm, upd_ne nlm]; exact hL2
        have ha4 := ha.mx c4 hm
        refine ⟨_, rfl, _, rfl, a, n, W, ta, rs, k, rfl, ha4, by omega, fun p H5 R e5 hst hR => ?_⟩
        have hL5 := e5 _ _ hL4
        have c5 := c4.ex e5
        obtain ⟨qs, s1, s2, s3⟩ := id hst
        have npl : p ≠ l := two_lists s1 hL5 (fun z => by
          have := hF.len
          rw [z] at this
          simp at this
          omega)
        have npm : p ≠ m := by
          obtain ⟨gg, xx, hmm⟩ := c5.mill
          exact two_lists (ns := [gg, xx]) s1 hmm (fun z => by cases z)
        have st0 : StepsAt (off [l, m] H5) p R := ⟨qs, off_of s1 (by simp [npl, npm]), s2, fun i q hq => by
          obtain ⟨aa, ss, h1, h2⟩ := s3 i q hq
          obtain ⟨gg, xx, hmm⟩ := c5.mill
          have d1 : q ≠ l := ne_of h2 hL5 (fun z => by cases z)
          have d2 : q ≠ m := ne_of h2 hmm (fun z => by cases z)
          exact ⟨aa, ss, h1, off_of h2 (by simp [d1, d2])⟩⟩
        obtain ⟨qs', s1', s2', s3'⟩ := st0
        have eqs : qs'.map V.ref = qs.map V.ref := by
          have := off_le _ _ s1'
          rw [s1] at this
          injection this with this
          injection this with this
          exact this.symm
        rw [eqs] at s1'
        refine ⟨p, rfl, ⟨_, SqL.of s1⟩, for_list (K := K) (a := p) (xs := qs.map V.ref) (fun j σ H' => ∃ (ns' : List Int) (o6 o7 : Option V), σ = [some (.ref m), some (.ref a), some (.ref l), some (V.int (0 + (i : Int))), some (.int k), some (.int (tt - 3)), o6, o7] ∧ Mx m H H' ∧ H' l = some (.lst (ns'.map V.int)) ∧ ns'.length = W.length ∧
            (∀ f, dot W.length (at0 ns') (pd W f) = dot W.length (at0 ns) (pd W f) + (tt - 3) * rsum (R.take j) (pd W f)) ∧ (∀ x, -(45 * i + 3 * j) ≤ at0 ns' x ∧ at0 ns' x ≤ 45 * i + 3 * j) ∧ Ex (off [l, m] H5) (off [l, m] H'))
          ⟨ns, _, _, rfl, c5, hL5, hF.len, fun f => by rw [List.take_zero]; simp [rsum], fun x => by have := hF.small x; omega, Ex.refl _⟩ ?_ ?_ ?_⟩
        · rintro j σ H' _ ⟨_, _, _, _, _, _, _, _, _, e⟩
          exact SqL.of (off_le _ _ (e _ _ s1'))
        · rintro j x σ H6 hx ⟨ns', o6, o7, rfl, c6, hL6, hl6, hd6, hb6, e6⟩
          obtain ⟨qq, hq1, rfl⟩ := refs_at hx
          have hq2 : qs'[j]? = some qq := by
            have h7 : (qs'.map V.ref)[j]? = some (V.ref qq) := by rw [eqs]; exact hx
            obtain ⟨q3, h8, h9⟩ := refs_at h7
            injection h9 with h9
            rw [h8, h9]
          obtain ⟨aa, ss, hr1, hr2⟩ := s3' j qq hq2
          have hmem : (aa, ss) ∈ R := List.mem_of_getElem? hr1
          have haa : aa < W.length := hR.ok.lt _ hmem
          have hss := hR.ok.sg _ hmem
          refine ⟨qq, _, rfl, SqT.of (off_le _ _ (e6 _ _ hr2)), rfl, _, _, rfl, _, _, rfl, rfl, ?_⟩
          refine ⟨_, rfl, _, rfl, l, _, (aa : Int), _, rfl, rfl, SqL.of hL6, atI_nat (int_get (by omega)), _, rfl, _, rfl, ss, tt - 3, rfl, rfl, .inl ?_, _, _, rfl, rfl, ?_⟩
          · have hss2 : ss = 1 ∨ ss = -1 := hss
            constructor <;> rcases hss2 with e | e <;> rw [e] <;> decide
          refine ⟨_, rfl, _, rfl, l, _, (aa : Int), aa, rfl, rfl, hL6, ixN_nat (by simp; omega), ?_⟩
          rw [map_set_int]
          have hsm : -3 ≤ ss * (tt - 3) ∧ ss * (tt - 3) ≤ 3 := by
            have hss2 : ss = 1 ∨ ss = -1 := hss
            rcases hss2 with e | e <;> rw [e] <;> omega
          refine ⟨ns'.set aa (at0 ns' aa + ss * (tt - 3)), _, _, rfl, c6.mut nl nlm, upd_same, by simp [hl6], fun f => ?_, fun x => ?_, ?_⟩
          · rw [KM.dot_set _ haa hl6, hd6, KM.rsum_take _ hr1, Int.mul_add]
            have e1 : at0 ns' aa + ss * (tt - 3) - at0 ns' aa = ss * (tt - 3) := by omega
            have e2 : ss * (tt - 3) * pd W f aa = (tt - 3) * (ss * pd W f aa) := by rw [Int.mul_comm ss, Int.mul_assoc]
            rw [e1, e2]
            omega
          · rw [KM.at0_set (by omega)]
            have h1 := hb6 x
            have h2 := hb6 aa
            split <;> omega
          · rw [off_upd (by simp)]
            exact e6
        · rintro σ H' ⟨ns', o6, o7, rfl, c6, hL6, hl6, hd6, hb6, e6⟩
          rw [List.length_map] at hd6 hb6
          have hRl := hR.ok.le
          refine fin c6 hL6 ⟨hl6, fun f => ?_, fun x => ?_⟩
          · rw [hd6, hF.flat, s2, List.take_length, hR.ok.sum]
            simp
          · have := hb6 x
            omega
    · rintro σ H' ⟨ns, o3, o4, o5, o6, o7, rfl, c, hL, hF⟩
      exact ⟨_, rfl, q l H' ns c hL hF⟩
end
end KW
namespace KW
open PySem PySem.Spec PyProof.Rows L2 KR RZ
open KM (Web src dst Good at0 exc pull RingSpec dot pd rsum GI AI hp0 phi)
/-- vectors in a list -/
def VecsAt (H0 H G : Hp) (p : Addr) (found : List (List Int)) : Prop := ∃ qs : List Addr, H p = some (.lst (qs.map V.ref)) ∧ qs.length = found.length ∧ ∀ (i : Nat) (q : Addr) (r : List Int), qs[i]? = some q → found[i]? = some r → H0 q = none ∧ G q = some (.lst (r.map V.int))
/-- what stands while the rings are made -/
structure RG (H H' : Hp) (lh lt lf : Addr) (n : Nat) (W : Web) (k : Nat) (heaps tree : List Nat) (found : List (List Int)) : Prop where
  ex : Ex H H'
  hh : H' lh = some (.lst (heaps.map nV))
  ht : H' lt = some (.lst (tree.map nV))
  hf : VecsAt H H' (off [lt, lf] H') lf found
  gi : GI n W k heaps tree found
theorem RG.go {H H' H2 : Hp} {lh lt lf : Addr} {n : Nat} {W : Web} {k : Nat} {heaps tree : List Nat} {found : List (List Int)} (r : RG H H' lh lt lf n W k heaps tree found) (e : Ex H' H2) : RG H H2 lh lt lf n W k heaps tree found := by
  obtain ⟨qs, h1, h2, h3⟩ := r.hf
  exact ⟨r.ex.trans e, e _ _ r.hh, e _ _ r.ht, ⟨qs, e _ _ h1, h2, fun i q v a b => ⟨(h3 i q v a b).1, off_ex e _ _ (h3 i q v a b).2⟩⟩, r.gi⟩
theorem nat_get {l : List Nat} {i : Nat} (h : i < l.length) : (l.map nV)[i]? = some (nV (l.getD i 0)) := by
  rw [List.getElem?_map, List.getElem?_eq_getElem h]
  simp [List.getD_eq_getElem?_getD, h]
section
variable {P : Program} {w : World} {K : PySem.W.Frag} {mg : Str → Option Value} {base : Heap} {f : Addr} {fd : FuncData} {t1 t2 t3 : Tok}
def spRings : Sp := fun vs H Q _ => ∃ (a : Addr) (n : Nat) (W : Web) (ta : Addr) (rs : List Addr), vs = [.ref a] ∧ WebAt H a n W ta rs ∧ ∀ p H' (heaps tree : List Nat) (found : List (List Int)), Ex H H' → H p = none → VecsAt H H' H' p found → GI n W W.length heaps tree found → found.length ≤ W.length → Q (.ref p) H'
theorem ok_rings (B : Bt mg) (D_ring : Def P w K mg base "_law_ring" P_ring 1 spRing) (F : Fun K "_law_rings" "_law_rings" s_rings f fd) : FnOk P w K mg base CX0 2 f fd P_rings spRings := by
  refine F.ok sc_rings (fun vs H Q E h => ?_) (fun cdv A outer s H vs Q E hr h => ?_)
  · obtain ⟨a, n, W, ta, rs, rfl, _⟩ := h
    rfl
  · obtain ⟨a, n, W, ta, rs, rfl, ha, q⟩ := h
    refine ⟨_, (pss_cons (ps_set (i := 1) sc_rings.nd rfl (.inr rfl) (pe_listRg rfl (by rfl) B.list (prg_1 (by rfl) B.range (pe_ix (r := rIxT K) ix_tup (pv 0) pe_int (fun _ _ => rfl)))))
      (pss_cons (ps_set (i := 2) sc_rings.nd rfl (.inl rfl) (pe_lst pa_nil))
      (pss_cons (ps_set (i := 3) sc_rings.nd rfl (.inl rfl) (pe_lst pa_nil))
      (pss_cons (ps_for PassesOwn.never rfl (pi_range1 (by rfl) B.range (pa_cons (pe_callB call_len_seq (by rfl) B.len (by decide +kernel) (pa_cons (pe_ix (r := rIxT K) ix_tup (pv 0) pe_int (fun _ _ => rfl)) pa_nil)) pa_nil)) (pg_name (i := 4) sc_rings.nd rfl (.inl rfl))
        (pss_cons (ps_asg (pe_ix (r := rIxT K) ix_tup (pe_ix (r := rIxT K) ix_tup (pv 0) pe_int (fun _ _ => rfl)) (pv 4) (fun _ _ => rfl)) (pg_tup rfl (pgs_cons (pg_name (i := 5) sc_rings.nd rfl (.inr rfl)) (pgs_cons (pg_name (i := 6) sc_rings.nd rfl (.inr rfl)) pgs_nil))))
        (pss_one (ps_if (pt_cmpR op_eq (pe_ix (r := rIxL K) ix_list (pv 1) (pv 5) (fun _ _ => rfl)) (pe_ix (r := rIxL K) ix_list (pv 1) (pv 6) (fun _ _ => rfl)) (nomark _))
          (pss_cons (ps_set (i := 7) sc_rings.nd rfl (.inl rfl) (pe_tup (pa_cons (pe_ix (r := rIxT K) ix_tup (pv 0) pe_int (fun _ _ => rfl)) (pa_cons (pe_callTy call_tuple_of (by rfl) B.tuple (by decide +kernel) (pa_cons (pe_op op_cat (pe_lc (own := [(("_law_j" : Str), 12)]) (g := (gName 12)) rfl sc_rings.nd (pi_list (pv 2)) (blkOk_by (own := [(("_law_j" : Str), 12)]) (N := N_rings) (sc := defScope s_rings) (by decide +kernel)) (fun _ _ _ _ _ => (pg_name (i := 12) sc_rings.nd rfl (.inl rfl))) (fun _ _ _ _ _ => pts_nil) (fun _ _ _ _ _ => (pe_ix (r := rIxT K) ix_tup (pe_ix (r := rIxT K) ix_tup (pv 0) pe_int (fun _ _ => rfl)) (pv 12) (fun _ _ => rfl)))) (pe_lst (pa_cons (pe_ix (r := rIxT K) ix_tup (pe_ix (r := rIxT K) ix_tup (pv 0) pe_int (fun _ _ => rfl)) (pv 4) (fun _ _ => rfl)) pa_nil))) pa_nil)) pa_nil))))
          (pss_cons (ps_set (i := 8) sc_rings.nd rfl (.inl rfl) (pe_op op_rep (pe_lst (pa_cons pe_int pa_nil)) (pe_callB call_len_seq (by rfl) B.len (by decide +kernel) (pa_cons (pe_ix (r := rIxT K) ix_tup (pv 0) pe_int (fun _ _ => rfl)) pa_nil))))
          (pss_cons (ps_for PassesOwn.never rfl (pi_list (pe_cd D_ring (hr.mono (by decide)) (by rfl) (pa_cons (pv 7) (pa_cons (pe_callB call_len_seq (by rfl) B.len (by decide +kernel) (pa_cons (pv 2) pa_nil)) pa_nil)))) (pg_tup rfl (pgs_cons (pg_name (i := 9) sc_rings.nd rfl (.inl rfl)) (pgs_cons (pg_name (i := 10) sc_rings.nd rfl (.inl rfl)) pgs_nil)))
            (pss_one (ps_asg (pv 10) (pg_sub (pv 8) (pe_ifExp (pt_cmpR op_eq (pv 9) (pe_callB call_len_seq (by rfl) B.len (by decide +kernel) (pa_cons (pv 2) pa_nil)) (nomark _)) (pv 4) (pe_ix (r := rIxL K) ix_list (pv 2) (pv 9) (fun _ _ => rfl))) set_list))))
          (pss_one (ps_expr (pe_bm PySem.F.plainAttrs_list PySem.F.slot_list_append PySem.F.type_list_append mt_append (pv 3) (pa_cons (pv 8) pa_nil)))))))
          (pss_cons (ps_expr (pe_bm PySem.F.plainAttrs_list PySem.F.slot_list_append PySem.F.type_list_append mt_append (pv 2) (pa_cons (pv 4) pa_nil)))
          (pss_one (ps_set (i := 1) sc_rings.nd rfl (.inr rfl) (pe_lc (own := [(("_law_heap" : Str), 11)]) (g := (gName 11)) rfl sc_rings.nd (pi_list (pv 1)) (blkOk_by (own := [(("_law_heap" : Str), 11)]) (N := N_rings) (sc := defScope s_rings) (by decide +kernel)) (fun _ _ _ _ _ => (pg_name (i := 11) sc_rings.nd rfl (.inl rfl))) (fun _ _ _ _ _ => pts_nil) (fun _ _ _ _ _ => (pe_ifExp (pt_cmpR op_eq (pv 11) (pe_ix (r := rIxL K) ix_list (pv 1) (pv 6) (fun _ _ => rfl)) (nomark _)) (pe_ix (r := rIxL K) ix_list (pv 1) (pv 5) (fun _ _ => rfl)) (pv 11)))))))))))
      (pss_one (ps_ret (pv 3))))))), ?_⟩
    have hn := ha.n10
    have hm15 := ha.m15
    have hrl := ha.len
    have rget : ∀ {j : Nat}, j < W.length → ∃ r, (rs.map V.ref)[j]? = some (V.ref r) ∧ rs[j]? = some r := fun {j} hj => by
      have h : j < rs.length := by omega
      exact ⟨rs[j], by rw [List.getElem?_map, List.getElem?_eq_getElem h]; rfl, List.getElem?_eq_getElem h⟩
    refine ⟨_, rfl, a, _, 0, _, rfl, rfl, SqT.of ha.w, atI_nat (j := 0) rfl, (n : Int), rfl, .of_le (by omega) (by omega) (by omega) (by omega), fun lh hlh => ?_⟩
    have x1 := Ex.new (o := .lst (rgV 0 (n : Int))) hlh
    refine ⟨Nat.zero_le _, fun lt hlt => ?_⟩
    have x2 := Ex.new (o := .lst []) hlt
    refine ⟨Nat.zero_le _, fun lf hlf => ?_⟩
    have x3 := Ex.new (o := .lst []) hlf
    have x := (x1.trans x2).trans x3
    have n_tf : lt ≠ lf := ne_of_none upd_same hlf
    have n_ht : lh ≠ lt := ne_of_none upd_same hlt
    have n_hf : lh ≠ lf := ne_of_none (x2 _ _ upd_same) hlf
    have nt0 : H lt = none := x1.back hlt
    have nf0 : H lf = none := (x1.trans x2).back hlf
    have erg : rgV 0 (n : Int) = (List.range n).map nV := by
      unfold rgV
      rw [Int.sub_zero, Int.toNat_natCast]
      refine List.map_congr_left fun i _ => ?_
      rw [Int.zero_add]
      rfl
    have ha3 := ha.mono x
    refine ⟨_, rfl, a, _, 1, _, rfl, rfl, SqT.of ha3.w, atI_nat (j := 1) rfl, ta, _, rfl, .inr (SqT.of ha3.t), _, rfl, by rw [List.length_map]; omega, by rw [List.length_map]; omega, ?_⟩
    refine for_range (lo := 0) (n := (((rs.map V.ref).length : Nat) : Int).toNat) (fun k σ H' => ∃ (lh : Addr) (heaps tree : List Nat) (found : List (List Int)) (o4 o5 o6 o7 o8 o9 o10 o11 o12 : Option V), σ = [some (.ref a), some (.ref lh), some (.ref lt), some (.ref lf), o4, o5, o6, o7, o8, o9, o10, o11, o12] ∧ lh ≠ lt ∧ lh ≠ lf ∧ found.length ≤ k ∧ RG H H' lh lt lf n W k heaps tree found)
      ⟨lh, List.range n, [], [], none, none, none, none, none, none, none, none, none, rfl, n_ht, n_hf, Nat.le_refl _, x, ?_, x3 _ _ upd_same, ⟨[], upd_same, rfl, fun i q r h => by simp at h⟩, KM.gi_start n W⟩ ?_ ?_
    · rw [← erg]
      exact x3 _ _ (x2 _ _ upd_same)
    · rintro k σ H1 hk ⟨lh, heaps, tree, found, o4, o5, o6, o7, o8, o9, o10, o11, o12, rfl, n_ht, n_hf, hfk, g⟩
      have hkw : k < W.length := by simp at hk; omega
      have zk : V.int (0 + (k : Int)) = nV k := by rw [Int.zero_add]; rfl
      rw [zk]
      have ha1 := ha.mono g.ex
      obtain ⟨rk, hrk1, hrk2⟩ := rget hkw
      have hsk := ha.good.src hkw
      have hdk := ha.good.dst hkw
      have hgl := g.gi.len
      have htl : tree.length ≤ k := KM.nodup_le g.gi.tnd g.gi.tlt
      refine ⟨_, rfl, a, _, 1, _, rfl, rfl, SqT.of ha1.w, atI_nat (j := 1) rfl, _, rfl, ta, _, (k : Int), _, rfl, rfl, SqT.of ha1.t, atI_nat hrk1, rk, _, rfl, SqT.of (ha1.a k rk hrk2), rfl, _, _, rfl, _, _, rfl, rfl, ?_⟩
      refine ⟨_, rfl, _, rfl, lh, _, (src W k : Int), _, rfl, rfl, SqL.of g.hh, atI_nat (nat_get (by omega)), _, rfl, _, rfl, lh, _, (dst W k : Int), _, rfl, rfl, SqL.of g.hh, atI_nat (nat_get (by omega)), rfl, _, rfl, ?_⟩
      rw [nV_eq]
      refine ite2 (fun heq => ?_) (fun hne => ?_)
      · have heq2 : hp0 heaps (src W k) = hp0 heaps (dst W k) := of_decide_eq_true heq
        refine ⟨_, rfl, a, _, 0, _, rfl, rfl, SqT.of ha1.w, atI_nat (j := 0) rfl, _, rfl, lt, rfl, ⟨_, SqL.of g.ht⟩, fun D hD => ?_⟩
        have tg : ∀ i, i < tree.length → tree.getD i 0 < W.length := fun i hi => by
          have e : tree.getD i 0 = tree[i] := by simp [List.getD_eq_getElem?_getD, hi]
          have := g.gi.tlt _ (List.getElem_mem hi)
          omega
        refine lc_list (K := K) (a := lt) (xs := tree.map nV) (Cw H1 (upto fun i => .ref (rs.getD (tree.getD i 0) 0)) D) (Cw.start hD rfl) (fun i H' _ c => SqL.of (c.ex _ _ g.ht)) (fun i y H' hy c => ?_) (fun H2 c => ?_)
        · have hi : i < tree.length := by
            have := (List.getElem?_eq_some_iff.mp hy).1
            simpa using this
          have ey : y = nV (tree.getD i 0) := Option.some.inj (hy.symm.trans (nat_get hi))
          subst ey
          obtain ⟨rj, hrj1, hrj2⟩ := rget (tg i hi)
          have er : rj = rs.getD (tree.getD i 0) 0 := by rw [List.getD_eq_getElem?_getD (l := rs), hrj2]; rfl
          have ha' := ha1.mono c.ex
          refine ⟨rfl, _, rfl, a, _, 1, _, rfl, rfl, SqT.of ha'.w, atI_nat (j := 1) rfl, _, rfl, ta, _, ((tree.getD i 0 : Nat) : Int), _, rfl, rfl, SqT.of ha'.t, atI_nat hrj1, ?_⟩
          rw [er]
          exact c.put (Ex.refl _) (upto_succ _ _) (by rw [upto_len]; omega)
        · have ha2 := ha1.mono c.ex
          refine ⟨_, rfl, a, _, 1, _, rfl, rfl, SqT.of ha2.w, atI_nat (j := 1) rfl, _, rfl, ta, _, (k : Int), _, rfl, rfl, SqT.of ha2.t, atI_nat hrk1, by show 1 ≤ sizeLine; decide, fun u hu => ?_⟩
          have y1 := Ex.new (o := .lst [V.ref rk]) hu
          refine ⟨D, u, _, _, rfl, rfl, y1 _ _ c.at_, upd_same, sz_of (by rw [upto_len]; simp; omega), fun p1 hp1 => ?_⟩
          have y2 := y1.trans (Ex.new (o := .lst (upto (fun i => .ref (rs.getD (tree.getD i 0) 0)) (tree.map nV).length ++ [V.ref rk])) hp1)
          refine ⟨p1, _, rfl, .inl ⟨SqL.of upd_same, fun tb htb => ?_⟩⟩
          have y3 := y2.trans (Ex.new (o := .tup (upto (fun i => .ref (rs.getD (tree.getD i 0) 0)) (tree.map nV).length ++ [V.ref rk])) htb)
          refine ⟨by show 2 ≤ sizeLine; decide, fun pa hpa => ?_⟩
          have y4 := y3.trans (Ex.new (o := .tup [V.int n, V.ref tb]) hpa)
          have y5 := c.ex.trans y4
          have g5 := g.go y5
          have ha5 := ha1.mono y5
          have hlist : upto (fun i => V.ref (rs.getD (tree.getD i 0) 0)) (tree.map nV).length ++ [V.ref rk] = (((List.range tree.length).map fun i => rs.getD (tree.getD i 0) 0) ++ [rk]).map V.ref := by
            rw [List.length_map, List.map_append]
            unfold upto
            rw [List.map_map]
            rfl
          have hpl : (KM.part W tree k).length = tree.length + 1 := by simp [KM.part]
          have hpg : Good n (KM.part W tree k) := fun e he => by
            unfold KM.part at he
            rcases List.mem_append.mp he with h | h
            · obtain ⟨j, hj, rfl⟩ := List.mem_map.mp h
              have := g.gi.tlt j hj
              exact ⟨ha.good.src (by omega), ha.good.dst (by omega)⟩
            · have : e = KM.arr W k := by simpa using h
              rw [this]
              exact ⟨hsk, hdk⟩
          have hp5 : WebAt (upd (upd (upd (upd H2 u (.lst [V.ref rk])) p1 (.lst (upto (fun i => .ref (rs.getD (tree.getD i 0) 0)) (tree.map nV).length ++ [V.ref rk]))) tb (.tup (upto (fun i => .ref (rs.getD (tree.getD i 0) 0)) (tree.map nV).length ++ [V.ref rk]))) pa (.tup [V.int n, V.ref tb])) pa n (KM.part W tree k) tb (((List.range tree.length).map fun i => rs.getD (tree.getD i 0) 0) ++ [rk]) := by
            refine ⟨upd_same, ?_, by rw [hpl]; simp, fun i r hr' => ?_, ha.n1, ha.n10, by omega, hpg⟩
            · rw [upd_ne (ne_of_none upd_same hpa), upd_same, hlist]
            · rcases get_last hr' with ⟨hi, h⟩ | ⟨hi, rfl⟩
              · have hi2 : i < tree.length := by simpa using hi
                have hp := KM.part_at (E := W) (tree := tree) (k := k) (a := i) (by omega)
                have hph : phi tree k i = tree.getD i 0 := by unfold phi; rw [if_neg (by omega)]
                rw [hp.1, hp.2, hph]
                obtain ⟨rj, hrj1, hrj2⟩ := rget (tg i hi2)
                have er : r = rj := by
                  have e1 : r = rs.getD (tree.getD i 0) 0 := by
                    rw [List.getElem?_map, List.getElem?_range hi2] at h
                    exact (Option.some.inj h).symm
                  rw [e1, List.getD_eq_getElem?_getD (l := rs), hrj2]
                  rfl
                rw [er]
                exact ha5.a _ rj hrj2
              · have hi2 : i = tree.length := by simpa using hi
                have hp := KM.part_at (E := W) (tree := tree) (k := k) (a := i) (by omega)
                have hph : phi tree k i = k := by unfold phi; rw [if_pos hi2]
                rw [hp.1, hp.2, hph]
                exact ha5.a k _ hrk2
          revert g5 ha5 hp5
          generalize upd (upd (upd (upd H2 u (.lst [V.ref rk])) p1 (.lst (upto (fun i => .ref (rs.getD (tree.getD i 0) 0)) (tree.map nV).length ++ [V.ref rk]))) tb (.tup (upto (fun i => .ref (rs.getD (tree.getD i 0) 0)) (tree.map nV).length ++ [V.ref rk]))) pa (.tup [V.int n, V.ref tb]) = H5
          intro g5 ha5 hp5
          refine ⟨by show 1 ≤ sizeLine; decide, fun z hz => ?_⟩
          have e0 := Ex.new (o := .lst [V.int 0]) hz
          have ha6 := ha5.mono e0
          refine ⟨_, rfl, a, _, 1, _, rfl, rfl, SqT.of ha6.w, atI_nat (j := 1) rfl, ta, _, rfl, .inr (SqT.of ha6.t), z, _, _, rfl, rfl, upd_same, by omega, by rw [List.length_map]; omega, sz_of (by simp; omega), fun lr hlr => ?_⟩
          have e1 := e0.trans (Ex.new (o := .lst (List.replicate (((rs.map V.ref).length : Nat) : Int).toNat [V.int 0]).flatten) hlr)
          have g7 := g5.go e1
          have hp7 := hp5.mono e1
          have hlr0 : (upd (upd H5 z (.lst [V.int 0])) lr (.lst (List.replicate (((rs.map V.ref).length : Nat) : Int).toNat [V.int 0]).flatten)) lr = some (.lst ((List.replicate W.length (0 : Int)).map V.int)) := by
            rw [upd_same]
            simp [hrl]
          have nlr5 := e0.back hlr
          have n_lr_t : lr ≠ lt := (ne_of_none g5.ht nlr5).symm
          have n_lr_f : lr ≠ lf := by
            obtain ⟨qs, h1, _⟩ := g5.hf
            exact (ne_of_none h1 nlr5).symm
          have n_lr_h : lr ≠ lh := (ne_of_none g5.hh nlr5).symm
          have nlr1 : H lr = none := g5.ex.back nlr5
          refine ⟨_, rfl, _, rfl, lt, _, rfl, .inl (SqL.of g7.ht), pa, n, KM.part W tree k, tb, _, tree.length, by rw [List.length_map]; rfl, hp7, by omega, fun p H8 R e8 hst hR => ?_⟩
          have g8 := g7.go e8
          have hL8 := e8 _ _ hlr0
          obtain ⟨qs, s1, s2, s3⟩ := hst
          have hpos : 0 < W.length := by omega
          have nplr : p ≠ lr := two_lists s1 hL8 (fun z => by
            have : (List.replicate W.length (0 : Int)).length = 0 := by rw [z]; rfl
            rw [List.length_replicate] at this
            omega)
          refine ⟨p, rfl, ⟨_, SqL.of s1⟩, for_list (K := K) (a := p) (xs := qs.map V.ref) (fun i σ H' => ∃ (r : List Int) (o9 o10 : Option V), σ = [some (.ref a), some (.ref lh), some (.ref lt), some (.ref lf), some (nV k), some (nV (src W k)), some (nV (dst W k)), some (.ref pa), some (.ref lr), o9, o10, o11, o12] ∧ H' lr = some (.lst (r.map V.int)) ∧ AI W.length (phi tree k) R i r ∧ Ex H H' ∧ Ex (off [lr] H8) (off [lr] H'))
            ⟨List.replicate W.length 0, _, _, rfl, hL8, KM.ai_start _ _ _, g8.ex, Ex.refl _⟩ ?_ ?_ ?_⟩
          · rintro i σ H' _ ⟨_, _, _, _, _, _, _, e⟩
            exact SqL.of (off_le _ _ (e _ _ (off_of s1 (by simp [nplr]))))
          · rintro i y σ H' hy ⟨r, o9, o10, rfl, hL', hA, ex', eo⟩
            obtain ⟨qq, hq1, rfl⟩ := refs_at hy
            obtain ⟨aa, ss, hr1, hr2⟩ := s3 i qq hq1
            have nq : qq ≠ lr := ne_of hr2 hL8 (fun z => by cases z)
            have hr2' := off_le _ _ (eo _ _ (off_of hr2 (by simp [nq])))
            have ht' := off_le _ _ (eo _ _ (off_of g8.ht (by simp [n_lr_t.symm])))
            have hmem : (aa, ss) ∈ R := List.mem_of_getElem? hr1
            have haa : aa < tree.length + 1 := by
              have : aa < (KM.part W tree k).length := hR.ok.lt _ hmem
              omega
            have hphi : phi tree k aa < W.length := by
              unfold phi
              split
              · exact hkw
              · exact tg aa (by omega)
            have hinj : ∀ y ∈ R, phi tree k y.1 = phi tree k aa → y.1 = aa := fun y hy e => by
              have hy1 : y.1 < tree.length + 1 := by
                have : y.1 < (KM.part W tree k).length := hR.ok.lt _ hy
                omega
              unfold phi at e
              by_cases c1 : y.1 = tree.length
              · by_cases c2 : aa = tree.length
                · omega
                · rw [if_pos c1, if_neg c2] at e
                  have hl2 : aa < tree.length := by omega
                  have e2 : tree.getD aa 0 = tree[aa] := by simp [List.getD_eq_getElem?_getD, hl2]
                  have := g.gi.tlt _ (List.getElem_mem hl2)
                  omega
              · by_cases c2 : aa = tree.length
                · rw [if_neg c1, if_pos c2] at e
                  have hl2 : y.1 < tree.length := by omega
                  have e2 : tree.getD y.1 0 = tree[y.1] := by simp [List.getD_eq_getElem?_getD, hl2]
                  have := g.gi.tlt _ (List.getElem_mem hl2)
                  omega
                · rw [if_neg c1, if_neg c2] at e
                  have hl1 : y.1 < tree.length := by omega
                  have hl2 : aa < tree.length := by omega
                  have e1 : tree[y.1] = tree[aa] := by simpa [List.getD_eq_getElem?_getD, hl1, hl2] using e
                  exact (List.getElem_inj g.gi.tnd).mp e1
            have done : ∀ (o9 o10 : Option V), ∃ (r' : List Int) (o9' o10' : Option V), [some (V.ref a), some (.ref lh), some (.ref lt), some (.ref lf), some (nV k), some (nV (src W k)), some (nV (dst W k)), some (.ref pa), some (.ref lr), o9, o10, o11, o12] = [some (.ref a), some (.ref lh), some (.ref lt), some (.ref lf), some (nV k), some (nV (src W k)), some (nV (dst W k)), some (.ref pa), some (.ref lr), o9', o10', o11, o12] ∧ (upd H' lr (.lst ((r.set (phi tree k aa) ss).map V.int))) lr = some (.lst (r'.map V.int)) ∧ AI W.length (phi tree k) R (i + 1) r' ∧ Ex H (upd H' lr (.lst ((r.set (phi tree k aa) ss).map V.int))) ∧ Ex (off [lr] H8) (off [lr] (upd H' lr (.lst ((r.set (phi tree k aa) ss).map V.int)))) := fun o9 o10 =>
              ⟨_, _, _, rfl, upd_same, hA.step hr1 (hR.ok.sg _ hmem) hR.ok.sg hR.ok.nd hphi hinj, ex'.mut nlr1, by rw [off_upd (by simp)]; exact eo⟩
            refine ⟨qq, _, rfl, SqT.of hr2', rfl, _, _, rfl, _, _, rfl, rfl, ?_⟩
            refine ⟨_, rfl, _, rfl, _, rfl, _, rfl, lt, _, rfl, .inl (SqL.of ht'), rfl, _, rfl, ?_⟩
            have hdec : decide (nV aa = V.int ((tree.map nV).length : Int)) = decide (aa = tree.length) := by
              rw [List.length_map]
              exact nV_eq aa tree.length
            rw [hdec]
            by_cases hc : aa = tree.length
            · rw [decide_eq_true hc]
              have hphk : phi tree k aa = k := by unfold phi; rw [if_pos hc]
              rw [hphk] at done hphi
              refine iteT ⟨_, rfl, lr, _, (k : Int), k, rfl, rfl, hL', ixN_nat (by rw [List.length_map, hA.len]; exact hkw), ?_⟩
              rw [map_set_int]
              exact done _ _
            · rw [decide_eq_false hc]
              have haa2 : aa < tree.length := by omega
              have hphk : phi tree k aa = tree.getD aa 0 := by unfold phi; rw [if_neg hc]
              rw [hphk] at done hphi
              refine iteF ⟨_, rfl, _, rfl, lt, _, (aa : Int), _, rfl, rfl, SqL.of ht', atI_nat (nat_get haa2), lr, _, ((tree.getD aa 0 : Nat) : Int), tree.getD aa 0, rfl, rfl, hL', ixN_nat (by rw [List.length_map, hA.len]; exact hphi), ?_⟩
              rw [map_set_int]
              exact done _ _
          · rintro σ H' ⟨r, o9, o10, rfl, hL', hA, ex', eo⟩
            rw [List.length_map, s2] at hA
            obtain ⟨fs, f1, f2, f3⟩ := g5.hf
            have e58 := e1.trans e8
            have f1' := off_le _ _ (eo _ _ (off_of (e58 _ _ f1) (by simp [n_lr_f.symm])))
            have ht' := off_le _ _ (eo _ _ (off_of g8.ht (by simp [n_lr_t.symm])))
            have hh' := off_le _ _ (eo _ _ (off_of g8.hh (by simp [n_lr_h.symm])))
            have hsz : fs.length < 100000 := by omega
            refine ⟨_, rfl, .inl ⟨rfl, _, SqL.of f1'⟩, _, rfl, lf, _, _, rfl, rfl, f1', sz_lt (by rw [List.length_map]; exact hsz), ?_⟩
            refine ⟨lh, heaps, tree, found ++ [r], _, _, _, _, _, _, _, _, _, rfl, n_ht, n_hf, by simp; omega, ex'.mut nf0, by rw [upd_ne n_hf]; exact hh', by rw [upd_ne n_tf]; exact ht', ⟨fs ++ [lr], by rw [upd_same, List.map_append]; rfl, by simp [f2], fun i q v h1 h2 => ?_⟩, g.gi.ring ha.good hkw heq2 hR hA⟩
            rw [off_upd (by simp)]
            rcases get_last h1 with ⟨hi, h1⟩ | ⟨hi, rfl⟩
            · rcases get_last h2 with ⟨_, h2⟩ | ⟨hi2, _⟩
              · have h3 := f3 i q v h1 h2
                obtain ⟨h4, h5⟩ := off_get h3.2
                have nq : q ≠ lr := ne_of_none h4 nlr5
                refine ⟨h3.1, ?_⟩
                exact off_of (off_le _ _ (eo _ _ (off_of (e58 _ _ h4) (by simp [nq])))) h5
              · omega
            · rcases get_last h2 with ⟨hi2, _⟩ | ⟨_, rfl⟩
              · omega
              · exact ⟨nlr1, off_of hL' (by simp [n_lr_t, n_lr_f])⟩
      · have hne2 : hp0 heaps (src W k) ≠ hp0 heaps (dst W k) := fun z => hne (decide_eq_true z)
        refine ⟨_, rfl, .inl ⟨rfl, _, SqL.of g.ht⟩, _, rfl, lt, _, _, rfl, rfl, g.ht, sz_lt (by rw [List.length_map]; omega), ?_⟩
        have hh2 : (upd H1 lt (.lst (tree.map nV ++ [nV k]))) lh = some (.lst (heaps.map nV)) := by rw [upd_ne n_ht]; exact g.hh
        obtain ⟨fs, f1, f2, f3⟩ := g.hf
        refine ⟨_, rfl, lh, rfl, ⟨_, SqL.of hh2⟩, fun D hD => ?_⟩
        refine lc_list (K := K) (a := lh) (xs := heaps.map nV) (Cw (upd H1 lt (.lst (tree.map nV ++ [nV k]))) (upto fun i => nV (if heaps.getD i 0 = hp0 heaps (dst W k) then hp0 heaps (src W k) else heaps.getD i 0)) D) (Cw.start hD rfl) (fun i H' _ c => SqL.of (c.ex _ _ hh2)) (fun i y H' hy c => ?_) (fun H2 c => ?_)
        · have hi : i < heaps.length := by
            have := (List.getElem?_eq_some_iff.mp hy).1
            simpa using this
          have ey : y = nV (heaps.getD i 0) := Option.some.inj (hy.symm.trans (nat_get hi))
          subst ey
          have hh3 := c.ex _ _ hh2
          refine ⟨rfl, _, rfl, _, rfl, _, rfl, lh, _, (dst W k : Int), _, rfl, rfl, SqL.of hh3, atI_nat (nat_get (by omega)), rfl, _, rfl, ?_⟩
          rw [nV_eq]
          by_cases hc : heaps.getD i 0 = hp0 heaps (dst W k)
          · have hc' : heaps.getD i 0 = heaps.getD (dst W k) 0 := hc
            rw [decide_eq_true hc']
            refine iteT ⟨_, rfl, _, rfl, lh, _, (src W k : Int), _, rfl, rfl, SqL.of hh3, atI_nat (nat_get (by omega)), c.put (Ex.refl _) ?_ (by rw [upto_len]; omega)⟩
            rw [upto_succ, if_pos hc]
            rfl
          · have hc' : ¬ heaps.getD i 0 = heaps.getD (dst W k) 0 := hc
            rw [decide_eq_false hc']
            refine iteF ⟨_, rfl, c.put (Ex.refl _) ?_ (by rw [upto_len]; omega)⟩
            rw [upto_succ, if_neg hc]
        · have nD_t : D ≠ lt := (ne_of_none upd_same hD).symm
          have hlf1 : (upd H1 lt (.lst (tree.map nV ++ [nV k]))) lf = some (.lst (fs.map V.ref)) := by rw [upd_ne n_tf.symm]; exact f1
          have nD_f : D ≠ lf := (ne_of_none hlf1 hD).symm
          refine ⟨D, _, tree ++ [k], found, _, _, _, _, _, _, _, _, _, rfl, nD_t, nD_f, by omega, (g.ex.mut nt0).trans c.ex, ?_, ?_, ⟨fs, c.ex _ _ hlf1, f2, fun i q v h1 h2 => ?_⟩, g.gi.join ha.good hkw hne2⟩
          · rw [c.at_, List.length_map]
            unfold upto
            rw [List.map_map]
            congr 2
            refine List.ext_getElem (by simp) fun i h1 h2 => ?_
            have hi : i < heaps.length := by simpa using h1
            simp [List.getD_eq_getElem?_getD, hi]
          · rw [c.ex _ _ upd_same, List.map_append]
            rfl
          · have := off_ex (L := [lt, lf]) c.ex
            rw [off_upd (by simp)] at this
            exact ⟨(f3 i q v h1 h2).1, this _ _ (f3 i q v h1 h2).2⟩
    · rintro σ H' ⟨lh, heaps, tree, found, o4, o5, o6, o7, o8, o9, o10, o11, o12, rfl, n_ht, n_hf, hfk, g⟩
      obtain ⟨fs, f1, f2, f3⟩ := g.hf
      have gg := g.gi
      rw [List.length_map, Int.toNat_natCast, hrl] at gg
      exact ⟨_, rfl, q lf H' heaps tree found g.ex nf0 ⟨fs, f1, f2, fun i q v h1 h2 => ⟨(f3 i q v h1 h2).1, (off_get (f3 i q v h1 h2).2).1⟩⟩ gg (by rw [List.length_map, Int.toNat_natCast, hrl] at hfk; exact hfk)⟩
end
end KW
namespace KW
open PySem PySem.Spec PyProof.Rows L2 KR RZ
open KM (Web src dst Good at0 exc pull RingSpec dot pd dlt IsFlow IsPull)
theorem pull_small {W : Web} {g : Nat → Int} (h : ∀ p, 0 ≤ g p ∧ g p ≤ 1) (k : Nat) : -1 ≤ at0 (pull W g) k ∧ at0 (pull W g) k ≤ 1 := by
  by_cases hk : k < W.length
  · rw [KM.pull_at hk]
    unfold pd
    have h1 := h (dst W k)
    have h2 := h (src W k)
    omega
  · have e : at0 (pull W g) k = 0 := by
      unfold at0
      rw [List.getD_eq_getElem?_getD, List.getElem?_eq_none (by rw [KM.pull_length]; omega)]
      rfl
    rw [e]
    omega
theorem dlt_small (j p : Nat) : 0 ≤ dlt j p ∧ dlt j p ≤ 1 := by
  unfold dlt
  split <;> omega
theorem ind_small (lot : List Int) (p : Nat) : 0 ≤ ind lot p ∧ ind lot p ≤ 1 := by
  unfold ind
  split <;> omega
theorem cmul_l {i j : Int} (h : -1 ≤ i ∧ i ≤ 1) : CMul i j := .inl ⟨by omega, by omega⟩
theorem cmul_r {i j : Int} (h : -135 ≤ j ∧ j ≤ 135) : CMul i j := .inr ⟨by omega, by omega⟩
theorem ind_one (x p : Nat) : ind [(x : Int)] p = dlt x p := by
  unfold ind dlt
  by_cases h : p = x
  · rw [if_pos h, if_pos (by simp [h])]
  · rw [if_neg h, if_neg (by simp; omega)]
theorem lot_one {n x : Nat} (h : x < n) : IsLot (n : Int) [(x : Int)] :=
  ⟨fun y hy => by
    have : y = (x : Int) := by simpa using hy
    omega, fun k hk => by simp at hk, by simp⟩
/-- a lot as it is made -/
structure Asc (i : Nat) (ns : List Int) : Prop where
  lo : ∀ x ∈ ns, 0 ≤ x ∧ x < (i : Int)
  up : ∀ k, k + 1 < ns.length → at0 ns k < at0 ns (k + 1)
  few : ns.length ≤ i
theorem asc_nil : Asc 0 [] := ⟨fun x h => by simp at h, fun k h => by simp at h, Nat.le_refl _⟩
theorem Asc.skip {i : Nat} {ns : List Int} (a : Asc i ns) : Asc (i + 1) ns := ⟨fun x h => by have := a.lo x h; omega, a.up, by have := a.few; omega⟩
theorem at0_app_lt {ns : List Int} {z : Int} {k : Nat} (h : k < ns.length) : at0 (ns ++ [z]) k = at0 ns k := by
  simp [at0, List.getD_eq_getElem?_getD, List.getElem?_append_left h]
theorem at0_app_eq {ns : List Int} {z : Int} : at0 (ns ++ [z]) ns.length = z := by
  simp [at0, List.getD_eq_getElem?_getD]
theorem at0_mem {ns : List Int} {k : Nat} (h : k < ns.length) : at0 ns k ∈ ns := by
  have e : at0 ns k = ns[k] := by simp [at0, List.getD_eq_getElem?_getD, h]
  rw [e]
  exact List.getElem_mem h
theorem Asc.put {i : Nat} {ns : List Int} (a : Asc i ns) : Asc (i + 1) (ns ++ [(i : Int)]) := by
  refine ⟨fun x hx => ?_, fun k hk => ?_, by have := a.few; simp; omega⟩
  · rcases List.mem_append.mp hx with h | h
    · have := a.lo x h
      omega
    · have : x = (i : Int) := by simpa using h
      omega
  · rw [List.length_append] at hk
    simp at hk
    by_cases e : k + 1 = ns.length
    · rw [at0_app_lt (by omega), e, at0_app_eq]
      exact (a.lo _ (at0_mem (by omega))).2
    · rw [at0_app_lt (by omega), at0_app_lt (by omega)]
      exact a.up k (by omega)
theorem Asc.lot {n : Nat} {ns : List Int} (a : Asc n ns) (h : n ≤ 10) : IsLot (n : Int) ns := ⟨fun x hx => by have := a.lo x hx; omega, a.up, by have := a.few; omega⟩
/-- the pull of summed heights -/
theorem pull_sum {W : Web} {n : Nat} (g : Good n W) {hs os : List Int} {t : Int} (hl : hs.length = n) (ol : os.length = n) :
    pull W (at0 ((List.range n).map fun x => at0 hs x + t * at0 os x)) = (List.range W.length).map fun k => at0 (pull W (at0 hs)) k + t * at0 (pull W (at0 os)) k := by
  refine KM.list_at (by rw [KM.pull_length]; simp) fun k hk => ?_
  rw [KM.pull_length] at hk
  have e : ∀ p, p < n → at0 ((List.range n).map fun x => at0 hs x + t * at0 os x) p = at0 hs p + t * at0 os p := fun p hp => by
    simp [at0, List.getD_eq_getElem?_getD, hp]
  have e2 : at0 ((List.range W.length).map fun k => at0 (pull W (at0 hs)) k + t * at0 (pull W (at0 os)) k) k = at0 (pull W (at0 hs)) k + t * at0 (pull W (at0 os)) k := by
    simp [at0, List.getD_eq_getElem?_getD, hk]
  rw [e2, KM.pull_at hk, KM.pull_at hk, KM.pull_at hk]
  unfold pd
  rw [e _ (g.src hk), e _ (g.dst hk), Int.mul_sub]
  omega
theorem at0_rep (n : Nat) (z : Int) {p : Nat} (h : p < n) : at0 (List.replicate n z) p = z := by
  simp [at0, List.getD_eq_getElem?_getD, h]
theorem pull_level {W : Web} {n : Nat} (g : Good n W) (z : Int) : pull W (at0 (List.replicate n z)) = List.replicate W.length 0 := by
  refine KM.list_at (by rw [KM.pull_length]; simp) fun k hk => ?_
  rw [KM.pull_length] at hk
  rw [KM.pull_at hk, KM.at0_zero]
  unfold pd
  rw [at0_rep n z (g.src hk), at0_rep n z (g.dst hk)]
  omega
theorem pull_rest {W : Web} {n : Nat} (g : Good n W) {lot rest : List Int} (h : ∀ p : Nat, p < n → ((p : Int) ∈ rest ↔ ¬ (p : Int) ∈ lot)) : pull W (ind rest) = (pull W (ind lot)).map fun x => -x := by
  refine KM.list_at (by rw [KM.pull_length, List.length_map, KM.pull_length]) fun k hk => ?_
  rw [KM.pull_length] at hk
  have e2 : at0 ((pull W (ind lot)).map fun x => -x) k = - at0 (pull W (ind lot)) k := by
    have hk2 : k < (pull W (ind lot)).length := by rw [KM.pull_length]; exact hk
    simp [at0, List.getD_eq_getElem?_getD, hk2]
  rw [e2, KM.pull_at hk, KM.pull_at hk]
  have e : ∀ p, p < n → ind rest p = 1 - ind lot p := fun p hp => by
    unfold ind
    by_cases c : (p : Int) ∈ lot
    · rw [if_pos c, if_neg fun z => (h p hp).mp z c]
      omega
    · rw [if_neg c, if_pos ((h p hp).mpr c)]
      omega
  unfold pd
  rw [e _ (g.src hk), e _ (g.dst hk)]
  omega
theorem flat_rep (k : Nat) (z : V) : (List.replicate k [z]).flatten = List.replicate k z := by
  induction k with
  | zero => rfl
  | succ k ih => rw [List.replicate_succ, List.flatten_cons, ih, List.replicate_succ]; rfl
theorem Mx.lst {m a : Addr} {H H' : Hp} {xs : List V} (e : Mx m H H') (n : a ≠ m) (h : H a = some (.lst xs)) : H' a = some (.lst xs) := e.keep _ _ n h
/-- what stands in the law's heap while the values are asked -/
structure LF (m w : Addr) (n : Nat) (W : Web) (ta : Addr) (rs : List Addr) (p4 p5 p6 p7 p8 p9 p10 : Addr) (hs os fl lo : List Int) (q8 q9 : List Addr) (found : List (List Int)) (H : Hp) : Prop where
  mill : Mill H m
  web : WebAt H w n W ta rs
  h4 : H p4 = some (.tup (hs.map V.int))
  h5 : H p5 = some (.tup (os.map V.int))
  h6 : H p6 = some (.tup ((pull W (at0 hs)).map V.int))
  h7 : H p7 = some (.tup (fl.map V.int))
  h8 : H p8 = some (.lst (q8.map V.ref))
  n8 : p8 ≠ m
  l8 : q8.length = found.length
  v8 : ∀ (i : Nat) (q : Addr) (r : List Int), q8[i]? = some q → found[i]? = some r → q ≠ m ∧ H q = some (.lst (r.map V.int))
  h9 : H p9 = some (.lst (q9.map V.ref))
  n9 : p9 ≠ m
  l9 : q9.length = n
  v9 : ∀ (j : Nat) (q : Addr), q9[j]? = some q → H q = some (.tup ((pull W (dlt j)).map V.int))
  h10 : H p10 = some (.tup (lo.map V.int))
theorem LF.go {m w : Addr} {n : Nat} {W : Web} {ta : Addr} {rs : List Addr} {p4 p5 p6 p7 p8 p9 p10 : Addr} {hs os fl lo : List Int} {q8 q9 : List Addr} {found : List (List Int)} {H H' : Hp} (l : LF m w n W ta rs p4 p5 p6 p7 p8 p9 p10 hs os fl lo q8 q9 found H) (e : Mx m H H') :
    LF m w n W ta rs p4 p5 p6 p7 p8 p9 p10 hs os fl lo q8 q9 found H' :=
  ⟨e.mill, l.web.mx e l.mill, e.tup l.mill l.h4, e.tup l.mill l.h5, e.tup l.mill l.h6, e.tup l.mill l.h7, e.lst l.n8 l.h8, l.n8, l.l8, fun i q r h1 h2 => ⟨(l.v8 i q r h1 h2).1, e.lst (l.v8 i q r h1 h2).1 (l.v8 i q r h1 h2).2⟩,
    e.lst l.n9 l.h9, l.n9, l.l9, fun j q h => e.tup l.mill (l.v9 j q h), e.tup l.mill l.h10⟩
theorem LF.ex {m w : Addr} {n : Nat} {W : Web} {ta : Addr} {rs : List Addr} {p4 p5 p6 p7 p8 p9 p10 : Addr} {hs os fl lo : List Int} {q8 q9 : List Addr} {found : List (List Int)} {H H' : Hp} (l : LF m w n W ta rs p4 p5 p6 p7 p8 p9 p10 hs os fl lo q8 q9 found H) (e : Ex H H') :
    LF m w n W ta rs p4 p5 p6 p7 p8 p9 p10 hs os fl lo q8 q9 found H' := l.go (.of_ex l.mill e)
end KW
namespace KW
open PySem PySem.Spec PyProof.Rows L2 KR RZ
open KM (Web src dst Good at0 exc pull RingSpec dot pd dlt IsFlow IsPull GI)
section
variable {P : Program} {w : World} {K : PySem.W.Frag} {mg : Str → Option Value} {base : Heap} {f : Addr} {fd : FuncData} {t1 t2 t3 : Tok}
theorem big_of {x : Int} (h : -(10 ^ 48) ≤ x ∧ x ≤ 10 ^ 48) : -(10 ^ 60) ≤ x ∧ x ≤ 10 ^ 60 := by omega
theorem both_big {t h o : Int} (ht : -4 ≤ t ∧ t ≤ 4) (hh : -(10 ^ 48) ≤ h ∧ h ≤ 10 ^ 48) (ho : -(10 ^ 48) ≤ o ∧ o ≤ 10 ^ 48) : -(10 ^ 60) ≤ h + t * o ∧ h + t * o ≤ 10 ^ 60 := by
  have : t = -4 ∨ t = -3 ∨ t = -2 ∨ t = -1 ∨ t = 0 ∨ t = 1 ∨ t = 2 ∨ t = 3 ∨ t = 4 := by omega
  rcases this with e | e | e | e | e | e | e | e | e <;> rw [e] <;> omega
theorem upto_list (g : Nat → Int) (n : Nat) : upto (fun k => .int (g k)) n = ((List.range n).map g).map V.int := by
  unfold upto
  rw [List.map_map]
  rfl
def spLaw (K : PySem.W.Frag) : Sp := fun vs H Q _ => ∃ (a : Addr) (ns : List Int), vs = [.ref a] ∧ SqL K H a (ns.map V.int) ∧ ns.length ≤ 63 ∧ (∀ z ∈ ns, Builtin.Int.intBits z ≤ 1048576) ∧ ∀ H', Q (.bl true) H'
theorem ok_law (B : Bt mg) (D_mill : Def P w K mg base "_law_mill" P_mill 1 (spMill K)) (D_great : Def P w K mg base "_law_great" P_great 4 spGreat) (D_drawn : Def P w K mg base "_law_drawn_heights" P_drawn 2 spDrawn) (D_pull_of : Def P w K mg base "pull_of" P_pull_of 5 spPullOf)
    (D_some_flow : Def P w K mg base "_law_some_flow" P_some_flow 2 spSomeFlow) (D_sum : Def P w K mg base "_law_sum" P_sum 1 spSum) (D_is_flow : Def P w K mg base "is_flow" P_is_flow 5 spIsFlow) (D_rings : Def P w K mg base "_law_rings" P_rings 2 spRings) (D_lot_pull : Def P w K mg base "lot_pull" P_lot_pull 5 spLotPull)
    (D_grind : Def P w K mg base "_law_grind" P_grind 1 spGrind) (D_is_pull : Def P w K mg base "is_pull" P_is_pull 5 spIsPull) (D_heights_of : Def P w K mg base "heights_of" P_heights_of 5 spHeightsOf) (F : Fun K "law" "law" s_law f fd) : FnOk P w K mg base CX0 6 f fd P_law (spLaw K) := by
  refine F.ok sc_law (fun vs H Q E h => ?_) (fun cdv A outer s H vs Q E hr h => ?_)
  · obtain ⟨a, ns, rfl, _⟩ := h
    rfl
  · obtain ⟨sa, ns, rfl, hS, hl, hb, q⟩ := h
    have hu := hr.units
    refine ⟨_, (pss_cons (ps_set (i := 1) sc_law.nd rfl (.inr rfl) (pe_cd D_mill (hr.mono (by decide)) (by rfl) (pa_cons (pv 0) pa_nil)))
      (pss_cons (ps_set (i := 2) sc_law.nd rfl (.inr rfl) (pe_cd D_great (hr.mono (by decide)) (by rfl) (pa_cons (pv 1) pa_nil)))
      (pss_cons (ps_set (i := 3) sc_law.nd rfl (.inl rfl) (pe_ix (r := rIxT K) ix_tup (pv 2) pe_int (fun _ _ => rfl)))
      (pss_cons (ps_set (i := 4) sc_law.nd rfl (.inr rfl) (pe_cd D_drawn (hr.mono (by decide)) (by rfl) (pa_cons (pv 1) (pa_cons (pv 3) pa_nil))))
      (pss_cons (ps_set (i := 5) sc_law.nd rfl (.inr rfl) (pe_cd D_drawn (hr.mono (by decide)) (by rfl) (pa_cons (pv 1) (pa_cons (pv 3) pa_nil))))
      (pss_cons (ps_set (i := 6) sc_law.nd rfl (.inr rfl) (pe_cd D_pull_of (hr.mono (by decide)) (by rfl) (pa_cons (pv 2) (pa_cons (pv 4) pa_nil))))
      (pss_cons (ps_set (i := 7) sc_law.nd rfl (.inr rfl) (pe_callTy call_tuple_of (by rfl) B.tuple (by decide +kernel) (pa_cons (pe_cd D_some_flow (hr.mono (by decide)) (by rfl) (pa_cons (pv 1) (pa_cons (pv 2) pa_nil))) pa_nil)))
      (pss_cons (ps_if (PW.pt (pw_or (pt_cmpR op_notBl (pe_cd D_is_flow (hr.mono (by decide)) (by rfl) (pa_cons (pv 2) (pa_cons (pv 7) pa_nil))) pe_bl (nomark _)) (pw_or1 (pt_cmpR op_ne (pe_cd D_sum (hr.mono (by decide)) (by rfl) (pa_cons (pv 6) (pa_cons (pv 7) pa_nil))) pe_int (nomark _)))))
        (pss_one (ps_ret pe_bl))
        pss_nil)
      (pss_cons (ps_set (i := 8) sc_law.nd rfl (.inl rfl) (pe_cd D_rings (hr.mono (by decide)) (by rfl) (pa_cons (pv 2) pa_nil)))
      (pss_cons (ps_setLc (own := [(("_law_x" : Str), 19)]) (g := (gName 19)) (i := 9) rfl sc_law.nd rfl rfl (sw_true rfl rfl rfl (by decide +kernel)) (pi_range1 (by rfl) B.range (pa_cons (pv 3) pa_nil)) (blkOk_by (own := [(("_law_x" : Str), 19)]) (N := N_law) (sc := defScope s_law) (by decide +kernel)) (fun _ _ _ _ _ => (pg_name (i := 19) sc_law.nd rfl (.inl rfl))) (fun _ _ _ _ _ => pts_nil) (fun _ _ _ _ _ => (pe_cd D_lot_pull (hr.mono (by decide)) (by rfl) (pa_cons (pv 2) (pa_cons (pe_tup (pa_cons (pv 19) pa_nil)) pa_nil)))))
      (pss_cons (ps_set (i := 10) sc_law.nd rfl (.inl rfl) (pe_callTy call_tuple_of (by rfl) B.tuple (by decide +kernel) (pa_cons (pe_lc (own := [(("_law_ends" : Str), 20)]) (g := (gName 20)) rfl sc_law.nd (pi_tup (pe_ix (r := rIxT K) ix_tup (pv 2) pe_int (fun _ _ => rfl))) (blkOk_by (own := [(("_law_ends" : Str), 20)]) (N := N_law) (sc := defScope s_law) (by decide +kernel)) (fun _ _ _ _ _ => (pg_name (i := 20) sc_law.nd rfl (.inl rfl))) (fun _ _ _ _ _ => pts_nil) (fun _ _ _ _ _ => (pe_op op_sub (pe_cd D_grind (hr.mono (by decide)) (by rfl) (pa_cons (pv 1) (pa_cons pe_int pa_nil))) pe_int))) pa_nil)))
      (pss_cons (ps_for PassesOwn.never rfl (pi_list (pe_lst (pa_cons (pv 6) (pa_cons (pv 7) (pa_cons (pv 10) (pa_cons (pe_callTy call_tuple_of (by rfl) B.tuple (by decide +kernel) (pa_cons (pe_lc (own := [(("_law_k" : Str), 21)]) (g := (gName 21)) rfl sc_law.nd (pi_range1 (by rfl) B.range (pa_cons (pe_callB call_len_seq (by rfl) B.len (by decide +kernel) (pa_cons (pv 7) pa_nil)) pa_nil)) (blkOk_by (own := [(("_law_k" : Str), 21)]) (N := N_law) (sc := defScope s_law) (by decide +kernel)) (fun _ _ _ _ _ => (pg_name (i := 21) sc_law.nd rfl (.inl rfl))) (fun _ _ _ _ _ => pts_nil) (fun _ _ _ _ _ => (pe_op op_add (pe_ix (r := rIxT K) ix_tup (pv 7) (pv 21) (fun _ _ => rfl)) (pe_callTy call_int1 (by rfl) B.int (by decide +kernel) (pa_cons (pe_cmpR op_eq (pv 21) pe_int (nomark _)) pa_nil))))) pa_nil)) pa_nil)))))) (pg_name (i := 11) sc_law.nd rfl (.inr rfl))
        (pss_cons (ps_set (i := 12) sc_law.nd rfl (.inl rfl) (pe_cmpR (op_eqD hu) (pe_lc (own := [(("_law_one" : Str), 22)]) (g := (gName 22)) rfl sc_law.nd (pi_list (pv 9)) (blkOk_by (own := [(("_law_one" : Str), 22)]) (N := N_law) (sc := defScope s_law) (by decide +kernel)) (fun _ _ _ _ _ => (pg_name (i := 22) sc_law.nd rfl (.inl rfl))) (fun _ _ _ _ _ => (pts_one (pt_cmpR op_ne (pe_cd D_sum (hr.mono (by decide)) (by rfl) (pa_cons (pv 22) (pa_cons (pv 11) pa_nil))) pe_int (nomark _)))) (fun _ _ _ _ _ => (pv 22))) (pe_lst pa_nil) (nomark _)))
        (pss_cons (ps_if (pt_cmpR op_ne (pe_cd D_is_flow (hr.mono (by decide)) (by rfl) (pa_cons (pv 2) (pa_cons (pv 11) pa_nil))) (pv 12) (nomark _))
          (pss_one (ps_ret pe_bl))
          pss_nil)
        (pss_cons (ps_set (i := 13) sc_law.nd rfl (.inl rfl) (pe_cmpR (op_eqD hu) (pe_lc (own := [(("_law_ring_here" : Str), 23)]) (g := (gName 23)) rfl sc_law.nd (pi_list (pv 8)) (blkOk_by (own := [(("_law_ring_here" : Str), 23)]) (N := N_law) (sc := defScope s_law) (by decide +kernel)) (fun _ _ _ _ _ => (pg_name (i := 23) sc_law.nd rfl (.inl rfl))) (fun _ _ _ _ _ => (pts_one (pt_cmpR op_ne (pe_cd D_sum (hr.mono (by decide)) (by rfl) (pa_cons (pv 23) (pa_cons (pv 11) pa_nil))) pe_int (nomark _)))) (fun _ _ _ _ _ => (pv 23))) (pe_lst pa_nil) (nomark _)))
        (pss_cons (ps_if (pt_cmpR op_ne (pe_cd D_is_pull (hr.mono (by decide)) (by rfl) (pa_cons (pv 2) (pa_cons (pv 11) pa_nil))) (pv 13) (nomark _))
          (pss_one (ps_ret pe_bl))
          pss_nil)
        (pss_cons (ps_set (i := 14) sc_law.nd rfl (.inr rfl) (pe_callTy call_tuple_of (by rfl) B.tuple (by decide +kernel) (pa_cons (pe_lc (own := [(("_law_x" : Str), 19)]) (g := (gName 19)) rfl sc_law.nd (pi_range1 (by rfl) B.range (pa_cons (pv 3) pa_nil)) (blkOk_by (own := [(("_law_x" : Str), 19)]) (N := N_law) (sc := defScope s_law) (by decide +kernel)) (fun _ _ _ _ _ => (pg_name (i := 19) sc_law.nd rfl (.inl rfl))) (fun _ _ _ _ _ => (pts_one (pt_cmpR op_eq (pe_cd D_grind (hr.mono (by decide)) (by rfl) (pa_cons (pv 1) (pa_cons pe_int pa_nil))) pe_int (nomark _)))) (fun _ _ _ _ _ => (pv 19))) pa_nil)))
        (pss_one (ps_if (PW.pt (pw_and (pt_val (pv 12)) (pw_and1 (pt_cmpR op_ne (pe_cd D_sum (hr.mono (by decide)) (by rfl) (pa_cons (pe_cd D_lot_pull (hr.mono (by decide)) (by rfl) (pa_cons (pv 2) (pa_cons (pv 14) pa_nil))) (pa_cons (pv 11) pa_nil))) pe_int (nomark _)))))
          (pss_one (ps_ret pe_bl))
          pss_nil))))))))
      (pss_cons (ps_set (i := 15) sc_law.nd rfl (.inr rfl) (pe_op op_sub (pe_cd D_grind (hr.mono (by decide)) (by rfl) (pa_cons (pv 1) (pa_cons pe_int pa_nil))) pe_int))
      (pss_cons (ps_set (i := 16) sc_law.nd rfl (.inl rfl) (pe_callTy call_tuple_of (by rfl) B.tuple (by decide +kernel) (pa_cons (pe_lc (own := [(("_law_x" : Str), 19)]) (g := (gName 19)) rfl sc_law.nd (pi_range1 (by rfl) B.range (pa_cons (pv 3) pa_nil)) (blkOk_by (own := [(("_law_x" : Str), 19)]) (N := N_law) (sc := defScope s_law) (by decide +kernel)) (fun _ _ _ _ _ => (pg_name (i := 19) sc_law.nd rfl (.inl rfl))) (fun _ _ _ _ _ => pts_nil) (fun _ _ _ _ _ => (pe_op op_add (pe_ix (r := rIxT K) ix_tup (pv 4) (pv 19) (fun _ _ => rfl)) (pe_op op_mul (pv 15) (pe_ix (r := rIxT K) ix_tup (pv 5) (pv 19) (fun _ _ => rfl)))))) pa_nil)))
      (Evl.pss_cut (ps_if (pt_cmpR op_le (pe_callB (cr_max rfl) (by rfl) B.max (by decide +kernel) (pa_cons (pe_lc (own := [(("_law_one" : Str), 22)]) (g := (gName 22)) rfl sc_law.nd (pi_tup (pv 16)) (blkOk_by (own := [(("_law_one" : Str), 22)]) (N := N_law) (sc := defScope s_law) (by decide +kernel)) (fun _ _ _ _ _ => (pg_name (i := 22) sc_law.nd rfl (.inl rfl))) (fun _ _ _ _ _ => pts_nil) (fun _ _ _ _ _ => (pe_callB call_abs (by rfl) B.abs (by decide +kernel) (pa_cons (pv 22) pa_nil)))) pa_nil)) (pe_op op_pow pe_int pe_int) (nomark _))
        (pss_cons (ps_set (i := 17) sc_law.nd rfl (.inr rfl) (pe_cd D_pull_of (hr.mono (by decide)) (by rfl) (pa_cons (pv 2) (pa_cons (pv 5) pa_nil))))
        (pss_one (ps_if (pt_cmpR (op_neD hu) (pe_cd D_pull_of (hr.mono (by decide)) (by rfl) (pa_cons (pv 2) (pa_cons (pv 16) pa_nil))) (pe_callTy call_tuple_of (by rfl) B.tuple (by decide +kernel) (pa_cons (pe_lc (own := [(("_law_k" : Str), 21)]) (g := (gName 21)) rfl sc_law.nd (pi_range1 (by rfl) B.range (pa_cons (pe_callB call_len_seq (by rfl) B.len (by decide +kernel) (pa_cons (pv 6) pa_nil)) pa_nil)) (blkOk_by (own := [(("_law_k" : Str), 21)]) (N := N_law) (sc := defScope s_law) (by decide +kernel)) (fun _ _ _ _ _ => (pg_name (i := 21) sc_law.nd rfl (.inl rfl))) (fun _ _ _ _ _ => pts_nil) (fun _ _ _ _ _ => (pe_op op_add (pe_ix (r := rIxT K) ix_tup (pv 6) (pv 21) (fun _ _ => rfl)) (pe_op op_mul (pv 15) (pe_ix (r := rIxT K) ix_tup (pv 17) (pv 21) (fun _ _ => rfl)))))) pa_nil)) (nomark _))
          (pss_one (ps_ret pe_bl))
          pss_nil)))
        pss_nil)
      (pss_cons (ps_if (pt_cmpR (op_neD hu) (pe_cd D_pull_of (hr.mono (by decide)) (by rfl) (pa_cons (pv 2) (pa_cons (pe_op op_repX (pe_tup (pa_cons (pe_ix (r := rIxT K) ix_tup (pv 4) pe_int (fun _ _ => rfl)) pa_nil)) (pv 3)) pa_nil))) (pe_op op_repX (pe_tup (pa_cons pe_int pa_nil)) (pe_callB call_len_seq (by rfl) B.len (by decide +kernel) (pa_cons (pe_ix (r := rIxT K) ix_tup (pv 2) pe_int (fun _ _ => rfl)) pa_nil))) (nomark _))
        (pss_one (ps_ret pe_bl))
        pss_nil)
      (pss_cons (ps_set (i := 14) sc_law.nd rfl (.inr rfl) (pe_callTy call_tuple_of (by rfl) B.tuple (by decide +kernel) (pa_cons (pe_lc (own := [(("_law_x" : Str), 19)]) (g := (gName 19)) rfl sc_law.nd (pi_range1 (by rfl) B.range (pa_cons (pv 3) pa_nil)) (blkOk_by (own := [(("_law_x" : Str), 19)]) (N := N_law) (sc := defScope s_law) (by decide +kernel)) (fun _ _ _ _ _ => (pg_name (i := 19) sc_law.nd rfl (.inl rfl))) (fun _ _ _ _ _ => (pts_one (pt_cmpR op_eq (pe_cd D_grind (hr.mono (by decide)) (by rfl) (pa_cons (pv 1) (pa_cons pe_int pa_nil))) pe_int (nomark _)))) (fun _ _ _ _ _ => (pv 19))) pa_nil)))
      (pss_cons (ps_set (i := 18) sc_law.nd rfl (.inl rfl) (pe_callTy call_tuple_of (by rfl) B.tuple (by decide +kernel) (pa_cons (pe_lc (own := [(("_law_x" : Str), 19)]) (g := (gName 19)) rfl sc_law.nd (pi_range1 (by rfl) B.range (pa_cons (pv 3) pa_nil)) (blkOk_by (own := [(("_law_x" : Str), 19)]) (N := N_law) (sc := defScope s_law) (by decide +kernel)) (fun _ _ _ _ _ => (pg_name (i := 19) sc_law.nd rfl (.inl rfl))) (fun _ _ _ _ _ => (pts_one (pt_cmpR (r := rIn K true) op_notIn_seq (pv 19) (pv 14) (by rfl)))) (fun _ _ _ _ _ => (pv 19))) pa_nil)))
      (pss_one (ps_ret (pe_and (pe_cmpR (op_eqD hu) (pe_cd D_lot_pull (hr.mono (by decide)) (by rfl) (pa_cons (pv 2) (pa_cons (pv 18) pa_nil))) (pe_callTy call_tuple_of (by rfl) B.tuple (by decide +kernel) (pa_cons (pe_lc (own := [(("_law_one" : Str), 22)]) (g := (gName 22)) rfl sc_law.nd (pi_tup (pe_cd D_lot_pull (hr.mono (by decide)) (by rfl) (pa_cons (pv 2) (pa_cons (pv 14) pa_nil)))) (blkOk_by (own := [(("_law_one" : Str), 22)]) (N := N_law) (sc := defScope s_law) (by decide +kernel)) (fun _ _ _ _ _ => (pg_name (i := 22) sc_law.nd rfl (.inl rfl))) (fun _ _ _ _ _ => pts_nil) (fun _ _ _ _ _ => (pe_un un_neg (pv 22)))) pa_nil)) (nomark _)) (pe_one (pe_cmpR (op_eqD hu) (pe_cd D_heights_of (hr.mono (by decide)) (by rfl) (pa_cons (pv 2) (pa_cons (pe_op op_repX (pe_tup (pa_cons pe_int pa_nil)) (pe_callB call_len_seq (by rfl) B.len (by decide +kernel) (pa_cons (pe_ix (r := rIxT K) ix_tup (pv 2) pe_int (fun _ _ => rfl)) pa_nil))) pa_nil))) (pe_op op_repX (pe_tup (pa_cons pe_int pa_nil)) (pv 3)) (nomark _)))))))))))))))))))))))), ?_⟩
    refine ⟨_, rfl, sa, ns, rfl, hS, hl, hb, fun m H1 e1 hm0 hM1 => ?_⟩
    refine ⟨_, rfl, m, rfl, hM1, fun a n W ta rs H2 x2 hW2 => ?_⟩
    have hn1 := hW2.n1
    have hn := hW2.n10
    have hm15 := hW2.m15
    have hrl := hW2.len
    have good := hW2.good
    refine ⟨_, rfl, a, _, 0, _, rfl, rfl, SqT.of hW2.w, atI_nat (j := 0) rfl, ?_⟩
    refine ⟨_, rfl, _, rfl, m, n, rfl, x2.mill, hn, fun p4 H3 hs x3 h4 l4 b4 => ?_⟩
    have hW3 := hW2.mx x3 x2.mill
    refine ⟨_, rfl, _, rfl, m, n, rfl, x3.mill, hn, fun p5 H4 os x4 h5 l5 b5 => ?_⟩
    have hW4 := hW3.mx x4 x3.mill
    have h4' := x4.tup x3.mill h4
    refine ⟨_, rfl, _, rfl, a, n, W, ta, rs, p4, hs, rfl, hW4, h4', l4, fun x hx => big_of (b4 x hx), fun p6 H5 e5 _ h6 => ?_⟩
    have hM5 := x4.mill.ex e5
    have hW5 := hW4.mono e5
    refine ⟨_, rfl, _, rfl, m, a, n, W, ta, rs, rfl, hM5, hW5, fun pf H6 fl x6 hpf hF => ⟨pf, _, rfl, .inl ⟨SqL.of hpf, fun p7 hp7 => ?_⟩⟩⟩
    have e7 := Ex.new (o := .tup (fl.map V.int)) hp7
    have x57 := x6.ex e7
    have hW7 := hW5.mx x57 hM5
    have h47 := x57.tup hM5 (e5 _ _ h4')
    have h57 := x57.tup hM5 (e5 _ _ h5)
    have h67 := x57.tup hM5 h6
    have hM7 := x57.mill
    have hfl : IsFlow n W fl := KM.isFlow_of hF.flat
    have hpl : (pull W (at0 hs)).length = W.length := KM.pull_length _ _
    refine ⟨_, rfl, _, rfl, a, n, W, ta, rs, p7, fl, rfl, hW7, upd_same, hF.len, fun b H8 hb e8 => ?_⟩
    obtain rfl : b = true := hb.mpr hfl
    have h78 := e8 _ _ (upd_same (H := H6) (a := p7) (o := .tup (fl.map V.int)))
    refine ⟨true, true, rfl, rfl, false, rfl, iteF ?_⟩
    refine ⟨_, rfl, _, rfl, p6, p7, pull W (at0 hs), fl, rfl, .inr (e8 _ _ h67), .inr h78, by rw [hpl, hF.len], by omega, fun k _ => cmul_r (hF.small k), fun H9 e9 => ?_⟩
    have dz : dot (pull W (at0 hs)).length (at0 (pull W (at0 hs))) (at0 fl) = 0 := by
      rw [hpl]
      exact KM.isFlow_dot good hfl _
    refine ⟨rfl, false, by rw [dz]; rfl, iteF ?_⟩
    have e89 := e8.trans e9
    have hM9 := hM7.ex e89
    have hW9 := hW7.mono e89
    refine ⟨_, rfl, a, n, W, ta, rs, rfl, hW9, fun p8 H10 heaps tree found e10 hp8 hv hG hfew => ?_⟩
    obtain ⟨q8, h8, l8, v8⟩ := hv
    have e810 := e89.trans e10
    have hM10 := hM9.ex e10
    have hW10 := hW9.mono e10
    refine ⟨_, rfl, (n : Int), rfl, by omega, by omega, fun D9 hD9 => ?_⟩
    have nD9 := hM10.ne hD9
    refine lc_range (lo := 0) (n := ((n : Int)).toNat) (fun i H' => ∃ qs : List Addr, Ex H10 H' ∧ H' D9 = some (.lst (qs.map V.ref)) ∧ qs.length = i ∧ ∀ (j : Nat) (q : Addr), qs[j]? = some q → H' q = some (.tup ((pull W (dlt j)).map V.int)))
      ⟨[], Ex.new hD9, upd_same, rfl, fun j q hj => by simp at hj⟩ (fun i H' hi ⟨qs, ex, hL, hql, hqv⟩ => ?_) (fun H11 ⟨q9, ex11, h9, l9, v9⟩ => ?_)
    · have hi2 : i < n := by omega
      have zi : V.int (0 + (i : Int)) = V.int i := by rw [Int.zero_add]
      rw [zi]
      refine ⟨rfl, _, rfl, _, rfl, by show 1 ≤ sizeLine; decide, fun t ht => ?_⟩
      have et := Ex.new (o := .tup [V.int i]) ht
      refine ⟨a, n, W, ta, rs, t, [(i : Int)], rfl, hW10.mono (ex.trans et), upd_same, lot_one hi2, fun qn H'' e'' _ hqn => ?_⟩
      have hL2 := e'' _ _ (et _ _ hL)
      refine ⟨_, hL2, sz_lt (by simp; omega), qs ++ [qn], ((ex.trans et).trans e'').mut hD9, by rw [upd_same, List.map_append]; rfl, by simp [hql], fun j q' hj => ?_⟩
      rcases get_last hj with ⟨_, hj2⟩ | ⟨hj2, rfl⟩
      · have h3 := e'' _ _ (et _ _ (hqv j q' hj2))
        rw [upd_ne (ne_of h3 hL2 (fun z => by cases z))]
        exact h3
      · rw [upd_ne (ne_of hqn hL2 (fun z => by cases z)), hqn, KM.pull_congr good (h := dlt j) fun p _ => ?_]
        rw [ind_one, hj2, hql]
    · rw [Int.toNat_natCast] at l9
      have hM11 := hM10.ex ex11
      have hW11 := hW10.mono ex11
      have e811 := e810.trans ex11
      refine ⟨_, rfl, a, _, 1, _, rfl, rfl, SqT.of hW11.w, atI_nat (j := 1) rfl, ta, rfl, ⟨_, SqT.of hW11.t⟩, fun D10 hD10 => ?_⟩
      have nD10 := hM11.ne hD10
      refine lc_tup (K := K) (a := ta) (xs := rs.map V.ref) (fun i H' => ∃ lo : List Int, Mx m H11 H' ∧ H' D10 = some (.lst (lo.map V.int)) ∧ lo.length = i)
        ⟨[], .of_ex hM11 (Ex.new hD10), upd_same, rfl⟩ (fun i H' _ ⟨_, c, _, _⟩ => SqT.of (c.tup hM11 hW11.t)) (fun i x H' hx ⟨lo, c, hL, hll⟩ => ?_) (fun H12 ⟨lo, c, hL, hll⟩ => ?_)
      · have hi : i < rs.length := by
          have := (List.getElem?_eq_some_iff.mp hx).1
          simpa using this
        refine ⟨rfl, _, rfl, m, 5, rfl, c.mill, by omega, by omega, fun r g x _ _ => ⟨r, 2, rfl, rfl, lo.map V.int, by rw [upd_ne nD10]; exact hL, sz_lt (by simp; omega), lo ++ [r - 2], (c.trans (.put g x)).mut hD10 nD10, by rw [upd_same, List.map_append]; rfl, by simp [hll]⟩⟩
      · refine ⟨D10, _, rfl, .inl ⟨SqL.of hL, fun p10 hp10 => ?_⟩⟩
        have e10' := Ex.new (o := .tup (lo.map V.int)) hp10
        have xx := c.ex e10'
        have hlo : lo.length = W.length := by rw [hll]; simp [hrl]
        have k : LF m a n W ta rs p4 p5 p6 p7 p8 D9 p10 hs os fl lo q8 q9 found (upd H12 p10 (.tup (lo.map V.int))) :=
          ⟨xx.mill, hW11.mx xx hM11, xx.tup hM11 (e811 _ _ h47), xx.tup hM11 (e811 _ _ h57), xx.tup hM11 (e811 _ _ h67), xx.tup hM11 (((e9.trans e10).trans ex11) _ _ h78), xx.lst (hM9.ne hp8) (ex11 _ _ h8), hM9.ne hp8, l8,
            fun i qq r h1 h2 => ⟨hM9.ne (v8 i qq r h1 h2).1, xx.lst (hM9.ne (v8 i qq r h1 h2).1) (ex11 _ _ (v8 i qq r h1 h2).2)⟩, xx.lst nD9 h9, nD9, l9, fun j qq h => xx.tup hM11 (v9 j qq h), upd_same⟩
        clear xx e10' hL hp10 c hD10 nD10
        revert k
        generalize upd H12 p10 (.tup (lo.map V.int)) = H13
        intro k
        refine ⟨_, rfl, _, rfl, _, rfl, _, rfl, p7, _, rfl, .inr (SqT.of k.h7), _, rfl, by rw [List.length_map, hF.len]; omega, by rw [List.length_map, hF.len]; omega, fun D11 hD11 => ?_⟩
        rw [List.length_map]
        refine lc_range (lo := 0) (n := ((fl.length : Nat) : Int).toNat) (Cw H13 (upto fun k => .int (at0 fl k + (if decide (V.int (k : Int) = V.int 0) = true then 1 else 0))) D11) (Cw.start hD11 rfl) (fun i H' hi cw => ?_) (fun H14 cw => ?_)
        · have hi2 : i < fl.length := by omega
          have zi : V.int (0 + (i : Int)) = V.int i := by rw [Int.zero_add]
          rw [zi]
          refine ⟨rfl, _, rfl, _, rfl, p7, _, (i : Int), _, rfl, rfl, SqT.of (cw.ex _ _ k.h7), atI_nat (int_get hi2), _, rfl, rfl, .inr ⟨_, rfl, _, _, rfl, rfl, ?_⟩⟩
          exact cw.put (Ex.refl _) (upto_succ _ _) (by rw [upto_len]; have := hF.len; omega)
        · refine ⟨D11, _, rfl, .inl ⟨SqL.of cw.at_, fun p11 hp11 => ?_⟩⟩
          have ea := cw.ex.trans (Ex.new (o := .tup (upto (fun k => .int (at0 fl k + (if decide (V.int (k : Int) = V.int 0) = true then 1 else 0))) ((fl.length : Nat) : Int).toNat)) hp11)
          refine ⟨by show 4 ≤ sizeLine; decide, fun Lv hLv => ?_⟩
          have k2 := k.ex ea
          have eb := Ex.new (o := .lst [V.ref p6, .ref p7, .ref p10, .ref p11]) hLv
          have k3 := k2.ex eb
          have nLv := k2.mill.ne hLv
          obtain ⟨ch, hch, lch⟩ : ∃ ch : List Int, upto (fun k => V.int (at0 fl k + (if decide (V.int (k : Int) = V.int 0) = true then 1 else 0))) ((fl.length : Nat) : Int).toNat = ch.map V.int ∧ ch.length = W.length := ⟨_, upto_list _ _, by simp [hF.len]⟩
          have h11 : (upd (upd H14 p11 (.tup (upto (fun k => .int (at0 fl k + (if decide (V.int (k : Int) = V.int 0) = true then 1 else 0))) ((fl.length : Nat) : Int).toNat))) Lv (.lst [V.ref p6, .ref p7, .ref p10, .ref p11])) p11 = some (.tup (ch.map V.int)) := by
            rw [← hch]
            exact eb _ _ upd_same
          refine ⟨Lv, rfl, ⟨_, SqL.of upd_same⟩, for_list (K := K) (a := Lv) (xs := [V.ref p6, .ref p7, .ref p10, .ref p11]) (fun i σ H' => ∃ o11 o12 o13 o14 o15 o16 o17 o18 o19 o20 o21 o22 o23 : Option V,
              σ = [some (.ref sa), some (.ref m), some (.ref a), some (.int n), some (.ref p4), some (.ref p5), some (.ref p6), some (.ref p7), some (.ref p8), some (.ref D9), some (.ref p10), o11, o12, o13, o14, o15, o16, o17, o18, o19, o20, o21, o22, o23] ∧
              LF m a n W ta rs p4 p5 p6 p7 p8 D9 p10 hs os fl lo q8 q9 found H' ∧ H' Lv = some (.lst [V.ref p6, .ref p7, .ref p10, .ref p11]) ∧ H' p11 = some (.tup (ch.map V.int)))
            ⟨_, _, _, _, _, _, _, _, _, _, _, _, _, rfl, k3, upd_same, h11⟩ ?_ ?_ ?_⟩
          · rintro i σ H' _ ⟨_, _, _, _, _, _, _, _, _, _, _, _, _, _, _, h, _⟩
            exact SqL.of h
          · clear k k2 k3 h11
            rintro i x σ H15 hx ⟨o11, o12, o13, o14, o15, o16, o17, o18, o19, o20, o21, o22, o23, rfl, k, hLv2, h11⟩
            obtain ⟨pv, vals, rfl, hv, lv⟩ : ∃ (pv : Addr) (vals : List Int), x = .ref pv ∧ H15 pv = some (.tup (vals.map V.int)) ∧ vals.length = W.length := by
              match i, hx with
              | 0, hx => exact ⟨p6, _, (Option.some.inj hx).symm, k.h6, hpl⟩
              | 1, hx => exact ⟨p7, _, (Option.some.inj hx).symm, k.h7, hF.len⟩
              | 2, hx => exact ⟨p10, _, (Option.some.inj hx).symm, k.h10, hlo⟩
              | 3, hx => exact ⟨p11, _, (Option.some.inj hx).symm, h11, lch⟩
              | i + 4, hx => simp at hx
            refine ⟨_, rfl, D9, rfl, ⟨_, SqL.of k.h9⟩, fun D hD => ?_⟩
            refine lc_list (K := K) (a := D9) (xs := q9.map V.ref) (fun i H' => ∃ kept : List Addr, Ex H15 H' ∧ H' D = some (.lst (kept.map V.ref)) ∧ kept.length ≤ i ∧ (∀ r ∈ kept, ∃ ns, Seq H15 r ns) ∧ (kept = [] ↔ ∀ j, j < i → dot W.length (at0 (pull W (dlt j))) (at0 vals) = 0))
              ⟨[], Ex.new hD, upd_same, Nat.le_refl _, fun r hr => by simp at hr, ⟨fun _ j hj => by omega, fun _ => rfl⟩⟩ (fun i H' _ ⟨_, c, _⟩ => SqL.of (c _ _ k.h9)) (fun i x H' hx ⟨kept, c, hL, hkl, hks, hki⟩ => ?_) (fun H16 ⟨kept, c, hL, hkl, hks, hki⟩ => ?_)
            · obtain ⟨qq, hq, rfl⟩ := refs_at hx
              have hi : i < q9.length := (List.getElem?_eq_some_iff.mp hq).1
              have hl9 := k.l9
              have hqq := k.v9 i qq hq
              have hpd : (pull W (dlt i)).length = W.length := KM.pull_length _ _
              refine ⟨rfl, _, rfl, _, rfl, qq, pv, pull W (dlt i), vals, rfl, .inr (c _ _ hqq), .inr (c _ _ hv), by rw [hpd, lv], by omega, fun j _ => cmul_l (pull_small (dlt_small i) j), fun H3 e3 => ⟨rfl, _, rfl, ?_⟩⟩
              rw [hpd]
              by_cases dz : dot W.length (at0 (pull W (dlt i))) (at0 vals) = 0
              · rw [dz]
                refine iteF ⟨kept, c.trans e3, e3 _ _ hL, by omega, hks, ⟨fun h j hj => ?_, fun h => hki.mpr fun j hj => h j (by omega)⟩⟩
                by_cases e : j = i
                · rw [e]
                  exact dz
                · exact hki.mp h j (by omega)
              · rw [decide_eq_false (fun z => dz (V.int.inj z))]
                refine iteT ⟨_, rfl, kept.map V.ref, e3 _ _ hL, sz_lt (by simp; omega), kept ++ [qq], (c.trans e3).mut hD, by rw [upd_same, List.map_append]; rfl, by simp; omega, fun r hr => ?_, ⟨fun h => by simp at h, fun h => absurd (h i (by omega)) dz⟩⟩
                rcases List.mem_append.mp hr with h | h
                · exact hks r h
                · have : r = qq := by simpa using h
                  rw [this]
                  exact ⟨_, .inr hqq⟩
            · refine ⟨Nat.zero_le _, fun z hz => rEq_nil (xs := kept.map V.ref) (by rw [upd_ne (ne_of_none hL hz)]; exact hL) (plain_refs fun r hr => ?_) upd_same ?_⟩
              · obtain ⟨ns, hns⟩ := hks r hr
                exact ⟨ns, hns.mono (c.trans (Ex.new hz))⟩
              have k16 := k.ex (c.trans (Ex.new (o := .lst []) hz))
              have hv16 := (c.trans (Ex.new (o := .lst []) hz)) _ _ hv
              have hLv16 := (c.trans (Ex.new (o := .lst []) hz)) _ _ hLv2
              have h1116 := (c.trans (Ex.new (o := .lst []) hz)) _ _ h11
              obtain ⟨b1, hb1, hb1e⟩ : ∃ b1 : Bool, (b1 = true ↔ IsFlow n W vals) ∧ (kept.map V.ref).isEmpty = b1 := ⟨_, by
                rw [KM.isFlow_iff, List.isEmpty_iff, List.map_eq_nil_iff, hki, List.length_map, k.l9], rfl⟩
              rw [hb1e]
              clear hz hL hki hks hkl c hD
              revert k16 hv16 hLv16 h1116
              generalize upd H16 z (.lst []) = H17
              intro k17 hv17 hLv17 h1117
              refine ⟨_, rfl, _, rfl, a, n, W, ta, rs, pv, vals, rfl, k17.web, hv17, lv, fun b H18 hb e18 => ?_⟩
              obtain rfl : b = b1 := Bool.eq_iff_iff.mpr (hb.trans hb1.symm)
              refine ⟨_, rfl, rfl, false, by simp, iteF ?_⟩
              have k18 := k17.ex e18
              have hv18 := e18 _ _ hv17
              refine ⟨_, rfl, p8, rfl, ⟨_, SqL.of k18.h8⟩, fun D hD => ?_⟩
              refine lc_list (K := K) (a := p8) (xs := q8.map V.ref) (fun i H' => ∃ kept : List Addr, Ex H18 H' ∧ H' D = some (.lst (kept.map V.ref)) ∧ kept.length ≤ i ∧ (∀ r ∈ kept, ∃ ns, Seq H18 r ns) ∧ (kept = [] ↔ ∀ (j : Nat) (r : List Int), j < i → found[j]? = some r → dot W.length (at0 r) (at0 vals) = 0))
                ⟨[], Ex.new hD, upd_same, Nat.le_refl _, fun r hr => by simp at hr, ⟨fun _ j _ hj => by omega, fun _ => rfl⟩⟩ (fun i H' _ ⟨_, c, _⟩ => SqL.of (c _ _ k18.h8)) (fun i x H' hx ⟨kept, c, hL, hkl, hks, hki⟩ => ?_) (fun H19 ⟨kept, c, hL, hkl, hks, hki⟩ => ?_)
              · obtain ⟨qq, hq, rfl⟩ := refs_at hx
                have hi : i < q8.length := (List.getElem?_eq_some_iff.mp hq).1
                obtain ⟨r, hr⟩ : ∃ r, found[i]? = some r := ⟨_, List.getElem?_eq_getElem (by rw [← k.l8]; exact hi)⟩
                obtain ⟨_, hqq⟩ := k18.v8 i qq r hq hr
                obtain ⟨t41, _, t43⟩ := hG.t4 r (List.mem_of_getElem? hr)
                refine ⟨rfl, _, rfl, _, rfl, qq, pv, r, vals, rfl, .inl (c _ _ hqq), .inr (c _ _ hv18), by rw [t41, lv], by omega, fun j _ => cmul_l (t43 j), fun H3 e3 => ⟨rfl, _, rfl, ?_⟩⟩
                rw [t41]
                by_cases dz : dot W.length (at0 r) (at0 vals) = 0
                · rw [dz]
                  refine iteF ⟨kept, c.trans e3, e3 _ _ hL, by omega, hks, ⟨fun h j r' hj hr' => ?_, fun h => hki.mpr fun j r' hj => h j r' (by omega)⟩⟩
                  by_cases e : j = i
                  · rw [e, hr] at hr'
                    rw [← Option.some.inj hr']
                    exact dz
                  · exact hki.mp h j r' (by omega) hr'
                · rw [decide_eq_false (fun z => dz (V.int.inj z))]
                  refine iteT ⟨_, rfl, kept.map V.ref, e3 _ _ hL, sz_lt (by have := hfew; have := k.l8; simp; omega), kept ++ [qq], (c.trans e3).mut hD, by rw [upd_same, List.map_append]; rfl, by simp; omega, fun r' hr' => ?_, ⟨fun h => by simp at h, fun h => absurd (h i r (by omega) hr) dz⟩⟩
                  rcases List.mem_append.mp hr' with h | h
                  · exact hks r' h
                  · have : r' = qq := by simpa using h
                    rw [this]
                    exact ⟨_, .inl hqq⟩
              · refine ⟨Nat.zero_le _, fun z hz => rEq_nil (xs := kept.map V.ref) (by rw [upd_ne (ne_of_none hL hz)]; exact hL) (plain_refs fun r hr => ?_) upd_same ?_⟩
                · obtain ⟨ns, hns⟩ := hks r hr
                  exact ⟨ns, hns.mono (c.trans (Ex.new hz))⟩
                have ez := c.trans (Ex.new (o := .lst []) hz)
                have k19 := k18.ex ez
                have hv19 := ez _ _ hv18
                have hLv19 := ez _ _ (e18 _ _ hLv17)
                have h1119 := ez _ _ (e18 _ _ h1117)
                obtain ⟨b2, hb2, hb2e⟩ : ∃ b2 : Bool, (b2 = true ↔ IsPull W vals) ∧ (kept.map V.ref).isEmpty = b2 := ⟨_, by
                  rw [hG.pulls lv, List.isEmpty_iff, List.map_eq_nil_iff, hki, List.length_map, k.l8]
                  constructor
                  · intro h r hr
                    obtain ⟨j, hj, e⟩ := List.mem_iff_getElem.mp hr
                    exact h j r hj (by rw [List.getElem?_eq_getElem hj, e])
                  · intro h j r _ hr
                    exact h r (List.mem_of_getElem? hr), rfl⟩
                rw [hb2e]
                clear ez hz hL hki hks hkl c hD
                revert k19 hv19 hLv19 h1119
                generalize upd H19 z (.lst []) = H20
                intro k20 hv20 hLv20 h1120
                refine ⟨_, rfl, _, rfl, a, n, W, ta, rs, pv, vals, rfl, k20.web, hv20, lv, fun b' H21 hb' e21 => ?_⟩
                obtain rfl : b' = b2 := Bool.eq_iff_iff.mpr (hb'.trans hb2.symm)
                refine ⟨_, rfl, rfl, false, by simp, iteF ?_⟩
                have k21 := k20.ex e21
                refine ⟨_, rfl, (n : Int), rfl, by omega, by omega, fun D hD => ?_⟩
                have nD := k21.mill.ne hD
                refine lc_range (lo := 0) (n := ((n : Int)).toNat) (fun i H' => ∃ lt : List Int, Mx m H21 H' ∧ H' D = some (.lst (lt.map V.int)) ∧ Asc i lt)
                  ⟨[], .of_ex k21.mill (Ex.new hD), upd_same, asc_nil⟩ (fun i H' hi ⟨lt, c, hL, has⟩ => ?_) (fun H22a ⟨lot1, c, hL, hasc⟩ => ?_)
                · have zi : V.int (0 + (i : Int)) = V.int i := by rw [Int.zero_add]
                  rw [zi]
                  refine ⟨rfl, _, rfl, m, 2, rfl, c.mill, by omega, by omega, fun r g x _ _ => ⟨rfl, _, rfl, ?_⟩⟩
                  have hL2 : (upd H' m (.lst [.int g, .int x])) D = some (.lst (lt.map V.int)) := by rw [upd_ne nD]; exact hL
                  refine ite2 (fun _ => ⟨_, rfl, lt.map V.int, hL2, sz_lt (by have := has.few; simp; omega), lt ++ [(i : Int)], (c.trans (.put g x)).mut hD nD, by rw [upd_same, List.map_append]; rfl, has.put⟩) (fun _ => ⟨lt, c.trans (.put g x), hL2, has.skip⟩)
                rw [Int.toNat_natCast] at hasc
                refine ⟨D, _, rfl, .inl ⟨SqL.of hL, fun pl1 hpl_ => ?_⟩⟩
                have xl := c.ex (Ex.new (o := .tup (lot1.map V.int)) hpl_)
                have hlt : (upd H22a pl1 (.tup (lot1.map V.int))) pl1 = some (.tup (lot1.map V.int)) := upd_same
                clear hL c hpl_ hD nD
                revert xl hlt
                generalize upd H22a pl1 (.tup (lot1.map V.int)) = H22
                intro xl hlt
                have k22 := k21.go xl
                have hv22 := xl.tup k21.mill (e21 _ _ hv20)
                have hLv22 := xl.lst nLv (e21 _ _ hLv20)
                have h1122 := xl.tup k21.mill (e21 _ _ h1120)
                refine ⟨_, rfl, b, rfl, ?_⟩
                cases hbb : b with
                | false => exact iteF (iteF ⟨_, _, _, _, _, _, _, _, _, _, _, _, _, rfl, k22, hLv22, h1122⟩)
                | true =>
                  refine iteT ?_
                  have hpi : (pull W (ind lot1)).length = W.length := KM.pull_length _ _
                  refine ⟨_, rfl, _, rfl, a, n, W, ta, rs, pl1, lot1, rfl, k22.web, hlt, hasc.lot hn, fun p20 H23 e23 _ h20 => ?_⟩
                  refine ⟨_, rfl, p20, pv, pull W (ind lot1), vals, rfl, .inr h20, .inr (e23 _ _ hv22), by rw [hpi, lv], by omega, fun j _ => cmul_l (pull_small (ind_small lot1) j), fun H24 e24 => ?_⟩
                  have dz : dot (pull W (ind lot1)).length (at0 (pull W (ind lot1))) (at0 vals) = 0 := by
                    rw [hpi]
                    exact KM.isFlow_dot good (hb.mp hbb) _
                  have e25 := e23.trans e24
                  exact ⟨rfl, false, by rw [dz]; rfl, iteF ⟨_, _, _, _, _, _, _, _, _, _, _, _, _, rfl, k22.ex e25, e25 _ _ hLv22, e25 _ _ h1122⟩⟩
          · rintro σ H15 ⟨o11, o12, o13, o14, o15, o16, o17, o18, o19, o20, o21, o22, o23, rfl, k, _, _⟩
            refine ⟨_, rfl, m, 9, rfl, k.mill, by omega, by omega, fun tt g x ht0 ht1 => ⟨tt, 4, rfl, rfl, ?_⟩⟩
            have k30 := k.go (.put g x)
            revert k30
            generalize upd H15 m (.lst [.int g, .int x]) = H30
            intro k30
            clear k
            have ht : -4 ≤ tt - 4 ∧ tt - 4 ≤ 4 := by omega
            refine ⟨_, rfl, (n : Int), rfl, by omega, by omega, fun D hD => ?_⟩
            refine lc_range (lo := 0) (n := ((n : Int)).toNat) (Cw H30 (upto fun x => .int (at0 hs x + (tt - 4) * at0 os x)) D) (Cw.start hD rfl) (fun i H' hi c => ?_) (fun H31 c => ?_)
            · have zi : V.int (0 + (i : Int)) = V.int i := by rw [Int.zero_add]
              rw [zi]
              refine ⟨rfl, _, rfl, _, rfl, p4, _, (i : Int), _, rfl, rfl, SqT.of (c.ex _ _ k30.h4), atI_nat (int_get (by omega)), _, rfl, _, rfl, _, rfl, p5, _, (i : Int), _, rfl, rfl, SqT.of (c.ex _ _ k30.h5), atI_nat (int_get (by omega)), tt - 4, _, rfl, rfl, .inl ⟨by omega, by omega⟩, _, _, rfl, rfl, ?_⟩
              exact c.put (Ex.refl _) (upto_succ _ _) (by rw [upto_len]; omega)
            refine ⟨D, _, rfl, .inl ⟨SqL.of c.at_, fun p16 hp16 => ?_⟩⟩
            have k32 := k30.ex (c.ex.trans (Ex.new (o := .tup (upto (fun x => .int (at0 hs x + (tt - 4) * at0 os x)) ((n : Int)).toNat)) hp16))
            obtain ⟨bt, hbt⟩ : ∃ bt : List Int, bt = (List.range n).map fun x => at0 hs x + (tt - 4) * at0 os x := ⟨_, rfl⟩
            have h16 : (upd H31 p16 (.tup (upto (fun x => .int (at0 hs x + (tt - 4) * at0 os x)) ((n : Int)).toNat))) p16 = some (.tup (bt.map V.int)) := by rw [upd_same, Int.toNat_natCast, upto_list, hbt]
            have lbt : bt.length = n := by rw [hbt]; simp
            have at_mem : ∀ {xs : List Int} {j : Nat}, j < xs.length → at0 xs j ∈ xs := fun h => at0_mem h
            have bbt : ∀ x ∈ bt, -(10 ^ 60) ≤ x ∧ x ≤ 10 ^ 60 := fun x hx => by
              rw [hbt] at hx
              obtain ⟨j, hj, rfl⟩ := List.mem_map.mp hx
              have hj2 : j < n := by simpa using hj
              exact both_big ht (b4 _ (at_mem (by omega))) (b5 _ (at_mem (by omega)))
            clear c hD hp16
            revert k32 h16
            generalize upd H31 p16 (.tup (upto (fun x => .int (at0 hs x + (tt - 4) * at0 os x)) ((n : Int)).toNat)) = H32
            intro k32 h16
            refine ⟨fun σ' H' => ∃ o11 o12 o13 o14 o15 o16 o17 o18 o19 o20 o21 o22 o23 : Option V,
              σ' = [some (.ref sa), some (.ref m), some (.ref a), some (.int n), some (.ref p4), some (.ref p5), some (.ref p6), some (.ref p7), some (.ref p8), some (.ref D9), some (.ref p10), o11, o12, o13, o14, o15, o16, o17, o18, o19, o20, o21, o22, o23] ∧
              LF m a n W ta rs p4 p5 p6 p7 p8 D9 p10 hs os fl lo q8 q9 found H', ?_, ?_⟩
            · refine ⟨_, rfl, p16, rfl, ⟨_, SqT.of h16⟩, fun D hD => ?_⟩
              refine lc_tup (K := K) (a := p16) (xs := bt.map V.int) (Cw H32 (upto fun j => .int (if at0 bt j < 0 then -at0 bt j else at0 bt j)) D) (Cw.start hD rfl) (fun i H' _ c => SqT.of (c.ex _ _ h16)) (fun i x H' hx c => ?_) (fun H33 c => ?_)
              · obtain ⟨z, hz, rfl⟩ := ints_at hx
                have hi : i < bt.length := (List.getElem?_eq_some_iff.mp hz).1
                have ez : z = at0 bt i := by simp [at0, List.getD_eq_getElem?_getD, hz]
                subst ez
                exact ⟨rfl, _, rfl, _, rfl, c.put (Ex.refl _) (upto_succ _ _) (by rw [upto_len]; omega)⟩
              refine ⟨D, (List.range bt.length).map fun j => if at0 bt j < 0 then -at0 bt j else at0 bt j, rfl, SqL.of (by rw [c.at_, List.length_map, upto_list]), by rw [List.length_map, List.length_range]; omega, fun mx _ _ => ?_⟩
              have k33 := k32.ex c.ex
              have h1633 := c.ex _ _ h16
              refine ⟨10, 60, rfl, rfl, ⟨by decide, by decide, by decide⟩, mx, _, rfl, rfl, _, rfl, ite2 (fun _ => ?_) (fun _ => ⟨_, _, _, _, _, _, _, _, _, _, _, _, _, rfl, k33⟩)⟩
              clear c hD
              refine ⟨_, rfl, _, rfl, a, n, W, ta, rs, p5, os, rfl, k33.web, k33.h5, l5, fun x hx => big_of (b5 x hx), fun p17 H34 e34 _ h17 => ?_⟩
              have k34 := k33.ex e34
              refine ⟨_, rfl, _, rfl, a, n, W, ta, rs, p16, bt, rfl, k34.web, e34 _ _ h1633, lbt, bbt, fun p18 H35 e35 _ h18 => ?_⟩
              have k35 := k34.ex e35
              have h1735 := e35 _ _ h17
              have hpo : (pull W (at0 os)).length = W.length := KM.pull_length _ _
              refine ⟨_, rfl, p6, _, rfl, .inr (SqT.of k35.h6), _, rfl, by rw [List.length_map, hpl]; omega, by rw [List.length_map, hpl]; omega, fun D2 hD2 => ?_⟩
              rw [List.length_map, hpl]
              refine lc_range (lo := 0) (n := ((W.length : Nat) : Int).toNat) (Cw H35 (upto fun j => .int (at0 (pull W (at0 hs)) j + (tt - 4) * at0 (pull W (at0 os)) j)) D2) (Cw.start hD2 rfl) (fun i H' hi c => ?_) (fun H36 c => ?_)
              · have zi : V.int (0 + (i : Int)) = V.int i := by rw [Int.zero_add]
                rw [zi]
                refine ⟨rfl, _, rfl, _, rfl, p6, _, (i : Int), _, rfl, rfl, SqT.of (c.ex _ _ k35.h6), atI_nat (int_get (by omega)), _, rfl, _, rfl, _, rfl, p17, _, (i : Int), _, rfl, rfl, SqT.of (c.ex _ _ h1735), atI_nat (int_get (by omega)), tt - 4, _, rfl, rfl, .inl ⟨by omega, by omega⟩, _, _, rfl, rfl, ?_⟩
                exact c.put (Ex.refl _) (upto_succ _ _) (by rw [upto_len]; omega)
              refine ⟨D2, _, rfl, .inl ⟨SqL.of c.at_, fun p19 hp19 => ?_⟩⟩
              have e36 := c.ex.trans (Ex.new (o := .tup (upto (fun j => .int (at0 (pull W (at0 hs)) j + (tt - 4) * at0 (pull W (at0 os)) j)) ((W.length : Nat) : Int).toNat)) hp19)
              refine rNe_ints (xs := pull W (at0 bt)) (ys := (List.range W.length).map fun j => at0 (pull W (at0 hs)) j + (tt - 4) * at0 (pull W (at0 os)) j) (e36 _ _ h18) (by rw [upd_same, Int.toNat_natCast, upto_list]) ⟨false, ?_, iteF ⟨_, _, _, _, _, _, _, _, _, _, _, _, _, rfl, k35.ex e36⟩⟩
              rw [hbt, decide_eq_true (pull_sum good l4 l5)]
              rfl
            clear k32 h16 bbt lbt hbt k30
            rintro σ H50 ⟨o11, o12, o13, o14, o15, o16, o17, o18, o19, o20, o21, o22, o23, rfl, k⟩
            refine ⟨_, rfl, _, rfl, p4, _, 0, _, rfl, rfl, SqT.of k.h4, atI_nat (j := 0) (int_get (by omega)), by show 1 ≤ sizeLine; decide, fun u1 hu1 => ?_⟩
            refine ⟨_, rfl, u1, (n : Int), _, rfl, rfl, upd_same, (fun z => by cases z), by omega, by omega, by show 1 ≤ 1000; decide, fun p20 H51 e51 h20 => ?_⟩
            have k51 := (k.ex (Ex.new hu1)).ex e51
            have h20' : H51 p20 = some (.tup ((List.replicate n (at0 hs 0)).map V.int)) := by rw [h20, Int.toNat_natCast, flat_rep, List.map_replicate]
            refine ⟨a, n, W, ta, rs, p20, List.replicate n (at0 hs 0), rfl, k51.web, h20', by simp, fun x hx => ?_, fun p21 H52 e52 _ h21 => ?_⟩
            · have : x = at0 hs 0 := (List.mem_replicate.mp hx).2
              rw [this]
              exact big_of (b4 _ (at_mem (by omega)))
            have k52 := k51.ex e52
            refine ⟨by show 1 ≤ sizeLine; decide, fun u2 hu2 => ?_⟩
            have k53 := k52.ex (Ex.new (o := .tup [V.int 0]) hu2)
            refine ⟨_, rfl, a, _, 1, _, rfl, rfl, SqT.of k53.web.w, atI_nat (j := 1) rfl, ta, _, rfl, .inr (SqT.of k53.web.t), u2, _, _, rfl, rfl, upd_same, (fun z => by cases z), by omega, by rw [List.length_map]; omega, by show 1 ≤ 1000; decide, fun p22 H54 e54 h22 => ?_⟩
            have k54 := k53.ex e54
            have h22' : H54 p22 = some (.tup ((List.replicate W.length (0 : Int)).map V.int)) := by rw [h22, List.length_map, hrl, Int.toNat_natCast, flat_rep, List.map_replicate]
            refine rNe_ints (xs := pull W (at0 (List.replicate n (at0 hs 0)))) (ys := List.replicate W.length 0) (e54 _ _ (Ex.new hu2 _ _ h21)) h22' ⟨false, by rw [decide_eq_true (pull_level good _)]; rfl, iteF ?_⟩
            clear k k51 k52 k53 h20 h20' h21 h22 h22' e51 e52 e54 hu1 hu2
            refine ⟨_, rfl, (n : Int), rfl, by omega, by omega, fun D hD => ?_⟩
            have nD := k54.mill.ne hD
            refine lc_range (lo := 0) (n := ((n : Int)).toNat) (fun i H' => ∃ lt : List Int, Mx m H54 H' ∧ H' D = some (.lst (lt.map V.int)) ∧ Asc i lt)
              ⟨[], .of_ex k54.mill (Ex.new hD), upd_same, asc_nil⟩ (fun i H' hi ⟨lt, c, hL, has⟩ => ?_) (fun H60a ⟨lot2, c, hL, hasc⟩ => ?_)
            · have zi : V.int (0 + (i : Int)) = V.int i := by rw [Int.zero_add]
              rw [zi]
              refine ⟨rfl, _, rfl, m, 2, rfl, c.mill, by omega, by omega, fun r g x _ _ => ⟨rfl, _, rfl, ?_⟩⟩
              have hL2 : (upd H' m (.lst [.int g, .int x])) D = some (.lst (lt.map V.int)) := by rw [upd_ne nD]; exact hL
              refine ite2 (fun _ => ⟨_, rfl, lt.map V.int, hL2, sz_lt (by have := has.few; simp; omega), lt ++ [(i : Int)], (c.trans (.put g x)).mut hD nD, by rw [upd_same, List.map_append]; rfl, has.put⟩) (fun _ => ⟨lt, c.trans (.put g x), hL2, has.skip⟩)
            rw [Int.toNat_natCast] at hasc
            refine ⟨D, _, rfl, .inl ⟨SqL.of hL, fun pl2 hpl_ => ?_⟩⟩
            have xl := c.ex (Ex.new (o := .tup (lot2.map V.int)) hpl_)
            have hlt : (upd H60a pl2 (.tup (lot2.map V.int))) pl2 = some (.tup (lot2.map V.int)) := upd_same
            clear hL c hpl_ hD nD
            revert xl hlt
            generalize upd H60a pl2 (.tup (lot2.map V.int)) = H60
            intro xl hlt
            have k60 := k54.go xl
            clear xl k54
            refine ⟨_, rfl, (n : Int), rfl, by omega, by omega, fun D hD => ?_⟩
            refine lc_range (lo := 0) (n := ((n : Int)).toNat) (fun i H' => ∃ rt : List Int, Ex H60 H' ∧ H' D = some (.lst (rt.map V.int)) ∧ Asc i rt ∧ ∀ p : Nat, p < i → ((p : Int) ∈ rt ↔ ¬ (p : Int) ∈ lot2))
              ⟨[], Ex.new hD, upd_same, asc_nil, fun p hp => by omega⟩ (fun i H' hi ⟨rt, c, hL, has, hrt⟩ => ?_) (fun H61 ⟨rt, c, hL, hart, hrt⟩ => ?_)
            · have zi : V.int (0 + (i : Int)) = V.int i := by rw [Int.zero_add]
              rw [zi]
              refine ⟨rfl, _, rfl, _, rfl, pl2, _, rfl, .inr (SqT.of (c _ _ hlt)), rfl, flat_ints lot2, _, rfl, ?_⟩
              have hin2 : (if true = true then !inV (.int (i : Int)) (lot2.map V.int) else inV (.int (i : Int)) (lot2.map V.int)) = !decide ((i : Int) ∈ lot2) := by rw [inV_int]; rfl
              rw [hin2]
              by_cases hc : (i : Int) ∈ lot2
              · rw [decide_eq_true hc]
                refine iteF ⟨rt, c, hL, has.skip, fun p hp => ?_⟩
                by_cases e : p = i
                · subst e
                  refine ⟨fun h => ?_, fun h => absurd hc h⟩
                  have := (has.lo _ h).2
                  omega
                · exact hrt p (by omega)
              · rw [decide_eq_false hc]
                refine iteT ⟨_, rfl, rt.map V.int, hL, sz_lt (by have := has.few; simp; omega), rt ++ [(i : Int)], c.mut hD, by rw [upd_same, List.map_append]; rfl, has.put, fun p hp => ?_⟩
                rw [List.mem_append]
                by_cases e : p = i
                · subst e
                  exact ⟨fun _ => hc, fun _ => .inr (by simp)⟩
                · have := hrt p (by omega)
                  constructor
                  · rintro (h | h)
                    · exact this.mp h
                    · have : (p : Int) = (i : Int) := by simpa using h
                      omega
                  · exact fun h => .inl (this.mpr h)
            rw [Int.toNat_natCast] at hart hrt
            refine ⟨D, _, rfl, .inl ⟨SqL.of hL, fun p23 hp23 => ?_⟩⟩
            have e62 := c.trans (Ex.new (o := .tup (rt.map V.int)) hp23)
            have k62 := k60.ex e62
            have hlt62 := e62 _ _ hlt
            have h23 : (upd H61 p23 (.tup (rt.map V.int))) p23 = some (.tup (rt.map V.int)) := upd_same
            clear e62 c hL hD hp23 hlt k60
            revert k62 hlt62 h23
            generalize upd H61 p23 (.tup (rt.map V.int)) = H62
            intro k62 hlt62 h23
            refine ⟨_, rfl, _, rfl, a, n, W, ta, rs, p23, rt, rfl, k62.web, h23, hart.lot hn, fun p24 H63 e63 _ h24 => ?_⟩
            have k63 := k62.ex e63
            refine ⟨_, rfl, _, rfl, a, n, W, ta, rs, pl2, lot2, rfl, k63.web, e63 _ _ hlt62, hasc.lot hn, fun p25 H64 e64 _ h25 => ⟨p25, rfl, ⟨_, SqT.of h25⟩, fun D hD => ?_⟩⟩
            have k64 := k63.ex e64
            have hpi : (pull W (ind lot2)).length = W.length := KM.pull_length _ _
            refine lc_tup (K := K) (a := p25) (xs := (pull W (ind lot2)).map V.int) (Cw H64 (upto fun j => .int (-at0 (pull W (ind lot2)) j)) D) (Cw.start hD rfl) (fun i H' _ c => SqT.of (c.ex _ _ h25)) (fun i x H' hx c => ?_) (fun H65 c => ?_)
            · obtain ⟨z, hz, rfl⟩ := ints_at hx
              have hi : i < (pull W (ind lot2)).length := (List.getElem?_eq_some_iff.mp hz).1
              have ez : z = at0 (pull W (ind lot2)) i := by simp [at0, List.getD_eq_getElem?_getD, hz]
              subst ez
              exact ⟨rfl, _, rfl, _, rfl, c.put (Ex.refl _) (upto_succ _ _) (by rw [upto_len]; omega)⟩
            refine ⟨D, _, rfl, .inl ⟨SqL.of c.at_, fun p26 hp26 => ?_⟩⟩
            have e66 := c.ex.trans (Ex.new (o := .tup (upto (fun j => .int (-at0 (pull W (ind lot2)) j)) ((pull W (ind lot2)).map V.int).length)) hp26)
            have k66 := k64.ex e66
            have hneg : pull W (ind rt) = (List.range W.length).map fun j => -at0 (pull W (ind lot2)) j := by
              rw [pull_rest good hrt]
              refine List.ext_getElem (by simp [hpi]) fun j h1 h2 => ?_
              have hj : j < (pull W (ind lot2)).length := by simpa using h1
              simp [at0, List.getD_eq_getElem?_getD, hj]
            refine rEq_ints (xs := pull W (ind rt)) (ys := (List.range W.length).map fun j => -at0 (pull W (ind lot2)) j) (e66 _ _ (e64 _ _ h24)) (by rw [upd_same, List.length_map, hpi, upto_list]) ⟨true, congrArg V.bl (decide_eq_true hneg), iteT ?_⟩
            refine ⟨_, rfl, by show 1 ≤ sizeLine; decide, fun u3 hu3 => ?_⟩
            have k67 := k66.ex (Ex.new (o := .tup [V.int 0]) hu3)
            refine ⟨_, rfl, a, _, 1, _, rfl, rfl, SqT.of k67.web.w, atI_nat (j := 1) rfl, ta, _, rfl, .inr (SqT.of k67.web.t), u3, _, _, rfl, rfl, upd_same, (fun z => by cases z), by omega, by rw [List.length_map]; omega, by show 1 ≤ 1000; decide, fun p27 H68 e68 h27 => ?_⟩
            have k68 := k67.ex e68
            refine ⟨a, n, W, ta, rs, p27, rfl, k68.web, by rw [h27, List.length_map, hrl, Int.toNat_natCast, flat_rep, List.map_replicate], fun p28 H69 e69 h28 => ?_⟩
            refine ⟨by show 1 ≤ sizeLine; decide, fun u4 hu4 => ?_⟩
            refine ⟨_, rfl, u4, (n : Int), _, rfl, rfl, upd_same, (fun z => by cases z), by omega, by omega, by show 1 ≤ 1000; decide, fun p29 H70 e70 h29 => ?_⟩
            exact rEq_ints (xs := List.replicate n 0) (ys := List.replicate n 0) (e70 _ _ (Ex.new hu4 _ _ h28)) (by rw [h29, Int.toNat_natCast, flat_rep, List.map_replicate]) (qT (Q := Q) (decide_eq_true rfl) (q _))
end
end KW
namespace KW
open PySem PySem.Spec PyProof.Rows L2 KR RZ
/-- a def of the top, as the head finds it -/
def Has (K : PySem.W.Frag) (x : Str) (st : Stmt) : Prop := ∃ (f : Addr) (fd : FuncData), PySem.W.nsIn K mainGlobals x = some (some (.ref f)) ∧ Fun K x x st f fd
theorem has_mk {K : PySem.W.Frag} {x : Str} {st : Stmt} {f : Addr} {oc : Value} {od an : Option Addr} {osl : Array (Option Value)} {kV doc pm cdv ct : Value} (a : PySem.W.nsIn K mainGlobals x = some (some (.ref f)))
    (l : K.lookup f = some ⟨oc, od, .func (PySem.W.fnOf x x (defArgs st) (defBody st) (defScope st) .none kV doc pm an cdv ct), osl⟩) (c : PySem.W.codeIn K cdv x = true) (k : PySem.W.keepIn K (.ref f) = true) : Has K x st := ⟨f, _, a, fun_mk l c k⟩
theorem all_mk {l : PySem.W.OpenLaw} {w : World} {K : PySem.W.Frag} {h : Heap} {mg : Str → Option Value} {fa : Addr} {t1 t2 t3 : Tok} (X : K.In h) (G : h.Ns mainGlobals mg) (hfa : mg "law" = some (.ref fa))
    (h_is_integer : Has K "is_integer" s_is_integer)
    (h_is_between : Has K "is_between" s_is_between)
    (h_is_tuple_of : Has K "is_tuple_of" s_is_tuple_of)
    (h_is_lot_of : Has K "is_lot_of" s_is_lot_of)
    (h_check_lot : Has K "check_lot" s_check_lot)
    (h_is_web : Has K "is_web" s_is_web)
    (h_check_web : Has K "check_web" s_check_web)
    (h_excess_of : Has K "excess_of" s_excess_of)
    (h_are_amounts : Has K "are_amounts" s_are_amounts)
    (h_is_flow_of : Has K "is_flow_of" s_is_flow_of)
    (h_is_flow : Has K "is_flow" s_is_flow)
    (h_check_heights : Has K "check_heights" s_check_heights)
    (h_pull_by : Has K "pull_by" s_pull_by)
    (h_pull_of : Has K "pull_of" s_pull_of)
    (h_lot_pull : Has K "lot_pull" s_lot_pull)
    (h_heights_by : Has K "heights_by" s_heights_by)
    (h_is_pull_of : Has K "is_pull_of" s_is_pull_of)
    (h_is_pull : Has K "is_pull" s_is_pull)
    (h_check_pull : Has K "check_pull" s_check_pull)
    (h_heights_of : Has K "heights_of" s_heights_of)
    (h_mill : Has K "_law_mill" s_mill)
    (h_grind : Has K "_law_grind" s_grind)
    (h_row : Has K "_law_row" s_row)
    (h_web : Has K "_law_web" s_web)
    (h_great : Has K "_law_great" s_great)
    (h_ring : Has K "_law_ring" s_ring)
    (h_some_flow : Has K "_law_some_flow" s_some_flow)
    (h_drawn : Has K "_law_drawn_heights" s_drawn)
    (h_sum : Has K "_law_sum" s_sum)
    (h_rings : Has K "_law_rings" s_rings)
    (h_law : Has K "law" s_law)
    (z_isinstance : PySem.W.nsIn K mainGlobals "isinstance" = some none)
    (z_len : PySem.W.nsIn K mainGlobals "len" = some none)
    (z_all : PySem.W.nsIn K mainGlobals "all" = some none)
    (z_any : PySem.W.nsIn K mainGlobals "any" = some none)
    (z_sum : PySem.W.nsIn K mainGlobals "sum" = some none)
    (z_max : PySem.W.nsIn K mainGlobals "max" = some none)
    (z_abs : PySem.W.nsIn K mainGlobals "abs" = some none)
    (z_tuple : PySem.W.nsIn K mainGlobals "tuple" = some none)
    (z_int : PySem.W.nsIn K mainGlobals "int" = some none)
    (z_bool : PySem.W.nsIn K mainGlobals "bool" = some none)
    (z_list : PySem.W.nsIn K mainGlobals "list" = some none)
    (z_range : PySem.W.nsIn K mainGlobals "range" = some none)
    (z_zip : PySem.W.nsIn K mainGlobals "zip" = some none)
    (c_1 : PySem.W.nsIn K mainGlobals "MOST_PLACES" = some (some (.int 10 t1))) (c_2 : PySem.W.nsIn K mainGlobals "MOST_ARROWS" = some (some (.int 15 t2))) (c_3 : PySem.W.nsIn K mainGlobals "MOST_HEIGHT" = some (some (.int (10 ^ 60) t3))) :
    ∃ fd : FuncData, (∀ (s : Shared) (v : Value), BindsTo s fd ⟨[v], []⟩ [("_law_script", v)]) ∧ ∀ base : Heap, K.In base → base.Ns mainGlobals mg → FnOk l.prog w K mg base CX0 6 fa fd ["_law_script"] (spLaw K) := by
  have B : Bt mg := ⟨PySem.W.mg_none_of X G z_isinstance, PySem.W.mg_none_of X G z_len, PySem.W.mg_none_of X G z_all, PySem.W.mg_none_of X G z_any, PySem.W.mg_none_of X G z_sum, PySem.W.mg_none_of X G z_max, PySem.W.mg_none_of X G z_abs, PySem.W.mg_none_of X G z_tuple, PySem.W.mg_none_of X G z_int, PySem.W.mg_none_of X G z_bool, PySem.W.mg_none_of X G z_list, PySem.W.mg_none_of X G z_range, PySem.W.mg_none_of X G z_zip⟩
  have C : Cn mg t1 t2 t3 := ⟨PySem.W.mg_of X G c_1, PySem.W.mg_of X G c_2, PySem.W.mg_of X G c_3⟩
  obtain ⟨f_is_integer, fd_is_integer, a_is_integer, F_is_integer⟩ := h_is_integer
  obtain ⟨f_is_between, fd_is_between, a_is_between, F_is_between⟩ := h_is_between
  obtain ⟨f_is_tuple_of, fd_is_tuple_of, a_is_tuple_of, F_is_tuple_of⟩ := h_is_tuple_of
  obtain ⟨f_is_lot_of, fd_is_lot_of, a_is_lot_of, F_is_lot_of⟩ := h_is_lot_of
  obtain ⟨f_check_lot, fd_check_lot, a_check_lot, F_check_lot⟩ := h_check_lot
  obtain ⟨f_is_web, fd_is_web, a_is_web, F_is_web⟩ := h_is_web
  obtain ⟨f_check_web, fd_check_web, a_check_web, F_check_web⟩ := h_check_web
  obtain ⟨f_excess_of, fd_excess_of, a_excess_of, F_excess_of⟩ := h_excess_of
  obtain ⟨f_are_amounts, fd_are_amounts, a_are_amounts, F_are_amounts⟩ := h_are_amounts
  obtain ⟨f_is_flow_of, fd_is_flow_of, a_is_flow_of, F_is_flow_of⟩ := h_is_flow_of
  obtain ⟨f_is_flow, fd_is_flow, a_is_flow, F_is_flow⟩ := h_is_flow
  obtain ⟨f_check_heights, fd_check_heights, a_check_heights, F_check_heights⟩ := h_check_heights
  obtain ⟨f_pull_by, fd_pull_by, a_pull_by, F_pull_by⟩ := h_pull_by
  obtain ⟨f_pull_of, fd_pull_of, a_pull_of, F_pull_of⟩ := h_pull_of
  obtain ⟨f_lot_pull, fd_lot_pull, a_lot_pull, F_lot_pull⟩ := h_lot_pull
  obtain ⟨f_heights_by, fd_heights_by, a_heights_by, F_heights_by⟩ := h_heights_by
  obtain ⟨f_is_pull_of, fd_is_pull_of, a_is_pull_of, F_is_pull_of⟩ := h_is_pull_of
  obtain ⟨f_is_pull, fd_is_pull, a_is_pull, F_is_pull⟩ := h_is_pull
  obtain ⟨f_check_pull, fd_check_pull, a_check_pull, F_check_pull⟩ := h_check_pull
  obtain ⟨f_heights_of, fd_heights_of, a_heights_of, F_heights_of⟩ := h_heights_of
  obtain ⟨f_mill, fd_mill, a_mill, F_mill⟩ := h_mill
  obtain ⟨f_grind, fd_grind, a_grind, F_grind⟩ := h_grind
  obtain ⟨f_row, fd_row, a_row, F_row⟩ := h_row
  obtain ⟨f_web, fd_web, a_web, F_web⟩ := h_web
  obtain ⟨f_great, fd_great, a_great, F_great⟩ := h_great
  obtain ⟨f_ring, fd_ring, a_ring, F_ring⟩ := h_ring
  obtain ⟨f_some_flow, fd_some_flow, a_some_flow, F_some_flow⟩ := h_some_flow
  obtain ⟨f_drawn, fd_drawn, a_drawn, F_drawn⟩ := h_drawn
  obtain ⟨f_sum, fd_sum, a_sum, F_sum⟩ := h_sum
  obtain ⟨f_rings, fd_rings, a_rings, F_rings⟩ := h_rings
  obtain ⟨f_law, fd_law, a_law, F_law⟩ := h_law
  have e := hfa.symm.trans (PySem.W.mg_of X G a_law)
  cases e
  have b_is_integer : Binds K fd_is_integer P_is_integer [] := F_is_integer.binds (ps := P_is_integer) fun _ _ _ _ _ _ us hl => match us, hl with | [_], _ => rfl
  have b_is_between : Binds K fd_is_between P_is_between [] := F_is_between.binds (ps := P_is_between) fun _ _ _ _ _ _ us hl => match us, hl with | [_, _, _], _ => rfl
  have b_is_tuple_of : Binds K fd_is_tuple_of P_is_tuple_of [] := F_is_tuple_of.binds (ps := P_is_tuple_of) fun _ _ _ _ _ _ us hl => match us, hl with | [_, _], _ => rfl
  have b_is_lot_of : Binds K fd_is_lot_of P_is_lot_of [] := F_is_lot_of.binds (ps := P_is_lot_of) fun _ _ _ _ _ _ us hl => match us, hl with | [_, _], _ => rfl
  have b_check_lot : Binds K fd_check_lot P_check_lot [] := F_check_lot.binds (ps := P_check_lot) fun _ _ _ _ _ _ us hl => match us, hl with | [_, _], _ => rfl
  have b_is_web : Binds K fd_is_web P_is_web [] := F_is_web.binds (ps := P_is_web) fun _ _ _ _ _ _ us hl => match us, hl with | [_], _ => rfl
  have b_check_web : Binds K fd_check_web P_check_web [] := F_check_web.binds (ps := P_check_web) fun _ _ _ _ _ _ us hl => match us, hl with | [_], _ => rfl
  have b_excess_of : Binds K fd_excess_of P_excess_of [] := F_excess_of.binds (ps := P_excess_of) fun _ _ _ _ _ _ us hl => match us, hl with | [_, _], _ => rfl
  have b_are_amounts : Binds K fd_are_amounts P_are_amounts [] := F_are_amounts.binds (ps := P_are_amounts) fun _ _ _ _ _ _ us hl => match us, hl with | [_, _], _ => rfl
  have b_is_flow_of : Binds K fd_is_flow_of P_is_flow_of [] := F_is_flow_of.binds (ps := P_is_flow_of) fun _ _ _ _ _ _ us hl => match us, hl with | [_, _], _ => rfl
  have b_is_flow : Binds K fd_is_flow P_is_flow [] := F_is_flow.binds (ps := P_is_flow) fun _ _ _ _ _ _ us hl => match us, hl with | [_, _], _ => rfl
  have b_check_heights : Binds K fd_check_heights P_check_heights [] := F_check_heights.binds (ps := P_check_heights) fun _ _ _ _ _ _ us hl => match us, hl with | [_, _], _ => rfl
  have b_pull_by : Binds K fd_pull_by P_pull_by [] := F_pull_by.binds (ps := P_pull_by) fun _ _ _ _ _ _ us hl => match us, hl with | [_, _], _ => rfl
  have b_pull_of : Binds K fd_pull_of P_pull_of [] := F_pull_of.binds (ps := P_pull_of) fun _ _ _ _ _ _ us hl => match us, hl with | [_, _], _ => rfl
  have b_lot_pull : Binds K fd_lot_pull P_lot_pull [] := F_lot_pull.binds (ps := P_lot_pull) fun _ _ _ _ _ _ us hl => match us, hl with | [_, _], _ => rfl
  have b_heights_by : Binds K fd_heights_by P_heights_by [] := F_heights_by.binds (ps := P_heights_by) fun _ _ _ _ _ _ us hl => match us, hl with | [_, _], _ => rfl
  have b_is_pull_of : Binds K fd_is_pull_of P_is_pull_of [] := F_is_pull_of.binds (ps := P_is_pull_of) fun _ _ _ _ _ _ us hl => match us, hl with | [_, _], _ => rfl
  have b_is_pull : Binds K fd_is_pull P_is_pull [] := F_is_pull.binds (ps := P_is_pull) fun _ _ _ _ _ _ us hl => match us, hl with | [_, _], _ => rfl
  have b_check_pull : Binds K fd_check_pull P_check_pull [] := F_check_pull.binds (ps := P_check_pull) fun _ _ _ _ _ _ us hl => match us, hl with | [_, _], _ => rfl
  have b_heights_of : Binds K fd_heights_of P_heights_of [] := F_heights_of.binds (ps := P_heights_of) fun _ _ _ _ _ _ us hl => match us, hl with | [_, _], _ => rfl
  have b_mill : Binds K fd_mill P_mill [] := F_mill.binds (ps := P_mill) fun _ _ _ _ _ _ us hl => match us, hl with | [_], _ => rfl
  have b_grind : Binds K fd_grind P_grind [] := F_grind.binds (ps := P_grind) fun _ _ _ _ _ _ us hl => match us, hl with | [_, _], _ => rfl
  have b_row : Binds K fd_row P_row [] := F_row.binds (ps := P_row) fun _ _ _ _ _ _ us hl => match us, hl with | [_, _], _ => rfl
  have b_web : Binds K fd_web P_web [] := F_web.binds (ps := P_web) fun _ _ _ _ _ _ us hl => match us, hl with | [_, _, _], _ => rfl
  have b_great : Binds K fd_great P_great [] := F_great.binds (ps := P_great) fun _ _ _ _ _ _ us hl => match us, hl with | [_], _ => rfl
  have b_ring : Binds K fd_ring P_ring [] := F_ring.binds (ps := P_ring) fun _ _ _ _ _ _ us hl => match us, hl with | [_, _], _ => rfl
  have b_some_flow : Binds K fd_some_flow P_some_flow [] := F_some_flow.binds (ps := P_some_flow) fun _ _ _ _ _ _ us hl => match us, hl with | [_, _], _ => rfl
  have b_drawn : Binds K fd_drawn P_drawn [] := F_drawn.binds (ps := P_drawn) fun _ _ _ _ _ _ us hl => match us, hl with | [_, _], _ => rfl
  have b_sum : Binds K fd_sum P_sum [] := F_sum.binds (ps := P_sum) fun _ _ _ _ _ _ us hl => match us, hl with | [_, _], _ => rfl
  have b_rings : Binds K fd_rings P_rings [] := F_rings.binds (ps := P_rings) fun _ _ _ _ _ _ us hl => match us, hl with | [_], _ => rfl
  refine ⟨fd_law, ?_, fun base _ _ => ?_⟩
  · obtain ⟨oc, od, kV, doc, pm, an, cdv, ct, osl, rfl, lk, hc⟩ := F_law.ex
    exact fun s v => .of_eq rfl
  have D_is_integer : Def l.prog w K mg base "is_integer" P_is_integer 1 spInt := ⟨⟨f_is_integer, fd_is_integer, ok_is_integer B F_is_integer, PySem.W.mg_of X G a_is_integer, F_is_integer.kp, b_is_integer⟩⟩
  have D_is_between : Def l.prog w K mg base "is_between" P_is_between 2 spBetween := ⟨⟨f_is_between, fd_is_between, ok_is_between D_is_integer F_is_between, PySem.W.mg_of X G a_is_between, F_is_between.kp, b_is_between⟩⟩
  have D_is_tuple_of : Def l.prog w K mg base "is_tuple_of" P_is_tuple_of 1 spTupleOf := ⟨⟨f_is_tuple_of, fd_is_tuple_of, ok_is_tuple_of B F_is_tuple_of, PySem.W.mg_of X G a_is_tuple_of, F_is_tuple_of.kp, b_is_tuple_of⟩⟩
  have D_is_lot_of : Def l.prog w K mg base "is_lot_of" P_is_lot_of 3 spLotOf := ⟨⟨f_is_lot_of, fd_is_lot_of, ok_is_lot_of B D_is_between F_is_lot_of, PySem.W.mg_of X G a_is_lot_of, F_is_lot_of.kp, b_is_lot_of⟩⟩
  have D_check_lot : Def l.prog w K mg base "check_lot" P_check_lot 4 spCheckLot := ⟨⟨f_check_lot, fd_check_lot, ok_check_lot D_is_lot_of F_check_lot, PySem.W.mg_of X G a_check_lot, F_check_lot.kp, b_check_lot⟩⟩
  have D_is_web : Def l.prog w K mg base "is_web" P_is_web 3 spIsWeb := ⟨⟨f_is_web, fd_is_web, ok_is_web B C D_is_between D_is_tuple_of F_is_web, PySem.W.mg_of X G a_is_web, F_is_web.kp, b_is_web⟩⟩
  have D_check_web : Def l.prog w K mg base "check_web" P_check_web 4 spCheckWeb := ⟨⟨f_check_web, fd_check_web, ok_check_web D_is_web F_check_web, PySem.W.mg_of X G a_check_web, F_check_web.kp, b_check_web⟩⟩
  have D_excess_of : Def l.prog w K mg base "excess_of" P_excess_of 1 spExcess := ⟨⟨f_excess_of, fd_excess_of, ok_excess_of B F_excess_of, PySem.W.mg_of X G a_excess_of, F_excess_of.kp, b_excess_of⟩⟩
  have D_are_amounts : Def l.prog w K mg base "are_amounts" P_are_amounts 2 spAmounts := ⟨⟨f_are_amounts, fd_are_amounts, ok_are_amounts B D_is_integer D_is_tuple_of F_are_amounts, PySem.W.mg_of X G a_are_amounts, F_are_amounts.kp, b_are_amounts⟩⟩
  have D_is_flow_of : Def l.prog w K mg base "is_flow_of" P_is_flow_of 3 spIsFlow := ⟨⟨f_is_flow_of, fd_is_flow_of, ok_is_flow_of B D_excess_of D_are_amounts F_is_flow_of, PySem.W.mg_of X G a_is_flow_of, F_is_flow_of.kp, b_is_flow_of⟩⟩
  have D_is_flow : Def l.prog w K mg base "is_flow" P_is_flow 5 spIsFlow := ⟨⟨f_is_flow, fd_is_flow, ok_is_flow D_check_web D_is_flow_of F_is_flow, PySem.W.mg_of X G a_is_flow, F_is_flow.kp, b_is_flow⟩⟩
  have D_check_heights : Def l.prog w K mg base "check_heights" P_check_heights 3 spCheckHeights := ⟨⟨f_check_heights, fd_check_heights, ok_check_heights B C D_is_between D_is_tuple_of F_check_heights, PySem.W.mg_of X G a_check_heights, F_check_heights.kp, b_check_heights⟩⟩
  have D_pull_by : Def l.prog w K mg base "pull_by" P_pull_by 1 spPullBy := ⟨⟨f_pull_by, fd_pull_by, ok_pull_by B F_pull_by, PySem.W.mg_of X G a_pull_by, F_pull_by.kp, b_pull_by⟩⟩
  have D_pull_of : Def l.prog w K mg base "pull_of" P_pull_of 5 spPullOf := ⟨⟨f_pull_of, fd_pull_of, ok_pull_of D_check_web D_check_heights D_pull_by F_pull_of, PySem.W.mg_of X G a_pull_of, F_pull_of.kp, b_pull_of⟩⟩
  have D_lot_pull : Def l.prog w K mg base "lot_pull" P_lot_pull 5 spLotPull := ⟨⟨f_lot_pull, fd_lot_pull, ok_lot_pull B D_check_web D_check_lot D_pull_by F_lot_pull, PySem.W.mg_of X G a_lot_pull, F_lot_pull.kp, b_lot_pull⟩⟩
  have D_heights_by : Def l.prog w K mg base "heights_by" P_heights_by 1 spHeightsBy := ⟨⟨f_heights_by, fd_heights_by, ok_heights_by B F_heights_by, PySem.W.mg_of X G a_heights_by, F_heights_by.kp, b_heights_by⟩⟩
  have D_is_pull_of : Def l.prog w K mg base "is_pull_of" P_is_pull_of 3 spIsPull := ⟨⟨f_is_pull_of, fd_is_pull_of, ok_is_pull_of D_are_amounts D_heights_by D_pull_by F_is_pull_of, PySem.W.mg_of X G a_is_pull_of, F_is_pull_of.kp, b_is_pull_of⟩⟩
  have D_is_pull : Def l.prog w K mg base "is_pull" P_is_pull 5 spIsPull := ⟨⟨f_is_pull, fd_is_pull, ok_is_pull D_check_web D_is_pull_of F_is_pull, PySem.W.mg_of X G a_is_pull, F_is_pull.kp, b_is_pull⟩⟩
  have D_check_pull : Def l.prog w K mg base "check_pull" P_check_pull 4 spCheckPull := ⟨⟨f_check_pull, fd_check_pull, ok_check_pull B C D_is_pull_of F_check_pull, PySem.W.mg_of X G a_check_pull, F_check_pull.kp, b_check_pull⟩⟩
  have D_heights_of : Def l.prog w K mg base "heights_of" P_heights_of 5 spHeightsOf := ⟨⟨f_heights_of, fd_heights_of, ok_heights_of B D_check_web D_check_pull D_heights_by F_heights_of, PySem.W.mg_of X G a_heights_of, F_heights_of.kp, b_heights_of⟩⟩
  have D_mill : Def l.prog w K mg base "_law_mill" P_mill 1 (spMill K) := ⟨⟨f_mill, fd_mill, ok_mill B F_mill, PySem.W.mg_of X G a_mill, F_mill.kp, b_mill⟩⟩
  have D_grind : Def l.prog w K mg base "_law_grind" P_grind 1 spGrind := ⟨⟨f_grind, fd_grind, ok_grind B F_grind, PySem.W.mg_of X G a_grind, F_grind.kp, b_grind⟩⟩
  have D_row : Def l.prog w K mg base "_law_row" P_row 2 spRow := ⟨⟨f_row, fd_row, ok_row B D_grind F_row, PySem.W.mg_of X G a_row, F_row.kp, b_row⟩⟩
  have D_web : Def l.prog w K mg base "_law_web" P_web 3 spMakeWeb := ⟨⟨f_web, fd_web, ok_web B D_grind D_row F_web, PySem.W.mg_of X G a_web, F_web.kp, b_web⟩⟩
  have D_great : Def l.prog w K mg base "_law_great" P_great 4 spGreat := ⟨⟨f_great, fd_great, ok_great D_web F_great, PySem.W.mg_of X G a_great, F_great.kp, b_great⟩⟩
  have D_ring : Def l.prog w K mg base "_law_ring" P_ring 1 spRing := ⟨⟨f_ring, fd_ring, ok_ring B F_ring, PySem.W.mg_of X G a_ring, F_ring.kp, b_ring⟩⟩
  have D_some_flow : Def l.prog w K mg base "_law_some_flow" P_some_flow 2 spSomeFlow := ⟨⟨f_some_flow, fd_some_flow, ok_some_flow B D_grind D_ring F_some_flow, PySem.W.mg_of X G a_some_flow, F_some_flow.kp, b_some_flow⟩⟩
  have D_drawn : Def l.prog w K mg base "_law_drawn_heights" P_drawn 2 spDrawn := ⟨⟨f_drawn, fd_drawn, ok_drawn B D_grind F_drawn, PySem.W.mg_of X G a_drawn, F_drawn.kp, b_drawn⟩⟩
  have D_sum : Def l.prog w K mg base "_law_sum" P_sum 1 spSum := ⟨⟨f_sum, fd_sum, ok_sum B F_sum, PySem.W.mg_of X G a_sum, F_sum.kp, b_sum⟩⟩
  have D_rings : Def l.prog w K mg base "_law_rings" P_rings 2 spRings := ⟨⟨f_rings, fd_rings, ok_rings B D_ring F_rings, PySem.W.mg_of X G a_rings, F_rings.kp, b_rings⟩⟩
  exact ok_law B D_mill D_great D_drawn D_pull_of D_some_flow D_sum D_is_flow D_rings D_lot_pull D_grind D_is_pull D_heights_of F_law
end KW
open PySem PySem.W PyProof.Rows in
set_option maxRecDepth 100000 in
set_option maxHeartbeats 0 in
theorem PySem.Challenge.cw_everyflow_k75_whole_pulls_and_flows_upri_holds : PySem.Challenge.rw_everyflow_k75_whole_pulls_and_flows_upri.Holds := by
  w_on; o_law; k_head; (case hw => w_witness2)
  k_fill
  refine L2.walk_ofB (l := PySem.Challenge.rw_everyflow_k75_whole_pulls_and_flows_upri) (n := 63) (k := 6) (x := "_law_script") (CX := fun _ => L2.CX0) (sp := fun w => KW.spLaw _) rfl (by decide) rfl ⟨rfl, by decide, by decide⟩ (fun w h Y => PySem.W.kIn_of Y) ?F (fun _ _ a ns hl hb _ hS => ⟨a, ns, rfl, hS, hl, hb, fun _ => rfl⟩) (fun _ _ _ _ _ h => h)
  case F =>
    intro w mg fa h KX G hmg
    refine' KW.all_mk KX G hmg ?h_is_integer ?h_is_between ?h_is_tuple_of ?h_is_lot_of ?h_check_lot ?h_is_web ?h_check_web ?h_excess_of ?h_are_amounts ?h_is_flow_of ?h_is_flow ?h_check_heights ?h_pull_by ?h_pull_of ?h_lot_pull ?h_heights_by ?h_is_pull_of ?h_is_pull ?h_check_pull ?h_heights_of ?h_mill ?h_grind ?h_row ?h_web ?h_great ?h_ring ?h_some_flow ?h_drawn ?h_sum ?h_rings ?h_law ?z_isinstance ?z_len ?z_all ?z_any ?z_sum ?z_max ?z_abs ?z_tuple ?z_int ?z_bool ?z_list ?z_range ?z_zip ?c_1 ?c_2 ?c_3
    (case h_is_integer => refine' KW.has_mk ?a ?l ?c ?k; (case a => k_is); (case l => k_is); (case c => k_is); (case k => k_is))
    (case h_is_between => refine' KW.has_mk ?a ?l ?c ?k; (case a => k_is); (case l => k_is); (case c => k_is); (case k => k_is))
    (case h_is_tuple_of => refine' KW.has_mk ?a ?l ?c ?k; (case a => k_is); (case l => k_is); (case c => k_is); (case k => k_is))
    (case h_is_lot_of => refine' KW.has_mk ?a ?l ?c ?k; (case a => k_is); (case l => k_is); (case c => k_is); (case k => k_is))
    (case h_check_lot => refine' KW.has_mk ?a ?l ?c ?k; (case a => k_is); (case l => k_is); (case c => k_is); (case k => k_is))
    (case h_is_web => refine' KW.has_mk ?a ?l ?c ?k; (case a => k_is); (case l => k_is); (case c => k_is); (case k => k_is))
    (case h_check_web => refine' KW.has_mk ?a ?l ?c ?k; (case a => k_is); (case l => k_is); (case c => k_is); (case k => k_is))
    (case h_excess_of => refine' KW.has_mk ?a ?l ?c ?k; (case a => k_is); (case l => k_is); (case c => k_is); (case k => k_is))
    (case h_are_amounts => refine' KW.has_mk ?a ?l ?c ?k; (case a => k_is); (case l => k_is); (case c => k_is); (case k => k_is))
    (case h_is_flow_of => refine' KW.has_mk ?a ?l ?c ?k; (case a => k_is); (case l => k_is); (case c => k_is); (case k => k_is))
    (case h_is_flow => refine' KW.has_mk ?a ?l ?c ?k; (case a => k_is); (case l => k_is); (case c => k_is); (case k => k_is))
    (case h_check_heights => refine' KW.has_mk ?a ?l ?c ?k; (case a => k_is); (case l => k_is); (case c => k_is); (case k => k_is))
    (case h_pull_by => refine' KW.has_mk ?a ?l ?c ?k; (case a => k_is); (case l => k_is); (case c => k_is); (case k => k_is))
    (case h_pull_of => refine' KW.has_mk ?a ?l ?c ?k; (case a => k_is); (case l => k_is); (case c => k_is); (case k => k_is))
    (case h_lot_pull => refine' KW.has_mk ?a ?l ?c ?k; (case a => k_is); (case l => k_is); (case c => k_is); (case k => k_is))
    (case h_heights_by => refine' KW.has_mk ?a ?l ?c ?k; (case a => k_is); (case l => k_is); (case c => k_is); (case k => k_is))
    (case h_is_pull_of => refine' KW.has_mk ?a ?l ?c ?k; (case a => k_is); (case l => k_is); (case c => k_is); (case k => k_is))
    (case h_is_pull => refine' KW.has_mk ?a ?l ?c ?k; (case a => k_is); (case l => k_is); (case c => k_is); (case k => k_is))
    (case h_check_pull => refine' KW.has_mk ?a ?l ?c ?k; (case a => k_is); (case l => k_is); (case c => k_is); (case k => k_is))
    (case h_heights_of => refine' KW.has_mk ?a ?l ?c ?k; (case a => k_is); (case l => k_is); (case c => k_is); (case k => k_is))
    (case h_mill => refine' KW.has_mk ?a ?l ?c ?k; (case a => k_is); (case l => k_is); (case c => k_is); (case k => k_is))
    (case h_grind => refine' KW.has_mk ?a ?l ?c ?k; (case a => k_is); (case l => k_is); (case c => k_is); (case k => k_is))
    (case h_row => refine' KW.has_mk ?a ?l ?c ?k; (case a => k_is); (case l => k_is); (case c => k_is); (case k => k_is))
    (case h_web => refine' KW.has_mk ?a ?l ?c ?k; (case a => k_is); (case l => k_is); (case c => k_is); (case k => k_is))
    (case h_great => refine' KW.has_mk ?a ?l ?c ?k; (case a => k_is); (case l => k_is); (case c => k_is); (case k => k_is))
    (case h_ring => refine' KW.has_mk ?a ?l ?c ?k; (case a => k_is); (case l => k_is); (case c => k_is); (case k => k_is))
    (case h_some_flow => refine' KW.has_mk ?a ?l ?c ?k; (case a => k_is); (case l => k_is); (case c => k_is); (case k => k_is))
    (case h_drawn => refine' KW.has_mk ?a ?l ?c ?k; (case a => k_is); (case l => k_is); (case c => k_is); (case k => k_is))
    (case h_sum => refine' KW.has_mk ?a ?l ?c ?k; (case a => k_is); (case l => k_is); (case c => k_is); (case k => k_is))
    (case h_rings => refine' KW.has_mk ?a ?l ?c ?k; (case a => k_is); (case l => k_is); (case c => k_is); (case k => k_is))
    (case h_law => refine' KW.has_mk ?a ?l ?c ?k; (case a => k_is); (case l => k_is); (case c => k_is); (case k => k_is))
    (case z_isinstance => k_is)
    (case z_len => k_is)
    (case z_all => k_is)
    (case z_any => k_is)
    (case z_sum => k_is)
    (case z_max => k_is)
    (case z_abs => k_is)
    (case z_tuple => k_is)
    (case z_int => k_is)
    (case z_bool => k_is)
    (case z_list => k_is)
    (case z_range => k_is)
    (case z_zip => k_is)
    (case c_1 => k_is)
    (case c_2 => k_is)
    (case c_3 => k_is)
