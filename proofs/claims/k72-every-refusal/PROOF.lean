import PyProof.Rows.All
import Wide.All
import OpenK.AllK
import Wide.FinOn
import HandS.ForMost
import PySem.Challenge.RW_wholering_k72_whole_every_refusal_has_a
import HandS.Evl
import HandS.Walk
import HandS.TupAny
import HandS.Zip
import KE.KDictKeyed
import KE.KDictDisplayH
import KE.KEqDict
import KE.GoesEnum
import PyProof.EnumMake
import PyProof.MinMaxWalk
import PyProof.WalkInts
import PyProof.SeqI3
import HandS.TupSets
import HandS.ListItems
import HandS.IsInst
import HandS.Style
import HandS.Codes
import HandS.Words
import PyProof.P3In
import KE.KIntText
import HandS.IntHex
import HandS.Defaults
set_option linter.all false
/-! WrSums: total lengths and weights of messages, plain law (core Lean only). -/
namespace Wr
abbrev Kd := Int × Int
def len (ms : List Kd) : Int := (ms.map (·.1)).sum
def wt (ms : List Kd) : Int := (ms.map (·.2)).sum
def Frm (ks ms : List Kd) : Prop := ∀ m ∈ ms, m ∈ ks
def Good (ks : List Kd) : Prop := ∀ k ∈ ks, 1 ≤ k.1 ∧ k.1 ≤ 30 ∧ 1 ≤ k.2 ∧ k.2 ≤ 30
theorem len_nil : len [] = 0 := rfl
theorem wt_nil : wt [] = 0 := rfl
theorem len_cons (k : Kd) (ms : List Kd) : len (k :: ms) = k.1 + len ms := by simp [len]
theorem wt_cons (k : Kd) (ms : List Kd) : wt (k :: ms) = k.2 + wt ms := by simp [wt]
theorem len_append (a b : List Kd) : len (a ++ b) = len a + len b := by simp [len]
theorem wt_append (a b : List Kd) : wt (a ++ b) = wt a + wt b := by simp [wt]
theorem Frm.nil {ks : List Kd} : Frm ks [] := fun _ h => nomatch h
theorem Frm.cons {ks ms : List Kd} {k : Kd} (h : k ∈ ks) (r : Frm ks ms) : Frm ks (k :: ms) := fun m hm => by
  rcases List.mem_cons.mp hm with rfl | hm
  · exact h
  · exact r m hm
theorem Frm.head {ks ms : List Kd} {k : Kd} (r : Frm ks (k :: ms)) : k ∈ ks := r k List.mem_cons_self
theorem Frm.tail {ks ms : List Kd} {k : Kd} (r : Frm ks (k :: ms)) : Frm ks ms := fun m hm => r m (List.mem_cons_of_mem _ hm)
theorem Frm.append {ks a b : List Kd} (r : Frm ks a) (s : Frm ks b) : Frm ks (a ++ b) := fun m hm => (List.mem_append.mp hm).elim (r m) (s m)
theorem Frm.left {ks a b : List Kd} (r : Frm ks (a ++ b)) : Frm ks a := fun m hm => r m (List.mem_append_left _ hm)
theorem Frm.right {ks a b : List Kd} (r : Frm ks (a ++ b)) : Frm ks b := fun m hm => r m (List.mem_append_right _ hm)
theorem len_nonneg {ks ms : List Kd} (g : Good ks) (r : Frm ks ms) : 0 ≤ len ms ∧ 0 ≤ wt ms ∧ len ms ≤ 30 * wt ms ∧ (ms.length : Int) ≤ len ms ∧ (ms.length : Int) ≤ wt ms := by
  induction ms with
  | nil => simp [len, wt]
  | cons k ms ih =>
    have := g k r.head
    have := ih r.tail
    rw [len_cons, wt_cons, List.length_cons]
    omega
theorem len_pos {ks ms : List Kd} (g : Good ks) (r : Frm ks ms) (h : ms ≠ []) : 0 < len ms ∧ 0 < wt ms := by
  have := len_nonneg g r
  cases ms with
  | nil => exact absurd rfl h
  | cons k ms => rw [List.length_cons] at this; omega

def IsSum (ks : List Kd) (x : Int) : Prop := ∃ ms, Frm ks ms ∧ len ms = x
def Mk (ks : List Kd) (x y : Int) : Prop := ∃ ms, Frm ks ms ∧ len ms = x ∧ wt ms = y
theorem IsSum.zero {ks : List Kd} : IsSum ks 0 := ⟨[], .nil, rfl⟩
theorem IsSum.add {ks : List Kd} {x : Int} {k : Kd} (h : IsSum ks x) (m : k ∈ ks) : IsSum ks (x + k.1) := by
  obtain ⟨ms, r, e⟩ := h
  exact ⟨k :: ms, .cons m r, by rw [len_cons]; omega⟩
theorem IsSum.nonneg {ks : List Kd} {x : Int} (g : Good ks) (h : IsSum ks x) : 0 ≤ x := by
  obtain ⟨ms, r, e⟩ := h
  have := len_nonneg g r
  omega
theorem isSum_step {ks : List Kd} {x : Int} (g : Good ks) (hx : 0 < x) : IsSum ks x ↔ ∃ k ∈ ks, k.1 ≤ x ∧ IsSum ks (x - k.1) := by
  constructor
  · rintro ⟨ms, r, e⟩
    cases ms with
    | nil => rw [len_nil] at e; omega
    | cons k ms =>
      rw [len_cons] at e
      have := len_nonneg g r.tail
      exact ⟨k, r.head, by omega, ms, r.tail, by omega⟩
  · rintro ⟨k, hk, _, h⟩
    have := h.add hk
    rwa [show x - k.1 + k.1 = x by omega] at this
theorem Mk.zero {ks : List Kd} (g : Good ks) {y : Int} (h : Mk ks 0 y) : y = 0 := by
  obtain ⟨ms, r, e, f⟩ := h
  cases ms with
  | nil => exact f.symm
  | cons k ms =>
    have := len_pos g r (by simp)
    omega
theorem mk_step {ks : List Kd} {x y : Int} (g : Good ks) (hx : 0 < x) : Mk ks x y ↔ ∃ k ∈ ks, k.1 ≤ x ∧ Mk ks (x - k.1) (y - k.2) := by
  constructor
  · rintro ⟨ms, r, e, f⟩
    cases ms with
    | nil => rw [len_nil] at e; omega
    | cons k ms =>
      rw [len_cons] at e
      rw [wt_cons] at f
      have := len_nonneg g r.tail
      exact ⟨k, r.head, by omega, ms, r.tail, by omega, by omega⟩
  · rintro ⟨k, hk, _, ms, r, e, f⟩
    exact ⟨k :: ms, .cons hk r, by rw [len_cons]; omega, by rw [wt_cons]; omega⟩

/-! ### the least weight for a length, the greatest length for a weight, the greatest sum -/
def SlimAt (ks : List Kd) (x : Int) : Option Int → Prop
  | none => ∀ y, ¬ Mk ks x y
  | some y => Mk ks x y ∧ ∀ y', Mk ks x y' → y ≤ y'
def RichAt (ks : List Kd) (y r : Int) : Prop := (∃ ms, Frm ks ms ∧ wt ms ≤ y ∧ len ms = r) ∧ ∀ ms, Frm ks ms → wt ms ≤ y → len ms ≤ r
def FloorAt (ks : List Kd) (x f : Int) : Prop := IsSum ks f ∧ f ≤ x ∧ ∀ z, IsSum ks z → z ≤ x → z ≤ f

/-- the candidates for the least weight at t, from what stands at shorter lengths -/
def slimC (ks : List Kd) (f : Int → Option Int) (t : Int) : List Int := (ks.filter fun k => decide (k.1 ≤ t)).filterMap fun k => (f (t - k.1)).map (· + k.2)
theorem mem_slimC {ks : List Kd} {f : Int → Option Int} {t c : Int} : c ∈ slimC ks f t ↔ ∃ k ∈ ks, k.1 ≤ t ∧ ∃ y, f (t - k.1) = some y ∧ c = y + k.2 := by
  unfold slimC
  rw [List.mem_filterMap]
  constructor
  · rintro ⟨k, hk, e⟩
    rw [List.mem_filter] at hk
    obtain ⟨y, hy, rfl⟩ := Option.map_eq_some_iff.mp e
    exact ⟨k, hk.1, of_decide_eq_true hk.2, y, hy, rfl⟩
  · rintro ⟨k, hk, hl, y, hy, rfl⟩
    exact ⟨k, List.mem_filter.mpr ⟨hk, decide_eq_true hl⟩, by rw [hy]; rfl⟩
theorem slim_zero {ks : List Kd} (g : Good ks) : SlimAt ks 0 (some 0) := ⟨⟨[], .nil, rfl, rfl⟩, fun y' h => by rw [h.zero g]; exact Int.le_refl _⟩
theorem slim_step_none {ks : List Kd} {f : Int → Option Int} {t : Int} (g : Good ks) (ht : 0 < t) (hf : ∀ i, 0 ≤ i → i < t → SlimAt ks i (f i)) (h : slimC ks f t = []) : SlimAt ks t none := by
  intro y hy
  obtain ⟨k, hk, hl, hm⟩ := (mk_step g ht).mp hy
  have gk := g k hk
  have s := hf (t - k.1) (by omega) (by omega)
  cases e : f (t - k.1) with
  | none => rw [e] at s; exact s _ hm
  | some z =>
    have : z + k.2 ∈ slimC ks f t := mem_slimC.mpr ⟨k, hk, hl, z, e, rfl⟩
    rw [h] at this
    exact nomatch this
theorem slim_step_some {ks : List Kd} {f : Int → Option Int} {t m : Int} (g : Good ks) (ht : 0 < t) (hf : ∀ i, 0 ≤ i → i < t → SlimAt ks i (f i)) (hm : m ∈ slimC ks f t) (hle : ∀ c ∈ slimC ks f t, m ≤ c) : SlimAt ks t (some m) := by
  refine ⟨?_, fun y hy => ?_⟩
  · obtain ⟨k, hk, hl, z, e, rfl⟩ := mem_slimC.mp hm
    have gk := g k hk
    have s := hf (t - k.1) (by omega) (by omega)
    rw [e] at s
    exact (mk_step g ht).mpr ⟨k, hk, hl, by rw [show z + k.2 - k.2 = z by omega]; exact s.1⟩
  · obtain ⟨k, hk, hl, hy'⟩ := (mk_step g ht).mp hy
    have gk := g k hk
    have s := hf (t - k.1) (by omega) (by omega)
    cases e : f (t - k.1) with
    | none => rw [e] at s; exact (s _ hy').elim
    | some z =>
      rw [e] at s
      have h1 := s.2 _ hy'
      have h2 := hle (z + k.2) (mem_slimC.mpr ⟨k, hk, hl, z, e, rfl⟩)
      omega
def richC (ks : List Kd) (f : Int → Int) (t : Int) : List Int := (ks.filter fun k => decide (k.2 ≤ t)).map fun k => f (t - k.2) + k.1
theorem mem_richC {ks : List Kd} {f : Int → Int} {t c : Int} : c ∈ richC ks f t ↔ ∃ k ∈ ks, k.2 ≤ t ∧ c = f (t - k.2) + k.1 := by
  unfold richC
  rw [List.mem_map]
  constructor
  · rintro ⟨k, hk, rfl⟩
    rw [List.mem_filter] at hk
    exact ⟨k, hk.1, of_decide_eq_true hk.2, rfl⟩
  · rintro ⟨k, hk, hl, rfl⟩
    exact ⟨k, List.mem_filter.mpr ⟨hk, decide_eq_true hl⟩, rfl⟩
theorem rich_zero {ks : List Kd} (g : Good ks) : RichAt ks 0 0 := by
  refine ⟨⟨[], .nil, by simp [wt], rfl⟩, fun ms r h => ?_⟩
  cases ms with
  | nil => exact Int.le_refl _
  | cons k ms =>
    have := len_pos g r (by simp)
    omega
theorem rich_step {ks : List Kd} {f : Int → Int} {t m : Int} (g : Good ks) (ht : 0 < t) (hf : ∀ i, 0 ≤ i → i < t → RichAt ks i (f i)) (hm : m ∈ f (t - 1) :: richC ks f t) (hle : ∀ c ∈ f (t - 1) :: richC ks f t, c ≤ m) : RichAt ks t m := by
  refine ⟨?_, fun ms r h => ?_⟩
  · rcases List.mem_cons.mp hm with e | hm
    · obtain ⟨⟨ms, r, w, l⟩, _⟩ := hf (t - 1) (by omega) (by omega)
      exact ⟨ms, r, by omega, by omega⟩
    · obtain ⟨k, hk, hl, rfl⟩ := mem_richC.mp hm
      have gk := g k hk
      obtain ⟨⟨ms, r, w, l⟩, _⟩ := hf (t - k.2) (by omega) (by omega)
      exact ⟨k :: ms, .cons hk r, by rw [wt_cons]; omega, by rw [len_cons]; omega⟩
  · cases ms with
    | nil =>
      have h1 := hle _ List.mem_cons_self
      have h2 := (hf (t - 1) (by omega) (by omega)).2 [] .nil (by rw [wt_nil]; omega)
      omega
    | cons k ms =>
      rw [wt_cons] at h
      rw [len_cons]
      have gk := g k r.head
      have gm := len_nonneg g r.tail
      have h1 := hle _ (List.mem_cons_of_mem _ (mem_richC.mpr ⟨k, r.head, by omega, rfl⟩))
      have h2 := (hf (t - k.2) (by omega) (by omega)).2 ms r.tail (by omega)
      omega
theorem rich_nonneg {ks : List Kd} {y r : Int} (h : RichAt ks y r) (hy : 0 ≤ y) : 0 ≤ r := h.2 [] .nil (by rw [wt_nil]; omega)
theorem rich_le {ks : List Kd} {y r : Int} (g : Good ks) (h : RichAt ks y r) : r ≤ 30 * y := by
  obtain ⟨⟨ms, f, w, l⟩, _⟩ := h
  have := len_nonneg g f
  omega
theorem rich_mono {ks : List Kd} {y y' r r' : Int} (h : RichAt ks y r) (h' : RichAt ks y' r') (l : y ≤ y') : r ≤ r' := by
  obtain ⟨⟨ms, f, w, e⟩, _⟩ := h
  have := h'.2 ms f (by omega)
  omega
theorem floor_yes {ks : List Kd} {x : Int} (h : IsSum ks x) : FloorAt ks x x := ⟨h, Int.le_refl _, fun z _ l => l⟩
theorem floor_no {ks : List Kd} {x f : Int} (n : ¬ IsSum ks x) (h : FloorAt ks (x - 1) f) : FloorAt ks x f :=
  ⟨h.1, by have := h.2.1; omega, fun z s l => h.2.2 z s (by
    by_cases e : z = x
    · subst e; exact absurd s n
    · omega)⟩

/-! ### the exchange: fewer than a messages beside those of the slimmest kind -/
theorem nodup_le {α : Type} [DecidableEq α] : ∀ {l u : List α}, l.Nodup → (∀ x ∈ l, x ∈ u) → l.length ≤ u.length
  | [], _, _, _ => Nat.zero_le _
  | a :: l, u, n, h => by
    rw [List.nodup_cons] at n
    have ha := h a List.mem_cons_self
    have := nodup_le (l := l) (u := u.erase a) n.2 fun x hx => by
      have ne : x ≠ a := fun e => n.1 (e ▸ hx)
      exact (List.mem_erase_of_ne ne).mpr (h x (List.mem_cons_of_mem _ hx))
    rw [List.length_erase_of_mem ha] at this
    have : 0 < u.length := List.length_pos_of_mem ha
    rw [List.length_cons]
    omega
theorem pigeon {n : Nat} {l : List Nat} (h : ∀ x ∈ l, x < n) (hl : n < l.length) : ∃ i j, ∃ (hi : i < l.length) (hj : j < l.length), i < j ∧ l[i] = l[j] := by
  apply Classical.byContradiction
  intro no
  have nd : l.Nodup := by
    rw [List.Nodup, List.pairwise_iff_getElem]
    intro i j hi hj hij e
    exact no ⟨i, j, hi, hj, hij, e⟩
  have := nodup_le (u := List.range n) nd fun x hx => List.mem_range.mpr (h x hx)
  rw [List.length_range] at this
  omega
theorem seg_weight {ks : List Kd} {a wa : Int} (hs : ∀ k ∈ ks, wa * k.1 ≤ k.2 * a) : ∀ {ms : List Kd}, Frm ks ms → wa * len ms ≤ wt ms * a
  | [], _ => by rw [len_nil, wt_nil]; omega
  | k :: ms, r => by
    have h1 := hs k r.head
    have h2 := seg_weight hs r.tail
    rw [len_cons, wt_cons, Int.mul_add, Int.add_mul]
    omega
theorem exchange {ks : List Kd} {a wa : Int} (g : Good ks) (ha : 0 < a) (hs : ∀ k ∈ ks, wa * k.1 ≤ k.2 * a) (n : Nat) : ∀ ns : List Kd, ns.length ≤ n → Frm ks ns →
    ∃ (c : Int) (ns' : List Kd), 0 ≤ c ∧ Frm ks ns' ∧ (ns'.length : Int) < a ∧ len ns = c * a + len ns' ∧ c * wa + wt ns' ≤ wt ns := by
  induction n with
  | zero =>
    intro ns hl r
    exact ⟨0, ns, Int.le_refl _, r, by omega, by omega, by omega⟩
  | succ n ih =>
    intro ns hl r
    by_cases hsm : (ns.length : Int) < a
    · exact ⟨0, ns, Int.le_refl _, r, hsm, by omega, by omega⟩
    · obtain ⟨i, j, hi, hj, hij, e⟩ := pigeon (n := a.toNat) (l := (List.range (a.toNat + 1)).map fun i => (len (ns.take i) % a).toNat) (by
        intro x hx
        obtain ⟨i, _, rfl⟩ := List.mem_map.mp hx
        have h1 := Int.emod_nonneg (len (ns.take i)) (show a ≠ 0 by omega)
        have h2 := Int.emod_lt_of_pos (len (ns.take i)) ha
        omega) (by simp)
      have hj' : j ≤ a.toNat := by simp at hj; omega
      have e' : len (ns.take i) % a = len (ns.take j) % a := by
        simp only [List.getElem_map, List.getElem_range] at e
        have h1 := Int.emod_nonneg (len (ns.take i)) (show a ≠ 0 by omega)
        have h2 := Int.emod_nonneg (len (ns.take j)) (show a ≠ 0 by omega)
        omega
      -- ns = A ++ seg ++ B
      have split1 : ns.take j = ns.take i ++ (ns.take j).drop i := by
        have := (List.take_append_drop i (ns.take j)).symm
        rwa [List.take_take, Nat.min_eq_left (Nat.le_of_lt hij)] at this
      have split2 : ns = (ns.take i ++ (ns.take j).drop i) ++ ns.drop j := by
        rw [← split1, List.take_append_drop]
      generalize hA : ns.take i = A at *
      generalize hS : (ns.take j).drop i = S at *
      generalize hB : ns.drop j = B at *
      have rA : Frm ks A := by rw [split2] at r; exact r.left.left
      have rS : Frm ks S := by rw [split2] at r; exact r.left.right
      have rB : Frm ks B := by rw [split2] at r; exact r.right
      rw [split1, len_append] at e'
      have hd : a ∣ len S := by
        have h3 : (len A + len S - len A) % a = 0 := Int.emod_eq_emod_iff_emod_sub_eq_zero.mp e'.symm
        have h4 : len A + len S - len A = len S := by omega
        rw [h4] at h3
        exact Int.dvd_of_emod_eq_zero h3
      obtain ⟨q, hq⟩ := hd
      have lenS : S.length = j - i := by
        rw [← hS, List.length_drop, List.length_take]
        omega
      have lenns : ns.length = A.length + S.length + B.length := by
        rw [split2, List.length_append, List.length_append]
      have hSpos : 0 < len S := (len_pos g rS (fun z => by rw [z] at lenS; simp at lenS; omega)).1
      have hqpos : 0 < q := by
        apply Classical.byContradiction
        intro hn
        have : a * q ≤ 0 := Int.mul_nonpos_of_nonneg_of_nonpos (by omega) (by omega)
        omega
      obtain ⟨c, ns', hc, rn, ln, el, ew⟩ := ih (A ++ B) (by rw [List.length_append]; omega) (rA.append rB)
      have sw := seg_weight hs rS
      rw [hq] at sw
      have sw' : q * wa ≤ wt S := by
        have h1 : (q * wa) * a ≤ wt S * a := by
          rw [show q * wa * a = wa * (a * q) by
            rw [Int.mul_comm q wa, Int.mul_assoc, Int.mul_comm q a]]
          exact sw
        exact Int.le_of_mul_le_mul_right h1 ha
      refine ⟨c + q, ns', by omega, rn, ln, ?_, ?_⟩
      · rw [split2, len_append, len_append]
        rw [len_append] at el
        rw [hq, Int.add_mul, Int.mul_comm a q]
        omega
      · rw [split2, wt_append, wt_append]
        rw [wt_append] at ew
        rw [Int.add_mul]
        omega
theorem len_le_mul {ks : List Kd} {M : Int} (hM : ∀ k ∈ ks, k.1 ≤ M) (h0 : 0 ≤ M) : ∀ {ms : List Kd}, Frm ks ms → len ms ≤ (ms.length : Int) * M
  | [], _ => by rw [len_nil]; simp
  | k :: ms, r => by
    have h1 := hM k r.head
    have h2 := len_le_mul hM h0 r.tail
    rw [len_cons, List.length_cons, Int.natCast_add, Int.add_mul]
    omega
/-- beyond the bound a * M the least weight goes on by the slimmest kind -/
theorem lightest_far {ks : List Kd} {a wa M x y t : Int} {o : Option Int} (g : Good ks) (hk : (a, wa) ∈ ks) (hs : ∀ k ∈ ks, wa * k.1 ≤ k.2 * a) (hM : ∀ k ∈ ks, k.1 ≤ M) (ht : t = (x - a * M) / a + 1) (hx : a * M < x)
    (ho : SlimAt ks (x - t * a) o) (hy : Mk ks x y) : ∃ z, o = some z ∧ z + t * wa ≤ y := by
  obtain ⟨ms, r, el, ew⟩ := hy
  have ga := g _ hk
  have ha : 0 < a := by have := ga.1; omega
  have haM : a ≤ M := hM _ hk
  obtain ⟨c, ns, hc, rn, ln, e1, e2⟩ := exchange g ha hs ms.length ms (Nat.le_refl _) r
  have hl := len_le_mul hM (by omega) rn
  have hl2 : len ns ≤ (a - 1) * M := Int.le_trans hl (Int.mul_le_mul_of_nonneg_right (by omega) (by omega))
  -- t * a within one of x - a * M
  have h1 := Int.emod_add_mul_ediv (x - a * M) a
  have h2 := Int.emod_nonneg (x - a * M) (show a ≠ 0 by omega)
  have h3 : t * a = a * ((x - a * M) / a) + a := by rw [ht, Int.add_mul, Int.mul_comm]; omega
  have h4 : (a - 1) * M = a * M - M := by rw [Int.sub_mul]; omega
  have hct : t ≤ c := by
    apply Classical.byContradiction
    intro hn
    have : c * a ≤ (t - 1) * a := Int.mul_le_mul_of_nonneg_right (by omega) (by omega)
    rw [Int.sub_mul] at this
    omega
  have m : Mk ks (x - t * a) (wt ns + (c - t) * wa) := by
    have rep : ∀ n : Nat, Mk ks (n * a) (n * wa) := by
      intro n
      induction n with
      | zero => exact ⟨[], .nil, by simp [len], by simp [wt]⟩
      | succ n ih =>
        obtain ⟨qs, rq, lq, wq⟩ := ih
        refine ⟨(a, wa) :: qs, .cons hk rq, ?_, ?_⟩
        · rw [len_cons, lq, Int.natCast_add, Int.add_mul]; simp; omega
        · rw [wt_cons, wq, Int.natCast_add, Int.add_mul]; simp; omega
    obtain ⟨qs, rq, lq, wq⟩ := rep (c - t).toNat
    have hn : (((c - t).toNat : Nat) : Int) = c - t := by omega
    rw [hn] at lq wq
    refine ⟨qs ++ ns, rq.append rn, ?_, ?_⟩
    · rw [len_append, lq, Int.sub_mul]; omega
    · rw [wt_append, wq]; omega
  cases o with
  | none => exact (ho _ m).elim
  | some z =>
    refine ⟨z, rfl, ?_⟩
    have h5 := ho.2 _ m
    rw [Int.sub_mul] at h5
    omega
theorem lightest_far_ix {a M x t : Int} (ha : 0 < a) (haM : a ≤ M) (ht : t = (x - a * M) / a + 1) (hx : a * M < x) : 0 ≤ x - t * a ∧ x - t * a < a * M := by
  have h1 := Int.emod_add_mul_ediv (x - a * M) a
  have h2 := Int.emod_nonneg (x - a * M) (show a ≠ 0 by omega)
  have h5 := Int.emod_lt_of_pos (x - a * M) ha
  have h3 : t * a = a * ((x - a * M) / a) + a := by rw [ht, Int.add_mul, Int.mul_comm]; omega
  have h6 : a * 1 ≤ a * M := Int.mul_le_mul_of_nonneg_left (by omega) (by omega)
  omega
/-- the divisor divides every sum -/
theorem dvd_sum {ks : List Kd} {d x : Int} (hd : ∀ k ∈ ks, d ∣ k.1) (h : IsSum ks x) : d ∣ x := by
  obtain ⟨ms, r, rfl⟩ := h
  induction ms with
  | nil => exact Int.dvd_zero d
  | cons k ms ih =>
    rw [len_cons]
    exact Int.dvd_add (hd k r.head) (ih r.tail)
end Wr

set_option maxHeartbeats 200000
set_option linter.all false
/-! WrRing: the ring's states, what is true of those that requests can reach, refusals and their shapes, the greatest ring that refuses (core Lean only). -/
namespace Wr
def kd (ks : List Kd) (n : Nat) : Kd := ks.getD n (0, 0)
def kl (ks : List Kd) (n : Nat) : Int := (kd ks n).1
def kw (ks : List Kd) (n : Nat) : Int := (kd ks n).2
theorem kd1 {ks : List Kd} {n : Nat} : (kd ks n).1 = kl ks n := rfl
theorem kd2 {ks : List Kd} {n : Nat} : (kd ks n).2 = kw ks n := rfl
abbrev Msg := Int × Nat
abbrev RSt := Int × List Msg
def tot (ks : List Kd) (ns : List Nat) : Int := len (ns.map (kd ks))
def pay (ks : List Kd) (ns : List Nat) : Int := wt (ns.map (kd ks))
def paid (ks : List Kd) (ms : List Msg) : Int := pay ks (ms.map (·.2))
def lay (ks : List Kd) : Int → List Nat → List Msg
  | _, [] => []
  | a, n :: ns => (a, n) :: lay ks (a + kl ks n) ns
def refused (W : Int) (st : RSt) (s : Int) : Bool :=
  if W < s then true else
  match st.2 with
  | [] => false
  | (h, _) :: _ => if st.1 ≤ h then decide (h < st.1 + s) else decide (W < st.1 + s) && decide (h < s)
def pushed (ks : List Kd) (W : Int) (st : RSt) (n : Nat) : RSt :=
  ((if st.1 + kl ks n ≤ W then st.1 else 0) + kl ks n, st.2 ++ [(if st.1 + kl ks n ≤ W then st.1 else 0, n)])
def may (ks : List Kd) (cap : Int) (ms : List Msg) : List Nat := (List.range ks.length).filter fun n => decide (paid ks ms + kw ks n ≤ cap)
def bad (ks : List Kd) (cap W : Int) (st : RSt) : List Nat := (may ks cap st.2).filter fun n => refused W st (kl ks n)
inductive Reach (ks : List Kd) (cap W : Int) : RSt → Prop
  | start : Reach ks cap W (0, [])
  | pop {P : Int} {m : Msg} {ms : List Msg} : Reach ks cap W (P, m :: ms) → Reach ks cap W (P, ms)
  | push {st : RSt} {n : Nat} : Reach ks cap W st → n ∈ may ks cap st.2 → refused W st (kl ks n) = false → Reach ks cap W (pushed ks W st n)

theorem mem_may {ks : List Kd} {cap : Int} {ms : List Msg} {n : Nat} : n ∈ may ks cap ms ↔ n < ks.length ∧ paid ks ms + kw ks n ≤ cap := by
  unfold may
  rw [List.mem_filter, List.mem_range, decide_eq_true_iff]
theorem tot_nil {ks : List Kd} : tot ks [] = 0 := rfl
theorem pay_nil {ks : List Kd} : pay ks [] = 0 := rfl
theorem tot_cons {ks : List Kd} {n : Nat} {ns : List Nat} : tot ks (n :: ns) = kl ks n + tot ks ns := len_cons _ _
theorem pay_cons {ks : List Kd} {n : Nat} {ns : List Nat} : pay ks (n :: ns) = kw ks n + pay ks ns := wt_cons _ _
theorem tot_append {ks : List Kd} {a b : List Nat} : tot ks (a ++ b) = tot ks a + tot ks b := by unfold tot; rw [List.map_append, len_append]
theorem pay_append {ks : List Kd} {a b : List Nat} : pay ks (a ++ b) = pay ks a + pay ks b := by unfold pay; rw [List.map_append, wt_append]
theorem lay_map {ks : List Kd} : ∀ {a : Int} {ns : List Nat}, (lay ks a ns).map (·.2) = ns
  | _, [] => rfl
  | a, n :: ns => by rw [lay, List.map_cons, lay_map]
theorem lay_length {ks : List Kd} {a : Int} {ns : List Nat} : (lay ks a ns).length = ns.length := by
  have := congrArg List.length (lay_map (ks := ks) (a := a) (ns := ns))
  rwa [List.length_map] at this
theorem lay_append {ks : List Kd} : ∀ {a : Int} {ns ms : List Nat}, lay ks a (ns ++ ms) = lay ks a ns ++ lay ks (a + tot ks ns) ms
  | a, [], ms => by rw [tot_nil, Int.add_zero]; rfl
  | a, n :: ns, ms => by rw [List.cons_append, lay, lay_append, lay, tot_cons, List.cons_append, Int.add_assoc]
theorem lay_snoc {ks : List Kd} {a : Int} {ns : List Nat} {n : Nat} : lay ks a (ns ++ [n]) = lay ks a ns ++ [(a + tot ks ns, n)] := by rw [lay_append]; rfl
theorem paid_lay {ks : List Kd} {a b : Int} {ns ms : List Nat} : paid ks (lay ks a ns ++ lay ks b ms) = pay ks (ns ++ ms) := by unfold paid; rw [List.map_append, lay_map, lay_map]
theorem paid_lay1 {ks : List Kd} {a : Int} {ns : List Nat} : paid ks (lay ks a ns) = pay ks ns := by unfold paid; rw [lay_map]

/-- the kinds that the limit allows -/
abbrev free (ks : List Kd) (cap : Int) : List Kd := ks.filter fun k => decide (k.2 ≤ cap)
theorem mem_free {ks : List Kd} {cap : Int} {k : Kd} : k ∈ free ks cap ↔ k ∈ ks ∧ k.2 ≤ cap := by rw [List.mem_filter, decide_eq_true_iff]
theorem Good.free {ks : List Kd} (g : Good ks) (cap : Int) : Good (free ks cap) := fun k h => g k (mem_free.mp h).1
def Usable (ks : List Kd) (cap : Int) (n : Nat) : Prop := n < ks.length ∧ kw ks n ≤ cap
def Ok (ks : List Kd) (cap : Int) (ns : List Nat) : Prop := ∀ n ∈ ns, Usable ks cap n
theorem kd_mem {ks : List Kd} {n : Nat} (h : n < ks.length) : kd ks n ∈ ks := by
  have : kd ks n = ks[n] := by unfold kd; rw [List.getD_eq_getElem?_getD, List.getElem?_eq_getElem h]; rfl
  rw [this]
  exact List.getElem_mem h
theorem Usable.mem {ks : List Kd} {cap : Int} {n : Nat} (u : Usable ks cap n) : kd ks n ∈ free ks cap := mem_free.mpr ⟨kd_mem u.1, u.2⟩
theorem Ok.frm {ks : List Kd} {cap : Int} {ns : List Nat} (o : Ok ks cap ns) : Frm (free ks cap) (ns.map (kd ks)) := fun m hm => by
  obtain ⟨n, hn, rfl⟩ := List.mem_map.mp hm
  exact (o n hn).mem
theorem Ok.nil {ks : List Kd} {cap : Int} : Ok ks cap [] := fun _ h => nomatch h
theorem Ok.cons {ks : List Kd} {cap : Int} {n : Nat} {ns : List Nat} (u : Usable ks cap n) (o : Ok ks cap ns) : Ok ks cap (n :: ns) := fun m hm => by
  rcases List.mem_cons.mp hm with rfl | hm
  · exact u
  · exact o m hm
theorem Ok.append {ks : List Kd} {cap : Int} {a b : List Nat} (u : Ok ks cap a) (o : Ok ks cap b) : Ok ks cap (a ++ b) := fun m hm => (List.mem_append.mp hm).elim (u m) (o m)
theorem Ok.left {ks : List Kd} {cap : Int} {a b : List Nat} (u : Ok ks cap (a ++ b)) : Ok ks cap a := fun m hm => u m (List.mem_append_left _ hm)
theorem Ok.right {ks : List Kd} {cap : Int} {a b : List Nat} (u : Ok ks cap (a ++ b)) : Ok ks cap b := fun m hm => u m (List.mem_append_right _ hm)
theorem Ok.head {ks : List Kd} {cap : Int} {n : Nat} {b : List Nat} (u : Ok ks cap (n :: b)) : Usable ks cap n := u n List.mem_cons_self
theorem Ok.tail {ks : List Kd} {cap : Int} {n : Nat} {b : List Nat} (u : Ok ks cap (n :: b)) : Ok ks cap b := fun m hm => u m (List.mem_cons_of_mem _ hm)
theorem Ok.pos {ks : List Kd} {cap : Int} {ns : List Nat} (g : Good ks) (o : Ok ks cap ns) : 0 ≤ tot ks ns ∧ 0 ≤ pay ks ns := by
  have := len_nonneg (g.free cap) o.frm
  exact ⟨this.1, this.2.1⟩
theorem Ok.pos1 {ks : List Kd} {cap : Int} {ns : List Nat} (g : Good ks) (o : Ok ks cap ns) (h : ns ≠ []) : 0 < tot ks ns ∧ 0 < pay ks ns := len_pos (g.free cap) o.frm (by simpa using h)
theorem Usable.pos {ks : List Kd} {cap : Int} {n : Nat} (g : Good ks) (u : Usable ks cap n) : 1 ≤ kl ks n ∧ kl ks n ≤ 30 ∧ 1 ≤ kw ks n ∧ kw ks n ≤ 30 := g _ (kd_mem u.1)
/-- numbers for kinds -/
theorem numbers {ks : List Kd} {cap : Int} : ∀ {ms : List Kd}, Frm (free ks cap) ms → ∃ ns, Ok ks cap ns ∧ ns.map (kd ks) = ms
  | [], _ => ⟨[], .nil, rfl⟩
  | m :: ms, r => by
    obtain ⟨ns, o, e⟩ := numbers r.tail
    obtain ⟨h1, h2⟩ := mem_free.mp r.head
    obtain ⟨n, hn, rfl⟩ := List.mem_iff_getElem.mp h1
    have e1 : kd ks n = ks[n] := by unfold kd; rw [List.getD_eq_getElem?_getD, List.getElem?_eq_getElem hn]; rfl
    exact ⟨n :: ns, .cons ⟨hn, by show (kd ks n).2 ≤ cap; rw [e1]; exact h2⟩ o, by rw [List.map_cons, e, e1]⟩
theorem number {ks : List Kd} {cap : Int} {k : Kd} (h : k ∈ free ks cap) : ∃ n, Usable ks cap n ∧ kd ks n = k := by
  obtain ⟨ns, o, e⟩ := numbers (ks := ks) (cap := cap) (ms := [k]) (.cons h .nil)
  match ns, e with
  | [n], e => exact ⟨n, o.head, by simpa using e⟩

/-! ### what is true of reachable states -/
inductive RInv (ks : List Kd) (cap W : Int) : RSt → Prop
  | one (H : Int) (old : List Nat) : IsSum (free ks cap) H → H + tot ks old ≤ W → Ok ks cap old → pay ks old ≤ cap → RInv ks cap W (H + tot ks old, lay ks H old)
  | two (H : Int) (old : List Nat) (t : Nat) (rest : List Nat) : old ≠ [] → IsSum (free ks cap) H → H + tot ks old ≤ W → Ok ks cap (old ++ t :: rest) → pay ks (old ++ t :: rest) ≤ cap →
      tot ks (t :: rest) ≤ H → W < H + tot ks old + kl ks t → RInv ks cap W (tot ks (t :: rest), lay ks H old ++ lay ks 0 (t :: rest))
theorem RInv.start {ks : List Kd} {cap W : Int} (hc : 0 ≤ cap) (hW : 0 ≤ W) : RInv ks cap W (0, []) := .one 0 [] .zero (by rw [tot_nil]; omega) .nil (by rw [pay_nil]; exact hc)
theorem refused_one {ks : List Kd} {cap W H s : Int} {old : List Nat} (g : Good ks) (o : Ok ks cap old) (hs : 0 < s) :
    refused W (H + tot ks old, lay ks H old) s = true ↔ W < s ∨ (old ≠ [] ∧ W < H + tot ks old + s ∧ H < s) := by
  unfold refused
  cases old with
  | nil =>
    by_cases h : W < s
    · simp [h]
    · simp [h, lay]
  | cons n old =>
    have := o.pos1 g (by simp)
    by_cases h : W < s
    · simp [h]
    · have h2 : ¬ H + tot ks (n :: old) ≤ H := by omega
      simp only [lay, if_neg h, if_neg h2, Bool.and_eq_true, decide_eq_true_iff]
      simp [h]
theorem refused_two {ks : List Kd} {W H P s : Int} {old : List Nat} {m : List Msg} (ho : old ≠ []) (hP : P ≤ H) :
    refused W (P, lay ks H old ++ m) s = true ↔ W < s ∨ H < P + s := by
  unfold refused
  cases old with
  | nil => exact absurd rfl ho
  | cons n old =>
    by_cases h : W < s
    · simp [h]
    · simp only [lay, List.cons_append, if_neg h, if_pos hP, decide_eq_true_iff]
      simp [h]
theorem RInv.pop {ks : List Kd} {cap W : Int} (g : Good ks) {st : RSt} (i : RInv ks cap W st) : ∀ {m : Msg} {ms : List Msg}, st.2 = m :: ms → RInv ks cap W (st.1, ms) := by
  intro m ms e
  cases i with
  | one H old hs hw o p =>
    cases old with
    | nil => exact nomatch e
    | cons n old =>
      have e' : lay ks (H + kl ks n) old = ms := by
        have : (H, n) :: lay ks (H + kl ks n) old = m :: ms := e
        exact (List.cons.inj this).2
      have h1 := o.head.pos g
      have := RInv.one (ks := ks) (cap := cap) (W := W) (H + kl ks n) old (hs.add o.head.mem) (by rw [tot_cons] at hw; omega) o.tail (by rw [pay_cons] at p; omega)
      rw [e', Int.add_assoc, ← tot_cons] at this
      exact this
  | two H old t rest ho hs hw o p hP hW =>
    cases old with
    | nil => exact absurd rfl ho
    | cons n old =>
      have e' : lay ks (H + kl ks n) old ++ lay ks 0 (t :: rest) = ms := by
        have : (H, n) :: (lay ks (H + kl ks n) old ++ lay ks 0 (t :: rest)) = m :: ms := e
        exact (List.cons.inj this).2
      have h1 := o.head.pos g
      have h2 := (o.left.tail).pos g
      rw [List.cons_append, pay_cons] at p
      rw [tot_cons] at hw hW
      cases old with
      | nil =>
        have := RInv.one (ks := ks) (cap := cap) (W := W) 0 (t :: rest) .zero (by omega) o.right (by rw [List.nil_append] at p; omega)
        rw [Int.zero_add] at this
        rw [← e']
        exact this
      | cons n2 old =>
        have := RInv.two (ks := ks) (cap := cap) (W := W) (H + kl ks n) (n2 :: old) t rest (by simp) (hs.add o.head.mem) (by omega) (fun x hx => o x (List.mem_cons_of_mem _ hx)) (by omega) (by omega) (by omega)
        rw [e'] at this
        exact this
theorem RInv.push {ks : List Kd} {cap W : Int} (g : Good ks) {st : RSt} (i : RInv ks cap W st) {n : Nat} (hn : n ∈ may ks cap st.2) (hr : refused W st (kl ks n) = false) : RInv ks cap W (pushed ks W st n) := by
  obtain ⟨hl, hp⟩ := mem_may.mp hn
  cases i with
  | one H old hs hw o p =>
    rw [paid_lay1] at hp
    have := o.pos g
    have u : Usable ks cap n := ⟨hl, by omega⟩
    have hpos := u.pos g
    have hnr : ¬ (W < kl ks n ∨ (old ≠ [] ∧ W < H + tot ks old + kl ks n ∧ H < kl ks n)) := fun z => by
      rw [(refused_one g o (by omega)).mpr z] at hr
      exact nomatch hr
    have H0 := hs.nonneg (g.free cap)
    unfold pushed
    simp only
    by_cases hf : H + tot ks old + kl ks n ≤ W
    · rw [if_pos hf]
      have := RInv.one (ks := ks) (cap := cap) (W := W) H (old ++ [n]) hs (by rw [tot_append, tot_cons, tot_nil]; omega) (o.append (.cons u .nil)) (by rw [pay_append, pay_cons, pay_nil]; omega)
      rw [lay_snoc, tot_append, tot_cons, tot_nil, Int.add_zero, ← Int.add_assoc] at this
      exact this
    · rw [if_neg hf, Int.zero_add]
      by_cases ho : old = []
      · subst ho
        have := RInv.one (ks := ks) (cap := cap) (W := W) 0 [n] .zero (by rw [tot_cons, tot_nil]; omega) (.cons u .nil) (by rw [pay_cons, pay_nil]; have := u.2; omega)
        rw [tot_cons, tot_nil, Int.add_zero, Int.zero_add] at this
        exact this
      · have hHs : ¬ H < kl ks n := fun z => hnr (.inr ⟨ho, by omega, z⟩)
        have := RInv.two (ks := ks) (cap := cap) (W := W) H old n [] ho hs hw (o.append (.cons u .nil)) (by rw [pay_append, pay_cons, pay_nil]; omega) (by rw [tot_cons, tot_nil]; omega) (by omega)
        rw [tot_cons, tot_nil, Int.add_zero] at this
        exact this
  | two H old t rest ho hs hw o p hP hW =>
    rw [paid_lay] at hp
    have := o.pos g
    have u : Usable ks cap n := ⟨hl, by omega⟩
    have hpos := u.pos g
    have hnr : ¬ (W < kl ks n ∨ H < tot ks (t :: rest) + kl ks n) := fun z => by
      rw [(refused_two ho hP).mpr z] at hr
      exact nomatch hr
    have h2 := o.left.pos g
    unfold pushed
    simp only
    have hf : tot ks (t :: rest) + kl ks n ≤ W := by omega
    rw [if_pos hf]
    have := RInv.two (ks := ks) (cap := cap) (W := W) H old t (rest ++ [n]) ho hs hw (by
        rw [← List.cons_append, ← List.append_assoc]
        exact o.append (.cons u .nil)) (by
        rw [← List.cons_append, ← List.append_assoc, pay_append, pay_cons, pay_nil]
        omega) (by
        rw [← List.cons_append, tot_append, tot_cons (n := n), tot_nil]
        omega) hW
    rw [← List.cons_append, lay_snoc, tot_append, tot_cons (n := n), tot_nil, Int.add_zero, Int.zero_add, ← List.append_assoc] at this
    exact this
theorem Reach.inv {ks : List Kd} {cap W : Int} (g : Good ks) (hc : 0 ≤ cap) (hW : 0 ≤ W) {st : RSt} (r : Reach ks cap W st) : RInv ks cap W st := by
  induction r with
  | start => exact .start hc hW
  | pop _ ih => exact ih.pop g rfl
  | push _ hn hr ih => exact ih.push g hn hr

/-! ### shapes -/
inductive Shape where
  | long
  | short (h b : Int)
  | caught (h b p : Int) (t : Nat)
  deriving DecidableEq
def form (ks : List Kd) (W : Int) (st : RSt) (n : Nat) : Shape :=
  if W < kl ks n then .long else
  let h := (st.2.headD (0, 0)).1
  if h < st.1 then .short h (tot ks (st.2.map (·.2))) else
  let j := st.2.findIdx fun m => decide (m.1 < h)
  .caught h (tot ks ((st.2.map (·.2)).take j)) (tot ks ((st.2.map (·.2)).drop j)) (st.2.getD j (0, 0)).2
/-- what is true of the shape of a refusal -/
def ShapeOk (ks : List Kd) (cap W : Int) (n : Nat) : Shape → Prop
  | .long => W < kl ks n
  | .short h b => 0 ≤ h ∧ h + b ≤ W ∧ W < h + b + kl ks n ∧ h < kl ks n ∧ IsSum (free ks cap) h ∧ 0 < b ∧ ∃ y, Mk (free ks cap) b y ∧ y + kw ks n ≤ cap
  | .caught h b p t => 0 ≤ h ∧ h + b ≤ W ∧ W < h + b + kl ks t ∧ p ≤ h ∧ h < p + kl ks n ∧ Usable ks cap t ∧ kl ks t ≤ p ∧ 0 < b ∧ IsSum (free ks cap) h ∧
      ∃ y z, Mk (free ks cap) b y ∧ Mk (free ks cap) (p - kl ks t) z ∧ y + z + kw ks t + kw ks n ≤ cap
theorem lay_ge {ks : List Kd} {cap : Int} (g : Good ks) : ∀ {a : Int} {ns : List Nat}, Ok ks cap ns → ∀ m ∈ lay ks a ns, a ≤ m.1
  | _, [], _, m, h => nomatch h
  | a, n :: ns, o, m, h => by
    rw [lay] at h
    rcases List.mem_cons.mp h with rfl | h
    · exact Int.le_refl _
    · have := lay_ge g o.tail m h
      have := o.head.pos g
      omega
theorem findIdx_lay {ks : List Kd} {cap : Int} (g : Good ks) {H : Int} {old : List Nat} {t : Nat} {rest : List Nat} (o : Ok ks cap old) (hH : 0 < H) :
    (lay ks H old ++ lay ks 0 (t :: rest)).findIdx (fun m => decide (m.1 < H)) = old.length := by
  rw [List.findIdx_append]
  have h1 : (lay ks H old).findIdx (fun m => decide (m.1 < H)) = (lay ks H old).length := by
    rw [List.findIdx_eq_length]
    intro m hm
    have := lay_ge g o m hm
    exact decide_eq_false (by omega)
  rw [h1, if_neg (Nat.lt_irrefl _)]
  have h2 : (lay ks 0 (t :: rest)).findIdx (fun m => decide (m.1 < H)) = 0 := by
    rw [lay, List.findIdx_cons]
    simp [hH]
  rw [h2, lay_length, Nat.zero_add]
theorem form_two {ks : List Kd} {cap W : Int} (g : Good ks) {H : Int} {old : List Nat} {t : Nat} {rest : List Nat} {n : Nat} (ho : old ≠ []) (o : Ok ks cap old) (hH : 0 < H) (hP : tot ks (t :: rest) ≤ H) (hl : ¬ W < kl ks n) :
    form ks W (tot ks (t :: rest), lay ks H old ++ lay ks 0 (t :: rest)) n = .caught H (tot ks old) (tot ks (t :: rest)) t := by
  unfold form
  rw [if_neg hl]
  have hh : ((lay ks H old ++ lay ks 0 (t :: rest)).headD (0, 0)).1 = H := by
    cases old with
    | nil => exact absurd rfl ho
    | cons n old => rfl
  simp only [hh]
  rw [if_neg (by omega), findIdx_lay g o hH, List.map_append, lay_map, lay_map, List.take_left' rfl, List.drop_left' rfl]
  have : ((lay ks H old ++ lay ks 0 (t :: rest)).getD old.length (0, 0)).2 = t := by
    rw [List.getD_eq_getElem?_getD, List.getElem?_append_right (by rw [lay_length]; exact Nat.le_refl _), lay_length, Nat.sub_self]
    rfl
  rw [this]
theorem form_one {ks : List Kd} {cap W : Int} (g : Good ks) {H : Int} {old : List Nat} {n : Nat} (ho : old ≠ []) (o : Ok ks cap old) (hl : ¬ W < kl ks n) :
    form ks W (H + tot ks old, lay ks H old) n = .short H (tot ks old) := by
  unfold form
  rw [if_neg hl]
  have hh : ((lay ks H old).headD (0, 0)).1 = H := by
    cases old with
    | nil => exact absurd rfl ho
    | cons n old => rfl
  have := o.pos1 g ho
  simp only [hh]
  rw [if_pos (by omega), lay_map]
theorem form_long {ks : List Kd} {W : Int} {st : RSt} {n : Nat} (hl : W < kl ks n) : form ks W st n = .long := by
  unfold form
  rw [if_pos hl]
theorem RInv.shape {ks : List Kd} {cap W : Int} (g : Good ks) {st : RSt} (i : RInv ks cap W st) {n : Nat} (hn : n ∈ bad ks cap W st) : Usable ks cap n ∧ ShapeOk ks cap W n (form ks W st n) := by
  obtain ⟨hm, hr⟩ := List.mem_filter.mp hn
  obtain ⟨hl, hp⟩ := mem_may.mp hm
  cases i with
  | one H old hs hw o p =>
    rw [paid_lay1] at hp
    have := o.pos g
    have u : Usable ks cap n := ⟨hl, by omega⟩
    have hpos := u.pos g
    refine ⟨u, ?_⟩
    by_cases hlong : W < kl ks n
    · rw [form_long hlong]
      exact hlong
    · rcases (refused_one g o (by omega)).mp hr with z | ⟨ho, h1, h2⟩
      · exact absurd z hlong
      · rw [form_one g ho o hlong]
        have b0 := o.pos1 g ho
        have H0 := hs.nonneg (g.free cap)
        exact ⟨H0, hw, h1, h2, hs, b0.1, pay ks old, ⟨_, o.frm, rfl, rfl⟩, hp⟩
  | two H old t rest ho hs hw o p hP hW =>
    rw [paid_lay] at hp
    have := o.pos g
    have u : Usable ks cap n := ⟨hl, by omega⟩
    have hpos := u.pos g
    have ht := o.right.head.pos g
    have hrest := o.right.tail.pos g
    rw [pay_append, pay_cons] at hp
    have H0 : 0 < H := by rw [tot_cons] at hP; omega
    refine ⟨u, ?_⟩
    by_cases hlong : W < kl ks n
    · rw [form_long hlong]
      exact hlong
    · rcases (refused_two ho hP).mp hr with z | h1
      · exact absurd z hlong
      · rw [form_two g ho o.left H0 hP hlong]
        refine ⟨by omega, hw, hW, hP, h1, o.right.head, by rw [tot_cons]; omega, (o.left.pos1 g ho).1, hs, pay ks old, pay ks rest, ⟨_, o.left.frm, rfl, rfl⟩, ⟨_, o.right.tail.frm, ?_, rfl⟩, by omega⟩
        rw [tot_cons]
        show tot ks rest = _
        omega

/-! ### the greatest ring that refuses -/
inductive Moment (fr : List Kd) (cap : Int) : Int → Prop
  | long (k : Kd) : k ∈ fr → Moment fr cap (k.1 - 1)
  | short (k : Kd) (h : Int) (ms : List Kd) : k ∈ fr → IsSum fr h → h < k.1 → Frm fr ms → ms ≠ [] → wt ms + k.2 ≤ cap → Moment fr cap (h + len ms + k.1 - 1)
  | caught (k t : Kd) (rest old : List Kd) (h : Int) : k ∈ fr → t ∈ fr → Frm fr rest → Frm fr old → old ≠ [] → IsSum fr h → t.1 + len rest ≤ h → h < t.1 + len rest + k.1 →
      wt old + wt rest + t.2 + k.2 ≤ cap → Moment fr cap (h + len old + t.1 - 1)
theorem ShapeOk.moment {ks : List Kd} {cap W : Int} {n : Nat} {sh : Shape} (u : Usable ks cap n) (s : ShapeOk ks cap W n sh) : ∃ v, Moment (free ks cap) cap v ∧ W ≤ v := by
  cases sh with
  | long =>
    have s : W < kl ks n := s
    exact ⟨_, .long _ u.mem, by rw [kd1]; omega⟩
  | short h b =>
    obtain ⟨h0, h1, h2, h3, hs, hb, y, ⟨ms, r, e1, e2⟩, hy⟩ := s
    refine ⟨_, .short (kd ks n) h ms u.mem hs h3 r (fun z => ?_) (by rw [e2]; exact hy), by rw [e1, kd1]; omega⟩
    subst z
    rw [len_nil] at e1
    omega
  | caught h b p t =>
    obtain ⟨h0, h1, h2, h3, h4, ut, htp, hb, hs, y, z, ⟨ms, r, e1, e2⟩, ⟨rs, rr, e3, e4⟩, hy⟩ := s
    refine ⟨_, .caught (kd ks n) (kd ks t) rs ms h u.mem ut.mem rr r (fun z => ?_) hs (by rw [kd1]; omega) (by rw [kd1, kd1]; omega) (by rw [kd2, kd2]; omega), by rw [e1, kd1]; omega⟩
    subst z
    rw [len_nil] at e1
    omega
/-- messages pushed behind one another -/
theorem push_row {ks : List Kd} {cap W H : Int} (g : Good ks) (hH : 0 ≤ H) : ∀ (more old : List Nat), Reach ks cap W (H + tot ks old, lay ks H old) → Ok ks cap (old ++ more) → pay ks (old ++ more) ≤ cap → H + tot ks (old ++ more) ≤ W →
    Reach ks cap W (H + tot ks (old ++ more), lay ks H (old ++ more))
  | [], old, r, _, _, _ => by rw [List.append_nil]; exact r
  | n :: more, old, r, o, p, hw => by
    have o1 := o.left
    have u := o.right.head
    have hpos := u.pos g
    have om := o.right.tail.pos g
    have p1 := o1.pos g
    rw [pay_append, pay_cons] at p
    rw [tot_append, tot_cons] at hw
    have hnr : refused W (H + tot ks old, lay ks H old) (kl ks n) = false := by
      rw [Bool.eq_false_iff]
      intro z
      rcases (refused_one g o1 (by omega)).mp z with z | ⟨_, z, _⟩ <;> omega
    have r1 := Reach.push r (n := n) (mem_may.mpr ⟨u.1, by rw [paid_lay1]; omega⟩) hnr
    unfold pushed at r1
    simp only at r1
    rw [if_pos (by omega)] at r1
    have r2 : Reach ks cap W (H + tot ks (old ++ [n]), lay ks H (old ++ [n])) := by
      rw [lay_snoc, tot_append, tot_cons, tot_nil, Int.add_zero, ← Int.add_assoc]
      exact r1
    have := push_row g hH more (old ++ [n]) r2 (by rw [List.append_assoc]; exact o) (by rw [List.append_assoc]; rw [List.singleton_append, pay_append, pay_cons]; exact p) (by rw [List.append_assoc, List.singleton_append, tot_append, tot_cons]; exact hw)
    rw [List.append_assoc, List.singleton_append] at this
    exact this
/-- .. behind old ones, from the start on -/
theorem push_newer {ks : List Kd} {cap W H : Int} {old : List Nat} (g : Good ks) (ho : old ≠ []) (hHW : H ≤ W) : ∀ (more new : List Nat), Reach ks cap W (tot ks new, lay ks H old ++ lay ks 0 new) → Ok ks cap (old ++ (new ++ more)) → pay ks (old ++ (new ++ more)) ≤ cap →
    tot ks (new ++ more) ≤ H → Reach ks cap W (tot ks (new ++ more), lay ks H old ++ lay ks 0 (new ++ more))
  | [], new, r, _, _, _ => by rw [List.append_nil]; exact r
  | n :: more, new, r, o, p, hw => by
    have u := o.right.right.head
    have hpos := u.pos g
    have om := o.right.right.tail.pos g
    have p1 := o.right.left.pos g
    rw [pay_append, pay_append, pay_cons] at p
    rw [tot_append, tot_cons] at hw
    have hnr : refused W (tot ks new, lay ks H old ++ lay ks 0 new) (kl ks n) = false := by
      rw [Bool.eq_false_iff]
      intro z
      rcases (refused_two ho (by omega)).mp z with z | z <;> omega
    have r1 := Reach.push r (n := n) (mem_may.mpr ⟨u.1, by rw [paid_lay, pay_append]; omega⟩) hnr
    unfold pushed at r1
    simp only at r1
    rw [if_pos (by omega)] at r1
    have r2 : Reach ks cap W (tot ks (new ++ [n]), lay ks H old ++ lay ks 0 (new ++ [n])) := by
      rw [lay_snoc, tot_append, tot_cons, tot_nil, Int.add_zero, Int.zero_add, ← List.append_assoc]
      exact r1
    have := push_newer g ho hHW more (new ++ [n]) r2 (by rw [List.append_assoc]; exact o) (by rw [List.append_assoc, List.singleton_append, pay_append, pay_append, pay_cons]; exact p) (by rw [List.append_assoc, List.singleton_append, tot_append, tot_cons]; exact hw)
    rw [List.append_assoc, List.singleton_append] at this
    exact this
/-- an empty ring's place can be any sum -/
theorem reach_place {ks : List Kd} {cap W : Int} (g : Good ks) (hc : 0 ≤ cap) : ∀ (ns : List Nat) (P : Int), 0 ≤ P → Reach ks cap W (P, []) → Ok ks cap ns → P + tot ks ns ≤ W → Reach ks cap W (P + tot ks ns, [])
  | [], P, _, r, _, _ => by rw [tot_nil, Int.add_zero]; exact r
  | n :: ns, P, hP, r, o, hw => by
    have u := o.head
    have hpos := u.pos g
    have om := o.tail.pos g
    rw [tot_cons] at hw
    have r0 : Reach ks cap W (P + tot ks [], lay ks P []) := by rw [tot_nil, Int.add_zero]; exact r
    have r1 := push_row g hP [n] [] r0 (.cons u .nil) (by rw [List.nil_append, pay_cons, pay_nil]; have := u.2; omega) (by rw [List.nil_append, tot_cons, tot_nil]; omega)
    rw [List.nil_append, tot_cons, tot_nil, Int.add_zero] at r1
    have r2 := Reach.pop (P := P + kl ks n) (m := (P, n)) (ms := []) r1
    have := reach_place g hc ns (P + kl ks n) (by omega) r2 o.tail (by omega)
    rw [tot_cons, ← Int.add_assoc]
    exact this
/-- too much for the ring: refused on the way -/
theorem over {ks : List Kd} {cap W : Int} (g : Good ks) (hc : 0 ≤ cap) (hW : 0 ≤ W) : ∀ (more old : List Nat), Reach ks cap W (tot ks old, lay ks 0 old) → Ok ks cap (old ++ more) → pay ks (old ++ more) ≤ cap → tot ks old ≤ W → W < tot ks (old ++ more) →
    ∃ st n, Reach ks cap W st ∧ n ∈ bad ks cap W st
  | [], old, _, _, _, h1, h2 => by rw [List.append_nil] at h2; omega
  | n :: more, old, r, o, p, h1, h2 => by
    have u := o.right.head
    have hpos := u.pos g
    have om := o.right.tail.pos g
    have p1 := o.left.pos g
    rw [pay_append, pay_cons] at p
    have hm : n ∈ may ks cap (lay ks 0 old) := mem_may.mpr ⟨u.1, by rw [paid_lay1]; omega⟩
    by_cases hf : tot ks old + kl ks n ≤ W
    · have r0 : Reach ks cap W (0 + tot ks old, lay ks 0 old) := by rw [Int.zero_add]; exact r
      have r1 := push_row g (Int.le_refl 0) [n] old r0 (o.left.append (.cons u .nil)) (by rw [pay_append, pay_cons, pay_nil]; omega) (by rw [tot_append, tot_cons, tot_nil]; omega)
      rw [Int.zero_add] at r1
      have := over g hc hW more (old ++ [n]) r1 (by rw [List.append_assoc]; exact o) (by rw [List.append_assoc, List.singleton_append, pay_append, pay_cons]; exact p) (by rw [tot_append, tot_cons, tot_nil]; omega) (by rw [List.append_assoc]; exact h2)
      exact this
    · refine ⟨_, n, r, List.mem_filter.mpr ⟨hm, ?_⟩⟩
      have := (refused_one (W := W) (H := 0) (s := kl ks n) g o.left (by omega)).mpr (by
        by_cases ho : old = []
        · subst ho
          rw [tot_nil] at hf
          exact .inl (by omega)
        · exact .inr ⟨ho, by omega, by omega⟩)
      rwa [Int.zero_add] at this
theorem over' {ks : List Kd} {cap W : Int} (g : Good ks) (hc : 0 ≤ cap) (hW : 0 ≤ W) {ms : List Kd} (r : Frm (free ks cap) ms) (hp : wt ms ≤ cap) (hl : W < len ms) : ∃ st n, Reach ks cap W st ∧ n ∈ bad ks cap W st := by
  obtain ⟨ns, o, rfl⟩ := numbers r
  exact over g hc hW ns [] (by rw [tot_nil]; exact .start) o hp (by rw [tot_nil]; exact hW) hl
theorem Moment.refusal {ks : List Kd} {cap W v : Int} (g : Good ks) (hc : 0 ≤ cap) (hW : 0 ≤ W) (m : Moment (free ks cap) cap v) (hv : W ≤ v) : ∃ st n, Reach ks cap W st ∧ n ∈ bad ks cap W st := by
  cases m with
  | long k hk =>
    exact over' g hc hW (ms := [k]) (.cons hk .nil) (by rw [wt_cons, wt_nil]; have := (mem_free.mp hk).2; omega) (by rw [len_cons, len_nil]; omega)
  | short k h ms hk hs hh r hne hp =>
    by_cases hb : W < h + len ms
    · exact over' g hc hW (ms := ms ++ [k]) (r.append (.cons hk .nil)) (by rw [wt_append, wt_cons, wt_nil]; omega) (by rw [len_append, len_cons, len_nil]; omega)
    · have h0 := hs.nonneg (g.free cap)
      obtain ⟨hm, hr, rfl⟩ := hs
      obtain ⟨hns, ho, rfl⟩ := numbers hr
      obtain ⟨old, oo, rfl⟩ := numbers r
      obtain ⟨n, u, rfl⟩ := number hk
      have hpos := u.pos g
      simp only [kd1, kd2] at *
      have gm := len_nonneg (g.free cap) r
      have gm2 := len_pos (g.free cap) r hne
      have r1 := reach_place (W := W) g hc hns 0 (Int.le_refl 0) .start ho (by show 0 + len _ ≤ W; omega)
      rw [Int.zero_add] at r1
      have r2 := push_row g (W := W) (H := tot ks hns) h0 old [] (by rw [tot_nil, Int.add_zero]; exact r1) oo (by show wt _ ≤ cap; rw [List.nil_append]; omega) (by rw [List.nil_append]; show len _ + len _ ≤ W; omega)
      rw [List.nil_append] at r2
      refine ⟨_, n, r2, List.mem_filter.mpr ⟨mem_may.mpr ⟨u.1, by rw [paid_lay1]; exact hp⟩, (refused_one g oo (by omega)).mpr (.inr ⟨?_, ?_, hh⟩)⟩⟩
      · intro z
        subst z
        exact hne rfl
      · show W < len _ + len _ + kl ks n
        show W < len _ + len _ + kl ks n
        omega
  | caught k t rest old h hk ht rr ro hne hs h1 h2 hp =>
    by_cases hb : W < h + len old
    · exact over' g hc hW (ms := t :: rest ++ old ++ [k]) (((Frm.cons ht rr).append ro).append (.cons hk .nil)) (by rw [wt_append, wt_append, wt_cons, wt_cons, wt_nil]; omega) (by rw [len_append, len_append, len_cons, len_cons, len_nil]; omega)
    · have h0 := hs.nonneg (g.free cap)
      obtain ⟨hm, hr, rfl⟩ := hs
      obtain ⟨hns, ho, rfl⟩ := numbers hr
      obtain ⟨ons, oo, rfl⟩ := numbers ro
      obtain ⟨rns, ors, rfl⟩ := numbers rr
      obtain ⟨n, u, rfl⟩ := number hk
      obtain ⟨tn, ut, rfl⟩ := number ht
      have hpos := u.pos g
      have tpos := ut.pos g
      simp only [kd1, kd2] at *
      have gm := len_nonneg (g.free cap) ro
      have gm2 := len_pos (g.free cap) ro hne
      have gr := len_nonneg (g.free cap) rr
      have r1 := reach_place (W := W) g hc hns 0 (Int.le_refl 0) .start ho (by show 0 + len _ ≤ W; omega)
      rw [Int.zero_add] at r1
      have r2 := push_row g (W := W) (H := tot ks hns) h0 ons [] (by rw [tot_nil, Int.add_zero]; exact r1) oo (by show wt _ ≤ cap; rw [List.nil_append]; omega) (by rw [List.nil_append]; show len _ + len _ ≤ W; omega)
      rw [List.nil_append] at r2
      have hone : ons ≠ [] := fun z => by
        subst z
        exact hne rfl
      -- the first newer one
      have hnr : refused W (tot ks hns + tot ks ons, lay ks (tot ks hns) ons) (kl ks tn) = false := by
        rw [Bool.eq_false_iff]
        intro z
        rcases (refused_one g oo (by omega)).mp z with z | ⟨_, _, z⟩
        · have : len (hns.map (kd ks)) ≤ W := by omega
          omega
        · have : len (hns.map (kd ks)) < kl ks tn := z
          omega
      have r3 := Reach.push r2 (n := tn) (mem_may.mpr ⟨ut.1, by rw [paid_lay1]; show wt _ + kw ks tn ≤ cap; omega⟩) hnr
      unfold pushed at r3
      simp only at r3
      rw [if_neg (by show ¬ len (hns.map (kd ks)) + len (ons.map (kd ks)) + kl ks tn ≤ W; omega), Int.zero_add] at r3
      have r4 : Reach ks cap W (tot ks [tn], lay ks (tot ks hns) ons ++ lay ks 0 [tn]) := by
        rw [tot_cons, tot_nil, Int.add_zero]
        exact r3
      have e1 : pay ks (ons ++ ([tn] ++ rns)) = wt (ons.map (kd ks)) + (kw ks tn + wt (rns.map (kd ks))) := by rw [List.singleton_append, pay_append, pay_cons]; rfl
      have e2 : tot ks ([tn] ++ rns) = kl ks tn + len (rns.map (kd ks)) := by rw [List.singleton_append, tot_cons]; rfl
      have r5 := push_newer g hone (W := W) (H := tot ks hns) (by show len _ ≤ W; omega) rns [tn] r4 (oo.append ((Ok.cons ut .nil).append ors)) (by rw [e1]; omega) (by rw [e2]; show _ ≤ len _; omega)
      refine ⟨_, n, r5, List.mem_filter.mpr ⟨mem_may.mpr ⟨u.1, by rw [paid_lay, e1]; show _ + kw ks n ≤ cap; omega⟩, (refused_two hone (by rw [e2]; show _ ≤ len _; omega)).mpr (.inr ?_)⟩⟩
      rw [e2]
      show len _ < _ + kl ks n
      omega
def TopOk (fr : List Kd) (cap t : Int) : Prop := (∀ v, Moment fr cap v → v ≤ t) ∧ (t = -1 ∨ Moment fr cap t)
theorem top_iff {ks : List Kd} {cap W t : Int} (g : Good ks) (hc : 0 ≤ cap) (hW : 0 ≤ W) (h : TopOk (free ks cap) cap t) : (∃ st n, Reach ks cap W st ∧ n ∈ bad ks cap W st) ↔ W ≤ t := by
  constructor
  · rintro ⟨st, n, r, b⟩
    obtain ⟨u, s⟩ := (r.inv g hc hW).shape g b
    obtain ⟨v, m, l⟩ := s.moment u
    have := h.1 v m
    omega
  · intro l
    rcases h.2 with rfl | m
    · omega
    · exact m.refusal g hc hW l
end Wr

set_option maxHeartbeats 200000
set_option linter.all false
/-! WrBfs: the search through all states: it ends, and finds just the reachable ones (core Lean only). -/
namespace Wr
def popped (st : RSt) : List RSt := match st.2 with
  | [] => []
  | _ :: r => [(st.1, r)]
def succs (ks : List Kd) (cap W : Int) (st : RSt) : List RSt := popped st ++ ((may ks cap st.2).filter fun n => !refused W st (kl ks n)).map (pushed ks W st)
theorem succs_reach {ks : List Kd} {cap W : Int} {st s' : RSt} (r : Reach ks cap W st) (h : s' ∈ succs ks cap W st) : Reach ks cap W s' := by
  rcases List.mem_append.mp h with h | h
  · obtain ⟨P, ms⟩ := st
    cases ms with
    | nil => exact nomatch h
    | cons m ms =>
      have e : s' = (P, ms) := by simpa [popped] using h
      rw [e]
      exact .pop r
  · obtain ⟨n, hn, rfl⟩ := List.mem_map.mp h
    obtain ⟨h1, h2⟩ := List.mem_filter.mp hn
    exact .push r h1 (by simpa using h2)
structure BInv (ks : List Kd) (cap W : Int) (found pend : List RSt) : Prop where
  nd : found.Nodup
  reach : ∀ s ∈ found, Reach ks cap W s
  start : ((0, []) : RSt) ∈ found
  closed : ∀ s ∈ found, s ∈ pend ∨ ∀ s' ∈ succs ks cap W s, s' ∈ found
  sub : ∀ s ∈ pend, s ∈ found
theorem BInv.init {ks : List Kd} {cap W : Int} : BInv ks cap W [(0, [])] [(0, [])] :=
  ⟨by simp, fun s h => by
    have e : s = (0, []) := by simpa using h
    rw [e]
    exact .start, by simp, fun s h => .inl h, fun s h => h⟩
theorem BInv.add {ks : List Kd} {cap W : Int} {found pend : List RSt} {s : RSt} (b : BInv ks cap W found pend) (r : Reach ks cap W s) (hn : s ∉ found) : BInv ks cap W (found ++ [s]) (pend ++ [s]) where
  nd := by
    rw [List.nodup_append]
    refine ⟨b.nd, by simp, fun a ha c hc e => ?_⟩
    have : c = s := by simpa using hc
    subst e
    subst this
    exact hn ha
  reach := fun x hx => by
    rcases List.mem_append.mp hx with h | h
    · exact b.reach x h
    · have e : x = s := by simpa using h
      rw [e]
      exact r
  start := List.mem_append_left _ b.start
  closed := fun x hx => by
    rcases List.mem_append.mp hx with h | h
    · rcases b.closed x h with z | z
      · exact .inl (List.mem_append_left _ z)
      · exact .inr fun s' hs => List.mem_append_left _ (z s' hs)
    · exact .inl (List.mem_append_right _ h)
  sub := fun x hx => by
    rcases List.mem_append.mp hx with h | h
    · exact List.mem_append_left _ (b.sub x h)
    · exact List.mem_append_right _ h
theorem BInv.done {ks : List Kd} {cap W : Int} {found pend : List RSt} {s : RSt} (b : BInv ks cap W found (s :: pend)) (h : ∀ s' ∈ succs ks cap W s, s' ∈ found) : BInv ks cap W found pend where
  nd := b.nd
  reach := b.reach
  start := b.start
  closed := fun x hx => by
    rcases b.closed x hx with z | z
    · rcases List.mem_cons.mp z with rfl | z
      · exact .inr h
      · exact .inl z
    · exact .inr z
  sub := fun x hx => b.sub x (List.mem_cons_of_mem _ hx)
theorem BInv.all {ks : List Kd} {cap W : Int} {found : List RSt} (b : BInv ks cap W found []) {s : RSt} (r : Reach ks cap W s) : s ∈ found := by
  have cl : ∀ s ∈ found, ∀ s' ∈ succs ks cap W s, s' ∈ found := fun s hs => (b.closed s hs).elim (fun z => nomatch z) id
  induction r with
  | start => exact b.start
  | pop r ih => exact cl _ ih _ (List.mem_append_left _ (by simp [popped]))
  | push r hn hr ih => exact cl _ ih _ (List.mem_append_right _ (List.mem_map.mpr ⟨_, List.mem_filter.mpr ⟨hn, by simpa using hr⟩, rfl⟩))

/-! ### a finite universe -/
def listsUp (n : Nat) : Nat → List (List Nat)
  | 0 => [[]]
  | L + 1 => [] :: (List.range n).flatMap fun a => (listsUp n L).map (a :: ·)
theorem mem_listsUp {n : Nat} : ∀ {L : Nat} {ns : List Nat}, ns.length ≤ L → (∀ x ∈ ns, x < n) → ns ∈ listsUp n L
  | 0, [], _, _ => by simp [listsUp]
  | 0, _ :: _, h, _ => by simp at h
  | L + 1, [], _, _ => by simp [listsUp]
  | L + 1, a :: ns, h, hx => by
    rw [listsUp]
    refine List.mem_cons_of_mem _ (List.mem_flatMap.mpr ⟨a, List.mem_range.mpr (hx a List.mem_cons_self), List.mem_map.mpr ⟨ns, mem_listsUp (by simpa using h) fun x hm => hx x (List.mem_cons_of_mem _ hm), rfl⟩⟩)
def nLists (n : Nat) : Nat → Nat
  | 0 => 1
  | L + 1 => 1 + n * nLists n L
theorem flatMap_len {α β : Type} {c : Nat} (f : α → List β) : ∀ l : List α, (∀ a ∈ l, (f a).length = c) → (l.flatMap f).length = l.length * c
  | [], _ => by simp
  | a :: l, h => by
    rw [List.flatMap_cons, List.length_append, flatMap_len f l fun x hx => h x (List.mem_cons_of_mem _ hx), h a List.mem_cons_self, List.length_cons, Nat.succ_mul, Nat.add_comm]
theorem listsUp_length {n : Nat} : ∀ L, (listsUp n L).length = nLists n L
  | 0 => rfl
  | L + 1 => by
    rw [listsUp, List.length_cons, flatMap_len (c := nLists n L) _ _ fun a _ => by rw [List.length_map, listsUp_length L], List.length_range, nLists, Nat.add_comm]
theorem nLists_mono {n m L M : Nat} (h : n ≤ m) (hL : L ≤ M) : nLists n L ≤ nLists m M := by
  induction M generalizing L with
  | zero =>
    have : L = 0 := by omega
    subst this
    exact Nat.le_refl _
  | succ M ih =>
    cases L with
    | zero => rw [nLists, nLists]; omega
    | succ L =>
      rw [nLists, nLists]
      have := ih (L := L) (by omega)
      have := Nat.mul_le_mul h this
      omega
def mkSt (ks : List Kd) (H : Int) (old new : List Nat) : RSt := (if new = [] then H + tot ks old else tot ks new, lay ks H old ++ lay ks 0 new)
def univ (ks : List Kd) (W : Nat) (L : Nat) : List RSt := (List.range (W + 1)).flatMap fun (H : Nat) => (listsUp ks.length L).flatMap fun ns => (List.range (L + 1)).map fun j => mkSt ks (H : Int) (ns.take j) (ns.drop j)
theorem univ_length {ks : List Kd} {W L : Nat} : (univ ks W L).length = (W + 1) * (nLists ks.length L * (L + 1)) := by
  unfold univ
  rw [flatMap_len (c := nLists ks.length L * (L + 1)), List.length_range]
  intro H _
  rw [flatMap_len (c := L + 1), listsUp_length]
  intro ns _
  rw [List.length_map, List.length_range]
/-- few messages are live at a time -/
def Few (ks : List Kd) (cap : Int) (L : Nat) : Prop := ∀ ms, Frm (free ks cap) ms → wt ms ≤ cap → ms.length ≤ L
theorem few_of {ks : List Kd} {cap light : Int} {L : Nat} (g : Good ks) (hl : 0 < light) (h : ∀ k ∈ ks, light ≤ k.2) (hc : cap < light * (L + 1)) : Few ks cap L := by
  intro ms r hp
  have key : ∀ ms : List Kd, Frm (free ks cap) ms → light * (ms.length : Int) ≤ wt ms := by
    intro ms
    induction ms with
    | nil => intro _; simp [wt]
    | cons k ms ih =>
      intro r
      have h1 := ih r.tail
      have h2 := h k (mem_free.mp r.head).1
      rw [wt_cons, List.length_cons, Int.natCast_add, Int.mul_add]
      simp
      omega
  have h1 := key ms r
  apply Classical.byContradiction
  intro hn
  have : light * ((L : Int) + 1) ≤ light * (ms.length : Int) := Int.mul_le_mul_of_nonneg_left (by omega) (by omega)
  omega
theorem mem_univ {ks : List Kd} {cap : Int} {W L : Nat} {H : Int} {old new : List Nat} (h0 : 0 ≤ H) (hH : H ≤ (W : Int)) (o : Ok ks cap (old ++ new)) (hl : (old ++ new).length ≤ L) : mkSt ks H old new ∈ univ ks W L := by
  unfold univ
  refine List.mem_flatMap.mpr ⟨H.toNat, List.mem_range.mpr (by omega), List.mem_flatMap.mpr ⟨old ++ new, mem_listsUp hl fun x hx => (o x hx).1, List.mem_map.mpr ⟨old.length, List.mem_range.mpr (by rw [List.length_append] at hl; omega), ?_⟩⟩⟩
  rw [List.take_left' rfl, List.drop_left' rfl]
  have : ((H.toNat : Nat) : Int) = H := by omega
  rw [this]
theorem RInv.univ {ks : List Kd} {cap : Int} {W L : Nat} (g : Good ks) (f : Few ks cap L) {st : RSt} (i : RInv ks cap (W : Int) st) : st ∈ univ ks W L := by
  cases i with
  | one H old hs hw o p =>
    have h0 := hs.nonneg (g.free cap)
    have h1 := o.pos g
    have := mem_univ (W := W) (L := L) (old := old) (new := []) h0 (by omega) (by rw [List.append_nil]; exact o) (by
      rw [List.append_nil]
      have := f _ o.frm p
      rwa [List.length_map] at this)
    unfold mkSt at this
    rw [if_pos rfl] at this
    simpa [lay] using this
  | two H old t rest ho hs hw o p hP hW =>
    have h0 := hs.nonneg (g.free cap)
    have h1 := o.left.pos g
    have := mem_univ (W := W) (L := L) (old := old) (new := t :: rest) h0 (by omega) o (by
      have := f _ o.frm p
      rwa [List.length_map] at this)
    unfold mkSt at this
    rw [if_neg (by simp)] at this
    exact this
theorem BInv.size {ks : List Kd} {cap : Int} {W L : Nat} {found pend : List RSt} (g : Good ks) (hc : 0 ≤ cap) (f : Few ks cap L) (b : BInv ks cap (W : Int) found pend) : found.length ≤ (univ ks W L).length :=
  nodup_le b.nd fun s hs => ((b.reach s hs).inv g hc (by omega)).univ g f
/-- the greatest ring that refuses is small -/
theorem Moment.le {ks : List Kd} {cap v : Int} {L : Nat} (g : Good ks) (f : Few ks cap L) (hL : L ≤ 5) (m : Moment (free ks cap) cap v) : v ≤ 178 := by
  have key : ∀ ms, Frm (free ks cap) ms → wt ms ≤ cap → len ms ≤ 150 := by
    intro ms r p
    have h1 := f ms r p
    have h2 := len_le_mul (M := 30) (fun k hk => ((g.free cap) k hk).2.1) (by omega) r
    omega
  cases m with
  | long k hk => have := (g.free cap) k hk; omega
  | short k h ms hk hs hh r hne hp =>
    have := (g.free cap) k hk
    have := key (ms ++ [k]) (r.append (.cons hk .nil)) (by rw [wt_append, wt_cons, wt_nil]; omega)
    rw [len_append, len_cons, len_nil] at this
    omega
  | caught k t rest old h hk ht rr ro hne hs h1 h2 hp =>
    have := (g.free cap) k hk
    have := (g.free cap) t ht
    have := key (t :: rest ++ old ++ [k]) (((Frm.cons ht rr).append ro).append (.cons hk .nil)) (by rw [wt_append, wt_append, wt_cons, wt_cons, wt_nil]; omega)
    rw [len_append, len_append, len_cons, len_cons, len_nil] at this
    omega
theorem TopOk.le {ks : List Kd} {cap t : Int} {L : Nat} (g : Good ks) (f : Few ks cap L) (hL : L ≤ 5) (h : TopOk (free ks cap) cap t) : -1 ≤ t ∧ t ≤ 178 := by
  rcases h.2 with rfl | m
  · omega
  · refine ⟨?_, m.le g f hL⟩
    cases m with
    | long k hk => have := (g.free cap) k hk; omega
    | short k h ms hk hs hh r hne hp =>
      have := (g.free cap) k hk
      have := len_nonneg (g.free cap) r
      have := hs.nonneg (g.free cap)
      omega
    | caught k t rest old h hk ht rr ro hne hs h1 h2 hp =>
      have := (g.free cap) k hk
      have := (g.free cap) t ht
      have := len_nonneg (g.free cap) ro
      have := hs.nonneg (g.free cap)
      omega
theorem univ_small {ks : List Kd} {W L : Nat} (hW : W ≤ 180) (h : (ks.length ≤ 3 ∧ L ≤ 5) ∨ (ks.length ≤ 6 ∧ L ≤ 2)) : (univ ks W L).length ≤ 395304 ∧ (univ ks W L).length * ks.length ≤ 2371824 ∧ ks.length ≤ 6 := by
  have hn : nLists ks.length L ≤ 364 := by
    rcases h with ⟨h1, h2⟩ | ⟨h1, h2⟩
    · exact Nat.le_trans (nLists_mono h1 h2) (by decide)
    · exact Nat.le_trans (nLists_mono h1 h2) (by decide)
  have hl : L ≤ 5 := by omega
  have hk : ks.length ≤ 6 := by omega
  rw [univ_length]
  have h1 : nLists ks.length L * (L + 1) ≤ 364 * 6 := Nat.mul_le_mul hn (by omega)
  have h2 : (W + 1) * (nLists ks.length L * (L + 1)) ≤ 181 * (364 * 6) := Nat.mul_le_mul (by omega) h1
  have h3 : (W + 1) * (nLists ks.length L * (L + 1)) * ks.length ≤ 181 * (364 * 6) * 6 := Nat.mul_le_mul h2 hk
  exact ⟨by omega, by omega, hk⟩
/-- the refusals met: each shape with its kind stands among these -/
def shapes (ks : List Kd) (W L : Nat) : List (Shape × Nat) := (univ ks W L).flatMap fun st => (List.range ks.length).map fun n => (form ks W st n, n)
theorem shapes_length {ks : List Kd} {W L : Nat} : (shapes ks W L).length = (univ ks W L).length * ks.length := by
  unfold shapes
  rw [flatMap_len (c := ks.length)]
  intro st _
  rw [List.length_map, List.length_range]
theorem mem_shapes {ks : List Kd} {cap : Int} {W L : Nat} (g : Good ks) (hc : 0 ≤ cap) (f : Few ks cap L) {st : RSt} {n : Nat} (r : Reach ks cap (W : Int) st) (hn : n ∈ bad ks cap (W : Int) st) : (form ks W st n, n) ∈ shapes ks W L :=
  List.mem_flatMap.mpr ⟨st, (r.inv g hc (by omega)).univ g f, List.mem_map.mpr ⟨n, List.mem_range.mpr (mem_may.mp (List.mem_filter.mp hn).1).1, rfl⟩⟩
end Wr

set_option maxHeartbeats 200000
set_option Elab.async false
set_option linter.all false
set_option maxRecDepth 100000
/-! WrText: the defs of the linked text by their places, their slots (printed by gen/gentext.py). -/
namespace Wk
open PySem PySem.Spec PyProof.Rows L2
def topS (i : Nat) : Stmt := PySem.Challenge.pw_wholering_k72_whole_every_refusal_has_a.main.body.getD i (.Pass ⟨0, 0, 0, 0⟩)
abbrev s__wall : Stmt := topS 0
abbrev n__wall : List Str := ["k"]
abbrev p__wall : List Str := ["k"]
theorem sc__wall : FnScope n__wall p__wall (defScope s__wall) := ⟨rfl, rfl, rfl, by decide +kernel, rfl, by decide +kernel, by decide +kernel⟩
abbrev s_is_integer : Stmt := topS 2
abbrev n_is_integer : List Str := ["value", "least", "most"]
abbrev p_is_integer : List Str := ["value", "least", "most"]
theorem sc_is_integer : FnScope n_is_integer p_is_integer (defScope s_is_integer) := ⟨rfl, rfl, rfl, by decide +kernel, rfl, by decide +kernel, by decide +kernel⟩
abbrev s_usable : Stmt := topS 3
abbrev n_usable : List Str := ["system", "limit", "kind"]
abbrev p_usable : List Str := ["system", "limit"]
theorem sc_usable : FnScope n_usable p_usable (defScope s_usable) := ⟨rfl, rfl, rfl, by decide +kernel, rfl, by decide +kernel, by decide +kernel⟩
abbrev s_common_divisor : Stmt := topS 5
abbrev n_common_divisor : List Str := ["one", "other"]
abbrev p_common_divisor : List Str := ["one", "other"]
theorem sc_common_divisor : FnScope n_common_divisor p_common_divisor (defScope s_common_divisor) := ⟨rfl, rfl, rfl, by decide +kernel, rfl, by decide +kernel, by decide +kernel⟩
abbrev s_least_of : Stmt := topS 6
abbrev n_least_of : List Str := ["numbers", "some", "number"]
abbrev p_least_of : List Str := ["numbers"]
theorem sc_least_of : FnScope n_least_of p_least_of (defScope s_least_of) := ⟨rfl, rfl, rfl, by decide +kernel, rfl, by decide +kernel, by decide +kernel⟩
abbrev s_m_init : Stmt := inClass (topS 7) 0
abbrev n_m_init : List Str := ["self", "kinds", "length", "weight"]
abbrev p_m_init : List Str := ["self", "kinds"]
theorem sc_m_init : FnScope n_m_init p_m_init (defScope s_m_init) := ⟨rfl, rfl, rfl, by decide +kernel, rfl, by decide +kernel, by decide +kernel⟩
abbrev s_m_least_by_rest : Stmt := inClass (topS 7) 1
abbrev n_m_least_by_rest : List Str := ["self", "least", "found", "waiting", "here", "length", "weight", "later", "rest"]
abbrev p_m_least_by_rest : List Str := ["self"]
theorem sc_m_least_by_rest : FnScope n_m_least_by_rest p_m_least_by_rest (defScope s_m_least_by_rest) := ⟨rfl, rfl, rfl, by decide +kernel, rfl, by decide +kernel, by decide +kernel⟩
abbrev s_m_regular_from : Stmt := inClass (topS 7) 2
abbrev n_m_regular_from : List Str := ["self", "least", "found"]
abbrev p_m_regular_from : List Str := ["self"]
theorem sc_m_regular_from : FnScope n_m_regular_from p_m_regular_from (defScope s_m_regular_from) := ⟨rfl, rfl, rfl, by decide +kernel, rfl, by decide +kernel, by decide +kernel⟩
abbrev s_m_floors : Stmt := inClass (topS 7) 3
abbrev n_m_floors : List Str := ["self", "many", "sums", "found", "words", "is_sum", "length", "weight"]
abbrev p_m_floors : List Str := ["self", "many"]
theorem sc_m_floors : FnScope n_m_floors p_m_floors (defScope s_m_floors) := ⟨rfl, rfl, rfl, by decide +kernel, rfl, by decide +kernel, by decide +kernel⟩
abbrev s_m_is_sum : Stmt := inClass (topS 7) 4
abbrev n_m_is_sum : List Str := ["self", "words"]
abbrev p_m_is_sum : List Str := ["self", "words"]
theorem sc_m_is_sum : FnScope n_m_is_sum p_m_is_sum (defScope s_m_is_sum) := ⟨rfl, rfl, rfl, by decide +kernel, rfl, by decide +kernel, by decide +kernel⟩
abbrev s_m_floor : Stmt := inClass (topS 7) 5
abbrev n_m_floor : List Str := ["self", "words"]
abbrev p_m_floor : List Str := ["self", "words"]
theorem sc_m_floor : FnScope n_m_floor p_m_floor (defScope s_m_floor) := ⟨rfl, rfl, rfl, by decide +kernel, rfl, by decide +kernel, by decide +kernel⟩
abbrev s_m_slimmest : Stmt := inClass (topS 7) 6
abbrev n_m_slimmest : List Str := ["self", "found", "length", "weight"]
abbrev p_m_slimmest : List Str := ["self"]
theorem sc_m_slimmest : FnScope n_m_slimmest p_m_slimmest (defScope s_m_slimmest) := ⟨rfl, rfl, rfl, by decide +kernel, rfl, by decide +kernel, by decide +kernel⟩
abbrev s_m_lightest_up_to : Stmt := inClass (topS 7) 7
abbrev n_m_lightest_up_to : List Str := ["self", "bound", "found", "words", "some", "length", "weight", "load"]
abbrev p_m_lightest_up_to : List Str := ["self", "bound"]
theorem sc_m_lightest_up_to : FnScope n_m_lightest_up_to p_m_lightest_up_to (defScope s_m_lightest_up_to) := ⟨rfl, rfl, rfl, by decide +kernel, rfl, by decide +kernel, by decide +kernel⟩
abbrev s_m_lightest : Stmt := inClass (topS 7) 8
abbrev n_m_lightest : List Str := ["self", "words", "turns", "found"]
abbrev p_m_lightest : List Str := ["self", "words"]
theorem sc_m_lightest : FnScope n_m_lightest p_m_lightest (defScope s_m_lightest) := ⟨rfl, rfl, rfl, by decide +kernel, rfl, by decide +kernel, by decide +kernel⟩
abbrev s_m_richest : Stmt := inClass (topS 7) 9
abbrev n_m_richest : List Str := ["self", "found", "length", "weight", "here", "there"]
abbrev p_m_richest : List Str := ["self"]
theorem sc_m_richest : FnScope n_m_richest p_m_richest (defScope s_m_richest) := ⟨rfl, rfl, rfl, by decide +kernel, rfl, by decide +kernel, by decide +kernel⟩
abbrev s_m_longest_up_to : Stmt := inClass (topS 7) 10
abbrev n_m_longest_up_to : List Str := ["self", "bound", "found", "load", "some", "length", "weight"]
abbrev p_m_longest_up_to : List Str := ["self", "bound"]
theorem sc_m_longest_up_to : FnScope n_m_longest_up_to p_m_longest_up_to (defScope s_m_longest_up_to) := ⟨rfl, rfl, rfl, by decide +kernel, rfl, by decide +kernel, by decide +kernel⟩
abbrev s_m_longest : Stmt := inClass (topS 7) 11
abbrev n_m_longest : List Str := ["self", "load"]
abbrev p_m_longest : List Str := ["self", "load"]
theorem sc_m_longest : FnScope n_m_longest p_m_longest (defScope s_m_longest) := ⟨rfl, rfl, rfl, by decide +kernel, rfl, by decide +kernel, by decide +kernel⟩
abbrev s_sizes_of : Stmt := topS 13
abbrev n_sizes_of : List Str := ["system", "shape", "kind", "length", "least", "missing"]
abbrev p_sizes_of : List Str := ["system", "shape", "kind"]
theorem sc_sizes_of : FnScope n_sizes_of p_sizes_of (defScope s_sizes_of) := ⟨rfl, rfl, rfl, by decide +kernel, rfl, by decide +kernel, by decide +kernel⟩
abbrev s_is_carried : Stmt := topS 14
abbrev n_is_carried : List Str := ["loads", "words", "weight", "lightest"]
abbrev p_is_carried : List Str := ["loads", "words", "weight"]
theorem sc_is_carried : FnScope n_is_carried p_is_carried (defScope s_is_carried) := ⟨rfl, rfl, rfl, by decide +kernel, rfl, by decide +kernel, by decide +kernel⟩
abbrev s_end_can_occur : Stmt := topS 15
abbrev n_end_can_occur : List Str := ["loads", "shape", "kind", "left", "word", "head", "old"]
abbrev p_end_can_occur : List Str := ["loads", "shape", "kind", "left"]
theorem sc_end_can_occur : FnScope n_end_can_occur p_end_can_occur (defScope s_end_can_occur) := ⟨rfl, rfl, rfl, by decide +kernel, rfl, by decide +kernel, by decide +kernel⟩
abbrev s_newer_can_occur : Stmt := topS 16
abbrev n_newer_can_occur : List Str := ["system", "loads", "shape", "kind", "left", "word", "head", "old", "newer", "first", "length", "weight", "rest"]
abbrev p_newer_can_occur : List Str := ["system", "loads", "shape", "kind", "left"]
theorem sc_newer_can_occur : FnScope n_newer_can_occur p_newer_can_occur (defScope s_newer_can_occur) := ⟨rfl, rfl, rfl, by decide +kernel, rfl, by decide +kernel, by decide +kernel⟩
abbrev s_can_occur : Stmt := topS 17
abbrev n_can_occur : List Str := ["system", "limit", "shape", "kind", "loads", "pushed", "number"]
abbrev p_can_occur : List Str := ["system", "limit", "shape", "kind"]
theorem sc_can_occur : FnScope n_can_occur p_can_occur (defScope s_can_occur) := ⟨rfl, rfl, rfl, by decide +kernel, rfl, by decide +kernel, by decide +kernel⟩
abbrev s_l_pot : Stmt := topS 19
abbrev n_l_pot : List Str := ["_law_script", "_law_k", "_law_cell", "_law_great"]
abbrev p_l_pot : List Str := ["_law_script", "_law_k"]
theorem sc_l_pot : FnScope n_l_pot p_l_pot (defScope s_l_pot) := ⟨rfl, rfl, rfl, by decide +kernel, rfl, by decide +kernel, by decide +kernel⟩
abbrev s_l_take : Stmt := topS 20
abbrev n_l_take : List Str := ["_law_pot_here", "_law_upto", "_law_digit"]
abbrev p_l_take : List Str := ["_law_pot_here", "_law_upto"]
theorem sc_l_take : FnScope n_l_take p_l_take (defScope s_l_take) := ⟨rfl, rfl, rfl, by decide +kernel, rfl, by decide +kernel, by decide +kernel⟩
abbrev s_l_of : Stmt := topS 21
abbrev n_l_of : List Str := ["_law_pot_here", "_law_some"]
abbrev p_l_of : List Str := ["_law_pot_here", "_law_some"]
theorem sc_l_of : FnScope n_l_of p_l_of (defScope s_l_of) := ⟨rfl, rfl, rfl, by decide +kernel, rfl, by decide +kernel, by decide +kernel⟩
abbrev s_l_kinds : Stmt := topS 22
abbrev n_l_kinds : List Str := ["_law_pot_here", "_law_many", "_law_most", "_law_way", "_law_found", "_law_turn", "_law_length"]
abbrev p_l_kinds : List Str := ["_law_pot_here", "_law_many", "_law_most"]
theorem sc_l_kinds : FnScope n_l_kinds p_l_kinds (defScope s_l_kinds) := ⟨rfl, rfl, rfl, by decide +kernel, rfl, by decide +kernel, by decide +kernel⟩
abbrev s_l_can_pay : Stmt := topS 23
abbrev n_l_can_pay : List Str := ["_law_kinds_here", "_law_cap", "_law_kind"]
abbrev p_l_can_pay : List Str := ["_law_kinds_here", "_law_cap"]
theorem sc_l_can_pay : FnScope n_l_can_pay p_l_can_pay (defScope s_l_can_pay) := ⟨rfl, rfl, rfl, by decide +kernel, rfl, by decide +kernel, by decide +kernel⟩
abbrev s_l_yes : Stmt := topS 24
abbrev n_l_yes : List Str := ["_law_kinds_here", "_law_many", "_law_found", "_law_total", "_law_length", "_law_heavy"]
abbrev p_l_yes : List Str := ["_law_kinds_here", "_law_many"]
theorem sc_l_yes : FnScope n_l_yes p_l_yes (defScope s_l_yes) := ⟨rfl, rfl, rfl, by decide +kernel, rfl, by decide +kernel, by decide +kernel⟩
abbrev s_l_floors : Stmt := topS 25
abbrev n_l_floors : List Str := ["_law_kinds_here", "_law_many", "_law_found", "_law_total", "_law_is_there"]
abbrev p_l_floors : List Str := ["_law_kinds_here", "_law_many"]
theorem sc_l_floors : FnScope n_l_floors p_l_floors (defScope s_l_floors) := ⟨rfl, rfl, rfl, by decide +kernel, rfl, by decide +kernel, by decide +kernel⟩
abbrev s_l_slim : Stmt := topS 26
abbrev n_l_slim : List Str := ["_law_kinds_here", "_law_many", "_law_found", "_law_total", "_law_some", "_law_loads", "_law_length", "_law_heavy", "_law_one"]
abbrev p_l_slim : List Str := ["_law_kinds_here", "_law_many"]
theorem sc_l_slim : FnScope n_l_slim p_l_slim (defScope s_l_slim) := ⟨rfl, rfl, rfl, by decide +kernel, rfl, by decide +kernel, by decide +kernel⟩
abbrev s_l_rich : Stmt := topS 27
abbrev n_l_rich : List Str := ["_law_kinds_here", "_law_many", "_law_found", "_law_load", "_law_length", "_law_heavy"]
abbrev p_l_rich : List Str := ["_law_kinds_here", "_law_many"]
theorem sc_l_rich : FnScope n_l_rich p_l_rich (defScope s_l_rich) := ⟨rfl, rfl, rfl, by decide +kernel, rfl, by decide +kernel, by decide +kernel⟩
abbrev s_l_top : Stmt := topS 28
abbrev n_l_top : List Str := ["_law_kinds_here", "_law_cap", "_law_free", "_law_rich_here", "_law_many", "_law_floors_here", "_law_slim_here", "_law_best", "_law_length", "_law_heavy", "_law_old", "_law_total", "_law_first", "_law_load"]
abbrev p_l_top : List Str := ["_law_kinds_here", "_law_cap"]
theorem sc_l_top : FnScope n_l_top p_l_top (defScope s_l_top) := ⟨rfl, rfl, rfl, by decide +kernel, rfl, by decide +kernel, by decide +kernel⟩
abbrev s_l_top_behind : Stmt := topS 29
abbrev n_l_top_behind : List Str := ["_law_free", "_law_cap", "_law_newer", "_law_floors_here", "_law_rich_here", "_law_best", "_law_total", "_law_first", "_law_load", "_law_length", "_law_heavy", "_law_left"]
abbrev p_l_top_behind : List Str := ["_law_free", "_law_cap", "_law_newer", "_law_floors_here", "_law_rich_here"]
theorem sc_l_top_behind : FnScope n_l_top_behind p_l_top_behind (defScope s_l_top_behind) := ⟨rfl, rfl, rfl, by decide +kernel, rfl, by decide +kernel, by decide +kernel⟩
abbrev s_l_few : Stmt := topS 30
abbrev n_l_few : List Str := ["_law_pot_here", "_law_way", "_law_kinds_here", "_law_many", "_law_light", "_law_long", "_law_heavy"]
abbrev p_l_few : List Str := ["_law_pot_here"]
theorem sc_l_few : FnScope n_l_few p_l_few (defScope s_l_few) := ⟨rfl, rfl, rfl, by decide +kernel, rfl, by decide +kernel, by decide +kernel⟩
abbrev s_l_refused : Stmt := topS 31
abbrev n_l_refused : List Str := ["_law_words_here", "_law_state", "_law_length", "_law_place", "_law_some", "_law_head"]
abbrev p_l_refused : List Str := ["_law_words_here", "_law_state", "_law_length"]
theorem sc_l_refused : FnScope n_l_refused p_l_refused (defScope s_l_refused) := ⟨rfl, rfl, rfl, by decide +kernel, rfl, by decide +kernel, by decide +kernel⟩
abbrev s_l_pushed : Stmt := topS 32
abbrev n_l_pushed : List Str := ["_law_kinds_here", "_law_words_here", "_law_state", "_law_number", "_law_place", "_law_some", "_law_length", "_law_start"]
abbrev p_l_pushed : List Str := ["_law_kinds_here", "_law_words_here", "_law_state", "_law_number"]
theorem sc_l_pushed : FnScope n_l_pushed p_l_pushed (defScope s_l_pushed) := ⟨rfl, rfl, rfl, by decide +kernel, rfl, by decide +kernel, by decide +kernel⟩
abbrev s_l_paid : Stmt := topS 33
abbrev n_l_paid : List Str := ["_law_kinds_here", "_law_some", "_law_start", "_law_number"]
abbrev p_l_paid : List Str := ["_law_kinds_here", "_law_some"]
theorem sc_l_paid : FnScope n_l_paid p_l_paid (defScope s_l_paid) := ⟨rfl, rfl, rfl, by decide +kernel, rfl, by decide +kernel, by decide +kernel⟩
abbrev s_l_may : Stmt := topS 34
abbrev n_l_may : List Str := ["_law_kinds_here", "_law_cap", "_law_some", "_law_paid_here", "_law_number", "_law_one"]
abbrev p_l_may : List Str := ["_law_kinds_here", "_law_cap", "_law_some"]
theorem sc_l_may : FnScope n_l_may p_l_may (defScope s_l_may) := ⟨rfl, rfl, rfl, by decide +kernel, rfl, by decide +kernel, by decide +kernel⟩
abbrev s_l_seen : Stmt := topS 35
abbrev n_l_seen : List Str := ["_law_kinds_here", "_law_cap", "_law_words_here", "_law_first", "_law_found", "_law_waiting", "_law_later", "_law_state", "_law_behind", "_law_number", "_law_asked", "_law_one"]
abbrev p_l_seen : List Str := ["_law_kinds_here", "_law_cap", "_law_words_here", "_law_first"]
theorem sc_l_seen : FnScope n_l_seen p_l_seen (defScope s_l_seen) := ⟨rfl, rfl, rfl, by decide +kernel, rfl, by decide +kernel, by decide +kernel⟩
abbrev s_l_bad : Stmt := topS 36
abbrev n_l_bad : List Str := ["_law_kinds_here", "_law_cap", "_law_words_here", "_law_state", "_law_may_here", "_law_number"]
abbrev p_l_bad : List Str := ["_law_kinds_here", "_law_cap", "_law_words_here", "_law_state"]
theorem sc_l_bad : FnScope n_l_bad p_l_bad (defScope s_l_bad) := ⟨rfl, rfl, rfl, by decide +kernel, rfl, by decide +kernel, by decide +kernel⟩
abbrev s_l_form : Stmt := topS 37
abbrev n_l_form : List Str := ["_law_kinds_here", "_law_words_here", "_law_state", "_law_number", "_law_place", "_law_some", "_law_head", "_law_lengths", "_law_turn", "_law_start", "_law_one", "_law_at", "_law_message"]
abbrev p_l_form : List Str := ["_law_kinds_here", "_law_words_here", "_law_state", "_law_number"]
theorem sc_l_form : FnScope n_l_form p_l_form (defScope s_l_form) := ⟨rfl, rfl, rfl, by decide +kernel, rfl, by decide +kernel, by decide +kernel⟩
abbrev s_l_right : Stmt := topS 38
abbrev n_l_right : List Str := ["_law_pot_here", "_law_kinds_here", "_law_cap", "_law_most", "_law_words_here", "_law_met", "_law_state", "_law_number", "_law_shape", "_law_low", "_law_high"]
abbrev p_l_right : List Str := ["_law_pot_here"]
theorem sc_l_right : FnScope n_l_right p_l_right (defScope s_l_right) := ⟨rfl, rfl, rfl, by decide +kernel, rfl, by decide +kernel, by decide +kernel⟩
abbrev s_law : Stmt := topS 39
abbrev n_law : List Str := ["_law_script", "_law_k"]
abbrev p_law : List Str := ["_law_script"]
theorem sc_law : FnScope n_law p_law (defScope s_law) := ⟨rfl, rfl, rfl, by decide +kernel, rfl, by decide +kernel, by decide +kernel⟩
end Wk

set_option maxHeartbeats 200000
set_option Elab.async false
set_option linter.all false
set_option maxRecDepth 100000
/-! WrD: what a reading evaluates to, told by data: slots by what is known of them (Sl, Env), EvS, EvN, EvT. -/
namespace Wk
open PySem PySem.Spec PyProof.Rows L2 Evl

/-! ### data in the heap -/
section
variable {K : PySem.W.Frag} {H H' : Hp}
mutual
theorem dp_mono (e : Ex H H') : ∀ (d : PyData) {v : V}, Dp K H v d → Dp K H' v d
  | .none, _, .non => .non
  | .bool b, _, .bl _ => .bl b
  | .int i, _, .int _ => .int i
  | .str x, _, .str _ => .str x
  | .list ds, _, .lst h r => .lst (ex_l e h) (dpa_mono e ds r)
  | .tuple ds, _, .tup h r => .tup (ex_t e h) (dpa_mono e ds r)
theorem dpa_mono (e : Ex H H') : ∀ (ds : List PyData) {vs : List V}, DpAll K H vs ds → DpAll K H' vs ds
  | [], _, .nil => .nil
  | d :: ds, _, .cons h r => .cons (dp_mono e d h) (dpa_mono e ds r)
end
mutual
/-- no list in it -/
def noL : PyData → Bool
  | .none | .bool _ | .int _ | .str _ => true
  | .tuple ds => noLs ds
  | .list _ | .dict _ => false
def noLs : List PyData → Bool
  | [] => true
  | d :: ds => noL d && noLs ds
end
/-- the tuples stay -/
def ExT (H H' : Hp) : Prop := ∀ a xs, Rd H a (.tup xs) → Rd H' a (.tup xs)
theorem ExT.refl (H : Hp) : ExT H H := fun _ _ h => h
theorem ExT.trans {H2 : Hp} (a : ExT H H') (b : ExT H' H2) : ExT H H2 := fun x o h => b x o (a x o h)
theorem exT_of (e : Ex H H') : ExT H H' := fun _ _ h => ex_rd e h
theorem exT_sq (e : ExT H H') {a : Addr} {xs : List V} (h : SqT K H a xs) : SqT K H' a xs := by
  rcases h with h | h
  · exact .inl (e a xs h)
  · exact .inr h
/-- a thing that is no tuple is written -/
theorem exT_upd {p : Addr} {o u : HO} (h : H p = some u) (hn : ∀ xs, u ≠ .tup xs) (hf : ∀ o xs, u ≠ .frz o (.tup xs)) : ExT H (upd H p o) := fun a xs r => by
  rcases r with r | ⟨ob, r⟩
  · have ne : a ≠ p := fun z => by subst z; rw [h] at r; exact hn xs (Option.some.inj r)
    exact .inl (by rw [upd_ne ne]; exact r)
  · have ne : a ≠ p := fun z => by subst z; rw [h] at r; exact hf ob xs (Option.some.inj r)
    exact .inr ⟨ob, by rw [upd_ne ne]; exact r⟩
theorem exT_lst {p : Addr} {o : HO} {ys : List V} (h : H p = some (.lst ys)) : ExT H (upd H p o) := exT_upd h (fun _ z => nomatch z) (fun _ _ z => nomatch z)
theorem exT_new {p : Addr} {o : HO} (h : H p = none) : ExT H (upd H p o) := exT_of (Ex.new h)
mutual
theorem dp_monoT (e : ExT H H') : ∀ (d : PyData) {v : V}, noL d = true → Dp K H v d → Dp K H' v d
  | .none, _, _, .non => .non
  | .bool b, _, _, .bl _ => .bl b
  | .int i, _, _, .int _ => .int i
  | .str x, _, _, .str _ => .str x
  | .list ds, _, n, .lst h r => by simp [noL] at n
  | .tuple ds, _, n, .tup h r => .tup (exT_sq e h) (dpa_monoT e ds (by simpa [noL] using n) r)
theorem dpa_monoT (e : ExT H H') : ∀ (ds : List PyData) {vs : List V}, noLs ds = true → DpAll K H vs ds → DpAll K H' vs ds
  | [], _, _, .nil => .nil
  | d :: ds, _, n, .cons h r => by
    have n' : (noL d && noLs ds) = true := by simpa [noLs] using n
    rw [Bool.and_eq_true] at n'
    exact .cons (dp_monoT e d n'.1 h) (dpa_monoT e ds n'.2 r)
end
theorem noLs_mem : ∀ {ds : List PyData}, (∀ d ∈ ds, noL d = true) → noLs ds = true
  | [], _ => rfl
  | d :: ds, h => by
    show (noL d && noLs ds) = true
    rw [h d List.mem_cons_self, noLs_mem fun x hx => h x (List.mem_cons_of_mem _ hx)]
    rfl
theorem dpa_length : ∀ {vs : List V} {ds : List PyData}, DpAll K H vs ds → vs.length = ds.length
  | _, _, .nil => rfl
  | _, _, .cons _ r => by rw [List.length_cons, List.length_cons, dpa_length r]
theorem dpa_get : ∀ {vs : List V} {ds : List PyData} {i : Nat} {d : PyData}, DpAll K H vs ds → ds[i]? = some d → ∃ v, vs[i]? = some v ∧ Dp K H v d
  | _, _, _, _, .nil, e => by simp at e
  | _, _, 0, _, .cons h _, e => by
    simp at e
    subst e
    exact ⟨_, rfl, h⟩
  | _, _, i + 1, _, .cons _ r, e => by
    obtain ⟨v, h1, h2⟩ := dpa_get (i := i) r (by simpa using e)
    exact ⟨v, by simpa using h1, h2⟩
theorem dpa_at : ∀ {vs : List V} {ds : List PyData} {i : Nat} {v : V}, DpAll K H vs ds → vs[i]? = some v → ∃ d, ds[i]? = some d ∧ Dp K H v d
  | _, _, _, _, .nil, e => by simp at e
  | _, _, 0, _, .cons h _, e => by
    simp at e
    subst e
    exact ⟨_, rfl, h⟩
  | _, _, i + 1, _, .cons _ r, e => by
    obtain ⟨v, h1, h2⟩ := dpa_at (i := i) r (by simpa using e)
    exact ⟨v, by simpa using h1, h2⟩
theorem dpa_append : ∀ {vs ws : List V} {ds es : List PyData}, DpAll K H vs ds → DpAll K H ws es → DpAll K H (vs ++ ws) (ds ++ es)
  | _, _, _, _, .nil, s => s
  | _, _, _, _, .cons h r, s => .cons h (dpa_append r s)
theorem dpa_drop : ∀ (n : Nat) {vs : List V} {ds : List PyData}, DpAll K H vs ds → DpAll K H (vs.drop n) (ds.drop n)
  | 0, _, _, r => r
  | _ + 1, _, _, .nil => .nil
  | n + 1, _, _, .cons _ r => dpa_drop n r
theorem dpa_take : ∀ (n : Nat) {vs : List V} {ds : List PyData}, DpAll K H vs ds → DpAll K H (vs.take n) (ds.take n)
  | 0, _, _, _ => .nil
  | _ + 1, _, _, .nil => .nil
  | n + 1, _, _, .cons h r => .cons h (dpa_take n r)
/-- scalars -/
theorem dp_int {v : V} {i : Int} (h : Dp K H v (.int i)) : v = .int i := by cases h; rfl
theorem dp_bl {v : V} {i : Bool} (h : Dp K H v (.bool i)) : v = .bl i := by cases h; rfl
theorem dp_str {v : V} {i : Str} (h : Dp K H v (.str i)) : v = .str i := by cases h; rfl
theorem dp_non {v : V} (h : Dp K H v .none) : v = .non := by cases h; rfl
theorem dp_tup {v : V} {ds : List PyData} (h : Dp K H v (.tuple ds)) : ∃ a xs, v = .ref a ∧ SqT K H a xs ∧ DpAll K H xs ds := by
  cases h with
  | tup h r => exact ⟨_, _, rfl, h, r⟩
theorem dp_lst {v : V} {ds : List PyData} (h : Dp K H v (.list ds)) : ∃ a xs, v = .ref a ∧ SqL K H a xs ∧ DpAll K H xs ds := by
  cases h with
  | lst h r => exact ⟨_, _, rfl, h, r⟩
theorem dpa_ints : ∀ {ns : List Int} {vs : List V}, DpAll K H vs (ns.map .int) → vs = ns.map V.int
  | [], _, .nil => rfl
  | n :: ns, _, .cons h r => by rw [dp_int h, dpa_ints r]; rfl
theorem dpa_ints' : ∀ {ns : List Int}, DpAll K H (ns.map V.int) (ns.map .int)
  | [] => .nil
  | n :: ns => .cons (.int n) dpa_ints'
theorem dpa_bls : ∀ {ns : List Bool} {vs : List V}, DpAll K H vs (ns.map .bool) → vs = ns.map V.bl
  | [], _, .nil => rfl
  | n :: ns, _, .cons h r => by rw [dp_bl h, dpa_bls r]; rfl
theorem dpa_bls' : ∀ {ns : List Bool}, DpAll K H (ns.map V.bl) (ns.map .bool)
  | [] => .nil
  | n :: ns => .cons (.bl n) dpa_bls'
end

/-! ### what is known of a slot -/
inductive Sl where
  | un
  | d (x : PyData)
  | v (x : V)
/-- a value of which so much is known -/
def Hd (K : PySem.W.Frag) (H : Hp) : Sl → V → Prop
  | .un, _ => True
  | .d x, u => Dp K H u x
  | .v x, u => u = x
theorem Hd.mono {K : PySem.W.Frag} {H H' : Hp} (e : Ex H H') : ∀ {l : Sl} {u : V}, Hd K H l u → Hd K H' l u
  | .un, _, _ => trivial
  | .d x, _, h => dp_mono e x h
  | .v _, _, h => h
def noLS : Sl → Bool
  | .d x => noL x
  | _ => true
theorem Hd.monoT {K : PySem.W.Frag} {H H' : Hp} (e : ExT H H') : ∀ {l : Sl} {u : V}, noLS l = true → Hd K H l u → Hd K H' l u
  | .un, _, _, _ => trivial
  | .d x, _, n, h => dp_monoT e x n h
  | .v _, _, _, h => h
inductive Env (K : PySem.W.Frag) (H : Hp) : List Sl → L2.St → Prop
  | nil : Env K H [] []
  | un {o : Option V} {r : List Sl} {σ : L2.St} : Env K H r σ → Env K H (.un :: r) (o :: σ)
  | cons {l : Sl} {u : V} {r : List Sl} {σ : L2.St} : Hd K H l u → Env K H r σ → Env K H (l :: r) (some u :: σ)
section
variable {K : PySem.W.Frag} {H H' : Hp} {sl : List Sl} {σ : L2.St}
theorem Env.mono (e : Ex H H') (h : Env K H sl σ) : Env K H' sl σ := by
  induction h with
  | nil => exact .nil
  | un _ ih => exact .un ih
  | cons h _ ih => exact .cons (h.mono e) ih
theorem Env.monoT (e : ExT H H') (h : Env K H sl σ) : sl.all noLS = true → Env K H' sl σ := by
  induction h with
  | nil => exact fun _ => .nil
  | un _ ih => exact fun n => .un (ih (by simpa [noLS] using n))
  | cons h _ ih =>
    intro n
    rw [List.all_cons, Bool.and_eq_true] at n
    exact .cons (h.monoT e n.1) (ih n.2)
theorem Env.get (h : Env K H sl σ) {i : Nat} {l : Sl} (e : sl[i]? = some l) (hl : l ≠ .un) : ∃ u, σ[i]? = some (some u) ∧ Hd K H l u := by
  induction h generalizing i with
  | nil => simp at e
  | un _ ih =>
    cases i with
    | zero => simp at e; exact absurd e.symm hl
    | succ i =>
      obtain ⟨u, h1, h2⟩ := ih (i := i) (by simpa using e)
      exact ⟨u, by simpa using h1, h2⟩
  | cons h _ ih =>
    cases i with
    | zero =>
      simp at e
      subst e
      exact ⟨_, rfl, h⟩
    | succ i =>
      obtain ⟨u, h1, h2⟩ := ih (i := i) (by simpa using e)
      exact ⟨u, by simpa using h1, h2⟩
theorem Env.put (h : Env K H sl σ) (i : Nat) {l : Sl} {u : V} (hu : Hd K H l u) : Env K H (sl.set i l) (σ.set i (some u)) := by
  induction h generalizing i with
  | nil => exact .nil
  | un r ih =>
    cases i with
    | zero => exact .cons hu r
    | succ i => exact .un (ih i)
  | cons q r ih =>
    cases i with
    | zero => exact .cons hu r
    | succ i => exact .cons q (ih i)
/-- what is at i is forgotten -/
theorem Env.drop (h : Env K H sl σ) (i : Nat) (o : Option V) : Env K H (sl.set i .un) (σ.set i o) := by
  induction h generalizing i with
  | nil => exact .nil
  | un r ih =>
    cases i with
    | zero => exact .un r
    | succ i => exact .un (ih i)
  | cons q r ih =>
    cases i with
    | zero => exact .un r
    | succ i => exact .cons q (ih i)
theorem Env.un_at (h : Env K H sl σ) (i : Nat) : Env K H (sl.set i .un) σ := by
  induction h generalizing i with
  | nil => exact .nil
  | un r ih =>
    cases i with
    | zero => exact .un r
    | succ i => exact .un (ih i)
  | cons q r ih =>
    cases i with
    | zero => exact .un r
    | succ i => exact .cons q (ih i)
theorem Env.length (h : Env K H sl σ) : σ.length = sl.length := by
  induction h with
  | nil => rfl
  | un _ ih => simp [ih]
  | cons _ _ ih => simp [ih]
theorem Env.none (n : Nat) : ∀ σ : L2.St, σ.length = n → Env K H (List.replicate n .un) σ := by
  induction n with
  | zero =>
    intro σ h
    cases σ with
    | nil => exact .nil
    | cons _ _ => simp at h
  | succ n ih =>
    intro σ h
    cases σ with
    | nil => simp at h
    | cons o σ => exact .un (ih σ (by simpa using h))
def wipeS (sl : List Sl) : List Nat → List Sl
  | [] => sl
  | v :: vs => (wipeS sl vs).set v .un
theorem Env.wipe (h : Env K H sl σ) : ∀ vs : List Nat, Env K H (wipeS sl vs) (wipe σ vs)
  | [] => h
  | v :: vs => (Env.wipe h vs).drop v _
/-- the arguments -/
inductive HdAll (K : PySem.W.Frag) (H : Hp) : List Sl → List V → Prop
  | nil : HdAll K H [] []
  | cons {l : Sl} {u : V} {r : List Sl} {us : List V} : Hd K H l u → HdAll K H r us → HdAll K H (l :: r) (u :: us)
theorem HdAll.mono (e : Ex H H') {us : List V} (h : HdAll K H sl us) : HdAll K H' sl us := by
  induction h with
  | nil => exact .nil
  | cons h _ ih => exact .cons (h.mono e) ih
theorem HdAll.length {us : List V} (h : HdAll K H sl us) : us.length = sl.length := by
  induction h with
  | nil => rfl
  | cons _ _ ih => simp [ih]
/-- a def's slots at its entry -/
theorem Env.start {N : List Str} {us : List V} (h : HdAll K H sl us) : Env K H (sl ++ List.replicate (N.length - us.length) .un) (start N us) := by
  unfold L2.start
  generalize hm : N.length - us.length = m
  clear hm
  induction h with
  | nil => exact Env.none m _ (by simp)
  | cons h _ ih => exact .cons h ih
theorem hda_d : ∀ {us : List V} {ds : List PyData}, HdAll K H (ds.map .d) us → DpAll K H us ds
  | _, [], .nil => .nil
  | _, d :: ds, .cons h r => .cons h (hda_d r)
theorem hda_of : ∀ {us : List V} {ds : List PyData}, DpAll K H us ds → HdAll K H (ds.map .d) us
  | _, _, .nil => .nil
  | _, _, .cons h r => .cons h (hda_of r)
end

/-! ### what evaluates to what -/
def EvS (K : PySem.W.Frag) (te : TE) (σ : L2.St) (H : Hp) (l : Sl) : Prop := ∀ H1, Ex H H1 → ∀ Q : VK, (∀ u H2, Ex H1 H2 → Hd K H2 l u → Q u H2) → te σ H1 Q
/-- a new list of such data -/
def EvN (K : PySem.W.Frag) (te : TE) (σ : L2.St) (H : Hp) (ds : List PyData) : Prop := ∀ H1, Ex H H1 → ∀ Q : VK, (∀ p xs H2, H1 p = none → Ex H1 H2 → H2 p = some (.lst xs) → DpAll K H2 xs ds → Q (.ref p) H2) → te σ H1 Q
/-- data of which Φ holds -/
def EvX (K : PySem.W.Frag) (te : TE) (σ : L2.St) (H : Hp) (Φ : PyData → Prop) : Prop := ∀ H1, Ex H H1 → ∀ Q : VK, (∀ u d H2, Φ d → Ex H1 H2 → Dp K H2 u d → Q u H2) → te σ H1 Q
def EvAS (K : PySem.W.Frag) (ta : TA) (σ : L2.St) (H : Hp) (ls : List Sl) : Prop := ∀ H1, Ex H H1 → ∀ Q : List V → Hp → Prop, (∀ us H2, Ex H1 H2 → HdAll K H2 ls us → Q us H2) → ta σ H1 Q
section
variable {K : PySem.W.Frag} {H H' : Hp} {sl : List Sl} {σ : L2.St} {ta tb te : TE} {tt uu : TT} {l : Sl} {d x y : PyData}
theorem EvS.mono (e : Ex H H') (h : EvS K te σ H l) : EvS K te σ H' l := fun H1 a Q q => h H1 (e.trans a) Q q
theorem EvN.mono {ds : List PyData} (e : Ex H H') (h : EvN K te σ H ds) : EvN K te σ H' ds := fun H1 a Q q => h H1 (e.trans a) Q q
theorem EvX.mono {Φ : PyData → Prop} (e : Ex H H') (h : EvX K te σ H Φ) : EvX K te σ H' Φ := fun H1 a Q q => h H1 (e.trans a) Q q
theorem EvN.toS {ds : List PyData} (h : EvN K te σ H ds) : EvS K te σ H (.d (.list ds)) := fun H1 e Q q => h H1 e Q fun p xs H2 _ e2 hp hd => q _ H2 e2 (.lst (.of hp) hd)
theorem EvS.toX (h : EvS K te σ H (.d d)) : EvX K te σ H (· = d) := fun H1 e Q q => h H1 e Q fun u H2 e2 hu => q u d H2 rfl e2 hu
theorem EvX.toS (h : EvX K te σ H (· = d)) : EvS K te σ H (.d d) := fun H1 e Q q => h H1 e Q fun u _ H2 z e2 hu => q u H2 e2 (by subst z; exact hu)
theorem ev_i {i : Int} (h : EvS K te σ H (.v (.int i))) : EvS K te σ H (.d (.int i)) := fun H1 e Q q => h H1 e Q fun u H2 e2 hu => q u H2 e2 (by cases hu; exact .int i)
theorem ev_ri {i : Int} (h : EvS K te σ H (.d (.int i))) : EvS K te σ H (.v (.int i)) := fun H1 e Q q => h H1 e Q fun u H2 e2 hu => q u H2 e2 (dp_int hu)
theorem ev_cast (h : EvS K te σ H (.d x)) (e : x = y) : EvS K te σ H (.d y) := e ▸ h
theorem ev_var {i : Nat} (s : Env K H sl σ) (e : sl[i]? = some l) (hl : l ≠ .un := by intro z; exact nomatch z) : EvS K (tVar i) σ H l := fun H1 x Q q => by
  obtain ⟨u, h1, h2⟩ := s.get e hl
  exact ⟨u, h1, q u H1 (Ex.refl H1) (h2.mono x)⟩
theorem ev_int {i : Int} : EvS K (tC (.int i)) σ H (.d (.int i)) := fun H1 _ Q q => q _ H1 (Ex.refl H1) (.int i)
theorem ev_bl {b : Bool} : EvS K (tC (.bl b)) σ H (.d (.bool b)) := fun H1 _ Q q => q _ H1 (Ex.refl H1) (.bl b)
theorem ev_non : EvS K (tC .non) σ H (.d .none) := fun H1 _ Q q => q _ H1 (Ex.refl H1) .non
theorem ev_str {z : Str} : EvS K (tC (.str z)) σ H (.d (.str z)) := fun H1 _ Q q => q _ H1 (Ex.refl H1) (.str z)
/-- two operands, then a rule by values -/
theorem ev_op {r : R2} {l1 l2 l : Sl} (ha : EvS K ta σ H l1) (hb : EvS K tb σ H l2)
    (hr : ∀ H1, Ex H H1 → ∀ u w, Hd K H1 l1 u → Hd K H1 l2 w → ∀ Q : VK, (∀ z H2, Ex H1 H2 → Hd K H2 l z → Q z H2) → r u w H1 Q) : EvS K (tOp r ta tb) σ H l := fun H1 e Q q =>
  ha H1 e _ fun u H2 e2 hu => hb H2 (e.trans e2) _ fun w H3 e3 hw => hr H3 ((e.trans e2).trans e3) u w (hu.mono e3) hw Q fun z H4 e4 hz => q z H4 ((e2.trans e3).trans e4) hz
theorem ev_I0 {g : Int → Int → V} {i j : Int} {d : PyData} (ha : EvS K ta σ H (.d (.int i))) (hb : EvS K tb σ H (.d (.int j))) (hd : ∀ H, Dp K H (g i j) d) : EvS K (tOp (rI0 g) ta tb) σ H (.d d) :=
  ev_op ha hb fun H1 _ u w hu hw Q q => ⟨i, j, dp_int hu, dp_int hw, q _ H1 (Ex.refl H1) (hd H1)⟩
theorem ev_I {C : Int → Int → Prop} {g : Int → Int → V} {i j : Int} {d : PyData} (ha : EvS K ta σ H (.d (.int i))) (hb : EvS K tb σ H (.d (.int j))) (hc : C i j) (hd : ∀ H, Dp K H (g i j) d) : EvS K (tOp (rI C g) ta tb) σ H (.d d) :=
  ev_op ha hb fun H1 _ u w hu hw Q q => ⟨i, j, dp_int hu, dp_int hw, hc, q _ H1 (Ex.refl H1) (hd H1)⟩
variable {i j : Int}
theorem ev_add (ha : EvS K ta σ H (.d (.int i))) (hb : EvS K tb σ H (.d (.int j))) : EvS K (tOp (rI0 fun i j => .int (i + j)) ta tb) σ H (.d (.int (i + j))) := ev_I0 ha hb fun _ => .int _
theorem ev_sub (ha : EvS K ta σ H (.d (.int i))) (hb : EvS K tb σ H (.d (.int j))) : EvS K (tOp (rI0 fun i j => .int (i - j)) ta tb) σ H (.d (.int (i - j))) := ev_I0 ha hb fun _ => .int _
theorem ev_lt (ha : EvS K ta σ H (.d (.int i))) (hb : EvS K tb σ H (.d (.int j))) : EvS K (tOp (rI0 fun i j => .bl (decide (i < j))) ta tb) σ H (.d (.bool (decide (i < j)))) := ev_I0 ha hb fun _ => .bl _
theorem ev_le (ha : EvS K ta σ H (.d (.int i))) (hb : EvS K tb σ H (.d (.int j))) : EvS K (tOp (rI0 fun i j => .bl (decide (i ≤ j))) ta tb) σ H (.d (.bool (decide (i ≤ j)))) := ev_I0 ha hb fun _ => .bl _
theorem ev_gt (ha : EvS K ta σ H (.d (.int i))) (hb : EvS K tb σ H (.d (.int j))) : EvS K (tOp (rI0 fun i j => .bl (decide (j < i))) ta tb) σ H (.d (.bool (decide (j < i)))) := ev_I0 ha hb fun _ => .bl _
theorem ev_ge (ha : EvS K ta σ H (.d (.int i))) (hb : EvS K tb σ H (.d (.int j))) : EvS K (tOp (rI0 fun i j => .bl (decide (j ≤ i))) ta tb) σ H (.d (.bool (decide (j ≤ i)))) := ev_I0 ha hb fun _ => .bl _
theorem ev_mul (ha : EvS K ta σ H (.d (.int i))) (hb : EvS K tb σ H (.d (.int j))) (hc : CMul i j) : EvS K (tOp (rI CMul fun i j => .int (i * j)) ta tb) σ H (.d (.int (i * j))) := ev_I ha hb hc fun _ => .int _
theorem ev_mod (ha : EvS K ta σ H (.d (.int i))) (hb : EvS K tb σ H (.d (.int j))) (hc : 0 < j) : EvS K (tOp (rI (fun _ j => 0 < j) fun i j => .int (i % j)) ta tb) σ H (.d (.int (i % j))) := ev_I ha hb hc fun _ => .int _
theorem ev_fdiv (ha : EvS K ta σ H (.d (.int i))) (hb : EvS K tb σ H (.d (.int j))) (hc : CDiv i j) : EvS K (tOp (rI CDiv fun i j => .int (i / j)) ta tb) σ H (.d (.int (i / j))) := ev_I ha hb hc fun _ => .int _
theorem ev_pow (ha : EvS K ta σ H (.d (.int i))) (hb : EvS K tb σ H (.d (.int j))) (hc : CPow i j) : EvS K (tOp (rI CPow fun i j => .int (i ^ j.toNat)) ta tb) σ H (.d (.int (i ^ j.toNat))) := ev_I ha hb hc fun _ => .int _
theorem ev_eqD (ha : EvS K ta σ H (.d x)) (hb : EvS K tb σ H (.d y)) (hx : SeqAt.shaped x = true) (hy : SeqAt.shaped y = true) : EvS K (tOp (rEqD K) ta tb) σ H (.d (.bool (PyData.eqv x y))) :=
  ev_op ha hb fun H1 _ u w hu hw Q q => ⟨x, y, hu, hw, hx, hy, q _ H1 (Ex.refl H1) (.bl _)⟩
theorem ev_neD (ha : EvS K ta σ H (.d x)) (hb : EvS K tb σ H (.d y)) (hx : SeqAt.shaped x = true) (hy : SeqAt.shaped y = true) : EvS K (tOp (rNeD K) ta tb) σ H (.d (.bool (!PyData.eqv x y))) :=
  ev_op ha hb fun H1 _ u w hu hw Q q => ⟨x, y, hu, hw, hx, hy, q _ H1 (Ex.refl H1) (.bl _)⟩
/-- == of ints, of texts (op_eq) -/
theorem ev_eqI (ha : EvS K ta σ H (.d (.int i))) (hb : EvS K tb σ H (.d (.int j))) : EvS K (tOp rEq ta tb) σ H (.d (.bool (decide (i = j)))) :=
  ev_op ha hb fun H1 _ u w hu hw Q q => by
    rw [dp_int hu, dp_int hw]
    refine ⟨rfl, q _ H1 (Ex.refl H1) ?_⟩
    rw [dec_int, Bool.beq_eq_decide_eq]
    exact .bl _
theorem ev_neI (ha : EvS K ta σ H (.d (.int i))) (hb : EvS K tb σ H (.d (.int j))) : EvS K (tOp rNe ta tb) σ H (.d (.bool (!decide (i = j)))) :=
  ev_op ha hb fun H1 _ u w hu hw Q q => by
    rw [dp_int hu, dp_int hw]
    refine ⟨rfl, q _ H1 (Ex.refl H1) ?_⟩
    rw [dec_int, Bool.beq_eq_decide_eq]
    exact .bl _
theorem ev_eqB {i j : Bool} (ha : EvS K ta σ H (.d (.bool i))) (hb : EvS K tb σ H (.d (.bool j))) : EvS K (tOp rEq ta tb) σ H (.d (.bool (decide (i = j)))) :=
  ev_op ha hb fun H1 _ u w hu hw Q q => by
    rw [dp_bl hu, dp_bl hw]
    refine ⟨rfl, q _ H1 (Ex.refl H1) ?_⟩
    rw [dec_bl, Bool.beq_eq_decide_eq]
    exact .bl _
theorem ev_eqS {i j : Str} (ha : EvS K ta σ H (.d (.str i))) (hb : EvS K tb σ H (.d (.str j))) : EvS K (tOp rEq ta tb) σ H (.d (.bool (decide (i = j)))) :=
  ev_op ha hb fun H1 _ u w hu hw Q q => by
    rw [dp_str hu, dp_str hw]
    refine ⟨rfl, q _ H1 (Ex.refl H1) ?_⟩
    rw [dec_str, Bool.beq_eq_decide_eq]
    exact .bl _
/-- is None -/
def isNo : PyData → Bool
  | .none => true
  | _ => false
theorem dp_isNo {u : V} (h : Dp K H u x) : decide (u = .non) = isNo x := by cases h <;> rfl
theorem ev_isN (ha : EvS K ta σ H (.d x)) : EvS K (tIsN ta) σ H (.d (.bool (isNo x))) := fun H1 e Q q =>
  ha H1 e _ fun u H2 e2 hu => q _ H2 e2 (by rw [dp_isNo hu]; exact .bl _)
theorem ev_notN (ha : EvS K ta σ H (.d x)) : EvS K (tNotN ta) σ H (.d (.bool (!isNo x))) := fun H1 e Q q =>
  ha H1 e _ fun u H2 e2 hu => q _ H2 e2 (by rw [dp_isNo hu]; exact .bl _)
/-- xs[i] -/
theorem dp_atI {vs : List V} {ds : List PyData} (h : DpAll K H vs ds) (e : atI ds i = some d) : ∃ v, atI vs i = some v ∧ Dp K H v d := by
  unfold atI at e ⊢
  rw [dpa_length h]
  cases hx : ixN ds.length i with
  | none => rw [hx] at e; simp at e
  | some j =>
    rw [hx] at e
    exact dpa_get h e
theorem ev_ixT {ds : List PyData} (ha : EvS K ta σ H (.d (.tuple ds))) (hb : EvS K tb σ H (.d (.int i))) (h : atI ds i = some d) : EvS K (tOp (rIx K) ta tb) σ H (.d d) :=
  ev_op ha hb fun H1 _ u w hu hw Q q => by
    obtain ⟨a, xs, rfl, ht, hd⟩ := dp_tup hu
    obtain ⟨v, hv, hd'⟩ := dp_atI hd h
    exact .inr (.inl ⟨a, xs, i, v, rfl, dp_int hw, ht, hv, q v H1 (Ex.refl H1) hd'⟩)
theorem ev_ixL {ds : List PyData} (ha : EvS K ta σ H (.d (.list ds))) (hb : EvS K tb σ H (.d (.int i))) (h : atI ds i = some d) : EvS K (tOp (rIx K) ta tb) σ H (.d d) :=
  ev_op ha hb fun H1 _ u w hu hw Q q => by
    obtain ⟨a, xs, rfl, ht, hd⟩ := dp_lst hu
    obtain ⟨v, hv, hd'⟩ := dp_atI hd h
    exact .inl ⟨a, xs, i, v, rfl, dp_int hw, ht, hv, q v H1 (Ex.refl H1) hd'⟩
/-- of a list that stands at p -/
theorem ev_ixR {p : Addr} {xs : List V} {ds : List PyData} (ha : EvS K ta σ H (.v (.ref p))) (hp : SqL K H p xs) (hx : DpAll K H xs ds) (hb : EvS K tb σ H (.d (.int i))) (h : atI ds i = some d) : EvS K (tOp (rIx K) ta tb) σ H (.d d) :=
  ev_op ha hb fun H1 e u w hu hw Q q => by
    obtain ⟨v, hv, hd'⟩ := dp_atI hx h
    exact .inl ⟨p, xs, i, v, hu, dp_int hw, ex_l e hp, hv, q v H1 (Ex.refl H1) (dp_mono e _ hd')⟩
/-! ### arguments, displays, calls -/
theorem EvAS.mono {tr : TA} {ls : List Sl} (e : Ex H H') (h : EvAS K tr σ H ls) : EvAS K tr σ H' ls := fun H1 a Q q => h H1 (e.trans a) Q q
theorem ea_nil : EvAS K tNil σ H [] := fun H1 _ Q q => q [] H1 (Ex.refl H1) .nil
theorem ea_cons {tr : TA} {ls : List Sl} (h : EvS K te σ H l) (hr : EvAS K tr σ H ls) : EvAS K (tCons te tr) σ H (l :: ls) := fun H1 e Q q =>
  h H1 e _ fun u H2 e2 hu => hr H2 (e.trans e2) _ fun us H3 e3 hus => q _ H3 (e2.trans e3) (.cons (hu.mono e3) hus)
theorem ev_tup {tr : TA} {ds : List PyData} (h : EvAS K tr σ H (ds.map .d)) (hz : ds.length ≤ 100000) : EvS K (tTup tr) σ H (.d (.tuple ds)) := fun H1 e Q q =>
  h H1 e _ fun us H2 e2 hus => by
    have hd := hda_d hus
    refine ⟨by rw [dpa_length hd]; exact sz_of hz, fun p hp => q _ _ (e2.trans (Ex.new hp)) (.tup (.of upd_same) (dpa_mono (Ex.new hp) _ hd))⟩
theorem en_lst {tr : TA} {ds : List PyData} (h : EvAS K tr σ H (ds.map .d)) (hz : ds.length ≤ 100000) : EvN K (tLst tr) σ H ds := fun H1 e Q q =>
  h H1 e _ fun us H2 e2 hus => by
    have hd := hda_d hus
    exact ⟨by rw [dpa_length hd]; exact sz_of hz, fun p hp => q p us _ (fresh_back e2 hp) (e2.trans (Ex.new hp)) upd_same (dpa_mono (Ex.new hp) _ hd)⟩
theorem ev_cb {r : List V → Hp → VK → Prop} {tr : TA} {ls : List Sl} (h : EvAS K tr σ H ls)
    (hr : ∀ H1, Ex H H1 → ∀ us, HdAll K H1 ls us → ∀ Q : VK, (∀ z H2, Ex H1 H2 → Hd K H2 l z → Q z H2) → r us H1 Q) : EvS K (tCB r tr) σ H l := fun H1 e Q q =>
  h H1 e _ fun us H2 e2 hus => hr H2 (e.trans e2) us hus Q fun z H3 e3 hz => q z H3 (e2.trans e3) hz
theorem ev_call {sp : Sp} {dvs : List V} {E : XK} {tr : TA} {ls : List Sl} (h : EvAS K tr σ H ls)
    (hr : ∀ H1, Ex H H1 → ∀ us, HdAll K H1 ls us → ∀ Q : VK, (∀ z H2, Ex H1 H2 → Hd K H2 l z → Q z H2) → sp (us ++ dvs) H1 Q E) : EvS K (tCall sp dvs E tr) σ H l := fun H1 e Q q =>
  h H1 e _ fun us H2 e2 hus => hr H2 (e.trans e2) us hus Q fun z H3 e3 hz => q z H3 (e2.trans e3) hz
theorem ex_call {sp : Sp} {dvs : List V} {E : XK} {tr : TA} {ls : List Sl} {Φ : PyData → Prop} (h : EvAS K tr σ H ls)
    (hr : ∀ H1, Ex H H1 → ∀ us, HdAll K H1 ls us → ∀ Q : VK, (∀ z d H2, Φ d → Ex H1 H2 → Dp K H2 z d → Q z H2) → sp (us ++ dvs) H1 Q E) : EvX K (tCall sp dvs E tr) σ H Φ := fun H1 e Q q =>
  h H1 e _ fun us H2 e2 hus => hr H2 (e.trans e2) us hus Q fun z d H3 hΦ e3 hz => q z d H3 hΦ (e2.trans e3) hz
theorem hda_one {us : List V} (h : HdAll K H [l] us) : ∃ u, us = [u] ∧ Hd K H l u := by
  cases h with
  | cons h r => cases r; exact ⟨_, rfl, h⟩
theorem hda_two {l' : Sl} {us : List V} (h : HdAll K H [l, l'] us) : ∃ u w, us = [u, w] ∧ Hd K H l u ∧ Hd K H l' w := by
  cases h with
  | cons h r =>
    obtain ⟨w, rfl, hw⟩ := hda_one r
    exact ⟨_, w, rfl, h, hw⟩
theorem ev_lenT {ds : List PyData} (h : EvS K te σ H (.d (.tuple ds))) : EvS K (tCB (fun xs H Q => ∃ x n, xs = [x] ∧ LenV K x H n ∧ Q (.int n) H) (tCons te tNil)) σ H (.d (.int ds.length)) :=
  ev_cb (ea_cons h ea_nil) fun H1 _ us hus Q q => by
    obtain ⟨u, rfl, hu⟩ := hda_one hus
    obtain ⟨a, xs, rfl, ht, hd⟩ := dp_tup hu
    exact ⟨_, xs.length, rfl, .inr ⟨xs, ht, rfl⟩, q _ H1 (Ex.refl H1) (by rw [dpa_length hd]; exact .int _)⟩
theorem ev_lenL {ds : List PyData} (h : EvS K te σ H (.d (.list ds))) : EvS K (tCB (fun xs H Q => ∃ x n, xs = [x] ∧ LenV K x H n ∧ Q (.int n) H) (tCons te tNil)) σ H (.d (.int ds.length)) :=
  ev_cb (ea_cons h ea_nil) fun H1 _ us hus Q q => by
    obtain ⟨u, rfl, hu⟩ := hda_one hus
    obtain ⟨a, xs, rfl, ht, hd⟩ := dp_lst hu
    exact ⟨_, xs.length, rfl, .inl ⟨xs, ht, rfl⟩, q _ H1 (Ex.refl H1) (by rw [dpa_length hd]; exact .int _)⟩
/-- the greatest, the least of some numbers -/
def lmax : List Int → Int
  | [] => 0
  | [a] => a
  | a :: b :: r => max a (lmax (b :: r))
theorem lmax_mem : ∀ {ns : List Int}, ns ≠ [] → lmax ns ∈ ns
  | [], h => absurd rfl h
  | [a], _ => by simp [lmax]
  | a :: b :: r, _ => by
    have ih := lmax_mem (ns := b :: r) (by simp)
    rw [lmax]
    by_cases h : a ≤ lmax (b :: r)
    · rw [Int.max_eq_right h]; exact List.mem_cons_of_mem _ ih
    · rw [Int.max_eq_left (by omega)]; exact List.mem_cons_self
theorem le_lmax : ∀ {ns : List Int} {y : Int}, y ∈ ns → y ≤ lmax ns
  | [a], y, h => by simp at h; simp [lmax, h]
  | a :: b :: r, y, h => by
    rw [lmax]
    rcases List.mem_cons.mp h with rfl | h
    · exact Int.le_max_left _ _
    · exact Int.le_trans (le_lmax h) (Int.le_max_right _ _)
theorem lmax_eq {ns : List Int} {m : Int} (hm : m ∈ ns) (h : ∀ y ∈ ns, y ≤ m) : m = lmax ns := by
  have h1 := le_lmax hm
  have h2 := h _ (lmax_mem (fun z => by subst z; exact nomatch hm))
  omega
def lmin : List Int → Int
  | [] => 0
  | [a] => a
  | a :: b :: r => min a (lmin (b :: r))
theorem lmin_mem : ∀ {ns : List Int}, ns ≠ [] → lmin ns ∈ ns
  | [], h => absurd rfl h
  | [a], _ => by simp [lmin]
  | a :: b :: r, _ => by
    have ih := lmin_mem (ns := b :: r) (by simp)
    rw [lmin]
    by_cases h : a ≤ lmin (b :: r)
    · rw [Int.min_eq_left h]; exact List.mem_cons_self
    · rw [Int.min_eq_right (by omega)]; exact List.mem_cons_of_mem _ ih
theorem lmin_le : ∀ {ns : List Int} {y : Int}, y ∈ ns → lmin ns ≤ y
  | [a], y, h => by simp at h; simp [lmin, h]
  | a :: b :: r, y, h => by
    rw [lmin]
    rcases List.mem_cons.mp h with rfl | h
    · exact Int.min_le_left _ _
    · exact Int.le_trans (Int.min_le_right _ _) (lmin_le h)
theorem lmin_eq {ns : List Int} {m : Int} (hm : m ∈ ns) (h : ∀ y ∈ ns, m ≤ y) : m = lmin ns := by
  have h1 := lmin_le hm
  have h2 := h _ (lmin_mem (fun z => by subst z; exact nomatch hm))
  omega
theorem ints_sq {p : Addr} {ns : List Int} {u : V} (hu : Dp K H u (.list (ns.map .int))) : ∃ a, u = .ref a ∧ SqL K H a (ns.map V.int) := by
  obtain ⟨a, xs, rfl, ht, hd⟩ := dp_lst hu
  rw [dpa_ints hd] at ht
  exact ⟨a, rfl, ht⟩
theorem ev_max {ns : List Int} (h : EvS K te σ H (.d (.list (ns.map .int)))) (hn : ns ≠ []) : EvS K (tCB (rMax K) (tCons te tNil)) σ H (.d (.int (lmax ns))) :=
  ev_cb (ea_cons h ea_nil) fun H1 _ us hus Q q => by
    obtain ⟨u, rfl, hu⟩ := hda_one hus
    obtain ⟨a, rfl, ht⟩ := ints_sq (p := 0) hu
    exact ⟨a, ns, rfl, ht, List.length_pos_iff.mpr hn, fun m hm hle => q _ H1 (Ex.refl H1) (by rw [lmax_eq hm hle]; exact .int _)⟩
theorem ev_min {ns : List Int} (h : EvS K te σ H (.d (.list (ns.map .int)))) (hn : ns ≠ []) : EvS K (tCB (rMin K) (tCons te tNil)) σ H (.d (.int (lmin ns))) :=
  ev_cb (ea_cons h ea_nil) fun H1 _ us hus Q q => by
    obtain ⟨u, rfl, hu⟩ := hda_one hus
    obtain ⟨a, rfl, ht⟩ := ints_sq (p := 0) hu
    exact ⟨a, ns, rfl, ht, List.length_pos_iff.mpr hn, fun m hm hle => q _ H1 (Ex.refl H1) (by rw [lmin_eq hm hle]; exact .int _)⟩
theorem ev_sum {ns : List Int} (h : EvS K te σ H (.d (.list (ns.map .int)))) : EvS K (tCB (rSum K) (tCons te tNil)) σ H (.d (.int ns.sum)) :=
  ev_cb (ea_cons h ea_nil) fun H1 _ us hus Q q => by
    obtain ⟨u, rfl, hu⟩ := hda_one hus
    obtain ⟨a, rfl, ht⟩ := ints_sq (p := 0) hu
    exact ⟨a, ns, rfl, ht, q _ H1 (Ex.refl H1) (.int _)⟩
theorem ev_any {bs : List Bool} (h : EvS K te σ H (.d (.list (bs.map .bool)))) : EvS K (tCB (rAny K) (tCons te tNil)) σ H (.d (.bool (bs.any id))) :=
  ev_cb (ea_cons h ea_nil) fun H1 _ us hus Q q => by
    obtain ⟨u, rfl, hu⟩ := hda_one hus
    obtain ⟨a, xs, rfl, ht, hd⟩ := dp_lst hu
    rw [dpa_bls hd] at ht
    exact ⟨a, bs, rfl, ht, q _ H1 (Ex.refl H1) (.bl _)⟩
theorem ev_all {bs : List Bool} (h : EvS K te σ H (.d (.list (bs.map .bool)))) : EvS K (tCB (rAll K) (tCons te tNil)) σ H (.d (.bool (bs.all id))) :=
  ev_cb (ea_cons h ea_nil) fun H1 _ us hus Q q => by
    obtain ⟨u, rfl, hu⟩ := hda_one hus
    obtain ⟨a, xs, rfl, ht, hd⟩ := dp_lst hu
    rw [dpa_bls hd] at ht
    exact ⟨a, bs, rfl, ht, q _ H1 (Ex.refl H1) (.bl _)⟩
theorem ev_max2 (h : EvS K ta σ H (.d (.int i))) (h' : EvS K tb σ H (.d (.int j))) : EvS K (tCB (fun xs H Q => ∃ i j, xs = [.int i, .int j] ∧ Q (.int (if j > i then j else i)) H) (tCons ta (tCons tb tNil))) σ H (.d (.int (max i j))) :=
  ev_cb (ea_cons h (ea_cons h' ea_nil)) fun H1 _ us hus Q q => by
    obtain ⟨u, w, rfl, hu, hw⟩ := hda_two hus
    refine ⟨i, j, by rw [dp_int hu, dp_int hw], q _ H1 (Ex.refl H1) ?_⟩
    rw [show (if j > i then j else i) = max i j by by_cases z : j > i <;> simp [z] <;> omega]
    exact .int _
theorem ev_min2 (h : EvS K ta σ H (.d (.int i))) (h' : EvS K tb σ H (.d (.int j))) : EvS K (tCB (fun xs H Q => ∃ i j, xs = [.int i, .int j] ∧ Q (.int (if j < i then j else i)) H) (tCons ta (tCons tb tNil))) σ H (.d (.int (min i j))) :=
  ev_cb (ea_cons h (ea_cons h' ea_nil)) fun H1 _ us hus Q q => by
    obtain ⟨u, w, rfl, hu, hw⟩ := hda_two hus
    refine ⟨i, j, by rw [dp_int hu, dp_int hw], q _ H1 (Ex.refl H1) ?_⟩
    rw [show (if j < i then j else i) = min i j by by_cases z : j < i <;> simp [z] <;> omega]
    exact .int _
/-- xs + ys of lists: both stand tracked -/
theorem en_cat {ds es : List PyData} (ha : EvN K ta σ H ds) (hb : EvN K tb σ H es) (hz : ds.length + es.length ≤ 100000) : EvN K (tOp rCat ta tb) σ H (ds ++ es) := fun H1 e Q q =>
  ha H1 e _ fun p xs H2 hp e2 h2 hd => hb H2 (e.trans e2) _ fun r ys H3 hr e3 h3 hd' => by
    refine ⟨p, r, xs, ys, rfl, rfl, e3 p _ h2, h3, by rw [dpa_length hd, dpa_length hd']; exact sz_of hz, fun s hs => ?_⟩
    exact q s _ _ (fresh_back (e2.trans e3) hs) ((e2.trans e3).trans (Ex.new hs)) upd_same (dpa_append (dpa_mono (e3.trans (Ex.new hs)) _ hd) (dpa_mono (Ex.new hs) _ hd'))

/-! ### tests -/
theorem et_s {b : Bool} (h : EvS K te σ H (.d (.bool b))) : EvT (tTest te) σ H b := fun H1 e _ q => h H1 e _ fun u H2 e2 hu => ⟨b, dp_bl hu, q H2 e2⟩
theorem et_b {b : Bool} (h : EvS K te σ H (.d (.bool b))) : EvT (tB te) σ H b := fun H1 e _ q => h H1 e _ fun u H2 e2 hu => ⟨b, dp_bl hu, q H2 e2⟩
theorem ev_if {b : Bool} (h : EvT tt σ H b) (h1 : b = true → EvS K ta σ H l) (h2 : b = false → EvS K tb σ H l) : EvS K (tIf tt ta tb) σ H l := fun H1 e Q q => h H1 e _ fun H2 e2 => by
  cases b with
  | true => exact h1 rfl H2 (e.trans e2) Q fun u H3 e3 => q u H3 (e2.trans e3)
  | false => exact h2 rfl H2 (e.trans e2) Q fun u H3 e3 => q u H3 (e2.trans e3)
theorem ev_andV {a b : Bool} (h1 : EvS K ta σ H (.d (.bool a))) (h2 : a = true → EvS K tb σ H (.d (.bool b))) : EvS K (tAndV ta tb) σ H (.d (.bool (a && b))) := fun H1 e Q q => h1 H1 e _ fun u H2 e2 hu => ⟨a, dp_bl hu, by
  cases a with
  | true => exact h2 rfl H2 (e.trans e2) Q fun w H3 e3 hw => q w H3 (e2.trans e3) hw
  | false => exact q _ H2 e2 (.bl false)⟩
theorem ev_orV {a b : Bool} (h1 : EvS K ta σ H (.d (.bool a))) (h2 : a = false → EvS K tb σ H (.d (.bool b))) : EvS K (tOrV ta tb) σ H (.d (.bool (a || b))) := fun H1 e Q q => h1 H1 e _ fun u H2 e2 hu => ⟨a, dp_bl hu, by
  cases a with
  | true => exact q _ H2 e2 (.bl true)
  | false => exact h2 rfl H2 (e.trans e2) Q fun w H3 e3 hw => q w H3 (e2.trans e3) hw⟩
theorem ev_notV {a : Bool} (h1 : EvS K ta σ H (.d (.bool a))) : EvS K (tNotV ta) σ H (.d (.bool (!a))) := fun H1 e Q q => h1 H1 e _ fun u H2 e2 hu => ⟨a, dp_bl hu, q _ H2 e2 (.bl _)⟩
end
end Wk

set_option maxHeartbeats 200000
set_option Elab.async false
set_option linter.all false
set_option maxRecDepth 100000
/-! WrE: statements, loops and comprehensions over the data layer of WrD. -/
namespace Wk
open PySem PySem.Spec PyProof.Rows L2 Evl

/-- the state within a def: what was tracked at H0 stands, and so much is known of the slots -/
structure At (K : PySem.W.Frag) (H0 : Hp) (sl : List Sl) (σ : L2.St) (H : Hp) : Prop where
  ex : Ex H0 H
  env : Env K H sl σ
section
variable {K : PySem.W.Frag} {H0 H H' : Hp} {sl : List Sl} {σ : L2.St}
theorem At.mono (a : At K H0 sl σ H) (e : Ex H H') : At K H0 sl σ H' := ⟨a.ex.trans e, a.env.mono e⟩
theorem At.put (a : At K H0 sl σ H) (i : Nat) {l : Sl} {u : V} (h : Hd K H l u) : At K H0 (sl.set i l) (σ.set i (some u)) H := ⟨a.ex, a.env.put i h⟩
theorem At.un (a : At K H0 sl σ H) (i : Nat) : At K H0 (sl.set i .un) σ H := ⟨a.ex, a.env.un_at i⟩
theorem At.here {us : List V} {N : List Str} (h : HdAll K H sl us) : At K H (sl ++ List.replicate (N.length - us.length) .un) (start N us) H := ⟨Ex.refl H, Env.start h⟩
end
/-- several slots at once -/
def setAll (σ : L2.St) : List Nat → List V → L2.St
  | j :: js, u :: us => setAll (σ.set j (some u)) js us
  | _, _ => σ
def setS (sl : List Sl) : List Nat → List Sl → List Sl
  | j :: js, l :: ls => setS (sl.set j l) js ls
  | _, _ => sl
section
variable {K : PySem.W.Frag} {H0 H H' : Hp} {sl : List Sl} {σ : L2.St}
theorem Env.putAll (h : Env K H sl σ) : ∀ {js : List Nat} {ls : List Sl} {us : List V}, HdAll K H ls us → js.length = ls.length → Env K H (setS sl js ls) (setAll σ js us) := by
  intro js ls us hu
  induction hu generalizing js sl σ with
  | nil =>
    intro hl
    cases js with
    | nil => exact h
    | cons _ _ => simp at hl
  | cons q _ ih =>
    intro hl
    cases js with
    | nil => simp at hl
    | cons j js => exact ih (h.put j q) (by simpa using hl)
theorem At.putAll (a : At K H0 sl σ H) {js : List Nat} {ls : List Sl} {us : List V} (h : HdAll K H ls us) (hl : js.length = ls.length) : At K H0 (setS sl js ls) (setAll σ js us) H := ⟨a.ex, a.env.putAll h hl⟩
theorem wipe_set {j : Nat} {o : Option V} : ∀ {vs : List Nat} {σ : L2.St}, j ∈ vs → wipe (σ.set j o) vs = wipe σ vs
  | v :: vs, σ, h => by
    rw [wipe, wipe]
    by_cases hj : j ∈ vs
    · rw [wipe_set hj]
    · have e : j = v := by
        rcases List.mem_cons.mp h with z | z
        · exact z
        · exact absurd z hj
      subst e
      have comm : ∀ {us : List Nat} {τ : L2.St}, j ∉ us → wipe (τ.set j o) us = (wipe τ us).set j o := by
        intro us
        induction us with
        | nil => intro τ _; rfl
        | cons u us ih =>
          intro τ hn
          rw [wipe, wipe, ih (fun z => hn (List.mem_cons_of_mem _ z)), List.set_comm _ _ (fun z => hn (by rw [z]; exact List.mem_cons_self))]
      rw [comm hj, List.set_set]
theorem wipe_wipe {vs us : List Nat} {σ : L2.St} (h : ∀ j ∈ us, j ∈ vs) : wipe (wipe σ us) vs = wipe σ vs := by
  induction us with
  | nil => rfl
  | cons u us ih =>
    rw [show wipe σ (u :: us) = (wipe σ us).set u none from rfl, wipe_set (h u List.mem_cons_self), ih fun j hj => h j (List.mem_cons_of_mem _ hj)]
theorem wipe_setAll {vs : List Nat} : ∀ {js : List Nat} {us : List V} {σ : L2.St}, (∀ j ∈ js, j ∈ vs) → wipe (setAll σ js us) vs = wipe σ vs
  | [], _, _, _ => rfl
  | _ :: _, [], _, _ => rfl
  | j :: js, u :: us, σ, h => by
    rw [setAll, wipe_setAll (fun x hx => h x (List.mem_cons_of_mem _ hx)), wipe_set (h j List.mem_cons_self)]
end

/-! ### statements -/
section
variable {K : PySem.W.Frag} {H0 H H' : Hp} {sl : List Sl} {σ : L2.St} {ta tb te : TE} {tt : TT} {l : Sl} {D : Ends} {tu tw tz : TS} {g : TG}
theorem s_asg {i : Nat} (a : At K H0 sl σ H) (h : EvS K te σ H l) (k : ∀ σ1 H1, Ex H H1 → At K H0 (sl.set i l) σ1 H1 → D.nx σ1 H1) : tAsg te (gName i) D σ H :=
  h H (Ex.refl H) _ fun u H1 e hu => k _ H1 e ((a.mono e).put i hu)
theorem q_asg {i : Nat} (a : At K H0 sl σ H) (h : EvS K te σ H l) (k : ∀ σ1 H1, Ex H H1 → At K H0 (sl.set i l) σ1 H1 → tz D σ1 H1) : tSeq (tAsg te (gName i)) tz D σ H := s_asg (D := { D with nx := tz D }) a h k
theorem s_asgX {i : Nat} {Φ : PyData → Prop} (a : At K H0 sl σ H) (h : EvX K te σ H Φ) (k : ∀ d σ1 H1, Φ d → Ex H H1 → At K H0 (sl.set i (.d d)) σ1 H1 → D.nx σ1 H1) : tAsg te (gName i) D σ H :=
  h H (Ex.refl H) _ fun u d H1 hd e hu => k d _ H1 hd e ((a.mono e).put i (l := .d d) hu)
theorem q_asgX {i : Nat} {Φ : PyData → Prop} (a : At K H0 sl σ H) (h : EvX K te σ H Φ) (k : ∀ d σ1 H1, Φ d → Ex H H1 → At K H0 (sl.set i (.d d)) σ1 H1 → tz D σ1 H1) : tSeq (tAsg te (gName i)) tz D σ H := s_asgX (D := { D with nx := tz D }) a h k
/-- a new list, to be written later -/
theorem s_asgN {i : Nat} {ds : List PyData} (a : At K H0 sl σ H) (h : EvN K te σ H ds) (k : ∀ p xs σ1 H1, H p = none → Ex H H1 → H1 p = some (.lst xs) → DpAll K H1 xs ds → At K H0 (sl.set i (.v (.ref p))) σ1 H1 → D.nx σ1 H1) : tAsg te (gName i) D σ H :=
  h H (Ex.refl H) _ fun p xs H1 hp e hx hd => k p xs _ H1 hp e hx hd ((a.mono e).put i (l := .v (.ref p)) rfl)
theorem q_asgN {i : Nat} {ds : List PyData} (a : At K H0 sl σ H) (h : EvN K te σ H ds) (k : ∀ p xs σ1 H1, H p = none → Ex H H1 → H1 p = some (.lst xs) → DpAll K H1 xs ds → At K H0 (sl.set i (.v (.ref p))) σ1 H1 → tz D σ1 H1) : tSeq (tAsg te (gName i)) tz D σ H := s_asgN (D := { D with nx := tz D }) a h k
theorem s_ret (h : EvS K te σ H l) (k : ∀ u H1, Ex H H1 → Hd K H1 l u → D.rt u H1) : tRet te D σ H := h H (Ex.refl H) _ k
theorem s_retX {Φ : PyData → Prop} (h : EvX K te σ H Φ) (k : ∀ u d H1, Φ d → Ex H H1 → Dp K H1 u d → D.rt u H1) : tRet te D σ H := h H (Ex.refl H) _ k
theorem s_if {b : Bool} (a : At K H0 sl σ H) (h : EvT tt σ H b) (h1 : b = true → ∀ H1, Ex H H1 → At K H0 sl σ H1 → tu D σ H1) (h2 : b = false → ∀ H1, Ex H H1 → At K H0 sl σ H1 → tw D σ H1) : tIfS tt tu tw D σ H :=
  Evl.s_if h (fun hb H1 e => h1 hb H1 e (a.mono e)) (fun hb H1 e => h2 hb H1 e (a.mono e))
theorem q_if {b : Bool} (a : At K H0 sl σ H) (h : EvT tt σ H b) (h1 : b = true → ∀ H1, Ex H H1 → At K H0 sl σ H1 → tu { D with nx := tz D } σ H1) (h2 : b = false → ∀ H1, Ex H H1 → At K H0 sl σ H1 → tw { D with nx := tz D } σ H1) : tSeq (tIfS tt tu tw) tz D σ H := s_if (D := { D with nx := tz D }) a h h1 h2
/-- an if without else -/
theorem q_when {b : Bool} (a : At K H0 sl σ H) (h : EvT tt σ H b) (h1 : b = true → ∀ H1, Ex H H1 → At K H0 sl σ H1 → tu { D with nx := tz D } σ H1) (h2 : b = false → ∀ H1, Ex H H1 → At K H0 sl σ H1 → tz D σ H1) : tSeq (tIfS tt tu tNext) tz D σ H := q_if a h h1 h2
/-- xs.append(e) -/
theorem s_app {p : Addr} {xs : List V} (hp : H p = some (.lst xs)) (ha : EvS K ta σ H (.v (.ref p))) (h : EvS K te σ H l) (hz : xs.length < 1000000) (k : ∀ u H1, Ex H H1 → Hd K H1 l u → D.nx σ (upd H1 p (.lst (xs ++ [u])))) :
    tDrop (tBM K "list" rAppend ta (tCons te tNil)) D σ H := ha H (Ex.refl H) _ fun u H1 e1 hu => by
  have hu : u = .ref p := hu
  subst hu
  exact ⟨.inl ⟨rfl, xs, .of (e1 p _ hp)⟩, h H1 e1 _ fun w H2 e2 hw => ⟨p, xs, w, rfl, rfl, e2 p _ (e1 p _ hp), Nat.lt_trans hz (by decide), k w H2 (e1.trans e2) hw⟩⟩
theorem q_app {p : Addr} {xs : List V} (hp : H p = some (.lst xs)) (ha : EvS K ta σ H (.v (.ref p))) (h : EvS K te σ H l) (hz : xs.length < 1000000) (k : ∀ u H1, Ex H H1 → Hd K H1 l u → tz D σ (upd H1 p (.lst (xs ++ [u])))) :
    tSeq (tDrop (tBM K "list" rAppend ta (tCons te tNil))) tz D σ H := s_app (D := { D with nx := tz D }) hp ha h hz k
/-- a tuple taken apart: a, b = e -/
theorem g_two {i j : Nat} {d1 d2 : PyData} {u : V} {Q : L2.St → Hp → Prop} (a : At K H0 sl σ H) (h : Dp K H u (.tuple [d1, d2])) (k : ∀ σ1, At K H0 ((sl.set i (.d d1)).set j (.d d2)) σ1 H → Q σ1 H) : gTup K 2 (gCons (gName i) (gCons (gName j) gNil)) u σ H Q := by
  obtain ⟨p, xs, rfl, ht, hd⟩ := dp_tup h
  cases hd with
  | cons h1 r =>
    cases r with
    | cons h2 r =>
      cases r
      exact ⟨p, _, rfl, ht, rfl, _, _, rfl, _, _, rfl, rfl, k _ ((a.put i (l := .d d1) h1).put j (l := .d d2) h2)⟩
theorem q_two {i j : Nat} {d1 d2 : PyData} (a : At K H0 sl σ H) (h : EvS K te σ H (.d (.tuple [d1, d2]))) (k : ∀ σ1 H1, Ex H H1 → At K H0 ((sl.set i (.d d1)).set j (.d d2)) σ1 H1 → tz D σ1 H1) : tSeq (tAsg te (gTup K 2 (gCons (gName i) (gCons (gName j) gNil)))) tz D σ H :=
  h H (Ex.refl H) _ fun u H1 e hu => g_two (a.mono e) hu fun σ1 a1 => k σ1 H1 e a1
theorem q_twoX {i j : Nat} {Φ : PyData → PyData → Prop} (a : At K H0 sl σ H) (h : EvX K te σ H fun d => ∃ d1 d2, d = .tuple [d1, d2] ∧ Φ d1 d2) (k : ∀ d1 d2 σ1 H1, Φ d1 d2 → Ex H H1 → At K H0 ((sl.set i (.d d1)).set j (.d d2)) σ1 H1 → tz D σ1 H1) : tSeq (tAsg te (gTup K 2 (gCons (gName i) (gCons (gName j) gNil)))) tz D σ H :=
  h H (Ex.refl H) _ fun u d H1 hd e hu => by
    obtain ⟨d1, d2, rfl, hΦ⟩ := hd
    exact g_two (a.mono e) hu fun σ1 a1 => k d1 d2 σ1 H1 hΦ e a1
theorem q_three {i j m : Nat} {d1 d2 d3 : PyData} (a : At K H0 sl σ H) (h : EvS K te σ H (.d (.tuple [d1, d2, d3]))) (k : ∀ σ1 H1, Ex H H1 → At K H0 (((sl.set i (.d d1)).set j (.d d2)).set m (.d d3)) σ1 H1 → tz D σ1 H1) : tSeq (tAsg te (gTup K 3 (gCons (gName i) (gCons (gName j) (gCons (gName m) gNil))))) tz D σ H :=
  h H (Ex.refl H) _ fun u H1 e hu => by
    obtain ⟨p, xs, rfl, ht, hd⟩ := dp_tup hu
    cases hd with
    | cons h1 r =>
      cases r with
      | cons h2 r =>
        cases r with
        | cons h3 r =>
          cases r
          exact ⟨p, _, rfl, ht, rfl, _, _, rfl, _, _, rfl, _, _, rfl, rfl, k _ H1 e ((((a.mono e).put i (l := .d d1) h1).put j (l := .d d2) h2).put m (l := .d d3) h3)⟩
theorem q_five {i j m n o : Nat} {d1 d2 d3 d4 d5 : PyData} (a : At K H0 sl σ H) (h : EvS K te σ H (.d (.tuple [d1, d2, d3, d4, d5])))
    (k : ∀ σ1 H1, Ex H H1 → At K H0 (((((sl.set i (.d d1)).set j (.d d2)).set m (.d d3)).set n (.d d4)).set o (.d d5)) σ1 H1 → tz D σ1 H1) : tSeq (tAsg te (gTup K 5 (gCons (gName i) (gCons (gName j) (gCons (gName m) (gCons (gName n) (gCons (gName o) gNil))))))) tz D σ H :=
  h H (Ex.refl H) _ fun u H1 e hu => by
    obtain ⟨p, xs, rfl, ht, hd⟩ := dp_tup hu
    cases hd with
    | cons h1 r =>
      cases r with
      | cons h2 r =>
        cases r with
        | cons h3 r =>
          cases r with
          | cons h4 r =>
            cases r with
            | cons h5 r =>
              cases r
              exact ⟨p, _, rfl, ht, rfl, _, _, rfl, _, _, rfl, _, _, rfl, _, _, rfl, _, _, rfl, rfl, k _ H1 e ((((((a.mono e).put i (l := .d d1) h1).put j (l := .d d2) h2).put m (l := .d d3) h3).put n (l := .d d4) h4).put o (l := .d d5) h5)⟩
/-- x, y = e, f (tPar) -/
theorem q_par {i j : Nat} {tr : TA} {l1 l2 : Sl} (a : At K H0 sl σ H) (h : EvAS K tr σ H [l1, l2]) (k : ∀ σ1 H1, Ex H H1 → At K H0 ((sl.set i l1).set j l2) σ1 H1 → tz D σ1 H1) : tSeq (tPar i j tr) tz D σ H :=
  h H (Ex.refl H) _ fun us H1 e hus => by
    obtain ⟨u, w, rfl, hu, hw⟩ := hda_two hus
    exact ⟨u, w, rfl, k _ H1 e (((a.mono e).put i hu).put j hw)⟩
end

/-! ### what is walked -/
/-- the item x at H fills the slots js by what ls says -/
def Gives (K : PySem.W.Frag) (g : TG) (js : List Nat) (ls : List Sl) (H : Hp) (x : V) : Prop := ∀ (σ : L2.St) (Q : L2.St → Hp → Prop), (∀ us, HdAll K H ls us → Q (setAll σ js us) H) → g x σ H Q
structure Src (K : PySem.W.Frag) (wi : TI) (g : TG) (js : List Nat) (σ : L2.St) (H : Hp) (its : List (List Sl)) (kp : Hp → Hp → Prop) : Prop where
  ex : ∀ A B, Ex A B → kp A B
  len : ∀ ls ∈ its, js.length = ls.length
  run : ∀ H1, Ex H H1 → ∀ R : It → Hp → Prop, (∀ J H2 (G : Hp → Prop) (Y : Nat → Hp → V → Hp → Prop), Ex H1 H2 → Walk J its.length G Y → (∀ H', kp H2 H' → G H') →
    (∀ i ls x H' H'', its[i]? = some ls → kp H2 H' → Y i H' x H'' → Ex H' H'' ∧ Gives K g js ls H'' x) → R J H2) → wi σ H1 R
section
variable {K : PySem.W.Frag} {H0 H H' : Hp} {sl : List Sl} {σ : L2.St} {ta tb te tl : TE} {tt : TT} {l : Sl} {D : Ends} {tu tw tz : TS} {g : TG} {wi : TI} {js : List Nat} {kp : Hp → Hp → Prop}
theorem gives_name {j : Nat} {x : V} (h : Hd K H l x) : Gives K (gName j) [j] [l] H x := fun σ Q q => q [x] (.cons h .nil)
theorem gives_two {i j : Nat} {d1 d2 : PyData} {x : V} (h : Dp K H x (.tuple [d1, d2])) : Gives K (gTup K 2 (gCons (gName i) (gCons (gName j) gNil))) [i, j] [.d d1, .d d2] H x := fun σ Q q => by
  obtain ⟨p, xs, rfl, ht, hd⟩ := dp_tup h
  cases hd with
  | cons h1 r =>
    cases r with
    | cons h2 r =>
      cases r
      exact ⟨p, _, rfl, ht, rfl, _, _, rfl, _, _, rfl, rfl, q [_, _] (.cons h1 (.cons h2 .nil))⟩
theorem Src.mono (e : Ex H H') {its : List (List Sl)} (S : Src K wi g js σ H its kp) : Src K wi g js σ H' its kp := ⟨S.ex, S.len, fun H1 e1 R r => S.run H1 (e.trans e1) R r⟩
/-- a tuple's items, each by one name -/
theorem src_tup1 {j : Nat} {ds : List PyData} (h : EvS K tl σ H (.d (.tuple ds))) (hn : noLs ds = true) : Src K (iTup K tl) (gName j) [j] σ H (ds.map fun d => [.d d]) ExT := by
  refine ⟨fun _ _ e => exT_of e, fun ls h => ?_, fun H1 e R r => h H1 e _ fun u H2 e2 hu => ?_⟩
  · obtain ⟨d, _, rfl⟩ := List.mem_map.mp h
    rfl
  · obtain ⟨a, xs, rfl, ht, hd⟩ := dp_tup hu
    refine ⟨a, rfl, ⟨xs, ht⟩, r _ H2 _ _ e2 (by rw [List.length_map, ← dpa_length hd]; exact walk_tup) (fun H' k => exT_sq k ht) fun i ls x H' H'' hi k y => ?_⟩
    obtain ⟨rfl, hx⟩ := y
    obtain ⟨d, hd1, hd2⟩ := dpa_at (dpa_monoT k ds hn hd) hx
    rw [List.getElem?_map, hd1] at hi
    obtain rfl : [Sl.d d] = ls := Option.some.inj hi
    exact ⟨Ex.refl _, gives_name hd2⟩
/-- a tuple's pairs, by two names -/
theorem src_tup2 {α : Type} {i j : Nat} {xs : List α} {f1 f2 : α → PyData} (h : EvS K tl σ H (.d (.tuple (xs.map fun x => .tuple [f1 x, f2 x])))) (hn : ∀ x ∈ xs, noL (f1 x) = true ∧ noL (f2 x) = true) :
    Src K (iTup K tl) (gTup K 2 (gCons (gName i) (gCons (gName j) gNil))) [i, j] σ H (xs.map fun x => [.d (f1 x), .d (f2 x)]) ExT := by
  refine ⟨fun _ _ e => exT_of e, fun ls h => ?_, fun H1 e R r => h H1 e _ fun u H2 e2 hu => ?_⟩
  · obtain ⟨d, _, rfl⟩ := List.mem_map.mp h
    rfl
  · obtain ⟨a, ys, rfl, ht, hd⟩ := dp_tup hu
    have hn' : noLs (xs.map fun x => PyData.tuple [f1 x, f2 x]) = true := noLs_mem fun d hd => by
      obtain ⟨x, hx, rfl⟩ := List.mem_map.mp hd
      simp [noL, noLs, (hn x hx).1, (hn x hx).2]
    refine ⟨a, rfl, ⟨ys, ht⟩, r _ H2 _ _ e2 (by rw [List.length_map, show xs.length = ys.length by rw [dpa_length hd, List.length_map]]; exact walk_tup) (fun H' k => exT_sq k ht) fun k ls x H' H'' hi kk y => ?_⟩
    obtain ⟨rfl, hx⟩ := y
    obtain ⟨d, hd1, hd2⟩ := dpa_at (dpa_monoT kk _ hn' hd) hx
    rw [List.getElem?_map] at hi hd1
    cases hz : xs[k]? with
    | none => rw [hz] at hi; cases hi
    | some z =>
      rw [hz] at hi hd1
      obtain rfl : [Sl.d (f1 z), .d (f2 z)] = ls := Option.some.inj hi
      obtain rfl : PyData.tuple [f1 z, f2 z] = d := Option.some.inj hd1
      exact ⟨Ex.refl _, gives_two hd2⟩
/-- a list's items, the list and all else staying -/
theorem src_lst1 {j : Nat} {ds : List PyData} (h : EvS K tl σ H (.d (.list ds))) : Src K (iList K tl) (gName j) [j] σ H (ds.map fun d => [.d d]) Ex := by
  refine ⟨fun _ _ e => e, fun ls h => ?_, fun H1 e R r => h H1 e _ fun u H2 e2 hu => ?_⟩
  · obtain ⟨d, _, rfl⟩ := List.mem_map.mp h
    rfl
  · obtain ⟨a, xs, rfl, ht, hd⟩ := dp_lst hu
    refine ⟨a, rfl, ⟨xs, ht⟩, r _ H2 _ _ e2 (by rw [List.length_map, ← dpa_length hd]; exact walk_list) (fun H' k => ex_l k ht) fun i ls x H' H'' hi k y => ?_⟩
    obtain ⟨rfl, hx⟩ := y
    obtain ⟨d, hd1, hd2⟩ := dpa_at (dpa_mono k _ hd) hx
    rw [List.getElem?_map, hd1] at hi
    obtain rfl : [Sl.d d] = ls := Option.some.inj hi
    exact ⟨Ex.refl _, gives_name hd2⟩
theorem src_lst2 {α : Type} {i j : Nat} {xs : List α} {f1 f2 : α → PyData} (h : EvS K tl σ H (.d (.list (xs.map fun x => .tuple [f1 x, f2 x])))) :
    Src K (iList K tl) (gTup K 2 (gCons (gName i) (gCons (gName j) gNil))) [i, j] σ H (xs.map fun x => [.d (f1 x), .d (f2 x)]) Ex := by
  refine ⟨fun _ _ e => e, fun ls h => ?_, fun H1 e R r => h H1 e _ fun u H2 e2 hu => ?_⟩
  · obtain ⟨d, _, rfl⟩ := List.mem_map.mp h
    rfl
  · obtain ⟨a, ys, rfl, ht, hd⟩ := dp_lst hu
    refine ⟨a, rfl, ⟨ys, ht⟩, r _ H2 _ _ e2 (by rw [List.length_map, show xs.length = ys.length by rw [dpa_length hd, List.length_map]]; exact walk_list) (fun H' k => ex_l k ht) fun k ls x H' H'' hi kk y => ?_⟩
    obtain ⟨rfl, hx⟩ := y
    obtain ⟨d, hd1, hd2⟩ := dpa_at (dpa_mono kk _ hd) hx
    rw [List.getElem?_map] at hi hd1
    cases hz : xs[k]? with
    | none => rw [hz] at hi; cases hi
    | some z =>
      rw [hz] at hi hd1
      obtain rfl : [Sl.d (f1 z), .d (f2 z)] = ls := Option.some.inj hi
      obtain rfl : PyData.tuple [f1 z, f2 z] = d := Option.some.inj hd1
      exact ⟨Ex.refl _, gives_two hd2⟩
/-- range(n), range(a, b) -/
theorem src_rng1 {tr : TA} {j : Nat} {n : Int} (h : EvAS K tr σ H [.d (.int n)]) (hn : -(2 ^ 62) ≤ n ∧ n < 2 ^ 62) : Src K (iRng1 tr) (gName j) [j] σ H ((List.range n.toNat).map fun i => [.d (.int (i : Nat))]) fun _ _ => True := by
  refine ⟨fun _ _ _ => trivial, fun ls h => ?_, fun H1 e R r => h H1 e _ fun us H2 e2 hus => ?_⟩
  · obtain ⟨d, _, rfl⟩ := List.mem_map.mp h
    rfl
  · obtain ⟨u, rfl, hu⟩ := hda_one hus
    have hu : Dp K H2 u (.int n) := hu
    refine ⟨n, by rw [dp_int hu], hn.1, hn.2, r _ H2 (fun _ => True) _ e2 (by rw [List.length_map, List.length_range]; exact walk_range) (fun _ _ => trivial) fun i ls x H' H'' hi k y => ?_⟩
    obtain ⟨rfl, rfl⟩ := y
    rw [List.getElem?_map] at hi
    cases hz : (List.range n.toNat)[i]? with
    | none => rw [hz] at hi; cases hi
    | some z =>
      rw [hz] at hi
      have ez : z = i := by
        obtain ⟨h1, h2⟩ := List.getElem?_eq_some_iff.mp hz
        rw [List.getElem_range] at h2
        exact h2.symm
      subst ez
      obtain rfl : [Sl.d (.int (z : Nat))] = ls := Option.some.inj hi
      exact ⟨Ex.refl _, gives_name (by show Dp K H'' (V.int (0 + (z : Int))) _; rw [Int.zero_add]; exact .int _)⟩
theorem src_rng2 {tr : TA} {j : Nat} {a b : Int} (h : EvAS K tr σ H [.d (.int a), .d (.int b)]) (hn : -(2 ^ 62) ≤ a ∧ a < 2 ^ 62 ∧ -(2 ^ 62) ≤ b ∧ b < 2 ^ 62) :
    Src K (iRng2 tr) (gName j) [j] σ H ((List.range (b - a).toNat).map fun i => [.d (.int (a + (i : Nat)))]) fun _ _ => True := by
  refine ⟨fun _ _ _ => trivial, fun ls h => ?_, fun H1 e R r => h H1 e _ fun us H2 e2 hus => ?_⟩
  · obtain ⟨d, _, rfl⟩ := List.mem_map.mp h
    rfl
  · obtain ⟨u, w, rfl, hu, hw⟩ := hda_two hus
    have hu : Dp K H2 u (.int a) := hu
    have hw : Dp K H2 w (.int b) := hw
    refine ⟨a, b, by rw [dp_int hu, dp_int hw], hn, r _ H2 (fun _ => True) _ e2 (by rw [List.length_map, List.length_range]; exact walk_range) (fun _ _ => trivial) fun i ls x H' H'' hi k y => ?_⟩
    obtain ⟨rfl, rfl⟩ := y
    rw [List.getElem?_map] at hi
    cases hz : (List.range (b - a).toNat)[i]? with
    | none => rw [hz] at hi; cases hi
    | some z =>
      rw [hz] at hi
      have ez : z = i := by
        obtain ⟨h1, h2⟩ := List.getElem?_eq_some_iff.mp hz
        rw [List.getElem_range] at h2
        exact h2.symm
      subst ez
      obtain rfl : [Sl.d (.int (a + (z : Nat)))] = ls := Option.some.inj hi
      exact ⟨Ex.refl _, gives_name (.int _)⟩
/-- zip of two lists of scalars -/
theorem src_zip {tr : TA} {i j : Nat} {ds es : List PyData} (h : EvAS K tr σ H [.d (.list ds), .d (.list es)]) (hl : ds.length = es.length) :
    Src K (iZip K tr) (gTup K 2 (gCons (gName i) (gCons (gName j) gNil))) [i, j] σ H ((ds.zip es).map fun p => [.d p.1, .d p.2]) Ex := by
  refine ⟨fun _ _ e => e, fun ls h => ?_, fun H1 e R r => h H1 e _ fun us H2 e2 hus => ?_⟩
  · obtain ⟨d, _, rfl⟩ := List.mem_map.mp h
    rfl
  · obtain ⟨u, w, rfl, hu, hw⟩ := hda_two hus
    obtain ⟨a, xs, rfl, ht, hd⟩ := dp_lst hu
    obtain ⟨b, ys, rfl, ht', hd'⟩ := dp_lst hw
    have l1 := dpa_length hd
    have l2 := dpa_length hd'
    refine ⟨a, b, xs, ys, rfl, ht, ht', r _ H2 _ _ e2 (walk_zip (xs := xs) (ys := ys) (by rw [List.length_map, List.length_zip, l1, l2])) (fun H' k => ⟨ex_l k ht, ex_l k ht'⟩) fun k ls x H' H'' hi kk y => ?_⟩
    obtain ⟨T, x1, y1, rfl, nT, rfl, hx, hy⟩ := y
    obtain ⟨d, hd1, hd2⟩ := dpa_at (dpa_mono kk _ hd) hx
    obtain ⟨d', hd1', hd2'⟩ := dpa_at (dpa_mono kk _ hd') hy
    rw [List.getElem?_map, List.getElem?_zip_eq_some (z := (d, d')).mpr ⟨hd1, hd1'⟩] at hi
    obtain rfl : [Sl.d d, .d d'] = ls := Option.some.inj hi
    exact ⟨Ex.new nT, gives_two (.tup (.of upd_same) (.cons (dp_mono (Ex.new nT) _ hd2) (.cons (dp_mono (Ex.new nT) _ hd2') .nil)))⟩
/-- A COMPREHENSION -/
theorem en_lc {α : Type} {vs : List Nat} {xs : List α} {f : α → List Sl} (p : α → Bool) (v : α → PyData) (S : Src K wi g js σ H (xs.map f) kp) (s : Env K H sl σ) (hz : xs.length ≤ 1000000) (hj : ∀ j ∈ js, j ∈ vs) (hv : ∀ x ∈ xs, p x = true → noL (v x) = true)
    (ht : ∀ x ∈ xs, ∀ σ' H', Ex H H' → Env K H' (setS (wipeS sl vs) js (f x)) σ' → EvT tt σ' H' (p x))
    (he : ∀ x ∈ xs, p x = true → ∀ σ' H', Ex H H' → Env K H' (setS (wipeS sl vs) js (f x)) σ' → EvS K te σ' H' (.d (v x))) : EvN K (tLc wi g tt te vs) σ H ((xs.filter p).map v) := fun H1 e1 Q q => by
  refine S.run H1 e1 _ fun J H2 G Y e2 w hG hY => ?_
  intro Dl hDl
  have hlen : (xs.map f).length = xs.length := List.length_map ..
  refine lc_it w (fun i H' => Ex H2 H' ∧ ∃ acc, H' Dl = some (.lst acc) ∧ DpAll K H' acc (((xs.take i).filter p).map v)) ⟨Ex.new hDl, [], upd_same, .nil⟩ (fun i H' _ h => hG H' (S.ex _ _ h.1)) ?_ ?_
  · rintro i x H' H'' hi ⟨eH, acc, hacc, hd⟩ hy
    have hi' : i < xs.length := by omega
    have hxi : xs[i]? = some xs[i] := List.getElem?_eq_getElem hi'
    have hmem : xs[i] ∈ xs := List.getElem_mem hi'
    obtain ⟨e3, hg⟩ := hY i (f xs[i]) x H' H'' (by rw [List.getElem?_map, hxi]; rfl) (S.ex _ _ eH) hy
    refine hg _ _ fun us hus => ⟨?_, ?_⟩
    · rw [wipe_setAll hj, wipe_wipe fun j hj => hj]
    · have eall : Ex H H'' := (e1.trans e2).trans (eH.trans e3)
      have hjl : js.length = (f xs[i]).length := S.len _ (List.mem_map.mpr ⟨_, hmem, rfl⟩)
      have env : Env K H'' (setS (wipeS sl vs) js (f xs[i])) (setAll (wipe σ vs) js us) := ((s.mono eall).wipe vs).putAll hus hjl
      have htake : xs.take (i + 1) = xs.take i ++ [xs[i]] := by rw [List.take_add_one, hxi]; rfl
      have hacc_len : acc.length ≤ xs.length := by
        rw [dpa_length hd, List.length_map]
        exact Nat.le_trans (List.length_filter_le _ _) (by rw [List.length_take]; omega)
      refine ht _ hmem _ H'' eall env H'' (Ex.refl _) _ fun H3 e4 => ?_
      cases hb : p xs[i] with
      | true =>
        refine he _ hmem hb _ H'' eall env H3 e4 _ fun u H4 e5 hu => ?_
        have hD4 : H4 Dl = some (.lst acc) := e5 _ _ (e4 _ _ (e3 _ _ hacc))
        refine ⟨acc, hD4, Nat.lt_of_le_of_lt hacc_len (Nat.lt_of_le_of_lt hz (by decide)), ?_⟩
        have e25 : Ex H2 H4 := ((eH.trans e3).trans e4).trans e5
        have t4 : ExT H4 (upd H4 Dl (.lst (acc ++ [u]))) := exT_lst hD4
        refine ⟨e25.mut hDl, acc ++ [u], upd_same, ?_⟩
        have hfl : ((xs.take (i + 1)).filter p).map v = ((xs.take i).filter p).map v ++ [v xs[i]] := by
          rw [htake, List.filter_append, List.map_append, List.filter_cons, if_pos hb]
          rfl
        rw [hfl]
        have hno : noLs (((xs.take i).filter p).map v) = true := noLs_mem fun d hd => by
          obtain ⟨z, hz1, rfl⟩ := List.mem_map.mp hd
          obtain ⟨hz2, hz3⟩ := List.mem_filter.mp hz1
          exact hv z (List.mem_of_mem_take hz2) hz3
        exact dpa_append (dpa_monoT ((exT_of ((e3.trans e4).trans e5)).trans t4) _ hno hd) (.cons (dp_monoT t4 _ (hv _ hmem hb) hu) .nil)
      | false =>
        refine ⟨(eH.trans e3).trans e4, acc, e4 _ _ (e3 _ _ hacc), ?_⟩
        have hfl : ((xs.take (i + 1)).filter p).map v = ((xs.take i).filter p).map v := by
          rw [htake, List.filter_append, List.map_append, List.filter_cons, if_neg (by rw [hb]; exact Bool.false_ne_true)]
          show _ ++ [] = _
          rw [List.append_nil]
        rw [hfl]
        exact dpa_mono (e3.trans e4) _ hd
  · rintro H' ⟨eH, acc, hacc, hd⟩
    rw [hlen, List.take_length] at hd
    exact q Dl acc H' (fresh_back e2 hDl) (e2.trans eH) hacc hd
/-- without a test -/
theorem en_lcA {α : Type} {vs : List Nat} {xs : List α} {f : α → List Sl} (v : α → PyData) (S : Src K wi g js σ H (xs.map f) kp) (s : Env K H sl σ) (hz : xs.length ≤ 1000000) (hj : ∀ j ∈ js, j ∈ vs) (hv : ∀ x ∈ xs, noL (v x) = true)
    (he : ∀ x ∈ xs, ∀ σ' H', Ex H H' → Env K H' (setS (wipeS sl vs) js (f x)) σ' → EvS K te σ' H' (.d (v x))) : EvN K (tLc wi g tYes te vs) σ H (xs.map v) := by
  have := en_lc (tt := tYes) (te := te) (fun _ => true) v S s hz hj (fun x hx _ => hv x hx) (fun x hx σ' H' _ _ => fun H1 _ Q q => q H1 (Ex.refl H1)) (fun x hx _ σ' H' e en => he x hx σ' H' e en)
  rwa [List.filter_eq_self.mpr fun _ _ => rfl] at this
/-- A FOR -/
theorem s_for {α : Type} {xs : List α} {f : α → List Sl} (S : Src K wi g js σ H (xs.map f) kp) (Pv : Hp → Nat → L2.St → Hp → Prop) (h0 : ∀ H2, Ex H H2 → Pv H2 0 σ H2) (hG : ∀ H2 i σ' H', Ex H H2 → Pv H2 i σ' H' → kp H2 H')
    (hs : ∀ H2 i x σ' H' H'' us, Ex H H2 → xs[i]? = some x → Pv H2 i σ' H' → Ex H' H'' → HdAll K H'' (f x) us → tu { D with nx := Pv H2 (i + 1), ct := Pv H2 (i + 1), bk := D.nx } (setAll σ' js us) H'')
    (hd : ∀ H2 σ' H', Ex H H2 → Pv H2 xs.length σ' H' → D.nx σ' H') : tFor wi g tu D σ H :=
  S.run H (Ex.refl H) _ fun J H2 G Y e2 w hG' hY => by
    refine for_it w (Pv H2) (h0 H2 e2) (fun i σ' H' _ h => hG' H' (hG H2 i σ' H' e2 h)) (fun i x σ' H' H'' hi h hy => ?_) (fun σ' H' h => hd H2 σ' H' e2 (by rwa [List.length_map] at h))
    have hi' : i < xs.length := by rwa [List.length_map] at hi
    have hxi : xs[i]? = some xs[i] := List.getElem?_eq_getElem hi'
    obtain ⟨e3, hg⟩ := hY i (f xs[i]) x H' H'' (by rw [List.getElem?_map, hxi]; rfl) (hG H2 i σ' H' e2 h) hy
    exact hg _ _ fun us hus => hs H2 i _ σ' H' H'' us e2 hxi h e3 hus
theorem q_for {α : Type} {xs : List α} {f : α → List Sl} (S : Src K wi g js σ H (xs.map f) kp) (Pv : Hp → Nat → L2.St → Hp → Prop) (h0 : ∀ H2, Ex H H2 → Pv H2 0 σ H2) (hG : ∀ H2 i σ' H', Ex H H2 → Pv H2 i σ' H' → kp H2 H')
    (hs : ∀ H2 i x σ' H' H'' us, Ex H H2 → xs[i]? = some x → Pv H2 i σ' H' → Ex H' H'' → HdAll K H'' (f x) us → tu { D with nx := Pv H2 (i + 1), ct := Pv H2 (i + 1), bk := tz D } (setAll σ' js us) H'')
    (hd : ∀ H2 σ' H', Ex H H2 → Pv H2 xs.length σ' H' → tz D σ' H') : tSeq (tFor wi g tu) tz D σ H := s_for (D := { D with nx := tz D }) S Pv h0 hG hs hd
end
end Wk

set_option maxHeartbeats 200000
set_option Elab.async false
set_option linter.all false
set_option maxRecDepth 100000
set_option maxHeartbeats 1000000
/-! WrN: dicts whose keys are nested tuples, over the hand layer. -/
namespace Wk
open PySem PySem.Spec PyProof.Rows L2 Evl

/-- a dict's object by its entries -/
def NDo (d : Addr) (es : Array DictEntry) (ep : Nat) : HO := .ext fun h => (d == sysModules) = false ∧ h.DictRaw d es ep
theorem ndo_ok {P : Program} {w : World} {H : Hp} {h : Heap} {d : Addr} {es : Array DictEntry} {ep : Nat} (hs : (d == sysModules) = false) (r : h.DictRaw d es ep) : ObjOk P w H h d (NDo d es ep) :=
  ⟨⟨hs, r⟩, let ⟨o, ho, _⟩ := r; ⟨o, ho⟩, fun h1 h2 x k => ⟨x.1, x.2.at k⟩⟩
/-- a key, where its tuple stands, the value -/
abbrev Ent := NestedKey × Addr × V
abbrev RelE : List Ent → List (NestedKey × Addr × Value) → Prop := Paired fun p q => p.1 = q.1 ∧ p.2.1 = q.2.1 ∧ RelV p.2.2 q.2.2
/-- the key k stands at b -/
def KeyAt (K : PySem.W.Frag) (H : Hp) (k : NestedKey) (b : Addr) : Prop := Dp K H (.ref b) k.data ∧ k.depth ≤ 8
structure ND (K : PySem.W.Frag) (P : Program) (w : World) (H : Hp) (d : Addr) (kvs : List Ent) : Prop where
  ex : ∃ es ep xs, H d = some (NDo d es ep) ∧ es.toList = xs.map (entryOfKey (nestedKind P w)) ∧ RelE kvs xs
  nd : (kvs.map (·.1)).Nodup
  key : ∀ x ∈ kvs, KeyAt K H x.1 x.2.1
  len : kvs.length ≤ sizeLine
mutual
theorem noL_key : ∀ k : NestedKey, noL k.data = true
  | .none => rfl
  | .num _ => rfl
  | .text _ => rfl
  | .tup ks => by
    show noLs (NestedKey.datas ks) = true
    exact noLs_keys ks
theorem noLs_keys : ∀ ks : List NestedKey, noLs (NestedKey.datas ks) = true
  | [] => rfl
  | k :: ks => by
    show (noL k.data && noLs (NestedKey.datas ks)) = true
    rw [noL_key k, noLs_keys ks]
    rfl
end
theorem KeyAt.monoT {K : PySem.W.Frag} {H H' : Hp} {k : NestedKey} {b : Addr} (e : ExT H H') (x : KeyAt K H k b) : KeyAt K H' k b := ⟨dp_monoT e _ (noL_key k) x.1, x.2⟩
theorem ND.keep {K : PySem.W.Frag} {P : Program} {w : World} {H H' : Hp} {d : Addr} {kvs : List Ent} (n : ND K P w H d kvs) (e : ExT H H') (hd : ∀ o, H d = some o → H' d = some o) : ND K P w H' d kvs where
  ex := by
    obtain ⟨es, ep, xs, h, r⟩ := n.ex
    exact ⟨es, ep, xs, hd _ h, r⟩
  nd := n.nd
  key := fun x hx => (n.key x hx).monoT e
  len := n.len
theorem ND.mono {K : PySem.W.Frag} {P : Program} {w : World} {H H' : Hp} {d : Addr} {kvs : List Ent} (n : ND K P w H d kvs) (e : Ex H H') : ND K P w H' d kvs := n.keep (exT_of e) fun o h => e d o h
theorem ND.there {K : PySem.W.Frag} {P : Program} {w : World} {H : Hp} {d : Addr} {kvs : List Ent} (n : ND K P w H d kvs) : ∃ u, H d = some u ∧ Mut (some u) ∧ (∀ xs, u ≠ .tup xs) ∧ (∀ o xs, u ≠ .frz o (.tup xs)) := by
  obtain ⟨es, ep, xs, h, r⟩ := n.ex
  refine ⟨_, h, trivial, ?_, ?_⟩
  · intro _ z
    cases z
  · intro _ _ z
    cases z

section
variable {X : Cx} {pins : List (Addr × Obj)} {σ : L2.St} {H : Hp} {s : Shared}
mutual
theorem key_is (I : Inv X pins σ H s) : ∀ (k : NestedKey) (v : V) (u : Value), Dp X.K H v k.data → RelV v u → NestedIs s.heap k u
  | .none, v, u, h, r => by
    cases dp_non h
    cases r
    exact .none
  | .num i, v, u, h, r => by
    cases dp_int h
    obtain ⟨t, rfl⟩ := r
    exact .int i t
  | .text x, v, u, h, r => by
    cases dp_str h
    obtain ⟨t, rfl⟩ := r
    exact .text x t
  | .tup ks, v, u, h, r => by
    obtain ⟨a, xs, rfl, ht, hd⟩ := dp_tup (ds := NestedKey.datas ks) h
    cases r
    obtain ⟨its, rv, ⟨o, ho, hc, n, hdt⟩, _⟩ := I.tuple ht
    exact .tup ho hc hdt (by simpa using keys_are I ks xs its hd rv)
theorem keys_are (I : Inv X pins σ H s) : ∀ (ks : List NestedKey) (vs : List V) (us : List Value), DpAll X.K H vs (NestedKey.datas ks) → Vals vs us → NestedAll s.heap ks us
  | [], _, _, h, r => by
    cases h
    cases r
    exact .nil
  | k :: ks, _, _, h, r => by
    cases h with
    | cons h1 h2 =>
      cases r with
      | cons r1 r2 => exact .cons (key_is I k _ _ h1 r1) (keys_are I ks _ _ h2 r2)
end
theorem KeyAt.is (I : Inv X pins σ H s) {k : NestedKey} {b : Addr} (x : KeyAt X.K H k b) : (nestedKind X.prog X.w).is s.heap k b := ⟨key_is I k _ _ x.1 rfl, x.2⟩
theorem relE_mem : ∀ {kvs : List Ent} {xs : List (NestedKey × Addr × Value)}, RelE kvs xs → ∀ x ∈ xs, ∃ y ∈ kvs, y.1 = x.1 ∧ y.2.1 = x.2.1
  | _, _, .nil, x, h => nomatch h
  | _, _, .cons r t, x, h => by
    rcases List.mem_cons.mp h with rfl | h
    · exact ⟨_, List.mem_cons_self, r.1, r.2.1⟩
    · obtain ⟨y, h1, h2⟩ := relE_mem t x h
      exact ⟨y, List.mem_cons_of_mem _ h1, h2⟩
theorem relE_keys : ∀ {kvs : List Ent} {xs : List (NestedKey × Addr × Value)}, RelE kvs xs → kvs.map (·.1) = xs.map (·.1)
  | _, _, .nil => rfl
  | _, _, .cons r t => by rw [List.map_cons, List.map_cons, r.1, relE_keys t]
theorem relE_get : ∀ {kvs : List Ent} {xs : List (NestedKey × Addr × Value)} {i : Nat} {k : NestedKey} {b : Addr} {v : V}, RelE kvs xs → kvs[i]? = some (k, b, v) → ∃ u, xs[i]? = some (k, b, u) ∧ RelV v u
  | _, _, _, _, _, _, .nil, e => by simp at e
  | _, _, 0, k, b, v, .cons (a := p) (b := q) r t, e => by
    simp at e
    subst e
    obtain ⟨h1, h2, h3⟩ := r
    obtain ⟨q1, q2, q3⟩ := q
    exact ⟨q3, by simp only [List.getElem?_cons_zero]; simp at h1 h2; rw [h1, h2], h3⟩
  | _, _, i + 1, _, _, _, .cons r t, e => by
    obtain ⟨u, h1, h2⟩ := relE_get (i := i) t (by simpa using e)
    exact ⟨u, by simpa using h1, h2⟩
theorem ND.heap {d : Addr} {kvs : List Ent} (I : Inv X pins σ H s) (n : ND X.K X.prog X.w H d kvs) : ∃ xs, s.heap.DictOfH (nestedKind X.prog X.w) d xs ∧ RelE kvs xs ∧ (d == sysModules) = false := by
  obtain ⟨es, ep, xs, h, he, r⟩ := n.ex
  obtain ⟨⟨hs, o, ho, hc, hd⟩, _⟩ := (show ObjOk X.prog X.w H s.heap d (NDo d es ep) from I.hok d _ h)
  refine ⟨xs, ⟨o, es, ep, ho, hc, hd, he, fun x hx => ?_, ?_⟩, r, hs⟩
  · obtain ⟨y, hy, e1, e2⟩ := relE_mem r x hx
    rw [← e1, ← e2]
    exact (n.key y hy).is I
  · rw [← relE_keys r]
    exact n.nd
theorem in_keys {kvs : List Ent} {xs : List (NestedKey × Addr × Value)} (r : RelE kvs xs) (k : NestedKey) : (atKey xs k).isSome = decide (k ∈ kvs.map (·.1)) := by
  rw [relE_keys r]
  unfold atKey
  rw [Option.isSome_map]
  by_cases h : k ∈ xs.map (·.1)
  · rw [decide_eq_true h]
    obtain ⟨x, hx, rfl⟩ := List.mem_map.mp h
    rw [List.find?_isSome]
    exact ⟨x, hx, decide_eq_true rfl⟩
  · rw [decide_eq_false h, Bool.eq_false_iff]
    intro z
    rw [List.find?_isSome] at z
    obtain ⟨x, hx, e⟩ := z
    exact h (List.mem_map.mpr ⟨x, hx, of_decide_eq_true e⟩)
/-- behind d[k] = v -/
def putE (kvs : List Ent) (k : NestedKey) (b : Addr) (v : V) : List Ent := if k ∈ kvs.map (·.1) then kvs.map (fun x => if x.1 = k then (x.1, x.2.1, v) else x) else kvs ++ [(k, b, v)]
theorem putE_new {kvs : List Ent} {k : NestedKey} {b : Addr} {v : V} (h : k ∉ kvs.map (·.1)) : putE kvs k b v = kvs ++ [(k, b, v)] := by unfold putE; rw [if_neg h]
theorem putE_keys (kvs : List Ent) (k : NestedKey) (b : Addr) (v : V) : (putE kvs k b v).map (·.1) = if k ∈ kvs.map (·.1) then kvs.map (·.1) else kvs.map (·.1) ++ [k] := by
  unfold putE
  by_cases h : k ∈ kvs.map (·.1)
  · rw [if_pos h, if_pos h, List.map_map]
    refine List.map_congr_left fun x _ => ?_
    by_cases e : x.1 = k <;> simp [e]
  · rw [if_neg h, if_neg h, List.map_append]
    rfl
theorem putE_mem {kvs : List Ent} {k : NestedKey} {b : Addr} {v : V} {x : Ent} (h : x ∈ putE kvs k b v) : (∃ y ∈ kvs, y.1 = x.1 ∧ y.2.1 = x.2.1) ∨ x = (k, b, v) := by
  unfold putE at h
  by_cases hk : k ∈ kvs.map (·.1)
  · rw [if_pos hk] at h
    obtain ⟨y, hy, rfl⟩ := List.mem_map.mp h
    refine .inl ⟨y, hy, ?_⟩
    by_cases e : y.1 = k <;> simp [e]
  · rw [if_neg hk] at h
    rcases List.mem_append.mp h with h | h
    · exact .inl ⟨x, h, rfl, rfl⟩
    · exact .inr (by simpa using h)
theorem putE_len (kvs : List Ent) (k : NestedKey) (b : Addr) (v : V) : (putE kvs k b v).length ≤ kvs.length + 1 := by
  unfold putE
  split <;> simp
theorem relE_put {kvs : List Ent} {xs : List (NestedKey × Addr × Value)} (r : RelE kvs xs) (k : NestedKey) (b : Addr) {v : V} {u : Value} (rv : RelV v u) : RelE (putE kvs k b v) (storedH xs k b u) := by
  unfold putE storedH
  rw [in_keys r]
  by_cases h : k ∈ kvs.map (·.1)
  · rw [if_pos h, if_pos (decide_eq_true h)]
    clear h
    induction r with
    | nil => exact .nil
    | @cons p q ps qs h t ih =>
      refine .cons ?_ ih
      unfold putAt
      obtain ⟨p1, p2, p3⟩ := p
      obtain ⟨q1, q2, q3⟩ := q
      obtain ⟨h1, h2, h3⟩ := h
      simp only at h1 h2 h3
      subst h1 h2
      simp only
      by_cases e : p1 = k
      · rw [if_pos e, if_pos e]
        exact ⟨rfl, rfl, rv⟩
      · rw [if_neg e, if_neg e]
        exact ⟨rfl, rfl, h3⟩
  · rw [if_neg h, if_neg (by rw [decide_eq_false h]; exact Bool.false_ne_true)]
    have app : ∀ {l : List Ent} {m : List (NestedKey × Addr × Value)}, RelE l m → RelE (l ++ [(k, b, v)]) (m ++ [(k, b, u)]) := by
      intro l m q
      induction q with
      | nil => exact .cons ⟨rfl, rfl, rv⟩ .nil
      | cons h _ ih => exact .cons h ih
    exact app r
end

/-! ### readings and rules -/
def tNGet (K : PySem.W.Frag) (P : Program) (w : World) (td ty : TE) : TE := fun σ H Q => td σ H fun x H1 => ty σ H1 fun y H2 => ∃ d b k kvs q v, x = .ref d ∧ y = .ref b ∧ ND K P w H2 d kvs ∧ KeyAt K H2 k b ∧ (k, q, v) ∈ kvs ∧ Q v H2
def tNNotIn (K : PySem.W.Frag) (P : Program) (w : World) (ty td : TE) : TE := fun σ H Q => ty σ H fun y H1 => td σ H1 fun x H2 => ∃ d b k kvs, x = .ref d ∧ y = .ref b ∧ ND K P w H2 d kvs ∧ KeyAt K H2 k b ∧ Q (.bl (!decide (k ∈ kvs.map (·.1)))) H2
def sNPut (K : PySem.W.Frag) (P : Program) (w : World) (td ty tv : TE) : TS := fun D σ H => tv σ H fun v H1 => td σ H1 fun x H2 => ty σ H2 fun y H3 => ∃ d b k kvs, x = .ref d ∧ y = .ref b ∧ ND K P w H3 d kvs ∧ KeyAt K H3 k b ∧ kvs.length < sizeLine ∧
  ∀ u, ND K P w (upd H3 d u) d (putE kvs k b v) → D.nx σ (upd H3 d u)
def tNNew (K : PySem.W.Frag) (P : Program) (w : World) : TE := fun _ H Q => ∀ p u, H p = none → ND K P w (upd H p u) p [] → Q (.ref p) (upd H p u)
def tNDisp1 (K : PySem.W.Frag) (P : Program) (w : World) (ty tv : TE) : TE := fun σ H Q => ∀ p u, H p = none → ty σ (upd H p u) fun y H1 => tv σ H1 fun v H2 => H2 p = some u ∧ ∃ b k, y = .ref b ∧ KeyAt K H2 k b ∧
  ∀ u', ND K P w (upd H2 p u') p [(k, b, v)] → Q (.ref p) (upd H2 p u')
section
variable {X : Cx} {o i e value : Expr} {pos pos' tpos : Pos} {td ty tv : TE}
theorem hu8 (hu : X.A.units + 64 < cLine) : (nestedKind X.prog X.w).room X.A.in1 := by
  show X.A.in1.units + 8 < cLine
  have : X.A.in1.units ≤ X.A.units + 1 := Nat.le_refl _
  omega
theorem hu8' (hu : X.A.units + 64 < cLine) : (nestedKind X.prog X.w).room X.A := by
  show X.A.units + 8 < cLine
  omega
theorem pe_nget (hu : X.A.units + 64 < cLine) (ho : PE X o td) (hi : PE X i ty) (hs : NoSl i) : PE X (.Subscript o i pos) (tNGet X.K X.prog X.w td ty) := by
  refine ⟨fun pins s σ H Q I h => ?_⟩
  refine subD_of PySem.F.slot_dict_getitem.lookup hs (thn (ho.run pins s σ H _ I h) fun u s1 ⟨x, H1, I1, rx, q1⟩ => thn (hi.run pins s1 σ H1 _ I1 q1) fun iv s2 ⟨y, H2, I2, ry, d, b, k, kvs, q, v, ex, ey, n, ka, hm, q2⟩ => ?_)
  subst ex ey
  obtain rfl : u = Value.ref d := rx
  obtain rfl : iv = Value.ref b := ry
  obtain ⟨xs, hx, r, _⟩ := n.heap I2
  obtain ⟨j, hj⟩ := List.mem_iff_getElem?.mp hm
  obtain ⟨uv, hu1, hu2⟩ := relE_get r hj
  have hn : (xs.map (·.1)).Nodup := by rw [← relE_keys r]; exact n.nd
  exact ⟨hx.typeIs, wpAny_getItem_heap (hu8 hu) (ka.is I2) hx (atKey_of_get hn hu1) ⟨v, H2, I2.tok _, hu2, q2⟩⟩
theorem pc_nnotin (hu : X.A.units + 64 < cLine) (hi : PE X i ty) (ho : PE X o td) : PC X .NotIn i o (tNNotIn X.K X.prog X.w ty td) := by
  refine ⟨fun pins s σ H Q I h => ?_⟩
  refine thn (hi.run pins s σ H _ I h) fun iv s1 ⟨y, H1, I1, ry, q1⟩ => thn (ho.run pins s1 σ H1 _ I1 q1) fun u s2 ⟨x, H2, I2, rx, d, b, k, kvs, ex, ey, n, ka, q2⟩ => ?_
  subst ex ey
  obtain rfl : u = Value.ref d := rx
  obtain rfl : iv = Value.ref b := ry
  obtain ⟨xs, hx, r, hs⟩ := n.heap I2
  refine wpAny_notIn_heap (hu8 hu) (ka.is I2) hs hx ?_
  rw [in_keys r]
  exact ⟨.bl _, H2, I2.tok _, rfl, q2⟩
theorem ps_nput (hu : X.A.units + 64 < cLine) (ho : PE X o td) (hi : PE X i ty) (hv : PE X value tv) (hs : swapsWith value (some (.Subscript o i pos')) pos.line X.env = pure false) :
    PS X (.Assign [.Subscript o i pos'] value pos) (sNPut X.K X.prog X.w td ty tv) := by
  refine ⟨fun pins s σ H D I h => ?_⟩
  refine wpAny_Assign_Subscript (thn (hv.run pins s σ H _ I h) fun rr s1 ⟨v, H1, I1, rv, q1⟩ => thn (ho.run pins s1 σ H1 _ I1 q1) fun u s2 ⟨x, H2, I2, rx, q2⟩ => thn (hi.run pins s2 σ H2 _ I2 q2) fun iv s3 ⟨y, H3, I3, ry, d, b, k, kvs, ex, ey, n, ka, hl, q3⟩ => ?_) hs
  subst ex ey
  obtain rfl : u = Value.ref d := rx
  obtain rfl : iv = Value.ref b := ry
  obtain ⟨xs, hx, r, hsm⟩ := n.heap I3
  obtain ⟨u0, h0, hmut, ht1, ht2⟩ := n.there
  have hz : xs.length ≤ sizeLine := by rw [← Paired.length r]; exact n.len
  refine wpAny_setItem_heap (hsz := hz) (hu8 hu) (ka.is I3) hx fun h' dd' sb => ?_
  obtain ⟨od, es, ep, hod, hc, hdt, he, his, hnd⟩ := dd'
  have T : ExT H3 (upd H3 d (NDo d es ep)) := exT_upd h0 ht1 ht2
  have nd' : ND X.K X.prog X.w (upd H3 d (NDo d es ep)) d (putE kvs k b v) := {
    ex := ⟨es, ep, _, upd_same, he, relE_put r k b rv⟩
    nd := by rw [relE_keys (relE_put r k b rv)]; exact hnd
    key := fun x hx => by
      rcases putE_mem hx with ⟨y, hy, e1, e2⟩ | rfl
      · have := (n.key y hy).monoT T
        rw [e1, e2] at this
        exact this
      · exact ka.monoT T
    len := by have := putE_len kvs k b v; omega }
  have I4 := d_write (t' := s3.toks + (nestedKind X.prog X.w).draws k) (ob := NDo d es ep) I3 (by rw [h0]; exact hmut) sb ⟨od, hod⟩ (ndo_ok hsm ⟨od, hod, hc, hdt⟩)
  exact ⟨σ, _, I4, q3 _ nd'⟩
theorem nd_empty {K : PySem.W.Frag} {P : Program} {w : World} {H : Hp} {p : Addr} : ND K P w (upd H p (NDo p #[] 0)) p [] where
  ex := ⟨#[], 0, [], upd_same, rfl, .nil⟩
  nd := List.nodup_nil
  key := fun _ h => nomatch h
  len := Nat.zero_le _
theorem ndo_new {P : Program} {w : World} {H : Hp} (h : Heap) (hb : sysModules < h.objs.size) : ObjOk P w H (h.push { cls := .type "dict", data := .dict #[] }) h.objs.size (NDo h.objs.size #[] 0) :=
  ndo_ok (beq_eq_false_iff_ne.mpr (Ne.symm (Nat.ne_of_lt hb))) ⟨_, Heap.get?_push_size _ rfl, ⟨rfl, rfl, rfl⟩, rfl⟩
theorem pe_nnew : PE X (.Dict [] [] pos) (tNNew X.K X.prog X.w) := ⟨fun pins s σ H Q I h =>
  wpAny_Dict_empty ⟨.ref s.heap.objs.size, _, I.laid (a := s.heap.objs.size) (o := NDo s.heap.objs.size #[] 0) (t' := s.toks) (fun _ _ q => Heap.get?_push_of_some _ q) (Nat.le_refl _) (ndo_new s.heap I.big), rfl, h _ _ (I.hok.fresh (Nat.le_refl _)) nd_empty⟩⟩
theorem pe_ndisp1 {ke ve : Expr} (hu : X.A.units + 64 < cLine) (hk : PE X ke ty) (hv : PE X ve tv)
    (hshape : (evalEachOpt [some ke] X.env).zip ((evalEach [ve] X.env).map fun v => do let x ← v; standAt pos; pure x) = (pairTrees [some ke] [ve] X.env pos).map fun p => (some p.1, p.2) := by rfl) : PE X (.Dict [some ke] [ve] pos) (tNDisp1 X.K X.prog X.w ty tv) := by
  refine ⟨fun pins s σ H Q I q => ?_⟩
  have hn := I.hok.fresh (Nat.le_refl s.heap.objs.size)
  have I1 := I.laid (a := s.heap.objs.size) (o := NDo s.heap.objs.size #[] 0) (h' := s.heap.push { cls := .type "dict", data := .dict #[] }) (t' := s.toks) (fun _ _ q => Heap.get?_push_of_some _ q) (Nat.le_refl _) (ndo_new s.heap I.big)
  rw [arm_eval_Dict, hshape, dictDisplay_pairs _ (by simp [pairTrees]) (by simp [pairTrees])]
  refine wpAny_bind (wpAny_standAt (wpAny_bind (wpAny_subDictH (knd := nestedKind X.prog X.w) (Q := fun d s' => wpAny (model X.prog X.w) X.A (pure (Value.ref d)) (EP X pins σ Q) X.xe s') (hu8' hu) (by simp [pairTrees])
    (pairTrees_cons_walk (thn (hk.run pins _ σ _ _ I1 (q _ _ hn)) fun kv s2 ⟨y, H2, I2, ry, q2⟩ => thn (hv.run pins s2 σ H2 _ I2 q2) fun vv s3 ⟨v, H3, I3, rv, hp, b, k, ey, ka, q3⟩ => pairTrees_nil_walk ?_)))))
  subst ey
  obtain rfl : kv = Value.ref b := ry
  obtain ⟨⟨hsm, o, ho, hc, hd⟩, _⟩ := (show ObjOk X.prog X.w H3 s3.heap s.heap.objs.size (NDo s.heap.objs.size #[] 0) from I3.hok _ _ hp)
  refine ⟨[(k, b, vv)], ⟨rfl, rfl, ka.is I3, trivial⟩, ⟨o, #[], 0, ho, hc, hd, rfl, (by intro x hx; cases hx), List.nodup_nil⟩, fun h' tk dd' sb => ?_⟩
  obtain ⟨od, es, ep, hod, hc', hdt, he, his, hnd⟩ := dd'
  have T : ExT H3 (upd H3 s.heap.objs.size (NDo s.heap.objs.size es ep)) := exT_upd hp (fun _ z => nomatch z) (fun _ _ z => nomatch z)
  have I4 := d_write (t' := tk) (ob := NDo s.heap.objs.size es ep) I3 (by rw [hp]; exact trivial) sb ⟨od, hod⟩ (ndo_ok hsm ⟨od, hod, hc', hdt⟩)
  refine wpAny_pure ⟨.ref _, _, I4, rfl, q3 _ {
    ex := ⟨es, ep, [(k, b, vv)], upd_same, he, .cons ⟨rfl, rfl, rv⟩ .nil⟩
    nd := by simp
    key := fun x hx => by
      obtain rfl : x = (k, b, v) := by simpa using hx
      exact ka.monoT T
    len := by show 1 ≤ sizeLine; decide }⟩
end

/-! ### walked -/
def Itn (d : Addr) (es : Array DictEntry) (ep : Nat) (qs : List Addr) : It :=
  ⟨fun i H => H d = some (NDo d es ep) ∧ i < qs.length, fun i H x H' => H' = H ∧ ∃ q, qs[i]? = some q ∧ x = .ref q, fun i H => H d = some (NDo d es ep) ∧ qs.length ≤ i⟩
theorem turn_n {P : Program} {w : World} {K : PySem.W.Frag} {tg : Expr} {d : Addr} {es : Array DictEntry} {ep : Nat} {qs : List Addr} (it : Addr) (hl : es.size = qs.length) (hq : ∀ (i : Nat) (q : Addr), qs[i]? = some q → ∃ en : DictEntry, es[i]? = some en ∧ en.key = Value.ref q) :
    Turn P w K tg (Itn d es ep qs) [it] it (fun i h => h.IsKeyIter it d i es.size ep) where
  mem := by simp
  obj := fun i h st b hb => by
    have e : b = it := by simpa using hb
    subst e
    obtain ⟨oi, e, c, dd⟩ := st
    exact ⟨oi, e, fun v z => by rw [dd] at z; cases z⟩
  keep := fun i h h' st k => st.at fun oi e => k it (by simp) oi e
  item := by
    intro X hP hw hK hc i pins s σ H E I hf st hg
    subst hP hw hK
    obtain ⟨hd, hi⟩ := hg
    obtain ⟨f0, f1, f2, f3, f4, f5⟩ := hf it (by simp)
    obtain ⟨⟨hs, hraw⟩, _⟩ := (show ObjOk X.prog X.w H s.heap d (NDo d es ep) from I.hok d _ hd)
    obtain ⟨q, hqi⟩ : ∃ p, qs[i]? = some p := ⟨qs[i], List.getElem?_eq_getElem hi⟩
    obtain ⟨en, hen, hkey⟩ := hq i q hqi
    refine wpAny_pyNext_keys_item_raw st hraw (by omega) fun h' st' sb => ?_
    have I1 : Inv X pins σ H { s with heap := h' } := I.turned (t' := s.toks) (fun b ob hb e => (sb.2 b hb).trans e) f0 f1 f3 f4 f5
    obtain ⟨oi, e, c, dd⟩ := id st'
    have ek : es[i].key = .ref q := by
      rw [Array.getElem?_eq_getElem (by omega)] at hen
      rw [Option.some.inj hen]
      exact hkey
    exact ⟨_, rfl, go_of (s := { s with heap := h' }) e c dd (by decide) ⟨.ref q, H, I1, ek, ⟨rfl, q, hqi, rfl⟩, st', fun b hb => (hf b hb).1⟩⟩
  done := by
    intro X hP hw hK hc i pins s σ H E I hf st hg
    subst hP hw hK
    obtain ⟨hd, hi⟩ := hg
    obtain ⟨f0, f1, f2, f3, f4, f5⟩ := hf it (by simp)
    obtain ⟨⟨hs, hraw⟩, _⟩ := (show ObjOk X.prog X.w H s.heap d (NDo d es ep) from I.hok d _ hd)
    exact wpAny_pyNext_keys_end_raw (I.ok.hd hc) st hraw (by omega) fun h' eb => ⟨rfl, I.turned (t' := s.toks) (fun b ob hb e => eb b ob hb e) f0 f1 f3 f4 f5⟩
  self := fun A i s Q E st h => by
    refine wpAny_pyIter_slot st.typeIs F.slot_dict_keyiterator_iter (wpAny_call_entry F.slot_dict_keyiterator_iter st.typeIs F.entry_dict_keyiterator_iter ?_ (F.args_dict_keyiterator_iter_1 _))
    show wpAny _ _ (ret (.ref it)) _ _ s
    exact wpAny_pure ⟨_, rfl, "dict_keyiterator", _, st.typeIs, F.slot_dict_keyiterator_next.lookup, h⟩
def iNKeys (K : PySem.W.Frag) (P : Program) (w : World) (td : TE) : TI := fun σ H R => td σ H fun x H1 => ∃ d kvs, x = .ref d ∧ ND K P w H1 d kvs ∧ ∀ es ep, H1 d = some (NDo d es ep) → R (Itn d es ep (kvs.map fun e => e.2.1)) H1
theorem pi_nkeys {X : Cx} {tg e : Expr} {td : TE} (he : PE X e td) : PI X tg e (iNKeys X.K X.prog X.w td) := by
  refine ⟨fun pins s σ H R I h => ?_⟩
  refine thn (he.run pins s σ H _ I h) fun v s1 ⟨x, H1, I1, r1, d, kvs, ex, n, q⟩ => ?_
  subst ex
  obtain rfl : v = Value.ref d := r1
  obtain ⟨es, ep, xs, hd, hes, r⟩ := n.ex
  obtain ⟨⟨hs, hraw⟩, _⟩ := (show ObjOk X.prog X.w H1 s1.heap d (NDo d es ep) from I1.hok d _ hd)
  have l1 : es.size = xs.length := size_of_entries hes
  have l2 := Paired.length r
  refine wpAny_pyIter_dict_raw hs hraw (pi_one (tk := s1.toks) I1 _ (turn_n (es := es) (qs := kvs.map fun e => e.2.1) _ (by rw [List.length_map]; omega) fun i q hq => ?_) ⟨_, Heap.get?_push_size _ rfl, rfl, rfl⟩ (q es ep hd))
  rw [List.getElem?_map] at hq
  cases hk : kvs[i]? with
  | none => rw [hk] at hq; cases hq
  | some y =>
    rw [hk] at hq
    obtain ⟨k, b, v⟩ := y
    obtain rfl : b = q := Option.some.inj hq
    obtain ⟨u, hu, _⟩ := relE_get r hk
    have := entry_at hes i
    rw [hu] at this
    exact ⟨_, this, rfl⟩
theorem walk_n {K : PySem.W.Frag} {d : Addr} {es : Array DictEntry} {ep : Nat} {qs : List Addr} : Walk (Itn d es ep qs) qs.length (fun H => H d = some (NDo d es ep)) (fun i H x H' => H' = H ∧ ∃ q, qs[i]? = some q ∧ x = .ref q) :=
  ⟨fun i H hi h => ⟨h, hi⟩, fun H h => ⟨h, Nat.le_refl _⟩, fun i H x H' _ _ y => y⟩

/-! ### d != {} -/
theorem same_empty {prog : Program} {w : World} {A : Around} {E : Value → Shared → Prop} {s : Shared} {id : String} {a b : Addr} {es es' : Array DictEntry} {ep ep' : Nat} {Q : Bool → Shared → Prop} (ha : (a == sysModules) = false) (hb : (b == sysModules) = false)
    (ra : s.heap.DictRaw a es ep) (rb : s.heap.DictRaw b es' ep') (h0 : es'.size = 0) (h : Q (decide (es.size = 0)) s) : wpAny (model prog w) A (Builtin.Dict.samePairs id a b) Q E s := by
  obtain ⟨oa, hoa, hca, hda⟩ := ra
  obtain ⟨ob, hob, hcb, hdb⟩ := rb
  unfold Builtin.Dict.samePairs Builtin.Dict.showsAll
  rw [if_neg (show ¬ (a == sysModules) = true by rw [ha]; exact Bool.false_ne_true), if_neg (show ¬ (b == sysModules) = true by rw [hb]; exact Bool.false_ne_true)]
  refine wpAny_bind (wpAny_pure (wpAny_bind (wpAny_pure ?_)))
  refine wpAny_bind (wpAny_dictEntries hoa hda ?_)
  dsimp only
  refine wpAny_bind (wpAny_dictEntries hob hdb ?_)
  by_cases hsz : es.size = es'.size
  case neg =>
    rw [if_pos (by simpa using hsz)]
    rw [decide_eq_false (by omega)] at h
    exact wpAny_bind (wpAny_rule (wpAny_pure h))
  case pos =>
    rw [decide_eq_true (by omega)] at h
    rw [if_neg (by rw [hsz]; simp)]
    refine wpAny_bind (wpAny_dictEpoch hoa hda ?_)
    refine wpAny_bind ?_
    rw [Std.Legacy.Range.forIn_eq_forIn_range']
    simp only [Std.Legacy.Range.size, Nat.sub_zero, Nat.add_sub_cancel, Nat.div_one]
    rw [show es.size = 0 by omega]
    exact wpAny_pure (wpAny_pure h)
theorem ne_empty {prog : Program} {w : World} {A : Around} {E : Value → Shared → Prop} {s : Shared} {a b : Addr} {es es' : Array DictEntry} {ep ep' : Nat} {Q : Value → Shared → Prop} (ha : (a == sysModules) = false) (hb : (b == sysModules) = false)
    (ra : s.heap.DictRaw a es ep) (rb : s.heap.DictRaw b es' ep') (h0 : es'.size = 0) (hu : A.units < cLine) (h : Q (.bool (!decide (es.size = 0))) s) : wpAny (model prog w) A (compareOp .NotEq (.ref a) (.ref b)) Q E s := by
  refine wpAny_richCompare_same_room (op := .NotEq) ra.typeIs rb.typeIs PySem.F.slot_dict_ne (wpAny_call_entry PySem.F.slot_dict_ne ra.typeIs PySem.F.entry_dict_ne ?_ (PySem.F.args_dict_ne_2 _ _)) hu
  show wpAny _ _ (Builtin.Dict.dictSlotArgs "__ne__" ⟨[.ref a, .ref b], []⟩ >>= _) _ _ s
  refine wpAny_bind ?_
  unfold Builtin.Dict.dictSlotArgs
  refine wpAny_bind (wpAny_notOrdered_dict ra.typeIs ?_)
  show wpAny _ _ (pure (Value.ref a, Value.ref b)) _ _ s
  refine wpAny_pure ?_
  refine wpAny_bind (wpAny_isInstance (T := "dict") rb.typeIs PySem.F.sub_dict_dict ?_)
  simp only [Bool.not_true, Bool.false_eq_true, if_false]
  refine wpAny_bind (wpAny_pure (wpAny_bind (wpAny_pure ?_)))
  refine wpAny_bind (same_empty ha hb ra rb h0 ?_)
  refine wpAny_pure ⟨_, rfl, ?_, ?_⟩
  · exact fun x => nomatch x
  · simpa using h
def rNNe (K : PySem.W.Frag) (P : Program) (w : World) : R2 := fun x y H Q => ∃ d e kvs, x = .ref d ∧ y = .ref e ∧ ND K P w H d kvs ∧ ND K P w H e [] ∧ Q (.bl (!kvs.isEmpty)) H
theorem op_nne {X : Cx} (hu : X.A.units + 64 < cLine) : OpR X (compareOp .NotEq) (rNNe X.K X.prog X.w) := by
  intro pins s σ H x y v u Q I rx ry h
  obtain ⟨d, e, kvs, rfl, rfl, n, m, q⟩ := h
  obtain rfl : v = Value.ref d := rx
  obtain rfl : u = Value.ref e := ry
  obtain ⟨es, ep, xs, hd, hes, r⟩ := n.ex
  obtain ⟨es', ep', xs', hd', hes', r'⟩ := m.ex
  obtain ⟨⟨hs, hraw⟩, _⟩ := (show ObjOk X.prog X.w H s.heap d (NDo d es ep) from I.hok d _ hd)
  obtain ⟨⟨hs', hraw'⟩, _⟩ := (show ObjOk X.prog X.w H s.heap e (NDo e es' ep') from I.hok e _ hd')
  have l1 : es.size = xs.length := size_of_entries hes
  have l1' : es'.size = xs'.length := size_of_entries hes'
  have l2 := Paired.length r
  have l2' := Paired.length r'
  refine ne_empty hs hs' hraw hraw' (by rw [l1', ← l2']; rfl) (by omega) ⟨.bl (!kvs.isEmpty), H, I, ?_, q⟩
  have : decide (es.size = 0) = kvs.isEmpty := by
    rw [l1, ← l2]
    cases kvs <;> simp
  rw [this]
  rfl
end Wk

set_option maxHeartbeats 200000
set_option Elab.async false
set_option linter.all false
set_option maxRecDepth 100000
set_option maxHeartbeats 1000000
/-! WrX: further rules: enumerate of a tuple, max(d.values()), a tuple among tuples. -/
namespace PySem
open Sem (wp)
open AutoSeq1 (wpAny_loadPart')
theorem wr_meets_enumT (l : Addr) (items : Array Value) (n : Nat) (dct : Option Addr) (sl : Array (Option Value)) :
    Meets (Builtin.«enumerate.__new__» ⟨[.type "enumerate", .ref l], []⟩) (fun _ R s => s.heap.get? l = some { cls := .type "tuple", dict := dct, data := .seq items n, slots := sl } ∧
      R (.ok (.ret (.ref (s.heap.push { cls := .type "tuple_iterator", data := .fields #[.ref l, .int 0 0] }).objs.size)))
        { s with heap := (s.heap.push { cls := .type "tuple_iterator", data := .fields #[.ref l, .int 0 0] }).push { cls := .type "enumerate", data := .fields #[.none, .bool false, .ref s.heap.objs.size, rawInt 0, .none, .none] } }) :=
  .of_wp fun prog w A R s h => by
    obtain ⟨hp, g, d, tk, os⟩ := s; obtain ⟨hl, h⟩ := h
    have hsub := sub_enumerate
    have hL : Heap.IsTuple (Shared.heap ⟨hp, g, d, tk, os⟩) l items := ⟨_, hl, rfl, n, rfl⟩
    wp_walk using wpAny_loadPart' hl
    refine wpAny_stack_any fun st => wpAny_pure ?_
    split
    · rename_i c _ _ _ _ _
      cases (c == Value.type "enumerate")
      · wp_walk using wpAny_loadPart' hl, wpAny_pyIter_tuple hL
        exact ⟨_, rfl, h⟩
      · wp_walk using wpAny_loadPart' hl, wpAny_pyIter_tuple hL
        exact ⟨_, rfl, h⟩
    · wp_walk using wpAny_loadPart' hl, wpAny_pyIter_tuple hL
      exact ⟨_, rfl, h⟩
section
variable {prog : Program} {w : World} {A : Around} {E : Value → Shared → Prop} {s : Shared}
theorem wr_call_enumT {l : Addr} {items : Array Value} {Q : Value → Shared → Prop} (hL : s.heap.IsTuple l items)
    (h : ∀ h', IsEnum h' (s.heap.objs.size + 1) s.heap.objs.size 0 .none → h'.IsTupleIter s.heap.objs.size l 0 → h'.objs.size = s.heap.objs.size + 2 →
      (∀ b o, s.heap.get? b = some o → h'.get? b = some o) → Q (.ref (s.heap.objs.size + 1)) { s with heap := h' }) :
    wpAny (model prog w) A (call (.type "enumerate") [.ref l]) Q E s := by
  obtain ⟨⟨c, dct, dt, sl⟩, hl, hc, n, hd⟩ := hL
  replace hc : c = .type "tuple" := hc
  replace hd : dt = .seq items n := hd
  subst hc hd
  refine callType_new F.called_enumerate (by decide) (F.typeCall_enumerate_1 _) (F.newCall_enumerate_1 _) (fun obj => F.args_object_init_2 obj _) F.entry_enumerate_new
    (wr_meets_enumT l items n dct sl) ⟨hl, ?_⟩
  have hz : (s.heap.push { cls := .type "tuple_iterator", data := .fields #[.ref l, .int 0 0] }).objs.size = s.heap.objs.size + 1 := Heap.size_push ..
  show _ ∧ _
  rw [hz]
  have he : IsEnum ((s.heap.push { cls := .type "tuple_iterator", data := .fields #[.ref l, .int 0 0] }).push
      { cls := .type "enumerate", data := .fields #[.none, .bool false, .ref s.heap.objs.size, rawInt 0, .none, .none] }) (s.heap.objs.size + 1) s.heap.objs.size 0 .none := by
    have := Heap.get?_push_size (s.heap.push { cls := .type "tuple_iterator", data := .fields #[.ref l, .int 0 0] })
      (o := { cls := .type "enumerate", data := .fields #[.none, .bool false, .ref s.heap.objs.size, rawInt 0, .none, .none] }) rfl
    rw [hz] at this; exact this
  refine ⟨⟨_, he, rfl⟩, h _ he ⟨_, Heap.get?_push_of_some _ (Heap.get?_push_size _ rfl), rfl, rfl⟩ (by rw [Heap.size_push, hz]) fun b o x => Heap.get?_push_of_some _ (Heap.get?_push_of_some _ x)⟩
end
end PySem
namespace Wk
open PySem PySem.Spec PyProof.Rows L2 Evl

/-! ### enumerate(tuple) -/
def Itet (K : PySem.W.Frag) (a : Addr) : It :=
  ⟨fun i H => ∃ (xs : List V) (x : V), SqT K H a xs ∧ xs[i]? = some x, fun i H v H' => ∃ T x, v = .ref T ∧ H T = none ∧ H' = upd H T (.tup [.int (i : Nat), x]) ∧ ∀ xs, SqT K H a xs → xs[i]? = some x, fun i H => ∃ xs : List V, SqT K H a xs ∧ xs.length ≤ i⟩
theorem turn_enumT {P : Program} {w : World} {K : PySem.W.Frag} {elts : List Expr} {kk : Nat} {tpos : Pos} (a e it : Addr) :
    Turn P w K (.Tuple elts kk tpos) (Itet K a) [e, it] e (fun i h => (∃ old, IsEnum h e it ((i : Nat) : Int) old) ∧ h.IsTupleIter it a i ∧ e ≠ it) where
  mem := by simp
  obj := fun i h st b hb => by
    obtain ⟨⟨old, he⟩, ⟨o, ho, hc, hd⟩, _⟩ := st
    have e' : b = e ∨ b = it := by simpa using hb
    rcases e' with z | z
    · rw [z]; exact ⟨_, he, fun v q => nomatch q⟩
    · rw [z]; exact ⟨o, ho, fun v q => by rw [hd] at q; cases q⟩
  keep := fun i h h' st k => let ⟨⟨old, he⟩, hi, hne⟩ := st; ⟨⟨old, k e (by simp) _ he⟩, hi.at fun o q => k it (by simp) o q, hne⟩
  item := by
    intro X hP hw hK hc i pins s σ H E I hf st hg
    subst hP hw hK
    obtain ⟨⟨old, he⟩, hit, hne⟩ := st
    obtain ⟨xs, x, hq, hx⟩ := hg
    obtain ⟨its, rv, p, hz⟩ := I.tuple hq
    have pt : s.heap.IsTuple a its.toArray := p
    obtain ⟨u, hu, ru⟩ := rv.get hx
    have hel : e < s.heap.objs.size := Heap.lt_size he
    have hil : it < s.heap.objs.size := by obtain ⟨_, q, _⟩ := hit; exact Heap.lt_size q
    have hta : a ≠ it := by
      obtain ⟨o1, h1, h2, h3⟩ := hit
      obtain ⟨o2, h4, h5, _⟩ := pt
      rintro rfl
      rw [h1] at h4
      cases h4
      rw [h2] at h5
      exact absurd h5 (by decide)
    have hea : e ≠ a := by
      obtain ⟨o2, h4, h5, _⟩ := pt
      rintro rfl
      have he' : s.heap.get? e = some _ := he
      rw [he'] at h4
      cases h4
      have h6 : Value.type "enumerate" = Value.type "tuple" := h5
      exact absurd h6 (by decide)
    have hlen : i < its.toArray.size := by
      have := (List.getElem?_eq_some_iff.mp hu).1
      simpa using this
    refine wpAny_pyNext_enum_itemD (Draws.tuple (prog := X.prog) (w := X.w) (A := X.A.in1) (I.ok.hd hc) it a hta its.toArray) he ⟨hit, pt⟩ hlen hne (by simp [hne, hea]) fun y h' tk hP ho hst' hT hsz hk => ?_
    have ey : y = u := by
      have hP' : its.toArray[i]? = some y := hP
      rw [show its.toArray[i]? = its[i]? by simp, hu] at hP'
      exact (Option.some.inj hP').symm
    subst ey
    refine ⟨_, rfl, wpAny_letOwnedTupleGo_enum (s := { s with heap := h', toks := tk + 1 }) ho fun h'' he' sb => ?_⟩
    have hT2 : h''.get? s.heap.objs.size = some { cls := .type "tuple", data := .seq #[.int i tk, y] } := (sb.2 _ (Nat.ne_of_gt hel)).trans hT
    have new : ObjOk X.prog X.w (upd H s.heap.objs.size (.tup [.int (i : Nat), x])) h'' s.heap.objs.size (.tup [.int (i : Nat), x]) :=
      ⟨by show 2 ≤ sizeLine; decide, [.int i tk, y], .cons ⟨_, rfl⟩ (.cons ru .nil), ⟨_, hT2, rfl, _, rfl⟩⟩
    have I1 : Inv X pins σ (upd H s.heap.objs.size (.tup [.int (i : Nat), x])) { s with heap := h'', toks := tk + 1 } :=
      I.turnedNew (ch := [e, it]) (fun b ob hb q => (sb.2 b (fun z => hb (by simp [z]))).trans (hk b ob (fun z => hb (by simp [z])) (fun z => hb (by simp [z])) q)) hf (Nat.le_refl _) new
    refine ⟨.ref s.heap.objs.size, _, I1, rfl, ⟨_, x, rfl, I.hok.fresh (Nat.le_refl _), rfl, fun ys hy => by rw [I.tuple_inj hy hq]; exact hx⟩, ⟨⟨y, ?_⟩, hst'.1.at fun o q => (sb.2 it (Ne.symm hne)).trans q, hne⟩, fun b hb => ?_⟩
    · have e1 : ((i + 1 : Nat) : Int) = (i : Int) + 1 := by omega
      rw [e1]; exact he'
    · have hb' : b < s.heap.objs.size := by
        have e' : b = e ∨ b = it := by simpa using hb
        rcases e' with z | z
        · rw [z]; exact hel
        · rw [z]; exact hil
      rw [upd_ne (Nat.ne_of_lt hb')]
      exact (hf b hb).1
  done := by
    intro X hP hw hK hc i pins s σ H E I hf st hg
    subst hP hw hK
    obtain ⟨⟨old, he⟩, hit, hne⟩ := st
    obtain ⟨xs, hq, hx⟩ := hg
    obtain ⟨its, rv, p, hz⟩ := I.tuple hq
    have pt : s.heap.IsTuple a its.toArray := p
    obtain ⟨f0, f1, f2, f3, f4, f5⟩ := hf it (by simp)
    have hl := rv.length
    have D : Draws X.prog X.w X.A.in1 it [it, a] 0 (fun _ _ => False) (fun _ h => h.IsTupleIter it a i ∧ h.IsTuple a its.toArray) := {
      live := fun _ _ st => let ⟨o, ho, _⟩ := st.1; ⟨o, ho⟩
      frame := fun _ _ _ st hk => ⟨st.1.at fun o e => hk it (by simp) o e, st.2.at fun o e => hk a (by simp) o e⟩
      item := fun j s Q E hi => absurd hi (Nat.not_lt_zero _)
      done := fun s Q E st hE => wpAny_nextOf_tuple_end (I.ok.hd hc) st.1 st.2 (by simp; omega) hE }
    exact wpAny_pyNext_enum_endD D he ⟨hit, pt⟩ fun h' eb => ⟨rfl, I.turned (t' := s.toks) (fun b o hb q => eb b o hb q) f0 f1 f3 f4 f5⟩
  self := fun A i s Q E st h => let ⟨⟨_, he⟩, _⟩ := st; wpAny_pyIter_enum he h
def iEnumT (K : PySem.W.Frag) (ta : TA) : TI := fun σ H R => ta σ H fun vs H1 => ∃ a xs, vs = [.ref a] ∧ SqT K H1 a xs ∧ R (Itet K a) H1
theorem pi_enumT {X : Cx} {e : Expr} {ta : TA} {p pos tpos : Pos} {elts : List Expr} {kk : Nat} (hg : Gl X "enumerate") (hm : X.mg "enumerate" = none) (ha : PA X [e] ta) (hs : starEach [e] X.env = [(false, eval e X.env)] := by rfl) :
    PI X (.Tuple elts kk tpos) (.Call (.Name "enumerate" p) [e] [] pos) (iEnumT X.K ta) := by
  refine ⟨fun pins s σ H R I h => ?_⟩
  refine Call_ (ld_blt I hg hm boot_enumerate (PyProof.Rows.callWith_type1 (thn (ha.run pos pins s σ H _ I h) fun us s1 ⟨vs, H1, I1, r1, q1⟩ => ?_) hs rfl))
  obtain ⟨a, xs, ex, hq, q⟩ := q1
  subst ex
  cases r1 with
  | cons r rr =>
    cases rr
    cases r
    obtain ⟨its, rv, p', hz⟩ := I1.tuple hq
    refine wr_call_enumT (show s1.heap.IsTuple a its.toArray from p') fun h' he hit hsz hk => wpAny_pyIter_enum he ?_
    have I2 : Inv X pins σ H1 { s1 with heap := h' } := I1.kept (t' := s1.toks) hk
    refine ⟨s1.heap.objs.size + 1, [s1.heap.objs.size + 1, s1.heap.objs.size], _, _, H1, rfl, I2, turn_enumT a (s1.heap.objs.size + 1) s1.heap.objs.size, ⟨⟨.none, he⟩, hit, Nat.succ_ne_self _⟩, fun b hb => ?_, q⟩
    have e' : b = s1.heap.objs.size + 1 ∨ b = s1.heap.objs.size := by simpa using hb
    have hle : s1.heap.objs.size ≤ b := by
      rcases e' with z | z
      · rw [z]; exact Nat.le_add_right _ _
      · rw [z]; exact Nat.le_refl _
    exact I1.fpOk hle (I1.hok.fresh hle)
theorem walk_enumT {K : PySem.W.Frag} {a : Addr} {xs : List V} : Walk (Itet K a) xs.length (fun H => SqT K H a xs) (YPair (fun i => some (.int (i : Nat))) (fun i => xs[i]?)) :=
  ⟨fun i H hi q => ⟨xs, xs[i], q, List.getElem?_eq_getElem hi⟩, fun H q => ⟨xs, q, Nat.le_refl _⟩, fun i H v H' _ q y => by
    obtain ⟨T, x, rfl, hT, rfl, h⟩ := y
    exact ⟨T, _, x, rfl, hT, rfl, rfl, h xs q⟩⟩
theorem src_enumT {K : PySem.W.Frag} {tr : TA} {σ : L2.St} {H : Hp} {i j : Nat} {ds : List PyData} (h : EvAS K tr σ H [.d (.tuple ds)]) (hn : noLs ds = true) :
    Src K (iEnumT K tr) (gTup K 2 (gCons (gName i) (gCons (gName j) gNil))) [i, j] σ H ((ds.zipIdx).map fun p => [.d (.int (p.2 : Nat)), .d p.1]) ExT := by
  refine ⟨fun _ _ e => exT_of e, fun ls h => ?_, fun H1 e R r => h H1 e _ fun us H2 e2 hus => ?_⟩
  · obtain ⟨d, _, rfl⟩ := List.mem_map.mp h
    rfl
  · obtain ⟨u, rfl, hu⟩ := hda_one hus
    obtain ⟨a, xs, rfl, ht, hd⟩ := dp_tup hu
    refine ⟨a, xs, rfl, ht, r _ H2 _ _ e2 (by rw [List.length_map, List.length_zipIdx, ← dpa_length hd]; exact walk_enumT) (fun H' k => exT_sq k ht) fun k ls x H' H'' hi kk y => ?_⟩
    obtain ⟨T, x1, y1, rfl, nT, rfl, hx, hy⟩ := y
    obtain rfl : V.int (k : Nat) = x1 := Option.some.inj hx
    obtain ⟨d, hd1, hd2⟩ := dpa_at (dpa_monoT kk _ hn hd) hy
    rw [List.getElem?_map, List.getElem?_zipIdx, hd1] at hi
    have hi : some [Sl.d (.int ((0 + k : Nat))), .d d] = some ls := hi
    rw [Nat.zero_add] at hi
    obtain rfl := Option.some.inj hi
    exact ⟨Ex.new nT, gives_two (.tup (.of upd_same) (.cons (.int _) (.cons (dp_mono (Ex.new nT) _ hd2) .nil)))⟩

/-! ### max(d.values()) -/
def tMaxVals (te : TE) : TE := fun σ H Q => te σ H fun x H1 => ∃ (d : Addr) (kvs : List (Key × V)) (is : List Int), x = .ref d ∧ H1 d = some (.dK kvs) ∧ kvs.map (·.2) = is.map V.int ∧ is ≠ [] ∧ Q (.int (lmax is)) H1
theorem kv_vals : ∀ {kvs : List (Key × V)} {vs : List (Key × Value)} {i : Nat} {k : Key} {u : Value}, KV kvs vs → vs[i]? = some (k, u) → ∃ v, (kvs.map (·.2))[i]? = some v ∧ RelV v u
  | _, _, _, _, _, .nil, e => by simp at e
  | _, _, 0, _, _, .cons r _, e => by
    simp at e
    subst e
    exact ⟨_, rfl, r.2⟩
  | _, _, i + 1, _, _, .cons _ t, e => by
    obtain ⟨v, h1, h2⟩ := kv_vals (i := i) t (by simpa using e)
    exact ⟨v, by simpa using h1, h2⟩
theorem pe_maxVals {X : Cx} {e : Expr} {te : TE} {p apos cpos pos : Pos} (hc : X.calm = true) (he : PE X e te) (hg : Gl X "max") (hm : X.mg "max" = none) (hv : bootBuiltins "max" = some (.builtin "max")) (hbase : attributeBase e "values" X.env (eval e X.env) = eval e X.env := by rfl) (hline : (apos.endLine == cpos.line) = true := by rfl)
    (hs : starEach [.Call (.Attribute e "values" apos) [] [] cpos] X.env = (false, eval (.Call (.Attribute e "values" apos) [] [] cpos) X.env) :: starEach [] X.env := by rfl) :
    PE X (.Call (.Name "max" p) [.Call (.Attribute e "values" apos) [] [] cpos] [] pos) (tMaxVals te) := by
  refine ⟨fun pins s σ H Q I hq => ?_⟩
  refine wpAny_Call_Name_kw (ld_blt I hg hm hv ?_)
  refine PyProof.Rows.callWith_builtin1 ?_ hs rfl
  rw [hs]
  show wpAny _ _ (spliced ((false, eval (.Call (.Attribute e "values" apos) [] [] cpos) X.env) :: backTo pos (starEach [] X.env))) _ _ s
  refine Calls.spliced_cons ?_
  refine wpAny_Call_method (T := "dict") (id := "dict.values") hbase rfl hline F.plainAttrs_dict F.slot_dict_values F.type_dict_values (thn (he.run pins s σ H _ I hq) fun u s1 ⟨x, H1, I1, rx, d, kvs, is, ex, hd, hvs, hne, q⟩ => ?_)
  subst ex
  obtain rfl : u = Value.ref d := rx
  obtain ⟨hz, hs0, vs, kv, hdo⟩ := I1.hok d _ hd
  obtain ⟨ep, hat⟩ := hdo.dictAt
  have lk : kvs.length = vs.length := Paired.length kv
  have I2 : Inv X pins σ H1 { s1 with heap := s1.heap.push { cls := .type "dict_values", data := .fields #[.ref d] } } := I1.kept (t' := s1.toks) fun b ob q => Heap.get?_push_of_some _ q
  refine ⟨hdo.typeIs, hdo.mapOf.noDict, ?_⟩
  show wpAny _ _ (callWith cpos (.builtin "dict.values") [.ref d] [] []) _ X.xe s1
  refine method_meetsIn F.slot_dict_values F.entry_dict_values rfl (PySem.evalArgs_none ⟨rfl, hdo.typeIs, F.args_dict_values_1 _, _, meets_dict_values (mixKind X.prog X.w) d hs0, ⟨vs, hdo⟩, ?_⟩)
  refine Calls.spliced_nil ?_
  have hdl : d < s1.heap.objs.size := hat.lt_size
  have hlv : vs.length = is.length := by
    have e1 := congrArg List.length hvs
    rw [List.length_map, List.length_map] at e1
    omega
  have hval : ∀ (i : Nat) (v : Value), (∃ k, vs[i]? = some (k, v)) → ∃ t, v = Value.int (is.getD i 0) t := fun i v ⟨k, hk⟩ => by
    obtain ⟨z, hz1, hz2⟩ := kv_vals kv hk
    rw [hvs, List.getElem?_map] at hz1
    obtain ⟨j, hj, rfl⟩ := Option.map_eq_some_iff.mp hz1
    obtain ⟨t, rfl⟩ := hz2
    exact ⟨t, by rw [List.getD_eq_getElem?_getD, hj]; rfl⟩
  have hlen : 0 < vs.length := by rw [hlv]; exact List.length_pos_iff.mpr hne
  refine call_max_walk (wpAny_pyIter_values (d := d) (knd := mixKind X.prog X.w) ⟨_, Heap.get?_push_size _ rfl, rfl, rfl⟩ (hat.push _) ?_)
  have hsz : (s1.heap.push { cls := .type "dict_values", data := .fields #[.ref d] }).objs.size = s1.heap.objs.size + 1 := Heap.size_push ..
  refine ⟨_, _, _, _, _, _, _, rfl, Walks.dictValues (knd := mixKind X.prog X.w) (A := X.A.in1) (I.ok.hd hc) _ d (by show d ≠ (s1.heap.push _).objs.size; rw [hsz]; exact Nat.ne_of_lt (Nat.lt_succ_of_lt hdl)) vs ep,
    ⟨⟨_, Heap.get?_push_size _ rfl, rfl, rfl⟩, (hat.push _).keep fun b u e => Heap.get?_push_of_some _ e⟩, fun b hb => ?_, hlen, CmpOf.ints_gt (fun i => is.getD i 0) hval, fun v h' tk hP hk => ?_⟩
  · show b < ((s1.heap.push _).push _).objs.size
    rw [Heap.size_push, hsz]
    rcases List.mem_cons.mp hb with e | hb
    · have : b = s1.heap.objs.size + 1 := by rw [e]; exact hsz
      rw [this]
      exact Nat.lt_succ_self _
    · rw [List.mem_singleton.mp hb]
      exact Nat.lt_succ_of_lt (Nat.lt_succ_of_lt hdl)
  · obtain ⟨t, rfl⟩ := hval _ v hP
    obtain ⟨b1, b2⟩ := argBest_gt (fun i => is.getD i 0) (vs.length - 1)
    refine ⟨.int _, H1, I1.kept (t' := tk) fun b u e => hk b u (fun hmem => ?_) (Heap.get?_push_of_some _ (Heap.get?_push_of_some _ e)), ⟨t, rfl⟩, ?_⟩
    · have e1 : b = (s1.heap.push { cls := .type "dict_values", data := .fields #[.ref d] }).objs.size := List.mem_singleton.mp hmem
      have e2 := Heap.lt_size e
      rw [e1, hsz] at e2
      exact absurd e2 (Nat.not_lt_of_le (Nat.le_succ _))
    · have hm1 : is.getD (argBest (fun i j => decide (is.getD i 0 > is.getD j 0)) (vs.length - 1)) 0 ∈ is := by
        rw [List.getD_eq_getElem?_getD, List.getElem?_eq_getElem (Nat.lt_of_le_of_lt b1 (by omega))]
        exact List.getElem_mem _
      rw [lmax_eq hm1 fun y hy => ?_]
      · exact q
      · obtain ⟨j, hj, rfl⟩ := List.mem_iff_getElem.mp hy
        have := b2 j (by omega)
        rw [List.getD_eq_getElem?_getD, List.getElem?_eq_getElem hj] at this
        exact this
theorem ev_maxVals {K : PySem.W.Frag} {te : TE} {σ : L2.St} {H : Hp} {d : Addr} {kvs : List (Key × V)} {is : List Int} (h : EvS K te σ H (.v (.ref d))) (hd : H d = some (.dK kvs)) (hv : kvs.map (·.2) = is.map V.int) (hne : is ≠ []) : EvS K (tMaxVals te) σ H (.d (.int (lmax is))) := fun H1 e Q q =>
  h H1 e _ fun u H2 e2 hu => ⟨d, kvs, is, hu, e2 _ _ (e _ _ hd), hv, hne, q _ H2 e2 (.int _)⟩

/-! ### a tuple among tuples -/
def rNotInU (K : PySem.W.Frag) : R2 := fun x y H Q => ∃ d ds, Dp K H x d ∧ Dp K H y (.tuple ds) ∧ SeqAt.shaped d = true ∧ SeqAt.shaped (.tuple ds) = true ∧ Q (.bl (!ds.any fun z => PyData.eqv z d)) H
end Wk

set_option maxHeartbeats 200000
set_option Elab.async false
set_option linter.all false
set_option maxRecDepth 100000
set_option maxHeartbeats 1000000
/-! WrC: rules lifted to data, the table of the module's names. -/
namespace Wk
open PySem PySem.Spec PyProof.Rows L2 Evl

theorem hu65 {A : Around} {k : Nat} (hr : Room k A) : A.units + 65 < cLine := by
  have := hr.un
  omega
theorem op_notInU {X : Cx} (hu : X.A.units + 65 < cLine) : OpR X (compareOp .NotIn) (rNotInU X.K) := by
  intro pins s σ H x y v u Q I rx ry h
  obtain ⟨d, ds, hd, he, sd, se, q⟩ := h
  obtain ⟨as, r1⟩ := Dp.reads I d x v hd rx
  obtain ⟨bs, r2⟩ := Dp.reads I (.tuple ds) y u he ry
  exact SeqAt.notIn_tuple_reads r2 r1 (SeqAt.canLay_of_shaped se) (SeqAt.canLay_of_shaped sd) (room_in_shaped sd hu) ⟨.bl _, H, I, rfl, q⟩

section
variable {K : PySem.W.Frag} {H H' : Hp} {sl : List Sl} {σ : L2.St} {ta tb tc te : TE} {tt uu : TT} {l : Sl} {d x y : PyData} {i j : Int} {a b : Bool}
theorem ev_notInU {ds : List PyData} (ha : EvS K ta σ H (.d d)) (hb : EvS K tb σ H (.d (.tuple ds))) (hd : SeqAt.shaped d = true) (hs : SeqAt.shaped (.tuple ds) = true) :
    EvS K (tOp (rNotInU K) ta tb) σ H (.d (.bool (!ds.any fun z => PyData.eqv z d))) := ev_op ha hb fun H1 _ u w hu hw Q q => ⟨d, ds, hu, hw, hd, hs, q _ H1 (Ex.refl H1) (.bl _)⟩
theorem ev_neg (h : EvS K ta σ H (.d (.int i))) : EvS K (tUn (rU fun i => .int (-i)) ta) σ H (.d (.int (-i))) := fun H1 e Q q =>
  h H1 e _ fun u H2 e2 hu => ⟨i, dp_int hu, q _ H2 e2 (.int _)⟩
theorem ev_abs (h : EvS K ta σ H (.d (.int i))) : EvS K (tCB (fun xs H Q => ∃ i, xs = [.int i] ∧ Q (.int (if i < 0 then -i else i)) H) (tCons ta tNil)) σ H (.d (.int (i.natAbs : Int))) :=
  ev_cb (ea_cons h ea_nil) fun H1 _ us hus Q q => by
    obtain ⟨u, rfl, hu⟩ := hda_one hus
    refine ⟨i, by rw [dp_int hu], q _ H1 (Ex.refl H1) ?_⟩
    rw [show (if i < 0 then -i else i) = (i.natAbs : Int) by split <;> omega]
    exact .int _
theorem ev_intB (h : EvS K ta σ H (.d (.bool a))) : EvS K (tCB (fun xs H Q => (∃ i, xs = [.int i] ∧ Q (.int i) H) ∨ ∃ k, xs = [.bl k] ∧ Q (.int (if k then 1 else 0)) H) (tCons ta tNil)) σ H (.d (.int (if a then 1 else 0))) :=
  ev_cb (ea_cons h ea_nil) fun H1 _ us hus Q q => by
    obtain ⟨u, rfl, hu⟩ := hda_one hus
    exact .inr ⟨a, by rw [dp_bl hu], q _ H1 (Ex.refl H1) (.int _)⟩
theorem ev_notTrue (h : EvS K ta σ H (.d (.bool a))) (h' : EvS K tb σ H (.d (.bool b))) : EvS K (tOp rNotB ta tb) σ H (.d (.bool (!decide (a = b)))) :=
  ev_op h h' fun H1 _ u w hu hw Q q => ⟨a, b, dp_bl hu, dp_bl hw, q _ H1 (Ex.refl H1) (.bl _)⟩
/-- a ≤ b < c and so on -/
theorem ev_chain {r r' : R2} {k : Int} (ha : EvS K ta σ H (.d (.int i))) (hb : EvS K tb σ H (.d (.int j))) (hc : EvS K tc σ H (.d (.int k)))
    (h1 : ∀ H Q, Q (.bl a) H → r (.int i) (.int j) H Q) (h2 : ∀ H Q, Q (.bl b) H → r' (.int j) (.int k) H Q) : EvS K (tChain r r' ta tb tc) σ H (.d (.bool (a && b))) := by
  intro H1 e Q q
  refine ha H1 e _ fun u H2 e2 hu => ?_
  refine hb H2 (e.trans e2) _ fun w H3 e3 hw => ?_
  rw [dp_int hu, dp_int hw]
  refine h1 H3 _ ⟨a, rfl, ?_⟩
  cases a with
  | false => exact q _ H3 (e2.trans e3) (.bl false)
  | true =>
    refine hc H3 ((e.trans e2).trans e3) _ fun z H4 e4 hz => ?_
    rw [dp_int hz]
    exact h2 H4 Q (q _ H4 ((e2.trans e3).trans e4) (.bl b))
/-- t + u -/
theorem ev_catT {ds es : List PyData} (ha : EvS K ta σ H (.d (.tuple ds))) (hb : EvS K tb σ H (.d (.tuple es))) (hz : ds.length + es.length ≤ 100000) : EvS K (tOp (rCatA K) ta tb) σ H (.d (.tuple (ds ++ es))) :=
  ev_op ha hb fun H1 _ u w hu hw Q q => by
    obtain ⟨p, xs, rfl, ht, hd⟩ := dp_tup hu
    obtain ⟨r, ys, rfl, ht', hd'⟩ := dp_tup hw
    refine ⟨p, r, xs, ys, rfl, rfl, ht, ht', by rw [dpa_length hd, dpa_length hd']; exact sz_of hz, fun e => ?_, fun _ e => ?_, fun _ _ s hs => ?_⟩
    · subst e
      cases hd
      exact q _ H1 (Ex.refl H1) (.tup ht' hd')
    · subst e
      cases hd'
      rw [List.append_nil] at q
      exact q _ H1 (Ex.refl H1) (.tup ht hd)
    · exact q _ _ (Ex.new hs) (.tup (.of upd_same) (dpa_mono (Ex.new hs) _ (dpa_append hd hd')))
theorem cut_from (xs : List V) : cutV xs (some 1) none = xs.drop 1 := by
  unfold cutV
  rw [show HT.sIx xs.length 0 (some 1) = min 1 xs.length from HT.sIx_nat xs.length 0 1, HT.sIx_none]
  cases xs with
  | nil => rfl
  | cons x r =>
    rw [show min 1 (x :: r).length = 1 by
      rw [List.length_cons]
      omega]
    show (List.take ((x :: r).length - 1) r) = r
    rw [List.length_cons, Nat.add_sub_cancel]
    exact List.take_length
/-- t[1:] -/
theorem ev_slT {tl : TO} {ds : List PyData} (ha : EvS K ta σ H (.d (.tuple ds))) (hb : EvS K tb σ H (.d (.int 1))) : EvS K (L2.tSl (rSlA K) ta (tPart tb) tNoPart) σ H (.d (.tuple (ds.drop 1))) := fun H1 e Q q =>
  ha H1 e _ fun u H2 e2 hu => hb H2 (e.trans e2) _ fun w H3 e3 hw => ⟨1, dp_int hw, by
    obtain ⟨p, xs, rfl, ht, hd⟩ := dp_tup (dp_mono e3 _ hu)
    refine ⟨p, xs, rfl, ht, fun c => ?_, fun _ s hs => ?_⟩
    · have h1 : min 1 xs.length = 0 := by rw [← HT.sIx_nat xs.length 0 1]; exact c.1
      have h2 : xs = [] := by
        cases xs with
        | nil => rfl
        | cons _ _ => rw [List.length_cons] at h1; omega
      subst h2
      cases hd
      exact q _ H3 (e2.trans e3) (.tup ht .nil)
    · refine q _ _ ((e2.trans e3).trans (Ex.new hs)) (.tup (.of upd_same) ?_)
      rw [cut_from]
      exact dpa_mono (Ex.new hs) _ (dpa_drop 1 hd)⟩
theorem cut_to (xs : List V) (n : Nat) (h : n ≤ xs.length) : cutV xs none (some (n : Int)) = xs.take n := by
  unfold cutV
  rw [HT.sIx_none, HT.sIx_nat, Nat.min_eq_left h]
  rfl
theorem cut_at (xs : List V) (n : Nat) (h : n ≤ xs.length) : cutV xs (some (n : Int)) none = xs.drop n := by
  unfold cutV
  rw [HT.sIx_none, HT.sIx_nat, Nat.min_eq_left h]
  rw [List.take_of_length_le (by rw [List.length_drop]; exact Nat.le_refl _)]
/-- l[:n], l[n:] -/
theorem ev_slTo {n : Nat} {ds : List PyData} (ha : EvS K ta σ H (.d (.list ds))) (hb : EvS K tb σ H (.d (.int (n : Nat)))) (hn : n ≤ ds.length) : EvS K (L2.tSl (rSlL K) ta tNoPart (tPart tb)) σ H (.d (.list (ds.take n))) := fun H1 e Q q =>
  ha H1 e _ fun u H2 e2 hu => hb H2 (e.trans e2) _ fun w H3 e3 hw => ⟨(n : Nat), dp_int hw, by
    obtain ⟨p, xs, rfl, ht, hd⟩ := dp_lst (dp_mono e3 _ hu)
    refine ⟨p, xs, rfl, ht, fun s hs => ?_⟩
    refine q _ _ ((e2.trans e3).trans (Ex.new hs)) (.lst (.of upd_same) ?_)
    rw [cut_to _ _ (by rw [dpa_length hd]; exact hn)]
    exact dpa_mono (Ex.new hs) _ (dpa_take n hd)⟩
theorem ev_slAt {n : Nat} {ds : List PyData} (ha : EvS K ta σ H (.d (.list ds))) (hb : EvS K tb σ H (.d (.int (n : Nat)))) (hn : n ≤ ds.length) : EvS K (L2.tSl (rSlL K) ta (tPart tb) tNoPart) σ H (.d (.list (ds.drop n))) := fun H1 e Q q =>
  ha H1 e _ fun u H2 e2 hu => hb H2 (e.trans e2) _ fun w H3 e3 hw => ⟨(n : Nat), dp_int hw, by
    obtain ⟨p, xs, rfl, ht, hd⟩ := dp_lst (dp_mono e3 _ hu)
    refine ⟨p, xs, rfl, ht, fun s hs => ?_⟩
    refine q _ _ ((e2.trans e3).trans (Ex.new hs)) (.lst (.of upd_same) ?_)
    rw [cut_at _ _ (by rw [dpa_length hd]; exact hn)]
    exact dpa_mono (Ex.new hs) _ (dpa_drop n hd)⟩
/-- isinstance -/
def tyD : PyData → String
  | .none => "NoneType"
  | .bool _ => "bool"
  | .int _ => "int"
  | .str _ => "str"
  | .list _ => "list"
  | .tuple _ => "tuple"
  | .dict _ => "dict"
theorem ty_of {u : V} (h : Dp K H u d) (hn : (∃ ds, d = .list ds) → False) : TyX K H u (.type (tyD d)) := by
  cases h with
  | non => exact .base .non
  | bl b => exact .base (.bl b)
  | int i => exact .base (.int i)
  | str z => exact .base (.str z)
  | lst h r => exact (hn ⟨_, rfl⟩).elim
  | tup h r =>
    rcases h with (h | ⟨o, h⟩) | ⟨o, its, n, h1, h2, _⟩
    · exact .base (.tup h)
    · exact .fTuple h
    · exact .kTuple h1 h2
theorem ev_isi {n : String} (h : EvS K te σ H (.d d)) (hk : kitB (tyD d) n = some b) (hn : (∃ ds, d = .list ds) → False) : EvS K (tCB (rIsi K) (tCons te (tCons (tC (.ty n)) tNil))) σ H (.d (.bool b)) := fun H1 e Q q =>
  h H1 e _ fun u H2 e2 hu => ⟨u, .ty n, _, _, b, rfl, .ty n, ty_of hu hn, kit_ty hk, q _ H2 e2 (.bl b)⟩
/-- tuple(list) -/
theorem ev_tupOf {Φ : PyData → Prop} (h : EvX K te σ H Φ) (hl : ∀ d, Φ d → ∃ ds, d = .list ds) : EvX K (tCB (fun xs H Q => ∃ p ys, xs = [.ref p] ∧ ((SqL K H p ys ∧ ∀ l, H l = none → Q (.ref l) (upd H l (.tup ys))) ∨ (SqT K H p ys ∧ Q (.ref p) H))) (tCons te tNil)) σ H (fun d => ∃ ds, Φ (.list ds) ∧ d = .tuple ds) := fun H1 e Q q =>
  h H1 e _ fun u d H2 hΦ e2 hu => by
    obtain ⟨ds, rfl⟩ := hl d hΦ
    obtain ⟨p, xs, rfl, ht, hd⟩ := dp_lst hu
    exact ⟨p, xs, rfl, .inl ⟨ht, fun l hl => q _ _ _ ⟨ds, hΦ, rfl⟩ (e2.trans (Ex.new hl)) (.tup (.of upd_same) (dpa_mono (Ex.new hl) _ hd))⟩⟩
theorem ev_tupL {ds : List PyData} (h : EvS K te σ H (.d (.list ds))) : EvS K (tCB (fun xs H Q => ∃ p ys, xs = [.ref p] ∧ ((SqL K H p ys ∧ ∀ l, H l = none → Q (.ref l) (upd H l (.tup ys))) ∨ (SqT K H p ys ∧ Q (.ref p) H))) (tCons te tNil)) σ H (.d (.tuple ds)) := fun H1 e Q q =>
  h H1 e _ fun u H2 e2 hu => by
    obtain ⟨p, xs, rfl, ht, hd⟩ := dp_lst hu
    exact ⟨p, xs, rfl, .inl ⟨ht, fun l hl => q _ _ (e2.trans (Ex.new hl)) (.tup (.of upd_same) (dpa_mono (Ex.new hl) _ hd))⟩⟩
/-- a field of an instance -/
theorem ev_fld {C dx p : Addr} {fs : List (Str × V)} {f : Str} {v : V} (h : EvS K ta σ H (.v (.ref p))) (hp : H p = some (.ins C dx fs)) (c : Cls K C) (n : NoAttr K C f) (hl : fs.lookup f = some v) (hv : Hd K H l v) : EvS K (tFld K ta f) σ H l := fun H1 e Q q =>
  h H1 e _ fun u H2 e2 hu => ⟨p, C, dx, fs, v, hu, e2 _ _ (e _ _ hp), c, n, hl, q _ H2 e2 (hv.mono (e.trans e2))⟩
end
end Wk

set_option maxHeartbeats 200000
set_option Elab.async false
set_option linter.all false
set_option maxRecDepth 100000
set_option maxHeartbeats 4000000
/-! WrBig: int of a text of 901 digits. -/
namespace Wk
open PySem PySem.Spec PyProof.Rows L2 Evl PySem.NumText
def zeros : Str := ⟨(List.replicate 900 (#[48] : Array Nat)).foldl (· ++ ·) #[]⟩
def bigT : Str := (⟨#[49]⟩ : Str) ++ zeros
def NoDig (h : Heap) : Prop := ∃ mc, h.Ns cStatics mc ∧ mc "sys.int_max_str_digits" = none
theorem wp_dig {M : Model} {A : Around} {E : Value → Shared → Prop} {s : Shared} {Q : Nat → Shared → Prop} (hd : NoDig s.heap) (h : Q 4300 s) : wpAny M A Builtin.intMaxStrDigits Q E s := by
  obtain ⟨mc, h1, h2⟩ := hd
  refine wpAny_bind (wpAny_nsGet h1 ?_)
  rw [h2]
  exact wpAny_pure h
theorem wp_textL {M : Model} {A : Around} {E : Value → Shared → Prop} {s : Shared} {Q : Value → Shared → Prop} {v : Value} {text : List Nat} {n : Int} (hd : NoDig s.heap)
    (hs : ¬ (text.takeWhile (· != 0)).length ≤ 640) (hr : (int_private% "readNumeral") 4300 10 (text.takeWhile (· != 0)) = (int_private% "Numeral.value") n)
    (ha : ((text.takeWhile (· != 0)).length == text.length) = true) (h : Q (.int n s.toks) { s with toks := s.toks + 1 }) :
    wpAny M A ((int_private% "intFromText") v text 10) Q E s := by
  obtain ⟨hp, g, d, tk, os⟩ := s
  repeat (any_goals (first
    | assumption
    | (with_reducible refine wpAny_ite_false (decide_eq_false hs) ?_)
    | (with_reducible refine wpAny_ite_true (decide_eq_true ha) ?_)
    | (with_reducible refine wp_dig hd ?_)
    | wp_step))
  all_goals (try rw [hr])
  all_goals (try dsimp only)
  repeat (any_goals (first
    | assumption
    | (with_reducible refine wpAny_ite_true (decide_eq_true ha) ?_)
    | wp_step))

theorem fold_app (n : Nat) : ∀ a : Array Nat, ((List.replicate n (#[48] : Array Nat)).foldl (· ++ ·) a).toList = a.toList ++ List.replicate n 48 := by
  induction n with
  | zero => intro a; simp
  | succ n ih =>
    intro a
    rw [List.replicate_succ, List.foldl_cons, ih, List.replicate_succ, Array.toList_append, List.append_assoc]
    rfl
theorem big_list : bigT.cps.toList = 49 :: List.replicate 900 48 := by
  show ((#[49] : Array Nat) ++ zeros.cps).toList = _
  rw [Array.toList_append]
  show [49] ++ zeros.cps.toList = _
  rw [show zeros.cps.toList = List.replicate 900 48 by
    show ((List.replicate 900 (#[48] : Array Nat)).foldl (· ++ ·) #[]).toList = _
    rw [fold_app]
    rfl]
  rfl
theorem zeros_len : zeros.length = 900 := by
  have hl : zeros.cps.toList.length = zeros.length := Array.length_toList
  rw [← hl, show zeros.cps.toList = List.replicate 900 48 by
    show ((List.replicate 900 (#[48] : Array Nat)).foldl (· ++ ·) #[]).toList = _
    rw [fold_app]
    rfl, List.length_replicate]
theorem big_all : AllDigits bigT.cps.toList := by
  rw [big_list]
  intro c hc
  rcases List.mem_cons.mp hc with rfl | h
  · omega
  · rw [(List.mem_replicate.mp h).2]
    omega
theorem big_len : bigT.length = 901 := by
  have hl : bigT.cps.toList.length = bigT.length := Array.length_toList
  rw [← hl, big_list, List.length_cons, List.length_replicate]
def bigN : Int := ((digitsVal bigT.cps.toList : Nat) : Int)
theorem bigN_def : bigN = ((digitsVal bigT.cps.toList : Nat) : Int) := rfl
theorem fold_pos : ∀ (cs : List Nat) (acc : Nat), 1 ≤ acc → 1 ≤ cs.foldl (fun acc c => acc * 10 + (c - 48)) acc
  | [], _, h => h
  | c :: cs, acc, h => fold_pos cs (acc * 10 + (c - 48)) (by omega)
theorem bigN_pos : 0 < bigN := by
  rw [bigN_def, big_list]
  have := fold_pos (List.replicate 900 48) (0 * 10 + (49 - 48)) (by decide)
  show (0 : Int) < ((List.foldl (fun acc c => acc * 10 + (c - 48)) 0 (49 :: List.replicate 900 48) : Nat) : Int)
  rw [List.foldl_cons]
  omega
theorem big_text : numTextOf bigT = bigT.cps.toList := by
  unfold numTextOf
  rw [if_pos]
  rw [← Array.all_toList, List.all_eq_true]
  intro c hc
  have := big_all c hc
  exact decide_eq_true (by omega)
theorem big_take : numSeenOf bigT = bigT.cps.toList := by
  unfold numSeenOf
  rw [big_text]
  refine PySem.NumText.takeWhile_all fun c hc => ?_
  have := big_all c hc
  exact bne_iff_ne.mpr (by omega)
theorem big_seen : ¬ (numSeenOf bigT).length ≤ 640 ∧ (int_private% "readNumeral") 4300 10 (numSeenOf bigT) = (int_private% "Numeral.value") bigN ∧ ((numSeenOf bigT).length == (numTextOf bigT).length) = true := by
  have e : intText? bigT = some bigN := by
    rw [bigN_def]
    exact intText_digits big_all (by rw [big_list]; exact List.cons_ne_nil _ _) (by rw [big_len]; decide)
  refine ⟨by rw [big_take, Array.length_toList]; show ¬ bigT.length ≤ 640; rw [big_len]; decide, ?_, by rw [big_take, big_text]; exact beq_self_eq_true _⟩
  unfold intText? at e
  rw [if_pos (by rw [big_take, big_text]; exact beq_self_eq_true _)] at e
  rw [readNumeral_ten]
  split at e
  · rename_i ds hd
    rw [hd]
    split at e
    · rename_i h4
      rw [judge_ok (.inr h4) (by omega)]
      exact congrArg _ (Option.some.inj e)
    · cases e
  · cases e
def bigS : PySem.Spec := fun _ R s => NoDig s.heap ∧ R (.ok (.ret (.int bigN s.toks))) { s with toks := s.toks + 1 }
theorem meets_big {u : Tok} : Meets (Builtin.«int.__new__» ⟨[.type "int", .str bigT u], []⟩) bigS := by
  intro prog w A R s ⟨hd, hR⟩
  have hk := PySem.W.KIN.Hid.mk big_seen
  obtain ⟨hp, g, d, tk, os⟩ := s
  have f1 := F.conv_sub_int
  have f2 := F.madeHere_int
  have f3 := PySem.W.KIN.str_int
  have f4 := PySem.W.KIN.str_idx
  have f5 := PySem.W.KIN.str_trunc
  have f6 : typeOf (.str bigT u) = pure (.type "str") := rfl
  generalize bigT = bt at *
  generalize bigN = bn at *
  repeat (any_goals (first
    | assumption
    | ((with_reducible show wpAny _ _ ((int_private% "intFromText") _ _ _) _ _ _); refine wp_textL hd hk.out.1 hk.out.2.1 hk.out.2.2 ?_)
    | wp_step))
  all_goals first | exact hR | skip
def rZeros : R2 := fun x y H Q => x = .str ⟨#[48]⟩ ∧ y = .int 900 ∧ Q (.str zeros) H
theorem op_zeros {X : Cx} : OpR X (binaryOp .Mult) rZeros := by
  intro pins s σ H x y v u Q I rx ry h
  obtain ⟨rfl, rfl, q⟩ := h
  obtain ⟨t, rfl⟩ := rx
  obtain ⟨t', rfl⟩ := ry
  refine PySem.P.mul_str (by decide) (fun _ _ => by decide) (fun _ _ => by decide) ?_
  rw [if_neg (by decide), if_neg (by decide)]
  exact ⟨by show zeros.length ≤ sizeLine; rw [zeros_len]; decide, ⟨.str zeros, H, I.tok _, ⟨_, rfl⟩, q⟩⟩
theorem ns_none {K : PySem.W.Frag} {h : Heap} {a : Addr} {mg : Str → Option Value} {n : Str} (X : K.In h) (G : h.Ns a mg) (e : PySem.W.nsIn K a n = some none) : mg n = none := by
  obtain ⟨o, es, ep, ho, hd, _, hf⟩ := G
  unfold PySem.W.nsIn at e
  split at e
  · rename_i c d es' n' sl q
    have := X _ _ q
    rw [ho] at this
    cases this
    cases hd
    split at e
    · cases e
    · rename_i he
      rw [← hf]
      unfold nsFind findBy
      rw [← Array.find?_toList, he]
      rfl
  · cases e
def rBig : List V → Hp → VK → Prop := fun xs H Q => xs = [.str bigT] ∧ Q (.int bigN) H
theorem call_big {X : Cx} (hz : PySem.W.nsIn X.K cStatics "sys.int_max_str_digits" = some none) : CallR X (.type "int") rBig := by
  intro pins s σ H xs us Q I r h
  obtain ⟨rfl, q⟩ := h
  obtain ⟨u, rfl, t, rfl⟩ := vals1 r
  refine PySem.call_int_1 meets_big ⟨?_, ?_⟩
  · obtain ⟨mc, h1, _⟩ := I.nolimit
    exact ⟨mc, h1, ns_none I.kIn h1 hz⟩
  · exact ⟨PySem.typeIs_int _ _ _, .int bigN, H, I.tok _, ⟨_, rfl⟩, q⟩
theorem ev_big {K : PySem.W.Frag} {H : Hp} {σ : L2.St} :
    EvS K (tCB rBig (tCons (tOp (fun x y H Q => ∃ i j, x = .str i ∧ y = .str j ∧ i.length + j.length ≤ sizeLine ∧ Q (.str (i ++ j)) H) (tC (.str "1")) (tOp rZeros (tC (.str "0")) (tC (.int 900)))) tNil)) σ H (.d (.int bigN)) := fun H1 e Q q => by
  refine ⟨rfl, rfl, _, _, rfl, rfl, ?_, rfl, q _ H1 (Ex.refl H1) (.int _)⟩
  rw [zeros_len]
  decide
end Wk

set_option maxHeartbeats 200000
set_option Elab.async false
set_option linter.all false
set_option maxRecDepth 100000
set_option maxHeartbeats 1000000
/-! WrT: the table of the module's names, SHAPE_PARTS, sorted(set(..)), fields, pop. -/
namespace Wk
open PySem PySem.Spec PyProof.Rows L2 Evl

theorem bt_len : bootBuiltins "len" = some (.builtin "len") := by decide +kernel
theorem bt_min : bootBuiltins "min" = some (.builtin "min") := by decide +kernel
theorem bt_max : bootBuiltins "max" = some (.builtin "max") := by decide +kernel
theorem bt_abs : bootBuiltins "abs" = some (.builtin "abs") := by decide +kernel
theorem bt_sum : bootBuiltins "sum" = some (.builtin "sum") := by decide +kernel
theorem bt_any : bootBuiltins "any" = some (.builtin "any") := by decide +kernel
theorem bt_all : bootBuiltins "all" = some (.builtin "all") := by decide +kernel
theorem bt_sorted : bootBuiltins "sorted" = some (.builtin "sorted") := by decide +kernel
theorem bt_isinstance : bootBuiltins "isinstance" = some (.builtin "isinstance") := by decide +kernel
theorem bt_int : bootBuiltins "int" = some (.type "int") := by decide +kernel
theorem bt_bool : bootBuiltins "bool" = some (.type "bool") := by decide +kernel
theorem bt_str : bootBuiltins "str" = some (.type "str") := by decide +kernel
theorem bt_tuple : bootBuiltins "tuple" = some (.type "tuple") := by decide +kernel
theorem bt_set : bootBuiltins "set" = some (.type "set") := by decide +kernel

/-- what a word asks for -/
inductive Part : Str → Int → Prop where
  | long : Part "long" 1
  | short : Part "short end" 3
  | caught : Part "caught up" 5
structure Tx (w : World) (K : PySem.W.Frag) (mg : Str → Option Value) (C : Addr) : Prop where
  b_len : mg "len" = none
  b_min : mg "min" = none
  b_max : mg "max" = none
  b_abs : mg "abs" = none
  b_sum : mg "sum" = none
  b_any : mg "any" = none
  b_all : mg "all" = none
  b_sorted : mg "sorted" = none
  b_isinstance : mg "isinstance" = none
  b_int : mg "int" = none
  b_bool : mg "bool" = none
  b_str : mg "str" = none
  b_tuple : mg "tuple" = none
  b_set : mg "set" = none
  b_range : mg "range" = none
  b_enumerate : mg "enumerate" = none
  b_zip : mg "zip" = none
  s_LONG : ∃ u, mg "LONG" = some u ∧ RelV (.str "long") u
  s_SHORT_END : ∃ u, mg "SHORT_END" = some u ∧ RelV (.str "short end") u
  s_CAUGHT_UP : ∃ u, mg "CAUGHT_UP" = some u ∧ RelV (.str "caught up") u
  cls : Cls K C
  na : ∀ f ∈ (["kinds", "divisor", "regular", "near", "slim", "slim_bound", "weights", "rich", "rich_bound", "lengths"] : List Str), NoAttr K C f
  nodig : PySem.W.nsIn K cStatics "sys.int_max_str_digits" = some none
  parts : ∃ d es n, mg "SHAPE_PARTS" = some (.ref d) ∧ KDict K w d es n ∧ ∀ z i, Part z i → ∃ t, PySem.W.nsIn K d z = some (some (.int i t))
theorem Tx.nat {w : World} {K : PySem.W.Frag} {mg : Str → Option Value} {C : Addr} (T : Tx w K mg C) (f : Str) (h : f ∈ (["kinds", "divisor", "regular", "near", "slim", "slim_bound", "weights", "rich", "rich_bound", "lengths"] : List Str) := by decide) : NoAttr K C f := T.na f h
theorem pe_cst {X : Cx} {x z : Str} {pos : Pos} (hg : Gl X x) (h : ∃ u, X.mg x = some u ∧ RelV (.str z) u) (hd : (x == ("__debug__" : Str)) = false := by decide) : PE X (.Name x pos) (tC (.str z)) := by
  obtain ⟨u, hm, r⟩ := h
  exact pe_glob hg hm r hd
/-- SHAPE_PARTS.get(e, 0) -/
def tParts (ty tx : TE) : TE := fun σ H Q => ty σ H fun y H1 => tx σ H1 fun _ H2 => ∃ z i, y = .str z ∧ Part z i ∧ Q (.int i) H2
theorem pe_kget {X : Cx} {C : Addr} {e f : Expr} {ty tx : TE} {p apos cpos : Pos} (hg : Gl X "SHAPE_PARTS") (T : Tx X.w X.K X.mg C) (he : PE X e ty) (hf : PE X f tx) (m : M2 X (.Name "SHAPE_PARTS" p) "get" apos e f cpos) :
    PE X (.Call (.Attribute (.Name "SHAPE_PARTS" p) "get" apos) [e, f] [] cpos) (tParts ty tx) := by
  obtain ⟨d, es, n, hm, D, hp⟩ := T.parts
  have ho : PE X (.Name "SHAPE_PARTS" p) (tC (.ref d)) := pe_glob hg hm rfl
  refine ⟨fun pins s σ H Q I h => ?_⟩
  refine wpAny_Call_method m.base m.few m.line PySem.F.plainAttrs_dict PySem.F.slot_dict_get PySem.F.type_dict_get (thn (ho.run pins s σ H (fun x H1 => x = .ref d ∧ H1 = H) I ⟨rfl, rfl⟩) fun u s1 ⟨x, H1, I1, rx, ex, eh⟩ => ?_)
  subst ex eh
  obtain rfl : u = Value.ref d := rx
  have hmap := PySem.W.mapOf_K (prog := X.prog) I1.kIn D.at_ D.lit
  refine ⟨hmap.typeIs, hmap.noDict, ?_⟩
  rw [m.trees]
  refine Calls.callWith_builtin rfl (Calls.evalArgs_plain (Calls.spliced_cons (thn (he.run pins s1 σ _ _ I1 h) fun iv s2 ⟨y, H2, I2, ry, q2⟩ =>
    Calls.spliced_cons (thn (hf.run pins s2 σ H2 _ I2 q2) fun fv s3 ⟨z, H3, I3, rz, w, i, ey, hw, q3⟩ => Calls.spliced_nil ?_))))
  subst ey
  obtain ⟨t, rfl⟩ := ry
  obtain ⟨t2, hn⟩ := hp w i hw
  have hmap3 := PySem.W.mapOf_K (prog := X.prog) I3.kIn D.at_ D.lit
  refine call_meetsIn PySem.F.slot_dict_get hmap3.typeIs PySem.F.entry_dict_get (PySem.F.args_dict_get_3 _ _ _) (meets_dict_get_default (PySem.strKind X.prog X.w) d (PySem.strKind_is X.prog X.w w t) D.low fv) ⟨_, hmap3, ?_⟩
  rw [PySem.W.find_K D.at_ hn]
  exact ⟨.int i, H3, I3.tok _, ⟨t2, rfl⟩, q3⟩
section
variable {K : PySem.W.Frag} {P : Program} {w : World} {H0 H H' : Hp} {sl : List Sl} {σ : L2.St} {ta tb tc te : TE} {D : Ends} {tz : TS} {l : Sl}
theorem ev_parts {d : PyData} {z : Str} {i : Int} (h : EvS K ta σ H (.d (.str z))) (h2 : EvS K tb σ H (.d d)) (hp : Part z i) : EvS K (tParts ta tb) σ H (.d (.int i)) := fun H1 e Q q =>
  h H1 e _ fun u H2 e2 hu => h2 H2 (e.trans e2) _ fun u' H3 e3 _ => ⟨z, i, dp_str hu, hp, q _ H3 (e2.trans e3) (.int i)⟩
/-- a pair of numbers -/
abbrev pr (k : Int × Int) : PyData := .tuple [.int k.1, .int k.2]
theorem pairs_at : ∀ {ks : List (Int × Int)} {vs : List V}, DpAll K H vs (ks.map pr) → ∃ ps : List (Addr × List Int), vs = ps.map (fun p => V.ref p.1) ∧ ps.map (·.2) = ks.map (fun k => [k.1, k.2]) ∧ ∀ p ∈ ps, SqT K H p.1 (p.2.map V.int)
  | [], _, .nil => ⟨[], rfl, rfl, fun _ h => nomatch h⟩
  | k :: ks, _, .cons h r => by
    obtain ⟨ps, rfl, h2, h3⟩ := pairs_at r
    obtain ⟨a, xs, rfl, ht, hd⟩ := dp_tup h
    have e : xs = [k.1, k.2].map V.int := dpa_ints (ns := [k.1, k.2]) hd
    subst e
    exact ⟨(a, [k.1, k.2]) :: ps, rfl, by rw [List.map_cons, h2]; rfl, fun p hp => by
      rcases List.mem_cons.mp hp with rfl | hp
      · exact ht
      · exact h3 p hp⟩
theorem pairs_back : ∀ {L : List (Addr × List Int)}, (∀ p ∈ L, ∃ k : Int × Int, p.2 = [k.1, k.2]) → (∀ p ∈ L, SqT K H p.1 (p.2.map V.int)) →
    ∃ ks : List (Int × Int), ks.map (fun k => [k.1, k.2]) = L.map (·.2) ∧ DpAll K H (L.map fun p => V.ref p.1) (ks.map pr)
  | [], _, _ => ⟨[], rfl, .nil⟩
  | p :: L, h, hs => by
    obtain ⟨k, hk⟩ := h p List.mem_cons_self
    obtain ⟨ks, h1, h2⟩ := pairs_back (fun q hq => h q (List.mem_cons_of_mem _ hq)) fun q hq => hs q (List.mem_cons_of_mem _ hq)
    have ht := hs p List.mem_cons_self
    rw [hk] at ht
    exact ⟨k :: ks, by rw [List.map_cons, List.map_cons, h1, hk], .cons (.tup ht (dpa_ints' (ns := [k.1, k.2]))) h2⟩
/-- sorted(set(ks)) -/
theorem ev_sortSet {ks : List (Int × Int)} (h : EvS K te σ H (.d (.list (ks.map pr)))) (hl : ks.length < 64) (hb : ∀ k ∈ ks, 0 ≤ k.1 ∧ k.1 < 64 ∧ 0 ≤ k.2 ∧ k.2 < 64) :
    EvX K (tCB (rSortedT K P w) (tCons (tCB (rSetOfT K P w) (tCons te tNil)) tNil)) σ H (fun d => ∃ L : List (Int × Int), d = .list (L.map pr) ∧ L.Nodup ∧ (∀ x, x ∈ L ↔ x ∈ ks) ∧ L.length < 64) := fun H1 e Q q => by
  refine h H1 e _ fun u H2 e2 hu => ?_
  obtain ⟨a, xs, rfl, ht, hd⟩ := dp_lst hu
  obtain ⟨ps, rfl, h2, h3⟩ := pairs_at hd
  have inj : ∀ {x y : Int × Int}, ([x.1, x.2] : List Int) = [y.1, y.2] → x = y := fun {x y} z => by
    obtain ⟨x1, x2⟩ := x
    obtain ⟨y1, y2⟩ := y
    simp at z
    simp [z.1, z.2]
  have mem : ∀ p ∈ ps, ∃ k ∈ ks, p.2 = [k.1, k.2] := fun p hp => by
    have : p.2 ∈ ks.map (fun k => [k.1, k.2]) := h2 ▸ List.mem_map.mpr ⟨p, hp, rfl⟩
    obtain ⟨k, hk, z⟩ := List.mem_map.mp this
    exact ⟨k, hk, z.symm⟩
  refine ⟨a, ps, rfl, ht, h3, by rw [show ps.length = ks.length by rw [← List.length_map (f := fun p : Addr × List Int => p.2), h2, List.length_map]]; exact hl, fun b L hb' hL hall => ?_⟩
  have ex3 : Ex H2 (upd H2 b (SetTO P w b L)) := Ex.new hb'
  refine ⟨b, L, 2, 64, rfl, upd_same, fun p hp => ex_t ex3 (h3 p (hL p hp)), by decide, fun p hp => ?_, fun L' c hp hnd hlen _ hc => ?_⟩
  · obtain ⟨k, hk, z⟩ := mem p (hL p hp)
    obtain ⟨b1, b2, b3, b4⟩ := hb k hk
    rw [z]
    refine ⟨rfl, fun m hm => ?_⟩
    rcases List.mem_cons.mp hm with rfl | hm
    · exact ⟨b1, b2⟩
    · rw [List.mem_singleton.mp hm]
      exact ⟨b3, b4⟩
  · have e4 : Ex H2 (upd (upd H2 b (SetTO P w b L)) c (.lst (L'.map fun q => V.ref q.1))) := ex3.trans (Ex.new hc)
    obtain ⟨ls, g1, g2⟩ := pairs_back (K := K) (H := upd (upd H2 b (SetTO P w b L)) c (.lst (L'.map fun q => V.ref q.1))) (L := L') (fun p hp' => by
      obtain ⟨k, _, z⟩ := mem p (hL p (hp.mem_iff.mp hp'))
      exact ⟨k, z⟩) fun p hp' => ex_t e4 (h3 p (hL p (hp.mem_iff.mp hp')))
    refine q _ _ _ ⟨ls, rfl, ?_, fun x => ?_, ?_⟩ (e2.trans e4) (.lst (.of upd_same) g2)
    · have : (ls.map fun k => ([k.1, k.2] : List Int)).Nodup := by rw [g1]; exact hnd
      exact (List.pairwise_map.mp this).imp fun h e => h (by rw [e])
    · have step : x ∈ ls ↔ ([x.1, x.2] : List Int) ∈ L'.map (·.2) := by
        rw [← g1]
        refine ⟨fun z => List.mem_map.mpr ⟨x, z, rfl⟩, fun z => ?_⟩
        obtain ⟨y, hy, z⟩ := List.mem_map.mp z
        rw [← inj z]
        exact hy
      rw [step]
      constructor
      · intro z
        obtain ⟨p, hp', z⟩ := List.mem_map.mp z
        obtain ⟨k, hk, z'⟩ := mem p (hL p (hp.mem_iff.mp hp'))
        rw [z'] at z
        rw [← inj z]
        exact hk
      · intro z
        have : ([x.1, x.2] : List Int) ∈ ps.map (·.2) := by rw [h2]; exact List.mem_map.mpr ⟨x, z, rfl⟩
        obtain ⟨p, hp', z'⟩ := List.mem_map.mp this
        obtain ⟨y, hy, z2⟩ := List.mem_map.mp (hall p hp')
        exact List.mem_map.mpr ⟨y, hp.mem_iff.mpr hy, by show y.2 = _; rw [z2]; exact z'⟩
    · rw [← List.length_map (f := fun k : Int × Int => ([k.1, k.2] : List Int)), g1, List.length_map]
      exact hlen
/-- o.f = e, of an instance at p; what else is tracked as data stands -/
theorem q_fld {C dx p : Addr} {fs : List (Str × V)} {f : Str} (hv : EvS K tb σ H l) (ha : EvS K ta σ H (.v (.ref p))) (hp : H p = some (.ins C dx fs)) (c : Cls K C) (n : NoAttr K C f) (hl : fs.length < 1000)
    (k : ∀ u H1, Ex H H1 → Hd K H1 l u → H1 p = some (.ins C dx fs) → tz D σ (upd H1 p (.ins C dx (putF f u fs)))) : tSeq (sFld K ta tb f) tz D σ H :=
  hv H (Ex.refl H) _ fun u H1 e1 hu => ha H1 e1 _ fun w H2 e2 hw => ⟨p, C, dx, fs, hw, e2 _ _ (e1 _ _ hp), c, n, hl, k u H2 (e1.trans e2) (hu.mono e2) (e2 _ _ (e1 _ _ hp))⟩
theorem s_fld {C dx p : Addr} {fs : List (Str × V)} {f : Str} (hv : EvS K tb σ H l) (ha : EvS K ta σ H (.v (.ref p))) (hp : H p = some (.ins C dx fs)) (c : Cls K C) (n : NoAttr K C f) (hl : fs.length < 1000)
    (k : ∀ u H1, Ex H H1 → Hd K H1 l u → H1 p = some (.ins C dx fs) → D.nx σ (upd H1 p (.ins C dx (putF f u fs)))) : sFld K ta tb f D σ H :=
  q_fld (tz := fun D => D.nx) hv ha hp c n hl k
theorem exT_ins {C dx p : Addr} {fs : List (Str × V)} {o : HO} (h : H p = some (.ins C dx fs)) : ExT H (upd H p o) := exT_upd h (fun _ z => nomatch z) (fun _ _ z => nomatch z)
end
end Wk

set_option maxHeartbeats 200000
set_option Elab.async false
set_option linter.all false
set_option maxRecDepth 100000
set_option maxHeartbeats 1000000
/-! WrP: promises by data, the simple defs. -/
namespace Wk
open PySem PySem.Spec PyProof.Rows L2 Evl

/-- a def that takes the data enc x (x with Pre) and gives data of which Φ x holds, what is tracked standing -/
def SpD (K : PySem.W.Frag) {α : Type} (enc : α → List PyData) (Pre : α → Prop) (Φ : α → PyData → Prop) : Sp := fun vs H Q _ => ∃ x : α, Pre x ∧ DpAll K H vs (enc x) ∧ ∀ u d H', Φ x d → Ex H H' → Dp K H' u d → Q u H'
abbrev SpF (K : PySem.W.Frag) {α : Type} (enc : α → List PyData) (Pre : α → Prop) (r : α → PyData) : Sp := SpD K enc Pre fun x d => d = r x
section
variable {P : Program} {w : World} {K : PySem.W.Frag} {mg : Str → Option Value} {base : Heap} {α : Type} {enc : α → List PyData} {Pre : α → Prop} {Φ : α → PyData → Prop} {r : α → PyData} {H H' : Hp} {σ : L2.St} {tr : TA} {sl : List Sl}
theorem at_here {vs : List V} {ds : List PyData} {N : List Str} {n : Nat} (h : DpAll K H vs ds) (hn : N.length - ds.length = n) : At K H (ds.map .d ++ List.replicate n .un) (start N vs) H := by
  have a := At.here (N := N) (hda_of h)
  rw [dpa_length h, hn] at a
  exact a
theorem exD {x : α} (h : EvAS K tr σ H ((enc x).map .d)) (hp : Pre x) : EvX K (tCall (SpD K enc Pre Φ) [] E0 tr) σ H (Φ x) :=
  ex_call h fun H1 e us hus Q q => ⟨x, hp, by rw [List.append_nil]; exact hda_d hus, fun u d H2 hΦ e2 hd => q u d H2 hΦ e2 hd⟩
theorem evD {x : α} (h : EvAS K tr σ H ((enc x).map .d)) (hp : Pre x) : EvS K (tCall (SpF K enc Pre r) [] E0 tr) σ H (.d (r x)) := (exD (x := x) h hp).toS
theorem spD_len {ps : List Str} (hl : ∀ x, (enc x).length = ps.length) : ∀ vs H Q E, SpD K enc Pre Φ vs H Q E → vs.length = ps.length := fun vs H Q E ⟨x, _, h, _⟩ => by rw [dpa_length h, hl x]
/-- a method of the instance at a with the attributes fs: the rest by data -/
def SpM (K : PySem.W.Frag) (C : Addr) {α : Type} (fs : α → List (Str × Sl)) (enc : α → List PyData) (Pre : α → Prop) (Φ : α → PyData → Prop) : Sp := fun vs H Q _ => ∃ (x : α) (a dx : Addr) (us : List V) (gs : List (Str × V)), Pre x ∧ vs = .ref a :: us ∧ H a = some (.ins C dx gs) ∧ (∀ f l, (f, l) ∈ fs x → ∃ v, gs.lookup f = some v ∧ Hd K H l v) ∧ DpAll K H us (enc x) ∧
  ∀ u d H', Φ x d → Ex H H' → Dp K H' u d → Q u H'
end
theorem ix_seqK {X : Cx} {K : PySem.W.Frag} (h : X.K = K := by rfl) : IxR X (rIx K) := h ▸ ix_seq
/-- what a def's body starts from -/
theorem run_def {P : Program} {w : World} {K : PySem.W.Frag} {mg : Str → Option Value} {base : Heap} {x qual : Str} {st : Stmt} {f : Addr} {fd : FuncData} {N ps : List Str} {k : Nat} {α : Type} {enc : α → List PyData} {Pre : α → Prop} {Φ : α → PyData → Prop}
    (F : Fun K x qual st f fd) (S : FnScope N ps (defScope st)) (hl : ∀ x, (enc x).length = ps.length)
    (hb : ∀ (cdv : Value) (A : Around) (outer : List PySem.Env) (s : Shared) (H : Hp) (vs : List V) (Q : VK) (E : XK) (x : α), Room k (A.deeper (envOfC qual (defScope st) s.heap.objs.size f cdv)) → Pre x → At K H ((enc x).map .d ++ List.replicate (N.length - ps.length) .un) (start N vs) H →
      (∀ u d H', Φ x d → Ex H H' → Dp K H' u d → Q u H') →
      ∃ t, PSs (cxOf CX0 P w K mg base N qual (defScope st) f cdv A outer s H E).nox (defBody st) t ∧ t { nx := fun _ H' => Q .non H', rt := Q } (start N vs) H) : FnOk P w K mg base CX0 (k + 1) f fd ps (SpD K enc Pre Φ) :=
  F.ok S (spD_len hl) fun cdv A outer s H vs Q E hr ⟨y, hp, hd, q⟩ => hb cdv A outer s H vs Q E y hr hp (at_here hd (by rw [hl y])) q
/-- the kinds as data -/
abbrev kdD (ks : List (Int × Int)) : PyData := .tuple (ks.map pr)
theorem noL_pr (k : Int × Int) : noL (pr k) = true := rfl
theorem noL_prs (ks : List (Int × Int)) : noLs (ks.map pr) = true := noLs_mem fun d hd => by
  obtain ⟨k, _, rfl⟩ := List.mem_map.mp hd
  rfl
theorem s_par {K : PySem.W.Frag} {H0 H : Hp} {sl : List Sl} {σ : L2.St} {D : Ends} {i j : Nat} {tr : TA} {l1 l2 : Sl} (a : At K H0 sl σ H) (h : EvAS K tr σ H [l1, l2]) (k : ∀ σ1 H1, Ex H H1 → At K H0 ((sl.set i l1).set j l2) σ1 H1 → D.nx σ1 H1) : tPar i j tr D σ H :=
  q_par (D := D) (tz := fun D => D.nx) a h k
/-! ### how deep data goes -/
def Shp (n : Nat) (d : PyData) : Prop := d.canLay0 = true ∧ d.depth ≤ n
theorem shp_int (i : Int) : Shp 0 (.int i) := ⟨by simp [PyData.canLay0], by simp [PyData.depth]⟩
theorem shp_bl (b : Bool) : Shp 0 (.bool b) := ⟨by simp [PyData.canLay0], by simp [PyData.depth]⟩
theorem shp_no : Shp 0 .none := ⟨by simp [PyData.canLay0], by simp [PyData.depth]⟩
theorem shp_all {n : Nat} : ∀ {ds : List PyData}, (∀ d ∈ ds, Shp n d) → PyData.canLayAll0 ds = true ∧ PyData.depthAll ds ≤ n
  | [], _ => ⟨by simp [PyData.canLayAll0], by simp [PyData.depthAll]⟩
  | d :: ds, h => by
    obtain ⟨h1, h2⟩ := h d List.mem_cons_self
    obtain ⟨h3, h4⟩ := shp_all (ds := ds) fun x hx => h x (List.mem_cons_of_mem _ hx)
    refine ⟨by simp [PyData.canLayAll0, h1, h3], ?_⟩
    simp only [PyData.depthAll]
    omega
theorem shp_list {n : Nat} {ds : List PyData} (h : ∀ d ∈ ds, Shp n d) : Shp (n + 1) (.list ds) := by
  obtain ⟨h1, h2⟩ := shp_all h
  refine ⟨by simp only [PyData.canLay0]; exact h1, ?_⟩
  simp only [PyData.depth]
  omega
theorem shp_tup {n : Nat} {ds : List PyData} (h : ∀ d ∈ ds, Shp n d) : Shp (n + 1) (.tuple ds) := by
  obtain ⟨h1, h2⟩ := shp_all h
  refine ⟨by simp only [PyData.canLay0]; exact h1, ?_⟩
  simp only [PyData.depth]
  omega
theorem Shp.mono {n m : Nat} {d : PyData} (h : Shp n d) (l : n ≤ m) : Shp m d := ⟨h.1, Nat.le_trans h.2 l⟩
theorem Shp.ok {n : Nat} {d : PyData} (h : Shp n d) (l : n ≤ 64 := by decide) : SeqAt.shaped d = true := by
  show (d.canLay0 && decide (d.depth ≤ 64)) = true
  rw [Bool.and_eq_true]
  exact ⟨h.1, decide_eq_true (Nat.le_trans h.2 l)⟩
theorem shp_map {α : Type} {n : Nat} {xs : List α} {f : α → PyData} (h : ∀ x, Shp n (f x)) : ∀ d ∈ xs.map f, Shp n d := fun d hd => by
  obtain ⟨x, _, rfl⟩ := List.mem_map.mp hd
  exact h x
theorem shp_pr (k : Int × Int) : Shp 1 (pr k) := shp_tup fun d hd => by
  rcases List.mem_cons.mp hd with rfl | hd
  · exact shp_int _
  · rw [List.mem_singleton.mp hd]
    exact shp_int _
theorem shp_ints (ns : List Int) : Shp 1 (.list (ns.map .int)) := shp_list (shp_map shp_int)
theorem shp_kd (ks : List (Int × Int)) : Shp 2 (kdD ks) := shp_tup (shp_map shp_pr)
theorem shp_kl (ks : List (Int × Int)) : Shp 2 (.list (ks.map pr)) := shp_list (shp_map shp_pr)
theorem shp_nilL : Shp 1 (.list []) := shp_list fun _ h => nomatch h
theorem shp_nilT : Shp 1 (.tuple []) := shp_tup fun _ h => nomatch h
theorem eqv_nilL (ds : List PyData) : PyData.eqv (.list ds) (.list []) = ds.isEmpty := by
  cases ds <;> simp [PyData.eqv, PyData.eqvAll]
theorem eqv_nilT (ds : List PyData) : PyData.eqv (.tuple ds) (.tuple []) = ds.isEmpty := by
  cases ds <;> simp [PyData.eqv, PyData.eqvAll]
theorem eqv_pr (a b : Int × Int) : PyData.eqv (pr a) (pr b) = decide (a = b) := by
  obtain ⟨a1, a2⟩ := a
  obtain ⟨b1, b2⟩ := b
  simp only [PyData.eqv, PyData.eqvAll, Bool.and_true]
  by_cases h1 : a1 = b1 <;> by_cases h2 : a2 = b2 <;> simp [h1, h2]
section
variable {K : PySem.W.Frag} {H : Hp} {σ : L2.St} {ta tb : TE} {ds : List PyData} {n : Nat}
/-- xs != [], xs == [], t == (), t != () -/
theorem ev_neNil (ha : EvS K ta σ H (.d (.list ds))) (hs : Shp n (.list ds)) (hb : EvS K tb σ H (.d (.list []))) (hn : n ≤ 64 := by decide) : EvS K (tOp (rNeD K) ta tb) σ H (.d (.bool (!ds.isEmpty))) := by
  have := ev_neD ha hb (hs.ok hn) (shp_nilL.ok)
  rwa [eqv_nilL] at this
theorem ev_eqNil (ha : EvS K ta σ H (.d (.list ds))) (hs : Shp n (.list ds)) (hb : EvS K tb σ H (.d (.list []))) (hn : n ≤ 64 := by decide) : EvS K (tOp (rEqD K) ta tb) σ H (.d (.bool ds.isEmpty)) := by
  have := ev_eqD ha hb (hs.ok hn) (shp_nilL.ok)
  rwa [eqv_nilL] at this
theorem ev_neNilT (ha : EvS K ta σ H (.d (.tuple ds))) (hs : Shp n (.tuple ds)) (hb : EvS K tb σ H (.d (.tuple []))) (hn : n ≤ 64 := by decide) : EvS K (tOp (rNeD K) ta tb) σ H (.d (.bool (!ds.isEmpty))) := by
  have := ev_neD ha hb (hs.ok hn) (shp_nilT.ok)
  rwa [eqv_nilT] at this
theorem ev_eqNilT (ha : EvS K ta σ H (.d (.tuple ds))) (hs : Shp n (.tuple ds)) (hb : EvS K tb σ H (.d (.tuple []))) (hn : n ≤ 64 := by decide) : EvS K (tOp (rEqD K) ta tb) σ H (.d (.bool ds.isEmpty)) := by
  have := ev_eqD ha hb (hs.ok hn) (shp_nilT.ok)
  rwa [eqv_nilT] at this
theorem ev_nilL : EvS K (tLst tNil) σ H (.d (.list [])) := (en_lst (ds := []) ea_nil (by decide)).toS
theorem ev_nilT : EvS K (tTup tNil) σ H (.d (.tuple [])) := ev_tup (ds := []) ea_nil (by decide)
end
section
variable {K : PySem.W.Frag} {H : Hp} {σ : L2.St} {tl : TE} {tr : TA} {ks : List (Int × Int)} {i j : Nat}
theorem src_kd1 (h : EvS K tl σ H (.d (kdD ks))) : Src K (iTup K tl) (gName j) [j] σ H (ks.map fun k => [.d (pr k)]) ExT := by
  have := src_tup1 (j := j) (ds := ks.map pr) h (noL_prs ks)
  rwa [List.map_map] at this
theorem src_kd2 (h : EvS K tl σ H (.d (kdD ks))) : Src K (iTup K tl) (gTup K 2 (gCons (gName i) (gCons (gName j) gNil))) [i, j] σ H (ks.map fun k => [.d (.int k.1), .d (.int k.2)]) ExT :=
  src_tup2 (xs := ks) (f1 := fun k => .int k.1) (f2 := fun k => .int k.2) h fun _ _ => ⟨rfl, rfl⟩
theorem src_kl1 (h : EvS K tl σ H (.d (.list (ks.map pr)))) : Src K (iList K tl) (gName j) [j] σ H (ks.map fun k => [.d (pr k)]) Ex := by
  have := src_lst1 (j := j) (ds := ks.map pr) h
  rwa [List.map_map] at this
theorem src_kl2 (h : EvS K tl σ H (.d (.list (ks.map pr)))) : Src K (iList K tl) (gTup K 2 (gCons (gName i) (gCons (gName j) gNil))) [i, j] σ H (ks.map fun k => [.d (.int k.1), .d (.int k.2)]) Ex :=
  src_lst2 (xs := ks) (f1 := fun k => .int k.1) (f2 := fun k => .int k.2) h
theorem src_list {α : Type} {xs : List α} {f : α → PyData} (h : EvS K tl σ H (.d (.list (xs.map f)))) : Src K (iList K tl) (gName j) [j] σ H (xs.map fun x => [.d (f x)]) Ex := by
  have := src_lst1 (j := j) (ds := xs.map f) h
  rwa [List.map_map] at this
/-- enumerate(kinds), by the numbers -/
theorem src_ken (h : EvAS K tr σ H [.d (kdD ks)]) : Src K (iEnumT K tr) (gTup K 2 (gCons (gName i) (gCons (gName j) gNil))) [i, j] σ H ((List.range ks.length).map fun n => [.d (.int (n : Nat)), .d (pr (ks.getD n (0, 0)))]) ExT := by
  have := src_enumT (i := i) (j := j) (ds := ks.map pr) h (noL_prs ks)
  rwa [show ((ks.map pr).zipIdx).map (fun p => [Sl.d (.int (p.2 : Nat)), .d p.1]) = (List.range ks.length).map fun n => [Sl.d (.int (n : Nat)), .d (pr (ks.getD n (0, 0)))] from
    List.ext_getElem (by simp) fun n h1 h2 => by
      simp at h1
      simp [List.getD_eq_getElem?_getD, List.getElem?_eq_getElem h1]] at this
end
end Wk

set_option maxHeartbeats 200000
set_option Elab.async false
set_option linter.all false
set_option maxRecDepth 100000
set_option maxHeartbeats 1000000
/-! WrA: the walks of the small defs. -/
namespace Wk
open PySem PySem.Spec PyProof.Rows L2 Evl Wr
section
variable {P : Program} {w : World} {K : PySem.W.Frag} {mg : Str → Option Value} {base : Heap} {C f : Addr} {fd : FuncData}
/-! usable -/
abbrev spUsable (K : PySem.W.Frag) : Sp := SpF K (α := List Kd × Int) (fun x => [kdD x.1, .int x.2]) (fun x => x.1.length ≤ 1000) fun x => kdD (Wr.free x.1 x.2)
theorem ok_usable (T : Tx w K mg C) (F : Fun K "usable" "usable" s_usable f fd) : FnOk P w K mg base CX0 1 f fd p_usable (spUsable K) := by
  refine run_def F sc_usable (fun _ => rfl) fun cdv A outer s H vs Q E x hr hp a q => ?_
  refine ⟨_, (pss_one (ps_ret (pe_callTy call_tuple_of (by rfl) T.b_tuple bt_tuple (pa_cons (pe_lc (own := [("kind", 2)]) (g := gName 2) rfl sc_usable.nd (pi_tup (pv 0)) (blkOk_by (N := n_usable) (sc := defScope s_usable) (by decide +kernel)) (fun _ _ _ _ _ => (pg_name (i := 2) sc_usable.nd rfl (.inl rfl))) (fun _ _ _ _ _ => (pts_one (pt_cmpR op_le (pe_ix (ix_seqK (K := K)) (pv 2) pe_int (fun _ _ => rfl)) (pv 1) (nomark _)))) (fun _ _ _ _ _ => (pv 2))) pa_nil)))), ?_⟩
  obtain ⟨ks, c⟩ := x
  have a : At K H [.d (kdD ks), .d (.int c), .un] (start n_usable vs) H := a
  exact s_ret (ev_tupL (en_lc (fun k : Kd => decide (k.2 ≤ c)) pr (src_kd1 ((ev_var (a).env (i := 0) rfl))) a.env (Nat.le_trans hp (by decide)) (by decide) (fun _ _ _ => noL_pr _)
    (fun k _ σ' H' e en => et_s (ev_le (ev_ixT ((ev_var en (i := 2) rfl)) ev_int rfl) ((ev_var en (i := 1) rfl)))) (fun k _ _ σ' H' e en => (ev_var en (i := 2) rfl))).toS) fun u H1 e hu => q _ _ _ rfl e hu
/-! common_divisor -/
abbrev spDiv (K : PySem.W.Frag) : Sp := SpF K (α := Nat × Nat) (fun x => [.int x.1, .int x.2]) (fun _ => True) fun x => .int (Nat.gcd x.1 x.2 : Nat)
theorem ok_div (F : Fun K "common_divisor" "common_divisor" s_common_divisor f fd) : FnOk P w K mg base CX0 1 f fd p_common_divisor (spDiv K) := by
  refine run_def F sc_common_divisor (fun _ => rfl) fun cdv A outer s H vs Q E x hr hp a q => ?_
  refine ⟨_, (pss_cons (ps_while PassesOwn.never (pt_cmpR op_ne (pv 1) pe_int (nomark _))
(pss_one (ps_par (i := 0) (j := 1) (by rfl) sc_common_divisor.nd rfl rfl (by decide) rfl rfl (pa_cons (pv 1) (pa_cons (pe_op op_mod (pv 0) (pv 1)) pa_nil)) (by rfl))))
(pss_one (ps_ret (pv 0)))), ?_⟩
  refine q_while (fun m σ' H' => ∃ u v : Nat, m = v ∧ Nat.gcd u v = Nat.gcd x.1 x.2 ∧ At K H [.d (.int u), .d (.int v)] σ' H') x.2 ⟨x.1, x.2, rfl, rfl, a⟩ ?_
  rintro m σ' H' ⟨u, v, rfl, hg, a⟩
  refine ⟨_, et_s (ev_neI ((ev_var (a).env (i := 1) rfl)) ev_int), fun hb H1 e => ?_, fun hb H1 e => ?_⟩
  · have hv : m ≠ 0 := fun z => by subst z; simp at hb
    refine ⟨fun σ2 H2 => At K H [.d (.int m), .d (.int ((u % m : Nat) : Int))] σ2 H2, fun σ2 H2 a2 => ⟨u % m, Nat.mod_lt _ (Nat.pos_of_ne_zero hv), m, u % m, rfl, ?_, a2⟩, ?_⟩
    · rw [← hg, Nat.gcd_comm u m, Nat.gcd_rec m u, Nat.gcd_comm]
    · have a := a.mono e
      refine s_par a (ea_cons ((ev_var (a).env (i := 1) rfl)) (ea_cons (ev_mod ((ev_var (a).env (i := 0) rfl)) ((ev_var (a).env (i := 1) rfl)) (by omega)) ea_nil)) fun σ1 H2 e2 a2 => ?_
      rw [Int.natCast_emod]
      exact a2
  · have hv : m = 0 := by
      by_cases z : m = 0
      · exact z
      · simp [z] at hb
    subst hv
    rw [Nat.gcd_zero_right] at hg
    exact s_ret ((ev_var ((a.mono e)).env (i := 0) rfl)) fun u H2 e2 hu => q _ _ _ rfl ((a.mono e).ex.trans e2) (by show Dp K H2 _ (.int (Nat.gcd x.1 x.2 : Nat)); rw [← hg]; exact hu)
/-! least_of -/
def opD : Option Int → PyData
  | none => .none
  | some i => .int i
def omin (os : List (Option Int)) : Option Int := if os.filterMap id = [] then none else some (lmin (os.filterMap id))
theorem opD_some {os : List (Option Int)} : ((os.filter fun o => !isNo (opD o)).map opD) = (os.filterMap id).map .int := by
  induction os with
  | nil => rfl
  | cons o os ih =>
    cases o with
    | none => exact ih
    | some i =>
      show opD (some i) :: _ = .int i :: _
      rw [ih]
      rfl
theorem shp_op (o : Option Int) : Shp 0 (opD o) := by
  cases o
  · exact shp_no
  · exact shp_int _
theorem noL_op (o : Option Int) : noL (opD o) = true := by cases o <;> rfl
abbrev spLeast (K : PySem.W.Frag) : Sp := SpF K (α := List (Option Int)) (fun x => [.list (x.map opD)]) (fun x => x.length ≤ 1000) fun x => opD (omin x)
theorem ok_least (T : Tx w K mg C) (F : Fun K "least_of" "least_of" s_least_of f fd) : FnOk P w K mg base CX0 1 f fd p_least_of (spLeast K) := by
  refine run_def F sc_least_of (fun _ => rfl) fun cdv A outer s H vs Q E os hr hp a q => ?_
  refine ⟨_, (pss_cons (ps_setLc (i := 1) (own := [("number", 2)]) (g := gName 2) rfl sc_least_of.nd rfl rfl (sw_true rfl rfl rfl (by decide +kernel)) (pi_list (pv 0)) (blkOk_by (N := n_least_of) (sc := defScope s_least_of) (by decide +kernel)) (fun _ _ _ _ _ => (pg_name (i := 2) sc_least_of.nd rfl (.inl rfl))) (fun _ _ _ _ _ => (pts_one (pt_cmp (pc_notN (pv 2)) rfl))) (fun _ _ _ _ _ => (pv 2)))
(pss_one (ps_ret (pe_ifExp (pt_cmpR (op_neD hr.units) (pv 1) (pe_lst pa_nil) (nomark _)) (pe_callB (cr_min rfl) (by rfl) T.b_min bt_min (pa_cons (pv 1) pa_nil)) pe_non)))), ?_⟩
  have a : At K H [.d (.list (os.map opD)), .un, .un] (start n_least_of vs) H := a
  have hl := en_lc (fun o : Option Int => !isNo (opD o)) opD (src_list (j := 2) ((ev_var (a).env (i := 0) rfl))) a.env (Nat.le_trans hp (by decide)) (by decide) (fun o _ _ => noL_op o) (vs := [2]) (tt := tB (tNotN (tVar 2))) (te := tVar 2)
    (fun o _ σ' H' e en => et_b (ev_notN ((ev_var en (i := 2) rfl)))) (fun o _ _ σ' H' e en => (ev_var en (i := 2) rfl))
  rw [opD_some] at hl
  refine q_asg a hl.toS fun σ1 H1 e1 a1 => ?_
  refine s_ret (l := .d (opD (omin os))) (ev_if (et_s (ev_neNil ((ev_var (a1).env (i := 1) rfl)) (shp_ints _) ev_nilL)) (fun hb => ?_) fun hb => ?_) fun u H2 e2 hu => q _ _ _ rfl (a1.ex.trans e2) hu
  · have hne : os.filterMap id ≠ [] := fun z => by rw [z] at hb; simp at hb
    have : opD (omin os) = .int (lmin (os.filterMap id)) := by unfold omin; rw [if_neg hne]; rfl
    rw [this]
    exact ev_min ((ev_var (a1).env (i := 1) rfl)) hne
  · have hne : os.filterMap id = [] := by
      cases hz : os.filterMap id with
      | nil => rfl
      | cons _ _ => rw [hz] at hb; simp at hb
    have : opD (omin os) = .none := by unfold omin; rw [if_pos hne]; rfl
    rw [this]
    exact ev_non
end
end Wk

set_option maxHeartbeats 200000
set_option Elab.async false
set_option linter.all false
set_option maxRecDepth 100000
set_option maxHeartbeats 1000000
/-! WrA2: the walks of the ring's defs. -/
namespace Wk
open PySem PySem.Spec PyProof.Rows L2 Evl Wr
open C8 (Cal pe_c Met pe_mt pe_mt0 Mak pe_mk)
def msD (m : Int × Nat) : PyData := .tuple [.int m.1, .int (m.2 : Nat)]
abbrev msgsD (ms : List (Int × Nat)) : PyData := .tuple (ms.map msD)
abbrev stD (st : RSt) : PyData := .tuple [.int st.1, msgsD st.2]
def shD : Wr.Shape → PyData
  | .long => .tuple [.str "long"]
  | .short h b => .tuple [.str "short end", .int h, .int b]
  | .caught h b p t => .tuple [.str "caught up", .int h, .int b, .int p, .int (t : Nat)]
theorem noL_ms (m : Int × Nat) : noL (msD m) = true := rfl
theorem noL_mss (ms : List (Int × Nat)) : noLs (ms.map msD) = true := noLs_mem fun d hd => by
  obtain ⟨k, _, rfl⟩ := List.mem_map.mp hd
  rfl
theorem shp_ms (m : Int × Nat) : Shp 1 (msD m) := shp_tup fun d hd => by
  rcases List.mem_cons.mp hd with rfl | hd
  · exact shp_int _
  · rw [List.mem_singleton.mp hd]
    exact shp_int _
theorem shp_mss (ms : List (Int × Nat)) : Shp 2 (msgsD ms) := shp_tup (shp_map shp_ms)
theorem at_map {α : Type} {xs : List α} {f : α → PyData} {n : Nat} {x : α} (h : xs[n]? = some x) : atI (xs.map f) (n : Int) = some (f x) := atI_nat (by
  rw [List.getElem?_map, h]
  rfl)
theorem at_kd {ks : List Kd} {n : Nat} (h : n < ks.length) : atI (ks.map pr) (n : Int) = some (pr (kd ks n)) := at_map (by
  unfold kd
  rw [List.getD_eq_getElem?_getD, List.getElem?_eq_getElem h]
  rfl)
section
variable {P : Program} {w : World} {K : PySem.W.Frag} {mg : Str → Option Value} {base : Heap} {C f : Addr} {fd : FuncData}
section
variable {H : Hp} {σ : L2.St} {ta tb : TE} {ks : List Kd} {n : Nat}
/-- kinds[n][0], kinds[n][1] -/
theorem ev_kl (ha : EvS K ta σ H (.d (kdD ks))) (hb : EvS K tb σ H (.d (.int (n : Nat)))) (h : n < ks.length) : EvS K (tOp (rIx K) (tOp (rIx K) ta tb) (tC (.int 0))) σ H (.d (.int (kl ks n))) :=
  ev_ixT (ev_ixT ha hb (at_kd h)) ev_int rfl
theorem ev_kw (ha : EvS K ta σ H (.d (kdD ks))) (hb : EvS K tb σ H (.d (.int (n : Nat)))) (h : n < ks.length) : EvS K (tOp (rIx K) (tOp (rIx K) ta tb) (tC (.int 1))) σ H (.d (.int (kw ks n))) :=
  ev_ixT (ev_ixT ha hb (at_kd h)) ev_int rfl
end
/-! is_integer -/
abbrev spIsInt (K : PySem.W.Frag) : Sp := SpF K (α := Int × Int) (fun x => [.int x.1, .int x.2, .none]) (fun _ => True) fun x => .bool (decide (x.2 ≤ x.1))
theorem ok_isint (T : Tx w K mg C) {kws : List (Str × V)} {qual : Str} {params : Arguments} (F : FunD K "is_integer" qual params (defBody s_is_integer) (defScope s_is_integer) [.non] kws f fd) : FnOk P w K mg base CX0 1 f fd p_is_integer (spIsInt K) := by
  refine F.ok sc_is_integer (spD_len fun _ => rfl) fun cdv A outer s H vs Q E hr ⟨x, hp, hd, q⟩ => ?_
  have a : At K H [.d (.int x.1), .d (.int x.2), .d .none] (start n_is_integer vs) H := at_here (N := n_is_integer) (n := 0) hd rfl
  have S : ∃ t, PSs ((cxOf CX0 P w K mg base n_is_integer qual (defScope s_is_integer) f cdv A outer s H E).nox) (defBody s_is_integer) t ∧ t { nx := fun _ H' => Q .non H', rt := Q } (start n_is_integer vs) H := by
    refine ⟨_, (pss_cons (ps_if (PW.pt (pw_or (pt_not (pt_val (pe_callB call_isi (by rfl) T.b_isinstance bt_isinstance (pa_cons (pv 0) (pa_cons (pe_bltn (v := .ty "int") (by rfl) T.b_int bt_int rfl) pa_nil))))) (pw_or (pt_val (pe_callB call_isi (by rfl) T.b_isinstance bt_isinstance (pa_cons (pv 0) (pa_cons (pe_bltn (v := .ty "bool") (by rfl) T.b_bool bt_bool rfl) pa_nil)))) (pw_or1 (pt_cmpR op_lt (pv 0) (pv 1) (nomark _))))))
(pss_one (ps_ret pe_bl))
pss_nil)
(pss_one (ps_ret (pe_or (pe_cmp (pc_isN (pv 2)) rfl) (pe_one (pe_cmpR op_le (pv 0) (pv 2) (nomark _))))))), ?_⟩
    have ti := ev_isi (n := "int") (b := true) ((ev_var (a).env (i := 0) rfl)) (show kitB "int" "int" = some true by decide +kernel) (fun ⟨_, z⟩ => nomatch z)
    have tb := ev_isi (n := "bool") (b := false) ((ev_var (a).env (i := 0) rfl)) (show kitB "int" "bool" = some false by decide +kernel) (fun ⟨_, z⟩ => nomatch z)
    refine q_when a (et_or (et_not (et_b ti)) fun _ => et_or (et_b tb) fun _ => et_s (ev_lt ((ev_var (a).env (i := 0) rfl)) ((ev_var (a).env (i := 1) rfl)))) (fun hb H1 e a1 => ?_) fun hb H1 e a1 => ?_
    · have : decide (x.2 ≤ x.1) = false := by simp at hb; simp; omega
      exact s_ret ev_bl fun u H2 e2 hu => q u (.bool false) H2 (by show PyData.bool false = .bool (decide (x.2 ≤ x.1)); rw [this]) (a1.ex.trans e2) hu
    · have : decide (x.2 ≤ x.1) = true := by simp at hb; simp; omega
      exact s_ret (l := .d (.bool true)) (ev_orV (a := true) (b := true) (ev_isN ((ev_var (a1).env (i := 2) rfl))) fun z => nomatch z) fun u H2 e2 hu => q u _ H2 rfl (a1.ex.trans e2) (by
        show Dp K H2 u (.bool (decide (x.2 ≤ x.1)))
        rw [this]
        exact hu)
  obtain ⟨t, h1, h2⟩ := S
  exact ⟨t, h1.nox, h2⟩
/-! l_can_pay: the law's list of the kinds in reach -/
abbrev spCanPay (K : PySem.W.Frag) : Sp := SpF K (α := List Kd × Int) (fun x => [kdD x.1, .int x.2]) (fun x => x.1.length ≤ 1000) fun x => .list ((Wr.free x.1 x.2).map pr)
theorem ok_can_pay (T : Tx w K mg C) (F : Fun K "_law_can_pay" "_law_can_pay" s_l_can_pay f fd) : FnOk P w K mg base CX0 1 f fd p_l_can_pay (spCanPay K) := by
  refine run_def F sc_l_can_pay (fun _ => rfl) fun cdv A outer s H vs Q E x hr hp a q => ?_
  refine ⟨_, (pss_one (ps_ret (pe_lc (own := [("_law_kind", 2)]) (g := gName 2) rfl sc_l_can_pay.nd (pi_tup (pv 0)) (blkOk_by (N := n_l_can_pay) (sc := defScope s_l_can_pay) (by decide +kernel)) (fun _ _ _ _ _ => (pg_name (i := 2) sc_l_can_pay.nd rfl (.inl rfl))) (fun _ _ _ _ _ => (pts_one (pt_cmpR op_le (pe_ix (ix_seqK (K := K)) (pv 2) pe_int (fun _ _ => rfl)) (pv 1) (nomark _)))) (fun _ _ _ _ _ => (pv 2))))), ?_⟩
  obtain ⟨ks, c⟩ := x
  have a : At K H [.d (kdD ks), .d (.int c), .un] (start n_l_can_pay vs) H := a
  exact s_ret (en_lc (fun k : Kd => decide (k.2 ≤ c)) pr (src_kd1 ((ev_var (a).env (i := 0) rfl))) a.env (Nat.le_trans hp (by decide)) (by decide) (fun _ _ _ => noL_pr _)
    (fun k _ σ' H' e en => et_s (ev_le (ev_ixT ((ev_var en (i := 2) rfl)) ev_int rfl) ((ev_var en (i := 1) rfl)))) (fun k _ _ σ' H' e en => (ev_var en (i := 2) rfl))).toS fun u H1 e hu => q _ _ _ rfl e hu
/-! l_paid -/
abbrev spPaid (K : PySem.W.Frag) : Sp := SpF K (α := List Kd × List (Int × Nat)) (fun x => [kdD x.1, msgsD x.2]) (fun x => x.2.length ≤ 1000 ∧ ∀ m ∈ x.2, m.2 < x.1.length) fun x => .int (paid x.1 x.2)
theorem ok_paid (T : Tx w K mg C) (F : Fun K "_law_paid" "_law_paid" s_l_paid f fd) : FnOk P w K mg base CX0 1 f fd p_l_paid (spPaid K) := by
  refine run_def F sc_l_paid (fun _ => rfl) fun cdv A outer s H vs Q E x hr hp a q => ?_
  refine ⟨_, (pss_one (ps_ret (pe_callB (cr_sum rfl) (by rfl) T.b_sum bt_sum (pa_cons (pe_lc (own := [("_law_start", 2), ("_law_number", 3)]) (g := gTup K 2 (gCons (gName 2) (gCons (gName 3) (gNil)))) (tt := tYes) rfl sc_l_paid.nd (pi_tup (pv 1)) (blkOk_by (N := n_l_paid) (sc := defScope s_l_paid) (by decide +kernel)) (fun _ _ _ _ _ => (pg_tup rfl (pgs_cons (pg_name (i := 2) sc_l_paid.nd rfl (.inl rfl)) (pgs_cons (pg_name (i := 3) sc_l_paid.nd rfl (.inl rfl)) pgs_nil)))) (fun _ _ _ _ _ => pts_nil) (fun _ _ _ _ _ => (pe_ix (ix_seqK (K := K)) (pe_ix (ix_seqK (K := K)) (pv 0) (pv 3) (fun _ _ => rfl)) pe_int (fun _ _ => rfl)))) pa_nil)))), ?_⟩
  obtain ⟨ks, ms⟩ := x
  have a : At K H [.d (kdD ks), .d (msgsD ms), .un, .un] (start n_l_paid vs) H := a
  have hl := en_lcA (te := tOp (rIx K) (tOp (rIx K) (tVar 0) (tVar 3)) (tC (.int 1))) (vs := [2, 3]) (fun m : Int × Nat => .int (kw ks m.2)) (src_tup2 (i := 2) (j := 3) (xs := ms) (f1 := fun m => .int m.1) (f2 := fun m => .int (m.2 : Nat)) ((ev_var (a).env (i := 1) rfl)) fun _ _ => ⟨rfl, rfl⟩) a.env (Nat.le_trans hp.1 (by decide)) (by decide) (fun _ _ => rfl)
    fun m hm σ' H' e en => ev_kw ((ev_var en (i := 0) rfl)) ((ev_var en (i := 3) rfl)) (hp.2 m hm)
  have : (ms.map fun m : Int × Nat => PyData.int (kw ks m.2)) = (ms.map fun m => kw ks m.2).map .int := by rw [List.map_map]; rfl
  rw [this] at hl
  have hs : (ms.map fun m => kw ks m.2).sum = paid ks ms := by
    unfold paid pay wt
    rw [List.map_map, List.map_map]
    rfl
  refine s_ret (ev_sum hl.toS) fun u H1 e hu => q _ _ _ rfl e ?_
  show Dp K H1 u (.int (paid ks ms))
  rw [← hs]
  exact hu
/-! l_may -/
theorem numsD_eq (ns : List Nat) : (ns.map fun n => PyData.int (n : Nat)) = (ns.map fun n : Nat => (n : Int)).map .int := by rw [List.map_map]; rfl
abbrev numsD (ns : List Nat) : PyData := .list (ns.map fun n => .int (n : Nat))
abbrev spMay (K : PySem.W.Frag) : Sp := SpF K (α := List Kd × Int × List (Int × Nat)) (fun x => [kdD x.1, .int x.2.1, msgsD x.2.2]) (fun x => x.1.length ≤ 1000 ∧ x.2.2.length ≤ 1000 ∧ ∀ m ∈ x.2.2, m.2 < x.1.length) fun x => numsD (may x.1 x.2.1 x.2.2)
theorem ok_may (T : Tx w K mg C) (G_l_paid : Cal P w K mg base 1 "_law_paid" (spPaid K) []) (F : Fun K "_law_may" "_law_may" s_l_may f fd) : FnOk P w K mg base CX0 2 f fd p_l_may (spMay K) := by
  refine run_def F sc_l_may (fun _ => rfl) fun cdv A outer s H vs Q E x hr hp a q => ?_
  refine ⟨_, (pss_cons (ps_set (i := 3) sc_l_may.nd rfl (.inr rfl) (pe_c G_l_paid hr (by decide) (by rfl) (pa_cons (pv 0) (pa_cons (pv 2) pa_nil))))
(pss_one (ps_ret (pe_lc (own := [("_law_number", 4), ("_law_one", 5)]) (g := gTup K 2 (gCons (gName 4) (gCons (gName 5) (gNil)))) rfl sc_l_may.nd (pi_enumT (by rfl) T.b_enumerate (pa_cons (pv 0) pa_nil)) (blkOk_by (N := n_l_may) (sc := defScope s_l_may) (by decide +kernel)) (fun _ _ _ _ _ => (pg_tup rfl (pgs_cons (pg_name (i := 4) sc_l_may.nd rfl (.inl rfl)) (pgs_cons (pg_name (i := 5) sc_l_may.nd rfl (.inl rfl)) pgs_nil)))) (fun _ _ _ _ _ => (pts_one (pt_cmpR op_le (pe_op op_add (pv 3) (pe_ix (ix_seqK (K := K)) (pv 5) pe_int (fun _ _ => rfl))) (pv 1) (nomark _)))) (fun _ _ _ _ _ => (pv 4)))))), ?_⟩
  obtain ⟨ks, c, ms⟩ := x
  have a : At K H [.d (kdD ks), .d (.int c), .d (msgsD ms), .un, .un, .un] (start n_l_may vs) H := a
  refine q_asg a (evD (x := (ks, ms)) (ea_cons ((ev_var (a).env (i := 0) rfl)) (ea_cons ((ev_var (a).env (i := 2) rfl)) ea_nil)) ⟨hp.2.1, hp.2.2⟩) fun σ1 H1 e1 a1 => ?_
  exact s_ret (en_lc (fun n : Nat => decide (paid ks ms + kw ks n ≤ c)) (fun n => .int (n : Nat)) (src_ken (ea_cons ((ev_var (a1).env (i := 0) rfl)) ea_nil)) a1.env (by rw [List.length_range]; exact Nat.le_trans hp.1 (by decide)) (by decide) (fun _ _ _ => rfl)
    (fun k _ σ' H' e en => et_s (ev_le (ev_add ((ev_var en (i := 3) rfl)) (ev_ixT ((ev_var en (i := 5) rfl)) ev_int rfl)) ((ev_var en (i := 1) rfl)))) (fun k _ _ σ' H' e en => (ev_var en (i := 4) rfl))).toS fun u H2 e hu => q _ _ _ rfl (a1.ex.trans e) hu
/-! l_refused -/
abbrev spRefused (K : PySem.W.Frag) : Sp := SpF K (α := Int × RSt × Int) (fun x => [.int x.1, stD x.2.1, .int x.2.2]) (fun _ => True) fun x => .bool (refused x.1 x.2.1 x.2.2)
theorem ok_refused (F : Fun K "_law_refused" "_law_refused" s_l_refused f fd) : FnOk P w K mg base CX0 1 f fd p_l_refused (spRefused K) := by
  refine run_def F sc_l_refused (fun _ => rfl) fun cdv A outer s H vs Q E x hr hp a q => ?_
  refine ⟨_, (pss_cons (ps_asg (pv 1) (pg_tup rfl (pgs_cons (pg_name (i := 3) sc_l_refused.nd rfl (.inl rfl)) (pgs_cons (pg_name (i := 4) sc_l_refused.nd rfl (.inl rfl)) pgs_nil))))
(pss_cons (ps_if (pt_cmpR op_gt (pv 2) (pv 0) (nomark _))
(pss_one (ps_ret pe_bl))
pss_nil)
(pss_cons (ps_if (pt_cmpR (op_eqD hr.units) (pv 4) (pe_tup pa_nil) (nomark _))
(pss_one (ps_ret pe_bl))
pss_nil)
(pss_cons (ps_set (i := 5) sc_l_refused.nd rfl (.inl rfl) (pe_ix (ix_seqK (K := K)) (pe_ix (ix_seqK (K := K)) (pv 4) pe_int (fun _ _ => rfl)) pe_int (fun _ _ => rfl)))
(pss_cons (ps_if (pt_cmpR op_le (pv 3) (pv 5) (nomark _))
(pss_one (ps_ret (pe_cmpR op_gt (pe_op op_add (pv 3) (pv 2)) (pv 5) (nomark _))))
pss_nil)
(pss_one (ps_ret (pe_and (pe_cmpR op_gt (pe_op op_add (pv 3) (pv 2)) (pv 0) (nomark _)) (pe_one (pe_cmpR op_gt (pv 2) (pv 5) (nomark _))))))))))), ?_⟩
  obtain ⟨W, ⟨p, ms⟩, n⟩ := x
  have a : At K H [.d (.int W), .d (stD (p, ms)), .d (.int n), .un, .un, .un] (start n_l_refused vs) H := a
  have fin : ∀ {te : TE} {b : Bool} {σ1 : L2.St} {H1 : Hp} (e1 : Ex H H1) (h : EvS K te σ1 H1 (.d (.bool b))), b = refused W (p, ms) n → tRet te { nx := fun _ H' => Q .non H', rt := Q } σ1 H1 := fun e1 h z =>
    s_ret h fun u H2 e2 hu => q _ _ _ rfl (e1.trans e2) (by rw [z] at hu; exact hu)
  refine q_two a ((ev_var (a).env (i := 1) rfl)) fun σ1 H1 e1 a1 => ?_
  refine q_when a1 (et_s (ev_gt ((ev_var (a1).env (i := 2) rfl)) ((ev_var (a1).env (i := 0) rfl)))) (fun hb H2 e2 a2 => ?_) fun hb H2 e2 a2 => ?_
  · refine fin a2.ex ev_bl ?_
    unfold refused
    rw [if_pos (of_decide_eq_true hb)]
  have hW : ¬ W < n := of_decide_eq_false hb
  refine q_when a2 (et_s (ev_eqNilT ((ev_var (a2).env (i := 4) rfl)) (shp_mss ms) ev_nilT)) (fun hb H3 e3 a3 => ?_) fun hb H3 e3 a3 => ?_
  · have hm : ms = [] := by
      cases ms with
      | nil => rfl
      | cons _ _ => simp at hb
    subst hm
    refine fin a3.ex ev_bl ?_
    unfold refused
    rw [if_neg hW]
  cases ms with
  | nil => simp at hb
  | cons m ms =>
    refine q_asg a3 (ev_ixT (ev_ixT ((ev_var (a3).env (i := 4) rfl)) ev_int (d := msD m) (at_map (n := 0) rfl)) ev_int (d := .int m.1) rfl) fun σ4 H4 e4 a4 => ?_
    refine q_when a4 (et_s (ev_le ((ev_var (a4).env (i := 3) rfl)) ((ev_var (a4).env (i := 5) rfl)))) (fun hb H5 e5 a5 => ?_) fun hb H5 e5 a5 => ?_
    · refine fin a5.ex (ev_gt (ev_add ((ev_var (a5).env (i := 3) rfl)) ((ev_var (a5).env (i := 2) rfl))) ((ev_var (a5).env (i := 5) rfl))) ?_
      unfold refused
      rw [if_neg hW]
      simp only
      rw [if_pos (of_decide_eq_true hb)]
    · refine fin a5.ex (ev_andV (ev_gt (ev_add ((ev_var (a5).env (i := 3) rfl)) ((ev_var (a5).env (i := 2) rfl))) ((ev_var (a5).env (i := 0) rfl))) fun _ => ev_gt ((ev_var (a5).env (i := 2) rfl)) ((ev_var (a5).env (i := 5) rfl))) ?_
      unfold refused
      rw [if_neg hW]
      simp only
      rw [if_neg (of_decide_eq_false hb)]
/-! l_pushed -/
abbrev spPushed (K : PySem.W.Frag) : Sp := SpF K (α := List Kd × Int × RSt × Nat) (fun x => [kdD x.1, .int x.2.1, stD x.2.2.1, .int (x.2.2.2 : Nat)]) (fun x => x.2.2.2 < x.1.length ∧ x.2.2.1.2.length ≤ 1000) fun x => stD (pushed x.1 x.2.1 x.2.2.1 x.2.2.2)
theorem ok_pushed (F : Fun K "_law_pushed" "_law_pushed" s_l_pushed f fd) : FnOk P w K mg base CX0 1 f fd p_l_pushed (spPushed K) := by
  refine run_def F sc_l_pushed (fun _ => rfl) fun cdv A outer s H vs Q E x hr hp a q => ?_
  refine ⟨_, (pss_cons (ps_asg (pv 2) (pg_tup rfl (pgs_cons (pg_name (i := 4) sc_l_pushed.nd rfl (.inl rfl)) (pgs_cons (pg_name (i := 5) sc_l_pushed.nd rfl (.inl rfl)) pgs_nil))))
(pss_cons (ps_set (i := 6) sc_l_pushed.nd rfl (.inl rfl) (pe_ix (ix_seqK (K := K)) (pe_ix (ix_seqK (K := K)) (pv 0) (pv 3) (fun _ _ => rfl)) pe_int (fun _ _ => rfl)))
(pss_cons (ps_set (i := 7) sc_l_pushed.nd rfl (.inl rfl) (pe_ifExp (pt_cmpR op_le (pe_op op_add (pv 4) (pv 6)) (pv 1) (nomark _)) (pv 4) pe_int))
(pss_one (ps_ret (pe_tup (pa_cons (pe_op op_add (pv 7) (pv 6)) (pa_cons (pe_op op_catA (pv 5) (pe_tup (pa_cons (pe_tup (pa_cons (pv 7) (pa_cons (pv 3) pa_nil))) pa_nil))) pa_nil)))))))), ?_⟩
  obtain ⟨ks, W, ⟨p, ms⟩, n⟩ := x
  have a : At K H [.d (kdD ks), .d (.int W), .d (stD (p, ms)), .d (.int (n : Nat)), .un, .un, .un, .un] (start n_l_pushed vs) H := a
  refine q_two a ((ev_var (a).env (i := 2) rfl)) fun σ1 H1 e1 a1 => ?_
  refine q_asg a1 (ev_kl ((ev_var (a1).env (i := 0) rfl)) ((ev_var (a1).env (i := 3) rfl)) hp.1) fun σ2 H2 e2 a2 => ?_
  refine q_asg (l := .d (.int (if p + kl ks n ≤ W then p else 0))) a2 (ev_if (et_s (ev_le (ev_add ((ev_var (a2).env (i := 4) rfl)) ((ev_var (a2).env (i := 6) rfl))) ((ev_var (a2).env (i := 1) rfl)))) (fun hb => ?_) fun hb => ?_) fun σ3 H3 e3 a3 => ?_
  · rw [if_pos (of_decide_eq_true hb)]
    exact (ev_var (a2).env (i := 4) rfl)
  · rw [if_neg (of_decide_eq_false hb)]
    exact ev_int
  · have hm : (ms ++ [((if p + kl ks n ≤ W then p else 0), n)]).map msD = ms.map msD ++ [.tuple [.int (if p + kl ks n ≤ W then p else 0), .int (n : Nat)]] := by rw [List.map_append]; rfl
    refine s_ret (ev_tup (ds := [.int ((if p + kl ks n ≤ W then p else 0) + kl ks n), .tuple ((ms ++ [((if p + kl ks n ≤ W then p else 0), n)]).map msD)]) (ea_cons (ev_add ((ev_var (a3).env (i := 7) rfl)) ((ev_var (a3).env (i := 6) rfl))) (ea_cons ?_ ea_nil)) (by decide : 2 ≤ 100000)) fun u H4 e4 hu => q _ _ _ rfl (a3.ex.trans e4) hu
    rw [hm]
    refine ev_catT ((ev_var (a3).env (i := 5) rfl)) (ev_tup (ds := [.tuple [.int (if p + kl ks n ≤ W then p else 0), .int (n : Nat)]]) (ea_cons (ev_tup (ds := [.int (if p + kl ks n ≤ W then p else 0), .int (n : Nat)]) (ea_cons ((ev_var (a3).env (i := 7) rfl)) (ea_cons ((ev_var (a3).env (i := 3) rfl)) ea_nil)) (by decide : 2 ≤ 100000)) ea_nil) (by decide : 1 ≤ 100000)) ?_
    have h2 : ms.length ≤ 1000 := hp.2
    rw [List.length_map, List.length_singleton]
    omega
/-! l_bad -/
abbrev spBad (K : PySem.W.Frag) : Sp := SpF K (α := List Kd × Int × Int × RSt) (fun x => [kdD x.1, .int x.2.1, .int x.2.2.1, stD x.2.2.2]) (fun x => x.1.length ≤ 1000 ∧ x.2.2.2.2.length ≤ 1000 ∧ ∀ m ∈ x.2.2.2.2, m.2 < x.1.length) fun x => numsD (bad x.1 x.2.1 x.2.2.1 x.2.2.2)
theorem may_lt {ks : List Kd} {c : Int} {ms : List (Int × Nat)} : ∀ n ∈ may ks c ms, n < ks.length := fun n h => (mem_may.mp h).1
theorem may_len {ks : List Kd} {c : Int} {ms : List (Int × Nat)} : (may ks c ms).length ≤ ks.length := by
  have := List.length_filter_le (fun n => decide (paid ks ms + kw ks n ≤ c)) (List.range ks.length)
  rw [List.length_range] at this
  exact this
theorem ok_bad (T : Tx w K mg C) (G_l_may : Cal P w K mg base 2 "_law_may" (spMay K) []) (G_l_refused : Cal P w K mg base 1 "_law_refused" (spRefused K) []) (F : Fun K "_law_bad" "_law_bad" s_l_bad f fd) : FnOk P w K mg base CX0 3 f fd p_l_bad (spBad K) := by
  refine run_def F sc_l_bad (fun _ => rfl) fun cdv A outer s H vs Q E x hr hp a q => ?_
  refine ⟨_, (pss_cons (ps_set (i := 4) sc_l_bad.nd rfl (.inl rfl) (pe_c G_l_may hr (by decide) (by rfl) (pa_cons (pv 0) (pa_cons (pv 1) (pa_cons (pe_ix (ix_seqK (K := K)) (pv 3) pe_int (fun _ _ => rfl)) pa_nil)))))
(pss_one (ps_ret (pe_lc (own := [("_law_number", 5)]) (g := gName 5) rfl sc_l_bad.nd (pi_list (pv 4)) (blkOk_by (N := n_l_bad) (sc := defScope s_l_bad) (by decide +kernel)) (fun _ _ _ _ _ => (pg_name (i := 5) sc_l_bad.nd rfl (.inl rfl))) (fun _ _ _ _ _ => (pts_one (pt_val (pe_c G_l_refused hr (by decide) (by rfl) (pa_cons (pv 2) (pa_cons (pv 3) (pa_cons (pe_ix (ix_seqK (K := K)) (pe_ix (ix_seqK (K := K)) (pv 0) (pv 5) (fun _ _ => rfl)) pe_int (fun _ _ => rfl)) pa_nil))))))) (fun _ _ _ _ _ => (pv 5)))))), ?_⟩
  obtain ⟨ks, c, W, ⟨p, ms⟩⟩ := x
  have a : At K H [.d (kdD ks), .d (.int c), .d (.int W), .d (stD (p, ms)), .un, .un] (start n_l_bad vs) H := a
  refine q_asg a (evD (x := (ks, c, ms)) (ea_cons ((ev_var (a).env (i := 0) rfl)) (ea_cons ((ev_var (a).env (i := 1) rfl)) (ea_cons (ev_ixT ((ev_var (a).env (i := 3) rfl)) ev_int rfl) ea_nil))) hp) fun σ1 H1 e1 a1 => ?_
  have hlen : (may ks c ms).length ≤ 1000000 := Nat.le_trans may_len (Nat.le_trans hp.1 (by decide))
  exact s_ret (en_lc (fun n : Nat => refused W (p, ms) (kl ks n)) (fun n => .int (n : Nat)) (src_list ((ev_var (a1).env (i := 4) rfl))) a1.env hlen (by decide) (fun _ _ _ => rfl)
    (fun k hk σ' H' e en => et_b (evD (x := (W, (p, ms), kl ks k)) (ea_cons ((ev_var en (i := 2) rfl)) (ea_cons ((ev_var en (i := 3) rfl)) (ea_cons (ev_kl ((ev_var en (i := 0) rfl)) ((ev_var en (i := 5) rfl)) (may_lt k hk)) ea_nil))) trivial)) (fun k _ _ σ' H' e en => (ev_var en (i := 5) rfl))).toS fun u H2 e hu => q _ _ _ rfl (a1.ex.trans e) hu
/-! sizes_of -/
def sizes (ks : List Kd) (n : Nat) : Wr.Shape → Int × Int
  | .long => (0, kl ks n - 1)
  | .short h b => (h + b, h + b + kl ks n - 1)
  | .caught h b _ t => (h + b, h + b + kl ks t - 1)
def ShLt (ks : List Kd) : Wr.Shape → Prop
  | .caught _ _ _ t => t < ks.length
  | _ => True
abbrev spSizes (K : PySem.W.Frag) : Sp := SpF K (α := List Kd × Wr.Shape × Nat) (fun x => [kdD x.1, shD x.2.1, .int (x.2.2 : Nat)]) (fun x => x.2.2 < x.1.length ∧ ShLt x.1 x.2.1) fun x => pr (sizes x.1 x.2.2 x.2.1)
theorem ok_sizes (T : Tx w K mg C) (F : Fun K "sizes_of" "sizes_of" s_sizes_of f fd) : FnOk P w K mg base CX0 1 f fd p_sizes_of (spSizes K) := by
  refine run_def F sc_sizes_of (fun _ => rfl) fun cdv A outer s H vs Q E x hr hp a q => ?_
  refine ⟨_, (pss_cons (ps_set (i := 3) sc_sizes_of.nd rfl (.inl rfl) (pe_ix (ix_seqK (K := K)) (pe_ix (ix_seqK (K := K)) (pv 0) (pv 2) (fun _ _ => rfl)) pe_int (fun _ _ => rfl)))
(pss_cons (ps_if (pt_cmpR op_eq (pe_ix (ix_seqK (K := K)) (pv 1) pe_int (fun _ _ => rfl)) (pe_cst rfl T.s_LONG) (nomark _))
(pss_one (ps_ret (pe_tup (pa_cons pe_int (pa_cons (pe_op op_sub (pv 3) pe_int) pa_nil)))))
pss_nil)
(pss_cons (ps_set (i := 4) sc_sizes_of.nd rfl (.inl rfl) (pe_op op_add (pe_ix (ix_seqK (K := K)) (pv 1) pe_int (fun _ _ => rfl)) (pe_ix (ix_seqK (K := K)) (pv 1) pe_int (fun _ _ => rfl))))
(pss_cons (ps_set (i := 5) sc_sizes_of.nd rfl (.inl rfl) (pe_ifExp (pt_cmpR op_eq (pe_ix (ix_seqK (K := K)) (pv 1) pe_int (fun _ _ => rfl)) (pe_cst rfl T.s_SHORT_END) (nomark _)) (pv 3) (pe_ix (ix_seqK (K := K)) (pe_ix (ix_seqK (K := K)) (pv 0) (pe_ix (ix_seqK (K := K)) (pv 1) pe_int (fun _ _ => rfl)) (fun _ _ => rfl)) pe_int (fun _ _ => rfl))))
(pss_one (ps_ret (pe_tup (pa_cons (pv 4) (pa_cons (pe_op op_sub (pe_op op_add (pv 4) (pv 5)) pe_int) pa_nil))))))))), ?_⟩
  obtain ⟨ks, sh, n⟩ := x
  have a : At K H [.d (kdD ks), .d (shD sh), .d (.int (n : Nat)), .un, .un, .un] (start n_sizes_of vs) H := a
  have out : ∀ {tr : TA} {i j : Int} {σ1 : L2.St} {H1 : Hp} (e1 : Ex H H1) (h : EvAS K tr σ1 H1 [.d (.int i), .d (.int j)]), (i, j) = sizes ks n sh → tRet (tTup tr) { nx := fun _ H' => Q .non H', rt := Q } σ1 H1 := fun {tr i j σ1 H1} e1 h z =>
    s_ret (ev_tup (ds := [.int i, .int j]) h (by decide : 2 ≤ 100000)) fun u H2 e2 hu => q _ _ _ rfl (e1.trans e2) (by show Dp K H2 u (pr (sizes ks n sh)); rw [← z]; exact hu)
  refine q_asg a (ev_kl ((ev_var (a).env (i := 0) rfl)) ((ev_var (a).env (i := 2) rfl)) hp.1) fun σ1 H1 e1 a1 => ?_
  cases sh with
  | long =>
    refine q_when a1 (et_s (ev_eqS (i := "long") (j := "long") (ev_ixT ((ev_var (a1).env (i := 1) rfl)) ev_int rfl) ev_str)) (fun hb H2 e2 a2 => ?_) fun hb _ _ _ => absurd hb (by decide)
    exact out a2.ex (ea_cons ev_int (ea_cons (ev_sub ((ev_var (a2).env (i := 3) rfl)) ev_int) ea_nil)) rfl
  | short h b =>
    refine q_when a1 (et_s (ev_eqS (i := "short end") (j := "long") (ev_ixT ((ev_var (a1).env (i := 1) rfl)) ev_int rfl) ev_str)) (fun hb _ _ _ => absurd hb (by decide)) fun hb H2 e2 a2 => ?_
    refine q_asg a2 (ev_add (ev_ixT ((ev_var (a2).env (i := 1) rfl)) ev_int rfl) (ev_ixT ((ev_var (a2).env (i := 1) rfl)) ev_int rfl)) fun σ3 H3 e3 a3 => ?_
    refine q_asg (l := .d (.int (kl ks n))) a3 (ev_if (et_s (ev_eqS (i := "short end") (j := "short end") (ev_ixT ((ev_var (a3).env (i := 1) rfl)) ev_int rfl) ev_str)) (fun _ => (ev_var (a3).env (i := 3) rfl)) fun hb => absurd hb (by decide)) fun σ4 H4 e4 a4 => ?_
    exact out a4.ex (ea_cons ((ev_var (a4).env (i := 4) rfl)) (ea_cons (ev_sub (ev_add ((ev_var (a4).env (i := 4) rfl)) ((ev_var (a4).env (i := 5) rfl))) ev_int) ea_nil)) rfl
  | caught h b p t =>
    refine q_when a1 (et_s (ev_eqS (i := "caught up") (j := "long") (ev_ixT ((ev_var (a1).env (i := 1) rfl)) ev_int rfl) ev_str)) (fun hb _ _ _ => absurd hb (by decide)) fun hb H2 e2 a2 => ?_
    refine q_asg a2 (ev_add (ev_ixT ((ev_var (a2).env (i := 1) rfl)) ev_int rfl) (ev_ixT ((ev_var (a2).env (i := 1) rfl)) ev_int rfl)) fun σ3 H3 e3 a3 => ?_
    refine q_asg (l := .d (.int (kl ks t))) a3 (ev_if (et_s (ev_eqS (i := "caught up") (j := "short end") (ev_ixT ((ev_var (a3).env (i := 1) rfl)) ev_int rfl) ev_str)) (fun hb => absurd hb (by decide)) fun _ => ev_kl ((ev_var (a3).env (i := 0) rfl)) (ev_ixT ((ev_var (a3).env (i := 1) rfl)) ev_int rfl) hp.2) fun σ4 H4 e4 a4 => ?_
    exact out a4.ex (ea_cons ((ev_var (a4).env (i := 4) rfl)) (ea_cons (ev_sub (ev_add ((ev_var (a4).env (i := 4) rfl)) ((ev_var (a4).env (i := 5) rfl))) ev_int) ea_nil)) rfl
/-! l_form -/
theorem first_at {α : Type} (p : α → Bool) (d : α) : ∀ (l : List α), (∃ x ∈ l, p x = true) → ((List.range l.length).filter fun n => p (l.getD n d))[0]? = some (l.findIdx p)
  | [], h => by obtain ⟨x, hx, _⟩ := h; exact nomatch hx
  | a :: l, h => by
    rw [List.length_cons, List.range_succ_eq_map, List.filter_cons]
    by_cases ha : p a = true
    · rw [if_pos (by simpa using ha), List.findIdx_cons, ha]
      rfl
    · have hl : ∃ x ∈ l, p x = true := by
        obtain ⟨x, hx, hp⟩ := h
        rcases List.mem_cons.mp hx with rfl | hx
        · exact absurd hp ha
        · exact ⟨x, hx, hp⟩
      have ih := first_at p d l hl
      rw [if_neg (by simpa using ha), List.filter_map, List.getElem?_map]
      have e : ((fun n => p ((a :: l).getD n d)) ∘ Nat.succ) = fun n => p (l.getD n d) := by funext n; rfl
      rw [e, ih, List.findIdx_cons]
      rw [show p a = false by simpa using ha]
      rfl
theorem src_en {α : Type} {xs : List α} {F : α → PyData} (d0 : α) {tr : TA} {σ : L2.St} {H : Hp} {i j : Nat} (h : EvAS K tr σ H [.d (.tuple (xs.map F))]) (hn : noLs (xs.map F) = true) :
    Src K (iEnumT K tr) (gTup K 2 (gCons (gName i) (gCons (gName j) gNil))) [i, j] σ H ((List.range xs.length).map fun n => [.d (.int (n : Nat)), .d (F (xs.getD n d0))]) ExT := by
  have := src_enumT (i := i) (j := j) (ds := xs.map F) h hn
  rwa [show ((xs.map F).zipIdx).map (fun p => [Sl.d (.int (p.2 : Nat)), .d p.1]) = (List.range xs.length).map fun n => [Sl.d (.int (n : Nat)), .d (F (xs.getD n d0))] from
    List.ext_getElem (by simp) fun n h1 h2 => by
      simp at h1
      simp [List.getD_eq_getElem?_getD, List.getElem?_eq_getElem h1]] at this
theorem tot_sum (ks : List Kd) (ms : List (Int × Nat)) : (ms.map fun m => kl ks m.2).sum = tot ks (ms.map (·.2)) := by
  unfold tot len
  rw [List.map_map, List.map_map]
  rfl
abbrev FormOk (ks : List Kd) (W : Int) (st : RSt) (n : Nat) : Prop := W < kl ks n ∨ (st.2 ≠ [] ∧ ((st.2.headD (0, 0)).1 < st.1 ∨ ∃ m ∈ st.2, m.1 < (st.2.headD (0, 0)).1))
abbrev spForm (K : PySem.W.Frag) : Sp := SpF K (α := List Kd × Int × RSt × Nat) (fun x => [kdD x.1, .int x.2.1, stD x.2.2.1, .int (x.2.2.2 : Nat)]) (fun x => x.2.2.2 < x.1.length ∧ x.2.2.1.2.length ≤ 1000 ∧ (∀ m ∈ x.2.2.1.2, m.2 < x.1.length) ∧ FormOk x.1 x.2.1 x.2.2.1 x.2.2.2) fun x => shD (form x.1 x.2.1 x.2.2.1 x.2.2.2)
theorem ok_form (T : Tx w K mg C) (F : Fun K "_law_form" "_law_form" s_l_form f fd) : FnOk P w K mg base CX0 1 f fd p_l_form (spForm K) := by
  refine run_def F sc_l_form (fun _ => rfl) fun cdv A outer s H vs Q E x hr hp a q => ?_
  refine ⟨_, (pss_cons (ps_asg (pv 2) (pg_tup rfl (pgs_cons (pg_name (i := 4) sc_l_form.nd rfl (.inl rfl)) (pgs_cons (pg_name (i := 5) sc_l_form.nd rfl (.inl rfl)) pgs_nil))))
(pss_cons (ps_if (pt_cmpR op_gt (pe_ix (ix_seqK (K := K)) (pe_ix (ix_seqK (K := K)) (pv 0) (pv 3) (fun _ _ => rfl)) pe_int (fun _ _ => rfl)) (pv 1) (nomark _))
(pss_one (ps_ret (pe_tup (pa_cons pe_str pa_nil))))
pss_nil)
(pss_cons (ps_set (i := 6) sc_l_form.nd rfl (.inr rfl) (pe_ix (ix_seqK (K := K)) (pe_ix (ix_seqK (K := K)) (pv 5) pe_int (fun _ _ => rfl)) pe_int (fun _ _ => rfl)))
(pss_cons (ps_setLc (i := 7) (own := [("_law_start", 9), ("_law_one", 10)]) (g := gTup K 2 (gCons (gName 9) (gCons (gName 10) (gNil)))) (tt := tYes) rfl sc_l_form.nd rfl rfl (sw_true rfl rfl rfl (by decide +kernel)) (pi_tup (pv 5)) (blkOk_by (N := n_l_form) (sc := defScope s_l_form) (by decide +kernel)) (fun _ _ _ _ _ => (pg_tup rfl (pgs_cons (pg_name (i := 9) sc_l_form.nd rfl (.inl rfl)) (pgs_cons (pg_name (i := 10) sc_l_form.nd rfl (.inl rfl)) pgs_nil)))) (fun _ _ _ _ _ => pts_nil) (fun _ _ _ _ _ => (pe_ix (ix_seqK (K := K)) (pe_ix (ix_seqK (K := K)) (pv 0) (pv 10) (fun _ _ => rfl)) pe_int (fun _ _ => rfl))))
(pss_cons (ps_if (pt_cmpR op_gt (pv 4) (pv 6) (nomark _))
(pss_one (ps_ret (pe_tup (pa_cons pe_str (pa_cons (pv 6) (pa_cons (pe_callB (cr_sum rfl) (by rfl) T.b_sum bt_sum (pa_cons (pv 7) pa_nil)) pa_nil))))))
pss_nil)
(pss_cons (ps_set (i := 8) sc_l_form.nd rfl (.inl rfl) (pe_ix (ix_seqK (K := K)) (pe_lc (own := [("_law_at", 11), ("_law_message", 12)]) (g := gTup K 2 (gCons (gName 11) (gCons (gName 12) (gNil)))) rfl sc_l_form.nd (pi_enumT (by rfl) T.b_enumerate (pa_cons (pv 5) pa_nil)) (blkOk_by (N := n_l_form) (sc := defScope s_l_form) (by decide +kernel)) (fun _ _ _ _ _ => (pg_tup rfl (pgs_cons (pg_name (i := 11) sc_l_form.nd rfl (.inl rfl)) (pgs_cons (pg_name (i := 12) sc_l_form.nd rfl (.inl rfl)) pgs_nil)))) (fun _ _ _ _ _ => (pts_one (pt_cmpR op_lt (pe_ix (ix_seqK (K := K)) (pv 12) pe_int (fun _ _ => rfl)) (pv 6) (nomark _)))) (fun _ _ _ _ _ => (pv 11))) pe_int (fun _ _ => rfl)))
(pss_one (ps_ret (pe_tup (pa_cons pe_str (pa_cons (pv 6) (pa_cons (pe_callB (cr_sum rfl) (by rfl) T.b_sum bt_sum (pa_cons (pe_slice sl_list (pv 7) po_none (po_some (pv 8))) pa_nil)) (pa_cons (pe_callB (cr_sum rfl) (by rfl) T.b_sum bt_sum (pa_cons (pe_slice sl_list (pv 7) (po_some (pv 8)) po_none) pa_nil)) (pa_cons (pe_ix (ix_seqK (K := K)) (pe_ix (ix_seqK (K := K)) (pv 5) (pv 8) (fun _ _ => rfl)) pe_int (fun _ _ => rfl)) pa_nil)))))))))))))), ?_⟩
  obtain ⟨ks, W, ⟨p, ms⟩, n⟩ := x
  obtain ⟨h1, h2, h3, h4⟩ := hp
  have h1 : n < ks.length := h1
  have h2 : ms.length ≤ 1000 := h2
  have h3 : ∀ m ∈ ms, m.2 < ks.length := h3
  have h4 : FormOk ks W (p, ms) n := h4
  have a : At K H [.d (kdD ks), .d (.int W), .d (stD (p, ms)), .d (.int (n : Nat)), .un, .un, .un, .un, .un, .un, .un, .un, .un] (start n_l_form vs) H := a
  have out : ∀ {te : TE} {d : PyData} {σ1 : L2.St} {H1 : Hp} (e1 : Ex H H1) (h : EvS K te σ1 H1 (.d d)), d = shD (form ks W (p, ms) n) → tRet te { nx := fun _ H' => Q .non H', rt := Q } σ1 H1 := fun e1 h z =>
    s_ret h fun u H2 e2 hu => q _ _ _ rfl (e1.trans e2) (by rw [z] at hu; exact hu)
  refine q_two a ((ev_var (a).env (i := 2) rfl)) fun σ1 H1 e1 a1 => ?_
  refine q_when a1 (et_s (ev_gt (ev_kl ((ev_var (a1).env (i := 0) rfl)) ((ev_var (a1).env (i := 3) rfl)) h1) ((ev_var (a1).env (i := 1) rfl)))) (fun hb H2 e2 a2 => ?_) fun hb H2 e2 a2 => ?_
  · refine out a2.ex (ev_tup (ds := [.str "long"]) (ea_cons ev_str ea_nil) (by decide : 1 ≤ 100000)) ?_
    rw [form_long (of_decide_eq_true hb)]
    rfl
  have hW : ¬ W < kl ks n := of_decide_eq_false hb
  obtain ⟨hne, hcase⟩ : ms ≠ [] ∧ ((ms.headD (0, 0)).1 < p ∨ ∃ m ∈ ms, m.1 < (ms.headD (0, 0)).1) := by
    rcases h4 with h | h
    · exact absurd h hW
    · exact h
  obtain ⟨m0, hm0⟩ : ∃ m0, ms[0]? = some m0 ∧ ms.headD (0, 0) = m0 := by
    cases ms with
    | nil => exact absurd rfl hne
    | cons m r => exact ⟨m, rfl, rfl⟩
  obtain ⟨hm0, hm1⟩ := hm0
  rw [hm1] at hcase
  refine q_asg a2 (ev_ixT (ev_ixT ((ev_var (a2).env (i := 5) rfl)) ev_int (d := msD m0) (at_map (n := 0) hm0)) ev_int (d := .int m0.1) rfl) fun σ3 H3 e3 a3 => ?_
  have hl := en_lcA (te := tOp (rIx K) (tOp (rIx K) (tVar 0) (tVar 10)) (tC (.int 0))) (vs := [9, 10]) (fun m : Int × Nat => .int (kl ks m.2)) (src_tup2 (i := 9) (j := 10) (xs := ms) (f1 := fun m => .int m.1) (f2 := fun m => .int (m.2 : Nat)) ((ev_var (a3).env (i := 5) rfl)) fun _ _ => ⟨rfl, rfl⟩) a3.env (Nat.le_trans h2 (by decide)) (by decide) (fun _ _ => rfl)
    fun m hm σ' H' e en => ev_kl ((ev_var en (i := 0) rfl)) ((ev_var en (i := 10) rfl)) (h3 m hm)
  have : (ms.map fun m : Int × Nat => PyData.int (kl ks m.2)) = (ms.map fun m => kl ks m.2).map .int := by rw [List.map_map]; rfl
  rw [this] at hl
  refine q_asg a3 hl.toS fun σ4 H4 e4 a4 => ?_
  refine q_when a4 (et_s (ev_gt ((ev_var (a4).env (i := 4) rfl)) ((ev_var (a4).env (i := 6) rfl)))) (fun hb H5 e5 a5 => ?_) fun hb H5 e5 a5 => ?_
  · refine out a5.ex (ev_tup (ds := [.str "short end", .int m0.1, .int (ms.map fun m => kl ks m.2).sum]) (ea_cons ev_str (ea_cons ((ev_var (a5).env (i := 6) rfl)) (ea_cons (ev_sum ((ev_var (a5).env (i := 7) rfl))) ea_nil))) (by decide : 3 ≤ 100000)) ?_
    unfold form
    rw [if_neg hW]
    simp only [hm1]
    rw [if_pos (of_decide_eq_true hb), tot_sum]
    rfl
  have hp' : ¬ m0.1 < p := of_decide_eq_false hb
  have hex : ∃ m ∈ ms, (fun m : Int × Nat => decide (m.1 < m0.1)) m = true := by
    rcases hcase with h | ⟨m, hm, h⟩
    · exact absurd h hp'
    · exact ⟨m, hm, decide_eq_true h⟩
  have hj := first_at (fun m : Int × Nat => decide (m.1 < m0.1)) (0, 0) ms hex
  have hlt : ms.findIdx (fun m => decide (m.1 < m0.1)) < ms.length := List.findIdx_lt_length_of_exists hex
  have htn := en_lc (te := tVar 11) (tt := tTest (tOp (rI0 fun i j => .bl (decide (i < j))) (tOp (rIx K) (tVar 12) (tC (.int 0))) (tVar 6))) (vs := [11, 12]) (fun n : Nat => decide ((ms.getD n (0, 0)).1 < m0.1)) (fun n => .int (n : Nat)) (src_en (i := 11) (j := 12) (0, 0) (ea_cons ((ev_var (a5).env (i := 5) rfl)) ea_nil) (noL_mss ms)) a5.env (by rw [List.length_range]; exact Nat.le_trans h2 (by decide)) (by decide) (fun _ _ _ => rfl)
    (fun k _ σ' H' e en => et_s (ev_lt (ev_ixT ((ev_var en (i := 12) rfl)) ev_int (d := .int (ms.getD k (0, 0)).1) rfl) ((ev_var en (i := 6) rfl)))) (fun k _ _ σ' H' e en => (ev_var en (i := 11) rfl))
  refine q_asg a5 (ev_ixL htn.toS ev_int (d := .int (ms.findIdx (fun m => decide (m.1 < m0.1)) : Nat)) (at_map (n := 0) hj)) fun σ6 H6 e6 a6 => ?_
  refine out a6.ex (ev_tup (ds := [.str "caught up", .int m0.1, .int ((ms.map fun m => kl ks m.2).take (ms.findIdx fun m => decide (m.1 < m0.1))).sum, .int ((ms.map fun m => kl ks m.2).drop (ms.findIdx fun m => decide (m.1 < m0.1))).sum, .int ((ms[ms.findIdx fun m => decide (m.1 < m0.1)]).2 : Nat)])
    (ea_cons ev_str (ea_cons ((ev_var (a6).env (i := 6) rfl)) (ea_cons (ev_sum ?_) (ea_cons (ev_sum ?_) (ea_cons (ev_ixT (ev_ixT ((ev_var (a6).env (i := 5) rfl)) ((ev_var (a6).env (i := 8) rfl)) (at_map (List.getElem?_eq_getElem hlt))) ev_int rfl) ea_nil))))) (by decide : 5 ≤ 100000)) ?_
  · rw [List.map_take]
    exact ev_slTo ((ev_var (a6).env (i := 7) rfl)) ((ev_var (a6).env (i := 8) rfl)) (by rw [List.length_map, List.length_map]; omega)
  · rw [List.map_drop]
    exact ev_slAt ((ev_var (a6).env (i := 7) rfl)) ((ev_var (a6).env (i := 8) rfl)) (by rw [List.length_map, List.length_map]; omega)
  · unfold form
    rw [if_neg hW]
    simp only [hm1]
    rw [if_neg hp', ← List.map_take, ← List.map_drop, tot_sum, tot_sum, List.map_take, List.map_drop, List.getD_eq_getElem?_getD, List.getElem?_eq_getElem hlt]
    rfl
end
end Wk

set_option maxHeartbeats 200000
set_option Elab.async false
set_option linter.all false
set_option maxRecDepth 100000
set_option maxHeartbeats 1000000
/-! WrB: the law's tables: yes, floors, slim, rich. -/
namespace Wk
open PySem PySem.Spec PyProof.Rows L2 Evl Wr
open C8 (Cal pe_c Met pe_mt pe_mt0 Mak pe_mk)

/-! ### the tables, plainly -/
def YesOk (ks : List Kd) (n : Nat) (bs : List Bool) : Prop := bs.length = n + 1 ∧ ∀ (j : Nat) (b : Bool), bs[j]? = some b → (b = true ↔ IsSum ks (j : Int))
def FloorsOk (ks : List Kd) (n : Nat) (fs : List Int) : Prop := fs.length = n + 1 ∧ ∀ (j : Nat) (f : Int), fs[j]? = some f → FloorAt ks (j : Int) f
def SlimOk (ks : List Kd) (n : Nat) (os : List (Option Int)) : Prop := os.length = n + 1 ∧ ∀ (j : Nat) (o : Option Int), os[j]? = some o → SlimAt ks (j : Int) o
def RichOk (ks : List Kd) (n : Nat) (rs : List Int) : Prop := rs.length = n + 1 ∧ ∀ (j : Nat) (r : Int), rs[j]? = some r → RichAt ks (j : Int) r
/-- what stands behind n + 1 items is at n + 1 -/
theorem snoc_at {α : Type} {xs : List α} {x y : α} {n j : Nat} (hl : xs.length = n + 1) (h : (xs ++ [x])[j]? = some y) : xs[j]? = some y ∨ (j = n + 1 ∧ y = x) := by
  by_cases hj : j < xs.length
  · rw [List.getElem?_append_left hj] at h
    exact .inl h
  · rw [List.getElem?_append_right (by omega)] at h
    have : j - xs.length = 0 := by
      have := (List.getElem?_eq_some_iff.mp h).1
      simp at this
      omega
    rw [this] at h
    exact .inr ⟨by omega, (Option.some.inj h).symm⟩
def yesV (ks : List Kd) (bs : List Bool) (t : Int) : List Bool := ks.map fun k => decide (k.1 ≤ t) && bs.getD (t - k.1).toNat false
theorem yes_zero (ks : List Kd) : YesOk ks 0 [true] := ⟨rfl, fun j b h => by
  cases j with
  | zero =>
    simp at h
    subst h
    exact ⟨fun _ => .zero, fun _ => rfl⟩
  | succ j => simp at h⟩
theorem yes_step {ks : List Kd} {n : Nat} {bs : List Bool} (g : Good ks) (h : YesOk ks n bs) : YesOk ks (n + 1) (bs ++ [(yesV ks bs ((n + 1 : Nat) : Int)).any id]) := by
  obtain ⟨hl, hb⟩ := h
  refine ⟨by rw [List.length_append, hl]; rfl, fun j b hj => ?_⟩
  rcases snoc_at hl hj with hj | ⟨rfl, rfl⟩
  · exact hb j b hj
  · rw [isSum_step g (by omega)]
    unfold yesV
    rw [List.any_eq_true]
    constructor
    · rintro ⟨b, hb', e⟩
      obtain ⟨k, hk, rfl⟩ := List.mem_map.mp hb'
      simp only [id] at e
      rw [Bool.and_eq_true] at e
      have hk1 := of_decide_eq_true e.1
      have gk := g k hk
      have hlt : (((n + 1 : Nat) : Int) - k.1).toNat < bs.length := by omega
      have e2 := e.2
      rw [List.getD_eq_getElem?_getD, List.getElem?_eq_getElem hlt] at e2
      have := (hb _ _ (List.getElem?_eq_getElem hlt)).mp e2
      rw [Int.toNat_of_nonneg (by omega)] at this
      exact ⟨k, hk, hk1, this⟩
    · rintro ⟨k, hk, hk1, hs⟩
      have gk := g k hk
      refine ⟨_, List.mem_map.mpr ⟨k, hk, rfl⟩, ?_⟩
      have hlt : (((n + 1 : Nat) : Int) - k.1).toNat < bs.length := by omega
      simp only [id]
      rw [decide_eq_true hk1, List.getD_eq_getElem?_getD, List.getElem?_eq_getElem hlt]
      refine (hb _ _ (List.getElem?_eq_getElem hlt)).mpr ?_
      rw [Int.toNat_of_nonneg (by omega)]
      exact hs
theorem floors_step {ks : List Kd} {n : Nat} {fs : List Int} {b : Bool} {f : Int} (h : FloorsOk ks n fs) (hb : b = true ↔ IsSum ks ((n + 1 : Nat) : Int)) (hf : fs[n]? = some f) : FloorsOk ks (n + 1) (fs ++ [if b = true then ((n + 1 : Nat) : Int) else f]) := by
  obtain ⟨hl, hs⟩ := h
  refine ⟨by rw [List.length_append, hl]; rfl, fun j x hj => ?_⟩
  rcases snoc_at hl hj with hj | ⟨rfl, rfl⟩
  · exact hs j x hj
  · by_cases hb' : b = true
    · rw [if_pos hb']
      exact floor_yes (hb.mp hb')
    · rw [if_neg hb']
      refine floor_no (fun z => hb' (hb.mpr z)) ?_
      have := hs n f hf
      rw [show ((n + 1 : Nat) : Int) - 1 = (n : Int) by omega]
      exact this
theorem floors_zero (ks : List Kd) : FloorsOk ks 0 [0] := ⟨rfl, fun j b h => by
  cases j with
  | zero =>
    simp at h
    subst h
    exact floor_yes .zero
  | succ j => simp at h⟩
/-- what stands at a place, else d -/
abbrev atD {α : Type} (d : α) (xs : List α) (t : Int) : α := xs.getD t.toNat d
theorem slim_zero' {ks : List Kd} (g : Good ks) : SlimOk ks 0 [some 0] := ⟨rfl, fun j b h => by
  cases j with
  | zero =>
    simp at h
    subst h
    exact slim_zero g
  | succ j => simp at h⟩
theorem atD_ok {α : Type} {d : α} {xs : List α} {n : Nat} {P : Int → α → Prop} (hl : xs.length = n + 1) (h : ∀ (j : Nat) (x : α), xs[j]? = some x → P (j : Int) x) : ∀ i, 0 ≤ i → i < ((n + 1 : Nat) : Int) → P i (atD d xs i) := fun i h0 h1 => by
  have hlt : i.toNat < xs.length := by omega
  have := h i.toNat _ (List.getElem?_eq_getElem hlt)
  rw [Int.toNat_of_nonneg h0] at this
  unfold atD
  rw [List.getD_eq_getElem?_getD, List.getElem?_eq_getElem hlt]
  exact this
theorem filterMap_some (l : List Int) : (l.map some).filterMap id = l := by
  induction l with
  | nil => rfl
  | cons a l ih => simp
theorem slim_step {ks : List Kd} {n : Nat} {os : List (Option Int)} (g : Good ks) (h : SlimOk ks n os) : SlimOk ks (n + 1) (os ++ [omin ((slimC ks (atD none os) ((n + 1 : Nat) : Int)).map some)]) := by
  obtain ⟨hl, hs⟩ := h
  refine ⟨by rw [List.length_append, hl]; rfl, fun j x hj => ?_⟩
  rcases snoc_at hl hj with hj | ⟨rfl, rfl⟩
  · exact hs j x hj
  · have ok := atD_ok (d := none) (P := SlimAt ks) hl hs
    unfold omin
    rw [filterMap_some]
    by_cases hc : slimC ks (atD none os) ((n + 1 : Nat) : Int) = []
    · rw [if_pos hc]
      exact slim_step_none g (by omega) ok hc
    · rw [if_neg hc]
      exact slim_step_some g (by omega) ok (lmin_mem hc) fun c hc' => lmin_le hc'
theorem rich_zero' {ks : List Kd} (g : Good ks) : RichOk ks 0 [0] := ⟨rfl, fun j b h => by
  cases j with
  | zero =>
    simp at h
    subst h
    exact rich_zero g
  | succ j => simp at h⟩
theorem rich_step' {ks : List Kd} {n : Nat} {rs : List Int} {r : Int} (g : Good ks) (h : RichOk ks n rs) (hr : rs[n]? = some r) : RichOk ks (n + 1) (rs ++ [lmax (r :: richC ks (atD 0 rs) ((n + 1 : Nat) : Int))]) := by
  obtain ⟨hl, hs⟩ := h
  refine ⟨by rw [List.length_append, hl]; rfl, fun j x hj => ?_⟩
  rcases snoc_at hl hj with hj | ⟨rfl, rfl⟩
  · exact hs j x hj
  · have ok := atD_ok (d := 0) (P := RichAt ks) hl hs
    have e : atD 0 rs (((n + 1 : Nat) : Int) - 1) = r := by
      unfold atD
      rw [show (((n + 1 : Nat) : Int) - 1).toNat = n by omega, List.getD_eq_getElem?_getD, hr]
      rfl
    refine rich_step g (by omega) ok ?_ ?_
    · rw [e]
      exact lmax_mem (List.cons_ne_nil _ _)
    · rw [e]
      exact fun c hc => le_lmax hc

/-! the tables as functions -/
def yesF (ks : List Kd) : Nat → List Bool
  | 0 => [true]
  | n + 1 => yesF ks n ++ [(yesV ks (yesF ks n) ((n + 1 : Nat) : Int)).any id]
def richF (ks : List Kd) : Nat → List Int
  | 0 => [0]
  | n + 1 => richF ks n ++ [lmax ((richF ks n).getD n 0 :: richC ks (atD 0 (richF ks n)) ((n + 1 : Nat) : Int))]
def slimF (ks : List Kd) : Nat → List (Option Int)
  | 0 => [some 0]
  | n + 1 => slimF ks n ++ [omin ((slimC ks (atD none (slimF ks n)) ((n + 1 : Nat) : Int)).map some)]
def floorsF (ks : List Kd) : Nat → List Int
  | 0 => [0]
  | n + 1 => floorsF ks n ++ [if (yesV ks (yesF ks n) ((n + 1 : Nat) : Int)).any id = true then ((n + 1 : Nat) : Int) else (floorsF ks n).getD n 0]
theorem yes_ok {ks : List Kd} (g : Good ks) : ∀ n, YesOk ks n (yesF ks n)
  | 0 => yes_zero ks
  | n + 1 => yes_step g (yes_ok g n)
theorem getD_at {α : Type} {d : α} {xs : List α} {n : Nat} (h : n < xs.length) : xs[n]? = some (xs.getD n d) := by
  rw [List.getD_eq_getElem?_getD, List.getElem?_eq_getElem h]
  rfl
theorem rich_ok {ks : List Kd} (g : Good ks) : ∀ n, RichOk ks n (richF ks n)
  | 0 => rich_zero' g
  | n + 1 => rich_step' g (rich_ok g n) (getD_at (by rw [(rich_ok g n).1]; omega))
theorem slim_ok {ks : List Kd} (g : Good ks) : ∀ n, SlimOk ks n (slimF ks n)
  | 0 => slim_zero' g
  | n + 1 => slim_step g (slim_ok g n)
theorem floors_ok {ks : List Kd} (g : Good ks) : ∀ n, FloorsOk ks n (floorsF ks n)
  | 0 => floors_zero ks
  | n + 1 => floors_step (floors_ok g n) (by
      have h := yes_ok g (n + 1)
      refine h.2 (n + 1) _ ?_
      show (yesF ks n ++ [_])[n + 1]? = _
      rw [List.getElem?_append_right (by rw [(yes_ok g n).1]; omega), (yes_ok g n).1, Nat.sub_self]
      rfl) (getD_at (by rw [(floors_ok g n).1]; omega))
/-- the table's items stand in the longer table -/
theorem yes_pre (ks : List Kd) {n : Nat} : ∀ {m : Nat}, n ≤ m → ∃ r, yesF ks m = yesF ks n ++ r
  | 0, h => ⟨[], by rw [show n = 0 by omega]; rfl⟩
  | m + 1, h => by
    by_cases e : n = m + 1
    · exact ⟨[], by rw [e, List.append_nil]⟩
    · obtain ⟨r, hr⟩ := yes_pre ks (n := n) (m := m) (by omega)
      exact ⟨r ++ [_], by rw [yesF, hr, List.append_assoc]⟩
/-! ### pins: a slot's value -/
section
variable {K : PySem.W.Frag} {H0 H H' : Hp} {sl : List Sl} {σ : L2.St} {te : TE} {tr : TA} {u : V} {d : PyData}
theorem set_same {α : Type} : ∀ {l : List α} {i : Nat} {x : α}, l[i]? = some x → l.set i x = l
  | [], _, _, h => by simp at h
  | a :: l, 0, x, h => by simp at h; simp [h]
  | a :: l, i + 1, x, h => by simp at h; simp [set_same h]
theorem At.pin (a : At K H0 sl σ H) (i : Nat) {d : PyData} (h : sl[i]? = some (.d d)) : ∃ u, Dp K H u d ∧ At K H0 (sl.set i (.v u)) σ H := by
  obtain ⟨u, h1, h2⟩ := a.env.get h (fun z => nomatch z)
  have := a.put i (l := .v u) (u := u) rfl
  rw [set_same h1] at this
  exact ⟨u, h2, this⟩
theorem ev_at (h : EvS K te σ H (.v u)) (hd : Dp K H0 u d) (e : Ex H0 H) : EvS K te σ H (.d d) := fun H1 e1 Q q => h H1 e1 Q fun v H2 e2 hv => q v H2 e2 (by
  have hv : v = u := hv
  rw [hv]
  exact dp_mono ((e.trans e1).trans e2) _ hd)
theorem en_cast {ds es : List PyData} (h : EvN K te σ H ds) (e : ds = es) : EvN K te σ H es := e ▸ h
theorem At.app {p : Addr} {o : HO} {xs : List V} (a : At K H0 sl σ H) (hp : H0 p = none) (h : H p = some (.lst xs)) (n : sl.all noLS = true) : At K H0 sl σ (upd H p o) := ⟨a.ex.mut hp, a.env.monoT (exT_lst h) n⟩
theorem src_up {tr : TA} {j : Nat} {n : Nat} (h : EvAS K tr σ H [.d (.int 1), .d (.int ((n : Int) + 1))]) (hn : n ≤ 100000) : Src K (iRng2 tr) (gName j) [j] σ H ((List.range n).map fun i => [.d (.int ((i + 1 : Nat) : Int))]) fun _ _ => True := by
  have := src_rng2 (j := j) h ⟨by decide, by decide, by omega, by omega⟩
  rw [show ((n : Int) + 1 - 1).toNat = n by omega] at this
  rwa [show ((List.range n).map fun i => [Sl.d (.int (1 + (i : Nat)))]) = ((List.range n).map fun i => [Sl.d (.int ((i + 1 : Nat) : Int))]) from List.map_congr_left fun i _ => by rw [show (1 + (i : Int)) = ((i + 1 : Nat) : Int) by omega]] at this
theorem range_at {n i x : Nat} (h : (List.range n)[i]? = some x) : x = i ∧ i < n := by
  obtain ⟨h1, h2⟩ := List.getElem?_eq_some_iff.mp h
  rw [List.getElem_range] at h2
  rw [List.length_range] at h1
  exact ⟨h2.symm, h1⟩
end

section
variable {P : Program} {w : World} {K : PySem.W.Frag} {mg : Str → Option Value} {base : Heap} {C f : Addr} {fd : FuncData}
abbrev tabE (x : List Kd × Nat) : List PyData := [.list (x.1.map pr), .int (x.2 : Nat)]
abbrev tabP (x : List Kd × Nat) : Prop := Good x.1 ∧ x.1.length ≤ 1000 ∧ x.2 ≤ 5000
abbrev spYes (K : PySem.W.Frag) : Sp := SpF K (α := List Kd × Nat) tabE tabP fun x => .list ((yesF x.1 x.2).map .bool)
theorem ok_yes (T : Tx w K mg C) (F : Fun K "_law_yes" "_law_yes" s_l_yes f fd) : FnOk P w K mg base CX0 1 f fd p_l_yes (spYes K) := by
  refine run_def F sc_l_yes (fun _ => rfl) fun cdv A outer s H vs Q E x hr hp a q => ?_
  refine ⟨_, (pss_cons (ps_set (i := 2) sc_l_yes.nd rfl (.inr rfl) (pe_lst (pa_cons pe_bl pa_nil)))
(pss_cons (ps_for PassesOwn.never rfl (pi_range2 (by rfl) T.b_range (pa_cons pe_int (pa_cons (pe_op op_add (pv 1) pe_int) pa_nil))) (pg_name (i := 3) sc_l_yes.nd rfl (.inr rfl))
(pss_one (ps_expr (pe_bm PySem.F.plainAttrs_list PySem.F.slot_list_append PySem.F.type_list_append mt_append (pv 2) (pa_cons (pe_callB (cr_any rfl) (by rfl) T.b_any bt_any (pa_cons (pe_lc (own := [("_law_length", 4), ("_law_heavy", 5)]) (g := gTup K 2 (gCons (gName 4) (gCons (gName 5) (gNil)))) (tt := tYes) rfl sc_l_yes.nd (pi_list (pv 0)) (blkOk_by (N := n_l_yes) (sc := defScope s_l_yes) (by decide +kernel)) (fun _ _ _ _ _ => (pg_tup rfl (pgs_cons (pg_name (i := 4) sc_l_yes.nd rfl (.inl rfl)) (pgs_cons (pg_name (i := 5) sc_l_yes.nd rfl (.inl rfl)) pgs_nil)))) (fun _ _ _ _ _ => pts_nil) (fun _ _ _ _ _ => (pe_and (pe_cmpR op_ge (pv 3) (pv 4) (nomark _)) (pe_one (pe_ix (ix_seqK (K := K)) (pv 2) (pe_op op_sub (pv 3) (pv 4)) (fun _ _ => rfl)))))) pa_nil)) pa_nil)))))
(pss_one (ps_ret (pv 2))))), ?_⟩
  obtain ⟨ks, n⟩ := x
  obtain ⟨g, hk, hn⟩ := hp
  have hn : n ≤ 5000 := hn
  have hk : ks.length ≤ 1000 := hk
  have a : At K H [.d (.list (ks.map pr)), .d (.int (n : Nat)), .un, .un, .un, .un] (start n_l_yes vs) H := a
  obtain ⟨u, hu, a⟩ := a.pin 0 rfl
  refine q_asgN a (en_lst (ds := [.bool true]) (ea_cons ev_bl ea_nil) (by decide : 1 ≤ 100000)) fun p xs σ1 H1 hp e1 h1 hd a1 => ?_
  obtain rfl : xs = [V.bl true] := dpa_bls (ns := [true]) hd
  refine q_for (src_up (ea_cons ev_int (ea_cons (ev_add ((ev_var (a1).env (i := 1) rfl)) ev_int) ea_nil)) (by omega)) (fun H2 i σ' H' => ∃ bs, bs = yesF ks i ∧ H' p = some (.lst (bs.map V.bl)) ∧ At K H [.v u, .d (.int (n : Nat)), .v (.ref p), .un, .un, .un] σ' H')
    (fun H2 e2 => ⟨[true], rfl, e2 _ _ h1, a1.mono e2⟩) (fun _ _ _ _ _ _ => trivial) (fun H2 i x σ' H' H'' us e2 hx ⟨bs, hb, hH, a2⟩ e3 hus => ?_) fun H2 σ' H' e2 ⟨bs, hb, hH, a2⟩ => ?_
  · obtain ⟨rfl, hin⟩ := range_at hx
    have a3 := (a2.mono e3).putAll (js := [3]) hus rfl
    have hH3 : H'' p = some (.lst (bs.map V.bl)) := e3 _ _ hH
    have hl : bs.length = x + 1 := by rw [hb]; exact (yes_ok g x).1
    have hv := en_lcA (vs := [4, 5]) (te := tAndV (tOp (rI0 fun i j => .bl (decide (j ≤ i))) (tVar 3) (tVar 4)) (tOp (rIx K) (tVar 2) (tOp (rI0 fun i j => .int (i - j)) (tVar 3) (tVar 4)))) (fun k : Kd => .bool (decide (k.1 ≤ ((x + 1 : Nat) : Int)) && bs.getD (((x + 1 : Nat) : Int) - k.1).toNat false)) (src_kl2 (i := 4) (j := 5) (ev_at ((ev_var (a3).env (i := 0) rfl)) hu a3.ex)) a3.env (Nat.le_trans hk (by decide)) (by decide) (fun _ _ => rfl)
      fun k hk' σ4 H4 e4 en => ev_andV (ev_ge ((ev_var en (i := 3) rfl)) ((ev_var en (i := 4) rfl))) fun hb1 => by
        have g1 := g k hk'
        have h2 : k.1 ≤ ((x + 1 : Nat) : Int) := of_decide_eq_true hb1
        have hlt : (((x + 1 : Nat) : Int) - k.1).toNat < bs.length := by omega
        refine ev_ixR ((ev_var en (i := 2) rfl)) (.of (e4 _ _ hH3)) (dpa_bls' (ns := bs)) (ev_sub ((ev_var en (i := 3) rfl)) ((ev_var en (i := 4) rfl))) ?_
        rw [show ((x + 1 : Nat) : Int) - k.1 = ((((x + 1 : Nat) : Int) - k.1).toNat : Int) by omega]
        refine at_map ?_
        rw [Int.toNat_natCast, List.getD_eq_getElem?_getD, List.getElem?_eq_getElem hlt]
        rfl
    refine s_app hH3 ((ev_var (a3).env (i := 2) rfl)) (ev_any (bs := yesV ks bs ((x + 1 : Nat) : Int)) (en_cast hv (by unfold yesV; rw [List.map_map]; rfl)).toS) (by rw [List.length_map]; omega) fun w H4 e4 hw => ?_
    have hw : w = .bl ((yesV ks bs ((x + 1 : Nat) : Int)).any id) := dp_bl hw
    subst hw
    have a4 := (a3.mono e4).app (o := .lst (bs.map V.bl ++ [V.bl ((yesV ks bs ((x + 1 : Nat) : Int)).any id)])) hp (e4 _ _ hH3) rfl
    exact ⟨bs ++ [(yesV ks bs ((x + 1 : Nat) : Int)).any id], by rw [hb]; rfl, by rw [upd_same, List.map_append]; rfl, a4.un 3⟩
  · rw [List.length_range] at hb
    exact s_ret ((ev_var (a2).env (i := 2) rfl)) fun w H3 e3 hw => q _ (.list (bs.map .bool)) _ (congrArg (fun l => PyData.list (l.map .bool)) hb) (a2.ex.trans e3) (by
      have hw : w = .ref p := hw
      subst hw
      exact .lst (.of (e3 _ _ hH)) dpa_bls')
/-! l_rich -/
abbrev spRich (K : PySem.W.Frag) : Sp := SpF K (α := List Kd × Nat) tabE tabP fun x => .list ((richF x.1 x.2).map .int)
theorem at_last {xs : List Int} {n : Nat} (hl : xs.length = n + 1) : ∃ r, xs[n]? = some r ∧ atI (xs.map PyData.int) (-1) = some (.int r) := by
  have hne : xs ≠ [] := fun z => by rw [z] at hl; cases hl
  refine ⟨xs.getLast hne, by rw [← List.getLast?_eq_getLast hne, List.getLast?_eq_getElem?, hl]; rfl, ?_⟩
  have : xs.map PyData.int = xs.dropLast.map PyData.int ++ [.int (xs.getLast hne)] := by
    rw [← List.map_singleton, ← List.map_append, List.dropLast_concat_getLast]
  rw [this]
  exact atI_last _ _
/-- the item at a place that a subtraction gives -/
theorem at_sub {xs : List Int} {t : Int} (h0 : 0 ≤ t) (h : t < xs.length) : atI (xs.map PyData.int) t = some (.int (atD 0 xs t)) := by
  have hlt : t.toNat < xs.length := by omega
  have := at_map (f := PyData.int) (List.getElem?_eq_getElem hlt)
  rw [Int.toNat_of_nonneg h0] at this
  rw [this]
  unfold atD
  rw [List.getD_eq_getElem?_getD, List.getElem?_eq_getElem hlt]
  rfl
theorem at_subO {xs : List (Option Int)} {t : Int} (h0 : 0 ≤ t) (h : t < xs.length) : atI (xs.map opD) t = some (opD (atD none xs t)) := by
  have hlt : t.toNat < xs.length := by omega
  have := at_map (f := opD) (List.getElem?_eq_getElem hlt)
  rw [Int.toNat_of_nonneg h0] at this
  rw [this]
  unfold atD
  rw [List.getD_eq_getElem?_getD, List.getElem?_eq_getElem hlt]
  rfl
theorem ok_rich (T : Tx w K mg C) (F : Fun K "_law_rich" "_law_rich" s_l_rich f fd) : FnOk P w K mg base CX0 1 f fd p_l_rich (spRich K) := by
  refine run_def F sc_l_rich (fun _ => rfl) fun cdv A outer s H vs Q E x hr hp a q => ?_
  refine ⟨_, (pss_cons (ps_set (i := 2) sc_l_rich.nd rfl (.inr rfl) (pe_lst (pa_cons pe_int pa_nil)))
(pss_cons (ps_for PassesOwn.never rfl (pi_range2 (by rfl) T.b_range (pa_cons pe_int (pa_cons (pe_op op_add (pv 1) pe_int) pa_nil))) (pg_name (i := 3) sc_l_rich.nd rfl (.inr rfl))
(pss_one (ps_expr (pe_bm PySem.F.plainAttrs_list PySem.F.slot_list_append PySem.F.type_list_append mt_append (pv 2) (pa_cons (pe_callB (cr_max rfl) (by rfl) T.b_max bt_max (pa_cons (pe_op op_cat (pe_lst (pa_cons (pe_ix (ix_seqK (K := K)) (pv 2) (pe_un un_neg pe_int) (fun _ _ => rfl)) pa_nil)) (pe_lc (own := [("_law_length", 4), ("_law_heavy", 5)]) (g := gTup K 2 (gCons (gName 4) (gCons (gName 5) (gNil)))) rfl sc_l_rich.nd (pi_list (pv 0)) (blkOk_by (N := n_l_rich) (sc := defScope s_l_rich) (by decide +kernel)) (fun _ _ _ _ _ => (pg_tup rfl (pgs_cons (pg_name (i := 4) sc_l_rich.nd rfl (.inl rfl)) (pgs_cons (pg_name (i := 5) sc_l_rich.nd rfl (.inl rfl)) pgs_nil)))) (fun _ _ _ _ _ => (pts_one (pt_cmpR op_le (pv 5) (pv 3) (nomark _)))) (fun _ _ _ _ _ => (pe_op op_add (pe_ix (ix_seqK (K := K)) (pv 2) (pe_op op_sub (pv 3) (pv 5)) (fun _ _ => rfl)) (pv 4))))) pa_nil)) pa_nil)))))
(pss_one (ps_ret (pv 2))))), ?_⟩
  obtain ⟨ks, n⟩ := x
  obtain ⟨g, hk, hn⟩ := hp
  have hn : n ≤ 5000 := hn
  have hk : ks.length ≤ 1000 := hk
  have a : At K H [.d (.list (ks.map pr)), .d (.int (n : Nat)), .un, .un, .un, .un] (start n_l_rich vs) H := a
  obtain ⟨u, hu, a⟩ := a.pin 0 rfl
  refine q_asgN a (en_lst (ds := [.int 0]) (ea_cons ev_int ea_nil) (by decide : 1 ≤ 100000)) fun p xs σ1 H1 hp e1 h1 hd a1 => ?_
  obtain rfl : xs = [V.int 0] := dpa_ints (ns := [0]) hd
  refine q_for (src_up (ea_cons ev_int (ea_cons (ev_add ((ev_var (a1).env (i := 1) rfl)) ev_int) ea_nil)) (by omega)) (fun H2 i σ' H' => ∃ rs, rs = richF ks i ∧ H' p = some (.lst (rs.map V.int)) ∧ At K H [.v u, .d (.int (n : Nat)), .v (.ref p), .un, .un, .un] σ' H')
    (fun H2 e2 => ⟨[0], rfl, e2 _ _ h1, a1.mono e2⟩) (fun _ _ _ _ _ _ => trivial) (fun H2 i x σ' H' H'' us e2 hx ⟨rs, hb, hH, a2⟩ e3 hus => ?_) fun H2 σ' H' e2 ⟨rs, hb, hH, a2⟩ => ?_
  · obtain ⟨rfl, hin⟩ := range_at hx
    have a3 := (a2.mono e3).putAll (js := [3]) hus rfl
    have hH3 : H'' p = some (.lst (rs.map V.int)) := e3 _ _ hH
    have hl : rs.length = x + 1 := by rw [hb]; exact (rich_ok g x).1
    obtain ⟨r, hr1, hr2⟩ := at_last hl
    have hrD : r = (richF ks x).getD x 0 := by rw [List.getD_eq_getElem?_getD, ← hb, hr1]; rfl
    have hv := en_lc (vs := [4, 5]) (tt := tTest (tOp (rI0 fun i j => .bl (decide (i ≤ j))) (tVar 5) (tVar 3))) (te := tOp (rI0 fun i j => .int (i + j)) (tOp (rIx K) (tVar 2) (tOp (rI0 fun i j => .int (i - j)) (tVar 3) (tVar 5))) (tVar 4)) (fun k : Kd => decide (k.2 ≤ ((x + 1 : Nat) : Int)))
      (fun k : Kd => .int (atD 0 rs (((x + 1 : Nat) : Int) - k.2) + k.1)) (src_kl2 (i := 4) (j := 5) (ev_at ((ev_var (a3).env (i := 0) rfl)) hu a3.ex)) a3.env (Nat.le_trans hk (by decide)) (by decide) (fun _ _ _ => rfl)
      (fun k hk' σ4 H4 e4 en => et_s (ev_le ((ev_var en (i := 5) rfl)) ((ev_var en (i := 3) rfl)))) fun k hk' hb1 σ4 H4 e4 en => by
        have g1 := g k hk'
        have h2 : k.2 ≤ ((x + 1 : Nat) : Int) := of_decide_eq_true hb1
        exact ev_add (ev_ixR ((ev_var en (i := 2) rfl)) (.of (e4 _ _ hH3)) (dpa_ints' (ns := rs)) (ev_sub ((ev_var en (i := 3) rfl)) ((ev_var en (i := 5) rfl))) (at_sub (by omega) (by omega))) ((ev_var en (i := 4) rfl))
    refine s_app hH3 ((ev_var (a3).env (i := 2) rfl)) (ev_max (ns := r :: richC ks (atD 0 rs) ((x + 1 : Nat) : Int)) (en_cast (en_cat (en_lst (ds := [.int r]) (ea_cons (ev_ixR ((ev_var (a3).env (i := 2) rfl)) (.of hH3) (dpa_ints' (ns := rs)) (ev_neg ev_int) hr2) ea_nil) (by decide : 1 ≤ 100000)) hv ?_) ?_).toS (List.cons_ne_nil _ _)) (by rw [List.length_map]; omega) fun w H4 e4 hw => ?_
    · have := List.length_filter_le (fun k : Kd => decide (k.2 ≤ ((x + 1 : Nat) : Int))) ks
      rw [List.length_map]
      show 1 + _ ≤ 100000
      omega
    · unfold richC
      rw [List.map_cons, List.map_map]
      rfl
    have hw : w = .int (lmax (r :: richC ks (atD 0 rs) ((x + 1 : Nat) : Int))) := dp_int hw
    subst hw
    have a4 := (a3.mono e4).app (o := .lst (rs.map V.int ++ [V.int (lmax (r :: richC ks (atD 0 rs) ((x + 1 : Nat) : Int)))])) hp (e4 _ _ hH3) rfl
    exact ⟨rs ++ [lmax (r :: richC ks (atD 0 rs) ((x + 1 : Nat) : Int))], by rw [hb, hrD]; rfl, by rw [upd_same, List.map_append]; rfl, a4.un 3⟩
  · rw [List.length_range] at hb
    exact s_ret ((ev_var (a2).env (i := 2) rfl)) fun w H3 e3 hw => q _ (.list (rs.map .int)) _ (congrArg (fun l => PyData.list (l.map .int)) hb) (a2.ex.trans e3) (by
      have hw : w = .ref p := hw
      subst hw
      exact .lst (.of (e3 _ _ hH)) dpa_ints')
/-! l_slim -/
def opV : Option Int → V
  | none => V.non
  | some i => V.int i
theorem dpa_ops' {H0 : Hp} : ∀ {os : List (Option Int)}, DpAll K H0 (os.map opV) (os.map opD)
  | [] => .nil
  | none :: os => .cons .non dpa_ops'
  | some i :: os => .cons (.int i) dpa_ops'
theorem dp_op {H0 : Hp} {u : V} {o : Option Int} (h : Dp K H0 u (opD o)) : u = opV o := by
  cases o with
  | none => exact dp_non h
  | some i => exact dp_int (i := i) h
abbrev spSlim (K : PySem.W.Frag) : Sp := SpF K (α := List Kd × Nat) tabE tabP fun x => .list ((slimF x.1 x.2).map opD)
theorem slimC_eq (ks : List Kd) (f : Int → Option Int) (t : Int) : (((ks.filter fun k => decide (k.1 ≤ t)).filter fun k => !isNo (opD (f (t - k.1)))).map fun k => PyData.int ((f (t - k.1)).getD 0 + k.2)) = (slimC ks f t).map .int := by
  unfold slimC
  induction ks.filter fun k => decide (k.1 ≤ t) with
  | nil => rfl
  | cons k l ih =>
    cases hf : f (t - k.1) with
    | none =>
      rw [List.filter_cons, if_neg (by rw [hf]; decide), ih, List.filterMap_cons, hf]
      rfl
    | some y =>
      rw [List.filter_cons, if_pos (by rw [hf]; rfl), List.map_cons, ih, List.filterMap_cons, hf]
      rfl
theorem ok_slim (T : Tx w K mg C) (F : Fun K "_law_slim" "_law_slim" s_l_slim f fd) : FnOk P w K mg base CX0 1 f fd p_l_slim (spSlim K) := by
  refine run_def F sc_l_slim (fun _ => rfl) fun cdv A outer s H vs Q E x hr hp a q => ?_
  refine ⟨_, (pss_cons (ps_set (i := 2) sc_l_slim.nd rfl (.inr rfl) (pe_lst (pa_cons pe_int pa_nil)))
(pss_cons (ps_for PassesOwn.never rfl (pi_range2 (by rfl) T.b_range (pa_cons pe_int (pa_cons (pe_op op_add (pv 1) pe_int) pa_nil))) (pg_name (i := 3) sc_l_slim.nd rfl (.inr rfl))
(pss_cons (ps_setLc (i := 4) (own := [("_law_length", 6), ("_law_heavy", 7)]) (g := gTup K 2 (gCons (gName 6) (gCons (gName 7) (gNil)))) rfl sc_l_slim.nd rfl rfl (sw_true rfl rfl rfl (by decide +kernel)) (pi_list (pv 0)) (blkOk_by (N := n_l_slim) (sc := defScope s_l_slim) (by decide +kernel)) (fun _ _ _ _ _ => (pg_tup rfl (pgs_cons (pg_name (i := 6) sc_l_slim.nd rfl (.inl rfl)) (pgs_cons (pg_name (i := 7) sc_l_slim.nd rfl (.inl rfl)) pgs_nil)))) (fun _ _ _ _ _ => (pts_one (pt_cmpR op_le (pv 6) (pv 3) (nomark _)))) (fun _ _ _ _ _ => (pe_ix (ix_seqK (K := K)) (pv 2) (pe_op op_sub (pv 3) (pv 6)) (fun _ _ => rfl))))
(pss_cons (ps_setLc (i := 5) (own := [("_law_length", 6), ("_law_heavy", 7)]) (g := gTup K 2 (gCons (gName 6) (gCons (gName 7) (gNil)))) rfl sc_l_slim.nd rfl rfl (sw_true rfl rfl rfl (by decide +kernel)) (pi_list (pv 0)) (blkOk_by (N := n_l_slim) (sc := defScope s_l_slim) (by decide +kernel)) (fun _ _ _ _ _ => (pg_tup rfl (pgs_cons (pg_name (i := 6) sc_l_slim.nd rfl (.inl rfl)) (pgs_cons (pg_name (i := 7) sc_l_slim.nd rfl (.inl rfl)) pgs_nil)))) (fun _ _ _ _ _ => (pts_one (pt_cmpR op_le (pv 6) (pv 3) (nomark _)))) (fun _ _ _ _ _ => (pv 7)))
(pss_cons (ps_setLc (i := 4) (own := [("_law_one", 8), ("_law_heavy", 7)]) (g := gTup K 2 (gCons (gName 8) (gCons (gName 7) (gNil)))) rfl sc_l_slim.nd rfl rfl (sw_true rfl rfl rfl (by decide +kernel)) (pi_zip (by rfl) T.b_zip (pa_cons (pv 4) (pa_cons (pv 5) pa_nil))) (blkOk_by (N := n_l_slim) (sc := defScope s_l_slim) (by decide +kernel)) (fun _ _ _ _ _ => (pg_tup rfl (pgs_cons (pg_name (i := 8) sc_l_slim.nd rfl (.inl rfl)) (pgs_cons (pg_name (i := 7) sc_l_slim.nd rfl (.inl rfl)) pgs_nil)))) (fun _ _ _ _ _ => (pts_one (pt_cmp (pc_notN (pv 8)) rfl))) (fun _ _ _ _ _ => (pe_op op_add (pv 8) (pv 7))))
(pss_one (ps_expr (pe_bm PySem.F.plainAttrs_list PySem.F.slot_list_append PySem.F.type_list_append mt_append (pv 2) (pa_cons (pe_ifExp (pt_cmpR (op_neD hr.units) (pv 4) (pe_lst pa_nil) (nomark _)) (pe_callB (cr_min rfl) (by rfl) T.b_min bt_min (pa_cons (pv 4) pa_nil)) pe_non) pa_nil))))))))
(pss_one (ps_ret (pv 2))))), ?_⟩
  obtain ⟨ks, n⟩ := x
  obtain ⟨g, hk, hn⟩ := hp
  have hn : n ≤ 5000 := hn
  have hk : ks.length ≤ 1000 := hk
  have a : At K H [.d (.list (ks.map pr)), .d (.int (n : Nat)), .un, .un, .un, .un, .un, .un, .un] (start n_l_slim vs) H := a
  obtain ⟨u, hu, a⟩ := a.pin 0 rfl
  refine q_asgN a (en_lst (ds := [.int 0]) (ea_cons ev_int ea_nil) (by decide : 1 ≤ 100000)) fun p xs σ1 H1 hp e1 h1 hd a1 => ?_
  obtain rfl : xs = [V.int 0] := dpa_ints (ns := [0]) hd
  refine q_for (src_up (ea_cons ev_int (ea_cons (ev_add ((ev_var (a1).env (i := 1) rfl)) ev_int) ea_nil)) (by omega)) (fun H2 i σ' H' => ∃ os, os = slimF ks i ∧ H' p = some (.lst (os.map opV)) ∧ At K H [.v u, .d (.int (n : Nat)), .v (.ref p), .un, .un, .un, .un, .un, .un] σ' H')
    (fun H2 e2 => ⟨[some 0], rfl, e2 _ _ h1, a1.mono e2⟩) (fun _ _ _ _ _ _ => trivial) (fun H2 i x σ' H' H'' us e2 hx ⟨os, hb, hH, a2⟩ e3 hus => ?_) fun H2 σ' H' e2 ⟨os, hb, hH, a2⟩ => ?_
  · obtain ⟨rfl, hin⟩ := range_at hx
    have a3 := (a2.mono e3).putAll (js := [3]) hus rfl
    have hH3 : H'' p = some (.lst (os.map opV)) := e3 _ _ hH
    have hl : os.length = x + 1 := by rw [hb]; exact (slim_ok g x).1
    have hfl := List.length_filter_le (fun k : Kd => decide (k.1 ≤ ((x + 1 : Nat) : Int))) ks
    -- what stands at the shorter lengths
    have hv := en_lc (vs := [6, 7]) (tt := tTest (tOp (rI0 fun i j => .bl (decide (i ≤ j))) (tVar 6) (tVar 3))) (te := tOp (rIx K) (tVar 2) (tOp (rI0 fun i j => .int (i - j)) (tVar 3) (tVar 6))) (fun k : Kd => decide (k.1 ≤ ((x + 1 : Nat) : Int)))
      (fun k : Kd => opD (atD none os (((x + 1 : Nat) : Int) - k.1))) (src_kl2 (i := 6) (j := 7) (ev_at ((ev_var (a3).env (i := 0) rfl)) hu a3.ex)) a3.env (Nat.le_trans hk (by decide)) (by decide) (fun _ _ _ => noL_op _)
      (fun k hk' σ4 H4 e4 en => et_s (ev_le ((ev_var en (i := 6) rfl)) ((ev_var en (i := 3) rfl)))) fun k hk' hb1 σ4 H4 e4 en => by
        have g1 := g k hk'
        have h2 : k.1 ≤ ((x + 1 : Nat) : Int) := of_decide_eq_true hb1
        exact ev_ixR ((ev_var en (i := 2) rfl)) (.of (e4 _ _ hH3)) (dpa_ops' (os := os)) (ev_sub ((ev_var en (i := 3) rfl)) ((ev_var en (i := 6) rfl))) (at_subO (by omega) (by omega))
    refine q_asg a3 hv.toS fun σ4 H4 e4 a4 => ?_
    have hv2 := en_lc (vs := [6, 7]) (tt := tTest (tOp (rI0 fun i j => .bl (decide (i ≤ j))) (tVar 6) (tVar 3))) (te := tVar 7) (fun k : Kd => decide (k.1 ≤ ((x + 1 : Nat) : Int)))
      (fun k : Kd => .int k.2) (src_kl2 (i := 6) (j := 7) (ev_at ((ev_var (a4).env (i := 0) rfl)) hu a4.ex)) a4.env (Nat.le_trans hk (by decide)) (by decide) (fun _ _ _ => rfl)
      (fun k hk' σ4 H4 e4 en => et_s (ev_le ((ev_var en (i := 6) rfl)) ((ev_var en (i := 3) rfl)))) fun k hk' hb1 σ4 H4 e4 en => (ev_var en (i := 7) rfl)
    refine q_asg a4 hv2.toS fun σ5 H5 e5 a5 => ?_
    have sz := src_zip (i := 8) (j := 7) (ea_cons ((ev_var (a5).env (i := 4) rfl)) (ea_cons ((ev_var (a5).env (i := 5) rfl)) ea_nil)) (by rw [List.length_map, List.length_map])
    rw [show ((((ks.filter fun k : Kd => decide (k.1 ≤ ((x + 1 : Nat) : Int))).map fun k : Kd => opD (atD none os (((x + 1 : Nat) : Int) - k.1))).zip ((ks.filter fun k : Kd => decide (k.1 ≤ ((x + 1 : Nat) : Int))).map fun k : Kd => PyData.int k.2)).map fun p => [Sl.d p.1, .d p.2])
      = (ks.filter fun k : Kd => decide (k.1 ≤ ((x + 1 : Nat) : Int))).map fun k => [Sl.d (opD (atD none os (((x + 1 : Nat) : Int) - k.1))), .d (.int k.2)] by rw [List.zip_map', List.map_map]; rfl] at sz
    have hv3 := en_lc (vs := [8, 7]) (tt := tB (tNotN (tVar 8))) (te := tOp (rI0 fun i j => .int (i + j)) (tVar 8) (tVar 7)) (fun k : Kd => !isNo (opD (atD none os (((x + 1 : Nat) : Int) - k.1))))
      (fun k : Kd => .int ((atD none os (((x + 1 : Nat) : Int) - k.1)).getD 0 + k.2)) sz a5.env (Nat.le_trans hfl (Nat.le_trans hk (by decide))) (by decide) (fun _ _ _ => rfl)
      (fun k hk' σ4 H4 e4 en => et_b (ev_notN ((ev_var en (i := 8) rfl)))) fun k hk' hb1 σ4 H4 e4 en => by
        refine ev_add (ev_cast ((ev_var en (i := 8) rfl)) ?_) ((ev_var en (i := 7) rfl))
        cases ho : atD none os (((x + 1 : Nat) : Int) - k.1) with
        | none => rw [ho] at hb1; exact absurd hb1 (by decide)
        | some y => rfl
    refine q_asg a5 (en_cast hv3 (slimC_eq ks (atD none os) _)).toS fun σ6 H6 e6 a6 => ?_
    have e36 : Ex H'' H6 := (e4.trans e5).trans e6
    refine s_app (e36 _ _ hH3) ((ev_var (a6).env (i := 2) rfl)) (l := .d (opD (omin ((slimC ks (atD none os) ((x + 1 : Nat) : Int)).map some)))) (ev_if (et_s (ev_neNil ((ev_var (a6).env (i := 4) rfl)) (shp_ints _) ev_nilL)) (fun hb1 => ?_) fun hb1 => ?_) (by rw [List.length_map]; omega) fun w H7 e7 hw => ?_
    · have hne : slimC ks (atD none os) ((x + 1 : Nat) : Int) ≠ [] := fun z => by rw [z] at hb1; simp at hb1
      unfold omin
      rw [filterMap_some, if_neg hne]
      exact ev_min ((ev_var (a6).env (i := 4) rfl)) hne
    · have hne : slimC ks (atD none os) ((x + 1 : Nat) : Int) = [] := by
        cases hz : slimC ks (atD none os) ((x + 1 : Nat) : Int) with
        | nil => rfl
        | cons _ _ => rw [hz] at hb1; simp at hb1
      unfold omin
      rw [filterMap_some, if_pos hne]
      exact ev_non
    have hw := dp_op hw
    subst hw
    have a7 := (((a6.mono e7).un 4).un 5).app (o := .lst (os.map opV ++ [opV (omin ((slimC ks (atD none os) ((x + 1 : Nat) : Int)).map some))])) hp (e7 _ _ (e36 _ _ hH3)) rfl
    exact ⟨os ++ [omin ((slimC ks (atD none os) ((x + 1 : Nat) : Int)).map some)], by rw [hb]; rfl, by rw [upd_same, List.map_append]; rfl, a7.un 3⟩
  · rw [List.length_range] at hb
    exact s_ret ((ev_var (a2).env (i := 2) rfl)) fun w H3 e3 hw => q _ (.list (os.map opD)) _ (congrArg (fun l => PyData.list (l.map opD)) hb) (a2.ex.trans e3) (by
      have hw : w = .ref p := hw
      subst hw
      exact .lst (.of (e3 _ _ hH)) dpa_ops')
end
end Wk

set_option maxHeartbeats 200000
set_option Elab.async false
set_option linter.all false
set_option maxRecDepth 100000
set_option maxHeartbeats 1000000
/-! WrB2: the law's floors and its greatest ring. -/
namespace Wk
open PySem PySem.Spec PyProof.Rows L2 Evl Wr
open C8 (Cal pe_c Met pe_mt pe_mt0 Mak pe_mk)
/-- all but what stands at p -/
def ExB (p : Addr) (H H' : Hp) : Prop := ∀ a o, a ≠ p → H a = some o → H' a = some o
theorem ExB.refl (p : Addr) (H : Hp) : ExB p H H := fun _ _ _ h => h
theorem ExB.trans {p : Addr} {H H1 H2 : Hp} (a : ExB p H H1) (b : ExB p H1 H2) : ExB p H H2 := fun x o n h => b x o n (a x o n h)
theorem ExB.of {p : Addr} {H H1 : Hp} (e : Ex H H1) : ExB p H H1 := fun x o _ h => e x o h
theorem ExB.upd {p : Addr} {H : Hp} {o : HO} : ExB p H (L2.upd H p o) := fun x u n h => by rw [upd_ne n]; exact h
theorem ExB.toT {p : Addr} {H H1 : Hp} {xs : List V} (e : ExB p H H1) (h : H p = some (.lst xs)) : ExT H H1 := fun a ys r => by
  rcases r with r | ⟨o, r⟩
  · exact .inl (e a _ (fun z => by subst z; rw [h] at r; cases r) r)
  · exact .inr ⟨o, e a _ (fun z => by subst z; rw [h] at r; cases r) r⟩
section
variable {K : PySem.W.Frag} {H : Hp} {σ : L2.St} {tr : TA} {i j : Nat} {ds : List PyData}
theorem src_enumLB {p : Addr} {xs0 : List V} (h : EvAS K tr σ H [.d (.list ds)]) (hp : H p = some (.lst xs0)) (hl : xs0.length ≠ ds.length) (hn : noLs ds = true) :
    Src K (iEnum K tr) (gTup K 2 (gCons (gName i) (gCons (gName j) gNil))) [i, j] σ H ((ds.zipIdx).map fun p => [.d (.int (p.2 : Nat)), .d p.1]) (ExB p) := by
  refine ⟨fun _ _ e => .of e, fun ls h => ?_, fun H1 e R r => h H1 e _ fun us H2 e2 hus => ?_⟩
  · obtain ⟨d, _, rfl⟩ := List.mem_map.mp h
    rfl
  · obtain ⟨u, rfl, hu⟩ := hda_one hus
    obtain ⟨a, xs, rfl, ht, hd⟩ := dp_lst hu
    have hp2 : H2 p = some (.lst xs0) := e2 _ _ (e _ _ hp)
    have keep : ∀ H', ExB p H2 H' → SqL K H' a xs := fun H' k => by
      rcases ht with ht | ht
      · have hne : a ≠ p := fun z => by
          subst z
          rcases ht with ht | ⟨o, ht⟩
          · rw [hp2] at ht
            cases ht
            exact hl (dpa_length hd)
          · rw [hp2] at ht
            cases ht
        rcases ht with ht | ⟨o, ht⟩
        · exact .inl (.inl (k a _ hne ht))
        · exact .inl (.inr ⟨o, k a _ hne ht⟩)
      · exact .inr ht
    refine ⟨a, xs, rfl, ht, r _ H2 _ _ e2 (by rw [List.length_map, List.length_zipIdx, ← dpa_length hd]; exact walk_enum) keep fun k ls x H' H'' hi kk y => ?_⟩
    obtain ⟨T, x1, y1, rfl, nT, rfl, hx, hy⟩ := y
    obtain rfl : V.int (k : Nat) = x1 := Option.some.inj hx
    obtain ⟨d, hd1, hd2⟩ := dpa_at (dpa_monoT (kk.toT hp2) _ hn hd) hy
    rw [List.getElem?_map, List.getElem?_zipIdx, hd1] at hi
    have hi : some [Sl.d (.int ((0 + k : Nat))), .d d] = some ls := hi
    rw [Nat.zero_add] at hi
    obtain rfl := Option.some.inj hi
    exact ⟨Ex.new nT, gives_two (.tup (.of upd_same) (.cons (.int _) (.cons (dp_mono (Ex.new nT) _ hd2) .nil)))⟩
end
section
variable {P : Program} {w : World} {K : PySem.W.Frag} {mg : Str → Option Value} {base : Heap} {C f : Addr} {fd : FuncData}
abbrev spFloors (K : PySem.W.Frag) : Sp := SpF K (α := List Kd × Nat) tabE tabP fun x => .list ((floorsF x.1 x.2).map .int)
theorem noLs_bl (bs : List Bool) : noLs (bs.map PyData.bool) = true := noLs_mem fun d hd => by
  obtain ⟨b, _, rfl⟩ := List.mem_map.mp hd
  rfl
theorem enum_bl (bs : List Bool) : ((bs.map PyData.bool).zipIdx.map fun p => [Sl.d (.int (p.2 : Nat)), .d p.1]) = (List.range bs.length).map fun n => [Sl.d (.int (n : Nat)), .d (.bool (bs.getD n false))] :=
  List.ext_getElem (by simp) fun n h1 h2 => by
    simp at h1
    simp [List.getD_eq_getElem?_getD, List.getElem?_eq_getElem h1]
theorem floors_get (ks : List Kd) (g : Good ks) (x : Nat) (m : Nat) (h : x ≤ m) : (yesF ks m).getD x false = (yesF ks x).getD x false := by
  obtain ⟨r, hr⟩ := yes_pre ks h
  rw [hr, List.getD_eq_getElem?_getD, List.getD_eq_getElem?_getD, List.getElem?_append_left (by rw [(yes_ok g x).1]; omega)]
theorem ok_floors (T : Tx w K mg C) (G_l_yes : Cal P w K mg base 1 "_law_yes" (spYes K) []) (F : Fun K "_law_floors" "_law_floors" s_l_floors f fd) : FnOk P w K mg base CX0 2 f fd p_l_floors (spFloors K) := by
  refine run_def F sc_l_floors (fun _ => rfl) fun cdv A outer s H vs Q E x hr hp a q => ?_
  refine ⟨_, (pss_cons (ps_set (i := 2) sc_l_floors.nd rfl (.inl rfl) (pe_lst pa_nil))
(pss_cons (ps_for PassesOwn.never rfl (pi_enum (by rfl) T.b_enumerate (pa_cons (pe_c G_l_yes hr (by decide) (by rfl) (pa_cons (pv 0) (pa_cons (pv 1) pa_nil))) pa_nil)) (pg_tup rfl (pgs_cons (pg_name (i := 3) sc_l_floors.nd rfl (.inl rfl)) (pgs_cons (pg_name (i := 4) sc_l_floors.nd rfl (.inl rfl)) pgs_nil)))
(pss_one (ps_expr (pe_bm PySem.F.plainAttrs_list PySem.F.slot_list_append PySem.F.type_list_append mt_append (pv 2) (pa_cons (pe_ifExp (pt_val (pv 4)) (pv 3) (pe_ix (ix_seqK (K := K)) (pv 2) (pe_un un_neg pe_int) (fun _ _ => rfl))) pa_nil)))))
(pss_one (ps_ret (pv 2))))), ?_⟩
  obtain ⟨ks, n⟩ := x
  have hp0 := hp
  obtain ⟨g, hk, hn⟩ := hp
  have hn : n ≤ 5000 := hn
  have hk : ks.length ≤ 1000 := hk
  have a : At K H [.d (.list (ks.map pr)), .d (.int (n : Nat)), .un, .un, .un] (start n_l_floors vs) H := a
  obtain ⟨u, hu, a⟩ := a.pin 0 rfl
  refine q_asgN a (en_lst (ds := []) ea_nil (by decide : 0 ≤ 100000)) fun p xs σ1 H1 hp e1 h1 hd a1 => ?_
  cases hd
  have hyl : (yesF ks n).length = n + 1 := (yes_ok g n).1
  have S := src_enumLB (i := 3) (j := 4) (ea_cons (evD (x := (ks, n)) (Pre := tabP) (enc := tabE) (r := fun x => .list ((yesF x.1 x.2).map .bool)) (ea_cons (ev_at ((ev_var (a1).env (i := 0) rfl)) hu a1.ex) (ea_cons ((ev_var (a1).env (i := 1) rfl)) ea_nil)) hp0) ea_nil) h1 (by rw [List.length_map, hyl]; simp) (noLs_bl _)
  rw [enum_bl, hyl] at S
  refine q_for S (fun H2 i σ' H' => ∃ fs, (i = 0 → fs = []) ∧ (∀ j, i = j + 1 → fs = floorsF ks j) ∧ H' p = some (.lst (fs.map V.int)) ∧ ExB p H2 H' ∧ At K H [.v u, .d (.int (n : Nat)), .v (.ref p), .un, .un] σ' H')
    (fun H2 e2 => ⟨[], fun _ => rfl, fun j z => (nomatch z), e2 _ _ h1, .refl _ _, a1.mono e2⟩) (fun _ _ _ _ _ h => by obtain ⟨_, _, _, _, h, _⟩ := h; exact h) (fun H2 i x σ' H' H'' us e2 hx h e3 hus => ?_) fun H2 σ' H' e2 h => ?_
  · obtain ⟨fs, h0, hs, hH, hB, a2⟩ := h
    obtain ⟨rfl, hin⟩ := range_at hx
    have a3 := (a2.mono e3).putAll (js := [3, 4]) hus rfl
    have hH3 : H'' p = some (.lst (fs.map V.int)) := e3 _ _ hH
    have hb : (yesF ks n).getD x false = (yesF ks x).getD x false := floors_get ks g x n (by omega)
    have hnext : ∃ v : Int, fs ++ [v] = floorsF ks x ∧ fs.length ≤ x + 1 ∧ EvS K (tIf (tB (tVar 4)) (tVar 3) (tOp (rIx K) (tVar 2) (tUn (rU fun i => .int (-i)) (tC (.int 1))))) (setAll σ' [3, 4] us) H'' (.d (.int v)) := by
      cases x with
      | zero =>
        have := h0 rfl
        subst this
        refine ⟨0, rfl, by simp, ev_if (b := true) (et_b (ev_cast ((ev_var (a3).env (i := 4) rfl)) ?_)) (fun _ => (ev_var (a3).env (i := 3) rfl)) fun z => nomatch z⟩
        rw [hb]
        rfl
      | succ y =>
        have e := hs y rfl
        have hl : fs.length = y + 1 := by rw [e]; exact (floors_ok g y).1
        obtain ⟨r, hr1, hr2⟩ := at_last hl
        have hyV : (yesF ks (y + 1)).getD (y + 1) false = (yesV ks (yesF ks y) ((y + 1 : Nat) : Int)).any id := by
          show (yesF ks y ++ [_]).getD (y + 1) false = _
          rw [List.getD_eq_getElem?_getD, List.getElem?_append_right (by rw [(yes_ok g y).1]; omega), (yes_ok g y).1, Nat.sub_self]
          rfl
        have hrD : (floorsF ks y).getD y 0 = r := by rw [List.getD_eq_getElem?_getD, ← e, hr1]; rfl
        refine ⟨if (yesV ks (yesF ks y) ((y + 1 : Nat) : Int)).any id = true then ((y + 1 : Nat) : Int) else r, by rw [e, ← hrD]; rfl, by omega, ev_if (b := (yesV ks (yesF ks y) ((y + 1 : Nat) : Int)).any id) (et_b (ev_cast ((ev_var (a3).env (i := 4) rfl)) ?_)) (fun z => ?_) fun z => ?_⟩
        · rw [hb, hyV]
        · rw [if_pos z]
          exact (ev_var (a3).env (i := 3) rfl)
        · rw [if_neg (by rw [z]; exact Bool.false_ne_true)]
          exact ev_ixR ((ev_var (a3).env (i := 2) rfl)) (.of hH3) (dpa_ints' (ns := fs)) (ev_neg ev_int) hr2
    obtain ⟨v, hv1, hv2, hv3⟩ := hnext
    refine s_app hH3 ((ev_var (a3).env (i := 2) rfl)) hv3 (by rw [List.length_map]; omega) fun w H4 e4 hw => ?_
    have hw : w = .int v := dp_int hw
    subst hw
    have a4 := (a3.mono e4).app (o := .lst (fs.map V.int ++ [V.int v])) hp (e4 _ _ hH3) rfl
    exact ⟨fs ++ [v], fun z => (nomatch z), fun j z => by rw [hv1]; congr 1; omega, by rw [upd_same, List.map_append]; rfl, (hB.trans (.of (e3.trans e4))).trans .upd, (a4.un 3).un 4⟩
  · obtain ⟨fs, h0, hs, hH, hB, a2⟩ := h
    rw [List.length_range] at hs
    exact s_ret ((ev_var (a2).env (i := 2) rfl)) fun w H3 e3 hw => q _ (.list (fs.map .int)) _ (congrArg (fun l => PyData.list (l.map .int)) (hs n rfl)) (a2.ex.trans e3) (by
      have hw : w = .ref p := hw
      subst hw
      exact .lst (.of (e3 _ _ hH)) dpa_ints')
end
end Wk

set_option maxHeartbeats 200000
set_option Elab.async false
set_option linter.all false
set_option maxRecDepth 100000
set_option maxHeartbeats 1000000
/-! WrB3: the law's greatest ring that refuses. -/
namespace Wk
open PySem PySem.Spec PyProof.Rows L2 Evl Wr
open C8 (Cal pe_c Met pe_mt pe_mt0 Mak pe_mk)
def behS (c t f l : Int) (F R : List Int) (best : Int) (k : Kd) : Int :=
  if 0 < c - l - k.2 ∧ 0 < atD 0 R (c - l - k.2) then max best (atD 0 F (t + k.1 - 1) + atD 0 R (c - l - k.2) + f - 1) else best
def behF (ks : List Kd) (c t f l : Int) (F R : List Int) : Int := ks.foldl (behS c t f l F R) (-1)
section
variable {K : PySem.W.Frag} {H0 H : Hp} {sl : List Sl} {σ : L2.St} {te : TE} {D : Ends} {tz : TS}
theorem q_nest {i j m n : Nat} {d1 d2 d3 d4 : PyData} (a : At K H0 sl σ H) (h : EvS K te σ H (.d (.tuple [d1, .tuple [d2, d3, d4]])))
    (k : ∀ σ1 H1, Ex H H1 → At K H0 ((((sl.set i (.d d1)).set j (.d d2)).set m (.d d3)).set n (.d d4)) σ1 H1 → tz D σ1 H1) :
    tSeq (tAsg te (gTup K 2 (gCons (gName i) (gCons (gTup K 3 (gCons (gName j) (gCons (gName m) (gCons (gName n) gNil)))) gNil)))) tz D σ H :=
  h H (Ex.refl H) _ fun u H1 e hu => by
    obtain ⟨p, xs, rfl, ht, hd⟩ := dp_tup hu
    cases hd with
    | cons h1 r =>
      cases r with
      | cons h2 r =>
        cases r
        obtain ⟨p2, ys, rfl, ht2, hd2⟩ := dp_tup h2
        cases hd2 with
        | cons g1 r =>
          cases r with
          | cons g2 r =>
            cases r with
            | cons g3 r =>
              cases r
              exact ⟨p, _, rfl, ht, rfl, _, _, rfl, _, _, rfl, ⟨p2, _, rfl, ht2, rfl, _, _, rfl, _, _, rfl, _, _, rfl, rfl, rfl,
                k _ H1 e (((((a.mono e).put i (l := .d d1) h1).put j (l := .d d2) g1).put m (l := .d d3) g2).put n (l := .d d4) g3)⟩⟩
theorem fold_take {α β : Type} {f : β → α → β} {b : β} {l : List α} {i : Nat} {x : α} (h : l[i]? = some x) : (l.take (i + 1)).foldl f b = f ((l.take i).foldl f b) x := by
  rw [List.take_add_one, h, List.foldl_append]
  rfl
end
section
variable {P : Program} {w : World} {K : PySem.W.Frag} {mg : Str → Option Value} {base : Heap} {C f : Addr} {fd : FuncData}
/-! l_top_behind -/
structure BehA where
  ks : List Kd
  c : Int
  t : Int
  f : Int
  l : Int
  F : List Int
  R : List Int
abbrev spBeh (K : PySem.W.Frag) : Sp := SpF K (α := BehA) (fun x => [.list (x.ks.map pr), .int x.c, .tuple [.int x.t, .int x.f, .int x.l], .list (x.F.map .int), .list (x.R.map .int)])
  (fun x => (∀ k ∈ x.ks, 0 ≤ x.t + k.1 - 1 ∧ x.t + k.1 - 1 < x.F.length) ∧ (∀ k ∈ x.ks, 0 ≤ k.2) ∧ 0 ≤ x.l ∧ x.c < x.R.length) fun x => .int (behF x.ks x.c x.t x.f x.l x.F x.R)
theorem ok_beh (T : Tx w K mg C) (F : Fun K "_law_top_behind" "_law_top_behind" s_l_top_behind f fd) : FnOk P w K mg base CX0 1 f fd p_l_top_behind (spBeh K) := by
  refine run_def F sc_l_top_behind (fun _ => rfl) fun cdv A outer s H vs Q E x hr hp a q => ?_
  refine ⟨_, (pss_cons (ps_asg (pe_tup (pa_cons (pe_un un_neg pe_int) (pa_cons (pv 2) pa_nil))) (pg_tup rfl (pgs_cons (pg_name (i := 5) sc_l_top_behind.nd rfl (.inl rfl)) (pgs_cons (pg_tup rfl (pgs_cons (pg_name (i := 6) sc_l_top_behind.nd rfl (.inl rfl)) (pgs_cons (pg_name (i := 7) sc_l_top_behind.nd rfl (.inl rfl)) (pgs_cons (pg_name (i := 8) sc_l_top_behind.nd rfl (.inl rfl)) pgs_nil)))) pgs_nil))))
(pss_cons (ps_for PassesOwn.never rfl (pi_list (pv 0)) (pg_tup rfl (pgs_cons (pg_name (i := 9) sc_l_top_behind.nd rfl (.inl rfl)) (pgs_cons (pg_name (i := 10) sc_l_top_behind.nd rfl (.inl rfl)) pgs_nil)))
(pss_cons (ps_set (i := 11) sc_l_top_behind.nd rfl (.inl rfl) (pe_op op_sub (pe_op op_sub (pv 1) (pv 8)) (pv 10)))
(pss_one (ps_if (PW.pt (pw_and (pt_cmpR op_gt (pv 11) pe_int (nomark _)) (pw_and1 (pt_cmpR op_gt (pe_ix (ix_seqK (K := K)) (pv 4) (pv 11) (fun _ _ => rfl)) pe_int (nomark _)))))
(pss_one (ps_set (i := 5) sc_l_top_behind.nd rfl (.inl rfl) (pe_callB (call_max2 rfl) (by rfl) T.b_max bt_max (pa_cons (pv 5) (pa_cons (pe_op op_sub (pe_op op_add (pe_op op_add (pe_ix (ix_seqK (K := K)) (pv 3) (pe_op op_sub (pe_op op_add (pv 6) (pv 9)) pe_int) (fun _ _ => rfl)) (pe_ix (ix_seqK (K := K)) (pv 4) (pv 11) (fun _ _ => rfl))) (pv 7)) pe_int) pa_nil)))))
pss_nil))))
(pss_one (ps_ret (pv 5))))), ?_⟩
  obtain ⟨ks, c, t, f, l, F, R⟩ := x
  obtain ⟨p1, p2, p3, p4⟩ := hp
  have p1 : ∀ k ∈ ks, 0 ≤ t + k.1 - 1 ∧ t + k.1 - 1 < F.length := p1
  have p2 : ∀ k ∈ ks, 0 ≤ k.2 := p2
  have p3 : 0 ≤ l := p3
  have p4 : c < R.length := p4
  have a : At K H [.d (.list (ks.map pr)), .d (.int c), .d (.tuple [.int t, .int f, .int l]), .d (.list (F.map .int)), .d (.list (R.map .int)), .un, .un, .un, .un, .un, .un, .un] (start n_l_top_behind vs) H := a
  refine q_nest a (ev_tup (ds := [.int (-1), .tuple [.int t, .int f, .int l]]) (ea_cons (ev_neg ev_int) (ea_cons ((ev_var (a).env (i := 2) rfl)) ea_nil)) (by decide : 2 ≤ 100000)) fun σ1 H1 e1 a1 => ?_
  refine q_for (src_kl2 (i := 9) (j := 10) ((ev_var (a1).env (i := 0) rfl))) (fun H2 i σ' H' => Ex H2 H' ∧ At K H [.d (.list (ks.map pr)), .d (.int c), .d (.tuple [.int t, .int f, .int l]), .d (.list (F.map .int)), .d (.list (R.map .int)), .d (.int ((ks.take i).foldl (behS c t f l F R) (-1))), .d (.int t), .d (.int f), .d (.int l), .un, .un, .un] σ' H')
    (fun H2 e2 => ⟨Ex.refl _, a1.mono e2⟩) (fun _ _ _ _ _ h => h.1) (fun H2 i k σ' H' H'' us e2 hx ⟨eH, a2⟩ e3 hus => ?_) fun H2 σ' H' e2 ⟨eH, a2⟩ => ?_
  · have hk : k ∈ ks := List.mem_of_getElem? hx
    have a3 := (a2.mono e3).putAll (js := [9, 10]) hus rfl
    have f1 := p1 k hk
    have f2 := p2 k hk
    refine q_asg a3 (ev_sub (ev_sub ((ev_var (a3).env (i := 1) rfl)) ((ev_var (a3).env (i := 8) rfl))) ((ev_var (a3).env (i := 10) rfl))) fun σ4 H4 e4 a4 => ?_
    refine s_if (b := decide (0 < c - l - k.2) && decide (0 < atD 0 R (c - l - k.2))) a4 (et_and (et_s (ev_gt ((ev_var (a4).env (i := 11) rfl)) ev_int)) fun z => ?_) (fun hb H5 e5 a5 => ?_) fun hb H5 e5 a5 => ?_
    · have h0 : 0 < c - l - k.2 := of_decide_eq_true z
      exact et_s (ev_gt (ev_ixL ((ev_var (a4).env (i := 4) rfl)) ((ev_var (a4).env (i := 11) rfl)) (at_sub (by omega) (by omega))) ev_int)
    · rw [Bool.and_eq_true] at hb
      have h0 : 0 < c - l - k.2 := of_decide_eq_true hb.1
      have h1 : 0 < atD 0 R (c - l - k.2) := of_decide_eq_true hb.2
      refine s_asg a5 (ev_max2 ((ev_var (a5).env (i := 5) rfl)) (ev_sub (ev_add (ev_add (ev_ixL ((ev_var (a5).env (i := 3) rfl)) (ev_sub (ev_add ((ev_var (a5).env (i := 6) rfl)) ((ev_var (a5).env (i := 9) rfl))) ev_int) (at_sub f1.1 f1.2)) (ev_ixL ((ev_var (a5).env (i := 4) rfl)) ((ev_var (a5).env (i := 11) rfl)) (at_sub (by omega) (by omega)))) ((ev_var (a5).env (i := 7) rfl))) ev_int)) fun σ6 H6 e6 a6 => ?_
      refine ⟨(((eH.trans e3).trans e4).trans e5).trans e6, ?_⟩
      have : ((ks.take (i + 1)).foldl (behS c t f l F R) (-1)) = max ((ks.take i).foldl (behS c t f l F R) (-1)) (atD 0 F (t + k.1 - 1) + atD 0 R (c - l - k.2) + f - 1) := by
        rw [fold_take hx]
        exact if_pos ⟨h0, h1⟩
      rw [this]
      exact ((a6.un 9).un 10).un 11
    · have hn : ¬ (0 < c - l - k.2 ∧ 0 < atD 0 R (c - l - k.2)) := fun z => by
        rw [decide_eq_true z.1, decide_eq_true z.2] at hb
        exact nomatch hb
      refine ⟨((eH.trans e3).trans e4).trans e5, ?_⟩
      have : ((ks.take (i + 1)).foldl (behS c t f l F R) (-1)) = (ks.take i).foldl (behS c t f l F R) (-1) := by
        rw [fold_take hx]
        exact if_neg hn
      rw [this]
      exact ((a5.un 9).un 10).un 11
  · rw [List.take_length] at a2
    exact s_ret ((ev_var (a2).env (i := 5) rfl)) fun u H3 e3 hu => q _ _ _ rfl (a2.ex.trans e3) hu
/-! l_top -/
def topS1 (c : Int) (F R : List Int) (best : Int) (k : Kd) : Int := if 0 < atD 0 R (c - k.2) then max best (atD 0 F (k.1 - 1) + atD 0 R (c - k.2) + k.1 - 1) else best
def topS2 (ks : List Kd) (c t : Int) (F R : List Int) (S : List (Option Int)) (best : Int) (k : Kd) : Int :=
  if k.1 ≤ t then match atD none S (t - k.1) with
    | some y => max best (behF ks c t k.1 (y + k.2) F R)
    | none => best
  else best
def topS3 (ks : List Kd) (c : Int) (F R : List Int) (S : List (Option Int)) (best : Int) (i : Nat) : Int := ks.foldl (topS2 ks c ((i + 1 : Nat) : Int) F R S) best
def many (ks : List Kd) (c : Nat) : Nat := ((richF ks c).getD c 0 + 30).toNat
def topG (ks : List Kd) (c : Nat) : Int :=
  (List.range ((richF ks c).getD c 0).toNat).foldl (topS3 ks c (floorsF ks (many ks c)) (richF ks c) (slimF ks (many ks c)))
    (ks.foldl (topS1 c (floorsF ks (many ks c)) (richF ks c)) (lmax (ks.map (·.1)) - 1))
def topF (ks : List Kd) (c : Nat) : Int := if Wr.free ks c = [] then -1 else topG (Wr.free ks c) c
abbrev spTop (K : PySem.W.Frag) : Sp := SpF K (α := List Kd × Nat) (fun x => [kdD x.1, .int (x.2 : Nat)]) (fun x => Good x.1 ∧ x.1.length ≤ 1000 ∧ x.2 ≤ 100) fun x => .int (topF x.1 x.2)
theorem ok_top (T : Tx w K mg C) (G_l_can_pay : Cal P w K mg base 1 "_law_can_pay" (spCanPay K) []) (G_l_rich : Cal P w K mg base 1 "_law_rich" (spRich K) []) (G_l_floors : Cal P w K mg base 2 "_law_floors" (spFloors K) [])
    (G_l_slim : Cal P w K mg base 1 "_law_slim" (spSlim K) []) (G_l_top_behind : Cal P w K mg base 1 "_law_top_behind" (spBeh K) []) (F : Fun K "_law_top" "_law_top" s_l_top f fd) : FnOk P w K mg base CX0 3 f fd p_l_top (spTop K) := by
  refine run_def F sc_l_top (fun _ => rfl) fun cdv A outer s H vs Q E x hr hp a q => ?_
  refine ⟨_, (pss_cons (ps_set (i := 2) sc_l_top.nd rfl (.inl rfl) (pe_c G_l_can_pay hr (by decide) (by rfl) (pa_cons (pv 0) (pa_cons (pv 1) pa_nil))))
(pss_cons (ps_if (pt_cmpR (op_eqD hr.units) (pv 2) (pe_lst pa_nil) (nomark _))
(pss_one (ps_ret (pe_un un_neg pe_int)))
pss_nil)
(pss_cons (ps_set (i := 3) sc_l_top.nd rfl (.inl rfl) (pe_c G_l_rich hr (by decide) (by rfl) (pa_cons (pv 2) (pa_cons (pv 1) pa_nil))))
(pss_cons (ps_set (i := 4) sc_l_top.nd rfl (.inl rfl) (pe_op op_add (pe_ix (ix_seqK (K := K)) (pv 3) (pv 1) (fun _ _ => rfl)) pe_int))
(pss_cons (ps_par (i := 5) (j := 6) (by rfl) sc_l_top.nd rfl rfl (by decide) rfl rfl (pa_cons (pe_c G_l_floors hr (by decide) (by rfl) (pa_cons (pv 2) (pa_cons (pv 4) pa_nil))) (pa_cons (pe_c G_l_slim hr (by decide) (by rfl) (pa_cons (pv 2) (pa_cons (pv 4) pa_nil))) pa_nil)) (by rfl))
(pss_cons (ps_set (i := 7) sc_l_top.nd rfl (.inl rfl) (pe_op op_sub (pe_callB (cr_max rfl) (by rfl) T.b_max bt_max (pa_cons (pe_lc (own := [("_law_length", 8), ("_law_heavy", 9)]) (g := gTup K 2 (gCons (gName 8) (gCons (gName 9) (gNil)))) (tt := tYes) rfl sc_l_top.nd (pi_list (pv 2)) (blkOk_by (N := n_l_top) (sc := defScope s_l_top) (by decide +kernel)) (fun _ _ _ _ _ => (pg_tup rfl (pgs_cons (pg_name (i := 8) sc_l_top.nd rfl (.inl rfl)) (pgs_cons (pg_name (i := 9) sc_l_top.nd rfl (.inl rfl)) pgs_nil)))) (fun _ _ _ _ _ => pts_nil) (fun _ _ _ _ _ => (pv 8))) pa_nil)) pe_int))
(pss_cons (ps_for PassesOwn.never rfl (pi_list (pv 2)) (pg_tup rfl (pgs_cons (pg_name (i := 8) sc_l_top.nd rfl (.inl rfl)) (pgs_cons (pg_name (i := 9) sc_l_top.nd rfl (.inl rfl)) pgs_nil)))
(pss_cons (ps_set (i := 10) sc_l_top.nd rfl (.inl rfl) (pe_ix (ix_seqK (K := K)) (pv 3) (pe_op op_sub (pv 1) (pv 9)) (fun _ _ => rfl)))
(pss_one (ps_set (i := 7) sc_l_top.nd rfl (.inl rfl) (pe_ifExp (pt_cmpR op_gt (pv 10) pe_int (nomark _)) (pe_callB (call_max2 rfl) (by rfl) T.b_max bt_max (pa_cons (pv 7) (pa_cons (pe_op op_sub (pe_op op_add (pe_op op_add (pe_ix (ix_seqK (K := K)) (pv 5) (pe_op op_sub (pv 8) pe_int) (fun _ _ => rfl)) (pv 10)) (pv 8)) pe_int) pa_nil))) (pv 7))))))
(pss_cons (ps_for PassesOwn.never rfl (pi_range2 (by rfl) T.b_range (pa_cons pe_int (pa_cons (pe_op op_add (pe_ix (ix_seqK (K := K)) (pv 3) (pv 1) (fun _ _ => rfl)) pe_int) pa_nil))) (pg_name (i := 11) sc_l_top.nd rfl (.inl rfl))
(pss_one (ps_for PassesOwn.never rfl (pi_list (pv 2)) (pg_tup rfl (pgs_cons (pg_name (i := 12) sc_l_top.nd rfl (.inl rfl)) (pgs_cons (pg_name (i := 13) sc_l_top.nd rfl (.inl rfl)) pgs_nil)))
(pss_one (ps_if (PW.pt (pw_and (pt_cmpR op_le (pv 12) (pv 11) (nomark _)) (pw_and1 (pt_cmp (pc_notN (pe_ix (ix_seqK (K := K)) (pv 6) (pe_op op_sub (pv 11) (pv 12)) (fun _ _ => rfl))) rfl))))
(pss_one (ps_set (i := 7) sc_l_top.nd rfl (.inl rfl) (pe_callB (call_max2 rfl) (by rfl) T.b_max bt_max (pa_cons (pv 7) (pa_cons (pe_c G_l_top_behind hr (by decide) (by rfl) (pa_cons (pv 2) (pa_cons (pv 1) (pa_cons (pe_tup (pa_cons (pv 11) (pa_cons (pv 12) (pa_cons (pe_op op_add (pe_ix (ix_seqK (K := K)) (pv 6) (pe_op op_sub (pv 11) (pv 12)) (fun _ _ => rfl)) (pv 13)) pa_nil)))) (pa_cons (pv 5) (pa_cons (pv 3) pa_nil)))))) pa_nil)))))
pss_nil)))))
(pss_one (ps_ret (pv 7))))))))))), ?_⟩
  obtain ⟨ks, c⟩ := x
  obtain ⟨g0, hk0, hc⟩ := hp
  have hk0 : ks.length ≤ 1000 := hk0
  have hc : c ≤ 100 := hc
  have a : At K H [.d (kdD ks), .d (.int (c : Nat)), .un, .un, .un, .un, .un, .un, .un, .un, .un, .un, .un, .un] (start n_l_top vs) H := a
  have g : Good (Wr.free ks c) := Good.free g0 _
  have hk : (Wr.free ks c).length ≤ 1000 := Nat.le_trans (List.length_filter_le _ _) hk0
  have hcap : ∀ k ∈ Wr.free ks c, k.2 ≤ (c : Int) := fun k hk => (mem_free.mp hk).2
  refine q_asg a (evD (x := (ks, (c : Int))) (ea_cons ((ev_var (a).env (i := 0) rfl)) (ea_cons ((ev_var (a).env (i := 1) rfl)) ea_nil)) hk0) fun σ1 H1 e1 a1 => ?_
  have htop : topF ks c = if Wr.free ks c = [] then -1 else topG (Wr.free ks c) c := rfl
  have out : ∀ {te : TE} {t : Int} {σ1 : L2.St} {H1 : Hp} (e1 : Ex H H1) (h : EvS K te σ1 H1 (.d (.int t))), t = topF ks c → tRet te { nx := fun _ H' => Q .non H', rt := Q } σ1 H1 := fun e1 h z =>
    s_ret h fun u H2 e2 hu => q _ _ _ rfl (e1.trans e2) (by rw [z] at hu; exact hu)
  generalize hfr : Wr.free ks c = fr at *
  clear hfr g0 hk0 a
  refine q_when a1 (et_s (ev_eqNil ((ev_var (a1).env (i := 2) rfl)) (shp_kl fr) ev_nilL)) (fun hb H2 e2 a2 => ?_) fun hb H2 e2 a2 => ?_
  · have : fr = [] := by
      cases fr with
      | nil => rfl
      | cons _ _ => simp at hb
    exact out a2.ex (ev_neg ev_int) (by rw [htop, if_pos this])
  have hne : fr ≠ [] := fun z => by rw [z] at hb; simp at hb
  rw [if_neg hne] at htop
  -- the tables
  have rok := rich_ok g c
  have hrl : (richF fr c).length = c + 1 := rok.1
  have hrc : (richF fr c)[c]? = some ((richF fr c).getD c 0) := getD_at (by omega)
  have hr1 := rok.2 c _ hrc
  have hr0 := rich_nonneg hr1 (by omega)
  have hr2 := rich_le g hr1
  generalize hrr : (richF fr c).getD c 0 = r at *
  obtain ⟨rn, rfl⟩ := Int.eq_ofNat_of_zero_le hr0
  have hmany : many fr c = rn + 30 := by unfold many; rw [hrr]; omega
  refine q_asg a2 (evD (x := (fr, c)) (Pre := tabP) (enc := tabE) (r := fun x => .list ((richF x.1 x.2).map .int)) (ea_cons ((ev_var (a2).env (i := 2) rfl)) (ea_cons ((ev_var (a2).env (i := 1) rfl)) ea_nil)) ⟨g, hk, by show c ≤ 5000; omega⟩) fun σ3 H3 e3 a3 => ?_
  refine q_asg a3 (ev_add (ev_ixL ((ev_var (a3).env (i := 3) rfl)) ((ev_var (a3).env (i := 1) rfl)) (at_map hrc)) ev_int) fun σ4 H4 e4 a4 => ?_
  have a4 : At K H [.d (kdD ks), .d (.int (c : Nat)), .d (.list (fr.map pr)), .d (.list ((richF fr c).map .int)), .d (.int ((rn + 30 : Nat) : Int)), .un, .un, .un, .un, .un, .un, .un, .un, .un] σ4 H4 := a4
  have hm : tabP (fr, rn + 30) := ⟨g, hk, by show rn + 30 ≤ 5000; omega⟩
  refine q_par a4 (ea_cons (evD (x := (fr, rn + 30)) (Pre := tabP) (enc := tabE) (r := fun x => .list ((floorsF x.1 x.2).map .int)) (ea_cons ((ev_var (a4).env (i := 2) rfl)) (ea_cons ((ev_var (a4).env (i := 4) rfl)) ea_nil)) hm) (ea_cons (evD (x := (fr, rn + 30)) (Pre := tabP) (enc := tabE) (r := fun x => .list ((slimF x.1 x.2).map opD)) (ea_cons ((ev_var (a4).env (i := 2) rfl)) (ea_cons ((ev_var (a4).env (i := 4) rfl)) ea_nil)) hm) ea_nil)) fun σ5 H5 e5 a5 => ?_
  have hfl : (floorsF fr (rn + 30)).length = rn + 30 + 1 := (floors_ok g _).1
  have hsl : (slimF fr (rn + 30)).length = rn + 30 + 1 := (slim_ok g _).1
  have hlc := en_lcA (vs := [8, 9]) (te := tVar 8) (fun k : Kd => .int k.1) (src_kl2 (i := 8) (j := 9) ((ev_var (a5).env (i := 2) rfl))) a5.env (Nat.le_trans hk (by decide)) (by decide) (fun _ _ => rfl) fun k _ σ' H' e en => (ev_var en (i := 8) rfl)
  refine q_asg a5 (ev_sub (ev_max (ns := fr.map (·.1)) (en_cast hlc (by rw [List.map_map]; rfl)).toS (by simpa using hne)) ev_int) fun σ6 H6 e6 a6 => ?_
  generalize hF : floorsF fr (rn + 30) = FF at *
  generalize hS : slimF fr (rn + 30) = SS at *
  generalize hR : richF fr c = RR at *
  have htop : topF ks c = (List.range rn).foldl (topS3 fr c FF RR SS) (fr.foldl (topS1 c FF RR) (lmax (fr.map (·.1)) - 1)) := by
    rw [htop]
    unfold topG
    rw [hmany, hF, hS, hR, hrr]
    rfl
  refine q_for (src_kl2 (i := 8) (j := 9) ((ev_var (a6).env (i := 2) rfl))) (fun H2 i σ' H' => Ex H2 H' ∧ At K H [.d (kdD ks), .d (.int (c : Nat)), .d (.list (fr.map pr)), .d (.list (RR.map .int)), .d (.int ((rn + 30 : Nat) : Int)), .d (.list (FF.map .int)), .d (.list (SS.map opD)), .d (.int ((fr.take i).foldl (topS1 c FF RR) (lmax (fr.map (·.1)) - 1))), .un, .un, .un, .un, .un, .un] σ' H')
    (fun H2 e2 => ⟨Ex.refl _, a6.mono e2⟩) (fun _ _ _ _ _ h => h.1) (fun H2 i k σ' H' H'' us e2 hx ⟨eH, a2⟩ e3 hus => ?_) fun H2 σ' H' e2 ⟨eH, a7⟩ => ?_
  · have hk' : k ∈ fr := List.mem_of_getElem? hx
    have a3 := (a2.mono e3).putAll (js := [8, 9]) hus rfl
    have gk := g k hk'
    have hc' := hcap k hk'
    refine q_asg a3 (ev_ixL ((ev_var (a3).env (i := 3) rfl)) (ev_sub ((ev_var (a3).env (i := 1) rfl)) ((ev_var (a3).env (i := 9) rfl))) (at_sub (by omega) (by omega))) fun σ4 H4 e4 a4 => ?_
    refine s_asg (l := .d (.int (topS1 c FF RR ((fr.take i).foldl (topS1 c FF RR) (lmax (fr.map (·.1)) - 1)) k))) a4 (ev_if (et_s (ev_gt ((ev_var (a4).env (i := 10) rfl)) ev_int)) (fun z => ?_) fun z => ?_) fun σ5 H5 e5 a5 => ?_
    · unfold topS1
      rw [if_pos (of_decide_eq_true z)]
      exact ev_max2 ((ev_var (a4).env (i := 7) rfl)) (ev_sub (ev_add (ev_add (ev_ixL ((ev_var (a4).env (i := 5) rfl)) (ev_sub ((ev_var (a4).env (i := 8) rfl)) ev_int) (at_sub (by omega) (by omega))) ((ev_var (a4).env (i := 10) rfl))) ((ev_var (a4).env (i := 8) rfl))) ev_int)
    · unfold topS1
      rw [if_neg (of_decide_eq_false z)]
      exact (ev_var (a4).env (i := 7) rfl)
    · refine ⟨((eH.trans e3).trans e4).trans e5, ?_⟩
      rw [fold_take hx]
      exact ((a5.un 8).un 9).un 10
  rw [List.take_length] at a7
  generalize hb1 : fr.foldl (topS1 c FF RR) (lmax (fr.map (·.1)) - 1) = b1 at *
  refine q_for (src_up (n := rn) (j := 11) (ea_cons ev_int (ea_cons (ev_add (ev_ixL ((ev_var (a7).env (i := 3) rfl)) ((ev_var (a7).env (i := 1) rfl)) (at_map hrc)) ev_int) ea_nil)) (by omega)) (fun H2 i σ' H' => At K H [.d (kdD ks), .d (.int (c : Nat)), .d (.list (fr.map pr)), .d (.list (RR.map .int)), .d (.int ((rn + 30 : Nat) : Int)), .d (.list (FF.map .int)), .d (.list (SS.map opD)), .d (.int ((List.range i).foldl (topS3 fr c FF RR SS) b1)), .un, .un, .un, .un, .un, .un] σ' H')
    (fun H2 e2 => a7.mono e2) (fun _ _ _ _ _ _ => trivial) (fun H2 i x σ' H' H'' us e2 hx a8 e3 hus => ?_) fun H2 σ' H' e2 a9 => ?_
  · obtain ⟨rfl, hin⟩ := range_at hx
    have a9 := (a8.mono e3).putAll (js := [11]) hus rfl
    refine s_for (src_kl2 (i := 12) (j := 13) ((ev_var (a9).env (i := 2) rfl))) (fun H3 i σ' H' => Ex H3 H' ∧ At K H [.d (kdD ks), .d (.int (c : Nat)), .d (.list (fr.map pr)), .d (.list (RR.map .int)), .d (.int ((rn + 30 : Nat) : Int)), .d (.list (FF.map .int)), .d (.list (SS.map opD)), .d (.int ((fr.take i).foldl (topS2 fr c ((x + 1 : Nat) : Int) FF RR SS) ((List.range x).foldl (topS3 fr c FF RR SS) b1))), .un, .un, .un, .d (.int ((x + 1 : Nat) : Int)), .un, .un] σ' H')
      (fun H3 e4 => ⟨Ex.refl _, a9.mono e4⟩) (fun _ _ _ _ _ h => h.1) (fun H3 i k σ' H' H'' us e4 hx' ⟨eH, a2⟩ e3 hus => ?_) fun H3 σ' H' e4 ⟨eH, a10⟩ => ?_
    · have hk' : k ∈ fr := List.mem_of_getElem? hx'
      have a3 := (a2.mono e3).putAll (js := [12, 13]) hus rfl
      have gk := g k hk'
      have hc' := hcap k hk'
      have step := fold_take (f := topS2 fr c ((x + 1 : Nat) : Int) FF RR SS) (b := (List.range x).foldl (topS3 fr c FF RR SS) b1) hx'
      generalize hbb : (fr.take i).foldl (topS2 fr c ((x + 1 : Nat) : Int) FF RR SS) ((List.range x).foldl (topS3 fr c FF RR SS) b1) = bb at *
      refine s_if (b := decide (k.1 ≤ ((x + 1 : Nat) : Int)) && !isNo (opD (atD none SS (((x + 1 : Nat) : Int) - k.1)))) a3 (et_and (et_s (ev_le ((ev_var (a3).env (i := 12) rfl)) ((ev_var (a3).env (i := 11) rfl)))) fun z => ?_) (fun hb H5 e5 a5 => ?_) fun hb H5 e5 a5 => ?_
      · have h0 : k.1 ≤ ((x + 1 : Nat) : Int) := of_decide_eq_true z
        exact et_b (ev_notN (ev_ixL ((ev_var (a3).env (i := 6) rfl)) (ev_sub ((ev_var (a3).env (i := 11) rfl)) ((ev_var (a3).env (i := 12) rfl))) (at_subO (by omega) (by omega))))
      · rw [Bool.and_eq_true] at hb
        have h0 : k.1 ≤ ((x + 1 : Nat) : Int) := of_decide_eq_true hb.1
        have hb2 := hb.2
        cases ho : atD none SS (((x + 1 : Nat) : Int) - k.1) with
        | none => rw [ho] at hb2; exact absurd hb2 (by decide)
        | some y =>
          have hix : EvS K (tOp (rIx K) (tVar 6) (tOp (rI0 fun i j => .int (i - j)) (tVar 11) (tVar 12))) (setAll σ' [12, 13] us) H5 (.d (.int y)) :=
            ev_cast (ev_ixL ((ev_var (a5).env (i := 6) rfl)) (ev_sub ((ev_var (a5).env (i := 11) rfl)) ((ev_var (a5).env (i := 12) rfl))) (at_subO (by omega) (by omega))) (by rw [ho]; rfl)
          have hy : 0 ≤ y := by
            have hlt : (((x + 1 : Nat) : Int) - k.1).toNat < SS.length := by omega
            have := (slim_ok g (rn + 30)).2 (((x + 1 : Nat) : Int) - k.1).toNat (some y) (by rw [hS, getD_at (d := none) hlt]; exact congrArg some ho)
            obtain ⟨⟨ms, hf, _, hw⟩, _⟩ := this
            have := (len_nonneg g hf).2.1
            omega
          refine s_asg a5 (ev_max2 ((ev_var (a5).env (i := 7) rfl)) (evD (x := (⟨fr, c, ((x + 1 : Nat) : Int), k.1, y + k.2, FF, RR⟩ : BehA)) (ea_cons ((ev_var (a5).env (i := 2) rfl)) (ea_cons ((ev_var (a5).env (i := 1) rfl)) (ea_cons (ev_tup (ds := [.int ((x + 1 : Nat) : Int), .int k.1, .int (y + k.2)]) (ea_cons ((ev_var (a5).env (i := 11) rfl)) (ea_cons ((ev_var (a5).env (i := 12) rfl)) (ea_cons (ev_add hix ((ev_var (a5).env (i := 13) rfl))) ea_nil))) (by decide : 3 ≤ 100000)) (ea_cons ((ev_var (a5).env (i := 5) rfl)) (ea_cons ((ev_var (a5).env (i := 3) rfl)) ea_nil))))) ⟨fun k' hk2 => ?_, fun k' hk2 => ?_, ?_, ?_⟩)) fun σ6 H6 e6 a6 => ?_
          · have := g k' hk2
            show 0 ≤ ((x + 1 : Nat) : Int) + k'.1 - 1 ∧ ((x + 1 : Nat) : Int) + k'.1 - 1 < (FF.length : Int)
            omega
          · have := g k' hk2
            omega
          · show 0 ≤ y + k.2
            omega
          · show (c : Int) < (RR.length : Int)
            omega
          · refine ⟨((eH.trans e3).trans e5).trans e6, ?_⟩
            have : topS2 fr c ((x + 1 : Nat) : Int) FF RR SS bb k = max bb (behF fr c ((x + 1 : Nat) : Int) k.1 (y + k.2) FF RR) := by
              unfold topS2
              rw [if_pos h0, ho]
            rw [step, this]
            exact (a6.un 12).un 13
      · refine ⟨(eH.trans e3).trans e5, ?_⟩
        have : topS2 fr c ((x + 1 : Nat) : Int) FF RR SS bb k = bb := by
          unfold topS2
          by_cases h0 : k.1 ≤ ((x + 1 : Nat) : Int)
          · rw [if_pos h0]
            rw [decide_eq_true h0, Bool.true_and] at hb
            cases ho : atD none SS (((x + 1 : Nat) : Int) - k.1) with
            | none => rfl
            | some y => rw [ho] at hb; exact absurd hb (fun z : true = false => nomatch z)
          · rw [if_neg h0]
        rw [step, this]
        exact (a5.un 12).un 13
    · rw [List.take_length] at a10
      have : (List.range (x + 1)).foldl (topS3 fr c FF RR SS) b1 = fr.foldl (topS2 fr c ((x + 1 : Nat) : Int) FF RR SS) ((List.range x).foldl (topS3 fr c FF RR SS) b1) := by
        rw [List.range_succ, List.foldl_append]
        rfl
      rw [this]
      exact (a10.un 11)
  · rw [List.length_range] at a9
    exact out a9.ex ((ev_var (a9).env (i := 7) rfl)) htop.symm
end
end Wk

set_option maxHeartbeats 200000
set_option Elab.async false
set_option linter.all false
/-! WrTop: what the law's top computes is the greatest ring that refuses. -/
namespace Wk
open Wr
/-- a fold that takes maxima of things that are all under t -/
theorem fold_le {α : Type} {f : Int → α → Int} {t : Int} {l : List α} (h : ∀ b x, x ∈ l → b ≤ t → f b x ≤ t) : ∀ b, b ≤ t → l.foldl f b ≤ t := by
  induction l with
  | nil => exact fun b h => h
  | cons a l ih => exact fun b hb => ih (fun b x hx => h b x (List.mem_cons_of_mem _ hx)) _ (h b a List.mem_cons_self hb)
theorem fold_ge {α : Type} {f : Int → α → Int} {l : List α} (h : ∀ b x, x ∈ l → b ≤ f b x) : ∀ b, b ≤ l.foldl f b := by
  induction l with
  | nil => exact fun b => Int.le_refl _
  | cons a l ih => exact fun b => Int.le_trans (h b a List.mem_cons_self) (ih (fun b x hx => h b x (List.mem_cons_of_mem _ hx)) _)
theorem fold_mem {α : Type} {f : Int → α → Int} {l : List α} {x : α} {v : Int} (hx : x ∈ l) (h : ∀ b y, y ∈ l → b ≤ f b y) (hv : ∀ b, v ≤ f b x) : ∀ b, v ≤ l.foldl f b := by
  induction l with
  | nil => exact nomatch hx
  | cons a l ih =>
    intro b
    rcases List.mem_cons.mp hx with rfl | hx
    · exact Int.le_trans (hv b) (fold_ge (fun b y hy => h b y (List.mem_cons_of_mem _ hy)) _)
    · exact ih hx (fun b y hy => h b y (List.mem_cons_of_mem _ hy)) _
/-- a fold keeps what holds of its start and of each new value -/
theorem fold_prop {α : Type} {f : Int → α → Int} {P : Int → Prop} {l : List α} (h : ∀ b x, x ∈ l → P b → P (f b x)) : ∀ b, P b → P (l.foldl f b) := by
  induction l with
  | nil => exact fun b h => h
  | cons a l ih => exact fun b hb => ih (fun b x hx => h b x (List.mem_cons_of_mem _ hx)) _ (h b a List.mem_cons_self hb)
theorem max_prop {P : Int → Prop} {a b : Int} (ha : P a) (hb : P b) : P (max a b) := by
  by_cases h : a ≤ b
  · rw [Int.max_eq_right h]; exact hb
  · rw [Int.max_eq_left (by omega)]; exact ha
section
variable {fr : List Kd} {c : Nat}
theorem rich_at (g : Good fr) {i : Int} (h0 : 0 ≤ i) (h : i ≤ (c : Int)) : RichAt fr i (atD 0 (richF fr c) i) := atD_ok (d := 0) (P := RichAt fr) (rich_ok g c).1 (rich_ok g c).2 i h0 (by omega)
theorem floor_at (g : Good fr) {m : Nat} {i : Int} (h0 : 0 ≤ i) (h : i ≤ (m : Int)) : FloorAt fr i (atD 0 (floorsF fr m) i) := atD_ok (d := 0) (P := FloorAt fr) (floors_ok g m).1 (floors_ok g m).2 i h0 (by omega)
theorem slim_at (g : Good fr) {m : Nat} {i : Int} (h0 : 0 ≤ i) (h : i ≤ (m : Int)) : SlimAt fr i (atD none (slimF fr m) i) := atD_ok (d := none) (P := SlimAt fr) (slim_ok g m).1 (slim_ok g m).2 i h0 (by omega)
theorem top_ok (g : Good fr) (hcap : ∀ k ∈ fr, k.2 ≤ (c : Int)) (hne : fr ≠ []) : TopOk fr (c : Int) (topG fr c) := by
  unfold topG
  have hr : RichAt fr (c : Int) (atD 0 (richF fr c) (c : Int)) := rich_at g (by omega) (by omega)
  have hr' : atD 0 (richF fr c) (c : Int) = (richF fr c).getD c 0 := by unfold atD; rw [Int.toNat_natCast]
  have hr0 := rich_nonneg hr (by omega)
  have hm : (many fr c : Int) = (richF fr c).getD c 0 + 30 := by unfold many; rw [hr'] at hr0; omega
  rw [hr'] at hr hr0
  have fl : ∀ i : Int, 0 ≤ i → i ≤ (richF fr c).getD c 0 + 30 → FloorAt fr i (atD 0 (floorsF fr (many fr c)) i) := fun i h0 h => floor_at g h0 (by omega)
  have sl : ∀ i : Int, 0 ≤ i → i ≤ (richF fr c).getD c 0 + 30 → SlimAt fr i (atD none (slimF fr (many fr c)) i) := fun i h0 h => slim_at g h0 (by omega)
  have ri : ∀ i : Int, 0 ≤ i → i ≤ (c : Int) → RichAt fr i (atD 0 (richF fr c) i) := fun i h0 h => rich_at g h0 h
  generalize floorsF fr (many fr c) = F at *
  generalize slimF fr (many fr c) = S at *
  generalize hR : richF fr c = R at *
  generalize hrr : R.getD c 0 = r at *
  clear hm
  have hmk : fr.map (·.1) ≠ [] := by simpa using hne
  -- nothing falls
  have up1 : ∀ b k, k ∈ fr → b ≤ topS1 c F R b k := fun b k _ => by
    unfold topS1
    split
    · exact Int.le_max_left _ _
    · exact Int.le_refl _
  have upb : ∀ t f l b k, k ∈ fr → b ≤ behS c t f l F R b k := fun t f l b k _ => by
    unfold behS
    split
    · exact Int.le_max_left _ _
    · exact Int.le_refl _
  have up2 : ∀ t b k, k ∈ fr → b ≤ topS2 fr c t F R S b k := fun t b k _ => by
    unfold topS2
    split
    · split
      · exact Int.le_max_left _ _
      · exact Int.le_refl _
    · exact Int.le_refl _
  have up3 : ∀ b i, i ∈ List.range r.toNat → b ≤ topS3 fr c F R S b i := fun b i _ => fold_ge (fun b k hk => up2 _ b k hk) b
  refine ⟨fun v hv => ?_, .inr ?_⟩
  · cases hv with
    | long k hk =>
      refine Int.le_trans ?_ (fold_ge up3 _)
      refine Int.le_trans ?_ (fold_ge up1 _)
      have := le_lmax (List.mem_map.mpr ⟨k, hk, rfl⟩ : k.1 ∈ fr.map (·.1))
      omega
    | short k h ms hk hh hlt hms hne' hw =>
      refine Int.le_trans ?_ (fold_ge up3 _)
      refine fold_mem hk up1 (fun b => ?_) _
      have gk := g k hk
      have hp := len_pos g hms hne'
      have hc := hcap k hk
      have hR := ri (c - k.2) (by omega) (by omega)
      have hle := hR.2 ms hms (by omega)
      have hF := fl (k.1 - 1) (by omega) (by omega)
      have hle2 := hF.2.2 h hh (by omega)
      unfold topS1
      rw [if_pos (by omega)]
      refine Int.le_trans ?_ (Int.le_max_right _ _)
      omega
    | caught k t rest old h hk ht hrest hold hne' hh h1 h2 hw =>
      have gk := g k hk
      have gt := g t ht
      have hpo := len_pos g hold hne'
      have hpr := len_nonneg g hrest
      have htr : Frm fr (t :: rest) := .cons ht hrest
      have hlt : t.1 + len rest ≤ r := by
        have := hr.2 (t :: rest) htr (by rw [wt_cons]; omega)
        rwa [len_cons] at this
      have hi : ((t.1 + len rest).toNat - 1) ∈ List.range r.toNat := List.mem_range.mpr (by omega)
      have hi1 : (((t.1 + len rest).toNat - 1 + 1 : Nat) : Int) = t.1 + len rest := by omega
      refine fold_mem hi up3 (fun b => ?_) _
      unfold topS3
      refine fold_mem ht (up2 _) (fun b => ?_) _
      unfold topS2
      rw [hi1, if_pos (by omega)]
      have hS := sl (t.1 + len rest - t.1) (by omega) (by omega)
      have hmk : Mk fr (t.1 + len rest - t.1) (wt rest) := ⟨rest, hrest, by omega, rfl⟩
      cases ho : atD none S (t.1 + len rest - t.1) with
      | none => rw [ho] at hS; exact absurd hmk (hS _)
      | some y =>
        rw [ho] at hS
        have hy := hS.2 _ hmk
        obtain ⟨ms, hms1, hms2, hms3⟩ := hS.1
        have hy0 := (len_nonneg g hms1).2.1
        refine Int.le_trans ?_ (Int.le_max_right _ _)
        unfold behF
        refine fold_mem hk (upb _ _ _) (fun b => ?_) _
        have hl : (c : Int) - (y + t.2) - k.2 ≤ c := by omega
        have hR := ri (c - (y + t.2) - k.2) (by omega) hl
        have hle := hR.2 old hold (by omega)
        have hF := fl (t.1 + len rest + k.1 - 1) (by omega) (by omega)
        have hle2 := hF.2.2 h hh (by omega)
        unfold behS
        rw [if_pos ⟨by omega, by omega⟩]
        refine Int.le_trans ?_ (Int.le_max_right _ _)
        omega
  · refine fold_prop (fun b i hi hb => ?_) _ (fold_prop (fun b k hk hb => ?_) _ ?_)
    · unfold topS3
      refine fold_prop (fun b t ht hb => ?_) _ hb
      have hi' := List.mem_range.mp hi
      have gt := g t ht
      unfold topS2
      by_cases h1 : t.1 ≤ ((i + 1 : Nat) : Int)
      · rw [if_pos h1]
        cases ho : atD none S (((i + 1 : Nat) : Int) - t.1) with
        | none => exact hb
        | some y =>
          have hS := sl (((i + 1 : Nat) : Int) - t.1) (by omega) (by omega)
          rw [ho] at hS
          obtain ⟨rest, hrest, hl, hw⟩ := hS.1
          have hy0 := (len_nonneg g hrest).2.1
          -- the inner fold gives -1 or a moment
          have inner : behF fr c ((i + 1 : Nat) : Int) t.1 (y + t.2) F R = -1 ∨ Moment fr c (behF fr c ((i + 1 : Nat) : Int) t.1 (y + t.2) F R) := by
            unfold behF
            refine fold_prop (P := fun b => b = -1 ∨ Moment fr c b) (fun b k hk hb => ?_) _ (.inl rfl)
            have gk := g k hk
            unfold behS
            by_cases hz : 0 < (c : Int) - (y + t.2) - k.2 ∧ 0 < atD 0 R ((c : Int) - (y + t.2) - k.2)
            · rw [if_pos hz]
              refine max_prop (P := fun b => b = -1 ∨ Moment fr c b) hb (Or.inr ?_)
              have hR := ri (c - (y + t.2) - k.2) (by omega) (by omega)
              obtain ⟨⟨old, hold, how, hol⟩, _⟩ := hR
              have hF := fl (((i + 1 : Nat) : Int) + k.1 - 1) (by omega) (by omega)
              have hsum : IsSum fr ((i + 1 : Nat) : Int) := ⟨t :: rest, .cons ht hrest, by rw [len_cons]; omega⟩
              have hge := hF.2.2 _ hsum (by omega)
              have hne' : old ≠ [] := fun z => by
                subst z
                rw [len_nil] at hol
                omega
              have e : atD 0 F (((i + 1 : Nat) : Int) + k.1 - 1) + atD 0 R ((c : Int) - (y + t.2) - k.2) + t.1 - 1 = atD 0 F (((i + 1 : Nat) : Int) + k.1 - 1) + len old + t.1 - 1 := by omega
              rw [e]
              exact .caught k t rest old _ hk ht hrest hold hne' hF.1 (by omega) (by have := hF.2.1; omega) (by omega)
            · rw [if_neg hz]
              exact hb
          rcases inner with e | e
          · show Moment fr c (max b (behF fr c ((i + 1 : Nat) : Int) t.1 (y + t.2) F R))
            rw [show max b (behF fr c ((i + 1 : Nat) : Int) t.1 (y + t.2) F R) = b by
              rw [e]
              have : -1 ≤ b := by
                -- a moment is at least -1
                cases hb with
                | long k hk => have := g k hk; omega
                | short k h ms hk hh hlt hms hne' hw =>
                  have := g k hk
                  have := hh.nonneg g
                  have := len_nonneg g hms
                  omega
                | caught k t rest old h hk ht hrest hold hne' hh h1 h2 hw =>
                  have := g t ht
                  have := hh.nonneg g
                  have := len_nonneg g hold
                  omega
              omega]
            exact hb
          · exact max_prop hb e
      · rw [if_neg h1]
        exact hb
    · have gk := g k hk
      have hc := hcap k hk
      unfold topS1
      by_cases hz : 0 < atD 0 R ((c : Int) - k.2)
      · rw [if_pos hz]
        refine max_prop hb ?_
        have hR := ri (c - k.2) (by omega) (by omega)
        obtain ⟨⟨ms, hms, hmw, hml⟩, _⟩ := hR
        have hF := fl (k.1 - 1) (by omega) (by omega)
        have hne' : ms ≠ [] := fun z => by
          subst z
          rw [len_nil] at hml
          omega
        have e : atD 0 F (k.1 - 1) + atD 0 R ((c : Int) - k.2) + k.1 - 1 = atD 0 F (k.1 - 1) + len ms + k.1 - 1 := by omega
        rw [e]
        exact .short k _ ms hk hF.1 (by have := hF.2.1; omega) hms hne' (by omega)
      · rw [if_neg hz]
        exact hb
    · obtain ⟨k, hk, e⟩ := List.mem_map.mp (lmax_mem hmk)
      rw [← e]
      exact .long k hk
end
theorem topF_ok {ks : List Kd} {c : Nat} (g : Good ks) : TopOk (Wr.free ks c) (c : Int) (topF ks c) := by
  unfold topF
  by_cases h : Wr.free ks c = []
  · rw [if_pos h, h]
    refine ⟨fun v hv => ?_, .inl rfl⟩
    cases hv with
    | long k hk => exact nomatch hk
    | short k h ms hk => exact nomatch hk
    | caught k t rest old h hk => exact nomatch hk
  · rw [if_neg h]
    exact top_ok (Good.free g _) (fun k hk => (mem_free.mp hk).2) h
end Wk

set_option maxHeartbeats 200000
set_option Elab.async false
set_option linter.all false
set_option maxRecDepth 100000
set_option maxHeartbeats 1000000
/-! WrM: the walks of Loads' methods. -/
namespace Wk
open PySem PySem.Spec PyProof.Rows L2 Evl Wr
open C8 (Cal pe_c Met pe_mt pe_mt0 Mak pe_mk)
/-- fields of an instance, as data -/
def Flds (K : PySem.W.Frag) (H : Hp) (gs : List (Str × V)) (fs : List (Str × PyData)) : Prop := ∀ p ∈ fs, ∃ v, gs.lookup p.1 = some v ∧ Dp K H v p.2
abbrev meths : List Str := ["__init__", "least_by_rest", "regular_from", "floors", "is_sum", "floor", "slimmest", "lightest_up_to", "lightest", "richest", "longest_up_to", "longest"]
def NoM (gs : List (Str × V)) : Prop := ∀ m ∈ meths, gs.lookup m = none
theorem Flds.mono {K : PySem.W.Frag} {H H' : Hp} {gs : List (Str × V)} {fs : List (Str × PyData)} (e : Ex H H') (h : Flds K H gs fs) : Flds K H' gs fs := fun p hp => by
  obtain ⟨v, h1, h2⟩ := h p hp
  exact ⟨v, h1, dp_mono e _ h2⟩
def SpI (K : PySem.W.Frag) (C : Addr) {α : Type} (fs : α → List (Str × PyData)) (enc : α → List PyData) (Pre : α → Prop) (Φ : α → PyData → Prop) : Sp := fun vs H Q _ => ∃ (x : α) (a dx : Addr) (us : List V) (gs : List (Str × V)), Pre x ∧ vs = .ref a :: us ∧ H a = some (.ins C dx gs) ∧
  Flds K H gs (fs x) ∧ NoM gs ∧ DpAll K H us (enc x) ∧ ∀ u d H', Φ x d → Ex H H' → Dp K H' u d → Q u H'
abbrev SpIF (K : PySem.W.Frag) (C : Addr) {α : Type} (fs : α → List (Str × PyData)) (enc : α → List PyData) (Pre : α → Prop) (r : α → PyData) : Sp := SpI K C fs enc Pre fun x d => d = r x
theorem run_meth {P : Program} {w : World} {K : PySem.W.Frag} {mg : Str → Option Value} {base : Heap} {x qual : Str} {st : Stmt} {f C : Addr} {fd : FuncData} {N ps : List Str} {k : Nat} {α : Type} {fs : α → List (Str × PyData)} {enc : α → List PyData} {Pre : α → Prop} {Φ : α → PyData → Prop}
    (F : Fun K x qual st f fd) (S : FnScope N ps (defScope st)) (hl : ∀ x, (enc x).length + 1 = ps.length)
    (hb : ∀ (cdv : Value) (A : Around) (outer : List PySem.Env) (s : Shared) (H : Hp) (vs : List V) (Q : VK) (E : XK) (x : α) (a dx : Addr) (gs : List (Str × V)), Room k (A.deeper (envOfC qual (defScope st) s.heap.objs.size f cdv)) → Pre x → H a = some (.ins C dx gs) → Flds K H gs (fs x) → NoM gs →
      At K H (.v (.ref a) :: ((enc x).map .d ++ List.replicate (N.length - ps.length) .un)) (start N vs) H →
      (∀ u d H', Φ x d → Ex H H' → Dp K H' u d → Q u H') →
      ∃ t, PSs (cxOf CX0 P w K mg base N qual (defScope st) f cdv A outer s H E).nox (defBody st) t ∧ t { nx := fun _ H' => Q .non H', rt := Q } (start N vs) H) : FnOk P w K mg base CX0 (k + 1) f fd ps (SpI K C fs enc Pre Φ) :=
  F.ok S (fun vs H Q E h => by
    obtain ⟨x, a, dx, us, gs, _, rfl, _, _, _, hd, _⟩ := h
    rw [List.length_cons, dpa_length hd]
    exact hl x) fun cdv A outer s H vs Q E hr h => by
    obtain ⟨y, a, dx, us, gs, hp, rfl, ha, hf, hn, hd, q⟩ := h
    refine hb cdv A outer s H _ Q E y a dx gs hr hp ha hf hn ?_ q
    have at1 := At.here (N := N) (HdAll.cons (K := K) (H := H) (l := .v (.ref a)) rfl (hda_of hd))
    have hlen : (V.ref a :: us).length = ps.length := by rw [List.length_cons, dpa_length hd]; exact hl y
    rw [hlen] at at1
    exact at1
section
variable {K : PySem.W.Frag} {w : World} {mg : Str → Option Value} {C : Addr} {H H' : Hp} {σ : L2.St} {ta : TE} {tr : TA} {gs : List (Str × V)} {a dx : Addr} {α : Type} {fs : α → List (Str × PyData)} {enc : α → List PyData} {Pre : α → Prop} {Φ : α → PyData → Prop} {r : α → PyData}
theorem ev_f {f : Str} {d : PyData} {fl : List (Str × PyData)} (T : Tx w K mg C) (h : EvS K ta σ H' (.v (.ref a))) (e : Ex H H') (ha : H a = some (.ins C dx gs)) (hf : Flds K H gs fl) (hm : (f, d) ∈ fl) (hn : f ∈ (["kinds", "divisor", "regular", "near", "slim", "slim_bound", "weights", "rich", "rich_bound", "lengths"] : List Str) := by decide) : EvS K (tFld K ta f) σ H' (.d d) := by
  obtain ⟨v, h1, h2⟩ := hf _ hm
  exact ev_fld h (e _ _ ha) T.cls (T.nat f hn) h1 (dp_mono e _ h2)
theorem exM {x : α} {m : Str} {fl : List (Str × PyData)} (h : EvS K ta σ H' (.v (.ref a))) (e : Ex H H') (ha : H a = some (.ins C dx gs)) (hf : Flds K H gs fl) (hn : NoM gs) (args : EvAS K tr σ H' ((enc x).map .d)) (hp : Pre x) (hsub : ∀ p ∈ fs x, p ∈ fl) (hm : m ∈ meths := by decide) :
    EvX K (tMeth C m (SpI K C fs enc Pre Φ) [] E0 ta tr) σ H' (Φ x) := fun H1 e1 Q q =>
  h H1 e1 _ fun u H2 e2 hu => ⟨a, dx, gs, hu, e2 _ _ (e1 _ _ (e _ _ ha)), hn m hm, args H2 (e1.trans e2) _ fun us H3 e3 hus => by
    rw [show u = V.ref a from hu]
    exact ⟨x, a, dx, us, gs, hp, by rw [List.append_nil], e3 _ _ (e2 _ _ (e1 _ _ (e _ _ ha))), fun p hp' => (hf.mono (((e.trans e1).trans e2).trans e3)) p (hsub p hp'), hn, hda_d hus, fun u d H4 hΦ e4 hd => q u d H4 hΦ ((e2.trans e3).trans e4) hd⟩⟩
theorem evM {x : α} {m : Str} {fl : List (Str × PyData)} (h : EvS K ta σ H' (.v (.ref a))) (e : Ex H H') (ha : H a = some (.ins C dx gs)) (hf : Flds K H gs fl) (hn : NoM gs) (args : EvAS K tr σ H' ((enc x).map .d)) (hp : Pre x) (hsub : ∀ p ∈ fs x, p ∈ fl) (hm : m ∈ meths := by decide) :
    EvS K (tMeth C m (SpIF K C fs enc Pre r) [] E0 ta tr) σ H' (.d (r x)) := (exM (x := x) h e ha hf hn args hp hsub hm).toS
end
section
variable {P : Program} {w : World} {K : PySem.W.Frag} {mg : Str → Option Value} {base : Heap} {C f : Addr} {fd : FuncData}
abbrev kF (ks : List Kd) : List (Str × PyData) := [("kinds", kdD ks)]
/-! slimmest -/
def slimS (b k : Kd) : Kd := if k.2 * b.1 < b.2 * k.1 then k else b
def slimmestF (ks : List Kd) : Kd := ks.foldl slimS (ks.headD (0, 0))
theorem slim_trans {a b k : Kd} (ha : 0 < b.1) (h1 : k.2 * b.1 ≤ b.2 * k.1) (h2 : b.2 * a.1 ≤ a.2 * b.1) (h0 : 0 ≤ a.1) (hk : 0 ≤ k.1) : k.2 * a.1 ≤ a.2 * k.1 := by
  have e1 : k.2 * b.1 * a.1 ≤ b.2 * k.1 * a.1 := Int.mul_le_mul_of_nonneg_right h1 h0
  have e2 : b.2 * a.1 * k.1 ≤ a.2 * b.1 * k.1 := Int.mul_le_mul_of_nonneg_right h2 hk
  have e3 : (k.2 * a.1) * b.1 ≤ (a.2 * k.1) * b.1 := by
    have x1 : (k.2 * a.1) * b.1 = k.2 * b.1 * a.1 := by rw [Int.mul_assoc, Int.mul_comm a.1 b.1, ← Int.mul_assoc]
    have x2 : b.2 * k.1 * a.1 = b.2 * a.1 * k.1 := by rw [Int.mul_assoc, Int.mul_comm k.1 a.1, ← Int.mul_assoc]
    have x3 : (a.2 * k.1) * b.1 = a.2 * b.1 * k.1 := by rw [Int.mul_assoc, Int.mul_comm k.1 b.1, ← Int.mul_assoc]
    rw [x1, x3]
    rw [x2] at e1
    exact Int.le_trans e1 e2
  exact Int.le_of_mul_le_mul_right e3 ha
theorem slim_fold {ks : List Kd} (g : Good ks) : ∀ (l : List Kd) (b : Kd) (done : List Kd), (∀ k ∈ l, k ∈ ks) → (∀ k ∈ done, k ∈ ks) → b ∈ ks → (∀ k ∈ done, b.2 * k.1 ≤ k.2 * b.1) →
    l.foldl slimS b ∈ ks ∧ ∀ k ∈ done ++ l, (l.foldl slimS b).2 * k.1 ≤ k.2 * (l.foldl slimS b).1
  | [], b, done, _, _, hb, h => ⟨hb, fun k hk => h k (by rwa [List.append_nil] at hk)⟩
  | k :: l, b, done, hl, hd, hb, h => by
    have gk := g k (hl k List.mem_cons_self)
    have gb := g b hb
    have key : slimS b k ∈ ks ∧ ∀ j ∈ done ++ [k], (slimS b k).2 * j.1 ≤ j.2 * (slimS b k).1 := by
      unfold slimS
      by_cases z : k.2 * b.1 < b.2 * k.1
      · rw [if_pos z]
        refine ⟨hl k List.mem_cons_self, fun j hj => ?_⟩
        rcases List.mem_append.mp hj with hj | hj
        · have gj := g j (hd j hj)
          exact slim_trans (by omega) (Int.le_of_lt z) (h j hj) (by omega) (by omega)
        · rw [List.mem_singleton.mp hj]
          exact Int.le_refl _
      · rw [if_neg z]
        refine ⟨hb, fun j hj => ?_⟩
        rcases List.mem_append.mp hj with hj | hj
        · exact h j hj
        · rw [List.mem_singleton.mp hj]
          exact Int.not_lt.mp z
    have := slim_fold g l (slimS b k) (done ++ [k]) (fun x hx => hl x (List.mem_cons_of_mem _ hx)) (fun x hx => by
      rcases List.mem_append.mp hx with hx | hx
      · exact hd x hx
      · rw [List.mem_singleton.mp hx]; exact hl k List.mem_cons_self) key.1 key.2
    rw [List.append_assoc] at this
    exact this
theorem slimmest_ok {ks : List Kd} (g : Good ks) (hne : ks ≠ []) : slimmestF ks ∈ ks ∧ ∀ k ∈ ks, (slimmestF ks).2 * k.1 ≤ k.2 * (slimmestF ks).1 := by
  have hb : ks.headD (0, 0) ∈ ks := by
    cases ks with
    | nil => exact absurd rfl hne
    | cons k r => exact List.mem_cons_self
  exact slim_fold g ks (ks.headD (0, 0)) [] (fun _ h => h) (fun _ h => nomatch h) hb fun _ h => nomatch h
abbrev spSlimmest (K : PySem.W.Frag) (C : Addr) : Sp := SpIF K C kF (fun _ => []) (fun ks => Good ks ∧ ks.length ≤ 1000) fun ks => pr (slimmestF ks)
theorem small_mul {i j : Int} (h : 0 ≤ i ∧ i ≤ 1000000) : CMul i j := .inl ⟨by omega, by omega⟩
theorem small_mul' {i j : Int} (h : 0 ≤ j ∧ j ≤ 1000000) : CMul i j := .inr ⟨by omega, by omega⟩
theorem ok_slimmest (T : Tx w K mg C) (F : Fun K "slimmest" "Loads.slimmest" s_m_slimmest f fd) : FnOk P w K mg base CX0 1 f fd p_m_slimmest (spSlimmest K C) := by
  refine run_meth F sc_m_slimmest (fun _ => rfl) fun cdv A outer s H vs Q E ks p dx gs hr hp hi hf hn a q => ?_
  refine ⟨_, (pss_cons (ps_set (i := 1) sc_m_slimmest.nd rfl (.inl rfl) (pe_ifExp (pt_cmpR (op_neD hr.units) (pe_fld (pv 0) rfl) (pe_tup pa_nil) (nomark _)) (pe_ix (ix_seqK (K := K)) (pe_fld (pv 0) rfl) pe_int (fun _ _ => rfl)) (pe_tup (pa_cons pe_int (pa_cons pe_int pa_nil)))))
(pss_cons (ps_for PassesOwn.never rfl (pi_tup (pe_fld (pv 0) rfl)) (pg_tup rfl (pgs_cons (pg_name (i := 2) sc_m_slimmest.nd rfl (.inl rfl)) (pgs_cons (pg_name (i := 3) sc_m_slimmest.nd rfl (.inl rfl)) pgs_nil)))
(pss_one (ps_if (pt_cmpR op_lt (pe_op op_mul (pv 3) (pe_ix (ix_seqK (K := K)) (pv 1) pe_int (fun _ _ => rfl))) (pe_op op_mul (pe_ix (ix_seqK (K := K)) (pv 1) pe_int (fun _ _ => rfl)) (pv 2)) (nomark _))
(pss_one (ps_set (i := 1) sc_m_slimmest.nd rfl (.inl rfl) (pe_tup (pa_cons (pv 2) (pa_cons (pv 3) pa_nil)))))
pss_nil)))
(pss_one (ps_ret (pv 1))))), ?_⟩
  have a : At K H [.v (.ref p), .un, .un, .un] (start n_m_slimmest vs) H := a
  have hl := hp.2
  have g := hp.1
  have fk : ∀ {σ1 : L2.St} {H1 : Hp} {sl : List Sl}, At K H sl σ1 H1 → sl[0]? = some (.v (.ref p)) → EvS K (tFld K (tVar 0) "kinds") σ1 H1 (.d (kdD ks)) := fun a1 h => ev_f (fl := kF ks) T (ev_var a1.env h) a1.ex hi hf (List.mem_cons_self)
  refine q_asg (l := .d (pr (ks.headD (0, 0)))) a (ev_if (et_s (ev_neNilT (fk a rfl) (shp_kd ks) ev_nilT)) (fun hb => ?_) fun hb => ?_) fun σ1 H1 e1 a1 => ?_
  · cases ks with
    | nil => simp at hb
    | cons k r => exact ev_ixT (fk a rfl) ev_int (at_map (n := 0) rfl)
  · cases ks with
    | cons _ _ => simp at hb
    | nil => exact ev_tup (ds := [.int 0, .int 0]) (ea_cons ev_int (ea_cons ev_int ea_nil)) (by decide : 2 ≤ 100000)
  have hb0 : 0 ≤ (ks.headD (0, 0)).1 ∧ (ks.headD (0, 0)).1 ≤ 30 ∧ 0 ≤ (ks.headD (0, 0)).2 ∧ (ks.headD (0, 0)).2 ≤ 30 := by
    cases ks with
    | nil => exact ⟨by decide, by decide, by decide, by decide⟩
    | cons k r => have := g k List.mem_cons_self; exact ⟨by simp; omega, by simp; omega, by simp; omega, by simp; omega⟩
  refine q_for (src_kd2 (i := 2) (j := 3) (fk a1 rfl)) (fun H2 i σ' H' => Ex H2 H' ∧ (∃ b, b = (ks.take i).foldl slimS (ks.headD (0, 0)) ∧ 0 ≤ b.1 ∧ b.1 ≤ 30 ∧ 0 ≤ b.2 ∧ b.2 ≤ 30 ∧ At K H [.v (.ref p), .d (pr b), .un, .un] σ' H'))
    (fun H2 e2 => ⟨Ex.refl _, _, rfl, hb0.1, hb0.2.1, hb0.2.2.1, hb0.2.2.2, a1.mono e2⟩) (fun _ _ _ _ _ h => exT_of h.1) (fun H2 i k σ' H' H'' us e2 hx ⟨eH, b, hb, b1, b2, b3, b4, a2⟩ e3 hus => ?_) fun H2 σ' H' e2 ⟨eH, b, hb, b1, b2, b3, b4, a2⟩ => ?_
  · have gk := g k (List.mem_of_getElem? hx)
    have a3 := (a2.mono e3).putAll (js := [2, 3]) hus rfl
    have step := fold_take (f := slimS) (b := ks.headD (0, 0)) hx
    rw [← hb] at step
    refine s_if a3 (et_s (ev_lt (ev_mul ((ev_var (a3).env (i := 3) rfl)) (ev_ixT ((ev_var (a3).env (i := 1) rfl)) ev_int rfl) (small_mul (by omega))) (ev_mul (ev_ixT ((ev_var (a3).env (i := 1) rfl)) ev_int rfl) ((ev_var (a3).env (i := 2) rfl)) (small_mul (by omega))))) (fun hz H5 e5 a5 => ?_) fun hz H5 e5 a5 => ?_
    · refine s_asg a5 (ev_tup (ds := [.int k.1, .int k.2]) (ea_cons ((ev_var (a5).env (i := 2) rfl)) (ea_cons ((ev_var (a5).env (i := 3) rfl)) ea_nil)) (by decide : 2 ≤ 100000)) fun σ6 H6 e6 a6 => ?_
      refine ⟨((eH.trans e3).trans e5).trans e6, k, ?_, by omega, by omega, by omega, by omega, (a6.un 2).un 3⟩
      rw [step]
      unfold slimS
      rw [if_pos (of_decide_eq_true hz)]
    · refine ⟨(eH.trans e3).trans e5, b, ?_, b1, b2, b3, b4, (a5.un 2).un 3⟩
      rw [step]
      unfold slimS
      rw [if_neg (of_decide_eq_false hz)]
  · rw [List.take_length] at hb
    exact s_ret ((ev_var (a2).env (i := 1) rfl)) fun u H3 e3 hu => q _ _ _ rfl (a2.ex.trans e3) (by
      show Dp K H3 u (pr (slimmestF ks))
      unfold slimmestF
      rw [← hb]
      exact hu)
/-! richest -/
def Pair30 (k : Kd) : Prop := 0 ≤ k.1 ∧ k.1 ≤ 30 ∧ 0 ≤ k.2 ∧ k.2 ≤ 30
abbrev spRichest (K : PySem.W.Frag) (C : Addr) : Sp := SpI K C kF (fun _ => []) (fun ks => Good ks ∧ ks.length ≤ 1000) fun ks d => ∃ k, Pair30 k ∧ d = pr k
theorem ok_richest (T : Tx w K mg C) (F : Fun K "richest" "Loads.richest" s_m_richest f fd) : FnOk P w K mg base CX0 1 f fd p_m_richest (spRichest K C) := by
  refine run_meth F sc_m_richest (fun _ => rfl) fun cdv A outer s H vs Q E ks p dx gs hr hp hi hf hn a q => ?_
  refine ⟨_, (pss_cons (ps_set (i := 1) sc_m_richest.nd rfl (.inl rfl) (pe_tup (pa_cons pe_int (pa_cons pe_int pa_nil))))
(pss_cons (ps_for PassesOwn.never rfl (pi_tup (pe_fld (pv 0) rfl)) (pg_tup rfl (pgs_cons (pg_name (i := 2) sc_m_richest.nd rfl (.inl rfl)) (pgs_cons (pg_name (i := 3) sc_m_richest.nd rfl (.inl rfl)) pgs_nil)))
(pss_cons (ps_par (i := 4) (j := 5) (by rfl) sc_m_richest.nd rfl rfl (by decide) rfl rfl (pa_cons (pe_op op_mul (pv 2) (pe_ix (ix_seqK (K := K)) (pv 1) pe_int (fun _ _ => rfl))) (pa_cons (pe_op op_mul (pe_ix (ix_seqK (K := K)) (pv 1) pe_int (fun _ _ => rfl)) (pv 3)) pa_nil)) (by rfl))
(pss_one (ps_if (PW.pt (pw_or (pt_cmpR op_gt (pv 4) (pv 5) (nomark _)) (pw_or1 (PW.pt (pw_and (pt_cmpR op_eq (pv 4) (pv 5) (nomark _)) (pw_and1 (pt_cmpR op_lt (pv 3) (pe_ix (ix_seqK (K := K)) (pv 1) pe_int (fun _ _ => rfl)) (nomark _))))))))
(pss_one (ps_set (i := 1) sc_m_richest.nd rfl (.inl rfl) (pe_tup (pa_cons (pv 2) (pa_cons (pv 3) pa_nil)))))
pss_nil))))
(pss_one (ps_ret (pv 1))))), ?_⟩
  have a : At K H [.v (.ref p), .un, .un, .un, .un, .un] (start n_m_richest vs) H := a
  have hl := hp.2
  have g := hp.1
  have fk : ∀ {σ1 : L2.St} {H1 : Hp} {sl : List Sl}, At K H sl σ1 H1 → sl[0]? = some (.v (.ref p)) → EvS K (tFld K (tVar 0) "kinds") σ1 H1 (.d (kdD ks)) := fun a1 h => ev_f (fl := kF ks) T (ev_var a1.env h) a1.ex hi hf (List.mem_cons_self)
  refine q_asg a (ev_tup (ds := [.int 0, .int 1]) (ea_cons ev_int (ea_cons ev_int ea_nil)) (by decide : 2 ≤ 100000)) fun σ1 H1 e1 a1 => ?_
  refine q_for (src_kd2 (i := 2) (j := 3) (fk a1 rfl)) (fun H2 i σ' H' => Ex H2 H' ∧ (∃ b, Pair30 b ∧ At K H [.v (.ref p), .d (pr b), .un, .un, .un, .un] σ' H'))
    (fun H2 e2 => ⟨Ex.refl _, (0, 1), ⟨by decide, by decide, by decide, by decide⟩, a1.mono e2⟩) (fun _ _ _ _ _ h => exT_of h.1) (fun H2 i k σ' H' H'' us e2 hx ⟨eH, b, ⟨b1, b2, b3, b4⟩, a2⟩ e3 hus => ?_) fun H2 σ' H' e2 ⟨eH, b, hb, a2⟩ => ?_
  · have gk := g k (List.mem_of_getElem? hx)
    have a3 := (a2.mono e3).putAll (js := [2, 3]) hus rfl
    refine q_par a3 (ea_cons (ev_mul ((ev_var (a3).env (i := 2) rfl)) (ev_ixT ((ev_var (a3).env (i := 1) rfl)) ev_int (d := .int b.2) rfl) (small_mul (by omega))) (ea_cons (ev_mul (ev_ixT ((ev_var (a3).env (i := 1) rfl)) ev_int (d := .int b.1) rfl) ((ev_var (a3).env (i := 3) rfl)) (small_mul (by omega))) ea_nil)) fun σ4 H4 e4 a4 => ?_
    refine s_if a4 (et_or (et_s (ev_gt ((ev_var (a4).env (i := 4) rfl)) ((ev_var (a4).env (i := 5) rfl)))) fun _ => et_and (et_s (ev_eqI ((ev_var (a4).env (i := 4) rfl)) ((ev_var (a4).env (i := 5) rfl)))) fun _ => et_s (ev_lt ((ev_var (a4).env (i := 3) rfl)) (ev_ixT ((ev_var (a4).env (i := 1) rfl)) ev_int (d := .int b.2) rfl))) (fun hz H5 e5 a5 => ?_) fun hz H5 e5 a5 => ?_
    · refine s_asg a5 (ev_tup (ds := [.int k.1, .int k.2]) (ea_cons ((ev_var (a5).env (i := 2) rfl)) (ea_cons ((ev_var (a5).env (i := 3) rfl)) ea_nil)) (by decide : 2 ≤ 100000)) fun σ6 H6 e6 a6 => ?_
      exact ⟨(((eH.trans e3).trans e4).trans e5).trans e6, k, ⟨by omega, by omega, by omega, by omega⟩, (((a6.un 2).un 3).un 4).un 5⟩
    · exact ⟨((eH.trans e3).trans e4).trans e5, b, ⟨b1, b2, b3, b4⟩, (((a5.un 2).un 3).un 4).un 5⟩
  · exact s_ret ((ev_var (a2).env (i := 1) rfl)) fun u H3 e3 hu => q _ _ _ ⟨b, hb, rfl⟩ (a2.ex.trans e3) hu
end
end Wk

set_option maxHeartbeats 200000
set_option Elab.async false
set_option linter.all false
set_option maxRecDepth 100000
set_option maxHeartbeats 1000000
/-! WrM2: Loads' tables and what is asked of them. -/
namespace Wk
open PySem PySem.Spec PyProof.Rows L2 Evl Wr
open C8 (Cal pe_c Met pe_mt pe_mt0 Mak pe_mk)
section
variable {P : Program} {w : World} {K : PySem.W.Frag} {mg : Str → Option Value} {base : Heap} {C f : Addr} {fd : FuncData}
/-! lightest_up_to -/
theorem omin_same {os : List (Option Int)} {l : List Int} (h : os.filterMap id = l) : omin os = omin (l.map some) := by
  unfold omin
  rw [filterMap_some, h]
def plusO (o : Option Int) (i : Int) : Option Int := o.map (· + i)
theorem slimC_os (ks : List Kd) (f : Int → Option Int) (t : Int) : (((ks.filter fun k => decide (k.1 ≤ t)).map fun k => plusO (f (t - k.1)) k.2).filterMap id) = slimC ks f t := by
  unfold slimC
  rw [List.filterMap_map]
  rfl
abbrev spLightestUp (K : PySem.W.Frag) (C : Addr) : Sp := SpIF K C (α := List Kd × Nat) (fun x => kF x.1) (fun x => [.int (x.2 : Nat)]) tabP fun x => .list ((slimF x.1 x.2).map opD)
theorem ok_lightest_up (T : Tx w K mg C) (G_least_of : Cal P w K mg base 1 "least_of" (spLeast K) []) (F : Fun K "lightest_up_to" "Loads.lightest_up_to" s_m_lightest_up_to f fd) : FnOk P w K mg base CX0 2 f fd p_m_lightest_up_to (spLightestUp K C) := by
  refine run_meth F sc_m_lightest_up_to (fun _ => rfl) fun cdv A outer s H vs Q E x ip dx gs hr hp hi hf hnm a q => ?_
  refine ⟨_, (pss_cons (ps_set (i := 2) sc_m_lightest_up_to.nd rfl (.inr rfl) (pe_lst (pa_cons pe_int pa_nil)))
(pss_cons (ps_for PassesOwn.never rfl (pi_range2 (by rfl) T.b_range (pa_cons pe_int (pa_cons (pe_op op_add (pv 1) pe_int) pa_nil))) (pg_name (i := 3) sc_m_lightest_up_to.nd rfl (.inr rfl))
(pss_cons (ps_setLc (i := 4) (own := [("length", 5), ("weight", 6)]) (g := gTup K 2 (gCons (gName 5) (gCons (gName 6) (gNil)))) rfl sc_m_lightest_up_to.nd rfl rfl (sw_true rfl rfl rfl (by decide +kernel)) (pi_tup (pe_fld (pv 0) rfl)) (blkOk_by (N := n_m_lightest_up_to) (sc := defScope s_m_lightest_up_to) (by decide +kernel)) (fun _ _ _ _ _ => (pg_tup rfl (pgs_cons (pg_name (i := 5) sc_m_lightest_up_to.nd rfl (.inl rfl)) (pgs_cons (pg_name (i := 6) sc_m_lightest_up_to.nd rfl (.inl rfl)) pgs_nil)))) (fun _ _ _ _ _ => (pts_one (pt_cmpR op_le (pv 5) (pv 3) (nomark _)))) (fun _ _ _ _ _ => (pe_tup (pa_cons (pe_ix (ix_seqK (K := K)) (pv 2) (pe_op op_sub (pv 3) (pv 5)) (fun _ _ => rfl)) (pa_cons (pv 6) pa_nil)))))
(pss_one (ps_expr (pe_bm PySem.F.plainAttrs_list PySem.F.slot_list_append PySem.F.type_list_append mt_append (pv 2) (pa_cons (pe_c G_least_of hr (by decide) (by rfl) (pa_cons (pe_lc (own := [("load", 7), ("weight", 6)]) (g := gTup K 2 (gCons (gName 7) (gCons (gName 6) (gNil)))) (tt := tYes) rfl sc_m_lightest_up_to.nd (pi_list (pv 4)) (blkOk_by (N := n_m_lightest_up_to) (sc := defScope s_m_lightest_up_to) (by decide +kernel)) (fun _ _ _ _ _ => (pg_tup rfl (pgs_cons (pg_name (i := 7) sc_m_lightest_up_to.nd rfl (.inl rfl)) (pgs_cons (pg_name (i := 6) sc_m_lightest_up_to.nd rfl (.inl rfl)) pgs_nil)))) (fun _ _ _ _ _ => pts_nil) (fun _ _ _ _ _ => (pe_ifExp (pt_cmp (pc_notN (pv 7)) rfl) (pe_op op_add (pv 7) (pv 6)) pe_non))) pa_nil)) pa_nil))))))
(pss_one (ps_ret (pv 2))))), ?_⟩
  obtain ⟨ks, n⟩ := x
  obtain ⟨g, hk, hn⟩ := hp
  have hn : n ≤ 5000 := hn
  have hk : ks.length ≤ 1000 := hk
  have hf : Flds K H gs (kF ks) := hf
  have a : At K H [.v (.ref ip), .d (.int (n : Nat)), .un, .un, .un, .un, .un, .un] (start n_m_lightest_up_to vs) H := a
  have fk : ∀ {σ1 : L2.St} {H1 : Hp} {sl : List Sl}, At K H sl σ1 H1 → sl[0]? = some (.v (.ref ip)) → EvS K (tFld K (tVar 0) "kinds") σ1 H1 (.d (kdD ks)) := fun a1 h => ev_f (fl := kF ks) T (ev_var a1.env h) a1.ex hi hf (List.mem_cons_self)
  refine q_asgN a (en_lst (ds := [.int 0]) (ea_cons ev_int ea_nil) (by decide : 1 ≤ 100000)) fun p xs σ1 H1 hp e1 h1 hd a1 => ?_
  obtain rfl : xs = [V.int 0] := dpa_ints (ns := [0]) hd
  refine q_for (src_up (ea_cons ev_int (ea_cons (ev_add ((ev_var (a1).env (i := 1) rfl)) ev_int) ea_nil)) (by omega)) (fun H2 i σ' H' => ∃ os, os = slimF ks i ∧ H' p = some (.lst (os.map opV)) ∧ At K H [.v (.ref ip), .d (.int (n : Nat)), .v (.ref p), .un, .un, .un, .un, .un] σ' H')
    (fun H2 e2 => ⟨[some 0], rfl, e2 _ _ h1, a1.mono e2⟩) (fun _ _ _ _ _ _ => trivial) (fun H2 i x σ' H' H'' us e2 hx ⟨os, hb, hH, a2⟩ e3 hus => ?_) fun H2 σ' H' e2 ⟨os, hb, hH, a2⟩ => ?_
  · obtain ⟨rfl, hin⟩ := range_at hx
    have a3 := (a2.mono e3).putAll (js := [3]) hus rfl
    have hH3 : H'' p = some (.lst (os.map opV)) := e3 _ _ hH
    have hl : os.length = x + 1 := by rw [hb]; exact (slim_ok g x).1
    have hfl := List.length_filter_le (fun k : Kd => decide (k.1 ≤ ((x + 1 : Nat) : Int))) ks
    have hv := en_lc (vs := [5, 6]) (tt := tTest (tOp (rI0 fun i j => .bl (decide (i ≤ j))) (tVar 5) (tVar 3))) (te := tTup (tCons (tOp (rIx K) (tVar 2) (tOp (rI0 fun i j => .int (i - j)) (tVar 3) (tVar 5))) (tCons (tVar 6) tNil))) (fun k : Kd => decide (k.1 ≤ ((x + 1 : Nat) : Int)))
      (fun k : Kd => .tuple [opD (atD none os (((x + 1 : Nat) : Int) - k.1)), .int k.2]) (src_kd2 (i := 5) (j := 6) (fk a3 rfl)) a3.env (Nat.le_trans hk (by decide)) (by decide) (fun k _ _ => by show (noL (opD _) && _) = true; rw [noL_op]; rfl)
      (fun k hk' σ4 H4 e4 en => et_s (ev_le ((ev_var en (i := 5) rfl)) ((ev_var en (i := 3) rfl)))) fun k hk' hb1 σ4 H4 e4 en => by
        have g1 := g k hk'
        have h2 : k.1 ≤ ((x + 1 : Nat) : Int) := of_decide_eq_true hb1
        exact ev_tup (ds := [opD (atD none os (((x + 1 : Nat) : Int) - k.1)), .int k.2]) (ea_cons (ev_ixR ((ev_var en (i := 2) rfl)) (.of (e4 _ _ hH3)) (dpa_ops' (os := os)) (ev_sub ((ev_var en (i := 3) rfl)) ((ev_var en (i := 5) rfl))) (at_subO (by omega) (by omega))) (ea_cons ((ev_var en (i := 6) rfl)) ea_nil)) (by decide : 2 ≤ 100000)
    refine q_asg a3 hv.toS fun σ4 H4 e4 a4 => ?_
    have hv2 := en_lcA (vs := [7, 6]) (te := tIf (tB (tNotN (tVar 7))) (tOp (rI0 fun i j => .int (i + j)) (tVar 7) (tVar 6)) (tC .non)) (fun k : Kd => opD (plusO (atD none os (((x + 1 : Nat) : Int) - k.1)) k.2))
      (src_lst2 (i := 7) (j := 6) (xs := ks.filter fun k : Kd => decide (k.1 ≤ ((x + 1 : Nat) : Int))) (f1 := fun k => opD (atD none os (((x + 1 : Nat) : Int) - k.1))) (f2 := fun k => .int k.2) ((ev_var (a4).env (i := 4) rfl))) a4.env (Nat.le_trans hfl (Nat.le_trans hk (by decide))) (by decide) (fun _ _ => noL_op _)
      fun k hk' σ5 H5 e5 en => by
        refine ev_if (et_b (ev_notN ((ev_var en (i := 7) rfl)))) (fun hb1 => ?_) fun hb1 => ?_
        · cases ho : atD none os (((x + 1 : Nat) : Int) - k.1) with
          | none => rw [ho] at hb1; exact absurd hb1 (fun z : false = true => nomatch z)
          | some y => exact ev_add (ev_cast ((ev_var en (i := 7) rfl)) (by rw [ho]; rfl)) ((ev_var en (i := 6) rfl))
        · cases ho : atD none os (((x + 1 : Nat) : Int) - k.1) with
          | some y => rw [ho] at hb1; exact absurd hb1 (fun z : true = false => nomatch z)
          | none => exact ev_non
    have hv3 : EvN K _ _ _ (((ks.filter fun k : Kd => decide (k.1 ≤ ((x + 1 : Nat) : Int))).map fun k => plusO (atD none os (((x + 1 : Nat) : Int) - k.1)) k.2).map opD) := en_cast hv2 (by rw [List.map_map]; rfl)
    have hos := omin_same (slimC_os ks (atD none os) ((x + 1 : Nat) : Int))
    refine s_app (l := .d (opD (omin ((slimC ks (atD none os) ((x + 1 : Nat) : Int)).map some)))) (e4 _ _ hH3) ((ev_var (a4).env (i := 2) rfl)) ?_ (by rw [List.length_map]; omega) fun w H7 e7 hw => ?_
    · rw [← hos]
      refine evD (x := (ks.filter fun k : Kd => decide (k.1 ≤ ((x + 1 : Nat) : Int))).map fun k => plusO (atD none os (((x + 1 : Nat) : Int) - k.1)) k.2) (Pre := fun x => x.length ≤ 1000) (enc := fun x => [.list (x.map opD)]) (r := fun x => opD (omin x)) (ea_cons hv3.toS ea_nil) ?_
      show List.length _ ≤ 1000
      rw [List.length_map]
      omega
    have hw := dp_op hw
    subst hw
    have a7 := ((a4.mono e7).un 4).app (o := .lst (os.map opV ++ [opV (omin ((slimC ks (atD none os) ((x + 1 : Nat) : Int)).map some))])) hp (e7 _ _ (e4 _ _ hH3)) rfl
    exact ⟨os ++ [omin ((slimC ks (atD none os) ((x + 1 : Nat) : Int)).map some)], by rw [hb]; rfl, by rw [upd_same, List.map_append]; rfl, a7.un 3⟩
  · rw [List.length_range] at hb
    exact s_ret ((ev_var (a2).env (i := 2) rfl)) fun w H3 e3 hw => q _ (.list (os.map opD)) _ (congrArg (fun l => PyData.list (l.map opD)) hb) (a2.ex.trans e3) (by
      have hw : w = .ref p := hw
      subst hw
      exact .lst (.of (e3 _ _ hH)) dpa_ops')
/-- xs + ys, ys a list that stands at p -/
theorem en_catV {H : Hp} {σ : L2.St} {ta tb : TE} {ds es : List PyData} {p : Addr} {zs : List V} (ha : EvN K ta σ H ds) (hb : EvS K tb σ H (.v (.ref p))) (hp : H p = some (.lst zs)) (hd' : DpAll K H zs es) (hz : ds.length + es.length ≤ 100000) : EvN K (tOp rCat ta tb) σ H (ds ++ es) := fun H1 e Q q =>
  ha H1 e _ fun l xs H2 hl e2 h2 hd => hb H2 (e.trans e2) _ fun u H3 e3 hu => by
    have hu : u = .ref p := hu
    subst hu
    refine ⟨l, p, xs, zs, rfl, rfl, e3 l _ h2, e3 _ _ (e2 _ _ (e _ _ hp)), by rw [dpa_length hd, dpa_length hd']; exact sz_of hz, fun s hs => ?_⟩
    exact q s _ _ (fresh_back (e2.trans e3) hs) ((e2.trans e3).trans (Ex.new hs)) upd_same (dpa_append (dpa_mono (e3.trans (Ex.new hs)) _ hd) (dpa_mono ((((e.trans e2).trans e3)).trans (Ex.new hs)) _ hd'))
/-! longest_up_to -/
abbrev spLongestUp (K : PySem.W.Frag) (C : Addr) : Sp := SpIF K C (α := List Kd × Nat) (fun x => kF x.1) (fun x => [.int (x.2 : Nat)]) tabP fun x => .list ((richF x.1 x.2).map .int)
theorem ok_longest_up (T : Tx w K mg C) (F : Fun K "longest_up_to" "Loads.longest_up_to" s_m_longest_up_to f fd) : FnOk P w K mg base CX0 1 f fd p_m_longest_up_to (spLongestUp K C) := by
  refine run_meth F sc_m_longest_up_to (fun _ => rfl) fun cdv A outer s H vs Q E x ip dx gs hr hp hi hf hnm a q => ?_
  refine ⟨_, (pss_cons (ps_set (i := 2) sc_m_longest_up_to.nd rfl (.inr rfl) (pe_lst (pa_cons pe_int pa_nil)))
(pss_cons (ps_for PassesOwn.never rfl (pi_range2 (by rfl) T.b_range (pa_cons pe_int (pa_cons (pe_op op_add (pv 1) pe_int) pa_nil))) (pg_name (i := 3) sc_m_longest_up_to.nd rfl (.inr rfl))
(pss_cons (ps_setLc (i := 4) (own := [("length", 5), ("weight", 6)]) (g := gTup K 2 (gCons (gName 5) (gCons (gName 6) (gNil)))) rfl sc_m_longest_up_to.nd rfl rfl (sw_true rfl rfl rfl (by decide +kernel)) (pi_tup (pe_fld (pv 0) rfl)) (blkOk_by (N := n_m_longest_up_to) (sc := defScope s_m_longest_up_to) (by decide +kernel)) (fun _ _ _ _ _ => (pg_tup rfl (pgs_cons (pg_name (i := 5) sc_m_longest_up_to.nd rfl (.inl rfl)) (pgs_cons (pg_name (i := 6) sc_m_longest_up_to.nd rfl (.inl rfl)) pgs_nil)))) (fun _ _ _ _ _ => (pts_one (pt_cmpR op_le (pv 6) (pv 3) (nomark _)))) (fun _ _ _ _ _ => (pe_op op_add (pe_ix (ix_seqK (K := K)) (pv 2) (pe_op op_sub (pv 3) (pv 6)) (fun _ _ => rfl)) (pv 5))))
(pss_one (ps_expr (pe_bm PySem.F.plainAttrs_list PySem.F.slot_list_append PySem.F.type_list_append mt_append (pv 2) (pa_cons (pe_callB (cr_max rfl) (by rfl) T.b_max bt_max (pa_cons (pe_op op_cat (pe_lst (pa_cons (pe_ix (ix_seqK (K := K)) (pv 2) (pe_un un_neg pe_int) (fun _ _ => rfl)) pa_nil)) (pv 4)) pa_nil)) pa_nil))))))
(pss_one (ps_ret (pv 2))))), ?_⟩
  obtain ⟨ks, n⟩ := x
  obtain ⟨g, hk, hn⟩ := hp
  have hn : n ≤ 5000 := hn
  have hk : ks.length ≤ 1000 := hk
  have hf : Flds K H gs (kF ks) := hf
  have a : At K H [.v (.ref ip), .d (.int (n : Nat)), .un, .un, .un, .un, .un] (start n_m_longest_up_to vs) H := a
  have fk : ∀ {σ1 : L2.St} {H1 : Hp} {sl : List Sl}, At K H sl σ1 H1 → sl[0]? = some (.v (.ref ip)) → EvS K (tFld K (tVar 0) "kinds") σ1 H1 (.d (kdD ks)) := fun a1 h => ev_f (fl := kF ks) T (ev_var a1.env h) a1.ex hi hf (List.mem_cons_self)
  refine q_asgN a (en_lst (ds := [.int 0]) (ea_cons ev_int ea_nil) (by decide : 1 ≤ 100000)) fun p xs σ1 H1 hp e1 h1 hd a1 => ?_
  obtain rfl : xs = [V.int 0] := dpa_ints (ns := [0]) hd
  refine q_for (src_up (ea_cons ev_int (ea_cons (ev_add ((ev_var (a1).env (i := 1) rfl)) ev_int) ea_nil)) (by omega)) (fun H2 i σ' H' => ∃ rs, rs = richF ks i ∧ H' p = some (.lst (rs.map V.int)) ∧ At K H [.v (.ref ip), .d (.int (n : Nat)), .v (.ref p), .un, .un, .un, .un] σ' H')
    (fun H2 e2 => ⟨[0], rfl, e2 _ _ h1, a1.mono e2⟩) (fun _ _ _ _ _ _ => trivial) (fun H2 i x σ' H' H'' us e2 hx ⟨rs, hb, hH, a2⟩ e3 hus => ?_) fun H2 σ' H' e2 ⟨rs, hb, hH, a2⟩ => ?_
  · obtain ⟨rfl, hin⟩ := range_at hx
    have a3 := (a2.mono e3).putAll (js := [3]) hus rfl
    have hH3 : H'' p = some (.lst (rs.map V.int)) := e3 _ _ hH
    have hl : rs.length = x + 1 := by rw [hb]; exact (rich_ok g x).1
    obtain ⟨r, hr1, hr2⟩ := at_last hl
    have hrD : r = (richF ks x).getD x 0 := by rw [List.getD_eq_getElem?_getD, ← hb, hr1]; rfl
    have hv := en_lc (vs := [5, 6]) (tt := tTest (tOp (rI0 fun i j => .bl (decide (i ≤ j))) (tVar 6) (tVar 3))) (te := tOp (rI0 fun i j => .int (i + j)) (tOp (rIx K) (tVar 2) (tOp (rI0 fun i j => .int (i - j)) (tVar 3) (tVar 6))) (tVar 5)) (fun k : Kd => decide (k.2 ≤ ((x + 1 : Nat) : Int)))
      (fun k : Kd => .int (atD 0 rs (((x + 1 : Nat) : Int) - k.2) + k.1)) (src_kd2 (i := 5) (j := 6) (fk a3 rfl)) a3.env (Nat.le_trans hk (by decide)) (by decide) (fun _ _ _ => rfl)
      (fun k hk' σ4 H4 e4 en => et_s (ev_le ((ev_var en (i := 6) rfl)) ((ev_var en (i := 3) rfl)))) fun k hk' hb1 σ4 H4 e4 en => by
        have g1 := g k hk'
        have h2 : k.2 ≤ ((x + 1 : Nat) : Int) := of_decide_eq_true hb1
        exact ev_add (ev_ixR ((ev_var en (i := 2) rfl)) (.of (e4 _ _ hH3)) (dpa_ints' (ns := rs)) (ev_sub ((ev_var en (i := 3) rfl)) ((ev_var en (i := 6) rfl))) (at_sub (by omega) (by omega))) ((ev_var en (i := 5) rfl))
    refine q_asgN a3 hv fun p2 xs2 σ4 H4 hp2 e4 h4 hd4 a4 => ?_
    have hfl := List.length_filter_le (fun k : Kd => decide (k.2 ≤ ((x + 1 : Nat) : Int))) ks
    have hH4 := e4 _ _ hH3
    refine s_app hH4 ((ev_var (a4).env (i := 2) rfl)) (ev_max (ns := r :: richC ks (atD 0 rs) ((x + 1 : Nat) : Int)) (en_cast (en_catV (en_lst (ds := [.int r]) (ea_cons (ev_ixR ((ev_var (a4).env (i := 2) rfl)) (.of hH4) (dpa_ints' (ns := rs)) (ev_neg ev_int) hr2) ea_nil) (by decide : 1 ≤ 100000)) ((ev_var (a4).env (i := 4) rfl)) h4 hd4 ?_) ?_).toS (List.cons_ne_nil _ _)) (by rw [List.length_map]; omega) fun w H5 e5 hw => ?_
    · rw [List.length_map]
      show 1 + _ ≤ 100000
      omega
    · unfold richC
      rw [List.map_cons, List.map_map]
      rfl
    have hw : w = .int (lmax (r :: richC ks (atD 0 rs) ((x + 1 : Nat) : Int))) := dp_int hw
    subst hw
    have a5 := ((a4.mono e5).un 4).app (o := .lst (rs.map V.int ++ [V.int (lmax (r :: richC ks (atD 0 rs) ((x + 1 : Nat) : Int)))])) hp (e5 _ _ hH4) rfl
    exact ⟨rs ++ [lmax (r :: richC ks (atD 0 rs) ((x + 1 : Nat) : Int))], by rw [hb, hrD]; rfl, by rw [upd_same, List.map_append]; rfl, a5.un 3⟩
  · rw [List.length_range] at hb
    exact s_ret ((ev_var (a2).env (i := 2) rfl)) fun w H3 e3 hw => q _ (.list (rs.map .int)) _ (congrArg (fun l => PyData.list (l.map .int)) hb) (a2.ex.trans e3) (by
      have hw : w = .ref p := hw
      subst hw
      exact .lst (.of (e3 _ _ hH)) dpa_ints')
end
end Wk

set_option maxHeartbeats 200000
set_option Elab.async false
set_option linter.all false
set_option maxRecDepth 100000
set_option maxHeartbeats 1000000
/-! WrM3: Loads.floors, floor, is_sum, lightest. -/
namespace Wk
open PySem PySem.Spec PyProof.Rows L2 Evl Wr
open C8 (Cal pe_c Met pe_mt pe_mt0 Mak pe_mk)
section
variable {K : PySem.W.Frag} {H0 H : Hp} {sl : List Sl} {σ : L2.St} {D : Ends} {tz : TS}
/-- a, b = [], [] -/
theorem q_2N {i j : Nat} (a : At K H0 sl σ H) (k : ∀ p1 p2 σ1 H1, H p1 = none → H p2 = none → p1 ≠ p2 → Ex H H1 → H1 p1 = some (.lst []) → H1 p2 = some (.lst []) → At K H0 ((sl.set i (.v (.ref p1))).set j (.v (.ref p2))) σ1 H1 → tz D σ1 H1) :
    tSeq (tAsg (tTup (tCons (tLst tNil) (tCons (tLst tNil) tNil))) (gTup K 2 (gCons (gName i) (gCons (gName j) gNil)))) tz D σ H := by
  refine ⟨by decide, fun p1 n1 => ⟨by decide, fun p2 n2 => ⟨(show 2 ≤ sizeLine by decide), fun p n => ?_⟩⟩⟩
  have n2' := fresh_back (Ex.new n1) n2
  have hne : p1 ≠ p2 := fun z => by subst z; rw [upd_same] at n2; cases n2
  have hp1 : p1 ≠ p := fun z => by
    subst z
    rw [upd_ne hne, upd_same] at n
    cases n
  have hp2 : p2 ≠ p := fun z => by
    subst z
    rw [upd_same] at n
    cases n
  have e := ((Ex.new (o := HO.lst []) n1).trans (Ex.new (o := HO.lst []) n2)).trans (Ex.new (o := HO.tup [.ref p1, .ref p2]) n)
  exact ⟨p, [.ref p1, .ref p2], rfl, .of upd_same, rfl, _, _, rfl, _, _, rfl, rfl, k p1 p2 _ _ n1 n2' hne e (by rw [upd_ne hp1, upd_ne hne, upd_same]) (by rw [upd_ne hp2, upd_same]) (((a.mono e).put i (l := .v (.ref p1)) rfl).put j (l := .v (.ref p2)) rfl)⟩
end
section
variable {P : Program} {w : World} {K : PySem.W.Frag} {mg : Str → Option Value} {base : Heap} {C f : Addr} {fd : FuncData}
def nearF (ks : List Kd) : Nat → List Int
  | 0 => []
  | m + 1 => floorsF ks m
def sumsF (ks : List Kd) : Nat → List Bool
  | 0 => []
  | m + 1 => yesF ks m
theorem near_len {ks : List Kd} (g : Good ks) : ∀ n, (nearF ks n).length = n
  | 0 => rfl
  | m + 1 => (floors_ok g m).1
theorem sums_len {ks : List Kd} (g : Good ks) : ∀ n, (sumsF ks n).length = n
  | 0 => rfl
  | m + 1 => (yes_ok g m).1
abbrev spFloorsM (K : PySem.W.Frag) (C : Addr) : Sp := SpIF K C (α := List Kd × Int) (fun x => kF x.1) (fun x => [.int x.2]) (fun x => Good x.1 ∧ x.1.length ≤ 1000 ∧ -5000 ≤ x.2 ∧ x.2 ≤ 5000) fun x => .list ((nearF x.1 x.2.toNat).map .int)
def isV (ks : List Kd) (bs : List Bool) (x : Nat) : Bool := decide ((x : Int) = 0) || (yesV ks bs (x : Int)).any id
theorem sums_next {ks : List Kd} : ∀ x, sumsF ks x ++ [isV ks (sumsF ks x) x] = sumsF ks (x + 1)
  | 0 => rfl
  | x + 1 => by
    show yesF ks x ++ [isV ks (yesF ks x) (x + 1)] = yesF ks x ++ [_]
    unfold isV
    rw [decide_eq_false (by omega), Bool.false_or]
theorem ok_floorsM (T : Tx w K mg C) (F : Fun K "floors" "Loads.floors" s_m_floors f fd) : FnOk P w K mg base CX0 1 f fd p_m_floors (spFloorsM K C) := by
  refine run_meth F sc_m_floors (fun _ => rfl) fun cdv A outer s H vs Q E x ip dx gs hr hp hi hf hnm a q => ?_
  refine ⟨_, (pss_cons (ps_asg (pe_tup (pa_cons (pe_lst pa_nil) (pa_cons (pe_lst pa_nil) pa_nil))) (pg_tup rfl (pgs_cons (pg_name (i := 2) sc_m_floors.nd rfl (.inr rfl)) (pgs_cons (pg_name (i := 3) sc_m_floors.nd rfl (.inl rfl)) pgs_nil))))
(pss_cons (ps_for PassesOwn.never rfl (pi_range1 (by rfl) T.b_range (pa_cons (pv 1) pa_nil)) (pg_name (i := 4) sc_m_floors.nd rfl (.inr rfl))
(pss_cons (ps_set (i := 5) sc_m_floors.nd rfl (.inl rfl) (pe_or (pe_cmpR op_eq (pv 4) pe_int (nomark _)) (pe_one (pe_callB (cr_any rfl) (by rfl) T.b_any bt_any (pa_cons (pe_lc (own := [("length", 6), ("weight", 7)]) (g := gTup K 2 (gCons (gName 6) (gCons (gName 7) (gNil)))) (tt := tYes) rfl sc_m_floors.nd (pi_tup (pe_fld (pv 0) rfl)) (blkOk_by (N := n_m_floors) (sc := defScope s_m_floors) (by decide +kernel)) (fun _ _ _ _ _ => (pg_tup rfl (pgs_cons (pg_name (i := 6) sc_m_floors.nd rfl (.inl rfl)) (pgs_cons (pg_name (i := 7) sc_m_floors.nd rfl (.inl rfl)) pgs_nil)))) (fun _ _ _ _ _ => pts_nil) (fun _ _ _ _ _ => (pe_and (pe_cmpR op_ge (pv 4) (pv 6) (nomark _)) (pe_one (pe_ix (ix_seqK (K := K)) (pv 2) (pe_op op_sub (pv 4) (pv 6)) (fun _ _ => rfl)))))) pa_nil)))))
(pss_cons (ps_expr (pe_bm PySem.F.plainAttrs_list PySem.F.slot_list_append PySem.F.type_list_append mt_append (pv 2) (pa_cons (pv 5) pa_nil)))
(pss_one (ps_expr (pe_bm PySem.F.plainAttrs_list PySem.F.slot_list_append PySem.F.type_list_append mt_append (pv 3) (pa_cons (pe_ifExp (pt_val (pv 5)) (pv 4) (pe_ix (ix_seqK (K := K)) (pv 3) (pe_un un_neg pe_int) (fun _ _ => rfl))) pa_nil)))))))
(pss_one (ps_ret (pv 3))))), ?_⟩
  obtain ⟨ks, n⟩ := x
  obtain ⟨g, hk, hn0, hn⟩ := hp
  have hn : n ≤ 5000 := hn
  have hn0 : -5000 ≤ n := hn0
  have g : Good ks := g
  have hk : ks.length ≤ 1000 := hk
  have hf : Flds K H gs (kF ks) := hf
  have a : At K H [.v (.ref ip), .d (.int n), .un, .un, .un, .un, .un, .un] (start n_m_floors vs) H := a
  have fk : ∀ {σ1 : L2.St} {H1 : Hp} {sl : List Sl}, At K H sl σ1 H1 → sl[0]? = some (.v (.ref ip)) → EvS K (tFld K (tVar 0) "kinds") σ1 H1 (.d (kdD ks)) := fun a1 h => ev_f (fl := kF ks) T (ev_var a1.env h) a1.ex hi hf (List.mem_cons_self)
  refine q_2N a fun p1 p2 σ1 H1 n1 n2 hne e1 h1 h2 a1 => ?_
  refine q_for (src_rng1 (j := 4) (ea_cons ((ev_var (a1).env (i := 1) rfl)) ea_nil) ⟨by omega, by omega⟩) (fun H2 i σ' H' => H' p1 = some (.lst ((sumsF ks i).map V.bl)) ∧ H' p2 = some (.lst ((nearF ks i).map V.int)) ∧ At K H [.v (.ref ip), .d (.int n), .v (.ref p1), .v (.ref p2), .un, .un, .un, .un] σ' H')
    (fun H2 e2 => ⟨e2 _ _ h1, e2 _ _ h2, a1.mono e2⟩) (fun _ _ _ _ _ _ => trivial) (fun H2 i x σ' H' H'' us e2 hx ⟨hS, hN, a2⟩ e3 hus => ?_) fun H2 σ' H' e2 ⟨hS, hN, a2⟩ => ?_
  · obtain ⟨rfl, hin⟩ := range_at hx
    have a3 := (a2.mono e3).putAll (js := [4]) hus rfl
    have hS3 := e3 _ _ hS
    have hN3 := e3 _ _ hN
    have hls := sums_len g x
    have hln := near_len g x
    have hv := en_lcA (vs := [6, 7]) (te := tAndV (tOp (rI0 fun i j => .bl (decide (j ≤ i))) (tVar 4) (tVar 6)) (tOp (rIx K) (tVar 2) (tOp (rI0 fun i j => .int (i - j)) (tVar 4) (tVar 6)))) (fun k : Kd => .bool (decide (k.1 ≤ (x : Int)) && (sumsF ks x).getD ((x : Int) - k.1).toNat false)) (src_kd2 (i := 6) (j := 7) (fk a3 rfl)) a3.env (Nat.le_trans hk (by decide)) (by decide) (fun _ _ => rfl)
      fun k hk' σ4 H4 e4 en => ev_andV (ev_ge ((ev_var en (i := 4) rfl)) ((ev_var en (i := 6) rfl))) fun hb1 => by
        have g1 := g k hk'
        have h2 : k.1 ≤ (x : Int) := of_decide_eq_true hb1
        have hlt : ((x : Int) - k.1).toNat < (sumsF ks x).length := by omega
        refine ev_ixR ((ev_var en (i := 2) rfl)) (.of (e4 _ _ hS3)) (dpa_bls' (ns := sumsF ks x)) (ev_sub ((ev_var en (i := 4) rfl)) ((ev_var en (i := 6) rfl))) ?_
        rw [show (x : Int) - k.1 = (((x : Int) - k.1).toNat : Int) by omega]
        refine at_map ?_
        rw [Int.toNat_natCast, List.getD_eq_getElem?_getD, List.getElem?_eq_getElem hlt]
        rfl
    refine q_asg (l := .d (.bool (isV ks (sumsF ks x) x))) a3 (ev_orV (ev_eqI ((ev_var (a3).env (i := 4) rfl)) ev_int) fun _ => ev_any (bs := yesV ks (sumsF ks x) (x : Int)) (en_cast hv (by unfold yesV; rw [List.map_map]; rfl)).toS) fun σ4 H4 e4 a4 => ?_
    refine q_app (e4 _ _ hS3) ((ev_var (a4).env (i := 2) rfl)) ((ev_var (a4).env (i := 5) rfl)) (by rw [List.length_map]; omega) fun u5 H5 e5 hu5 => ?_
    have hu5 : u5 = .bl (isV ks (sumsF ks x) x) := dp_bl hu5
    subst hu5
    have a5 := (a4.mono e5).app (o := .lst ((sumsF ks x).map V.bl ++ [V.bl (isV ks (sumsF ks x) x)])) n1 (e5 _ _ (e4 _ _ hS3)) rfl
    have hN5 : (upd H5 p1 (.lst ((sumsF ks x).map V.bl ++ [V.bl (isV ks (sumsF ks x) x)]))) p2 = some (.lst ((nearF ks x).map V.int)) := by rw [upd_ne (Ne.symm hne)]; exact e5 _ _ (e4 _ _ hN3)
    have hval : ∃ v : Int, nearF ks x ++ [v] = nearF ks (x + 1) ∧ EvS K (tIf (tB (tVar 5)) (tVar 4) (tOp (rIx K) (tVar 3) (tUn (rU fun i => .int (-i)) (tC (.int 1))))) σ4 (upd H5 p1 (.lst ((sumsF ks x).map V.bl ++ [V.bl (isV ks (sumsF ks x) x)]))) (.d (.int v)) := by
      cases x with
      | zero => exact ⟨0, rfl, ev_if (b := true) (et_b (ev_cast ((ev_var (a5).env (i := 5) rfl)) rfl)) (fun _ => (ev_var (a5).env (i := 4) rfl)) fun z => nomatch z⟩
      | succ y =>
        have hl : (floorsF ks y).length = y + 1 := (floors_ok g y).1
        obtain ⟨r, hr1, hr2⟩ := at_last hl
        have hrD : (floorsF ks y).getD y 0 = r := by rw [List.getD_eq_getElem?_getD, hr1]; rfl
        have hiv : isV ks (sumsF ks (y + 1)) (y + 1) = (yesV ks (yesF ks y) ((y + 1 : Nat) : Int)).any id := by
          unfold isV
          rw [decide_eq_false (by omega), Bool.false_or]
          rfl
        refine ⟨if (yesV ks (yesF ks y) ((y + 1 : Nat) : Int)).any id = true then ((y + 1 : Nat) : Int) else r, by rw [← hrD]; rfl, ev_if (b := (yesV ks (yesF ks y) ((y + 1 : Nat) : Int)).any id) (et_b (ev_cast ((ev_var (a5).env (i := 5) rfl)) (by rw [hiv]))) (fun z => ?_) fun z => ?_⟩
        · rw [if_pos z]
          exact (ev_var (a5).env (i := 4) rfl)
        · rw [if_neg (by rw [z]; exact Bool.false_ne_true)]
          exact ev_ixR ((ev_var (a5).env (i := 3) rfl)) (.of hN5) (dpa_ints' (ns := floorsF ks y)) (ev_neg ev_int) hr2
    obtain ⟨v, hv1, hv2⟩ := hval
    refine s_app hN5 ((ev_var (a5).env (i := 3) rfl)) hv2 (by rw [List.length_map]; omega) fun u6 H6 e6 hu6 => ?_
    have hu6 : u6 = .int v := dp_int hu6
    subst hu6
    have a6 := (a5.mono e6).app (o := .lst ((nearF ks x).map V.int ++ [V.int v])) n2 (e6 _ _ hN5) rfl
    refine ⟨?_, ?_, (a6.un 4).un 5⟩
    · rw [upd_ne hne]
      have := e6 _ _ (show (upd H5 p1 (.lst ((sumsF ks x).map V.bl ++ [V.bl (isV ks (sumsF ks x) x)]))) p1 = _ from upd_same)
      rw [this, ← sums_next, List.map_append]
      rfl
    · rw [upd_same, ← hv1, List.map_append]
      rfl
  · rw [List.length_range] at hN
    exact s_ret ((ev_var (a2).env (i := 3) rfl)) fun w H3 e3 hw => q _ _ _ rfl (a2.ex.trans e3) (by
      have hw : w = .ref p2 := hw
      subst hw
      exact .lst (.of (e3 _ _ hN)) dpa_ints')
/-! what Loads holds -/
structure LdX where
  ks : List Kd
  d : Int
  near : List Int
  s : Kd
  b : Nat
def LdX.fs (x : LdX) : List (Str × PyData) := [("kinds", kdD x.ks), ("divisor", .int x.d), ("near", .list (x.near.map .int)), ("slim", pr x.s), ("slim_bound", .int (x.b : Nat)), ("weights", .list ((slimF x.ks x.b).map opD))]
structure LdX.Ok (x : LdX) : Prop where
  g : Good x.ks
  l : x.ks.length ≤ 1000
  nd : x.ks ≠ [] → 0 < x.d
  dv : ∀ k ∈ x.ks, x.d ∣ k.1
  nr : ∀ (j : Nat) (f : Int), x.near[j]? = some f → FloorAt x.ks (j : Int) f
  sm : x.ks ≠ [] → x.s ∈ x.ks ∧ ∀ k ∈ x.ks, x.s.2 * k.1 ≤ k.2 * x.s.1
  bd : x.ks ≠ [] → ∃ M : Int, (∀ k ∈ x.ks, k.1 ≤ M) ∧ (x.b : Int) = x.s.1 * M
/-! floor, is_sum -/
abbrev spFloor (K : PySem.W.Frag) (C : Addr) : Sp := SpIF K C (α := LdX × Int) (fun x => x.1.fs) (fun x => [.int x.2]) (fun x => x.1.Ok ∧ IsSum x.1.ks x.2) fun x => .int x.2
theorem ok_floor (T : Tx w K mg C) (F : Fun K "floor" "Loads.floor" s_m_floor f fd) : FnOk P w K mg base CX0 1 f fd p_m_floor (spFloor K C) := by
  refine run_meth F sc_m_floor (fun _ => rfl) fun cdv A outer s H vs Q E x ip dx gs hr hp hi hf hnm a q => ?_
  refine ⟨_, (pss_cons (ps_if (pt_cmpR op_lt (pv 1) (pe_callB call_len (by rfl) T.b_len bt_len (pa_cons (pe_fld (pv 0) rfl) pa_nil)) (nomark _))
(pss_one (ps_ret (pe_ix (ix_seqK (K := K)) (pe_fld (pv 0) rfl) (pv 1) (fun _ _ => rfl))))
pss_nil)
(pss_one (ps_ret (pe_ifExp (pt_cmpR (op_neD hr.units) (pe_fld (pv 0) rfl) (pe_tup pa_nil) (nomark _)) (pe_op op_sub (pv 1) (pe_op op_mod (pv 1) (pe_fld (pv 0) rfl))) pe_int)))), ?_⟩
  obtain ⟨L, n⟩ := x
  obtain ⟨ok, hs⟩ := hp
  have ok : L.Ok := ok
  have hs : IsSum L.ks n := hs
  have hf : Flds K H gs L.fs := hf
  have h0 := hs.nonneg ok.g
  have a : At K H [.v (.ref ip), .d (.int n)] (start n_m_floor vs) H := a
  have out : ∀ {te : TE} {σ1 : L2.St} {H1 : Hp} {t : Int} (e1 : Ex H H1) (h : EvS K te σ1 H1 (.d (.int t))), t = n → tRet te { nx := fun _ H' => Q .non H', rt := Q } σ1 H1 := fun e1 h z =>
    s_ret h fun u H2 e2 hu => q _ _ _ rfl (e1.trans e2) (by rw [z] at hu; exact hu)
  have nr : ∀ {σ1 : L2.St} {H1 : Hp} {sl : List Sl}, At K H sl σ1 H1 → sl[0]? = some (.v (.ref ip)) → EvS K (tFld K (tVar 0) "near") σ1 H1 (.d (.list (L.near.map .int))) := fun a1 h => ev_f T (ev_var a1.env h) a1.ex hi hf (by simp [LdX.fs])
  refine q_when a (et_s (ev_lt ((ev_var (a).env (i := 1) rfl)) (ev_lenL (nr a rfl)))) (fun hb H1 e1 a1 => ?_) fun hb H1 e1 a1 => ?_
  · have hlt : n < (L.near.length : Int) := by simpa using hb
    refine out a1.ex (ev_ixL (nr a1 rfl) ((ev_var (a1).env (i := 1) rfl)) (at_sub h0 hlt)) ?_
    have := ok.nr n.toNat _ (getD_at (d := 0) (by omega))
    rw [Int.toNat_of_nonneg h0] at this
    have h2 := this.2.2 n hs (Int.le_refl _)
    have h3 := this.2.1
    show atD 0 L.near n = n
    unfold atD
    omega
  · have fk : EvS K (tFld K (tVar 0) "kinds") (start n_m_floor vs) H1 (.d (kdD L.ks)) := ev_f T ((ev_var (a1).env (i := 0) rfl)) a1.ex hi hf (by simp [LdX.fs])
    have fd : EvS K (tFld K (tVar 0) "divisor") (start n_m_floor vs) H1 (.d (.int L.d)) := ev_f T ((ev_var (a1).env (i := 0) rfl)) a1.ex hi hf (by simp [LdX.fs])
    refine out (t := n) a1.ex (ev_if (et_s (ev_neNilT fk (shp_kd L.ks) ev_nilT)) (fun hb => ?_) fun hb => ?_) rfl
    · have hne : L.ks ≠ [] := fun z => by rw [z] at hb; simp at hb
      have hd := ok.nd hne
      have hm : n % L.d = 0 := Int.emod_eq_zero_of_dvd (dvd_sum ok.dv hs)
      exact ev_cast (ev_sub ((ev_var (a1).env (i := 1) rfl)) (ev_mod ((ev_var (a1).env (i := 1) rfl)) fd hd)) (by rw [hm, Int.sub_zero])
    · have hne : L.ks = [] := by
        cases hz : L.ks with
        | nil => rfl
        | cons _ _ => rw [hz] at hb; simp at hb
      obtain ⟨ms, hms, hl⟩ := hs
      rw [hne] at hms
      have : ms = [] := by
        cases ms with
        | nil => rfl
        | cons m r => exact absurd (hms m List.mem_cons_self) (fun z => nomatch z)
      rw [this, len_nil] at hl
      rw [← hl]
      exact ev_int
abbrev spIsSum (K : PySem.W.Frag) (C : Addr) : Sp := SpIF K C (α := LdX × Int) (fun x => x.1.fs) (fun x => [.int x.2]) (fun x => x.1.Ok ∧ IsSum x.1.ks x.2) fun _ => .bool true
theorem ok_is_sum (T : Tx w K mg C) (M_floor : Met P w K mg base 1 C "floor" (spFloor K C) []) (F : Fun K "is_sum" "Loads.is_sum" s_m_is_sum f fd) : FnOk P w K mg base CX0 2 f fd p_m_is_sum (spIsSum K C) := by
  refine run_meth F sc_m_is_sum (fun _ => rfl) fun cdv A outer s H vs Q E x ip dx gs hr hp hi hf hnm a q => ?_
  refine ⟨_, (pss_one (ps_ret (pe_cmpR op_eq (pe_mt M_floor hr (by decide) (pv 0) (pa_cons (pv 1) pa_nil)) (pv 1) (nomark _)))), ?_⟩
  obtain ⟨L, n⟩ := x
  have a : At K H [.v (.ref ip), .d (.int n)] (start n_m_is_sum vs) H := a
  have hf : Flds K H gs L.fs := hf
  have hm := evM (x := (L, n)) (fs := fun x : LdX × Int => x.1.fs) (enc := fun x => [.int x.2]) (Pre := fun x => x.1.Ok ∧ IsSum x.1.ks x.2) (r := fun x => .int x.2) (m := "floor") ((ev_var (a).env (i := 0) rfl)) a.ex hi hf hnm (ea_cons ((ev_var (a).env (i := 1) rfl)) ea_nil) hp (fun _ h => h)
  exact s_ret (ev_cast (ev_eqI hm ((ev_var (a).env (i := 1) rfl))) (by rw [decide_eq_true rfl])) fun u H2 e2 hu => q _ _ _ rfl (a.ex.trans e2) hu
/-! lightest -/
abbrev spLightest (K : PySem.W.Frag) (C : Addr) : Sp := SpI K C (α := LdX × Int) (fun x => x.1.fs) (fun x => [.int x.2]) (fun x => x.1.Ok ∧ 0 ≤ x.2 ∧ ∃ y, Mk x.1.ks x.2 y) fun x d => ∃ z, d = .int z ∧ ∀ y, Mk x.1.ks x.2 y → z ≤ y
theorem ok_lightest (T : Tx w K mg C) (F : Fun K "lightest" "Loads.lightest" s_m_lightest f fd) : FnOk P w K mg base CX0 1 f fd p_m_lightest (spLightest K C) := by
  refine run_meth F sc_m_lightest (fun _ => rfl) fun cdv A outer s H vs Q E x ip dx gs hr hp hi hf hnm a q => ?_
  refine ⟨_, (pss_cons (ps_if (pt_cmpR op_lt (pv 1) (pe_callB call_len (by rfl) T.b_len bt_len (pa_cons (pe_fld (pv 0) rfl) pa_nil)) (nomark _))
(pss_one (ps_ret (pe_ix (ix_seqK (K := K)) (pe_fld (pv 0) rfl) (pv 1) (fun _ _ => rfl))))
pss_nil)
(pss_cons (ps_if (pt_cmpR (op_eqD hr.units) (pe_fld (pv 0) rfl) (pe_tup pa_nil) (nomark _))
(pss_one (ps_ret pe_non))
pss_nil)
(pss_cons (ps_set (i := 2) sc_m_lightest.nd rfl (.inl rfl) (pe_op op_add (pe_op op_fdiv (pe_op op_sub (pv 1) (pe_fld (pv 0) rfl)) (pe_ix (ix_seqK (K := K)) (pe_fld (pv 0) rfl) pe_int (fun _ _ => rfl))) pe_int))
(pss_cons (ps_set (i := 3) sc_m_lightest.nd rfl (.inl rfl) (pe_ix (ix_seqK (K := K)) (pe_fld (pv 0) rfl) (pe_op op_sub (pv 1) (pe_op op_mul (pv 2) (pe_ix (ix_seqK (K := K)) (pe_fld (pv 0) rfl) pe_int (fun _ _ => rfl)))) (fun _ _ => rfl)))
(pss_one (ps_ret (pe_ifExp (pt_cmp (pc_isN (pv 3)) rfl) pe_non (pe_op op_add (pv 3) (pe_op op_mul (pv 2) (pe_ix (ix_seqK (K := K)) (pe_fld (pv 0) rfl) pe_int (fun _ _ => rfl))))))))))), ?_⟩
  obtain ⟨L, n⟩ := x
  obtain ⟨ok, h0, y, hy⟩ := hp
  have ok : L.Ok := ok
  have h0 : 0 ≤ n := h0
  have hy : Mk L.ks n y := hy
  have g := ok.g
  have hf : Flds K H gs L.fs := hf
  have a : At K H [.v (.ref ip), .d (.int n), .un, .un] (start n_m_lightest vs) H := a
  have wf : ∀ {σ1 : L2.St} {H1 : Hp} {sl : List Sl}, At K H sl σ1 H1 → sl[0]? = some (.v (.ref ip)) → EvS K (tFld K (tVar 0) "weights") σ1 H1 (.d (.list ((slimF L.ks L.b).map opD))) := fun a1 h => ev_f T (ev_var a1.env h) a1.ex hi hf (by simp [LdX.fs])
  have sf : ∀ {σ1 : L2.St} {H1 : Hp} {sl : List Sl}, At K H sl σ1 H1 → sl[0]? = some (.v (.ref ip)) → EvS K (tFld K (tVar 0) "slim") σ1 H1 (.d (pr L.s)) := fun a1 h => ev_f T (ev_var a1.env h) a1.ex hi hf (by simp [LdX.fs])
  have kf : ∀ {σ1 : L2.St} {H1 : Hp} {sl : List Sl}, At K H sl σ1 H1 → sl[0]? = some (.v (.ref ip)) → EvS K (tFld K (tVar 0) "kinds") σ1 H1 (.d (kdD L.ks)) := fun a1 h => ev_f T (ev_var a1.env h) a1.ex hi hf (by simp [LdX.fs])
  have bf : ∀ {σ1 : L2.St} {H1 : Hp} {sl : List Sl}, At K H sl σ1 H1 → sl[0]? = some (.v (.ref ip)) → EvS K (tFld K (tVar 0) "slim_bound") σ1 H1 (.d (.int (L.b : Nat))) := fun a1 h => ev_f T (ev_var a1.env h) a1.ex hi hf (by simp [LdX.fs])
  have hwl : (slimF L.ks L.b).length = L.b + 1 := (slim_ok g L.b).1
  refine q_when a (et_s (ev_lt ((ev_var (a).env (i := 1) rfl)) (ev_lenL (wf a rfl)))) (fun hb H1 e1 a1 => ?_) fun hb H1 e1 a1 => ?_
  · have hlt : n < ((slimF L.ks L.b).length : Int) := by simpa using hb
    have hS : SlimAt L.ks n (atD none (slimF L.ks L.b) n) := atD_ok (d := none) (P := SlimAt L.ks) hwl (slim_ok g L.b).2 n h0 (by omega)
    cases ho : atD none (slimF L.ks L.b) n with
    | none => rw [ho] at hS; exact absurd hy (hS _)
    | some z =>
      rw [ho] at hS
      refine s_ret (ev_cast (ev_ixL (wf a1 rfl) ((ev_var (a1).env (i := 1) rfl)) (at_subO h0 hlt)) (by rw [ho]; rfl)) fun u H2 e2 hu => q _ (.int z) _ ⟨z, rfl, hS.2⟩ (a1.ex.trans e2) hu
  have hge : (L.b : Int) < n := by
    have : ¬ n < (((slimF L.ks L.b).map opD).length : Int) := of_decide_eq_false hb
    rw [List.length_map, hwl] at this
    omega
  have hne : L.ks ≠ [] := fun z => by
    obtain ⟨ms, hms, hl, _⟩ := hy
    rw [z] at hms
    have : ms = [] := by
      cases ms with
      | nil => rfl
      | cons m r => exact absurd (hms m List.mem_cons_self) (fun z => nomatch z)
    rw [this, len_nil] at hl
    omega
  refine q_when a1 (et_s (ev_eqNilT (kf a1 rfl) (shp_kd L.ks) ev_nilT)) (fun hb _ _ _ => absurd (by simpa using hb) hne) fun _ H2 e2 a2 => ?_
  obtain ⟨sk, smin⟩ := ok.sm hne
  obtain ⟨M, hM, hbM⟩ := ok.bd hne
  have gs' := g L.s sk
  have hM1 := hM L.s sk
  refine q_asg a2 (ev_add (ev_fdiv (ev_sub ((ev_var (a2).env (i := 1) rfl)) (bf a2 rfl)) (ev_ixT (sf a2 rfl) ev_int (d := .int L.s.1) rfl) ⟨by omega, by omega⟩) ev_int) fun σ3 H3 e3 a3 => ?_
  have hx : L.s.1 * M < n := by omega
  obtain ⟨i0, i1⟩ := lightest_far_ix (a := L.s.1) (M := M) (x := n) (t := (n - (L.b : Int)) / L.s.1 + 1) (by omega) hM1 (by rw [hbM]) hx
  generalize ht : (n - (L.b : Int)) / L.s.1 + 1 = t at *
  have hS : SlimAt L.ks (n - t * L.s.1) (atD none (slimF L.ks L.b) (n - t * L.s.1)) := atD_ok (d := none) (P := SlimAt L.ks) hwl (slim_ok g L.b).2 _ i0 (by omega)
  have far : ∀ y, Mk L.ks n y → ∃ z, atD none (slimF L.ks L.b) (n - t * L.s.1) = some z ∧ z + t * L.s.2 ≤ y := fun y hy => lightest_far (M := M) g (show (L.s.1, L.s.2) ∈ L.ks from sk) smin hM (by rw [← ht, hbM]) hx hS hy
  obtain ⟨z, ho, _⟩ := far y hy
  refine q_asg a3 (ev_ixL (wf a3 rfl) (ev_sub ((ev_var (a3).env (i := 1) rfl)) (ev_mul ((ev_var (a3).env (i := 2) rfl)) (ev_ixT (sf a3 rfl) ev_int (d := .int L.s.1) rfl) (small_mul' (by omega)))) (at_subO i0 (by rw [hwl]; omega))) fun σ4 H4 e4 a4 => ?_
  rw [ho] at a4
  have a4 : At K H [.v (.ref ip), .d (.int n), .d (.int t), .d (.int z)] σ4 H4 := a4
  refine s_ret (l := .d (.int (z + t * L.s.2))) (ev_if (b := false) (et_b (ev_isN ((ev_var (a4).env (i := 3) rfl)))) (fun z => nomatch z) fun _ => ev_add ((ev_var (a4).env (i := 3) rfl)) (ev_mul ((ev_var (a4).env (i := 2) rfl)) (ev_ixT (sf a4 rfl) ev_int (d := .int L.s.2) rfl) (small_mul' (by omega)))) fun u H5 e5 hu => q _ (.int (z + t * L.s.2)) _ ⟨_, rfl, fun y' hy' => ?_⟩ (a4.ex.trans e5) hu
  obtain ⟨z', ho', hle⟩ := far y' hy'
  rw [ho] at ho'
  cases ho'
  exact hle
end
end Wk

set_option maxHeartbeats 200000
set_option Elab.async false
set_option linter.all false
set_option maxRecDepth 100000
set_option maxHeartbeats 1000000
/-! WrM4: Loads.least_by_rest, regular_from. -/
namespace Wk
open PySem PySem.Spec PyProof.Rows L2 Evl Wr
open C8 (Cal pe_c Met pe_mt pe_mt0 Mak pe_mk)
/-! ### the search, plainly -/
abbrev Kvs := List (L2.Key × V)
def valN (kvs : Kvs) (r : Int) : Nat := match valV kvs (Sum.inl r) with
  | some (.int v) => v.toNat
  | _ => 901
def sumV (kvs : Kvs) (n : Nat) : Nat := ((List.range n).map fun r => valN kvs (r : Nat)).sum
def mu (kvs : Kvs) (n : Nat) (ws : List Int) : Nat := 2 * sumV kvs n + ws.length
structure LB (least : Int) (kvs : Kvs) (ws : List Int) : Prop where
  ent : ∀ p ∈ kvs, ∃ r v : Int, p = (Sum.inl r, V.int v) ∧ 0 ≤ r ∧ r < least ∧ 0 ≤ v ∧ v ≤ 30 * ((kvs.length : Int) - 1)
  nd : (kvs.map (·.1)).Nodup
  ws : ∀ x ∈ ws, (valV kvs (Sum.inl x)).isSome = true
  ne : kvs ≠ []
theorem valV_mem {kvs : Kvs} {k : L2.Key} {v : V} (h : valV kvs k = some v) : (k, v) ∈ kvs := by
  unfold valV at h
  obtain ⟨p, hp, rfl⟩ := Option.map_eq_some_iff.mp h
  have h1 := List.mem_of_find?_eq_some hp
  have h2 := List.find?_some hp
  have h2 : p.1 = k := of_decide_eq_true h2
  rw [← h2]
  exact h1
theorem LB.get {least : Int} {kvs : Kvs} {ws : List Int} (b : LB least kvs ws) {x : Int} (h : (valV kvs (Sum.inl x)).isSome = true) : ∃ v : Int, valV kvs (Sum.inl x) = some (.int v) ∧ 0 ≤ x ∧ x < least ∧ 0 ≤ v ∧ v ≤ 30 * ((kvs.length : Int) - 1) := by
  obtain ⟨u, hu⟩ := Option.isSome_iff_exists.mp h
  obtain ⟨r, v, e, h1, h2, h3, h4⟩ := b.ent _ (valV_mem hu)
  cases e
  exact ⟨v, hu, h1, h2, h3, h4⟩
theorem LB.few {least : Int} {kvs : Kvs} {ws : List Int} (b : LB least kvs ws) (hl : least ≤ 30) : kvs.length ≤ 30 := by
  have h0 : ∀ k ∈ kvs.map (·.1), k ∈ (List.range least.toNat).map fun n : Nat => (Sum.inl (n : Int) : L2.Key) := fun k hk => by
    obtain ⟨p, hp, rfl⟩ := List.mem_map.mp hk
    obtain ⟨r, v, rfl, h1, h2, _⟩ := b.ent p hp
    exact List.mem_map.mpr ⟨r.toNat, List.mem_range.mpr (by omega), by show (Sum.inl _ : L2.Key) = Sum.inl r; rw [Int.toNat_of_nonneg h1]⟩
  have := nodup_le b.nd h0
  rw [List.length_map, List.length_map, List.length_range] at this
  omega
theorem sum_upd (f : Nat → Nat) (a x : Nat) : ∀ n, a < n → ((List.range n).map fun r => if r = a then x else f r).sum + f a = ((List.range n).map f).sum + x
  | 0, h => absurd h (Nat.not_lt_zero _)
  | n + 1, h => by
    rw [List.range_succ, List.map_append, List.map_append, List.sum_append, List.sum_append]
    show _ + ((if n = a then x else f n) + 0) + f a = _ + (f n + 0) + x
    by_cases e : n = a
    · subst e
      rw [if_pos rfl]
      have : ((List.range n).map fun r => if r = n then x else f r) = (List.range n).map f := List.map_congr_left fun r hr => if_neg (by have := List.mem_range.mp hr; omega)
      rw [this]
      omega
    · have ih := sum_upd f a x n (by omega)
      rw [if_neg e]
      omega
theorem sumV_put {kvs : Kvs} {rest later : Int} {n : Nat} (h0 : 0 ≤ rest) (h1 : rest < (n : Int)) : sumV (putK kvs (Sum.inl rest) (.int later)) n + valN kvs rest = sumV kvs n + later.toNat := by
  have := sum_upd (fun r => valN kvs (r : Nat)) rest.toNat later.toNat n (by omega)
  unfold sumV
  have e : (fun r : Nat => valN (putK kvs (Sum.inl rest) (.int later)) (r : Nat)) = fun r => if r = rest.toNat then later.toNat else valN kvs (r : Nat) := by
    funext r
    unfold valN
    rw [valV_put]
    by_cases z : r = rest.toNat
    · rw [if_pos z, if_pos (by rw [z, Int.toNat_of_nonneg h0])]
    · rw [if_neg z, if_neg (fun w => z (by have : (r : Int) = rest := Sum.inl.inj w; omega))]
  rw [e]
  rw [Int.toNat_of_nonneg h0] at this
  exact this
theorem putK_mem {kvs : Kvs} {k : L2.Key} {v : V} {p : L2.Key × V} (h : p ∈ putK kvs k v) : p ∈ kvs ∨ p = (k, v) := by
  unfold putK at h
  split at h
  · obtain ⟨y, hy, rfl⟩ := List.mem_map.mp h
    by_cases e : y.1 = k
    · rw [if_pos e, e]
      exact .inr rfl
    · rw [if_neg e]
      exact .inl hy
  · rcases List.mem_append.mp h with h | h
    · exact .inl h
    · exact .inr (List.mem_singleton.mp h)
theorem putK_len {kvs : Kvs} {k : L2.Key} {v : V} : (putK kvs k v).length = if (valV kvs k).isSome = true then kvs.length else kvs.length + 1 := by
  unfold putK
  rw [valV_any]
  split
  · rw [List.length_map]
  · rw [List.length_append]
    rfl
theorem putK_keys {kvs : Kvs} {k : L2.Key} {v : V} : (putK kvs k v).map (·.1) = if (valV kvs k).isSome = true then kvs.map (·.1) else kvs.map (·.1) ++ [k] := by
  unfold putK
  rw [valV_any]
  split
  · rw [List.map_map]
    refine List.map_congr_left fun x _ => ?_
    by_cases e : x.1 = k <;> simp [e]
  · rw [List.map_append]
    rfl
theorem LB.step {least : Int} {kvs : Kvs} {ws : List Int} (b : LB least kvs ws) (hl : least ≤ 30) {rest later : Int} (h0 : 0 ≤ rest) (h1 : rest < least) (l0 : 0 ≤ later)
    (hc : (valV kvs (Sum.inl rest) = none ∧ later ≤ 30 * (kvs.length : Int)) ∨ ∃ old : Int, valV kvs (Sum.inl rest) = some (.int old) ∧ later < old) :
    LB least (putK kvs (Sum.inl rest) (.int later)) (ws ++ [rest]) ∧ mu (putK kvs (Sum.inl rest) (.int later)) least.toNat (ws ++ [rest]) + 1 ≤ mu kvs least.toNat ws := by
  have hf := b.few hl
  have sp := sumV_put (kvs := kvs) (later := later) (n := least.toNat) h0 (by omega)
  have hpl := putK_len (kvs := kvs) (k := Sum.inl rest) (v := V.int later)
  refine ⟨⟨fun p hp => ?_, ?_, fun x hx => ?_, fun z => ?_⟩, ?_⟩
  · rcases putK_mem hp with hp | rfl
    · obtain ⟨r, v, rfl, g1, g2, g3, g4⟩ := b.ent p hp
      refine ⟨r, v, rfl, g1, g2, g3, ?_⟩
      rw [hpl]
      split <;> omega
    · refine ⟨rest, later, rfl, h0, h1, l0, ?_⟩
      rw [hpl]
      rcases hc with ⟨hn, hle⟩ | ⟨old, ho, hlt⟩
      · rw [hn]
        simp
        omega
      · rw [ho]
        obtain ⟨r, v, e, g1, g2, g3, g4⟩ := b.ent _ (valV_mem ho)
        cases e
        simp
        omega
  · rw [putK_keys]
    split
    · exact b.nd
    · rename_i hn
      refine List.nodup_append.mpr ⟨b.nd, List.nodup_cons.mpr ⟨(fun z => nomatch z), List.nodup_nil⟩, fun x hx y hy e => ?_⟩
      rw [List.mem_singleton.mp hy] at e
      subst e
      refine hn ?_
      rw [← valV_any, List.any_eq_true]
      obtain ⟨p, hp, e⟩ := List.mem_map.mp hx
      exact ⟨p, hp, decide_eq_true e⟩
  · rw [valV_put]
    split
    · rfl
    · rcases List.mem_append.mp hx with hx | hx
      · exact b.ws x hx
      · rename_i hne
        rw [List.mem_singleton.mp hx] at hne
        exact absurd rfl hne
  · rw [z] at hpl
    have : 0 < kvs.length := List.length_pos_iff.mpr b.ne
    split at hpl <;> simp at hpl <;> omega
  · unfold mu
    rw [List.length_append, List.length_singleton]
    have hlt : later.toNat < valN kvs rest := by
      unfold valN
      rcases hc with ⟨hn, hle⟩ | ⟨old, ho, hlt⟩
      · rw [hn]
        simp
        omega
      · rw [ho]
        simp
        omega
    omega
theorem LB.first {least : Int} (h : 0 < least) : LB least [(Sum.inl 0, V.int 0)] [0] :=
  ⟨fun p hp => by rw [List.mem_singleton.mp hp]; exact ⟨0, 0, rfl, Int.le_refl _, h, Int.le_refl _, by simp⟩, by simp, fun x hx => by rw [List.mem_singleton.mp hx]; rfl, List.cons_ne_nil _ _⟩
theorem LB.pop {least : Int} {kvs : Kvs} {ws : List Int} (b : LB least kvs ws) : LB least kvs ws.dropLast := ⟨b.ent, b.nd, fun x hx => b.ws x (List.dropLast_subset _ hx), b.ne⟩
theorem LB.vals {least : Int} {kvs : Kvs} {ws : List Int} (b : LB least kvs ws) (hl : least ≤ 30) : ∃ is : List Int, kvs.map (·.2) = is.map V.int ∧ is ≠ [] ∧ ∀ i ∈ is, 0 ≤ i ∧ i ≤ 900 := by
  have hf := b.few hl
  have aux : ∀ l : Kvs, (∀ p ∈ l, p ∈ kvs) → ∃ is : List Int, l.map (·.2) = is.map V.int ∧ is.length = l.length ∧ ∀ i ∈ is, 0 ≤ i ∧ i ≤ 900 := by
    intro l
    induction l with
    | nil => exact fun _ => ⟨[], rfl, rfl, fun _ h => nomatch h⟩
    | cons p l ih =>
      intro h
      obtain ⟨is, h1, h2, h3⟩ := ih fun q hq => h q (List.mem_cons_of_mem _ hq)
      obtain ⟨r, v, e, g1, g2, g3, g4⟩ := b.ent p (h p List.mem_cons_self)
      refine ⟨v :: is, by rw [List.map_cons, List.map_cons, h1, e], by rw [List.length_cons, List.length_cons, h2], fun i hi => ?_⟩
      rcases List.mem_cons.mp hi with rfl | hi
      · omega
      · exact h3 i hi
  obtain ⟨is, h1, h2, h3⟩ := aux kvs fun _ h => h
  refine ⟨is, h1, fun z => ?_, h3⟩
  rw [z] at h2
  exact b.ne (List.length_eq_zero_iff.mp h2.symm)
theorem LB.mu0 {least : Int} (h : least ≤ 30) : mu [(Sum.inl 0, V.int 0)] least.toNat [0] ≤ 60000 := by
  have aux : ∀ l : List Nat, (l.map fun r : Nat => valN [(Sum.inl 0, V.int 0)] (r : Nat)).sum ≤ 901 * l.length := by
    intro l
    induction l with
    | nil => exact Nat.le_refl _
    | cons r l ih =>
      rw [List.map_cons, List.sum_cons, List.length_cons]
      have : valN [(Sum.inl 0, V.int 0)] (r : Nat) ≤ 901 := by
        unfold valN
        by_cases z : (0 : Int) = (r : Nat)
        · rw [valV_pos (p := ((Sum.inl 0 : L2.Key), V.int 0)) (by rw [z])]
          simp
        · rw [valV_neg (p := ((Sum.inl 0 : L2.Key), V.int 0)) (fun w => z (Sum.inl.inj w))]
          exact Nat.le_refl _
      omega
  have := aux (List.range least.toNat)
  rw [List.length_range] at this
  unfold mu sumV
  rw [List.length_singleton]
  omega
/-! ### rules over what is written -/
section
variable {K : PySem.W.Frag} {H0 H : Hp} {sl : List Sl} {σ : L2.St} {te ta tb : TE}
theorem At.wr {p : Addr} {o u : HO} (a : At K H0 sl σ H) (hp : H0 p = none) (h : H p = some u) (h1 : ∀ xs, u ≠ .tup xs) (h2 : ∀ o xs, u ≠ .frz o (.tup xs)) (n : sl.all noLS = true) : At K H0 sl σ (upd H p o) := ⟨a.ex.mut hp, a.env.monoT (exT_upd h h1 h2) n⟩
theorem ev_ints {p : Addr} {ns : List Int} (h : EvS K te σ H (.v (.ref p))) (hp : H p = some (.lst (ns.map V.int))) : EvS K te σ H (.d (.list (ns.map .int))) := fun H1 e Q q => h H1 e Q fun u H2 e2 hu => q u H2 e2 (by
  rw [show u = .ref p from hu]
  exact .lst (.of (e2 _ _ (e _ _ hp))) dpa_ints')
variable {D : Ends} {tz : TS} {l : Sl}
/-- x = xs.pop() -/
theorem q_pop {i : Nat} {p : Addr} {xs : List V} {y : V} (a : At K H0 sl σ H) (ha : EvS K ta σ H (.v (.ref p))) (hp : H p = some (.lst xs)) (hy : xs[xs.length - 1]? = some y) (hl : ∀ H, Hd K H l y) (hp0 : H0 p = none) (n : sl.all noLS = true)
    (k : ∀ σ1 H1, Ex H H1 → At K H0 (sl.set i l) σ1 (upd H1 p (.lst xs.dropLast)) → tz D σ1 (upd H1 p (.lst xs.dropLast))) : tSeq (tAsg (tBM0 K "list" rPop ta) (gName i)) tz D σ H :=
  ha H (Ex.refl _) _ fun u H5 e5 hu => by
    have hu : u = .ref p := hu
    subst hu
    have h5 := e5 _ _ hp
    exact ⟨.inl ⟨rfl, _, .of h5⟩, p, xs, y, rfl, rfl, h5, hy, k _ _ e5 (((a.mono e5).wr hp0 h5 (fun _ z => nomatch z) (fun _ _ z => nomatch z) n).put i (hl _))⟩
/-- d[k] = v -/
theorem q_dputI {p : Addr} {kvs : Kvs} {i v : Int} (a : At K H0 sl σ H) (hv : EvS K te σ H (.d (.int v))) (ha : EvS K ta σ H (.v (.ref p))) (hb : EvS K tb σ H (.d (.int i))) (hp : H p = some (.dK kvs)) (hz : kvs.length ≤ 100000) (hp0 : H0 p = none) (n : sl.all noLS = true)
    (k : ∀ H1, Ex H H1 → At K H0 sl σ (upd H1 p (.dK (putK kvs (Sum.inl i) (.int v)))) → tz D σ (upd H1 p (.dK (putK kvs (Sum.inl i) (.int v))))) : tSeq (sDPut ta tb te) tz D σ H :=
  hv H (Ex.refl _) _ fun x1 H11 e11 hx1 => ha H11 e11 _ fun x2 H12 e12 hx2 => hb H12 (e11.trans e12) _ fun x3 H13 e13 hx3 => by
    have hx1 : x1 = .int v := dp_int hx1
    have hx2 : x2 = .ref p := hx2
    have hx3 : x3 = .int i := dp_int hx3
    subst hx1 hx2 hx3
    have e := (e11.trans e12).trans e13
    have h13 := e _ _ hp
    exact ⟨p, _, rfl, DPut.k (k := Sum.inl i) h13 (Nat.lt_of_le_of_lt hz (by decide)), k _ e ((a.mono e).wr hp0 h13 (fun _ z => nomatch z) (fun _ _ z => nomatch z) n)⟩
/-- d[k] of a dict of ints that stands at p -/
theorem ev_dgetI {p : Addr} {kvs : Kvs} {i v : Int} (ha : EvS K ta σ H (.v (.ref p))) (hb : EvS K tb σ H (.d (.int i))) (hp : H p = some (.dK kvs)) (hv : valV kvs (Sum.inl i) = some (.int v)) : EvS K (tDGet ta tb) σ H (.d (.int v)) := fun H1 e Q q =>
  ha H1 e _ fun u H2 e2 hu => hb H2 (e.trans e2) _ fun w H3 e3 hw => by
    refine ⟨p, .int v, hu, ?_, q _ H3 (e2.trans e3) (.int v)⟩
    rw [show w = kV (Sum.inl i) from dp_int hw, ← hv]
    exact DGet.k (e3 _ _ (e2 _ _ (e _ _ hp)))
theorem ev_dnotI {p : Addr} {kvs : Kvs} {i : Int} (hb : EvS K tb σ H (.d (.int i))) (ha : EvS K ta σ H (.v (.ref p))) (hp : H p = some (.dK kvs)) : EvS K (tDNotIn tb ta) σ H (.d (.bool (!(valV kvs (Sum.inl i)).isSome))) := fun H1 e Q q =>
  hb H1 e _ fun w H2 e2 hw => ha H2 (e.trans e2) _ fun u H3 e3 hu => by
    refine ⟨p, _, hu, ?_, q _ H3 (e2.trans e3) (.bl _)⟩
    rw [show w = kV (Sum.inl i) from dp_int hw]
    exact DGet.k (e3 _ _ (e2 _ _ (e _ _ hp)))
end
section
variable {P : Program} {w : World} {K : PySem.W.Frag} {mg : Str → Option Value} {base : Heap} {C f : Addr} {fd : FuncData}
def SpLbr (K : PySem.W.Frag) (C : Addr) : Sp := fun vs H Q _ => ∃ (ks : List Kd) (a dx : Addr) (gs : List (Str × V)), Good ks ∧ ks.length ≤ 1000 ∧ ks ≠ [] ∧ vs = [.ref a] ∧ H a = some (.ins C dx gs) ∧ Flds K H gs (kF ks) ∧ NoM gs ∧
  ∀ (t d : Addr) (least : Int) (kvs : Kvs) (is : List Int) H', 0 ≤ least → least ≤ 30 → kvs.map (·.2) = is.map V.int → is ≠ [] → (∀ i ∈ is, 0 ≤ i ∧ i ≤ 900) → Ex H H' → H' d = some (.dK kvs) → H' t = some (.tup [.int least, .ref d]) → Q (.ref t) H'
theorem ok_lbr (T : Tx w K mg C) (F : Fun K "least_by_rest" "Loads.least_by_rest" s_m_least_by_rest f fd) : FnOk P w K mg base CX0 1 f fd p_m_least_by_rest (SpLbr K C) := by
  refine F.ok sc_m_least_by_rest (fun vs H Q E h => by obtain ⟨ks, a, dx, gs, _, _, _, rfl, _⟩ := h; rfl) fun cdv A outer s H vs Q E hr h => ?_
  obtain ⟨ks, ip, dx, gs, g, hk, hne, rfl, hi, hf, hnm, q⟩ := h
  refine ⟨_, (pss_cons (ps_set (i := 1) sc_m_least_by_rest.nd rfl (.inl rfl) (pe_callB (cr_min rfl) (by rfl) T.b_min bt_min (pa_cons (pe_lc (own := [("length", 5), ("weight", 6)]) (g := gTup K 2 (gCons (gName 5) (gCons (gName 6) (gNil)))) (tt := tYes) rfl sc_m_least_by_rest.nd (pi_tup (pe_fld (pv 0) rfl)) (blkOk_by (N := n_m_least_by_rest) (sc := defScope s_m_least_by_rest) (by decide +kernel)) (fun _ _ _ _ _ => (pg_tup rfl (pgs_cons (pg_name (i := 5) sc_m_least_by_rest.nd rfl (.inl rfl)) (pgs_cons (pg_name (i := 6) sc_m_least_by_rest.nd rfl (.inl rfl)) pgs_nil)))) (fun _ _ _ _ _ => pts_nil) (fun _ _ _ _ _ => (pv 5))) pa_nil)))
(pss_cons (ps_par (i := 2) (j := 3) (by rfl) sc_m_least_by_rest.nd rfl rfl (by decide) rfl rfl (pa_cons (pe_disp (pps_cons pe_int pe_int pps_nil) (by rfl) (by rfl) (fun z => by cases z) (by decide)) (pa_cons (pe_lst (pa_cons pe_int pa_nil)) pa_nil)) (by rfl))
(pss_cons (ps_while PassesOwn.never (pt_cmpR (op_neD hr.units) (pv 3) (pe_lst pa_nil) (nomark _))
(pss_cons (ps_set (i := 4) sc_m_least_by_rest.nd rfl (.inl rfl) (pe_bm0 PySem.F.plainAttrs_list PySem.F.slot_list_pop PySem.F.type_list_pop mt_pop (pv 3)))
(pss_one (ps_for PassesOwn.never rfl (pi_tup (pe_fld (pv 0) rfl)) (pg_tup rfl (pgs_cons (pg_name (i := 5) sc_m_least_by_rest.nd rfl (.inl rfl)) (pgs_cons (pg_name (i := 6) sc_m_least_by_rest.nd rfl (.inl rfl)) pgs_nil)))
(pss_cons (ps_set (i := 7) sc_m_least_by_rest.nd rfl (.inl rfl) (pe_op op_add (pe_dget (hu_of hr) (pv 2) (pv 4) (fun _ _ => rfl)) (pv 5)))
(pss_cons (ps_set (i := 8) sc_m_least_by_rest.nd rfl (.inl rfl) (pe_op op_mod (pv 7) (pv 1)))
(pss_one (ps_if (PW.pt (pw_or (pt_cmp (pc_dnotin (hu_of hr) (pv 8) (pv 2)) rfl) (pw_or1 (pt_cmpR op_lt (pv 7) (pe_dget (hu_of hr) (pv 2) (pv 8) (fun _ _ => rfl)) (nomark _)))))
(pss_cons (ps_dput (hu_of hr) (pv 2) (pv 8) (pv 7) rfl)
(pss_one (ps_expr (pe_bm PySem.F.plainAttrs_list PySem.F.slot_list_append PySem.F.type_list_append mt_append (pv 3) (pa_cons (pv 8) pa_nil)))))
pss_nil))))))))
(pss_one (ps_ret (pe_tup (pa_cons (pv 1) (pa_cons (pv 2) pa_nil)))))))), ?_⟩
  have a : At K H [.v (.ref ip), .un, .un, .un, .un, .un, .un, .un, .un] (start n_m_least_by_rest [.ref ip]) H := At.here (N := n_m_least_by_rest) (HdAll.cons (K := K) (H := H) (l := .v (.ref ip)) rfl .nil)
  have fk : ∀ {σ1 : L2.St} {H1 : Hp} {sl : List Sl}, At K H sl σ1 H1 → sl[0]? = some (.v (.ref ip)) → EvS K (tFld K (tVar 0) "kinds") σ1 H1 (.d (kdD ks)) := fun a1 h => ev_f (fl := kF ks) T (ev_var a1.env h) a1.ex hi hf (List.mem_cons_self)
  have hmk : ks.map (·.1) ≠ [] := by simpa using hne
  obtain ⟨k0, hk0, hk1⟩ := List.mem_map.mp (lmin_mem hmk)
  have gk0 := g k0 hk0
  have hlc := en_lcA (vs := [5, 6]) (te := tVar 5) (fun k : Kd => .int k.1) (src_kd2 (i := 5) (j := 6) (fk a rfl)) a.env (Nat.le_trans hk (by decide)) (by decide) (fun _ _ => rfl) fun k _ σ' H' e en => (ev_var en (i := 5) rfl)
  refine q_asg a (ev_min (ns := ks.map (·.1)) (en_cast hlc (by rw [List.map_map]; rfl)).toS hmk) fun σ1 H1 e1 a1 => ?_
  generalize hle : lmin (ks.map (·.1)) = least at *
  have l1 : 1 ≤ least := by omega
  have l2 : least ≤ 30 := by omega
  clear hle hk1
  -- found, waiting = {0: 0}, [0]
  refine fun d nd => ⟨upd_same, [(Sum.inl 0, V.int 0)], rfl, by decide, (show 1 ≤ sizeLine by decide), fun wq nw => ?_⟩
  have hdq : d ≠ wq := fun z => by subst z; rw [upd_same] at nw; cases nw
  have nd0 := fresh_back e1 nd
  have e2 : Ex H1 (upd (upd (upd H1 d (.dK [])) d (.dK (mergeK [] [(Sum.inl 0, V.int 0)]))) wq (.lst [V.int 0])) := by
    refine Ex.trans ?_ (Ex.new nw)
    rw [upd_upd]
    exact Ex.new nd
  have nw1 : H1 wq = none := by rw [upd_ne (Ne.symm hdq), upd_ne (Ne.symm hdq)] at nw; exact nw
  have nw0 := fresh_back e1 nw1
  refine ⟨.ref d, .ref wq, rfl, ?_⟩
  have a2 := ((a1.mono e2).put 2 (l := .v (.ref d)) (u := .ref d) rfl).put 3 (l := .v (.ref wq)) (u := .ref wq) rfl
  have hd2 : (upd (upd (upd H1 d (.dK [])) d (.dK (mergeK [] [(Sum.inl 0, V.int 0)]))) wq (.lst [V.int 0])) d = some (.dK [(Sum.inl 0, V.int 0)]) := by rw [upd_ne hdq, upd_same]; rfl
  have hw2 : (upd (upd (upd H1 d (.dK [])) d (.dK (mergeK [] [(Sum.inl 0, V.int 0)]))) wq (.lst [V.int 0])) wq = some (.lst ([0].map V.int)) := upd_same
  refine q_while (fun m σ' H' => ∃ (kvs : Kvs) (ws : List Int), m = mu kvs least.toNat ws ∧ mu kvs least.toNat ws ≤ 60000 ∧ LB least kvs ws ∧ H' d = some (.dK kvs) ∧ H' wq = some (.lst (ws.map V.int)) ∧ At K H [.v (.ref ip), .d (.int least), .v (.ref d), .v (.ref wq), .un, .un, .un, .un, .un] σ' H') _ ⟨_, [0], rfl, LB.mu0 l2, LB.first (by omega), hd2, hw2, a2⟩ ?_
  rintro m σ' H' ⟨kvs, ws, rfl, mb, b, hd, hw, a3⟩
  refine ⟨_, et_s (ev_neNil (ev_ints ((ev_var (a3).env (i := 3) rfl)) hw) (shp_ints ws) ev_nilL), fun hb H4 e4 => ?_, fun hb H4 e4 => ?_⟩
  · refine ⟨fun σ2 H2 => ∃ (kvs' : Kvs) (ws' : List Int), mu kvs' least.toNat ws' < mu kvs least.toNat ws ∧ LB least kvs' ws' ∧ H2 d = some (.dK kvs') ∧ H2 wq = some (.lst (ws'.map V.int)) ∧ At K H [.v (.ref ip), .d (.int least), .v (.ref d), .v (.ref wq), .un, .un, .un, .un, .un] σ2 H2,
      fun σ2 H2 ⟨kvs', ws', hm, b', h1, h2, h3⟩ => ⟨_, hm, kvs', ws', rfl, by omega, b', h1, h2, h3⟩, ?_⟩
    have hwne : ws ≠ [] := fun z => by rw [z] at hb; simp at hb
    obtain ⟨here, hhere⟩ : ∃ x, ws[ws.length - 1]? = some x := ⟨_, List.getElem?_eq_getElem (by have := List.length_pos_iff.mpr hwne; omega)⟩
    have hmem : here ∈ ws := List.mem_of_getElem? hhere
    have hw4 := e4 _ _ hw
    have hd4 := e4 _ _ hd
    refine q_pop (l := .d (.int here)) (a3.mono e4) ((ev_var ((a3.mono e4)).env (i := 3) rfl)) hw4 (y := .int here) (by rw [List.length_map, List.getElem?_map, hhere]; rfl) (fun _ => .int here) nw0 rfl fun σ5 H5 e5 a5 => ?_
    have hw5 := e5 _ _ hw4
    have hd5 := e5 _ _ hd4
    have hw6 : (upd H5 wq (.lst ((ws.map V.int).dropLast))) wq = some (.lst (ws.dropLast.map V.int)) := by rw [upd_same, List.map_dropLast]
    have hd6 : (upd H5 wq (.lst ((ws.map V.int).dropLast))) d = some (.dK kvs) := by rw [upd_ne hdq]; exact hd5
    have hmu : mu kvs least.toNat ws.dropLast + 1 = mu kvs least.toNat ws := by
      unfold mu
      rw [List.length_dropLast]
      have := List.length_pos_iff.mpr hwne
      omega
    refine s_for (src_kd2 (i := 5) (j := 6) (fk a5 rfl)) (fun H2 i σ' H' => ∃ (kvs' : Kvs) (ws' : List Int), mu kvs' least.toNat ws' + 1 ≤ mu kvs least.toNat ws ∧ LB least kvs' ws' ∧ (valV kvs' (Sum.inl here)).isSome = true ∧ H' d = some (.dK kvs') ∧ H' wq = some (.lst (ws'.map V.int)) ∧ ExT H2 H' ∧
        At K H [.v (.ref ip), .d (.int least), .v (.ref d), .v (.ref wq), .d (.int here), .un, .un, .un, .un] σ' H')
      (fun H2 e2 => ⟨kvs, ws.dropLast, by omega, b.pop, b.ws here hmem, e2 _ _ hd6, e2 _ _ hw6, ExT.refl _, a5.mono e2⟩) (fun _ _ _ _ _ h => by obtain ⟨_, _, _, _, _, _, _, h, _⟩ := h; exact h)
      (fun H2 i k σ' H' H'' us e2 hx h e3 hus => ?_) fun H2 σ' H' e2 h => ?_
    · obtain ⟨kvs', ws', hm, b', hh, hd', hw', hT, a6⟩ := h
      have gk := g k (List.mem_of_getElem? hx)
      have a7 := (a6.mono e3).putAll (js := [5, 6]) hus rfl
      obtain ⟨v, hv, v1, v2, v3, v4⟩ := b'.get hh
      refine q_asg a7 (ev_add (ev_dgetI ((ev_var (a7).env (i := 2) rfl)) ((ev_var (a7).env (i := 4) rfl)) (e3 _ _ hd') hv) ((ev_var (a7).env (i := 5) rfl))) fun σ8 H8 e8 a8 => ?_
      refine q_asg a8 (ev_mod ((ev_var (a8).env (i := 7) rfl)) ((ev_var (a8).env (i := 1) rfl)) (by omega)) fun σ9 H9 e9 a9 => ?_
      have e39 := (e3.trans e8).trans e9
      have hd9 := e39 _ _ hd'
      have hw9 := e39 _ _ hw'
      have r0 : 0 ≤ (v + k.1) % least := Int.emod_nonneg _ (by omega)
      have r1 : (v + k.1) % least < least := Int.emod_lt_of_pos _ (by omega)
      generalize hre : (v + k.1) % least = rest at *
      have hcase : ∃ c : Bool, EvT (tOr (tB (tDNotIn (tVar 8) (tVar 2))) (tTest (tOp (rI0 fun i j => .bl (decide (i < j))) (tVar 7) (tDGet (tVar 2) (tVar 8))))) σ9 H9 c ∧ (c = true → (valV kvs' (Sum.inl rest) = none ∧ v + k.1 ≤ 30 * (kvs'.length : Int)) ∨ ∃ old : Int, valV kvs' (Sum.inl rest) = some (.int old) ∧ v + k.1 < old) := by
        cases hvr : valV kvs' (Sum.inl rest) with
        | none =>
          have t1 := ev_dnotI ((ev_var (a9).env (i := 8) rfl)) ((ev_var (a9).env (i := 2) rfl)) hd9
          rw [hvr] at t1
          exact ⟨true || false, et_or (et_b t1) (fun z => nomatch z), fun _ => .inl ⟨rfl, by omega⟩⟩
        | some o =>
          obtain ⟨old, ho, _⟩ := b'.get (x := rest) (by rw [hvr]; rfl)
          have t1 := ev_dnotI ((ev_var (a9).env (i := 8) rfl)) ((ev_var (a9).env (i := 2) rfl)) hd9
          rw [hvr] at t1
          rw [hvr] at ho
          refine ⟨false || decide (v + k.1 < old), et_or (et_b t1) fun _ => et_s (ev_lt ((ev_var (a9).env (i := 7) rfl)) (ev_dgetI ((ev_var (a9).env (i := 2) rfl)) ((ev_var (a9).env (i := 8) rfl)) hd9 (by rw [hvr]; exact ho))), fun z => .inr ⟨old, ho, of_decide_eq_true (by simpa using z)⟩⟩
      obtain ⟨c, hc1, hc2⟩ := hcase
      refine s_if a9 hc1 (fun hc H10 e10 a10 => ?_) fun hc H10 e10 a10 => ?_
      · obtain ⟨b2, m2⟩ := b'.step l2 (ws := ws') r0 r1 (by omega : 0 ≤ v + k.1) (hc2 hc)
        have hd10 := e10 _ _ hd9
        have hw10 := e10 _ _ hw9
        have hfew := b'.few l2
        refine q_dputI a10 ((ev_var (a10).env (i := 7) rfl)) ((ev_var (a10).env (i := 2) rfl)) ((ev_var (a10).env (i := 8) rfl)) hd10 (by omega) nd0 rfl fun H13 e1013 a13 => ?_
        have hd13 := e1013 _ _ hd10
        have hw13 : (upd H13 d (.dK (putK kvs' (Sum.inl rest) (.int (v + k.1))))) wq = some (.lst (ws'.map V.int)) := by rw [upd_ne (Ne.symm hdq)]; exact e1013 _ _ hw10
        have T13 : ExT H13 (upd H13 d (.dK (putK kvs' (Sum.inl rest) (.int (v + k.1))))) := exT_upd hd13 (fun _ z => nomatch z) (fun _ _ z => nomatch z)
        have hlen : ws'.length < 1000000 := by
          have : ws'.length ≤ mu kvs' least.toNat ws' := by unfold mu; omega
          omega
        refine s_app hw13 ((ev_var (a13).env (i := 3) rfl)) ((ev_var (a13).env (i := 8) rfl)) (by rw [List.length_map]; exact hlen) fun x4 H14 e14 hx4 => ?_
        have hx4 : x4 = .int rest := dp_int hx4
        subst hx4
        have a14 := (a13.mono e14).wr (o := .lst (ws'.map V.int ++ [V.int rest])) nw0 (e14 _ _ hw13) (fun _ z => nomatch z) (fun _ _ z => nomatch z) rfl
        refine ⟨_, ws' ++ [rest], by omega, b2, ?_, ?_, ?_, ?_, (((a14.un 5).un 6).un 7).un 8⟩
        · rw [valV_put]
          split
          · rfl
          · exact hh
        · rw [upd_ne hdq]
          exact e14 _ _ upd_same
        · rw [upd_same, List.map_append]
          rfl
        · exact ((hT.trans (exT_of ((e39.trans e10).trans e1013))).trans T13).trans ((exT_of e14).trans (exT_lst (e14 _ _ hw13)))
      · exact ⟨kvs', ws', hm, b', hh, e10 _ _ hd9, e10 _ _ hw9, hT.trans (exT_of (e39.trans e10)), (((a10.un 5).un 6).un 7).un 8⟩
    · obtain ⟨kvs', ws', hm, b', hh, hd', hw', hT, a6⟩ := h
      exact ⟨kvs', ws', by omega, b', hd', hw', a6.un 4⟩
  · -- return (least, found)
    obtain ⟨is, i1, i2, i3⟩ := b.vals l2
    have a4 := a3.mono e4
    refine ((ev_var (a4).env (i := 1) rfl)) H4 (Ex.refl _) _ fun x1 H5 e5 hx1 => ((ev_var (a4).env (i := 2) rfl)) H5 e5 _ fun x2 H6 e6 hx2 => ⟨(show 2 ≤ sizeLine by decide), fun t nt => ?_⟩
    have hx1 : x1 = .int least := dp_int hx1
    have hx2 : x2 = .ref d := hx2
    subst hx1 hx2
    have hd6 := e6 _ _ (e5 _ _ (e4 _ _ hd))
    exact q t d least kvs is _ (by omega) l2 i1 i2 i3 ((a4.ex.trans (e5.trans e6)).trans (Ex.new nt)) ((Ex.new nt) _ _ hd6) upd_same
/-- least, found = self.least_by_rest() -/
theorem q_lbr {H0 H : Hp} {sl : List Sl} {σ : L2.St} {D : Ends} {tz : TS} {ta : TE} {i j : Nat} {E : XK} {ks : List Kd} {ip dx : Addr} {gs : List (Str × V)} {fl : List (Str × PyData)} (a : At K H0 sl σ H) (ha : EvS K ta σ H (.v (.ref ip))) (g : Good ks) (hk : ks.length ≤ 1000) (hne : ks ≠ [])
    (hi : H0 ip = some (.ins C dx gs)) (hf : Flds K H0 gs fl) (hfl : (("kinds" : Str), kdD ks) ∈ fl) (hnm : NoM gs)
    (k : ∀ d least kvs is σ1 H1, 0 ≤ least → least ≤ 30 → kvs.map (·.2) = is.map V.int → is ≠ [] → (∀ i ∈ is, 0 ≤ i ∧ i ≤ 900) → Ex H H1 → H1 d = some (.dK kvs) → At K H0 ((sl.set i (.d (.int least))).set j (.v (.ref d))) σ1 H1 → tz D σ1 H1) :
    tSeq (tAsg (tMeth C "least_by_rest" (SpLbr K C) [] E ta tNil) (gTup K 2 (gCons (gName i) (gCons (gName j) gNil)))) tz D σ H :=
  ha H (Ex.refl _) _ fun u H2 e2 hu => by
    have hu : u = .ref ip := hu
    subst hu
    refine ⟨ip, dx, gs, rfl, e2 _ _ (a.ex _ _ hi), hnm _ (by decide), ?_⟩
    refine ⟨ks, ip, dx, gs, g, hk, hne, rfl, e2 _ _ (a.ex _ _ hi), fun p hp => (hf.mono (a.ex.trans e2)) p (by rw [List.mem_singleton.mp hp]; exact hfl), hnm, fun t d least kvs is H3 l0 l1 i1 i2 i3 e3 hd ht => ?_⟩
    exact ⟨t, _, rfl, .of ht, rfl, _, _, rfl, _, _, rfl, rfl, k d least kvs is _ H3 l0 l1 i1 i2 i3 (e2.trans e3) hd ((((a.mono e2).mono e3).put i (l := .d (.int least)) (u := .int least) (.int least)).put j (l := .v (.ref d)) (u := .ref d) rfl)⟩
/-! regular_from -/
abbrev spRegular (K : PySem.W.Frag) (C : Addr) : Sp := SpI K C (α := List Kd × Int) (fun x => [("kinds", kdD x.1), ("divisor", .int x.2)]) (fun _ => []) (fun x => Good x.1 ∧ x.1.length ≤ 1000 ∧ 0 ≤ x.2 ∧ x.2 ≤ 1000) fun _ d => ∃ r, d = .int r ∧ -1000 ≤ r ∧ r ≤ 3000
theorem ok_regular (T : Tx w K mg C) (M_least_by_rest : Met P w K mg base 1 C "least_by_rest" (SpLbr K C) []) (F : Fun K "regular_from" "Loads.regular_from" s_m_regular_from f fd) : FnOk P w K mg base CX0 2 f fd p_m_regular_from (spRegular K C) := by
  refine run_meth F sc_m_regular_from (fun _ => rfl) fun cdv A outer s H vs Q E x ip dx gs hr hp hi hf hnm a q => ?_
  refine ⟨_, (pss_cons (ps_if (pt_cmpR (op_eqD hr.units) (pe_fld (pv 0) rfl) (pe_tup pa_nil) (nomark _))
(pss_one (ps_ret pe_int))
pss_nil)
(pss_cons (ps_asg (pe_mt0 M_least_by_rest hr (by decide) (pv 0)) (pg_tup rfl (pgs_cons (pg_name (i := 1) sc_m_regular_from.nd rfl (.inl rfl)) (pgs_cons (pg_name (i := 2) sc_m_regular_from.nd rfl (.inl rfl)) pgs_nil))))
(pss_one (ps_ret (pe_op op_add (pe_op op_sub (pe_maxVals rfl (pv 2) (by rfl) T.b_max bt_max) (pv 1)) (pe_fld (pv 0) rfl)))))), ?_⟩
  obtain ⟨ks, dv⟩ := x
  obtain ⟨g, hk, hd0, hd1⟩ := hp
  have hd0 : 0 ≤ dv := hd0
  have hd1 : dv ≤ 1000 := hd1
  have a : At K H [.v (.ref ip), .un, .un] (start n_m_regular_from vs) H := a
  have hf : Flds K H gs [("kinds", kdD ks), ("divisor", .int dv)] := hf
  have fk : ∀ {σ1 : L2.St} {H1 : Hp} {sl : List Sl}, At K H sl σ1 H1 → sl[0]? = some (.v (.ref ip)) → EvS K (tFld K (tVar 0) "kinds") σ1 H1 (.d (kdD ks)) := fun a1 h => ev_f T (ev_var a1.env h) a1.ex hi hf (by simp)
  refine q_when a (et_s (ev_eqNilT (fk a rfl) (shp_kd ks) ev_nilT)) (fun hb H1 e1 a1 => ?_) fun hb H1 e1 a1 => ?_
  · exact s_ret ev_int fun u H2 e2 hu => q _ _ _ ⟨1, rfl, by decide, by decide⟩ (a1.ex.trans e2) hu
  have hne : ks ≠ [] := fun z => by rw [z] at hb; simp at hb
  refine q_lbr a1 ((ev_var (a1).env (i := 0) rfl)) g hk hne hi hf (by simp) hnm fun d least kvs is σ3 H3 l0 l1 i1 i2 i3 e3 hd a3 => ?_
  have fdv := ev_f T (f := "divisor") (d := .int dv) ((ev_var (a3).env (i := 0) rfl)) a3.ex hi hf (by simp)
  have hmx := i3 _ (lmax_mem i2)
  exact s_ret (ev_add (ev_sub (ev_maxVals ((ev_var (a3).env (i := 2) rfl)) hd i1 i2) ((ev_var (a3).env (i := 1) rfl))) fdv) fun u H4 e4 hu => q _ _ _ ⟨_, rfl, by omega, by omega⟩ (a3.ex.trans e4) hu
end
end Wk

set_option maxHeartbeats 200000
set_option Elab.async false
set_option linter.all false
set_option maxRecDepth 100000
set_option maxHeartbeats 1000000
/-! WrM5: Loads.__init__. -/
namespace Wk
open PySem PySem.Spec PyProof.Rows L2 Evl Wr
open C8 (Cal pe_c Met pe_mt pe_mt0 Mak pe_mk)
section
variable {K : PySem.W.Frag} {H H' : Hp}
mutual
theorem dp_gen (hL : ∀ a xs, SqL K H a xs → SqL K H' a xs) (hT : ∀ a xs, SqT K H a xs → SqT K H' a xs) : ∀ (d : PyData) {v : V}, Dp K H v d → Dp K H' v d
  | .none, _, .non => .non
  | .bool b, _, .bl _ => .bl b
  | .int i, _, .int _ => .int i
  | .str x, _, .str _ => .str x
  | .list ds, _, .lst h r => .lst (hL _ _ h) (dpa_gen hL hT ds r)
  | .tuple ds, _, .tup h r => .tup (hT _ _ h) (dpa_gen hL hT ds r)
theorem dpa_gen (hL : ∀ a xs, SqL K H a xs → SqL K H' a xs) (hT : ∀ a xs, SqT K H a xs → SqT K H' a xs) : ∀ (ds : List PyData) {vs : List V}, DpAll K H vs ds → DpAll K H' vs ds
  | [], _, .nil => .nil
  | d :: ds, _, .cons h r => .cons (dp_gen hL hT d h) (dpa_gen hL hT ds r)
end
/-- data where an instance is written -/
theorem dp_B {p C dx : Addr} {gs : List (Str × V)} (e : ExB p H H') (hp : H p = some (.ins C dx gs)) {v : V} {d : PyData} (h : Dp K H v d) : Dp K H' v d := by
  refine dp_gen (fun a xs q => ?_) (fun a xs q => ?_) d h
  · rcases q with (q | ⟨o, q⟩) | q
    · exact .inl (.inl (e a _ (fun z => by subst z; rw [hp] at q; cases q) q))
    · exact .inl (.inr ⟨o, e a _ (fun z => by subst z; rw [hp] at q; cases q) q⟩)
    · exact .inr q
  · rcases q with (q | ⟨o, q⟩) | q
    · exact .inl (.inl (e a _ (fun z => by subst z; rw [hp] at q; cases q) q))
    · exact .inl (.inr ⟨o, e a _ (fun z => by subst z; rw [hp] at q; cases q) q⟩)
    · exact .inr q
theorem flds_put {p C dx : Addr} {gs : List (Str × V)} {fl fl' : List (Str × PyData)} {f : Str} {u : V} {d : PyData} (hf : Flds K H gs fl) (hu : Dp K H u d) (hp : H p = some (.ins C dx gs)) (h : ∀ q ∈ fl', q = (f, d) ∨ (q.1 ≠ f ∧ q ∈ fl)) :
    Flds K (upd H p (.ins C dx (putF f u gs))) (putF f u gs) fl' := fun q hq => by
  rcases h q hq with rfl | ⟨hn, hm⟩
  · exact ⟨u, by rw [lookup_putF, if_pos rfl], dp_B .upd hp hu⟩
  · obtain ⟨v, h1, h2⟩ := hf q hm
    exact ⟨v, by rw [lookup_putF, if_neg hn]; exact h1, dp_B .upd hp h2⟩
theorem noM_put {gs : List (Str × V)} {f : Str} {u : V} (h : NoM gs) (hn : f ∉ meths) : NoM (putF f u gs) := fun m hm => by
  rw [lookup_putF, if_neg (fun z : m = f => hn (z ▸ hm))]
  exact h m hm
theorem putF_same {gs : List (Str × V)} {f : Str} {u v : V} (h : gs.lookup f = some v) : (putF f u gs).length = gs.length := by
  induction gs with
  | nil => cases h
  | cons p r ih =>
    obtain ⟨g, x⟩ := p
    unfold putF
    by_cases e : g = f
    · rw [if_pos e]
      rfl
    · rw [if_neg e, List.length_cons, List.length_cons]
      rw [ih]
      have hb : (f == g) = false := beq_eq_false_iff_ne.mpr (fun z => e z.symm)
      simp only [List.lookup, hb] at h
      exact h
end
/-! ### an instance that is filled -/
abbrev fldN : List Str := ["kinds", "divisor", "regular", "near", "slim", "slim_bound", "weights", "rich", "rich_bound", "lengths"]
structure InSt (K : PySem.W.Frag) (H0 : Hp) (sl : List Sl) (p C dx : Addr) (n : Nat) (gs : List (Str × V)) (fl : List (Str × PyData)) (σ : L2.St) (H : Hp) : Prop where
  at_ : At K H0 sl σ H
  ins : H p = some (.ins C dx gs)
  flds : Flds K H gs fl
  nom : NoM gs
  len : gs.length ≤ n
section
variable {K : PySem.W.Frag} {w : World} {mg : Str → Option Value} {H0 H H' : Hp} {sl : List Sl} {p C dx : Addr} {n : Nat} {gs : List (Str × V)} {fl fl' : List (Str × PyData)} {σ : L2.St} {ta tb : TE} {D : Ends} {tz : TS} {f : Str}
theorem InSt.mono (S : InSt K H0 sl p C dx n gs fl σ H) (e : Ex H H') : InSt K H0 sl p C dx n gs fl σ H' := ⟨S.at_.mono e, e _ _ S.ins, S.flds.mono e, S.nom, S.len⟩
/-- o.f = e -/
theorem i_fldX {Φ : PyData → Prop} (T : Tx w K mg C) (S : InSt K H0 sl p C dx n gs fl σ H) (hp0 : H0 p = none) (hsl : sl.all noLS = true) (hn : n < 900) (hv : EvX K tb σ H Φ) (ha : EvS K ta σ H (.v (.ref p)))
    (k : ∀ d gs' H1, Φ d → (∀ m, (n + 1 = m ∨ (n = m ∧ ∃ d0, (f, d0) ∈ fl)) → ∀ fl', (∀ q ∈ fl', q = (f, d) ∨ (q.1 ≠ f ∧ q ∈ fl)) → InSt K H0 sl p C dx m gs' fl' σ H1) → ExT H H1 → ExB p H H1 → tz D σ H1) (hf : f ∈ fldN := by decide) (hm : f ∉ meths := by decide) : tSeq (sFld K ta tb f) tz D σ H :=
  hv H (Ex.refl H) _ fun u d H1 hΦ e1 hu => ha H1 e1 _ fun w' H2 e2 hw => by
    have i2 := e2 _ _ (e1 _ _ S.ins)
    have hu2 := dp_mono e2 _ hu
    refine ⟨p, C, dx, gs, hw, i2, T.cls, T.nat f hf, Nat.lt_of_le_of_lt S.len (by omega), k d (putF f u gs) _ hΦ (fun m hm' fl' h => ⟨?_, upd_same, flds_put (S.flds.mono (e1.trans e2)) hu2 i2 h, noM_put S.nom hm, ?_⟩) ((exT_of (e1.trans e2)).trans (exT_ins i2)) ((ExB.of (e1.trans e2)).trans .upd)⟩
    · exact ⟨((S.at_.mono (e1.trans e2)).ex.mut hp0), (S.at_.mono (e1.trans e2)).env.monoT (exT_ins i2) hsl⟩
    · rcases hm' with rfl | ⟨rfl, d0, h0⟩
      · exact Nat.le_trans (length_putF _ _ _) (Nat.succ_le_succ S.len)
      · obtain ⟨v, hv', _⟩ := S.flds _ h0
        rw [putF_same hv']
        exact S.len
theorem s_fldX {Φ : PyData → Prop} (T : Tx w K mg C) (S : InSt K H0 sl p C dx n gs fl σ H) (hp0 : H0 p = none) (hsl : sl.all noLS = true) (hn : n < 900) (hv : EvX K tb σ H Φ) (ha : EvS K ta σ H (.v (.ref p)))
    (k : ∀ d gs' H1, Φ d → (∀ m, (n + 1 = m ∨ (n = m ∧ ∃ d0, (f, d0) ∈ fl)) → ∀ fl', (∀ q ∈ fl', q = (f, d) ∨ (q.1 ≠ f ∧ q ∈ fl)) → InSt K H0 sl p C dx m gs' fl' σ H1) → ExT H H1 → ExB p H H1 → D.nx σ H1) (hf : f ∈ fldN := by decide) (hm : f ∉ meths := by decide) : sFld K ta tb f D σ H := i_fldX (D := D) (tz := fun D => D.nx) T S hp0 hsl hn hv ha k hf hm
end
section
variable {P : Program} {w : World} {K : PySem.W.Frag} {mg : Str → Option Value} {base : Heap} {C f : Addr} {fd : FuncData}
def gcdF (ks : List Kd) : Nat := ks.foldl (fun g k => Nat.gcd g k.1.toNat) 0
theorem gcd_fold : ∀ (l : List Kd) (g : Nat), (l.foldl (fun g k => Nat.gcd g k.1.toNat) g) ∣ g ∧ ∀ k ∈ l, (l.foldl (fun g k => Nat.gcd g k.1.toNat) g) ∣ k.1.toNat
  | [], g => ⟨Nat.dvd_refl g, fun _ h => nomatch h⟩
  | k :: l, g => by
    obtain ⟨h1, h2⟩ := gcd_fold l (Nat.gcd g k.1.toNat)
    refine ⟨Nat.dvd_trans h1 (Nat.gcd_dvd_left _ _), fun x hx => ?_⟩
    rcases List.mem_cons.mp hx with rfl | hx
    · exact Nat.dvd_trans h1 (Nat.gcd_dvd_right _ _)
    · exact h2 x hx
theorem gcd_dvd {ks : List Kd} (g : Good ks) : ∀ k ∈ ks, ((gcdF ks : Nat) : Int) ∣ k.1 := fun k hk => by
  have h := (gcd_fold ks 0).2 k hk
  have gk := g k hk
  have := Int.natCast_dvd_natCast.mpr h
  rwa [Int.toNat_of_nonneg (by omega)] at this
theorem gcd_pos {ks : List Kd} (g : Good ks) (hne : ks ≠ []) : 0 < gcdF ks ∧ gcdF ks ≤ 30 := by
  cases ks with
  | nil => exact absurd rfl hne
  | cons k r =>
    have h := (gcd_fold (k :: r) 0).2 k List.mem_cons_self
    have gk := g k List.mem_cons_self
    have hp := Nat.pos_of_dvd_of_pos h (by omega)
    have hl := Nat.le_of_dvd (by omega) h
    exact ⟨hp, Nat.le_trans hl (by omega)⟩
def maxK (f : Kd → Int) (ks : List Kd) : Int := lmax (0 :: ks.map f)
theorem maxK_ok {f : Kd → Int} {ks : List Kd} (h : ∀ k ∈ ks, 0 ≤ f k ∧ f k ≤ 30) : 0 ≤ maxK f ks ∧ maxK f ks ≤ 30 ∧ ∀ k ∈ ks, f k ≤ maxK f ks := by
  refine ⟨le_lmax List.mem_cons_self, ?_, fun k hk => le_lmax (List.mem_cons_of_mem _ (List.mem_map.mpr ⟨k, hk, rfl⟩))⟩
  rcases List.mem_cons.mp (lmax_mem (ns := 0 :: ks.map f) (List.cons_ne_nil _ _)) with e | e
  · unfold maxK
    rw [e]
    decide
  · obtain ⟨k, hk, e⟩ := List.mem_map.mp e
    unfold maxK
    rw [← e]
    exact (h k hk).2
def SpInit (K : PySem.W.Frag) (C : Addr) : Sp := fun vs H Q _ => ∃ (ks : List Kd) (a dx : Addr) (u : V), Good ks ∧ ks.length ≤ 1000 ∧ vs = [.ref a, u] ∧ H a = some (.ins C dx []) ∧ Dp K H u (kdD ks) ∧
  ∀ (L : LdX) gs H', L.ks = ks → L.Ok → Flds K H' gs L.fs → NoM gs → H' a = some (.ins C dx gs) → ExB a H H' → Q .non H'
theorem prod_nat {a b : Int} (h1 : 0 ≤ a ∧ a ≤ 30) (h2 : 0 ≤ b ∧ b ≤ 30) : 0 ≤ a * b ∧ a * b ≤ 900 :=
  ⟨Int.mul_nonneg h1.1 h2.1, Int.le_trans (Int.mul_le_mul h1.2 h2.2 h2.1 (by decide)) (by decide)⟩
theorem ok_init (T : Tx w K mg C) (G_common_divisor : Cal P w K mg base 1 "common_divisor" (spDiv K) []) (M_regular_from : Met P w K mg base 2 C "regular_from" (spRegular K C) []) (M_floors : Met P w K mg base 1 C "floors" (spFloorsM K C) [])
    (M_slimmest : Met P w K mg base 1 C "slimmest" (spSlimmest K C) []) (M_lightest_up_to : Met P w K mg base 2 C "lightest_up_to" (spLightestUp K C) []) (M_richest : Met P w K mg base 1 C "richest" (spRichest K C) []) (M_longest_up_to : Met P w K mg base 1 C "longest_up_to" (spLongestUp K C) [])
    (F : Fun K "__init__" "Loads.__init__" s_m_init f fd) : FnOk P w K mg base CX0 3 f fd p_m_init (SpInit K C) := by
  refine F.ok sc_m_init (fun vs H Q E h => by obtain ⟨ks, a, dx, u, _, _, rfl, _⟩ := h; rfl) fun cdv A outer s H vs Q E hr h => ?_
  obtain ⟨ks, p, dx, u, g, hk, rfl, hi, hu, q⟩ := h
  refine ⟨_, (pss_cons (ps_fld (pv 0) (pv 1) rfl)
(pss_cons (ps_fld (pv 0) pe_int rfl)
(pss_cons (ps_for PassesOwn.never rfl (pi_tup (pv 1)) (pg_tup rfl (pgs_cons (pg_name (i := 2) sc_m_init.nd rfl (.inl rfl)) (pgs_cons (pg_name (i := 3) sc_m_init.nd rfl (.inl rfl)) pgs_nil)))
(pss_one (ps_fld (pv 0) (pe_c G_common_divisor hr (by decide) (by rfl) (pa_cons (pe_fld (pv 0) rfl) (pa_cons (pv 2) pa_nil))) rfl)))
(pss_cons (ps_fld (pv 0) (pe_mt0 M_regular_from hr (by decide) (pv 0)) rfl)
(pss_cons (ps_fld (pv 0) (pe_mt M_floors hr (by decide) (pv 0) (pa_cons (pe_op op_add (pe_fld (pv 0) rfl) pe_int) pa_nil)) rfl)
(pss_cons (ps_fld (pv 0) (pe_mt0 M_slimmest hr (by decide) (pv 0)) rfl)
(pss_cons (ps_fld (pv 0) (pe_op op_mul (pe_ix (ix_seqK (K := K)) (pe_fld (pv 0) rfl) pe_int (fun _ _ => rfl)) (pe_callB (cr_max rfl) (by rfl) T.b_max bt_max (pa_cons (pe_op op_cat (pe_lst (pa_cons pe_int pa_nil)) (pe_lc (own := [("length", 2), ("weight", 3)]) (g := gTup K 2 (gCons (gName 2) (gCons (gName 3) (gNil)))) (tt := tYes) rfl sc_m_init.nd (pi_tup (pv 1)) (blkOk_by (N := n_m_init) (sc := defScope s_m_init) (by decide +kernel)) (fun _ _ _ _ _ => (pg_tup rfl (pgs_cons (pg_name (i := 2) sc_m_init.nd rfl (.inl rfl)) (pgs_cons (pg_name (i := 3) sc_m_init.nd rfl (.inl rfl)) pgs_nil)))) (fun _ _ _ _ _ => pts_nil) (fun _ _ _ _ _ => (pv 2)))) pa_nil))) rfl)
(pss_cons (ps_fld (pv 0) (pe_mt M_lightest_up_to hr (by decide) (pv 0) (pa_cons (pe_fld (pv 0) rfl) pa_nil)) rfl)
(pss_cons (ps_fld (pv 0) (pe_mt0 M_richest hr (by decide) (pv 0)) rfl)
(pss_cons (ps_fld (pv 0) (pe_op op_mul (pe_ix (ix_seqK (K := K)) (pe_fld (pv 0) rfl) pe_int (fun _ _ => rfl)) (pe_callB (cr_max rfl) (by rfl) T.b_max bt_max (pa_cons (pe_op op_cat (pe_lst (pa_cons pe_int pa_nil)) (pe_lc (own := [("length", 2), ("weight", 3)]) (g := gTup K 2 (gCons (gName 2) (gCons (gName 3) (gNil)))) (tt := tYes) rfl sc_m_init.nd (pi_tup (pv 1)) (blkOk_by (N := n_m_init) (sc := defScope s_m_init) (by decide +kernel)) (fun _ _ _ _ _ => (pg_tup rfl (pgs_cons (pg_name (i := 2) sc_m_init.nd rfl (.inl rfl)) (pgs_cons (pg_name (i := 3) sc_m_init.nd rfl (.inl rfl)) pgs_nil)))) (fun _ _ _ _ _ => pts_nil) (fun _ _ _ _ _ => (pv 3)))) pa_nil))) rfl)
(pss_one (ps_fld (pv 0) (pe_mt M_longest_up_to hr (by decide) (pv 0) (pa_cons (pe_fld (pv 0) rfl) pa_nil)) rfl)))))))))))), ?_⟩
  -- the heap without the instance
  have h00 : ∃ H0 : Hp, H0 p = none ∧ Ex H0 H ∧ (∀ b o, b ≠ p → H b = some o → H0 b = some o) := ⟨fun b => if b = p then none else H b, if_pos rfl, fun b o e => by
    by_cases z : b = p
    · simp [z] at e
    · simpa [z] using e, fun b o z e => by simpa [z] using e⟩
  obtain ⟨H0, hp0, hex, hB0⟩ := h00
  have hu0 : Dp K H0 u (kdD ks) := dp_B (p := p) hB0 hi hu
  have at0 : At K H0 [.v (.ref p), .v u, .un, .un] (start n_m_init [.ref p, u]) H := ⟨hex, (At.here (N := n_m_init) (HdAll.cons (K := K) (H := H) (l := .v (.ref p)) rfl (HdAll.cons (l := .v u) rfl .nil))).env⟩
  have S0 : InSt K H0 [.v (.ref p), .v u, .un, .un] p C dx 0 [] [] (start n_m_init [.ref p, u]) H := ⟨at0, hi, (fun _ h => nomatch h), (fun _ _ => rfl), Nat.le_refl _⟩
  have kv : ∀ {σ1 : L2.St} {H1 : Hp} {sl : List Sl}, At K H0 sl σ1 H1 → sl[1]? = some (.v u) → EvS K (tVar 1) σ1 H1 (.d (kdD ks)) := fun a1 h => ev_at (ev_var a1.env h) hu0 a1.ex
  -- self.kinds = kinds; self.divisor = 0
  refine i_fldX T S0 hp0 rfl (by decide) (kv S0.at_ rfl).toX ((ev_var (S0.at_).env (i := 0) rfl)) fun d1 gs1 H1 hd1 S1 t1 b1 => ?_
  subst hd1
  have S1 := S1 1 (.inl rfl) [("kinds", kdD ks)] (by refine List.forall_mem_cons.mpr ⟨.inl rfl, ?_⟩; repeat (first | exact (fun _ h => absurd h List.not_mem_nil) | refine List.forall_mem_cons.mpr ⟨.inr ⟨by dsimp only; decide, by simp⟩, ?_⟩))
  refine i_fldX T S1 hp0 rfl (by decide) (ev_int (i := 0)).toX ((ev_var (S1.at_).env (i := 0) rfl)) fun d2 gs2 H2 hd2 S2 t2 b2 => ?_
  subst hd2
  have S2 := S2 2 (.inl rfl) [("divisor", .int ((0 : Nat) : Int)), ("kinds", kdD ks)] (by refine List.forall_mem_cons.mpr ⟨.inl rfl, ?_⟩; repeat (first | exact (fun _ h => absurd h List.not_mem_nil) | refine List.forall_mem_cons.mpr ⟨.inr ⟨by dsimp only; decide, by simp⟩, ?_⟩))
  -- the divisor
  refine q_for (src_kd2 (i := 2) (j := 3) (kv S2.at_ rfl)) (fun H3 i σ' H' => ExT H3 H' ∧ ExB p H2 H' ∧ ∃ gs', InSt K H0 [.v (.ref p), .v u, .un, .un] p C dx 2 gs' [("divisor", .int (((ks.take i).foldl (fun g k => Nat.gcd g k.1.toNat) 0 : Nat) : Int)), ("kinds", kdD ks)] σ' H')
    (fun H3 e3 => ⟨ExT.refl _, .of e3, gs2, S2.mono e3⟩) (fun _ _ _ _ _ h => h.1) (fun H3 i k σ' H' H'' us e3 hx ⟨hT, hB, gs', S⟩ e4 hus => ?_) fun H3 σ' H' e3 ⟨hT, hB, gs3, S3⟩ => ?_
  · have gk := g k (List.mem_of_getElem? hx)
    have S := S.mono e4
    have a4 := S.at_.putAll (js := [2, 3]) hus rfl
    have S' : InSt K H0 _ p C dx 2 gs' _ _ H'' := ⟨a4, S.ins, S.flds, S.nom, S.len⟩
    have hdv := ev_f T (f := "divisor") (d := .int (((ks.take i).foldl (fun g k => Nat.gcd g k.1.toNat) 0 : Nat) : Int)) ((ev_var (a4).env (i := 0) rfl)) (Ex.refl _) S.ins S.flds List.mem_cons_self
    have hcall := evD (K := K) (x := ((ks.take i).foldl (fun g k => Nat.gcd g k.1.toNat) 0, k.1.toNat)) (enc := fun x : Nat × Nat => [.int x.1, .int x.2]) (Pre := fun _ => True) (r := fun x => .int (Nat.gcd x.1 x.2 : Nat)) (ea_cons hdv (ea_cons (ev_cast ((ev_var (a4).env (i := 2) rfl)) (by rw [Int.toNat_of_nonneg (by omega)])) ea_nil)) trivial
    refine s_fldX T S' hp0 rfl (by decide) hcall.toX ((ev_var (a4).env (i := 0) rfl)) fun d5 gs5 H5 hd5 S5 t5 b5 => ?_
    subst hd5
    have S5 := S5 2 (.inr ⟨rfl, _, List.mem_cons_self⟩) [("divisor", .int ((Nat.gcd ((ks.take i).foldl (fun g k => Nat.gcd g k.1.toNat) 0) k.1.toNat : Nat) : Int)), ("kinds", kdD ks)] (by refine List.forall_mem_cons.mpr ⟨.inl rfl, ?_⟩; repeat (first | exact (fun _ h => absurd h List.not_mem_nil) | refine List.forall_mem_cons.mpr ⟨.inr ⟨by dsimp only; decide, by simp⟩, ?_⟩))
    refine ⟨(hT.trans (exT_of e4)).trans t5, (hB.trans (.of e4)).trans b5, gs5, ⟨(S5.at_.un 2).un 3, S5.ins, ?_, S5.nom, S5.len⟩⟩
    rw [fold_take hx]
    exact S5.flds
  rw [List.take_length] at S3
  have S3 : InSt K H0 [.v (.ref p), .v u, .un, .un] p C dx 2 gs3 [("divisor", .int (gcdF ks : Nat)), ("kinds", kdD ks)] σ' H' := S3
  have hg30 : gcdF ks ≤ 30 := by
    by_cases z : ks = []
    · subst z
      decide
    · exact (gcd_pos g z).2
  -- self.regular = self.regular_from()
  have m4 := exM (K := K) (C := C) (x := (ks, ((gcdF ks : Nat) : Int))) (fs := fun x : List Kd × Int => [("kinds", kdD x.1), ("divisor", .int x.2)]) (enc := fun _ => []) (Pre := fun x => Good x.1 ∧ x.1.length ≤ 1000 ∧ 0 ≤ x.2 ∧ x.2 ≤ 1000) (Φ := fun _ d => ∃ r, d = .int r ∧ -1000 ≤ r ∧ r ≤ 3000) (m := "regular_from") ((ev_var (S3.at_).env (i := 0) rfl)) (Ex.refl _) S3.ins S3.flds S3.nom ea_nil ⟨g, hk, by show (0 : Int) ≤ ((gcdF ks : Nat) : Int); omega, by show ((gcdF ks : Nat) : Int) ≤ 1000; omega⟩ (by simp)
  refine i_fldX T S3 hp0 rfl (by decide) m4 ((ev_var (S3.at_).env (i := 0) rfl)) fun d4 gs4 H4 hd4 S4 t4 b4 => ?_
  obtain ⟨r, rfl, r0, r1⟩ := hd4
  have S4 := S4 3 (.inl rfl) [("regular", .int r), ("divisor", .int (gcdF ks : Nat)), ("kinds", kdD ks)] (by refine List.forall_mem_cons.mpr ⟨.inl rfl, ?_⟩; repeat (first | exact (fun _ h => absurd h List.not_mem_nil) | refine List.forall_mem_cons.mpr ⟨.inr ⟨by dsimp only; decide, by simp⟩, ?_⟩))
  -- self.near = self.floors(self.regular + 1)
  have hrg := ev_f T (f := "regular") (d := .int r) ((ev_var (S4.at_).env (i := 0) rfl)) (Ex.refl _) S4.ins S4.flds List.mem_cons_self
  have m5 := evM (K := K) (C := C) (x := (ks, r + 1)) (fs := fun x : List Kd × Int => kF x.1) (enc := fun x => [.int x.2]) (Pre := fun x => Good x.1 ∧ x.1.length ≤ 1000 ∧ -5000 ≤ x.2 ∧ x.2 ≤ 5000) (r := fun x => .list ((nearF x.1 x.2.toNat).map .int)) (m := "floors") ((ev_var (S4.at_).env (i := 0) rfl)) (Ex.refl _) S4.ins S4.flds S4.nom (ea_cons (ev_add hrg ev_int) ea_nil) ⟨g, hk, by show -5000 ≤ r + 1; omega, by show r + 1 ≤ 5000; omega⟩ (by simp)
  refine i_fldX T S4 hp0 rfl (by decide) m5.toX ((ev_var (S4.at_).env (i := 0) rfl)) fun d5 gs5 H5 hd5 S5 t5 b5 => ?_
  subst hd5
  have S5 := S5 4 (.inl rfl) [("near", .list ((nearF ks (r + 1).toNat).map .int)), ("divisor", .int (gcdF ks : Nat)), ("kinds", kdD ks)] (by refine List.forall_mem_cons.mpr ⟨.inl rfl, ?_⟩; repeat (first | exact (fun _ h => absurd h List.not_mem_nil) | refine List.forall_mem_cons.mpr ⟨.inr ⟨by dsimp only; decide, by simp⟩, ?_⟩))
  -- self.slim = self.slimmest()
  have m6 := evM (K := K) (C := C) (x := ks) (fs := kF) (enc := fun _ => []) (Pre := fun ks => Good ks ∧ ks.length ≤ 1000) (r := fun ks => pr (slimmestF ks)) (m := "slimmest") ((ev_var (S5.at_).env (i := 0) rfl)) (Ex.refl _) S5.ins S5.flds S5.nom ea_nil ⟨g, hk⟩ (by simp)
  refine i_fldX T S5 hp0 rfl (by decide) m6.toX ((ev_var (S5.at_).env (i := 0) rfl)) fun d6 gs6 H6 hd6 S6 t6 b6 => ?_
  subst hd6
  have S6 := S6 5 (.inl rfl) [("slim", pr (slimmestF ks)), ("near", .list ((nearF ks (r + 1).toNat).map .int)), ("divisor", .int (gcdF ks : Nat)), ("kinds", kdD ks)] (by refine List.forall_mem_cons.mpr ⟨.inl rfl, ?_⟩; repeat (first | exact (fun _ h => absurd h List.not_mem_nil) | refine List.forall_mem_cons.mpr ⟨.inr ⟨by dsimp only; decide, by simp⟩, ?_⟩))
  have hsl : 0 ≤ (slimmestF ks).1 ∧ (slimmestF ks).1 ≤ 30 := by
    by_cases z : ks = []
    · subst z
      decide
    · have := g _ (slimmest_ok g z).1
      omega
  -- self.slim_bound
  have mL := maxK_ok (f := (·.1)) (ks := ks) fun k hk' => by have := g k hk'; omega
  have mW := maxK_ok (f := (·.2)) (ks := ks) fun k hk' => by have := g k hk'; omega
  have lc : ∀ {σ1 : L2.St} {H1 : Hp} (te : TE) (f : Kd → Int) (i : Nat), At K H0 [.v (.ref p), .v u, .un, .un] σ1 H1 → (∀ k ∈ ks, ∀ σ' H', Ex H1 H' → Env K H' (setS (wipeS [.v (.ref p), .v u, .un, .un] [2, 3]) [2, 3] [.d (.int k.1), .d (.int k.2)]) σ' → EvS K te σ' H' (.d (.int (f k)))) →
      EvS K (tCB (rMax K) (tCons (tOp rCat (tLst (tCons (tC (.int 0)) tNil)) (tLc (iTup K (tVar 1)) (gTup K 2 (gCons (gName 2) (gCons (gName 3) gNil))) tYes te [2, 3])) tNil)) σ1 H1 (.d (.int (maxK f ks))) := fun {σ1 H1} te f i a1 he =>
    ev_max (ns := 0 :: ks.map f) (en_cast (en_cat (en_lst (ds := [.int 0]) (ea_cons ev_int ea_nil) (by decide : 1 ≤ 100000)) (en_lcA (vs := [2, 3]) (fun k : Kd => .int (f k)) (src_kd2 (i := 2) (j := 3) (kv a1 rfl)) a1.env (Nat.le_trans hk (by decide)) (by decide) (fun _ _ => rfl) he) (by rw [List.length_map]; show 1 + ks.length ≤ 100000; omega)) (by rw [List.map_cons, List.map_map]; rfl)).toS (List.cons_ne_nil _ _)
  have hs1 := ev_f T (f := "slim") (d := pr (slimmestF ks)) ((ev_var (S6.at_).env (i := 0) rfl)) (Ex.refl _) S6.ins S6.flds List.mem_cons_self
  obtain ⟨pn1, pn2⟩ := prod_nat hsl ⟨mL.1, mL.2.1⟩
  have hmul := ev_mul (ev_ixT hs1 (ev_int (i := 0)) (d := .int (slimmestF ks).1) rfl) (lc (tVar 2) (·.1) 2 S6.at_ fun k _ σ' H' _ en => (ev_var en (i := 2) rfl)) (small_mul ⟨hsl.1, by omega⟩)
  generalize hbb : (slimmestF ks).1 * maxK (·.1) ks = bb at *
  obtain ⟨bn, rfl⟩ := Int.eq_ofNat_of_zero_le pn1
  refine i_fldX T S6 hp0 rfl (by decide) hmul.toX ((ev_var (S6.at_).env (i := 0) rfl)) fun d7 gs7 H7 hd7 S7 t7 b7 => ?_
  subst hd7
  have S7 := S7 6 (.inl rfl) [("slim_bound", .int (bn : Nat)), ("slim", pr (slimmestF ks)), ("near", .list ((nearF ks (r + 1).toNat).map .int)), ("divisor", .int (gcdF ks : Nat)), ("kinds", kdD ks)] (by refine List.forall_mem_cons.mpr ⟨.inl rfl, ?_⟩; repeat (first | exact (fun _ h => absurd h List.not_mem_nil) | refine List.forall_mem_cons.mpr ⟨.inr ⟨by dsimp only; decide, by simp⟩, ?_⟩))
  -- self.weights
  have hsb := ev_f T (f := "slim_bound") (d := .int (bn : Nat)) ((ev_var (S7.at_).env (i := 0) rfl)) (Ex.refl _) S7.ins S7.flds List.mem_cons_self
  have m8 := evM (K := K) (C := C) (x := (ks, bn)) (fs := fun x : List Kd × Nat => kF x.1) (enc := fun x => [.int (x.2 : Nat)]) (Pre := tabP) (r := fun x => .list ((slimF x.1 x.2).map opD)) (m := "lightest_up_to") ((ev_var (S7.at_).env (i := 0) rfl)) (Ex.refl _) S7.ins S7.flds S7.nom (ea_cons hsb ea_nil) ⟨g, hk, by show bn ≤ 5000; omega⟩ (by simp)
  refine i_fldX T S7 hp0 rfl (by decide) m8.toX ((ev_var (S7.at_).env (i := 0) rfl)) fun d8 gs8 H8 hd8 S8 t8 b8 => ?_
  subst hd8
  have S8 := S8 7 (.inl rfl) [("weights", .list ((slimF ks bn).map opD)), ("slim_bound", .int (bn : Nat)), ("slim", pr (slimmestF ks)), ("near", .list ((nearF ks (r + 1).toNat).map .int)), ("divisor", .int (gcdF ks : Nat)), ("kinds", kdD ks)] (by refine List.forall_mem_cons.mpr ⟨.inl rfl, ?_⟩; repeat (first | exact (fun _ h => absurd h List.not_mem_nil) | refine List.forall_mem_cons.mpr ⟨.inr ⟨by dsimp only; decide, by simp⟩, ?_⟩))
  -- self.rich
  have m9 := exM (K := K) (C := C) (x := ks) (fs := kF) (enc := fun _ => []) (Pre := fun ks => Good ks ∧ ks.length ≤ 1000) (Φ := fun ks d => ∃ k, Pair30 k ∧ d = pr k) (m := "richest") ((ev_var (S8.at_).env (i := 0) rfl)) (Ex.refl _) S8.ins S8.flds S8.nom ea_nil ⟨g, hk⟩ (by simp)
  refine i_fldX T S8 hp0 rfl (by decide) m9 ((ev_var (S8.at_).env (i := 0) rfl)) fun d9 gs9 H9 hd9 S9 t9 b9 => ?_
  obtain ⟨rk, ⟨_, _, rk3, rk4⟩, rfl⟩ := hd9
  have S9 := S9 8 (.inl rfl) [("rich", pr rk), ("weights", .list ((slimF ks bn).map opD)), ("slim_bound", .int (bn : Nat)), ("slim", pr (slimmestF ks)), ("near", .list ((nearF ks (r + 1).toNat).map .int)), ("divisor", .int (gcdF ks : Nat)), ("kinds", kdD ks)] (by refine List.forall_mem_cons.mpr ⟨.inl rfl, ?_⟩; repeat (first | exact (fun _ h => absurd h List.not_mem_nil) | refine List.forall_mem_cons.mpr ⟨.inr ⟨by dsimp only; decide, by simp⟩, ?_⟩))
  -- self.rich_bound
  have hr1 := ev_f T (f := "rich") (d := pr rk) ((ev_var (S9.at_).env (i := 0) rfl)) (Ex.refl _) S9.ins S9.flds List.mem_cons_self
  obtain ⟨qn1, qn2⟩ := prod_nat ⟨rk3, rk4⟩ ⟨mW.1, mW.2.1⟩
  have hmul2 := ev_mul (ev_ixT hr1 (ev_int (i := 1)) (d := .int rk.2) rfl) (lc (tVar 3) (·.2) 3 S9.at_ fun k _ σ' H' _ en => (ev_var en (i := 3) rfl)) (small_mul ⟨rk3, by omega⟩)
  generalize rk.2 * maxK (·.2) ks = rb at *
  obtain ⟨rn, rfl⟩ := Int.eq_ofNat_of_zero_le qn1
  refine i_fldX T S9 hp0 rfl (by decide) hmul2.toX ((ev_var (S9.at_).env (i := 0) rfl)) fun d10 gs10 H10 hd10 S10 t10 b10 => ?_
  subst hd10
  have S10 := S10 9 (.inl rfl) [("rich_bound", .int (rn : Nat)), ("weights", .list ((slimF ks bn).map opD)), ("slim_bound", .int (bn : Nat)), ("slim", pr (slimmestF ks)), ("near", .list ((nearF ks (r + 1).toNat).map .int)), ("divisor", .int (gcdF ks : Nat)), ("kinds", kdD ks)] (by refine List.forall_mem_cons.mpr ⟨.inl rfl, ?_⟩; repeat (first | exact (fun _ h => absurd h List.not_mem_nil) | refine List.forall_mem_cons.mpr ⟨.inr ⟨by dsimp only; decide, by simp⟩, ?_⟩))
  -- self.lengths
  have hrb := ev_f T (f := "rich_bound") (d := .int (rn : Nat)) ((ev_var (S10.at_).env (i := 0) rfl)) (Ex.refl _) S10.ins S10.flds List.mem_cons_self
  have m11 := evM (K := K) (C := C) (x := (ks, rn)) (fs := fun x : List Kd × Nat => kF x.1) (enc := fun x => [.int (x.2 : Nat)]) (Pre := tabP) (r := fun x => .list ((richF x.1 x.2).map .int)) (m := "longest_up_to") ((ev_var (S10.at_).env (i := 0) rfl)) (Ex.refl _) S10.ins S10.flds S10.nom (ea_cons hrb ea_nil) ⟨g, hk, by show rn ≤ 5000; omega⟩ (by simp)
  refine s_fldX T S10 hp0 rfl (by decide) m11.toX ((ev_var (S10.at_).env (i := 0) rfl)) fun d11 gs11 H11 hd11 S11 t11 b11 => ?_
  subst hd11
  let L : LdX := ⟨ks, (gcdF ks : Nat), nearF ks (r + 1).toNat, slimmestF ks, bn⟩
  have S11 := S11 10 (.inl rfl) [("kinds", kdD ks), ("divisor", .int (gcdF ks : Nat)), ("near", .list ((nearF ks (r + 1).toNat).map .int)), ("slim", pr (slimmestF ks)), ("slim_bound", .int (bn : Nat)), ("weights", .list ((slimF ks bn).map opD))] (by repeat (first | exact (fun _ h => absurd h List.not_mem_nil) | refine List.forall_mem_cons.mpr ⟨.inr ⟨by dsimp only; decide, by simp⟩, ?_⟩))
  refine q L gs11 H11 rfl ⟨g, hk, fun z => by have := (gcd_pos g z).1; show (0 : Int) < ((gcdF ks : Nat) : Int); omega, gcd_dvd g, fun j f hj => ?_, fun z => slimmest_ok g z, fun z => ⟨maxK (·.1) ks, mL.2.2, hbb.symm⟩⟩ S11.flds S11.nom S11.ins ?_
  · have hj : (nearF ks (r + 1).toNat)[j]? = some f := hj
    cases hm : (r + 1).toNat with
    | zero => rw [hm] at hj; simp [nearF] at hj
    | succ m =>
      rw [hm] at hj
      exact (floors_ok g m).2 j f hj
  · exact (((((((((((b1.trans b2).trans (hB)).trans b4).trans b5).trans b6).trans b7).trans b8).trans b9).trans b10).trans b11))
end
end Wk

set_option maxHeartbeats 200000
set_option Elab.async false
set_option linter.all false
set_option maxRecDepth 100000
set_option maxHeartbeats 1000000
/-! WrO: is_carried, end_can_occur, newer_can_occur, can_occur. -/
namespace Wk
open PySem PySem.Spec PyProof.Rows L2 Evl Wr
open C8 (Cal pe_c Met pe_mt pe_mt0 Mak pe_mk)
section
variable {K : PySem.W.Frag} {C : Addr} {H H' : Hp} {σ : L2.St} {ta tb te : TE} {tr : TA} {tt : TT} {gs : List (Str × V)} {a dx : Addr} {α : Type} {fs : α → List (Str × PyData)} {enc : α → List PyData} {Pre : α → Prop} {Φ : α → PyData → Prop} {r : α → PyData}
theorem exI {x : α} {fl : List (Str × PyData)} (h : EvS K ta σ H' (.v (.ref a))) (e : Ex H H') (ha : H a = some (.ins C dx gs)) (hf : Flds K H gs fl) (hn : NoM gs) (args : EvAS K tr σ H' ((enc x).map .d)) (hp : Pre x) (hsub : ∀ p ∈ fs x, p ∈ fl) :
    EvX K (tCall (SpI K C fs enc Pre Φ) [] E0 (tCons ta tr)) σ H' (Φ x) := fun H1 e1 Q q =>
  h H1 e1 _ fun u H2 e2 hu => args H2 (e1.trans e2) _ fun us H3 e3 hus => by
    rw [show u = V.ref a from hu]
    exact ⟨x, a, dx, us, gs, hp, by rw [List.append_nil], e3 _ _ (e2 _ _ (e1 _ _ (e _ _ ha))), fun p hp' => (hf.mono (((e.trans e1).trans e2).trans e3)) p (hsub p hp'), hn, hda_d hus, fun u d H4 hΦ e4 hd => q u d H4 hΦ ((e2.trans e3).trans e4) hd⟩
theorem evI {x : α} {fl : List (Str × PyData)} (h : EvS K ta σ H' (.v (.ref a))) (e : Ex H H') (ha : H a = some (.ins C dx gs)) (hf : Flds K H gs fl) (hn : NoM gs) (args : EvAS K tr σ H' ((enc x).map .d)) (hp : Pre x) (hsub : ∀ p ∈ fs x, p ∈ fl) :
    EvS K (tCall (SpIF K C fs enc Pre r) [] E0 (tCons ta tr)) σ H' (.d (r x)) := (exI (x := x) h e ha hf hn args hp hsub).toS
theorem evx_if {Ψ : PyData → Prop} {b : Bool} (h : EvT tt σ H b) (h1 : b = true → EvX K ta σ H Ψ) (h2 : b = false → EvX K tb σ H Ψ) : EvX K (tIf tt ta tb) σ H Ψ := fun H1 e Q q => h H1 e _ fun H2 e2 => by
  cases b with
  | true => exact h1 rfl H2 (e.trans e2) Q fun u d H3 hd e3 => q u d H3 hd (e2.trans e3)
  | false => exact h2 rfl H2 (e.trans e2) Q fun u d H3 hd e3 => q u d H3 hd (e2.trans e3)
end
theorem mk_pos {ks : List Kd} {x y : Int} (g : Good ks) (h : Mk ks x y) : 0 ≤ x ∧ 0 ≤ y := by
  obtain ⟨ms, hf, rfl, rfl⟩ := h
  have := len_nonneg g hf
  omega
section
variable {P : Program} {w : World} {K : PySem.W.Frag} {mg : Str → Option Value} {base : Heap} {C f : Addr} {fd : FuncData}
abbrev carE (x : LdX × Int × Int) : List PyData := [.int x.2.1, .int x.2.2]
abbrev carP (x : LdX × Int × Int) : Prop := x.1.Ok ∧ 0 < x.2.1 ∧ ∃ y, Mk x.1.ks x.2.1 y ∧ y ≤ x.2.2
abbrev spCarried (K : PySem.W.Frag) (C : Addr) : Sp := SpIF K C (fun x : LdX × Int × Int => x.1.fs) carE carP fun _ => .bool true
theorem ok_carried (T : Tx w K mg C) (M_lightest : Met P w K mg base 1 C "lightest" (spLightest K C) []) (F : Fun K "is_carried" "is_carried" s_is_carried f fd) : FnOk P w K mg base CX0 2 f fd p_is_carried (spCarried K C) := by
  refine run_meth F sc_is_carried (fun _ => rfl) fun cdv A outer s H vs Q E x ip dx gs hr hp hi hf hnm a q => ?_
  refine ⟨_, (pss_cons (ps_set (i := 3) sc_is_carried.nd rfl (.inl rfl) (pe_ifExp (pt_cmpR op_gt (pv 1) pe_int (nomark _)) (pe_mt M_lightest hr (by decide) (pv 0) (pa_cons (pv 1) pa_nil)) pe_non))
(pss_one (ps_ret (pe_and (pe_cmp (pc_notN (pv 3)) rfl) (pe_one (pe_cmpR op_le (pv 3) (pv 2) (nomark _))))))), ?_⟩
  obtain ⟨L, n, wt⟩ := x
  obtain ⟨ok, h0, y, hy, hle⟩ := hp
  have h0 : 0 < n := h0
  have hle : y ≤ wt := hle
  have hy : Mk L.ks n y := hy
  have a : At K H [.v (.ref ip), .d (.int n), .d (.int wt), .un] (start n_is_carried vs) H := a
  refine q_asgX (Φ := fun d => ∃ z, d = .int z ∧ ∀ y, Mk L.ks n y → z ≤ y) a (evx_if (b := decide (0 < n)) (et_s (ev_gt ((ev_var (a).env (i := 1) rfl)) ev_int)) (fun _ => exM (x := (L, n)) (fs := fun x : LdX × Int => x.1.fs) (enc := fun x => [.int x.2]) (Pre := fun x => x.1.Ok ∧ 0 ≤ x.2 ∧ ∃ y, Mk x.1.ks x.2 y) (Φ := fun x d => ∃ z, d = .int z ∧ ∀ y, Mk x.1.ks x.2 y → z ≤ y) (m := "lightest") ((ev_var (a).env (i := 0) rfl)) a.ex hi hf hnm (ea_cons ((ev_var (a).env (i := 1) rfl)) ea_nil) ⟨ok, Int.le_of_lt h0, y, hy⟩ (fun _ h => h)) (fun hb => absurd h0 (of_decide_eq_false hb))) fun d σ1 H1 hd e1 a1 => ?_
  obtain ⟨z, rfl, hz⟩ := hd
  have := hz y hy
  exact s_ret (ev_andV (a := true) (b := true) (ev_notN ((ev_var (a1).env (i := 3) rfl))) fun _ => ev_cast (ev_le ((ev_var (a1).env (i := 3) rfl)) ((ev_var (a1).env (i := 2) rfl))) (by rw [decide_eq_true (by omega : z ≤ wt)])) fun u H2 e2 hu => q _ _ _ rfl (a1.ex.trans e2) hu
/-! end_can_occur -/
structure EndA where
  L : LdX
  h : Int
  b : Int
  k : Kd
  left : Int
structure EndA.Ok (x : EndA) : Prop where
  ok : x.L.Ok
  hk : x.h < x.k.1
  hs : IsSum x.L.ks x.h
  hb : 0 < x.b
  hm : ∃ y, Mk x.L.ks x.b y ∧ y ≤ x.left
abbrev spEnd (K : PySem.W.Frag) (C : Addr) : Sp := SpIF K C (fun x : EndA => x.L.fs) (fun x => [shD (.short x.h x.b), pr x.k, .int x.left]) EndA.Ok fun _ => .bool true
theorem ok_end (T : Tx w K mg C) (M_is_sum : Met P w K mg base 2 C "is_sum" (spIsSum K C) []) (G_is_carried : Cal P w K mg base 2 "is_carried" (spCarried K C) []) (F : Fun K "end_can_occur" "end_can_occur" s_end_can_occur f fd) : FnOk P w K mg base CX0 3 f fd p_end_can_occur (spEnd K C) := by
  refine run_meth F sc_end_can_occur (fun _ => rfl) fun cdv A outer s H vs Q E x ip dx gs hr hp hi hf hnm a q => ?_
  refine ⟨_, (pss_cons (ps_asg (pv 1) (pg_tup rfl (pgs_cons (pg_name (i := 4) sc_end_can_occur.nd rfl (.inl rfl)) (pgs_cons (pg_name (i := 5) sc_end_can_occur.nd rfl (.inl rfl)) (pgs_cons (pg_name (i := 6) sc_end_can_occur.nd rfl (.inl rfl)) pgs_nil)))))
(pss_one (ps_ret (pe_and (pe_cmpR op_lt (pv 5) (pe_ix (ix_seqK (K := K)) (pv 2) pe_int (fun _ _ => rfl)) (nomark _)) (pe_and (pe_mt M_is_sum hr (by decide) (pv 0) (pa_cons (pv 5) pa_nil)) (pe_one (pe_c G_is_carried hr (by decide) (by rfl) (pa_cons (pv 0) (pa_cons (pv 6) (pa_cons (pv 3) pa_nil)))))))))), ?_⟩
  obtain ⟨L, h, b, k, left⟩ := x
  have hk : h < k.1 := hp.hk
  have a : At K H [.v (.ref ip), .d (shD (.short h b)), .d (pr k), .d (.int left), .un, .un, .un] (start n_end_can_occur vs) H := a
  refine q_three a ((ev_var (a).env (i := 1) rfl)) fun σ1 H1 e1 a1 => ?_
  have m1 := evM (K := K) (C := C) (x := (L, h)) (fs := fun x : LdX × Int => x.1.fs) (enc := fun x => [.int x.2]) (Pre := fun x => x.1.Ok ∧ IsSum x.1.ks x.2) (r := fun _ => .bool true) (m := "is_sum") ((ev_var (a1).env (i := 0) rfl)) a1.ex hi hf hnm (ea_cons ((ev_var (a1).env (i := 5) rfl)) ea_nil) ⟨hp.ok, hp.hs⟩ (fun _ h => h)
  have m2 := evI (K := K) (C := C) (x := (L, b, left)) (fs := fun x : LdX × Int × Int => x.1.fs) (enc := carE) (Pre := carP) (r := fun _ => .bool true) ((ev_var (a1).env (i := 0) rfl)) a1.ex hi hf hnm (ea_cons ((ev_var (a1).env (i := 6) rfl)) (ea_cons ((ev_var (a1).env (i := 3) rfl)) ea_nil)) ⟨hp.ok, hp.hb, hp.hm⟩ (fun _ h => h)
  exact s_ret (ev_andV (a := true) (b := true) (ev_cast (ev_lt ((ev_var (a1).env (i := 5) rfl)) (ev_ixT ((ev_var (a1).env (i := 2) rfl)) ev_int (d := .int k.1) rfl)) (by rw [decide_eq_true hk])) fun _ => ev_andV (a := true) (b := true) m1 fun _ => m2) fun u H2 e2 hu => q _ _ _ rfl (a1.ex.trans e2) hu
/-! newer_can_occur -/
structure NewA where
  ks : List Kd
  L : LdX
  h : Int
  b : Int
  p : Int
  t : Nat
  k : Kd
  left : Int
structure NewA.Ok (x : NewA) : Prop where
  ok : x.L.Ok
  lt : x.t < x.ks.length
  mem : kd x.ks x.t ∈ x.L.ks
  hp : x.p ≤ x.h
  hk : x.h < x.p + x.k.1
  ht : kl x.ks x.t ≤ x.p
  hs : IsSum x.L.ks x.h
  hb : 0 < x.b
  hm : ∃ y z, Mk x.L.ks x.b y ∧ Mk x.L.ks (x.p - kl x.ks x.t) z ∧ y + z + kw x.ks x.t ≤ x.left
def SpNew (K : PySem.W.Frag) (C : Addr) : Sp := fun vs H Q _ => ∃ (x : NewA) (u : V) (us : List V) (a dx : Addr) (gs : List (Str × V)), x.Ok ∧ vs = u :: .ref a :: us ∧ Dp K H u (kdD x.ks) ∧ H a = some (.ins C dx gs) ∧ Flds K H gs x.L.fs ∧ NoM gs ∧
  DpAll K H us [shD (.caught x.h x.b x.p x.t), pr x.k, .int x.left] ∧ ∀ H', Ex H H' → Q (.bl true) H'
theorem ok_newer (T : Tx w K mg C) (M_is_sum : Met P w K mg base 2 C "is_sum" (spIsSum K C) []) (M_lightest : Met P w K mg base 1 C "lightest" (spLightest K C) []) (G_is_carried : Cal P w K mg base 2 "is_carried" (spCarried K C) []) (F : Fun K "newer_can_occur" "newer_can_occur" s_newer_can_occur f fd) : FnOk P w K mg base CX0 3 f fd p_newer_can_occur (SpNew K C) := by
  refine F.ok sc_newer_can_occur (fun vs H Q E h => by
    obtain ⟨x, u, us, a, dx, gs, _, rfl, _, _, _, _, hd, _⟩ := h
    rw [List.length_cons, List.length_cons, dpa_length hd]
    rfl) fun cdv A outer s H vs Q E hr h => ?_
  obtain ⟨x, u, us, ip, dx, gs, ok, rfl, hu, hi, hf, hnm, hd, q⟩ := h
  refine ⟨_, (pss_cons (ps_asg (pv 2) (pg_tup rfl (pgs_cons (pg_name (i := 5) sc_newer_can_occur.nd rfl (.inl rfl)) (pgs_cons (pg_name (i := 6) sc_newer_can_occur.nd rfl (.inl rfl)) (pgs_cons (pg_name (i := 7) sc_newer_can_occur.nd rfl (.inl rfl)) (pgs_cons (pg_name (i := 8) sc_newer_can_occur.nd rfl (.inl rfl)) (pgs_cons (pg_name (i := 9) sc_newer_can_occur.nd rfl (.inl rfl)) pgs_nil)))))))
(pss_cons (ps_if (PW.pt (pw_or (pt_cmpR op_ge (pv 9) (pe_callB call_len (by rfl) T.b_len bt_len (pa_cons (pv 0) pa_nil)) (nomark _)) (pw_or (pt_cmpR (op_notInU (hu65 hr)) (pe_ix (ix_seqK (K := K)) (pv 0) (pv 9) (fun _ _ => rfl)) (pe_fld (pv 1) rfl) (by with_unfolding_all rfl)) (pw_or1 (pt_not (pt_chain op_le op_lt (pv 8) (pv 6) (pe_op op_add (pv 8) (pe_ix (ix_seqK (K := K)) (pv 3) pe_int (fun _ _ => rfl)))))))))
(pss_one (ps_ret pe_bl))
pss_nil)
(pss_cons (ps_asg (pe_ix (ix_seqK (K := K)) (pv 0) (pv 9) (fun _ _ => rfl)) (pg_tup rfl (pgs_cons (pg_name (i := 10) sc_newer_can_occur.nd rfl (.inl rfl)) (pgs_cons (pg_name (i := 11) sc_newer_can_occur.nd rfl (.inl rfl)) pgs_nil))))
(pss_cons (ps_set (i := 12) sc_newer_can_occur.nd rfl (.inl rfl) (pe_ifExp (pt_cmpR op_ge (pv 8) (pv 10) (nomark _)) (pe_mt M_lightest hr (by decide) (pv 1) (pa_cons (pe_op op_sub (pv 8) (pv 10)) pa_nil)) pe_non))
(pss_one (ps_ret (pe_and (pe_cmp (pc_notN (pv 12)) rfl) (pe_and (pe_mt M_is_sum hr (by decide) (pv 1) (pa_cons (pv 6) pa_nil)) (pe_one (pe_c G_is_carried hr (by decide) (by rfl) (pa_cons (pv 1) (pa_cons (pv 7) (pa_cons (pe_op op_sub (pe_op op_sub (pv 4) (pv 11)) (pv 12)) pa_nil))))))))))))), ?_⟩
  obtain ⟨ks, L, h, b, p, t, k, left⟩ := x
  obtain ⟨okL, lt, mem, hp, hk, ht, hs, hb, y, z, hy, hz, hyz⟩ := ok
  have lt : t < ks.length := lt
  have mem : kd ks t ∈ L.ks := mem
  have hp : p ≤ h := hp
  have hk : h < p + k.1 := hk
  have ht : kl ks t ≤ p := ht
  have hy : Mk L.ks b y := hy
  have hz : Mk L.ks (p - kl ks t) z := hz
  have hyz : y + z + kw ks t ≤ left := hyz
  have hb : 0 < b := hb
  have a : At K H [.d (kdD ks), .v (.ref ip), .d (shD (.caught h b p t)), .d (pr k), .d (.int left), .un, .un, .un, .un, .un, .un, .un, .un] (start n_newer_can_occur (u :: .ref ip :: us)) H := by
    have := At.here (N := n_newer_can_occur) (HdAll.cons (K := K) (H := H) (l := .d (kdD ks)) hu (HdAll.cons (l := .v (.ref ip)) rfl (hda_of hd)))
    have hl : (u :: V.ref ip :: us).length = 5 := by rw [List.length_cons, List.length_cons, dpa_length hd]; rfl
    rw [hl] at this
    exact this
  refine q_five a ((ev_var (a).env (i := 2) rfl)) fun σ1 H1 e1 a1 => ?_
  have fk : ∀ {σ1 : L2.St} {H1 : Hp} {sl : List Sl}, At K H sl σ1 H1 → sl[1]? = some (.v (.ref ip)) → EvS K (tFld K (tVar 1) "kinds") σ1 H1 (.d (kdD L.ks)) := fun a1 h => ev_f T (ev_var a1.env h) a1.ex hi hf (by simp [LdX.fs])
  have hin : ((L.ks.map pr).any fun z => PyData.eqv z (pr (kd ks t))) = true := List.any_eq_true.mpr ⟨_, List.mem_map.mpr ⟨_, mem, rfl⟩, by rw [eqv_pr]; exact decide_eq_true rfl⟩
  have t1 := et_s (ev_ge ((ev_var (a1).env (i := 9) rfl)) (ev_lenT ((ev_var (a1).env (i := 0) rfl))))
  have t2 := et_s (ev_notInU (ev_ixT ((ev_var (a1).env (i := 0) rfl)) ((ev_var (a1).env (i := 9) rfl)) (at_kd lt)) (fk a1 rfl) (shp_pr _).ok (shp_kd _).ok)
  have t3 := et_s (ev_chain (a := decide (p ≤ h)) (b := decide (h < p + k.1)) (r := rI0 fun i j => .bl (decide (i ≤ j))) (r' := rI0 fun i j => .bl (decide (i < j))) ((ev_var (a1).env (i := 8) rfl)) ((ev_var (a1).env (i := 6) rfl)) (ev_add ((ev_var (a1).env (i := 8) rfl)) (ev_ixT ((ev_var (a1).env (i := 3) rfl)) (ev_int (i := 0)) (d := .int k.1) rfl)) (fun H Q q => ⟨_, _, rfl, rfl, q⟩) fun H Q q => ⟨_, _, rfl, rfl, q⟩)
  rw [hin] at t2
  rw [decide_eq_true hp, decide_eq_true hk] at t3
  have hge : decide (((ks.map pr).length : Int) ≤ (t : Int)) = false := decide_eq_false (by rw [List.length_map]; omega)
  rw [hge] at t1
  refine q_when a1 (et_or t1 fun _ => et_or t2 fun _ => et_not t3) (fun hb _ _ _ => absurd hb (by decide)) fun _ H2 e2 a2 => ?_
  refine q_two a2 (ev_ixT ((ev_var (a2).env (i := 0) rfl)) ((ev_var (a2).env (i := 9) rfl)) (at_kd lt)) fun σ3 H3 e3 a3 => ?_
  have a3 : At K H [.d (kdD ks), .v (.ref ip), .d (shD (.caught h b p t)), .d (pr k), .d (.int left), .d (.str "caught up"), .d (.int h), .d (.int b), .d (.int p), .d (.int (t : Nat)), .d (.int (kl ks t)), .d (.int (kw ks t)), .un] σ3 H3 := a3
  refine q_asgX (Φ := fun d => ∃ z, d = .int z ∧ ∀ y, Mk L.ks (p - kl ks t) y → z ≤ y) a3 (evx_if (b := decide (kl ks t ≤ p)) (et_s (ev_ge ((ev_var (a3).env (i := 8) rfl)) ((ev_var (a3).env (i := 10) rfl)))) (fun _ => exM (x := (L, p - kl ks t)) (fs := fun x : LdX × Int => x.1.fs) (enc := fun x => [.int x.2]) (Pre := fun x => x.1.Ok ∧ 0 ≤ x.2 ∧ ∃ y, Mk x.1.ks x.2 y) (Φ := fun x d => ∃ z, d = .int z ∧ ∀ y, Mk x.1.ks x.2 y → z ≤ y) (m := "lightest") ((ev_var (a3).env (i := 1) rfl)) a3.ex hi hf hnm (ea_cons (ev_sub ((ev_var (a3).env (i := 8) rfl)) ((ev_var (a3).env (i := 10) rfl))) ea_nil) ⟨okL, by show 0 ≤ p - kl ks t; omega, z, hz⟩ (fun _ h => h)) (fun hb => absurd ht (of_decide_eq_false hb))) fun d σ4 H4 hd e4 a4 => ?_
  obtain ⟨z', rfl, hz'⟩ := hd
  have hzz := hz' z hz
  have m1 := evM (K := K) (C := C) (x := (L, h)) (fs := fun x : LdX × Int => x.1.fs) (enc := fun x => [.int x.2]) (Pre := fun x => x.1.Ok ∧ IsSum x.1.ks x.2) (r := fun _ => .bool true) (m := "is_sum") ((ev_var (a4).env (i := 1) rfl)) a4.ex hi hf hnm (ea_cons ((ev_var (a4).env (i := 6) rfl)) ea_nil) ⟨okL, hs⟩ (fun _ h => h)
  have m2 := evI (K := K) (C := C) (x := (L, b, left - kw ks t - z')) (fs := fun x : LdX × Int × Int => x.1.fs) (enc := carE) (Pre := carP) (r := fun _ => .bool true) ((ev_var (a4).env (i := 1) rfl)) a4.ex hi hf hnm (ea_cons ((ev_var (a4).env (i := 7) rfl)) (ea_cons (ev_sub (ev_sub ((ev_var (a4).env (i := 4) rfl)) ((ev_var (a4).env (i := 11) rfl))) ((ev_var (a4).env (i := 12) rfl))) ea_nil)) ⟨okL, hb, y, hy, by show y ≤ left - kw ks t - z'; omega⟩ (fun _ h => h)
  exact s_ret (ev_andV (a := true) (b := true) (ev_notN ((ev_var (a4).env (i := 12) rfl))) fun _ => ev_andV (a := true) (b := true) m1 fun _ => m2) fun u H5 e5 hu => by
    rw [show u = V.bl true from dp_bl hu]
    exact q _ (a4.ex.trans e5)
end
end Wk

set_option maxHeartbeats 200000
set_option Elab.async false
set_option linter.all false
set_option maxRecDepth 100000
set_option maxHeartbeats 1000000
/-! WrO2: can_occur. -/
namespace Wk
open PySem PySem.Spec PyProof.Rows L2 Evl Wr
open C8 (Cal pe_c Met pe_mt pe_mt0 Mak pe_mk)
section
variable {K : PySem.W.Frag} {C : Addr} {H0 H : Hp} {sl : List Sl} {σ : L2.St} {tb : TE} {t tr : TA} {D : Ends} {tz : TS} {E : XK}
/-- loads, x = Loads(kinds), e -/
theorem q_loads {i j : Nat} {ks : List Kd} {d : PyData} (a : At K H0 sl σ H) (args : EvAS K t σ H [.d (kdD ks)]) (g : Good ks) (hk : ks.length ≤ 1000) (hb : EvS K tb σ H (.d d))
    (k : ∀ x dx gs (L : LdX) σ1 H1, L.ks = ks → L.Ok → H1 x = some (.ins C dx gs) → Flds K H1 gs L.fs → NoM gs → Ex H H1 → At K H0 ((sl.set i (.v (.ref x))).set j (.d d)) σ1 H1 → tz D σ1 H1) :
    tSeq (tPar i j (tCons (tMake C (SpInit K C) [] E t) (tCons tb tNil))) tz D σ H :=
  args H (Ex.refl _) _ fun us H2 e2 hus => fun x dx nx ndx hne => by
    obtain ⟨u, rfl, hu⟩ := hda_one hus
    have n2 : (upd H2 dx (.own x)) x = none := by rw [upd_ne (Ne.symm hne)]; exact nx
    have e3 : Ex H2 (upd (upd H2 dx (.own x)) x (.ins C dx [])) := (Ex.new ndx).trans (Ex.new n2)
    refine ⟨ks, x, dx, u, g, hk, rfl, upd_same, dp_mono e3 _ hu, fun L gs H4 hL ok hf hn hi hB => ⟨rfl, ?_⟩⟩
    have e4 : Ex H2 H4 := fun b o hb' => hB b o (fun z => by subst z; rw [nx] at hb'; cases hb') (e3 _ _ hb')
    refine hb H4 (e2.trans e4) _ fun w H5 e5 hw => ⟨_, _, rfl, ?_⟩
    exact k x dx gs L _ H5 hL ok (e5 _ _ hi) (hf.mono e5) hn ((e2.trans e4).trans e5) (((a.mono ((e2.trans e4).trans e5)).put i (l := .v (.ref x)) (u := .ref x) rfl).put j hw)
theorem ev_new {x : NewA} {ip dx : Addr} {gs : List (Str × V)} (args : EvAS K tr σ H [.d (kdD x.ks), .v (.ref ip), .d (shD (.caught x.h x.b x.p x.t)), .d (pr x.k), .d (.int x.left)]) (ok : x.Ok) (hi : H0 ip = some (.ins C dx gs)) (hf : Flds K H0 gs x.L.fs) (hn : NoM gs) (e : Ex H0 H) :
    EvS K (tCall (SpNew K C) [] E tr) σ H (.d (.bool true)) := ev_call args fun H1 e1 us hus Q q => by
  cases hus with
  | cons h1 r =>
    cases r with
    | cons h2 r =>
      cases h2
      exact ⟨x, _, _, ip, dx, gs, ok, by rw [List.append_nil], h1, e1 _ _ (e _ _ hi), hf.mono (e.trans e1), hn, hda_d r, fun H' e' => q _ H' e' (.bl true)⟩
theorem ev_isint {i j : Int} (args : EvAS K tr σ H [.d (.int i), .d (.int j)]) : EvS K (tCall (spIsInt K) [.non] E tr) σ H (.d (.bool (decide (j ≤ i)))) := ev_call args fun H1 e1 us hus Q q =>
  ⟨(i, j), trivial, dpa_append (hda_d (ds := [.int i, .int j]) hus) (.cons .non .nil), fun u d H2 hd e2 hu => q u H2 e2 (by rw [hd] at hu; exact hu)⟩
end
def shNums : Wr.Shape → List Int
  | .long => []
  | .short h b => [h, b]
  | .caught h b p t => [h, b, p, (t : Int)]
def shW : Wr.Shape → Str
  | .long => "long"
  | .short _ _ => "short end"
  | .caught _ _ _ _ => "caught up"
theorem shD_eq (sh : Wr.Shape) : shD sh = .tuple (.str (shW sh) :: (shNums sh).map .int) := by cases sh <;> rfl
theorem shPart (sh : Wr.Shape) : Part (shW sh) (((shNums sh).length + 1 : Nat) : Int) := by
  cases sh
  · exact .long
  · exact .short
  · exact .caught
theorem strOk_lits : SeqAt.shaped (.str "long") = true ∧ SeqAt.shaped (.str "short end") = true ∧ SeqAt.shaped (.str "caught up") = true := ⟨by decide +kernel, by decide +kernel, by decide +kernel⟩
theorem shp_str (sh : Wr.Shape) : Shp 0 (.str (shW sh)) := by
  have h : SeqAt.shaped (.str (shW sh)) = true := by
    cases sh
    · exact strOk_lits.1
    · exact strOk_lits.2.1
    · exact strOk_lits.2.2
  exact ⟨SeqAt.canLay_of_shaped h, by simp [PyData.depth]⟩
theorem shp_sh (sh : Wr.Shape) : Shp 1 (.tuple (.str (shW sh) :: (shNums sh).map .int)) := shp_tup fun d hd => by
  rcases List.mem_cons.mp hd with rfl | hd
  · exact shp_str sh
  · obtain ⟨i, _, rfl⟩ := List.mem_map.mp hd
    exact shp_int i
section
variable {P : Program} {w : World} {K : PySem.W.Frag} {mg : Str → Option Value} {base : Heap} {C f : Addr} {fd : FuncData}
structure CanA where
  ks : List Kd
  c : Int
  sh : Wr.Shape
  n : Nat
structure CanA.Ok (x : CanA) : Prop where
  g : Good x.ks
  l : x.ks.length ≤ 1000
  us : Usable x.ks x.c x.n
  sh : ∃ W, ShapeOk x.ks x.c W x.n x.sh
abbrev spCan (K : PySem.W.Frag) : Sp := SpF K (α := CanA) (fun x => [kdD x.ks, .int x.c, shD x.sh, .int (x.n : Nat)]) CanA.Ok fun _ => .bool true
theorem ok_can (T : Tx w K mg C) (G_usable : Cal P w K mg base 1 "usable" (spUsable K) []) (G_Loads : Mak P w K mg base 3 "Loads" C (SpInit K C) []) (G_is_integer : Cal P w K mg base 1 "is_integer" (spIsInt K) [.non])
    (G_end_can_occur : Cal P w K mg base 3 "end_can_occur" (spEnd K C) []) (G_newer_can_occur : Cal P w K mg base 3 "newer_can_occur" (SpNew K C) []) (F : Fun K "can_occur" "can_occur" s_can_occur f fd) : FnOk P w K mg base CX0 5 f fd p_can_occur (spCan K) := by
  refine run_def F sc_can_occur (fun _ => rfl) fun cdv A outer s H vs Q E x hr hp a q => ?_
  refine ⟨_, (pss_cons (ps_par (i := 4) (j := 5) (by rfl) sc_can_occur.nd rfl rfl (by decide) rfl rfl (pa_cons (pe_mk G_Loads hr (by decide) (by rfl) (pa_cons (pe_c G_usable hr (by decide) (by rfl) (pa_cons (pv 0) (pa_cons (pv 1) pa_nil))) pa_nil)) (pa_cons (pe_ix (ix_seqK (K := K)) (pv 0) (pv 3) (fun _ _ => rfl)) pa_nil)) (by rfl))
(pss_cons (ps_if (PW.pt (pw_or (pt_cmpR (op_notInU (hu65 hr)) (pv 5) (pe_fld (pv 4) rfl) (by with_unfolding_all rfl)) (pw_or (pt_not (pt_val (pe_callB call_isi (by rfl) T.b_isinstance bt_isinstance (pa_cons (pv 2) (pa_cons (pe_bltn (v := .ty "tuple") (by rfl) T.b_tuple bt_tuple rfl) pa_nil))))) (pw_or (pt_cmpR (op_eqD hr.units) (pv 2) (pe_tup pa_nil) (nomark _)) (pw_or1 (pt_not (pt_val (pe_callB call_isi (by rfl) T.b_isinstance bt_isinstance (pa_cons (pe_ix (ix_seqK (K := K)) (pv 2) pe_int (fun _ _ => rfl)) (pa_cons (pe_bltn (v := .ty "str") (by rfl) T.b_str bt_str rfl) pa_nil))))))))))
(pss_one (ps_ret pe_bl))
pss_nil)
(pss_cons (ps_if (PW.pt (pw_or (pt_cmpR op_ne (pe_callB call_len (by rfl) T.b_len bt_len (pa_cons (pv 2) pa_nil)) (pe_kget (by rfl) T (pe_ix ix_seq (pv 2) pe_int (fun _ _ => rfl)) pe_int ⟨rfl, rfl, rfl, rfl⟩) (nomark _)) (pw_or1 (pt_not (pt_val (pe_callB (cr_all rfl) (by rfl) T.b_all bt_all (pa_cons (pe_lc (own := [("number", 6)]) (g := gName 6) (tt := tYes) rfl sc_can_occur.nd (pi_tup (pe_slice sl_tupA (pv 2) (po_some pe_int) po_none)) (blkOk_by (N := n_can_occur) (sc := defScope s_can_occur) (by decide +kernel)) (fun _ _ _ _ _ => (pg_name (i := 6) sc_can_occur.nd rfl (.inl rfl))) (fun _ _ _ _ _ => pts_nil) (fun _ _ _ _ _ => (pe_c G_is_integer hr (by decide) (by rfl) (pa_cons (pv 6) (pa_cons pe_int pa_nil))))) pa_nil)))))))
(pss_one (ps_ret pe_bl))
pss_nil)
(pss_cons (ps_if (pt_cmpR op_eq (pe_ix (ix_seqK (K := K)) (pv 2) pe_int (fun _ _ => rfl)) (pe_cst rfl T.s_LONG) (nomark _))
(pss_one (ps_ret pe_bl))
pss_nil)
(pss_cons (ps_if (pt_cmpR op_eq (pe_ix (ix_seqK (K := K)) (pv 2) pe_int (fun _ _ => rfl)) (pe_cst rfl T.s_SHORT_END) (nomark _))
(pss_one (ps_ret (pe_c G_end_can_occur hr (by decide) (by rfl) (pa_cons (pv 4) (pa_cons (pv 2) (pa_cons (pv 5) (pa_cons (pe_op op_sub (pv 1) (pe_ix (ix_seqK (K := K)) (pv 5) pe_int (fun _ _ => rfl))) pa_nil)))))))
pss_nil)
(pss_one (ps_ret (pe_c G_newer_can_occur hr (by decide) (by rfl) (pa_cons (pv 0) (pa_cons (pv 4) (pa_cons (pv 2) (pa_cons (pv 5) (pa_cons (pe_op op_sub (pv 1) (pe_ix (ix_seqK (K := K)) (pv 5) pe_int (fun _ _ => rfl))) pa_nil))))))))))))), ?_⟩
  obtain ⟨ks, c, sh, n⟩ := x
  obtain ⟨g, hl, us, W, so⟩ := hp
  have g : Good ks := g
  have hl : ks.length ≤ 1000 := hl
  have us : Usable ks c n := us
  have so : ShapeOk ks c W n sh := so
  have a : At K H [.d (kdD ks), .d (.int c), .d (shD sh), .d (.int (n : Nat)), .un, .un, .un] (start n_can_occur vs) H := a
  rw [shD_eq] at a
  have mem := us.mem
  have lt := us.1
  refine q_loads a (ea_cons (evD (x := (ks, c)) (enc := fun x : List Kd × Int => [kdD x.1, .int x.2]) (Pre := fun x => x.1.length ≤ 1000) (r := fun x => kdD (Wr.free x.1 x.2)) (ea_cons ((ev_var (a).env (i := 0) rfl)) (ea_cons ((ev_var (a).env (i := 1) rfl)) ea_nil)) hl) ea_nil) (Good.free g c) (Nat.le_trans (List.length_filter_le _ _) hl) (ev_ixT ((ev_var (a).env (i := 0) rfl)) ((ev_var (a).env (i := 3) rfl)) (at_kd lt)) fun ip dx gs L σ1 H1 hL ok hi hf hn e1 a1 => ?_
  have a1 : At K H [.d (kdD ks), .d (.int c), .d (.tuple (.str (shW sh) :: (shNums sh).map .int)), .d (.int (n : Nat)), .v (.ref ip), .d (pr (kd ks n)), .un] σ1 H1 := a1
  rw [← hL] at mem
  have fk : EvS K (tFld K (tVar 4) "kinds") σ1 H1 (.d (kdD L.ks)) := ev_f T ((ev_var (a1).env (i := 4) rfl)) (Ex.refl _) hi hf (by simp [LdX.fs])
  have hin : ((L.ks.map pr).any fun z => PyData.eqv z (pr (kd ks n))) = true := List.any_eq_true.mpr ⟨_, List.mem_map.mpr ⟨_, mem, rfl⟩, by rw [eqv_pr]; exact decide_eq_true rfl⟩
  have t1 := et_s (ev_notInU ((ev_var (a1).env (i := 5) rfl)) fk (shp_pr _).ok (shp_kd _).ok)
  rw [hin] at t1
  have t2 := et_b (ev_isi (n := "tuple") (b := true) ((ev_var (a1).env (i := 2) rfl)) (show kitB "tuple" "tuple" = some true by decide +kernel) (fun ⟨_, z⟩ => nomatch z))
  have t3 := et_s (ev_eqNilT ((ev_var (a1).env (i := 2) rfl)) (shp_sh sh) ev_nilT)
  have t4 := et_b (ev_isi (n := "str") (b := true) (ev_ixT ((ev_var (a1).env (i := 2) rfl)) (ev_int (i := 0)) (d := .str (shW sh)) (atI_nat (j := 0) rfl)) (show kitB "str" "str" = some true by decide +kernel) (fun ⟨_, z⟩ => nomatch z))
  refine q_when a1 (et_or t1 fun _ => et_or (et_not t2) fun _ => et_or t3 fun _ => et_not t4) (fun hb _ _ _ => absurd hb (fun z : false = true => nomatch z)) fun _ H2 e2 a2 => ?_
  -- the parts
  have hnum : ∀ i ∈ shNums sh, 0 ≤ i := by
    cases sh with
    | long => exact fun _ h => nomatch h
    | short h b =>
      obtain ⟨s1, s2, s3, s4, s5, s6, _⟩ := so
      intro i hi
      simp [shNums] at hi
      rcases hi with rfl | rfl <;> omega
    | caught h b p t =>
      obtain ⟨s1, s2, s3, s4, s5, s6, s7, s8, _⟩ := so
      have := (Usable.pos g s6).1
      intro i hi
      simp [shNums] at hi
      rcases hi with rfl | rfl | rfl | rfl <;> omega
  have t5 := et_s (ev_neI (ev_lenT ((ev_var (a2).env (i := 2) rfl))) (ev_parts (ev_ixT ((ev_var (a2).env (i := 2) rfl)) (ev_int (i := 0)) (d := .str (shW sh)) (atI_nat (j := 0) rfl)) (ev_int (i := 0)) (shPart sh)))
  have hlen : ((.str (shW sh) :: (shNums sh).map .int : List PyData).length : Int) = (((shNums sh).length + 1 : Nat) : Int) := by rw [List.length_cons, List.length_map]
  rw [hlen, decide_eq_true rfl] at t5
  have hsl := ev_slT (tl := tNoPart) ((ev_var (a2).env (i := 2) rfl)) (ev_int (i := 1))
  have hsl : EvS K _ _ _ (.d (.tuple ((shNums sh).map .int))) := hsl
  have src := src_tup1 (j := 6) hsl (noLs_mem fun d hd => by obtain ⟨i, _, rfl⟩ := List.mem_map.mp hd; rfl)
  rw [List.map_map] at src
  have hlc := en_lcA (vs := [6]) (te := tCall (spIsInt K) [.non] E0 (tCons (tVar 6) (tCons (tC (.int 0)) tNil))) (fun i : Int => .bool (decide (0 ≤ i))) src a2.env (by cases sh <;> simp [shNums]) (by decide) (fun _ _ => rfl) fun i _ σ' H' e en => ev_isint (ea_cons ((ev_var en (i := 6) rfl)) (ea_cons ev_int ea_nil))
  have t6 := et_b (ev_all (bs := (shNums sh).map fun i => decide (0 ≤ i)) (en_cast hlc (by rw [List.map_map]; rfl)).toS)
  have hall : (((shNums sh).map fun i => decide (0 ≤ i)).all id) = true := List.all_eq_true.mpr fun b hb => by
    obtain ⟨i, hi, rfl⟩ := List.mem_map.mp hb
    exact decide_eq_true (hnum i hi)
  rw [hall] at t6
  refine q_when a2 (et_or t5 fun _ => et_not t6) (fun hb _ _ _ => absurd hb (fun z : false = true => nomatch z)) fun _ H3 e3 a3 => ?_
  have out : ∀ {te : TE} {σ1 : L2.St} {H1 : Hp} (e1 : Ex H H1) (h : EvS K te σ1 H1 (.d (.bool true))), tRet te { nx := fun _ H' => Q .non H', rt := Q } σ1 H1 := fun e1 h => s_ret h fun u H2 e2 hu => q _ _ _ rfl (e1.trans e2) hu
  have e13 : Ex H1 H3 := e2.trans e3
  have hix : ∀ {H' : Hp}, At K H [.d (kdD ks), .d (.int c), .d (.tuple (.str (shW sh) :: (shNums sh).map .int)), .d (.int (n : Nat)), .v (.ref ip), .d (pr (kd ks n)), .un] σ1 H' → EvS K (tOp (rIx K) (tVar 2) (tC (.int 0))) σ1 H' (.d (.str (shW sh))) := fun a => ev_ixT ((ev_var (a).env (i := 2) rfl)) (ev_int (i := 0)) (atI_nat (j := 0) rfl)
  have pn := (Usable.pos g us)
  cases sh with
  | long => exact q_when a3 (et_s (ev_eqS (i := "long") (j := "long") (hix a3) ev_str)) (fun _ H4 e4 a4 => out a4.ex ev_bl) fun hb _ _ _ => absurd hb (by decide)
  | short h b =>
    obtain ⟨s1, s2, s3, s4, s5, s6, y, hy, hyw⟩ := so
    refine q_when a3 (et_s (ev_eqS (i := "short end") (j := "long") (hix a3) ev_str)) (fun hb _ _ _ => absurd hb (by decide)) fun _ H4 e4 a4 => ?_
    refine q_when a4 (et_s (ev_eqS (i := "short end") (j := "short end") (hix a4) ev_str)) (fun _ H5 e5 a5 => ?_) fun hb _ _ _ => absurd hb (by decide)
    rw [← hL] at s5 hy
    exact out a5.ex (evI (K := K) (C := C) (x := (⟨L, h, b, kd ks n, c - kw ks n⟩ : EndA)) (fs := fun x : EndA => x.L.fs) (enc := fun x => [shD (.short x.h x.b), pr x.k, .int x.left]) (Pre := EndA.Ok) (r := fun _ => .bool true) ((ev_var (a5).env (i := 4) rfl)) ((e13.trans e4).trans e5) hi hf hn
      (ea_cons ((ev_var (a5).env (i := 2) rfl)) (ea_cons ((ev_var (a5).env (i := 5) rfl)) (ea_cons (ev_sub ((ev_var (a5).env (i := 1) rfl)) (ev_ixT ((ev_var (a5).env (i := 5) rfl)) (ev_int (i := 1)) (d := .int (kw ks n)) rfl)) ea_nil))) ⟨ok, s4, s5, s6, y, hy, by show y ≤ c - kw ks n; omega⟩ (fun _ h => h))
  | caught h b p t =>
    obtain ⟨s1, s2, s3, s4, s5, s6, s7, s8, s9, y, z, hy, hz, hyz⟩ := so
    refine q_when a3 (et_s (ev_eqS (i := "caught up") (j := "long") (hix a3) ev_str)) (fun hb _ _ _ => absurd hb (by decide)) fun _ H4 e4 a4 => ?_
    refine q_when a4 (et_s (ev_eqS (i := "caught up") (j := "short end") (hix a4) ev_str)) (fun hb _ _ _ => absurd hb (by decide)) fun _ H5 e5 a5 => ?_
    have mt := s6.mem
    rw [← hL] at s9 hy hz mt
    exact out a5.ex (ev_new (x := ⟨ks, L, h, b, p, t, kd ks n, c - kw ks n⟩) (ea_cons ((ev_var (a5).env (i := 0) rfl)) (ea_cons ((ev_var (a5).env (i := 4) rfl)) (ea_cons ((ev_var (a5).env (i := 2) rfl)) (ea_cons ((ev_var (a5).env (i := 5) rfl)) (ea_cons (ev_sub ((ev_var (a5).env (i := 1) rfl)) (ev_ixT ((ev_var (a5).env (i := 5) rfl)) (ev_int (i := 1)) (d := .int (kw ks n)) rfl)) ea_nil))))) ⟨ok, s6.1, mt, s4, s5, s7, s9, s8, y, z, hy, hz, by show y + z + kw ks t ≤ c - kw ks n; omega⟩ hi hf hn ((e13.trans e4).trans e5))
end
end Wk

set_option maxHeartbeats 200000
set_option Elab.async false
set_option linter.all false
set_option maxRecDepth 100000
set_option maxHeartbeats 1000000
/-! WrQ: the law's pots: take, of, pot, kinds, few. -/
namespace Wk
open PySem PySem.Spec PyProof.Rows L2 Evl Wr
open C8 (Cal pe_c Met pe_mt pe_mt0 Mak pe_mk)
/-- a pot at p -/
def Pot (H : Hp) (p : Addr) : Prop := ∃ g s : Int, H p = some (.lst [.int g, .int s]) ∧ 0 ≤ g ∧ 0 ≤ s
theorem Pot.mono {H H' : Hp} {p : Addr} (e : Ex H H') (h : Pot H p) : Pot H' p := by
  obtain ⟨g, s, h, r⟩ := h
  exact ⟨g, s, e _ _ h, r⟩
theorem hole (H : Hp) (p : Addr) : ∃ H0 : Hp, H0 p = none ∧ Ex H0 H ∧ (∀ b o, b ≠ p → H b = some o → H0 b = some o) := ⟨fun b => if b = p then none else H b, if_pos rfl, fun b o e => by
    by_cases z : b = p
    · simp [z] at e
    · simpa [z] using e, fun b o z e => by simpa [z] using e⟩
theorem exB_of {H0 H H' : Hp} {p : Addr} (h : ∀ b o, b ≠ p → H b = some o → H0 b = some o) (e : Ex H0 H') : ExB p H H' := fun b o n hb => e b o (h b o n hb)
def IntP (A : Int → Prop) : V → Prop := fun u => ∃ i, u = .int i ∧ A i
def EvP (te : TE) (p : Addr) (σ : L2.St) (H : Hp) (Ψ : V → Prop) : Prop := ∀ H1, ExB p H H1 → Pot H1 p → ∀ Q : VK, (∀ u H2, ExB p H1 H2 → Pot H2 p → Ψ u → Q u H2) → te σ H1 Q
def EvPA (tr : TA) (p : Addr) (σ : L2.St) (H : Hp) (Ψ : List V → Prop) : Prop := ∀ H1, ExB p H H1 → Pot H1 p → ∀ Q : List V → Hp → Prop, (∀ us H2, ExB p H1 H2 → Pot H2 p → Ψ us → Q us H2) → tr σ H1 Q
section
variable {K : PySem.W.Frag} {H0 H H' : Hp} {sl : List Sl} {σ : L2.St} {ta tb te : TE} {tr : TA} {p : Addr} {A B C : Int → Prop} {Ψ Ψ' : V → Prop} {Ω : List V → Prop} {l : Sl} {D : Ends} {tz tu : TS}
theorem At.exb {xs : List V} (a : At K H0 sl σ H) (hp0 : H0 p = none) (hp : H p = some (.lst xs)) (n : sl.all noLS = true) (e : ExB p H H') : At K H0 sl σ H' := ⟨fun b o h => e b o (fun z => by subst z; rw [hp0] at h; cases h) (a.ex b o h), a.env.monoT (e.toT hp) n⟩
theorem At.P (a : At K H0 sl σ H) (hp0 : H0 p = none) (hp : Pot H p) (n : sl.all noLS = true) (e : ExB p H H') : At K H0 sl σ H' := by
  obtain ⟨g, s, h, _⟩ := hp
  exact a.exb hp0 h n e
theorem EvP.mono (h : EvP te p σ H Ψ) (e : ExB p H H') : EvP te p σ H' Ψ := fun H1 e1 P1 Q q => h H1 (e.trans e1) P1 Q q
theorem EvP.imp (h : EvP te p σ H Ψ) (i : ∀ u, Ψ u → Ψ' u) : EvP te p σ H Ψ' := fun H1 e1 P1 Q q => h H1 e1 P1 Q fun u H2 e2 P2 hu => q u H2 e2 P2 (i u hu)
theorem ep_pure {i : Int} (h : ∀ H1, ExB p H H1 → EvS K te σ H1 (.d (.int i))) : EvP te p σ H (IntP (· = i)) := fun H1 e1 P1 Q q => h H1 e1 H1 (Ex.refl _) Q fun u H2 e2 hu => q u H2 (.of e2) (P1.mono e2) ⟨i, dp_int hu, rfl⟩
theorem ep_ref (h : ∀ H1, ExB p H H1 → EvS K te σ H1 (.v (.ref p))) : EvP te p σ H (· = .ref p) := fun H1 e1 P1 Q q => h H1 e1 H1 (Ex.refl _) Q fun u H2 e2 hu => q u H2 (.of e2) (P1.mono e2) hu
theorem ep_op {g : Int → Int → Int} (ha : EvP ta p σ H (IntP A)) (hb : EvP tb p σ H (IntP B)) (hc : ∀ i j, A i → B j → C (g i j)) : EvP (tOp (rI0 fun i j => .int (g i j)) ta tb) p σ H (IntP C) := fun H1 e1 P1 Q q =>
  ha H1 e1 P1 _ fun u H2 e2 P2 ⟨i, hu, hi⟩ => hb H2 (e1.trans e2) P2 _ fun w H3 e3 P3 ⟨j, hw, hj⟩ => ⟨i, j, hu, hw, q _ H3 (e2.trans e3) P3 ⟨_, rfl, hc i j hi hj⟩⟩
theorem epa_nil : EvPA tNil p σ H (· = []) := fun H1 e1 P1 Q q => q [] H1 (.refl _ _) P1 rfl
theorem epa_cons (ha : EvP ta p σ H Ψ) (hr : EvPA tr p σ H Ω) : EvPA (tCons ta tr) p σ H (fun us => ∃ u r, us = u :: r ∧ Ψ u ∧ Ω r) := fun H1 e1 P1 Q q =>
  ha H1 e1 P1 _ fun u H2 e2 P2 hu => hr H2 (e1.trans e2) P2 _ fun us H3 e3 P3 hus => q _ H3 (e2.trans e3) P3 ⟨u, us, rfl, hu, hus⟩
theorem ep_min2 (ha : EvP ta p σ H (IntP A)) (hb : EvP tb p σ H (IntP B)) (hc : ∀ i j, A i → B j → C (if j < i then j else i)) : EvP (tCB (fun xs H Q => ∃ i j, xs = [.int i, .int j] ∧ Q (.int (if j < i then j else i)) H) (tCons ta (tCons tb tNil))) p σ H (IntP C) := fun H1 e1 P1 Q q =>
  ha H1 e1 P1 _ fun u H2 e2 P2 ⟨i, hu, hi⟩ => hb H2 (e1.trans e2) P2 _ fun w H3 e3 P3 ⟨j, hw, hj⟩ => ⟨i, j, by rw [hu, hw], q _ H3 (e2.trans e3) P3 ⟨_, rfl, hc i j hi hj⟩⟩
/-- [..][i] -/
theorem ep_pick {n : Nat} (ha : EvPA tr p σ H (fun us => ∃ is : List Int, us = is.map V.int ∧ is.length = n ∧ ∀ i ∈ is, A i)) (hn : n ≤ 1000) (hb : EvP tb p σ H (IntP fun j => 0 ≤ j ∧ j < n)) : EvP (tOp (rIx K) (tLst tr) tb) p σ H (IntP A) := fun H1 e1 P1 Q q => by
  refine ha H1 e1 P1 _ fun us H2 e2 P2 hus => ?_
  obtain ⟨is, rfl, hl, hA⟩ := hus
  refine ⟨by rw [List.length_map]; exact sz_of (by omega), fun a na => ?_⟩
  have e3 : ExB p H2 (upd H2 a (.lst (is.map V.int))) := .of (Ex.new na)
  refine hb _ ((e1.trans e2).trans e3) (P2.mono (Ex.new na)) _ fun w H4 e4 P4 ⟨j, hw, j0, j1⟩ => ?_
  have hap : a ≠ p := fun z => by
    subst z
    obtain ⟨_, _, h, _⟩ := P2
    rw [na] at h
    cases h
  have hj : j.toNat < is.length := by omega
  refine .inl ⟨a, is.map V.int, j, .int is[j.toNat], rfl, hw, .inl (.inl (e4 _ _ hap upd_same)), ?_, q _ H4 ((e2.trans e3).trans e4) P4 ⟨_, rfl, hA _ (List.getElem_mem hj)⟩⟩
  have := atI_nat (xs := is.map V.int) (j := j.toNat) (v := .int is[j.toNat]) (by rw [List.getElem?_map, List.getElem?_eq_getElem hj]; rfl)
  rwa [Int.toNat_of_nonneg j0] at this
theorem q_asgP {i : Nat} (h : EvP te p σ H (IntP A)) (a : At K H0 sl σ H) (hp0 : H0 p = none) (hP : Pot H p) (n : sl.all noLS = true) (k : ∀ x σ1 H1, A x → ExB p H H1 → Pot H1 p → At K H0 (sl.set i (.d (.int x))) σ1 H1 → tz D σ1 H1) : tSeq (tAsg te (gName i)) tz D σ H :=
  h H (.refl _ _) hP _ fun u H1 e1 P1 ⟨x, hu, hx⟩ => k x _ H1 hx e1 P1 ((a.P hp0 hP n e1).put i (l := .d (.int x)) (by rw [hu]; exact .int x))
theorem q_setL {xs : List V} {m : Nat} {v : Int} (a : At K H0 sl σ H) (hv : EvS K te σ H (.d (.int v))) (ha : EvS K ta σ H (.v (.ref p))) (hb : EvS K tb σ H (.d (.int (m : Nat)))) (hp : H p = some (.lst xs)) (hm : m < xs.length) (hp0 : H0 p = none) (n : sl.all noLS = true)
    (k : ∀ H1, Ex H H1 → At K H0 sl σ (upd H1 p (.lst (xs.set m (.int v)))) → tz D σ (upd H1 p (.lst (xs.set m (.int v))))) : tSeq (tAsg te (gSub ta tb rSetL)) tz D σ H :=
  hv H (Ex.refl _) _ fun u H1 e1 hu => ha H1 e1 _ fun o H2 e2 ho => hb H2 (e1.trans e2) _ fun ix H3 e3 hi => by
    have hu : u = .int v := dp_int hu
    have ho : o = .ref p := ho
    have hi : ix = .int (m : Nat) := dp_int hi
    subst hu ho hi
    have e := (e1.trans e2).trans e3
    have h3 := e _ _ hp
    refine ⟨p, xs, (m : Nat), m, rfl, rfl, h3, ?_, k H3 e ((a.mono e).wr hp0 h3 (fun _ z => nomatch z) (fun _ _ z => nomatch z) n)⟩
    unfold ixN
    rw [if_pos (by omega), if_pos (by omega), Int.toNat_natCast]
end
section
variable {P : Program} {w : World} {K : PySem.W.Frag} {mg : Str → Option Value} {base : Heap} {C f : Addr} {fd : FuncData}
/-! l_take -/
def SpTake : Sp := fun vs H Q _ => ∃ (p : Addr) (n : Int), vs = [.ref p, .int n] ∧ Pot H p ∧ 1 ≤ n ∧ n ≤ 100000 ∧ ∀ (k : Int) H', 0 ≤ k → k < n → ExB p H H' → Pot H' p → Q (.int k) H'
theorem ok_take (T : Tx w K mg C) (F : Fun K "_law_take" "_law_take" s_l_take f fd) : FnOk P w K mg base CX0 1 f fd p_l_take SpTake := by
  refine F.ok sc_l_take (fun vs H Q E h => by obtain ⟨p, n, rfl, _⟩ := h; rfl) fun cdv A outer s H vs Q E hr h => ?_
  obtain ⟨p, n, rfl, ⟨g, s0, hp, hg, hs⟩, n0, n1, q⟩ := h
  refine ⟨_, (pss_cons (ps_if (pt_cmpR op_gt (pe_ix (ix_seqK (K := K)) (pv 0) pe_int (fun _ _ => rfl)) pe_int (nomark _))
(pss_cons (ps_set (i := 2) sc_l_take.nd rfl (.inl rfl) (pe_op op_mod (pe_ix (ix_seqK (K := K)) (pv 0) pe_int (fun _ _ => rfl)) (pv 1)))
(pss_cons (ps_asg (pe_op op_fdiv (pe_ix (ix_seqK (K := K)) (pv 0) pe_int (fun _ _ => rfl)) (pv 1)) (pg_sub (pv 0) pe_int set_list))
(pss_one (ps_ret (pv 2)))))
pss_nil)
(pss_cons (ps_asg (pe_op op_mod (pe_op op_add (pe_op op_mul (pe_ix (ix_seqK (K := K)) (pv 0) pe_int (fun _ _ => rfl)) pe_int) pe_int) pe_int) (pg_sub (pv 0) pe_int set_list))
(pss_one (ps_ret (pe_op op_mod (pe_op op_fdiv (pe_op op_mod (pe_op op_mul (pe_op op_fdiv (pe_ix (ix_seqK (K := K)) (pv 0) pe_int (fun _ _ => rfl)) pe_int) (pe_op op_add (pe_op op_mod (pe_ix (ix_seqK (K := K)) (pv 0) pe_int (fun _ _ => rfl)) pe_int) pe_int)) pe_int) pe_int) (pv 1)))))), ?_⟩
  obtain ⟨H0, hp0, hex, hB0⟩ := hole H p
  have a : At K H0 [.v (.ref p), .d (.int n), .un] (start n_l_take [.ref p, .int n]) H := ⟨hex, (At.here (N := n_l_take) (HdAll.cons (K := K) (H := H) (l := .v (.ref p)) rfl (HdAll.cons (l := .d (.int n)) (.int n) .nil))).env⟩
  have ix0 : ∀ {σ1 : L2.St} {H1 : Hp} {sl : List Sl}, At K H0 sl σ1 H1 → sl[0]? = some (.v (.ref p)) → H1 p = some (.lst [.int g, .int s0]) → EvS K (tOp (rIx K) (tVar 0) (tC (.int 0))) σ1 H1 (.d (.int g)) := fun a1 h hp => ev_ixR (ev_var a1.env h) (.of hp) (dpa_ints' (ns := [g, s0])) (ev_int (i := 0)) rfl
  refine q_when a (et_s (ev_gt (ix0 a rfl hp) ev_int)) (fun hb H1 e1 a1 => ?_) fun hb H1 e1 a1 => ?_
  · have hg0 : 0 < g := of_decide_eq_true hb
    have hp1 := e1 _ _ hp
    refine q_asg a1 (ev_mod (ix0 a1 rfl hp1) ((ev_var (a1).env (i := 1) rfl)) (by omega)) fun σ2 H2 e2 a2 => ?_
    have hp2 := e2 _ _ hp1
    refine q_setL (m := 0) a2 (ev_fdiv (ix0 a2 rfl hp2) ((ev_var (a2).env (i := 1) rfl)) ⟨by omega, by omega⟩) ((ev_var (a2).env (i := 0) rfl)) (ev_int (i := 0)) hp2 (by simp) hp0 rfl fun H3 e3 a3 => ?_
    refine s_ret ((ev_var (a3).env (i := 2) rfl)) fun u H4 e4 hu => ?_
    rw [show u = .int (g % n) from dp_int hu]
    exact q _ _ (Int.emod_nonneg _ (by omega)) (Int.emod_lt_of_pos _ (by omega)) (exB_of hB0 (a3.ex.trans e4)) ⟨g / n, s0, e4 _ _ upd_same, Int.ediv_nonneg hg (by omega), hs⟩
  · have hp1 := e1 _ _ hp
    have ix1 : ∀ {σ1 : L2.St} {H1 : Hp} {sl : List Sl} {s0 : Int}, At K H0 sl σ1 H1 → sl[0]? = some (.v (.ref p)) → H1 p = some (.lst [.int g, .int s0]) → EvS K (tOp (rIx K) (tVar 0) (tC (.int 1))) σ1 H1 (.d (.int s0)) := fun {σ1 H1 sl s0} a1 h hp => ev_ixR (ev_var a1.env h) (.of hp) (dpa_ints' (ns := [g, s0])) (ev_int (i := 1)) rfl
    refine q_setL (m := 1) a1 (ev_mod (ev_add (ev_mul (ix1 a1 rfl hp1) ev_int (.inr ⟨by decide, by decide⟩)) ev_int) ev_int (by decide)) ((ev_var (a1).env (i := 0) rfl)) (ev_int (i := 1)) hp1 (by simp) hp0 rfl fun H3 e3 a3 => ?_
    have s1 : 0 ≤ (s0 * 1181783497276652981 + 12345678910987) % 2305843009213693951 := Int.emod_nonneg _ (by decide)
    generalize (s0 * 1181783497276652981 + 12345678910987) % 2305843009213693951 = s2 at *
    have hp3 : (upd H3 p (.lst ([V.int g, .int s0].set 1 (.int s2)))) p = some (.lst [.int g, .int s2]) := upd_same
    have m1 := Int.emod_nonneg s2 (show (65537 : Int) ≠ 0 by decide)
    have m2 := Int.emod_lt_of_pos s2 (show (0 : Int) < 65537 by decide)
    refine s_ret (ev_mod (ev_fdiv (ev_mod (ev_mul (ev_fdiv (ix1 a3 rfl hp3) (ev_int (i := 65537)) ⟨by decide, by decide⟩) (ev_add (ev_mod (ix1 a3 rfl hp3) (ev_int (i := 65537)) (by decide)) (ev_int (i := 3))) (.inr ⟨by omega, by omega⟩)) (ev_int (i := 2305843009213693921)) (by decide)) (ev_int (i := 97)) ⟨by decide, by decide⟩) ((ev_var (a3).env (i := 1) rfl)) (by omega)) fun u H4 e4 hu => ?_
    rw [show u = .int _ from dp_int hu]
    exact q _ _ (Int.emod_nonneg _ (by omega)) (Int.emod_lt_of_pos _ (by omega)) (exB_of hB0 (a3.ex.trans e4)) ⟨g, s2, e4 _ _ hp3, hg, s1⟩
end
section
variable {K : PySem.W.Frag} {H0 H H' : Hp} {sl : List Sl} {σ : L2.St} {ta tb te : TE} {tr : TA} {p : Addr} {A B C : Int → Prop} {E : XK}
theorem ep_take (ha : EvP ta p σ H (· = .ref p)) (hb : EvP tb p σ H (IntP B)) (hn : ∀ n, B n → 1 ≤ n ∧ n ≤ 100000) : EvP (tCall SpTake [] E (tCons ta (tCons tb tNil))) p σ H (IntP fun k => ∃ n, B n ∧ 0 ≤ k ∧ k < n) := fun H1 e1 P1 Q q =>
  ha H1 e1 P1 _ fun u H2 e2 P2 hu => hb H2 (e1.trans e2) P2 _ fun w H3 e3 P3 ⟨n, hw, hB⟩ => ⟨p, n, by rw [hu, hw, List.append_nil], P3, (hn n hB).1, (hn n hB).2, fun k H4 k0 k1 e4 P4 => q _ H4 ((e2.trans e3).trans e4) P4 ⟨k, rfl, n, hB, k0, k1⟩⟩
end
section
variable {P : Program} {w : World} {K : PySem.W.Frag} {mg : Str → Option Value} {base : Heap} {C f : Addr} {fd : FuncData}
/-! l_of -/
def SpOf : Sp := fun vs H Q _ => ∃ (p a : Addr) (is : List Int), vs = [.ref p, .ref a] ∧ Pot H p ∧ H a = some (.lst (is.map V.int)) ∧ p ≠ a ∧ 1 ≤ is.length ∧ is.length ≤ 1000 ∧ ∀ (k : Int) H', k ∈ is → ExB p H H' → Pot H' p → Q (.int k) H'
theorem ok_of (T : Tx w K mg C) (G_l_take : Cal P w K mg base 1 "_law_take" SpTake []) (F : Fun K "_law_of" "_law_of" s_l_of f fd) : FnOk P w K mg base CX0 2 f fd p_l_of SpOf := by
  refine F.ok sc_l_of (fun vs H Q E h => by obtain ⟨p, a, is, rfl, _⟩ := h; rfl) fun cdv A outer s H vs Q E hr h => ?_
  obtain ⟨p, l, is, rfl, hP, hl, hpl, l1, l2, q⟩ := h
  refine ⟨_, (pss_one (ps_ret (pe_ix (ix_seqK (K := K)) (pv 1) (pe_c G_l_take hr (by decide) (by rfl) (pa_cons (pv 0) (pa_cons (pe_callB call_len (by rfl) T.b_len bt_len (pa_cons (pv 1) pa_nil)) pa_nil))) (fun _ _ => rfl)))), ?_⟩
  have a : At K H [.v (.ref p), .v (.ref l)] (start n_l_of [.ref p, .ref l]) H := At.here (N := n_l_of) (HdAll.cons (K := K) (H := H) (l := .v (.ref p)) rfl (HdAll.cons (l := .v (.ref l)) rfl .nil))
  have vr : ∀ {i : Nat} {r : Addr}, ([Sl.v (.ref p), .v (.ref l)] : List Sl)[i]? = some (.v (.ref r)) → ∀ H1, EvS K (tVar i) (start n_l_of [.ref p, .ref l]) H1 (.v (.ref r)) := fun {i r} h H1 H2 _ Q q => by
    obtain ⟨u, h1, h2⟩ := a.env.get h (fun z => nomatch z)
    exact ⟨u, h1, q u H2 (Ex.refl _) h2⟩
  have hlen : EvP (tCB (fun xs H Q => ∃ x n, xs = [x] ∧ LenV K x H n ∧ Q (.int n) H) (tCons (tVar 1) tNil)) p (start n_l_of [.ref p, .ref l]) H (IntP (· = (is.length : Int))) := ep_pure fun H1 e1 => by
    have := ev_lenL (ev_ints (ns := is) (vr (i := 1) rfl H1) (e1 _ _ (Ne.symm hpl) hl))
    rw [List.length_map] at this
    exact this
  have ht := ep_take (E := C8.E0) (ep_ref (p := p) (H := H) (te := tVar 0) (fun H1 _ => vr (i := 0) rfl H1)) hlen (fun n hn => by rw [hn]; omega)
  refine (vr (i := 1) (r := l) rfl H) H (Ex.refl _) _ fun u H1 e1 hu => ht H1 (.of e1) (hP.mono e1) _ fun w H2 e2 P2 ⟨k, hw, n, hn, k0, k1⟩ => ?_
  have hk : k.toNat < is.length := by omega
  have hl2 := e2 _ _ (Ne.symm hpl) (e1 _ _ hl)
  refine .inl ⟨l, is.map V.int, k, .int is[k.toNat], hu, hw, .of hl2, ?_, q _ H2 (List.getElem_mem hk) ((ExB.of e1).trans e2) P2⟩
  have := atI_nat (xs := is.map V.int) (j := k.toNat) (v := .int is[k.toNat]) (by rw [List.getElem?_map, List.getElem?_eq_getElem hk]; rfl)
  rwa [Int.toNat_of_nonneg k0] at this
/-! l_pot -/
def SpPot (K : PySem.W.Frag) : Sp := fun vs H Q _ => ∃ (ns : List Int) (k : Nat), DpAll K H vs [.list (ns.map .int), .int (k : Nat)] ∧ k ≤ 1 ∧ ns.length ≤ 1000 ∧ ∀ p H', H p = none → Ex H H' → Pot H' p → Q (.ref p) H'
theorem ok_pot (T : Tx w K mg C) (F : Fun K "_law_pot" "_law_pot" s_l_pot f fd) : FnOk P w K mg base CX0 1 f fd p_l_pot (SpPot K) := by
  refine F.ok sc_l_pot (fun vs H Q E h => by obtain ⟨ns, k, hd, _⟩ := h; rw [dpa_length hd]; rfl) fun cdv A outer s H vs Q E hr h => ?_
  obtain ⟨ns, k, hd, hk, hn, q⟩ := h
  refine ⟨_, (pss_cons (ps_set (i := 2) sc_l_pot.nd rfl (.inl rfl) (pe_op op_add (pe_op op_mul pe_int (pv 1)) (pe_callB call_len (by rfl) T.b_len bt_len (pa_cons (pv 0) pa_nil))))
(pss_cons (ps_if (pt_cmpR op_lt (pv 1) (pe_callB call_len (by rfl) T.b_len bt_len (pa_cons (pv 0) pa_nil)) (nomark _))
(pss_one (ps_set (i := 2) sc_l_pot.nd rfl (.inl rfl) (pe_ix (ix_seqK (K := K)) (pv 0) (pv 1) (fun _ _ => rfl))))
pss_nil)
(pss_cons (ps_set (i := 3) sc_l_pot.nd rfl (.inl rfl) (pe_op op_mul (pe_op op_mod (pe_callB call_abs (by rfl) T.b_abs bt_abs (pa_cons (pv 2) pa_nil)) (pe_callTy (call_big T.nodig) (by rfl) T.b_int bt_int (pa_cons (pe_op op_add_str pe_str (pe_op op_zeros pe_str pe_int)) pa_nil))) (pe_callTy call_int1 (by rfl) T.b_int bt_int (pa_cons (pe_cmpR op_ge (pe_callB call_abs (by rfl) T.b_abs bt_abs (pa_cons (pv 2) pa_nil)) (pe_op op_pow pe_int pe_int) (nomark _)) pa_nil))))
(pss_one (ps_ret (pe_lst (pa_cons (pv 3) (pa_cons (pe_op op_mod (pe_op op_mul (pe_op op_add (pe_op op_add (pe_op op_mod (pv 2) pe_int) (pe_op op_mul (pe_op op_mul pe_int (pv 1)) (pv 1))) pe_int) pe_int) pe_int) pa_nil)))))))), ?_⟩
  have a : At K H [.d (.list (ns.map .int)), .d (.int (k : Nat)), .un, .un] (start n_l_pot vs) H := at_here (N := n_l_pot) (n := 2) hd rfl
  have hlen : ∀ {σ1 : L2.St} {H1 : Hp} {sl : List Sl}, At K H sl σ1 H1 → sl[0]? = some (.d (.list (ns.map .int))) → EvS K (tCB (fun xs H Q => ∃ x n, xs = [x] ∧ LenV K x H n ∧ Q (.int n) H) (tCons (tVar 0) tNil)) σ1 H1 (.d (.int (ns.length : Nat))) := fun a1 h => by
    have := ev_lenL (ev_var a1.env h)
    rw [List.length_map] at this
    exact this
  refine q_asg a (ev_add (ev_mul ev_int ((ev_var (a).env (i := 1) rfl)) (.inl ⟨by decide, by decide⟩)) (hlen a rfl)) fun σ1 H1 e1 a1 => ?_
  have rest : ∀ (c : Int) (σ2 : L2.St) (H2 : Hp), At K H [.d (.list (ns.map .int)), .d (.int (k : Nat)), .d (.int c), .un] σ2 H2 → tSeq (tAsg (tOp (rI CMul fun i j => .int (i * j)) (tOp (rI (fun _ j => 0 < j) fun i j => .int (i % j)) (tCB (fun xs H Q => ∃ i, xs = [.int i] ∧ Q (.int (if i < 0 then -i else i)) H) (tCons (tVar 2) tNil)) (tCB rBig (tCons (tOp (fun x y H Q => ∃ i j, x = .str i ∧ y = .str j ∧ i.length + j.length ≤ sizeLine ∧ Q (.str (i ++ j)) H) (tC (.str "1")) (tOp rZeros (tC (.str "0")) (tC (.int 900)))) tNil))) (tCB (fun xs H Q => (∃ i, xs = [.int i] ∧ Q (.int i) H) ∨ ∃ k, xs = [.bl k] ∧ Q (.int (if k then 1 else 0)) H) (tCons (tOp (rI0 fun i j => .bl (decide (j ≤ i))) (tCB (fun xs H Q => ∃ i, xs = [.int i] ∧ Q (.int (if i < 0 then -i else i)) H) (tCons (tVar 2) tNil)) (tOp (rI CPow fun i j => .int (i ^ j.toNat)) (tC (.int 10)) (tC (.int 18)))) tNil))) (gName 3))
      (tRet (tLst (tCons (tVar 3) (tCons (tOp (rI (fun _ j => 0 < j) fun i j => .int (i % j)) (tOp (rI CMul fun i j => .int (i * j)) (tOp (rI0 fun i j => .int (i + j)) (tOp (rI0 fun i j => .int (i + j)) (tOp (rI (fun _ j => 0 < j) fun i j => .int (i % j)) (tVar 2) (tC (.int 2305843009213693951))) (tOp (rI CMul fun i j => .int (i * j)) (tOp (rI CMul fun i j => .int (i * j)) (tC (.int 7919)) (tVar 1)) (tVar 1))) (tC (.int 11))) (tC (.int 48271))) (tC (.int 2305843009213693951))) tNil)))) { nx := fun _ H' => Q .non H', rt := Q } σ2 H2 := fun c σ2 H2 a2 => by
    have hb := bigN_pos
    have hif : ∀ b : Bool, (0 : Int) ≤ (if b then 1 else 0) ∧ (if b then (1 : Int) else 0) ≤ 1 := fun b => by cases b <;> decide
    refine q_asg a2 (ev_mul (ev_mod (ev_abs ((ev_var (a2).env (i := 2) rfl))) ev_big hb) (ev_intB (ev_ge (ev_abs ((ev_var (a2).env (i := 2) rfl))) (ev_pow (ev_int (i := 10)) (ev_int (i := 18)) ⟨by decide, by decide, by decide⟩))) (small_mul' ⟨(hif _).1, Int.le_trans (hif _).2 (by decide)⟩)) fun σ3 H3 e3 a3 => ?_
    have g0 : 0 ≤ ((c.natAbs : Int) % bigN) * (if decide ((10 : Int) ^ Int.toNat 18 ≤ (c.natAbs : Int)) then 1 else 0) := Int.mul_nonneg (Int.emod_nonneg _ (by omega)) (hif _).1
    generalize ((c.natAbs : Int) % bigN) * (if decide ((10 : Int) ^ Int.toNat 18 ≤ (c.natAbs : Int)) then 1 else 0) = gr at *
    have hs : 0 ≤ (c % 2305843009213693951 + 7919 * (k : Int) * (k : Int) + 11) * 48271 % 2305843009213693951 := Int.emod_nonneg _ (by decide)
    have hl := en_lst (ds := [.int gr, .int ((c % 2305843009213693951 + 7919 * (k : Int) * (k : Int) + 11) * 48271 % 2305843009213693951)]) (ea_cons ((ev_var (a3).env (i := 3) rfl)) (ea_cons (ev_mod (ev_mul (ev_add (ev_add (ev_mod ((ev_var (a3).env (i := 2) rfl)) (ev_int (i := 2305843009213693951)) (by decide)) (ev_mul (ev_mul (ev_int (i := 7919)) ((ev_var (a3).env (i := 1) rfl)) (.inl ⟨by decide, by decide⟩)) ((ev_var (a3).env (i := 1) rfl)) (small_mul' (by omega)))) (ev_int (i := 11))) (ev_int (i := 48271)) (.inr ⟨by decide, by decide⟩)) (ev_int (i := 2305843009213693951)) (by decide)) ea_nil)) (by decide : 2 ≤ 100000)
    refine hl H3 (Ex.refl _) _ fun p xs H4 hp e4 h4 hd4 => ?_
    have hxs := dpa_ints (ns := [gr, (c % 2305843009213693951 + 7919 * (k : Int) * (k : Int) + 11) * 48271 % 2305843009213693951]) hd4
    subst hxs
    exact q p H4 (fresh_back a3.ex hp) (a3.ex.trans e4) ⟨_, _, h4, g0, hs⟩
  refine q_when a1 (et_s (ev_lt ((ev_var (a1).env (i := 1) rfl)) (hlen a1 rfl))) (fun hb H2 e2 a2 => ?_) fun hb H2 e2 a2 => ?_
  · have hlt : k < ns.length := by have := of_decide_eq_true hb; omega
    refine s_asg a2 (ev_ixL ((ev_var (a2).env (i := 0) rfl)) ((ev_var (a2).env (i := 1) rfl)) (at_map (List.getElem?_eq_getElem hlt))) fun σ3 H3 e3 a3 => ?_
    exact rest _ σ3 H3 a3
  · exact rest _ _ H2 a2
end
end Wk

set_option maxHeartbeats 200000
set_option Elab.async false
set_option linter.all false
set_option maxRecDepth 100000
set_option maxHeartbeats 1000000
/-! WrQ2: the law's kinds and limit. -/
namespace Wk
open PySem PySem.Spec PyProof.Rows L2 Evl Wr
open C8 (Cal pe_c Met pe_mt pe_mt0 Mak pe_mk)
section
variable {K : PySem.W.Frag} {H0 H H' : Hp} {sl : List Sl} {σ : L2.St} {ta tb te : TE} {tr : TA} {p : Addr} {A B C : Int → Prop} {E : XK} {D : Ends} {tz tu : TS}
/-- for i in range(e), e with the pot -/
theorem s_forP {j : Nat} {lo N : Int} (h : EvPA tr p σ H (fun us => ∃ n : Int, us = [.int n] ∧ lo ≤ n ∧ n ≤ N)) (hlo : 0 ≤ lo) (hN : N ≤ 1000) (hP : Pot H p) (Pv : Int → Nat → L2.St → Hp → Prop) (h0 : ∀ n H1, lo ≤ n → n ≤ N → ExB p H H1 → Pot H1 p → Pv n 0 σ H1)
    (hs : ∀ n (i : Nat) σ' H', lo ≤ n → n ≤ N → (i : Int) < n → Pv n i σ' H' → tu { D with nx := Pv n (i + 1), ct := Pv n (i + 1), bk := D.nx } (σ'.set j (some (.int (i : Nat)))) H') (hd : ∀ n σ' H', lo ≤ n → n ≤ N → Pv n n.toNat σ' H' → D.nx σ' H') : tFor (iRng1 tr) (gName j) tu D σ H :=
  h H (.refl _ _) hP _ fun us H1 e1 P1 ⟨n, hu, n0, n1⟩ => ⟨n, hu, by omega, by omega,
    for_it walk_range (Pv n) (h0 n H1 n0 n1 e1 P1) (fun _ _ _ _ _ => trivial) (fun i x σ' H' H'' hi hp y => by
      obtain ⟨rfl, rfl⟩ := y
      have := hs n i σ' H'' n0 n1 (by omega) hp
      show tu _ (σ'.set j (some (V.int (0 + (i : Int))))) H''
      rw [Int.zero_add]
      exact this) (fun σ' H' hp => hd n σ' H' n0 n1 hp)⟩
theorem q_forP {j : Nat} {lo N : Int} (h : EvPA tr p σ H (fun us => ∃ n : Int, us = [.int n] ∧ lo ≤ n ∧ n ≤ N)) (hlo : 0 ≤ lo) (hN : N ≤ 1000) (hP : Pot H p) (Pv : Int → Nat → L2.St → Hp → Prop) (h0 : ∀ n H1, lo ≤ n → n ≤ N → ExB p H H1 → Pot H1 p → Pv n 0 σ H1)
    (hs : ∀ n (i : Nat) σ' H', lo ≤ n → n ≤ N → (i : Int) < n → Pv n i σ' H' → tu { D with nx := Pv n (i + 1), ct := Pv n (i + 1), bk := tz D } (σ'.set j (some (.int (i : Nat)))) H') (hd : ∀ n σ' H', lo ≤ n → n ≤ N → Pv n n.toNat σ' H' → tz D σ' H') : tSeq (tFor (iRng1 tr) (gName j) tu) tz D σ H :=
  s_forP (D := { D with nx := tz D }) h hlo hN hP Pv h0 hs hd
/-- xs.append((x, y)), y with the pot -/
theorem s_appP {q : Addr} {xs : List V} {x : Int} (hq : H q = some (.lst xs)) (hqp : q ≠ p) (hP : Pot H p) (ha : ∀ H1, ExB p H H1 → EvS K ta σ H1 (.v (.ref q))) (hx : EvP tb p σ H (IntP (· = x))) (hy : EvP te p σ H (IntP A)) (hz : xs.length < 1000000)
    (k : ∀ y t H1, A y → ExB p H H1 → H1 t = none → Pot H1 p → D.nx σ (upd (upd H1 t (.tup [.int x, .int y])) q (.lst (xs ++ [.ref t])))) : tDrop (tBM K "list" rAppend ta (tCons (tTup (tCons tb (tCons te tNil))) tNil)) D σ H :=
  (ha H (.refl _ _)) H (Ex.refl _) _ fun u H1 e1 hu => by
    have hu : u = .ref q := hu
    subst hu
    refine ⟨.inl ⟨rfl, xs, .of (e1 _ _ hq)⟩, hx H1 (.of e1) (hP.mono e1) _ fun u2 H2 e2 P2 hu2 => hy H2 ((ExB.of e1).trans e2) P2 _ fun u3 H3 e3 P3 hu3 => ?_⟩
    obtain ⟨_, rfl, rfl⟩ := hu2
    obtain ⟨y, rfl, hA⟩ := hu3
    refine ⟨(show 2 ≤ sizeLine by decide), fun t nt => ?_⟩
    have e : ExB p H H3 := ((ExB.of e1).trans e2).trans e3
    have hq3 := e _ _ hqp hq
    have hqt : q ≠ t := fun z => by subst z; rw [nt] at hq3; cases hq3
    exact ⟨q, xs, .ref t, rfl, rfl, by rw [upd_ne hqt]; exact hq3, Nat.lt_trans hz (by decide), k y t H3 hA e nt P3⟩
end
section
variable {P : Program} {w : World} {K : PySem.W.Frag} {mg : Str → Option Value} {base : Heap} {C f : Addr} {fd : FuncData}
def SpKinds (K : PySem.W.Frag) : Sp := fun vs H Q _ => ∃ (p : Addr) (many most : Int), vs = [.ref p, .int many, .int most] ∧ Pot H p ∧ 1 ≤ many ∧ many ≤ 8 ∧ 1 ≤ most ∧ most ≤ 30 ∧
  ∀ (ks : List Kd) u H', Good ks → ks ≠ [] → (ks.length : Int) ≤ many → (∀ k ∈ ks, k.2 ≤ most) → ExB p H H' → Pot H' p → Dp K H' u (kdD ks) → Q u H'
theorem ok_kinds (T : Tx w K mg C) (G_l_take : Cal P w K mg base 1 "_law_take" SpTake []) (F : Fun K "_law_kinds" "_law_kinds" s_l_kinds f fd) : FnOk P w K mg base CX0 2 f fd p_l_kinds (SpKinds K) := by
  refine F.ok sc_l_kinds (fun vs H Q E h => by obtain ⟨p, a, b, rfl, _⟩ := h; rfl) fun cdv A outer s H vs Q E hr h => ?_
  obtain ⟨p, many, most, rfl, hP, m1, m2, t1, t2, q⟩ := h
  refine ⟨_, (pss_cons (ps_par (i := 3) (j := 4) (by rfl) sc_l_kinds.nd rfl rfl (by decide) rfl rfl (pa_cons (pe_c G_l_take hr (by decide) (by rfl) (pa_cons (pv 0) (pa_cons pe_int pa_nil))) (pa_cons (pe_lst pa_nil) pa_nil)) (by rfl))
(pss_cons (ps_for PassesOwn.never rfl (pi_range1 (by rfl) T.b_range (pa_cons (pe_op op_add pe_int (pe_c G_l_take hr (by decide) (by rfl) (pa_cons (pv 0) (pa_cons (pv 1) pa_nil)))) pa_nil)) (pg_name (i := 5) sc_l_kinds.nd rfl (.inl rfl))
(pss_cons (ps_set (i := 6) sc_l_kinds.nd rfl (.inl rfl) (pe_op op_add pe_int (pe_c G_l_take hr (by decide) (by rfl) (pa_cons (pv 0) (pa_cons (pv 2) pa_nil)))))
(pss_one (ps_expr (pe_bm PySem.F.plainAttrs_list PySem.F.slot_list_append PySem.F.type_list_append mt_append (pv 4) (pa_cons (pe_tup (pa_cons (pv 6) (pa_cons (pe_ix (ix_seqK (K := K)) (pe_lst (pa_cons (pv 6) (pa_cons pe_int (pa_cons (pe_op op_add pe_int (pe_c G_l_take hr (by decide) (by rfl) (pa_cons (pv 0) (pa_cons (pv 2) pa_nil)))) (pa_cons (pe_op op_add pe_int (pe_c G_l_take hr (by decide) (by rfl) (pa_cons (pv 0) (pa_cons (pv 2) pa_nil)))) pa_nil))))) (pv 3) (fun _ _ => rfl)) pa_nil))) pa_nil))))))
(pss_one (ps_ret (pe_callTy call_tuple_of (by rfl) T.b_tuple bt_tuple (pa_cons (pe_callB (cr_sortedT rfl) (by rfl) T.b_sorted bt_sorted (pa_cons (pe_callTy (cr_setOfT rfl hr.units) (by rfl) T.b_set bt_set (pa_cons (pv 4) pa_nil)) pa_nil)) pa_nil)))))), ?_⟩
  obtain ⟨H0, hp0, hex, hB0⟩ := hole H p
  have a : At K H0 [.v (.ref p), .d (.int many), .d (.int most), .un, .un, .un, .un] (start n_l_kinds [.ref p, .int many, .int most]) H := ⟨hex, (At.here (N := n_l_kinds) (HdAll.cons (K := K) (H := H) (l := .v (.ref p)) rfl (HdAll.cons (l := .d (.int many)) (.int many) (HdAll.cons (l := .d (.int most)) (.int most) .nil)))).env⟩
  -- 1 + take(pot, x)
  have take : ∀ {σ1 : L2.St} {H1 : Hp} {sl : List Sl} {i : Nat} {n : Int}, At K H0 sl σ1 H1 → Pot H1 p → sl.all noLS = true → sl[0]? = some (.v (.ref p)) → sl[i]? = some (.d (.int n)) → 1 ≤ n → n ≤ 1000 → EvP (tOp (rI0 fun i j => .int (i + j)) (tC (.int 1)) (tCall SpTake [] C8.E0 (tCons (tVar 0) (tCons (tVar i) tNil)))) p σ1 H1 (IntP fun k => 1 ≤ k ∧ k ≤ n) :=
    fun {σ1 H1 sl i n} a1 hP1 hn h0 hi n0 n1 => ep_op (A := (· = 1)) (ep_pure (K := K) fun _ _ => ev_int) (ep_take (B := (· = n)) (ep_ref fun H2 e => ev_var (a1.P hp0 hP1 hn e).env h0) (ep_pure fun H2 e => ev_var (a1.P hp0 hP1 hn e).env hi) (fun m hm => by omega)) fun i j hi hj => by
      obtain ⟨m, hm, j0, j1⟩ := hj
      omega
  -- way, found = take(pot, 4), []
  have tk4 := ep_take (E := C8.E0) (B := (· = 4)) (ep_ref (te := tVar 0) fun H2 e => (ev_var ((a.P hp0 hP rfl e)).env (i := 0) rfl)) (ep_pure (K := K) fun H2 _ => ev_int (i := 4)) (fun m hm => by omega)
  refine tk4 H (.refl _ _) hP _ fun u H1 e1 P1 hu => ⟨Nat.zero_le _, fun l nl => ⟨u, .ref l, rfl, ?_⟩⟩
  obtain ⟨way, rfl, _, rfl, w0, w1⟩ := hu
  have nl0 : H0 l = none := by
    cases hz : H0 l with
    | none => rfl
    | some o =>
      have := e1 l o (fun z => by subst z; rw [hp0] at hz; cases hz) (hex _ _ hz)
      rw [nl] at this
      cases this
  have hlp : l ≠ p := fun z => by
    subst z
    obtain ⟨_, _, h, _⟩ := P1
    rw [nl] at h
    cases h
  have a1 := (((a.P hp0 hP rfl e1).mono (Ex.new (o := .lst []) nl)).put 3 (l := .d (.int way)) (u := .int way) (.int way)).put 4 (l := .v (.ref l)) (u := .ref l) rfl
  have P1 := P1.mono (Ex.new (o := HO.lst []) nl)
  have e1 : ExB p H (upd H1 l (.lst [])) := e1.trans (.of (Ex.new nl))
  have hl1 : (upd H1 l (.lst [])) l = some (.lst []) := upd_same
  have a1 : At K H0 [.v (.ref p), .d (.int many), .d (.int most), .d (.int way), .v (.ref l), .un, .un] _ (upd H1 l (.lst [])) := a1
  -- the loop
  have tkm1 : EvPA (tCons (tOp (rI0 fun i j => .int (i + j)) (tC (.int 1)) (tCall SpTake [] C8.E0 (tCons (tVar 0) (tCons (tVar 1) tNil)))) tNil) p _ (upd H1 l (.lst [])) (fun us => ∃ n : Int, us = [.int n] ∧ 1 ≤ n ∧ n ≤ many) := fun H2 e2 P2 Q2 q2 =>
    (epa_cons (take (i := 1) a1 P1 rfl rfl rfl m1 (by omega)) epa_nil) H2 e2 P2 Q2 fun us H3 e3 P3 ⟨u, r, hus, ⟨k, hk, k0, k1⟩, hr⟩ => q2 us H3 e3 P3 ⟨k, by rw [hus, hk, hr], k0, k1⟩
  refine q_forP tkm1 (by decide) (by omega) P1 (fun n i σ' H' => ∃ (ks : List Kd) (vs : List V), ks.length = i ∧ (∀ k ∈ ks, 1 ≤ k.1 ∧ k.1 ≤ most ∧ 1 ≤ k.2 ∧ k.2 ≤ most) ∧ H' l = some (.lst vs) ∧ DpAll K H' vs (ks.map pr) ∧ Pot H' p ∧ At K H0 [.v (.ref p), .d (.int many), .d (.int most), .d (.int way), .v (.ref l), .un, .un] σ' H')
    (fun n H2 _ _ e2 P2 => ⟨[], [], rfl, (fun _ h => nomatch h), e2 _ _ hlp hl1, .nil, P2, a1.P hp0 P1 rfl e2⟩) (fun n i σ' H' n0 n1 hin ⟨ks, vs, hkl, hkb, hl, hd, P2, a2⟩ => ?_) fun n σ' H' n0 n1 ⟨ks, vs, hkl, hkb, hl, hd, P2, a2⟩ => ?_
  · have a3 := a2.put 5 (l := .d (.int (i : Nat))) (u := .int (i : Nat)) (.int _)
    refine q_asgP (take (i := 2) a3 P2 rfl rfl rfl t1 (by omega)) a3 hp0 P2 rfl fun x σ4 H4 hx e4 P4 a4 => ?_
    have a4 : At K H0 [.v (.ref p), .d (.int many), .d (.int most), .d (.int way), .v (.ref l), .d (.int (i : Nat)), .d (.int x)] σ4 H4 := a4
    have hl4 := e4 _ _ hlp hl
    have tk := take (i := 2) a4 P4 rfl rfl rfl t1 (by omega)
    have args : EvPA (tCons (tVar 6) (tCons (tC (.int 1)) (tCons (tOp (rI0 fun i j => .int (i + j)) (tC (.int 1)) (tCall SpTake [] C8.E0 (tCons (tVar 0) (tCons (tVar 2) tNil)))) (tCons (tOp (rI0 fun i j => .int (i + j)) (tC (.int 1)) (tCall SpTake [] C8.E0 (tCons (tVar 0) (tCons (tVar 2) tNil)))) tNil)))) p σ4 H4 (fun us => ∃ is : List Int, us = is.map V.int ∧ is.length = 4 ∧ ∀ i ∈ is, 1 ≤ i ∧ i ≤ most) := fun H5 e5 P5 Q5 q5 =>
      (epa_cons (ep_pure fun H6 e6 => (ev_var ((a4.P hp0 P4 rfl e6)).env (i := 6) rfl)) (epa_cons (ep_pure (K := K) fun _ _ => ev_int (i := 1)) (epa_cons tk (epa_cons tk epa_nil)))) H5 e5 P5 Q5 fun us H6 e6 P6 hus => q5 us H6 e6 P6 (by
        obtain ⟨_, _, rfl, ⟨x', rfl, hxe⟩, _, _, rfl, ⟨_, rfl, rfl⟩, _, _, rfl, ⟨y, rfl, y0, y1⟩, _, _, rfl, ⟨z, rfl, z0, z1⟩, rfl⟩ := hus
        refine ⟨[x', 1, y, z], rfl, rfl, fun i hi => ?_⟩
        have hxe : x' = x := hxe
        simp at hi
        rcases hi with rfl | rfl | rfl | rfl <;> omega)
    refine s_appP hl4 hlp P4 (fun H5 e5 => (ev_var ((a4.P hp0 P4 rfl e5)).env (i := 4) rfl)) (ep_pure fun H5 e5 => (ev_var ((a4.P hp0 P4 rfl e5)).env (i := 6) rfl)) (ep_pick (K := K) (n := 4) args (by decide) (EvP.imp (ep_pure fun H5 e5 => (ev_var ((a4.P hp0 P4 rfl e5)).env (i := 3) rfl)) fun u hu => by obtain ⟨j, rfl, rfl⟩ := hu; exact ⟨_, rfl, w0, by omega⟩)) (by rw [dpa_length hd, List.length_map, hkl]; omega) fun y t H5 hy e5 nt P5 => ?_
    have hl5 := e5 _ _ hlp hl4
    have hlt : l ≠ t := fun z => by subst z; rw [nt] at hl5; cases hl5
    have hpt : p ≠ t := fun z => by
      subst z
      obtain ⟨_, _, h, _⟩ := P5
      rw [nt] at h
      cases h
    have hl6 : (upd H5 t (.tup [.int x, .int y])) l = some (.lst vs) := by rw [upd_ne hlt]; exact hl5
    have hlp' : l ≠ p := hlp
    refine ⟨ks ++ [(x, y)], vs ++ [.ref t], by rw [List.length_append, hkl]; rfl, fun k hk => ?_, upd_same, ?_, ?_, ?_⟩
    · rcases List.mem_append.mp hk with hk | hk
      · exact hkb k hk
      · rw [List.mem_singleton.mp hk]
        exact ⟨hx.1, hx.2, hy.1, hy.2⟩
    · obtain ⟨_, _, hpp, _⟩ := P2
      have T1 : ExT H' (upd H5 t (.tup [.int x, .int y])) := ((e4.trans e5).toT hpp).trans (exT_of (Ex.new nt))
      have T2 : ExT (upd H5 t (.tup [.int x, .int y])) (upd (upd H5 t (.tup [.int x, .int y])) l (.lst (vs ++ [.ref t]))) := exT_lst hl6
      rw [List.map_append]
      refine dpa_append (dpa_monoT (T1.trans T2) _ (noL_prs ks) hd) (.cons ?_ .nil)
      exact dp_monoT T2 _ (noL_pr (x, y)) (.tup (.of upd_same) (.cons (.int x) (.cons (.int y) .nil)))
    · obtain ⟨g5, s5, h5, r5⟩ := P5
      exact ⟨g5, s5, by rw [upd_ne (Ne.symm hlp), upd_ne hpt]; exact h5, r5⟩
    · have a5 := (a4.P hp0 P4 rfl e5).mono (Ex.new (o := .tup [.int x, .int y]) nt)
      exact ((a5.wr (o := .lst (vs ++ [.ref t])) nl0 hl6 (fun _ z => nomatch z) (fun _ _ z => nomatch z) rfl).un 5).un 6
  · have hks : ks.length = n.toNat := hkl
    have hne : ks ≠ [] := fun z => by rw [z] at hks; simp at hks; omega
    have hlst : EvS K (tVar 4) σ' H' (.d (.list (ks.map pr))) := fun H3 e3 Q3 q3 => ((ev_var (a2).env (i := 4) rfl)) H3 e3 Q3 fun u H4 e4 hu => q3 u H4 e4 (by
      rw [show u = .ref l from hu]
      exact .lst (.of (e4 _ _ (e3 _ _ hl))) (dpa_mono (e3.trans e4) _ hd))
    refine s_retX (ev_tupOf (ev_sortSet (P := P) (w := w) hlst (by omega) fun k hk => by have := hkb k hk; omega) fun d ⟨L, hL, _⟩ => ⟨_, hL⟩) fun u d H3 hd3 e3 hu => ?_
    obtain ⟨ds, ⟨L, hL, hnd, hmem, hlen⟩, rfl⟩ := hd3
    cases hL
    refine q L u H3 (fun k hk => by have := hkb k ((hmem k).mp hk); omega) (fun z => ?_) ?_ (fun k hk => (hkb k ((hmem k).mp hk)).2.2.2) (exB_of hB0 (a2.ex.trans e3)) (P2.mono e3) hu
    · obtain ⟨k, hk⟩ := List.exists_mem_of_ne_nil ks hne
      have := (hmem k).mpr hk
      rw [z] at this
      exact nomatch this
    · have := nodup_le hnd fun k hk => (hmem k).mp hk
      omega
end
end Wk

set_option maxHeartbeats 200000
set_option Elab.async false
set_option linter.all false
set_option maxRecDepth 100000
set_option maxHeartbeats 1000000
/-! WrQ3: the law's few kinds with their limit. -/
namespace Wk
open PySem PySem.Spec PyProof.Rows L2 Evl Wr
open C8 (Cal pe_c Met pe_mt pe_mt0 Mak pe_mk)
theorem noL_kd (ks : List Kd) : noL (kdD ks) = true := noL_prs ks
section
variable {K : PySem.W.Frag} {H0 H H' : Hp} {sl : List Sl} {σ : L2.St} {ta tb te : TE} {tr : TA} {p : Addr} {A B C : Int → Prop} {E : XK} {D : Ends} {tz tu : TS}
/-- of(pot, [..]) -/
theorem ep_of {is : List Int} (ha : EvP ta p σ H (· = .ref p)) (hl : EvPA tr p σ H (· = is.map V.int)) (h1 : 1 ≤ is.length) (h2 : is.length ≤ 1000) : EvP (tCall SpOf [] E (tCons ta (tCons (tLst tr) tNil))) p σ H (IntP (· ∈ is)) := fun H1 e1 P1 Q q =>
  ha H1 e1 P1 _ fun u H2 e2 P2 hu => hl H2 (e1.trans e2) P2 _ fun us H3 e3 P3 hus => by
    subst hu hus
    refine ⟨by rw [List.length_map]; exact sz_of (by omega), fun a na => ?_⟩
    have hpa : p ≠ a := fun z => by
      subst z
      obtain ⟨_, _, h, _⟩ := P3
      rw [na] at h
      cases h
    exact ⟨p, a, is, rfl, P3.mono (Ex.new na), upd_same, hpa, h1, h2, fun k H4 hk e4 P4 => q _ H4 (((e2.trans e3).trans (.of (Ex.new na))).trans e4) P4 ⟨k, rfl, hk⟩⟩
/-- what l_kinds gives -/
theorem ex_kinds {Ψ : Int → Int → Prop} (h : EvPA tr p σ H (fun us => ∃ many most : Int, us = [.ref p, .int many, .int most] ∧ Ψ many most)) (hb : ∀ a b, Ψ a b → 1 ≤ a ∧ a ≤ 8 ∧ 1 ≤ b ∧ b ≤ 30) {H1 : Hp} (e1 : ExB p H H1) (P1 : Pot H1 p) {Q : VK}
    (q : ∀ many most (ks : List Kd) u H2, Ψ many most → Good ks → ks ≠ [] → (ks.length : Int) ≤ many → (∀ k ∈ ks, k.2 ≤ most) → ExB p H1 H2 → Pot H2 p → Dp K H2 u (kdD ks) → Q u H2) : tCall (SpKinds K) [] E tr σ H1 Q :=
  h H1 e1 P1 _ fun us H2 e2 P2 ⟨many, most, hus, hΨ⟩ => by
    subst hus
    obtain ⟨b1, b2, b3, b4⟩ := hb _ _ hΨ
    exact ⟨p, many, most, rfl, P2, b1, b2, b3, b4, fun ks u H3 g hne hl hm e3 P3 hd => q many most ks u H3 hΨ g hne hl hm (e2.trans e3) P3 hd⟩
end
section
variable {P : Program} {w : World} {K : PySem.W.Frag} {mg : Str → Option Value} {base : Heap} {C f : Addr} {fd : FuncData}
def SpFew (K : PySem.W.Frag) : Sp := fun vs H Q _ => ∃ (p : Addr), vs = [.ref p] ∧ Pot H p ∧
  ∀ (ks : List Kd) (c L : Nat) u H', Good ks → ks ≠ [] → ((ks.length ≤ 3 ∧ L ≤ 5) ∨ (ks.length ≤ 6 ∧ L ≤ 2)) → Few ks (c : Int) L → c ≤ 100 → ExB p H H' → Pot H' p → Dp K H' u (.tuple [kdD ks, .int (c : Nat)]) → Q u H'
theorem ok_few (T : Tx w K mg C) (G_l_take : Cal P w K mg base 1 "_law_take" SpTake []) (G_l_of : Cal P w K mg base 2 "_law_of" SpOf []) (G_l_kinds : Cal P w K mg base 2 "_law_kinds" (SpKinds K) []) (F : Fun K "_law_few" "_law_few" s_l_few f fd) : FnOk P w K mg base CX0 3 f fd p_l_few (SpFew K) := by
  refine F.ok sc_l_few (fun vs H Q E h => by obtain ⟨p, rfl, _⟩ := h; rfl) fun cdv A outer s H vs Q E hr h => ?_
  obtain ⟨p, rfl, hP, q⟩ := h
  refine ⟨_, (pss_cons (ps_set (i := 1) sc_l_few.nd rfl (.inl rfl) (pe_c G_l_take hr (by decide) (by rfl) (pa_cons (pv 0) (pa_cons pe_int pa_nil))))
(pss_cons (ps_if (pt_cmpR op_lt (pv 1) pe_int (nomark _))
(pss_cons (ps_set (i := 2) sc_l_few.nd rfl (.inl rfl) (pe_c G_l_kinds hr (by decide) (by rfl) (pa_cons (pv 0) (pa_cons pe_int (pa_cons (pe_c G_l_of hr (by decide) (by rfl) (pa_cons (pv 0) (pa_cons (pe_lst (pa_cons pe_int (pa_cons pe_int (pa_cons pe_int pa_nil)))) pa_nil))) pa_nil)))))
(pss_one (ps_set (i := 3) sc_l_few.nd rfl (.inl rfl) (pe_ix (ix_seqK (K := K)) (pe_lst (pa_cons pe_int (pa_cons pe_int (pa_cons pe_int pa_nil)))) (pe_op op_sub (pe_callB call_len (by rfl) T.b_len bt_len (pa_cons (pv 2) pa_nil)) pe_int) (fun _ _ => rfl)))))
(pss_one (ps_par (i := 2) (j := 3) (by rfl) sc_l_few.nd rfl rfl (by decide) rfl rfl (pa_cons (pe_c G_l_kinds hr (by decide) (by rfl) (pa_cons (pv 0) (pa_cons (pe_ix (ix_seqK (K := K)) (pe_lst (pa_cons pe_int (pa_cons pe_int pa_nil))) (pe_op op_sub (pv 1) pe_int) (fun _ _ => rfl)) (pa_cons (pe_ix (ix_seqK (K := K)) (pe_lst (pa_cons pe_int (pa_cons pe_int pa_nil))) (pe_op op_sub (pv 1) pe_int) (fun _ _ => rfl)) pa_nil)))) (pa_cons pe_int pa_nil)) (by rfl))))
(pss_cons (ps_set (i := 4) sc_l_few.nd rfl (.inl rfl) (pe_callB (cr_min rfl) (by rfl) T.b_min bt_min (pa_cons (pe_lc (own := [("_law_long", 5), ("_law_heavy", 6)]) (g := gTup K 2 (gCons (gName 5) (gCons (gName 6) (gNil)))) (tt := tYes) rfl sc_l_few.nd (pi_tup (pv 2)) (blkOk_by (N := n_l_few) (sc := defScope s_l_few) (by decide +kernel)) (fun _ _ _ _ _ => (pg_tup rfl (pgs_cons (pg_name (i := 5) sc_l_few.nd rfl (.inl rfl)) (pgs_cons (pg_name (i := 6) sc_l_few.nd rfl (.inl rfl)) pgs_nil)))) (fun _ _ _ _ _ => pts_nil) (fun _ _ _ _ _ => (pv 6))) pa_nil)))
(pss_one (ps_ret (pe_tup (pa_cons (pv 2) (pa_cons (pe_callB (call_min2 rfl) (by rfl) T.b_min bt_min (pa_cons (pe_op op_add (pe_op op_mul (pv 4) (pv 3)) (pe_c G_l_take hr (by decide) (by rfl) (pa_cons (pv 0) (pa_cons (pv 4) pa_nil)))) (pa_cons (pe_c G_l_take hr (by decide) (by rfl) (pa_cons (pv 0) (pa_cons (pe_op op_add (pe_op op_mul (pv 4) (pv 3)) (pv 4)) pa_nil))) pa_nil))) pa_nil)))))))), ?_⟩
  obtain ⟨H0, hp0, hex, hB0⟩ := hole H p
  have a : At K H0 [.v (.ref p), .un, .un, .un, .un, .un, .un] (start n_l_few [.ref p]) H := ⟨hex, (At.here (N := n_l_few) (HdAll.cons (K := K) (H := H) (l := .v (.ref p)) rfl .nil)).env⟩
  refine q_asgP (ep_take (E := C8.E0) (B := (· = 4)) (ep_ref (te := tVar 0) fun H2 e => (ev_var ((a.P hp0 hP rfl e)).env (i := 0) rfl)) (ep_pure (K := K) fun H2 _ => ev_int (i := 4)) (fun m hm => by omega)) a hp0 hP rfl fun way σ1 H1 hw e1 P1 a1 => ?_
  obtain ⟨_, rfl, w0, w1⟩ := hw
  have a1 : At K H0 [.v (.ref p), .d (.int way), .un, .un, .un, .un, .un] σ1 H1 := a1
  -- what follows the kinds
  have rest : ∀ (ks : List Kd) (L : Nat) (most : Int) (σ2 : L2.St) (H2 : Hp), Good ks → ks ≠ [] → 1 ≤ L → (∀ k ∈ ks, k.2 ≤ most) → ((ks.length ≤ 3 ∧ L ≤ 5 ∧ most ≤ 6) ∨ (ks.length ≤ 6 ∧ L ≤ 2)) → Pot H2 p → At K H0 [.v (.ref p), .d (.int way), .d (kdD ks), .d (.int (L : Nat)), .un, .un, .un] σ2 H2 →
      tSeq (tAsg (tCB (rMin K) (tCons (tLc (iTup K (tVar 2)) (gTup K 2 (gCons (gName 5) (gCons (gName 6) gNil))) tYes (tVar 6) [5, 6]) tNil)) (gName 4))
        (tRet (tTup (tCons (tVar 2) (tCons (tCB (fun xs H Q => ∃ i j, xs = [.int i, .int j] ∧ Q (.int (if j < i then j else i)) H) (tCons (tOp (rI0 fun i j => .int (i + j)) (tOp (rI CMul fun i j => .int (i * j)) (tVar 4) (tVar 3)) (tCall SpTake [] C8.E0 (tCons (tVar 0) (tCons (tVar 4) tNil)))) (tCons (tCall SpTake [] C8.E0 (tCons (tVar 0) (tCons (tOp (rI0 fun i j => .int (i + j)) (tOp (rI CMul fun i j => .int (i * j)) (tVar 4) (tVar 3)) (tVar 4)) tNil))) tNil))) tNil)))) { nx := fun _ H' => Q .non H', rt := Q } σ2 H2 := by
    intro ks L most σ2 H2 g hne hL hm hsz P2 a2
    have hk1000 : ks.length ≤ 1000 := by rcases hsz with h | h <;> omega
    have hmk : ks.map (·.2) ≠ [] := by simpa using hne
    have hlc := en_lcA (vs := [5, 6]) (te := tVar 6) (fun k : Kd => .int k.2) (src_kd2 (i := 5) (j := 6) ((ev_var (a2).env (i := 2) rfl))) a2.env (Nat.le_trans hk1000 (by decide)) (by decide) (fun _ _ => rfl) fun k _ σ' H' e en => (ev_var en (i := 6) rfl)
    refine q_asg a2 (ev_min (ns := ks.map (·.2)) (en_cast hlc (by rw [List.map_map]; rfl)).toS hmk) fun σ3 H3 e3 a3 => ?_
    obtain ⟨k0, hk0, hk1⟩ := List.mem_map.mp (lmin_mem hmk)
    have gk0 := g k0 hk0
    have mk0 := hm k0 hk0
    have hle : ∀ k ∈ ks, lmin (ks.map (·.2)) ≤ k.2 := fun k hk => lmin_le (List.mem_map.mpr ⟨k, hk, rfl⟩)
    generalize lmin (ks.map (·.2)) = light at *
    have l1 : 1 ≤ light := by omega
    have l2 : light ≤ 30 := by omega
    have hml : 1 ≤ light * (L : Int) ∧ light * (L : Int) ≤ 60 := by
      have h1 : (1 : Int) * 1 ≤ light * (L : Int) := Int.mul_le_mul l1 (by omega) (by decide) (by omega)
      refine ⟨by omega, ?_⟩
      rcases hsz with ⟨_, h5, h6⟩ | ⟨_, h2⟩
      · have : light * (L : Int) ≤ 6 * 5 := Int.mul_le_mul (by omega) (by omega) (by omega) (by decide)
        omega
      · have : light * (L : Int) ≤ 30 * 2 := Int.mul_le_mul (by omega) (by omega) (by omega) (by decide)
        omega
    have P3 := P2.mono e3
    have nls : ([.v (.ref p), .d (.int way), .d (kdD ks), .d (.int (L : Nat)), .d (.int light), .un, .un] : List Sl).all noLS = true := by simp [noLS, noL, noL_prs]
    have a3 : At K H0 [.v (.ref p), .d (.int way), .d (kdD ks), .d (.int (L : Nat)), .d (.int light), .un, .un] σ3 H3 := a3
    have pv0 : EvP (tVar 0) p σ3 H3 (· = .ref p) := ep_ref fun H4 e4 => (ev_var ((a3.P hp0 P3 nls e4)).env (i := 0) rfl)
    have pm : EvP (tOp (rI CMul fun i j => .int (i * j)) (tVar 4) (tVar 3)) p σ3 H3 (IntP (· = light * (L : Int))) := ep_pure fun H4 e4 => ev_mul ((ev_var ((a3.P hp0 P3 nls e4)).env (i := 4) rfl)) ((ev_var ((a3.P hp0 P3 nls e4)).env (i := 3) rfl)) (small_mul ⟨by omega, by omega⟩)
    have p4 : EvP (tVar 4) p σ3 H3 (IntP (· = light)) := ep_pure fun H4 e4 => (ev_var ((a3.P hp0 P3 nls e4)).env (i := 4) rfl)
    have hcap := ep_min2 (C := fun c => 0 ≤ c ∧ c < light * (L : Int) + light) (ep_op (g := fun i j => i + j) (C := fun c => 0 ≤ c ∧ c < light * (L : Int) + light) pm (ep_take (E := C8.E0) pv0 p4 (fun n hn => by omega)) fun i j hi hj => by
      obtain ⟨n, hn, j0, j1⟩ := hj
      omega) (ep_take (E := C8.E0) (B := (· = light * (L : Int) + light)) pv0 (ep_op (g := fun i j => i + j) pm p4 fun i j hi hj => by omega) (fun n hn => by omega)) fun i j hi hj => by
      obtain ⟨n, hn, j0, j1⟩ := hj
      split <;> omega
    refine ((ev_var (a3).env (i := 2) rfl)) H3 (Ex.refl _) _ fun u H4 e4 hu => hcap H4 (.of e4) (P3.mono e4) _ fun w H5 e5 P5 ⟨c, hw, c0, c1⟩ => ⟨(show 2 ≤ sizeLine by decide), fun t nt => ?_⟩
    subst hw
    obtain ⟨cn, rfl⟩ := Int.eq_ofNat_of_zero_le c0
    have a5 := (a3.mono e4).P hp0 (P3.mono e4) nls e5
    have hu5 : Dp K H5 u (kdD ks) := by
      obtain ⟨_, _, hpp, _⟩ := P3.mono e4
      exact dp_monoT (e5.toT hpp) _ (noL_kd ks) hu
    refine q ks cn L _ _ g hne (by rcases hsz with h | h <;> omega) (few_of g (by omega) hle ?_) (by omega) (exB_of hB0 (a5.ex.trans (Ex.new nt))) (P5.mono (Ex.new nt)) (.tup (.of upd_same) (.cons (dp_mono (Ex.new nt) _ hu5) (.cons (.int _) .nil)))
    rw [Int.mul_add, Int.mul_one]
    exact c1
  refine q_if a1 (et_s (ev_lt ((ev_var (a1).env (i := 1) rfl)) ev_int)) (fun hb H2 e2 a2 => ?_) fun hb H2 e2 a2 => ?_
  · have P2 := P1.mono e2
    have hof := ep_of (E := C8.E0) (is := [3, 4, 6]) (ep_ref (te := tVar 0) fun H3 e => (ev_var ((a2.P hp0 P2 rfl e)).env (i := 0) rfl)) (H := H2) (σ := σ1) (tr := tCons (tC (.int 3)) (tCons (tC (.int 4)) (tCons (tC (.int 6)) tNil))) (fun H3 e3 P3 Q3 q3 => (epa_cons (ep_pure (K := K) fun _ _ => ev_int (i := 3)) (epa_cons (ep_pure (K := K) fun _ _ => ev_int (i := 4)) (epa_cons (ep_pure (K := K) fun _ _ => ev_int (i := 6)) epa_nil))) H3 e3 P3 Q3 fun us H4 e4 P4 hus => q3 us H4 e4 P4 (by
      obtain ⟨_, _, rfl, ⟨_, rfl, rfl⟩, _, _, rfl, ⟨_, rfl, rfl⟩, _, _, rfl, ⟨_, rfl, rfl⟩, rfl⟩ := hus
      rfl)) (by decide) (by decide)
    have hargs : EvPA (tCons (tVar 0) (tCons (tC (.int 3)) (tCons (tCall SpOf [] C8.E0 (tCons (tVar 0) (tCons (tLst (tCons (tC (.int 3)) (tCons (tC (.int 4)) (tCons (tC (.int 6)) tNil)))) tNil))) tNil))) p σ1 H2 (fun us => ∃ many most : Int, us = [.ref p, .int many, .int most] ∧ (many = 3 ∧ 1 ≤ most ∧ most ≤ 6)) := fun H3 e3 P3 Q3 q3 =>
      (epa_cons (ep_ref fun H4 e => (ev_var ((a2.P hp0 P2 rfl e)).env (i := 0) rfl)) (epa_cons (ep_pure (K := K) fun _ _ => ev_int (i := 3)) (epa_cons hof epa_nil))) H3 e3 P3 Q3 fun us H4 e4 P4 hus => q3 us H4 e4 P4 (by
        obtain ⟨_, _, rfl, rfl, _, _, rfl, ⟨_, rfl, rfl⟩, _, _, rfl, ⟨m, rfl, hm⟩, rfl⟩ := hus
        refine ⟨3, m, rfl, rfl, ?_⟩
        simp at hm
        rcases hm with rfl | rfl | rfl <;> decide)
    refine ex_kinds (K := K) (Ψ := fun a b => a = 3 ∧ 1 ≤ b ∧ b ≤ 6) hargs (fun a b h => by omega) (.refl _ _) P2 fun many most ks u H3 hΨ g hne hl hm e3 P3 hd => ?_
    have a3 := (a2.P hp0 P2 rfl e3).put 2 (l := .d (kdD ks)) (u := u) hd
    have hl1 := List.length_pos_iff.mpr hne
    have hl3 : ks.length ≤ 3 := by omega
    have hL : ∃ L : Nat, 1 ≤ L ∧ L ≤ 5 ∧ atI ([.int 5, .int 4, .int 3] : List PyData) ((ks.length : Int) - 1) = some (.int (L : Nat)) := by
      rcases (by omega : ks.length = 1 ∨ ks.length = 2 ∨ ks.length = 3) with h | h | h
      · exact ⟨5, by decide, by decide, by rw [h]; rfl⟩
      · exact ⟨4, by decide, by decide, by rw [h]; rfl⟩
      · exact ⟨3, by decide, by decide, by rw [h]; rfl⟩
    obtain ⟨L, L1, L5, hat⟩ := hL
    have hlen := ev_lenT ((ev_var (a3).env (i := 2) rfl))
    rw [List.length_map] at hlen
    refine s_asg a3 (ev_ixL (en_lst (ds := [.int 5, .int 4, .int 3]) (ea_cons ev_int (ea_cons ev_int (ea_cons ev_int ea_nil))) (by decide : 3 ≤ 100000)).toS (ev_sub hlen (ev_int (i := 1))) hat) fun σ4 H4 e4 a4 => ?_
    exact rest ks L most σ4 H4 g hne L1 hm (.inl ⟨hl3, L5, hΨ.2.2⟩) (P3.mono e4) a4
  · have P2 := P1.mono e2
    have hw2 : 2 ≤ way := by have := of_decide_eq_false hb; omega
    have pick : ∀ (x y : Int), EvP (tOp (rIx K) (tLst (tCons (tC (.int x)) (tCons (tC (.int y)) tNil))) (tOp (rI0 fun i j => .int (i - j)) (tVar 1) (tC (.int 2)))) p σ1 H2 (IntP (· = if way = 2 then x else y)) := fun x y => ep_pure fun H3 e3 => ev_ixL (en_lst (ds := [.int x, .int y]) (ea_cons ev_int (ea_cons ev_int ea_nil)) (by decide : 2 ≤ 100000)).toS (ev_sub ((ev_var ((a2.P hp0 P2 rfl e3)).env (i := 1) rfl)) (ev_int (i := 2))) (by
      rcases (by omega : way = 2 ∨ way = 3) with h | h
      · subst h; rfl
      · subst h; rfl)
    have hargs : EvPA (tCons (tVar 0) (tCons (tOp (rIx K) (tLst (tCons (tC (.int 6)) (tCons (tC (.int 3)) tNil))) (tOp (rI0 fun i j => .int (i - j)) (tVar 1) (tC (.int 2)))) (tCons (tOp (rIx K) (tLst (tCons (tC (.int 8)) (tCons (tC (.int 30)) tNil))) (tOp (rI0 fun i j => .int (i - j)) (tVar 1) (tC (.int 2)))) tNil))) p σ1 H2 (fun us => ∃ many most : Int, us = [.ref p, .int many, .int most] ∧ (1 ≤ many ∧ many ≤ 6 ∧ 1 ≤ most ∧ most ≤ 30)) := fun H3 e3 P3 Q3 q3 =>
      (epa_cons (ep_ref fun H4 e => (ev_var ((a2.P hp0 P2 rfl e)).env (i := 0) rfl)) (epa_cons (pick 6 3) (epa_cons (pick 8 30) epa_nil))) H3 e3 P3 Q3 fun us H4 e4 P4 hus => q3 us H4 e4 P4 (by
        obtain ⟨_, _, rfl, rfl, _, _, rfl, ⟨m1, rfl, hm1⟩, _, _, rfl, ⟨m2, rfl, hm2⟩, rfl⟩ := hus
        have hm1 : m1 = if way = 2 then 6 else 3 := hm1
        have hm2 : m2 = if way = 2 then 8 else 30 := hm2
        refine ⟨m1, m2, rfl, ?_⟩
        rcases (by omega : way = 2 ∨ way = 3) with h | h
        · rw [if_pos h] at hm1 hm2
          omega
        · rw [if_neg (by omega)] at hm1 hm2
          omega)
    refine ex_kinds (K := K) (Ψ := fun a b => 1 ≤ a ∧ a ≤ 6 ∧ 1 ≤ b ∧ b ≤ 30) hargs (fun a b h => by omega) (.refl _ _) P2 fun many most ks u H3 hΨ g hne hl hm e3 P3 hd => ?_
    have a3 := ((a2.P hp0 P2 rfl e3).put 2 (l := .d (kdD ks)) (u := u) hd).put 3 (l := .d (.int ((2 : Nat) : Int))) (u := .int 2) (.int _)
    exact ⟨u, .int 2, rfl, rest ks 2 most _ H3 g hne (by decide) hm (.inr ⟨by omega, by decide⟩) P3 a3⟩
end
end Wk

set_option maxHeartbeats 200000
set_option Elab.async false
set_option linter.all false
set_option maxRecDepth 100000
set_option maxHeartbeats 1000000
/-! WrS0: dicts with nested keys over data; lists that are walked where other things are written; fresh lists from may and bad. -/
namespace Wk
open PySem PySem.Spec PyProof.Rows L2 Evl Wr
open C8 (Cal pe_c Met pe_mt pe_mt0 Mak pe_mk)
/-! ### keys -/
def kMs (m : Int × Nat) : NestedKey := .tup [.num m.1, .num (m.2 : Nat)]
def kSt (st : RSt) : NestedKey := .tup [.num st.1, .tup (st.2.map kMs)]
def kSh : Wr.Shape → NestedKey
  | .long => .tup [.text "long"]
  | .short h b => .tup [.text "short end", .num h, .num b]
  | .caught h b p t => .tup [.text "caught up", .num h, .num b, .num p, .num (t : Nat)]
def kM (x : Wr.Shape × Nat) : NestedKey := .tup [kSh x.1, .num (x.2 : Nat)]
theorem kMs_data (m : Int × Nat) : (kMs m).data = msD m := rfl
theorem datas_map {α : Type} {f : α → NestedKey} {g : α → PyData} (h : ∀ x, (f x).data = g x) : ∀ xs : List α, NestedKey.datas (xs.map f) = xs.map g
  | [] => rfl
  | x :: xs => by
    show (f x).data :: NestedKey.datas (xs.map f) = g x :: xs.map g
    rw [h x, datas_map h xs]
theorem kSt_data (st : RSt) : (kSt st).data = stD st := by
  show PyData.tuple [.int st.1, .tuple (NestedKey.datas (st.2.map kMs))] = _
  rw [datas_map kMs_data]
theorem kSh_data (sh : Wr.Shape) : (kSh sh).data = shD sh := by cases sh <;> rfl
theorem kM_data (x : Wr.Shape × Nat) : (kM x).data = .tuple [shD x.1, .int (x.2 : Nat)] := by
  show PyData.tuple [(kSh x.1).data, .int (x.2 : Nat)] = _
  rw [kSh_data]
theorem kMs_inj {a b : Int × Nat} (h : kMs a = kMs b) : a = b := by
  obtain ⟨a1, a2⟩ := a
  obtain ⟨b1, b2⟩ := b
  simp [kMs] at h
  obtain ⟨h1, h2⟩ := h
  rw [h1, show a2 = b2 by omega]
theorem map_inj {α β : Type} {f : α → β} (h : ∀ {a b}, f a = f b → a = b) : ∀ {xs ys : List α}, xs.map f = ys.map f → xs = ys
  | [], [], _ => rfl
  | [], _ :: _, e => by simp at e
  | _ :: _, [], e => by simp at e
  | a :: xs, b :: ys, e => by
    simp only [List.map_cons, List.cons.injEq] at e
    rw [h e.1, map_inj h e.2]
theorem kSt_inj {a b : RSt} (h : kSt a = kSt b) : a = b := by
  obtain ⟨a1, a2⟩ := a
  obtain ⟨b1, b2⟩ := b
  simp only [kSt, NestedKey.tup.injEq, List.cons.injEq, NestedKey.num.injEq, and_true] at h
  rw [h.1, map_inj kMs_inj h.2]
theorem kSh_inj {a b : Wr.Shape} (h : kSh a = kSh b) : a = b := by
  have := congrArg NestedKey.data h
  rw [kSh_data, kSh_data] at this
  cases a <;> cases b <;> simp [shD] at this ⊢ <;> first | exact this | omega | (exact absurd this (by decide)) | skip
theorem kM_inj {a b : Wr.Shape × Nat} (h : kM a = kM b) : a = b := by
  obtain ⟨a1, a2⟩ := a
  obtain ⟨b1, b2⟩ := b
  simp only [kM, NestedKey.tup.injEq, List.cons.injEq, NestedKey.num.injEq, and_true] at h
  rw [kSh_inj h.1]
  have := h.2
  simp
  omega
theorem dep_le {n : Nat} {ks : List NestedKey} (h : ∀ k ∈ ks, k.depth ≤ n) : (NestedKey.tup ks).depth ≤ n + 1 := by
  have aux : ∀ l : List NestedKey, (∀ k ∈ l, k.depth ≤ n) → NestedKey.depthAll l ≤ n := by
    intro l
    induction l with
    | nil => intro _; simp [NestedKey.depthAll]
    | cons k l ih =>
      intro h
      have h1 := ih fun x hx => h x (List.mem_cons_of_mem _ hx)
      have h2 := h k List.mem_cons_self
      simp only [NestedKey.depthAll]
      omega
  have := aux ks h
  simp only [NestedKey.depth]
  omega
theorem dep_num (i : Int) : (NestedKey.num i).depth ≤ 0 := by simp [NestedKey.depth]
theorem dep_txt (i : Str) : (NestedKey.text i).depth ≤ 0 := by simp [NestedKey.depth]
theorem kMs_dep (m : Int × Nat) : (kMs m).depth ≤ 1 := dep_le fun k hk => by
  rcases List.mem_cons.mp hk with rfl | hk
  · exact dep_num _
  · rw [List.mem_singleton.mp hk]; exact dep_num _
theorem kSt_dep (st : RSt) : (kSt st).depth ≤ 8 := Nat.le_trans (dep_le (n := 2) fun k hk => by
  rcases List.mem_cons.mp hk with rfl | hk
  · exact Nat.le_trans (dep_num _) (by decide)
  · rw [List.mem_singleton.mp hk]
    exact dep_le fun k hk => by
      obtain ⟨m, _, rfl⟩ := List.mem_map.mp hk
      exact kMs_dep m) (by decide)
theorem kSh_dep (sh : Wr.Shape) : (kSh sh).depth ≤ 1 := by
  cases sh <;> refine dep_le fun k hk => ?_ <;> simp at hk
  · rw [hk]; exact dep_txt _
  · rcases hk with rfl | rfl | rfl
    · exact dep_txt _
    · exact dep_num _
    · exact dep_num _
  · rcases hk with rfl | rfl | rfl | rfl | rfl
    · exact dep_txt _
    all_goals exact dep_num _
theorem kM_dep (x : Wr.Shape × Nat) : (kM x).depth ≤ 8 := Nat.le_trans (dep_le (n := 1) fun k hk => by
  rcases List.mem_cons.mp hk with rfl | hk
  · exact kSh_dep _
  · rw [List.mem_singleton.mp hk]
    exact Nat.le_trans (dep_num _) (by decide)) (by decide)
section
variable {K : PySem.W.Frag} {P : Program} {w : World} {H0 H H' : Hp} {sl : List Sl} {σ : L2.St} {ta tb te tl : TE} {tr : TA} {D : Ends} {tz tu : TS} {g : TG} {d : Addr} {kvs : List Ent}
/-- a value that is a key's data, where it stands -/
theorem key_of {k : NestedKey} {ks : List NestedKey} {u : V} {x : PyData} (hk : k = .tup ks) (e : k.data = x) (hd : k.depth ≤ 8) (h : Dp K H u x) : ∃ b, u = .ref b ∧ KeyAt K H k b := by
  subst hk
  rw [← e] at h
  obtain ⟨b, _, rfl, _⟩ := dp_tup (ds := NestedKey.datas ks) h
  exact ⟨b, rfl, h, hd⟩
theorem kSt_of {st : RSt} {u : V} (h : Dp K H u (stD st)) : ∃ b, u = .ref b ∧ KeyAt K H (kSt st) b := key_of rfl (kSt_data st) (kSt_dep st) h
theorem kM_of {x : Wr.Shape × Nat} {u : V} (h : Dp K H u (.tuple [shD x.1, .int (x.2 : Nat)])) : ∃ b, u = .ref b ∧ KeyAt K H (kM x) b := key_of rfl (kM_data x) (kM_dep x) h
/-- d[k] -/
theorem ev_ngetF {st : RSt} {q : Addr} {v : V} {dv : PyData} (ha : EvS K ta σ H (.v (.ref d))) (hb : EvS K tb σ H (.d (stD st))) (n : ND K P w H d kvs) (hm : (kSt st, q, v) ∈ kvs) (hv : Dp K H v dv) : EvS K (tNGet K P w ta tb) σ H (.d dv) := fun H1 e Q qq =>
  ha H1 e _ fun u H2 e2 hu => hb H2 (e.trans e2) _ fun y H3 e3 hy => by
    obtain ⟨b, rfl, hk⟩ := kSt_of hy
    exact ⟨d, b, kSt st, kvs, q, v, hu, rfl, n.mono ((e.trans e2).trans e3), hk, hm, qq v H3 (e2.trans e3) (dp_mono ((e.trans e2).trans e3) _ hv)⟩
/-- k not in d -/
theorem ev_nnotF {st : RSt} (hb : EvS K tb σ H (.d (stD st))) (ha : EvS K ta σ H (.v (.ref d))) (n : ND K P w H d kvs) : EvS K (tNNotIn K P w tb ta) σ H (.d (.bool (!decide (kSt st ∈ kvs.map (·.1))))) := fun H1 e Q qq =>
  hb H1 e _ fun y H2 e2 hy => ha H2 (e.trans e2) _ fun u H3 e3 hu => by
    obtain ⟨b, rfl, hk⟩ := kSt_of (dp_mono e3 _ hy)
    exact ⟨d, b, kSt st, kvs, hu, rfl, n.mono ((e.trans e2).trans e3), hk, qq _ H3 (e2.trans e3) (.bl _)⟩
/-- d[k] = v -/
theorem s_nput {k : NestedKey} {x dv : PyData} (hk : ∀ {H : Hp} {u : V}, Dp K H u x → ∃ b, u = .ref b ∧ KeyAt K H k b) (hv : EvS K te σ H (.d dv)) (ha : EvS K ta σ H (.v (.ref d))) (hb : EvS K tb σ H (.d x)) (n : ND K P w H d kvs) (hl : kvs.length < 4000000)
    (kk : ∀ b v u H1, Ex H H1 → ND K P w H1 d kvs → Dp K H1 v dv → ND K P w (upd H1 d u) d (putE kvs k b v) → D.nx σ (upd H1 d u)) : sNPut K P w ta tb te D σ H :=
  hv H (Ex.refl _) _ fun v H1 e1 hv' => ha H1 e1 _ fun u H2 e2 hu => hb H2 (e1.trans e2) _ fun y H3 e3 hy => by
    obtain ⟨b, rfl, hk'⟩ := hk hy
    have e := (e1.trans e2).trans e3
    exact ⟨d, b, k, kvs, hu, rfl, n.mono e, hk', Nat.lt_trans hl (by decide), fun u' nd => kk b v u' H3 e (n.mono e) (dp_mono (e2.trans e3) _ hv') nd⟩
theorem q_nput {k : NestedKey} {x dv : PyData} (hk : ∀ {H : Hp} {u : V}, Dp K H u x → ∃ b, u = .ref b ∧ KeyAt K H k b) (hv : EvS K te σ H (.d dv)) (ha : EvS K ta σ H (.v (.ref d))) (hb : EvS K tb σ H (.d x)) (n : ND K P w H d kvs) (hl : kvs.length < 4000000)
    (kk : ∀ b v u H1, Ex H H1 → ND K P w H1 d kvs → Dp K H1 v dv → ND K P w (upd H1 d u) d (putE kvs k b v) → tz D σ (upd H1 d u)) : tSeq (sNPut K P w ta tb te) tz D σ H := s_nput (D := { D with nx := tz D }) hk hv ha hb n hl kk
/-- the state where the dict at d is written -/
theorem At.wrD (a : At K H0 sl σ H) (n : ND K P w H d kvs) (hd : H0 d = none) (hs : sl.all noLS = true) {o : HO} : At K H0 sl σ (upd H d o) := by
  obtain ⟨u, h, _, h1, h2⟩ := n.there
  exact a.wr hd h h1 h2 hs
theorem ND.exT (n : ND K P w H d kvs) {o : HO} : ExT H (upd H d o) := by
  obtain ⟨u, h, _, h1, h2⟩ := n.there
  exact exT_upd h h1 h2
theorem ND.other {a : Addr} {u o : HO} (n : ND K P w H d kvs) (ha : H a = some u) (h1 : ∀ xs, u ≠ .tup xs) (h2 : ∀ o xs, u ≠ .frz o (.tup xs)) (hne : d ≠ a) : ND K P w (upd H a o) d kvs := n.keep (exT_upd ha h1 h2) fun x h => by rw [upd_ne hne]; exact h
/-! ### walks of a list that stands, while other things are written -/
def KpA (a : Addr) (H H' : Hp) : Prop := ExT H H' ∧ ∀ o, H a = some o → H' a = some o
theorem src_at1 {a : Addr} {xs : List V} {ds : List PyData} {j : Nat} (h : EvS K tl σ H (.v (.ref a))) (hp : H a = some (.lst xs)) (hd : DpAll K H xs ds) (hn : noLs ds = true) : Src K (iList K tl) (gName j) [j] σ H (ds.map fun d => [.d d]) (KpA a) := by
  refine ⟨fun _ _ e => ⟨exT_of e, fun o h => e _ _ h⟩, fun ls h => ?_, fun H1 e R r => h H1 e _ fun u H2 e2 hu => ?_⟩
  · obtain ⟨d, _, rfl⟩ := List.mem_map.mp h
    rfl
  · have hp2 := e2 _ _ (e _ _ hp)
    have hd2 := dpa_mono (e.trans e2) _ hd
    refine ⟨a, hu, ⟨xs, .of hp2⟩, r _ H2 _ _ e2 (by rw [List.length_map, ← dpa_length hd]; exact walk_list) (fun H' k => SqL.of (k.2 _ hp2)) fun i ls x H' H'' hi k y => ?_⟩
    obtain ⟨rfl, hx⟩ := y
    obtain ⟨d, hd1, hd2⟩ := dpa_at (dpa_monoT k.1 _ hn hd2) hx
    rw [List.getElem?_map, hd1] at hi
    obtain rfl : [Sl.d d] = ls := Option.some.inj hi
    exact ⟨Ex.refl _, gives_name hd2⟩
theorem src_at2 {α : Type} {a : Addr} {xs : List V} {zs : List α} {f1 f2 : α → PyData} {i j : Nat} (h : EvS K tl σ H (.v (.ref a))) (hp : H a = some (.lst xs)) (hd : DpAll K H xs (zs.map fun z => .tuple [f1 z, f2 z])) (hn : noLs (zs.map fun z => PyData.tuple [f1 z, f2 z]) = true) :
    Src K (iList K tl) (gTup K 2 (gCons (gName i) (gCons (gName j) gNil))) [i, j] σ H (zs.map fun z => [.d (f1 z), .d (f2 z)]) (KpA a) := by
  refine ⟨fun _ _ e => ⟨exT_of e, fun o h => e _ _ h⟩, fun ls h => ?_, fun H1 e R r => h H1 e _ fun u H2 e2 hu => ?_⟩
  · obtain ⟨d, _, rfl⟩ := List.mem_map.mp h
    rfl
  · have hp2 := e2 _ _ (e _ _ hp)
    have hd2 := dpa_mono (e.trans e2) _ hd
    refine ⟨a, hu, ⟨xs, .of hp2⟩, r _ H2 _ _ e2 (by rw [List.length_map, show zs.length = xs.length by rw [dpa_length hd, List.length_map]]; exact walk_list) (fun H' k => SqL.of (k.2 _ hp2)) fun k ls x H' H'' hi kk y => ?_⟩
    obtain ⟨rfl, hx⟩ := y
    obtain ⟨d, hd1, hd2⟩ := dpa_at (dpa_monoT kk.1 _ hn hd2) hx
    rw [List.getElem?_map] at hi hd1
    cases hz : zs[k]? with
    | none => rw [hz] at hi; cases hi
    | some z =>
      rw [hz] at hi hd1
      obtain rfl : [Sl.d (f1 z), .d (f2 z)] = ls := Option.some.inj hi
      obtain rfl : PyData.tuple [f1 z, f2 z] = d := Option.some.inj hd1
      exact ⟨Ex.refl _, gives_two hd2⟩
/-- a for over a new list -/
theorem s_forN {ds : List PyData} (h : EvN K tl σ H ds) (k : ∀ p xs H1, H p = none → Ex H H1 → H1 p = some (.lst xs) → DpAll K H1 xs ds → tFor (iList K (tC (.ref p))) g tu D σ H1) : tFor (iList K tl) g tu D σ H :=
  h H (Ex.refl _) _ fun p xs H1 hp e hx hd => k p xs H1 hp e hx hd
theorem ev_c {v : V} : EvS K (tC v) σ H (.v v) := fun H1 _ Q q => q v H1 (Ex.refl _) rfl
/-- the keys of a dict, by a name -/
theorem src_nkeys {j : Nat} (h : EvS K tl σ H (.v (.ref d))) (n : ND K P w H d kvs) : Src K (iNKeys K P w tl) (gName j) [j] σ H (kvs.map fun e => [.d e.1.data]) (KpA d) := by
  refine ⟨fun _ _ e => ⟨exT_of e, fun o h => e _ _ h⟩, fun ls h => ?_, fun H1 e R r => h H1 e _ fun u H2 e2 hu => ?_⟩
  · obtain ⟨d, _, rfl⟩ := List.mem_map.mp h
    rfl
  · have n2 := n.mono (e.trans e2)
    refine ⟨d, kvs, hu, n2, fun es ep hd => r _ H2 _ _ e2 (by rw [List.length_map, ← List.length_map (f := fun e : Ent => e.2.1)]; exact walk_n (K := K)) (fun H' k => k.2 _ hd) fun i ls x H' H'' hi k y => ?_⟩
    obtain ⟨rfl, q, hq, rfl⟩ := y
    rw [List.getElem?_map] at hi hq
    cases hz : kvs[i]? with
    | none => rw [hz] at hi; cases hi
    | some z =>
      rw [hz] at hi hq
      obtain rfl := Option.some.inj hi
      obtain rfl : z.2.1 = q := Option.some.inj hq
      exact ⟨Ex.refl _, gives_name ((n2.key z (List.mem_of_getElem? hz)).monoT k.1).1⟩
theorem src_nkeys2 {i j : Nat} {α : Type} {zs : List α} {f1 f2 : α → PyData} (h : EvS K tl σ H (.v (.ref d))) (n : ND K P w H d kvs) (hk : kvs.map (·.1.data) = zs.map fun z => .tuple [f1 z, f2 z]) : Src K (iNKeys K P w tl) (gTup K 2 (gCons (gName i) (gCons (gName j) gNil))) [i, j] σ H (zs.map fun z => [.d (f1 z), .d (f2 z)]) (KpA d) := by
  refine ⟨fun _ _ e => ⟨exT_of e, fun o h => e _ _ h⟩, fun ls h => ?_, fun H1 e R r => h H1 e _ fun u H2 e2 hu => ?_⟩
  · obtain ⟨d, _, rfl⟩ := List.mem_map.mp h
    rfl
  · have n2 := n.mono (e.trans e2)
    have hlen : zs.length = kvs.length := by rw [← List.length_map (f := fun z => PyData.tuple [f1 z, f2 z]), ← hk, List.length_map]
    refine ⟨d, kvs, hu, n2, fun es ep hd => r _ H2 _ _ e2 (by rw [List.length_map, hlen, ← List.length_map (f := fun e : Ent => e.2.1)]; exact walk_n (K := K)) (fun H' k => k.2 _ hd) fun i ls x H' H'' hi k y => ?_⟩
    obtain ⟨rfl, q, hq, rfl⟩ := y
    rw [List.getElem?_map] at hi hq
    cases hz : kvs[i]? with
    | none => rw [hz] at hq; cases hq
    | some z =>
      rw [hz] at hq
      obtain rfl : z.2.1 = q := Option.some.inj hq
      have hkz : (kvs.map (·.1.data))[i]? = some z.1.data := by rw [List.getElem?_map, hz]; rfl
      rw [hk, List.getElem?_map] at hkz
      cases hy : zs[i]? with
      | none => rw [hy] at hkz; cases hkz
      | some y =>
        rw [hy] at hi hkz
        obtain rfl := Option.some.inj hi
        have hdd := ((n2.key z (List.mem_of_getElem? hz)).monoT k.1).1
        rw [← Option.some.inj hkz] at hdd
        exact ⟨Ex.refl _, gives_two hdd⟩
end
/-! ### promises of new lists -/
def SpN (K : PySem.W.Frag) {α : Type} (enc : α → List PyData) (Pre : α → Prop) (r : α → List PyData) : Sp := fun vs H Q _ => ∃ x : α, Pre x ∧ DpAll K H vs (enc x) ∧ ∀ p xs H', H p = none → Ex H H' → H' p = some (.lst xs) → DpAll K H' xs (r x) → Q (.ref p) H'
theorem evN {K : PySem.W.Frag} {α : Type} {enc : α → List PyData} {Pre : α → Prop} {r : α → List PyData} {H : Hp} {σ : L2.St} {tr : TA} {E : XK} {x : α} (h : EvAS K tr σ H ((enc x).map .d)) (hp : Pre x) : EvN K (tCall (SpN K enc Pre r) [] E tr) σ H (r x) := fun H1 e Q q =>
  h H1 e _ fun us H2 e2 hus => ⟨x, hp, by rw [List.append_nil]; exact hda_d hus, fun p xs H3 hp' e3 hx hd => q p xs H3 (fresh_back e2 hp') (e2.trans e3) hx hd⟩
section
variable {P : Program} {w : World} {K : PySem.W.Frag} {mg : Str → Option Value} {base : Heap} {C f : Addr} {fd : FuncData}
abbrev numsL (ns : List Nat) : List PyData := ns.map fun n => .int (n : Nat)
abbrev mayE (x : List Kd × Int × List (Int × Nat)) : List PyData := [kdD x.1, .int x.2.1, msgsD x.2.2]
abbrev mayP (x : List Kd × Int × List (Int × Nat)) : Prop := x.1.length ≤ 1000 ∧ x.2.2.length ≤ 1000 ∧ ∀ m ∈ x.2.2, m.2 < x.1.length
abbrev spMayN (K : PySem.W.Frag) : Sp := SpN K mayE mayP fun x => numsL (may x.1 x.2.1 x.2.2)
theorem ok_mayN (T : Tx w K mg C) (G_l_paid : Cal P w K mg base 1 "_law_paid" (spPaid K) []) (F : Fun K "_law_may" "_law_may" s_l_may f fd) : FnOk P w K mg base CX0 2 f fd p_l_may (spMayN K) := by
  refine F.ok sc_l_may (fun vs H Q E ⟨x, _, hd, _⟩ => by rw [dpa_length hd]; rfl) fun cdv A outer s H vs Q E hr ⟨x, hp, hd, q⟩ => ?_
  have a := at_here (N := n_l_may) (n := 3) hd rfl
  suffices S : ∃ t, PSs ((cxOf CX0 P w K mg base n_l_may "_law_may" (defScope s_l_may) f cdv A outer s H E).nox) (defBody s_l_may) t ∧ t { nx := fun _ H' => Q .non H', rt := Q } (start n_l_may vs) H from S
  refine ⟨_, (pss_cons (ps_set (i := 3) sc_l_may.nd rfl (.inr rfl) (pe_c G_l_paid hr (by decide) (by rfl) (pa_cons (pv 0) (pa_cons (pv 2) pa_nil))))
(pss_one (ps_ret (pe_lc (own := [("_law_number", 4), ("_law_one", 5)]) (g := gTup K 2 (gCons (gName 4) (gCons (gName 5) (gNil)))) rfl sc_l_may.nd (pi_enumT (by rfl) T.b_enumerate (pa_cons (pv 0) pa_nil)) (blkOk_by (N := n_l_may) (sc := defScope s_l_may) (by decide +kernel)) (fun _ _ _ _ _ => (pg_tup rfl (pgs_cons (pg_name (i := 4) sc_l_may.nd rfl (.inl rfl)) (pgs_cons (pg_name (i := 5) sc_l_may.nd rfl (.inl rfl)) pgs_nil)))) (fun _ _ _ _ _ => (pts_one (pt_cmpR op_le (pe_op op_add (pv 3) (pe_ix (ix_seqK (K := K)) (pv 5) pe_int (fun _ _ => rfl))) (pv 1) (nomark _)))) (fun _ _ _ _ _ => (pv 4)))))), ?_⟩
  obtain ⟨ks, c, ms⟩ := x
  have a : At K H [.d (kdD ks), .d (.int c), .d (msgsD ms), .un, .un, .un] (start n_l_may vs) H := a
  refine q_asg a (evD (x := (ks, ms)) (ea_cons ((ev_var (a).env (i := 0) rfl)) (ea_cons ((ev_var (a).env (i := 2) rfl)) ea_nil)) ⟨hp.2.1, hp.2.2⟩) fun σ1 H1 e1 a1 => ?_
  refine (en_lc (fun n : Nat => decide (paid ks ms + kw ks n ≤ c)) (fun n => .int (n : Nat)) (src_ken (ea_cons ((ev_var (a1).env (i := 0) rfl)) ea_nil)) a1.env (by rw [List.length_range]; exact Nat.le_trans hp.1 (by decide)) (by decide) (fun _ _ _ => rfl)
    (fun k _ σ' H' e en => et_s (ev_le (ev_add ((ev_var en (i := 3) rfl)) (ev_ixT ((ev_var en (i := 5) rfl)) ev_int rfl)) ((ev_var en (i := 1) rfl)))) (fun k _ _ σ' H' e en => (ev_var en (i := 4) rfl))) H1 (Ex.refl _) _ fun p xs H2 hp e2 hx hd2 => q p xs H2 (fresh_back a1.ex hp) (a1.ex.trans e2) hx hd2
abbrev badE (x : List Kd × Int × Int × RSt) : List PyData := [kdD x.1, .int x.2.1, .int x.2.2.1, stD x.2.2.2]
abbrev badP (x : List Kd × Int × Int × RSt) : Prop := x.1.length ≤ 1000 ∧ x.2.2.2.2.length ≤ 1000 ∧ ∀ m ∈ x.2.2.2.2, m.2 < x.1.length
abbrev spBadN (K : PySem.W.Frag) : Sp := SpN K badE badP fun x => numsL (bad x.1 x.2.1 x.2.2.1 x.2.2.2)
theorem ok_badN (T : Tx w K mg C) (G_l_may : Cal P w K mg base 2 "_law_may" (spMayN K) []) (G_l_refused : Cal P w K mg base 1 "_law_refused" (spRefused K) []) (F : Fun K "_law_bad" "_law_bad" s_l_bad f fd) : FnOk P w K mg base CX0 3 f fd p_l_bad (spBadN K) := by
  refine F.ok sc_l_bad (fun vs H Q E ⟨x, _, hd, _⟩ => by rw [dpa_length hd]; rfl) fun cdv A outer s H vs Q E hr ⟨x, hp, hd, q⟩ => ?_
  have a := at_here (N := n_l_bad) (n := 2) hd rfl
  suffices S : ∃ t, PSs ((cxOf CX0 P w K mg base n_l_bad "_law_bad" (defScope s_l_bad) f cdv A outer s H E).nox) (defBody s_l_bad) t ∧ t { nx := fun _ H' => Q .non H', rt := Q } (start n_l_bad vs) H from S
  refine ⟨_, (pss_cons (ps_set (i := 4) sc_l_bad.nd rfl (.inl rfl) (pe_c G_l_may hr (by decide) (by rfl) (pa_cons (pv 0) (pa_cons (pv 1) (pa_cons (pe_ix (ix_seqK (K := K)) (pv 3) pe_int (fun _ _ => rfl)) pa_nil)))))
(pss_one (ps_ret (pe_lc (own := [("_law_number", 5)]) (g := gName 5) rfl sc_l_bad.nd (pi_list (pv 4)) (blkOk_by (N := n_l_bad) (sc := defScope s_l_bad) (by decide +kernel)) (fun _ _ _ _ _ => (pg_name (i := 5) sc_l_bad.nd rfl (.inl rfl))) (fun _ _ _ _ _ => (pts_one (pt_val (pe_c G_l_refused hr (by decide) (by rfl) (pa_cons (pv 2) (pa_cons (pv 3) (pa_cons (pe_ix (ix_seqK (K := K)) (pe_ix (ix_seqK (K := K)) (pv 0) (pv 5) (fun _ _ => rfl)) pe_int (fun _ _ => rfl)) pa_nil))))))) (fun _ _ _ _ _ => (pv 5)))))), ?_⟩
  obtain ⟨ks, c, W, ⟨p, ms⟩⟩ := x
  have a : At K H [.d (kdD ks), .d (.int c), .d (.int W), .d (stD (p, ms)), .un, .un] (start n_l_bad vs) H := a
  refine q_asg a (evN (x := (ks, c, ms)) (enc := mayE) (Pre := mayP) (r := fun x => numsL (may x.1 x.2.1 x.2.2)) (ea_cons ((ev_var (a).env (i := 0) rfl)) (ea_cons ((ev_var (a).env (i := 1) rfl)) (ea_cons (ev_ixT ((ev_var (a).env (i := 3) rfl)) ev_int rfl) ea_nil))) hp).toS fun σ1 H1 e1 a1 => ?_
  have hlen : (may ks c ms).length ≤ 1000000 := Nat.le_trans may_len (Nat.le_trans hp.1 (by decide))
  refine (en_lc (fun n : Nat => refused W (p, ms) (kl ks n)) (fun n => .int (n : Nat)) (src_list ((ev_var (a1).env (i := 4) rfl))) a1.env hlen (by decide) (fun _ _ _ => rfl)
    (fun k hk σ' H' e en => et_b (evD (x := (W, (p, ms), kl ks k)) (ea_cons ((ev_var en (i := 2) rfl)) (ea_cons ((ev_var en (i := 3) rfl)) (ea_cons (ev_kl ((ev_var en (i := 0) rfl)) ((ev_var en (i := 5) rfl)) (may_lt k hk)) ea_nil))) trivial)) (fun k _ _ σ' H' e en => (ev_var en (i := 5) rfl))) H1 (Ex.refl _) _ fun p xs H2 hp e2 hx hd2 => q p xs H2 (fresh_back a1.ex hp) (a1.ex.trans e2) hx hd2
end
end Wk

set_option maxHeartbeats 200000
set_option Elab.async false
set_option linter.all false
set_option maxRecDepth 100000
set_option maxHeartbeats 2000000
/-! WrS: the search through all states. -/
namespace Wk
open PySem PySem.Spec PyProof.Rows L2 Evl Wr
open C8 (Cal pe_c Met pe_mt pe_mt0 Mak pe_mk)
theorem lay_snd {ks : List Kd} {a : Int} {ns : List Nat} {m : Msg} (h : m ∈ lay ks a ns) : m.2 ∈ ns := by
  have : m.2 ∈ (lay ks a ns).map (·.2) := List.mem_map.mpr ⟨m, h, rfl⟩
  rwa [lay_map] at this
theorem reach_small {ks : List Kd} {c W : Int} {L : Nat} {st : RSt} (g : Good ks) (hc : 0 ≤ c) (hW : 0 ≤ W) (hf : Few ks c L) (r : Reach ks c W st) : st.2.length ≤ L ∧ ∀ m ∈ st.2, m.2 < ks.length := by
  have hlen : ∀ ns, Ok ks c ns → pay ks ns ≤ c → ns.length ≤ L := fun ns o hp => by
    have := hf _ o.frm hp
    rwa [List.length_map] at this
  cases r.inv g hc hW with
  | one H old h1 h2 o hp => exact ⟨by rw [lay_length]; exact hlen _ o hp, fun m hm => (o _ (lay_snd hm)).1⟩
  | two H old t rest ho h1 h2 o hp h3 h4 =>
    refine ⟨by rw [List.length_append, lay_length, lay_length, ← List.length_append]; exact hlen _ o hp, fun m hm => ?_⟩
    rcases List.mem_append.mp hm with hm | hm
    · exact (o _ (List.mem_append_left _ (lay_snd hm))).1
    · exact (o _ (List.mem_append_right _ (lay_snd hm))).1
/-- what stands behind a state, with what was asked -/
def bh0 (st : RSt) : List (PyData × RSt) := (popped st).map fun s => (.none, s)
def bhN (ks : List Kd) (W : Int) (st : RSt) (ns : List Nat) : List (PyData × RSt) := (ns.filter fun n => !refused W st (kl ks n)).map fun n => (.int (n : Nat), pushed ks W st n)
def bhD (zs : List (PyData × RSt)) : List PyData := zs.map fun z => .tuple [z.1, stD z.2]
theorem bh_succs (ks : List Kd) (c W : Int) (st : RSt) : (bh0 st ++ bhN ks W st (may ks c st.2)).map (·.2) = succs ks c W st := by
  unfold bh0 bhN succs
  rw [List.map_append, List.map_map, List.map_map]
  congr 1
  exact List.map_id _
theorem bh_noL {ks : List Kd} {W : Int} {st : RSt} {ns : List Nat} : ∀ z ∈ bh0 st ++ bhN ks W st ns, noL z.1 = true ∧ Shp 0 z.1 := fun z hz => by
  rcases List.mem_append.mp hz with hz | hz
  · obtain ⟨s, _, rfl⟩ := List.mem_map.mp hz
    exact ⟨rfl, shp_no⟩
  · obtain ⟨n, _, rfl⟩ := List.mem_map.mp hz
    exact ⟨rfl, shp_int _⟩
theorem noL_st (st : RSt) : noL (stD st) = true := by
  show (noL (.int st.1) && (noLs (st.2.map msD) && true)) = true
  rw [noL_mss]
  rfl
theorem noLs_at : ∀ {ds : List PyData} {x : PyData}, noLs ds = true → x ∈ ds → noL x = true
  | d :: ds, x, h, hx => by
    have h : (noL d && noLs ds) = true := h
    rw [Bool.and_eq_true] at h
    rcases List.mem_cons.mp hx with rfl | hx
    · exact h.1
    · exact noLs_at h.2 hx
theorem noLs_sts (ls : List RSt) : noLs (ls.map stD) = true := noLs_mem fun d hd => by
  obtain ⟨s, _, rfl⟩ := List.mem_map.mp hd
  exact noL_st s
theorem noLs_bhD {zs : List (PyData × RSt)} (h : ∀ z ∈ zs, noL z.1 = true) : noLs (zs.map fun z => PyData.tuple [z.1, stD z.2]) = true := noLs_mem fun d hd => by
  obtain ⟨z, hz, rfl⟩ := List.mem_map.mp hd
  show (noL z.1 && (noL (stD z.2) && true)) = true
  rw [h z hz, noL_st]
  rfl
theorem shp_st (st : RSt) : Shp 3 (stD st) := shp_tup fun d hd => by
  rcases List.mem_cons.mp hd with rfl | hd
  · exact (shp_int _).mono (by decide)
  · rw [List.mem_singleton.mp hd]
    exact shp_mss _
theorem shp_sts (ls : List RSt) : Shp 4 (.list (ls.map stD)) := shp_list (shp_map shp_st)
section
variable {K : PySem.W.Frag} {P : Program} {w : World} {H0 H H' : Hp} {σ : L2.St} {ta tb : TE} {tt : TT} {d lq wq b0 : Addr} {xsw : List V} {found : List RSt} {kvs : List Ent} {ls : List RSt}
theorem en_if {b : Bool} {ds : List PyData} (h : EvT tt σ H b) (h1 : b = true → EvN K ta σ H ds) (h2 : b = false → EvN K tb σ H ds) : EvN K (tIf tt ta tb) σ H ds := fun H1 e Q q => h H1 e _ fun H2 e2 => by
  cases b with
  | true => exact h1 rfl H2 (e.trans e2) Q fun p xs H3 hp e3 => q p xs H3 (fresh_back e2 hp) (e2.trans e3)
  | false => exact h2 rfl H2 (e.trans e2) Q fun p xs H3 hp e3 => q p xs H3 (fresh_back e2 hp) (e2.trans e3)
/-- t + u, of any size that a tuple may have -/
theorem ev_catB {ds es : List PyData} (ha : EvS K ta σ H (.d (.tuple ds))) (hb : EvS K tb σ H (.d (.tuple es))) (hz : ds.length + es.length ≤ 10000000) : EvS K (tOp (rCatA K) ta tb) σ H (.d (.tuple (ds ++ es))) :=
  ev_op ha hb fun H1 _ u w hu hw Q q => by
    obtain ⟨p, xs, rfl, ht, hd⟩ := dp_tup hu
    obtain ⟨r, ys, rfl, ht', hd'⟩ := dp_tup hw
    refine ⟨p, r, xs, ys, rfl, rfl, ht, ht', by rw [dpa_length hd, dpa_length hd']; exact Nat.le_trans hz (by decide), fun e => ?_, fun _ e => ?_, fun _ _ s hs => ?_⟩
    · subst e
      cases hd
      exact q _ H1 (Ex.refl H1) (.tup ht' hd')
    · subst e
      cases hd'
      rw [List.append_nil] at q
      exact q _ H1 (Ex.refl H1) (.tup ht hd)
    · exact q _ _ (Ex.new hs) (.tup (.of upd_same) (dpa_mono (Ex.new hs) _ (dpa_append hd hd')))
/-- what stands while a round goes on -/
structure SH (K : PySem.W.Frag) (P : Program) (w : World) (d lq wq : Addr) (xsw : List V) (found : List RSt) (kvs : List Ent) (ls : List RSt) (H : Hp) : Prop where
  nd : ND K P w H d kvs
  keys : kvs.map (·.1) = found.map kSt
  vals : ∀ e ∈ kvs, ∃ ds, noLs ds = true ∧ Dp K H e.2.2 (.tuple ds) ∧ ds.length + 1 ≤ kvs.length
  hl : ∃ xs, H lq = some (.lst xs) ∧ DpAll K H xs (ls.map stD)
  hw : H wq = some (.lst xsw)
theorem SH.mv (S : SH K P w d lq wq xsw found kvs ls H) (e : ExT H H') (hd : ∀ o, H d = some o → H' d = some o) (hl : ∀ o, H lq = some o → H' lq = some o) (hw : ∀ o, H wq = some o → H' wq = some o) : SH K P w d lq wq xsw found kvs ls H' where
  nd := S.nd.keep e hd
  keys := S.keys
  vals := fun x hx => by
    obtain ⟨ds, h1, h2, h3⟩ := S.vals x hx
    exact ⟨ds, h1, dp_monoT e _ (by simpa [noL] using h1) h2, h3⟩
  hl := by
    obtain ⟨xs, h1, h2⟩ := S.hl
    exact ⟨xs, hl _ h1, dpa_monoT e _ (noLs_sts ls) h2⟩
  hw := hw _ S.hw
theorem SH.ex (S : SH K P w d lq wq xsw found kvs ls H) (e : Ex H H') : SH K P w d lq wq xsw found kvs ls H' := S.mv (exT_of e) (fun _ h => e _ _ h) (fun _ h => e _ _ h) (fun _ h => e _ _ h)
end
theorem ev_lstD {te : TE} {p : Addr} {K : PySem.W.Frag} {H : Hp} {σ : L2.St} {vs : List V} {ds : List PyData} (h : EvS K te σ H (.v (.ref p))) (hp : H p = some (.lst vs)) (hd : DpAll K H vs ds) : EvS K te σ H (.d (.list ds)) := fun H1 e Q q => h H1 e Q fun u H2 e2 hu => q u H2 e2 (by
  rw [show u = .ref p from hu]
  exact .lst (.of (e2 _ _ (e _ _ hp))) (dpa_mono (e.trans e2) _ hd))
theorem bhN_snoc {ks : List Kd} {W : Int} {st : RSt} {ns : List Nat} {j n : Nat} (h : ns[j]? = some n) : bhN ks W st (ns.take (j + 1)) = bhN ks W st (ns.take j) ++ (if refused W st (kl ks n) = true then [] else [(.int (n : Nat), pushed ks W st n)]) := by
  unfold bhN
  rw [List.take_add_one, h, List.filter_append, List.map_append]
  congr 1
  show (List.filter _ [n]).map _ = _
  rw [List.filter_cons]
  cases refused W st (kl ks n) <;> rfl
theorem q_forN {K : PySem.W.Frag} {H : Hp} {σ : L2.St} {tl : TE} {g : TG} {tu tz : TS} {D : Ends} {ds : List PyData} (h : EvN K tl σ H ds) (k : ∀ p xs H1, H p = none → Ex H H1 → H1 p = some (.lst xs) → DpAll K H1 xs ds → tSeq (tFor (iList K (tC (.ref p))) g tu) tz D σ H1) : tSeq (tFor (iList K tl) g tu) tz D σ H :=
  s_forN (D := { D with nx := tz D }) h k
theorem KpA.refl (a : Addr) (H : Hp) : KpA a H H := ⟨ExT.refl H, fun _ h => h⟩
theorem KpA.trans {a : Addr} {H H1 H2 : Hp} (x : KpA a H H1) (y : KpA a H1 H2) : KpA a H H2 := ⟨x.1.trans y.1, fun o h => y.2 o (x.2 o h)⟩
theorem KpA.of {a : Addr} {H H1 : Hp} (e : Ex H H1) : KpA a H H1 := ⟨exT_of e, fun o h => e _ _ h⟩
theorem KpA.lst {a p : Addr} {H : Hp} {xs : List V} {o : HO} (h : H p = some (.lst xs)) (hne : a ≠ p) : KpA a H (upd H p o) := ⟨exT_lst h, fun o h => by rw [upd_ne hne]; exact h⟩
theorem KpA.dict {K : PySem.W.Frag} {P : Program} {w : World} {a d : Addr} {H : Hp} {kvs : List Ent} {o : HO} (n : ND K P w H d kvs) (hne : a ≠ d) : KpA a H (upd H d o) := ⟨n.exT, fun o h => by rw [upd_ne hne]; exact h⟩
def Rnd (K : PySem.W.Frag) (P : Program) (w : World) (ks : List Kd) (c L W : Nat) (H : Hp) (u : V) (b0 d : Addr) (m : Nat) (σ' : L2.St) (H' : Hp) : Prop :=
  ∃ (found ws : List RSt) (kvs : List Ent) (wq : Addr) (xsw : List V), BInv ks (c : Int) (W : Int) found ws ∧ m = 2 * ((univ ks W L).length - found.length) + (if ws = [] then 0 else 1) ∧ ND K P w H' d kvs ∧ kvs.map (·.1) = found.map kSt ∧
      (∀ e ∈ kvs, ∃ ds, noLs ds = true ∧ Dp K H' e.2.2 (.tuple ds) ∧ ds.length + 1 ≤ kvs.length) ∧ H wq = none ∧ d ≠ wq ∧ H' wq = some (.lst xsw) ∧ DpAll K H' xsw (ws.map stD) ∧
      At K H [.v u, .d (.int (c : Nat)), .d (.int (W : Nat)), .v (.ref b0), .v (.ref d), .v (.ref wq), .un, .un, .un, .un, .un, .un] σ' H'
section
variable {P : Program} {w : World} {K : PySem.W.Frag} {mg : Str → Option Value} {base : Heap} {C f : Addr} {fd : FuncData}
def SpSeen (K : PySem.W.Frag) (P : Program) (w : World) : Sp := fun vs H Q _ => ∃ (ks : List Kd) (c L W : Nat), Good ks ∧ ((ks.length ≤ 3 ∧ L ≤ 5) ∨ (ks.length ≤ 6 ∧ L ≤ 2)) ∧ Few ks (c : Int) L ∧ W ≤ 180 ∧ DpAll K H vs [kdD ks, .int (c : Nat), .int (W : Nat), stD (0, [])] ∧
  ∀ d kvs found H', H d = none → Ex H H' → ND K P w H' d kvs → kvs.map (·.1) = found.map kSt → BInv ks (c : Int) (W : Int) found [] → Q (.ref d) H'
theorem ok_seen (T : Tx w K mg C) (G_l_may : Cal P w K mg base 2 "_law_may" (spMayN K) []) (G_l_refused : Cal P w K mg base 1 "_law_refused" (spRefused K) []) (G_l_pushed : Cal P w K mg base 1 "_law_pushed" (spPushed K) [])
    (F : Fun K "_law_seen" "_law_seen" s_l_seen f fd) : FnOk P w K mg base CX0 3 f fd p_l_seen (SpSeen K P w) := by
  refine F.ok sc_l_seen (fun vs H Q E h => by obtain ⟨ks, c, L, W, _, _, _, _, hd, _⟩ := h; rw [dpa_length hd]; rfl) fun cdv A outer s H vs Q E hr h => ?_
  obtain ⟨ks, c, L, W, g, hsz, hf, hW, hdp, q⟩ := h
  refine ⟨_, (pss_cons (ps_par (i := 4) (j := 5) (by rfl) sc_l_seen.nd rfl rfl (by decide) rfl rfl (pa_cons (pe_ndisp1 hr.units (pv 3) (pe_tup pa_nil)) (pa_cons (pe_lst (pa_cons (pv 3) pa_nil)) pa_nil)) (by rfl))
(pss_cons (ps_while PassesOwn.never (pt_cmpR (op_neD hr.units) (pv 5) (pe_lst pa_nil) (nomark _))
(pss_cons (ps_set (i := 6) sc_l_seen.nd rfl (.inl rfl) (pe_lst pa_nil))
(pss_cons (ps_for PassesOwn.never rfl (pi_list (pv 5)) (pg_name (i := 7) sc_l_seen.nd rfl (.inl rfl))
(pss_cons (ps_set (i := 8) sc_l_seen.nd rfl (.inl rfl) (pe_ifExp (pt_cmpR (op_neD hr.units) (pe_ix (ix_seqK (K := K)) (pv 7) pe_int (fun _ _ => rfl)) (pe_tup pa_nil) (nomark _)) (pe_lst (pa_cons (pe_tup (pa_cons pe_non (pa_cons (pe_tup (pa_cons (pe_ix (ix_seqK (K := K)) (pv 7) pe_int (fun _ _ => rfl)) (pa_cons (pe_slice sl_tupA (pe_ix (ix_seqK (K := K)) (pv 7) pe_int (fun _ _ => rfl)) (po_some pe_int) po_none) pa_nil))) pa_nil))) pa_nil)) (pe_lst pa_nil)))
(pss_cons (ps_for PassesOwn.never rfl (pi_list (pe_c G_l_may hr (by decide) (by rfl) (pa_cons (pv 0) (pa_cons (pv 1) (pa_cons (pe_ix (ix_seqK (K := K)) (pv 7) pe_int (fun _ _ => rfl)) pa_nil))))) (pg_name (i := 9) sc_l_seen.nd rfl (.inl rfl))
(pss_one (ps_if (pt_not (pt_val (pe_c G_l_refused hr (by decide) (by rfl) (pa_cons (pv 2) (pa_cons (pv 7) (pa_cons (pe_ix (ix_seqK (K := K)) (pe_ix (ix_seqK (K := K)) (pv 0) (pv 9) (fun _ _ => rfl)) pe_int (fun _ _ => rfl)) pa_nil))))))
(pss_one (ps_expr (pe_bm PySem.F.plainAttrs_list PySem.F.slot_list_append PySem.F.type_list_append mt_append (pv 8) (pa_cons (pe_tup (pa_cons (pv 9) (pa_cons (pe_c G_l_pushed hr (by decide) (by rfl) (pa_cons (pv 0) (pa_cons (pv 2) (pa_cons (pv 7) (pa_cons (pv 9) pa_nil))))) pa_nil))) pa_nil))))
pss_nil)))
(pss_one (ps_for PassesOwn.never rfl (pi_list (pv 8)) (pg_tup rfl (pgs_cons (pg_name (i := 10) sc_l_seen.nd rfl (.inl rfl)) (pgs_cons (pg_name (i := 11) sc_l_seen.nd rfl (.inl rfl)) pgs_nil)))
(pss_one (ps_if (pt_cmp (pc_nnotin hr.units (pv 11) (pv 4)) rfl)
(pss_cons (ps_nput hr.units (pv 4) (pv 11) (pe_op op_catA (pe_nget hr.units (pv 4) (pv 7) (fun _ _ => rfl)) (pe_tup (pa_cons (pv 10) pa_nil))) rfl)
(pss_one (ps_expr (pe_bm PySem.F.plainAttrs_list PySem.F.slot_list_append PySem.F.type_list_append mt_append (pv 6) (pa_cons (pv 11) pa_nil)))))
pss_nil)))))))
(pss_one (ps_set (i := 5) sc_l_seen.nd rfl (.inl rfl) (pv 6))))))
(pss_one (ps_ret (pv 4))))), ?_⟩
  have a : At K H [.d (kdD ks), .d (.int (c : Nat)), .d (.int (W : Nat)), .d (stD (0, [])), .un, .un, .un, .un, .un, .un, .un, .un] (start n_l_seen vs) H := at_here (N := n_l_seen) (n := 8) hdp rfl
  obtain ⟨u, hu, a⟩ := a.pin 0 rfl
  obtain ⟨u3, hu3, a⟩ := a.pin 3 rfl
  have a : At K H [.v u, .d (.int (c : Nat)), .d (.int (W : Nat)), .v u3, .un, .un, .un, .un, .un, .un, .un, .un] (start n_l_seen vs) H := a
  have kv : ∀ {σ1 : L2.St} {H1 : Hp} {sl : List Sl}, At K H sl σ1 H1 → sl[0]? = some (.v u) → EvS K (tVar 0) σ1 H1 (.d (kdD ks)) := fun a1 h => ev_at (ev_var a1.env h) hu a1.ex
  have usm := univ_small (ks := ks) hW hsz
  have hk6 : ks.length ≤ 6 := usm.2.2
  have hL5 : L ≤ 5 := by rcases hsz with h | h <;> omega
  have fsz : ∀ {found pend : List RSt}, BInv ks (c : Int) (W : Int) found pend → found.length ≤ (univ ks W L).length ∧ found.length ≤ 395304 := fun b => by
    have := b.size g (by omega) hf
    exact ⟨this, Nat.le_trans this usm.1⟩
  have rsm : ∀ {st : RSt}, Reach ks (c : Int) (W : Int) st → st.2.length ≤ 1000 ∧ ∀ m ∈ st.2, m.2 < ks.length := fun r => by
    have := reach_small g (by omega) (by omega) hf r
    exact ⟨by omega, this.2⟩
  -- found, waiting = {first: ()}, [first]
  refine fun d u0 nd => ((ev_var ((a.mono (Ex.new (o := u0) nd))).env (i := 3) rfl)) _ (Ex.refl _) _ fun y H1 e1 hy => ?_
  have hy : y = u3 := hy
  subst hy
  refine ⟨Nat.zero_le _, fun t nt => ⟨(Ex.new nt) _ _ (e1 _ _ upd_same), ?_⟩⟩
  have e2 : Ex H1 (upd H1 t (.tup [])) := Ex.new nt
  have htd : t ≠ d := fun z => by
    subst z
    rw [e1 _ _ upd_same] at nt
    cases nt
  have hu3' : Dp K (upd H1 t (.tup [])) y (stD (0, [])) := dp_mono (((Ex.new nd).trans e1).trans e2) _ hu3
  obtain ⟨b0, rfl, hkey0⟩ := kSt_of hu3'
  refine ⟨b0, kSt (0, []), rfl, hkey0, fun u' hnd => ?_⟩
  have eH2 : Ex H (upd (upd H1 t (.tup [])) d u') := (((Ex.new nd).trans e1).trans e2).mut nd
  have a2 := a.mono eH2
  have hv0 : Dp K (upd (upd H1 t (.tup [])) d u') (.ref t) (.tuple []) := .tup (.of (by rw [upd_ne htd, upd_same])) .nil
  generalize hHH : upd (upd H1 t (.tup [])) d u' = H2 at *
  refine ((ev_var (a2).env (i := 3) rfl)) H2 (Ex.refl _) _ fun y H3 e3 hy => ⟨(show 1 ≤ sizeLine by decide), fun wq0 nw => ⟨.ref d, .ref wq0, rfl, ?_⟩⟩
  have hy : y = .ref b0 := hy
  subst hy
  have e4 : Ex H2 (upd H3 wq0 (.lst [.ref b0])) := e3.trans (Ex.new nw)
  have nw0 : H wq0 = none := fresh_back (eH2.trans e3) nw
  have a4 := ((a2.mono e4).put 4 (l := .v (.ref d)) (u := .ref d) rfl).put 5 (l := .v (.ref wq0)) (u := .ref wq0) rfl
  have hdw : d ≠ wq0 := fun z => by
    subst z
    obtain ⟨_, hz, _⟩ := (hnd.mono e3).there
    rw [nw] at hz
    cases hz
  have hN4 := hnd.mono e4
  -- the rounds
  have nd0 : H d = none := nd
  refine q_while (Rnd K P w ks c L W H u b0 d) _
    ⟨[(0, [])], [(0, [])], [(kSt (0, []), b0, .ref t)], wq0, [.ref b0], BInv.init, rfl, hN4, rfl, fun e he => by rw [List.mem_singleton.mp he]; exact ⟨[], rfl, dp_mono e4 _ hv0, by simp⟩, nw0, hdw, upd_same, .cons (dp_mono (eH2.trans e4) _ hu3) .nil, a4⟩ ?_
  clear hN4 hdw a4 nw0 e4 nw hv0 hkey0 hu3' e2 nt e1 nd
  rintro m σ' H' ⟨found, ws, kvs, wq, xsw, b, rfl, hnd', hkeys, hvals, nw0, hdw, hw, hws, a5⟩
  refine ⟨_, et_s (ev_neNil (ev_lstD ((ev_var (a5).env (i := 5) rfl)) hw hws) (shp_sts ws) ev_nilL), fun hb H4 e4 => ?_, fun hb H4 e4 => ?_⟩
  · have hwne : ws ≠ [] := fun z => by rw [z] at hb; simp at hb
    refine ⟨fun σ2 H2 => ∃ m', m' < 2 * ((univ ks W L).length - found.length) + (if ws = [] then 0 else 1) ∧ Rnd K P w ks c L W H u b0 d m' σ2 H2, fun _ _ h => h, ?_⟩
    rw [if_neg hwne]
    have a5 := a5.mono e4
    refine q_asgN a5 (en_lst (ds := []) ea_nil (by decide : 0 ≤ 100000)) fun lq xs0 σ6 H6 hlq e6 hl6 hd6 a6 => ?_
    cases hd6
    have e46 := e4.trans e6
    have nl0 : H lq = none := fresh_back a5.ex hlq
    have hdl : d ≠ lq := fun z => by
      subst z
      obtain ⟨_, hz, _⟩ := (hnd'.mono e4).there
      rw [hlq] at hz
      cases hz
    have hwl : wq ≠ lq := fun z => by
      subst z
      rw [e4 _ _ hw] at hlq
      cases hlq
    have S6 : SH K P w d lq wq xsw found kvs [] H6 := ⟨hnd'.mono e46, hkeys, fun e he => by
      obtain ⟨ds, h1, h2, h3⟩ := hvals e he
      exact ⟨ds, h1, dp_mono e46 _ h2, h3⟩, ⟨[], hl6, .nil⟩, e46 _ _ hw⟩
    have hws6 := dpa_mono e46 _ hws
    have a6 : At K H [.v u, .d (.int (c : Nat)), .d (.int (W : Nat)), .v (.ref b0), .v (.ref d), .v (.ref wq), .v (.ref lq), .un, .un, .un, .un, .un] σ6 H6 := a6
    have src := src_at1 (j := 7) ((ev_var (a6).env (i := 5) rfl)) S6.hw hws6 (noLs_sts ws)
    rw [List.map_map] at src
    refine q_for (xs := ws) (f := fun s => [.d (stD s)]) src (fun H2 i σ' H' => ∃ (found' : List RSt) (kvs' : List Ent) (ls : List RSt), SH K P w d lq wq xsw found' kvs' ls H' ∧ BInv ks (c : Int) (W : Int) found' (ws.drop i ++ ls) ∧ found'.length = found.length + ls.length ∧ KpA wq H2 H' ∧
        At K H [.v u, .d (.int (c : Nat)), .d (.int (W : Nat)), .v (.ref b0), .v (.ref d), .v (.ref wq), .v (.ref lq), .un, .un, .un, .un, .un] σ' H')
      (fun H2 e2 => ⟨found, kvs, [], S6.ex e2, by simpa using b, rfl, .refl _ _, a6.mono e2⟩) (fun _ _ _ _ _ h => by obtain ⟨_, _, _, _, _, _, h, _⟩ := h; exact h)
      (fun H2 i st σ' H' H'' us e2 hx h e3 hus => ?_) fun H2 σ' H' e2 h => ?_
    · obtain ⟨found', kvs', ls, S, b', hlen, hK, a7⟩ := h
      obtain ⟨hi, hie⟩ := List.getElem?_eq_some_iff.mp hx
      have hdrop : ws.drop i = st :: ws.drop (i + 1) := by rw [List.drop_eq_getElem_cons hi, hie]
      rw [hdrop] at b'
      have hst : st ∈ found' := b'.sub st (by simp)
      have hr := b'.reach st hst
      have rs := rsm hr
      have a7 := (a7.mono e3).putAll (js := [7]) hus rfl
      have S7 := S.ex e3
      have hK := hK.trans (.of e3)
      have a7 : At K H [.v u, .d (.int (c : Nat)), .d (.int (W : Nat)), .v (.ref b0), .v (.ref d), .v (.ref wq), .v (.ref lq), .d (stD st), .un, .un, .un, .un] (setAll σ' [7] us) H'' := a7
      -- behind = ..
      refine q_asgN (ds := bhD (bh0 st)) a7 (en_if (et_s (ev_neNilT (ev_ixT ((ev_var (a7).env (i := 7) rfl)) (ev_int (i := 1)) (d := msgsD st.2) rfl) (shp_mss st.2) ev_nilT)) (fun hb => ?_) fun hb => ?_) fun bq xsb σ8 H8 hbq e8 hb8 hd8 a8 => ?_
      · obtain ⟨p, ms⟩ := st
        cases ms with
        | nil => simp at hb
        | cons m0 r =>
          exact en_lst (ds := [.tuple [.none, .tuple [.int p, .tuple ((msD m0 :: r.map msD).drop 1)]]]) (ea_cons (ev_tup (ds := [.none, .tuple [.int p, .tuple ((msD m0 :: r.map msD).drop 1)]]) (ea_cons ev_non (ea_cons (ev_tup (ds := [.int p, .tuple ((msD m0 :: r.map msD).drop 1)]) (ea_cons (ev_ixT ((ev_var (a7).env (i := 7) rfl)) (ev_int (i := 0)) rfl) (ea_cons (ev_slT (tl := tNoPart) (ev_ixT ((ev_var (a7).env (i := 7) rfl)) (ev_int (i := 1)) rfl) (ev_int (i := 1))) ea_nil)) (by decide : 2 ≤ 100000)) ea_nil)) (by decide : 2 ≤ 100000)) ea_nil) (by decide : 1 ≤ 100000)
      · obtain ⟨p, ms⟩ := st
        cases ms with
        | cons _ _ => simp at hb
        | nil => exact en_lst (ds := []) ea_nil (by decide : 0 ≤ 100000)
      have nb0 : H bq = none := fresh_back a7.ex hbq
      have hdb : d ≠ bq := fun z => by
        subst z
        obtain ⟨_, hz, _⟩ := S7.nd.there
        rw [hbq] at hz
        cases hz
      have hlb : lq ≠ bq := fun z => by
        subst z
        obtain ⟨_, hz, _⟩ := S7.hl
        rw [hbq] at hz
        cases hz
      have hwb : wq ≠ bq := fun z => by
        have hz := S7.hw
        rw [z, hbq] at hz
        cases hz
      have S8 := S7.ex e8
      have hK := hK.trans (.of e8)
      have a8 : At K H [.v u, .d (.int (c : Nat)), .d (.int (W : Nat)), .v (.ref b0), .v (.ref d), .v (.ref wq), .v (.ref lq), .d (stD st), .v (.ref bq), .un, .un, .un] σ8 H8 := a8
      have nls : ([.v u, .d (.int (c : Nat)), .d (.int (W : Nat)), .v (.ref b0), .v (.ref d), .v (.ref wq), .v (.ref lq), .d (stD st), .v (.ref bq), .un, .un, .un] : List Sl).all noLS = true := by simp [noLS, noL, noLs, noL_mss]
      -- for number in may
      refine q_forN (evN (x := (ks, (c : Int), st.2)) (enc := mayE) (Pre := mayP) (r := fun x => numsL (may x.1 x.2.1 x.2.2)) (ea_cons (kv a8 rfl) (ea_cons ((ev_var (a8).env (i := 1) rfl)) (ea_cons (ev_ixT ((ev_var (a8).env (i := 7) rfl)) (ev_int (i := 1)) (d := msgsD st.2) rfl) ea_nil))) ⟨by show ks.length ≤ 1000; omega, rs.1, rs.2⟩) fun mq xsm H9 hmq e9 hm9 hdm => ?_
      have hmb : mq ≠ bq := fun z => by
        subst z
        rw [hb8] at hmq
        cases hmq
      have src2 := src_at1 (j := 9) (K := K) (σ := σ8) (ev_c (v := .ref mq)) hm9 hdm (noLs_mem fun d hd => by obtain ⟨n, _, rfl⟩ := List.mem_map.mp hd; rfl)
      rw [List.map_map] at src2
      refine q_for (xs := may ks (c : Int) st.2) (f := fun n => [.d (.int (n : Nat))]) src2 (fun H2' j σ' H' => ∃ xsb, H' bq = some (.lst xsb) ∧ DpAll K H' xsb (bhD (bh0 st ++ bhN ks (W : Int) st ((may ks (c : Int) st.2).take j))) ∧ SH K P w d lq wq xsw found' kvs' ls H' ∧ KpA mq H2' H' ∧ KpA wq H2 H' ∧
          At K H [.v u, .d (.int (c : Nat)), .d (.int (W : Nat)), .v (.ref b0), .v (.ref d), .v (.ref wq), .v (.ref lq), .d (stD st), .v (.ref bq), .un, .un, .un] σ' H')
        (fun H2' e => ⟨xsb, e _ _ (e9 _ _ hb8), by rw [List.take_zero]; show DpAll K H2' xsb (bhD (bh0 st ++ [])); rw [List.append_nil]; exact dpa_mono (e9.trans e) _ hd8, (S8.ex e9).ex e, .refl _ _, (hK.trans (.of e9)).trans (.of e), (a8.mono e9).mono e⟩) (fun _ _ _ _ _ h => by obtain ⟨_, _, _, _, h, _⟩ := h; exact h)
        (fun H2' j n σ2 H10 H11 us2 e10 hx2 h e11 hus2 => ?_) fun H2' σ2 H10 e10 h => ?_
      · obtain ⟨xsb', hb', hd', S', hK1, hK2, a10⟩ := h
        have a11 := (a10.mono e11).putAll (js := [9]) hus2 rfl
        have a11 : At K H [.v u, .d (.int (c : Nat)), .d (.int (W : Nat)), .v (.ref b0), .v (.ref d), .v (.ref wq), .v (.ref lq), .d (stD st), .v (.ref bq), .d (.int (n : Nat)), .un, .un] (setAll σ2 [9] us2) H11 := a11
        have hn := may_lt n (List.mem_of_getElem? hx2)
        have hml : ((may ks (c : Int) st.2).take j).length ≤ 6 := Nat.le_trans (by rw [List.length_take]; exact Nat.min_le_right _ _) (Nat.le_trans may_len hk6)
        have hb11 := e11 _ _ hb'
        refine s_if (b := !refused (W : Int) st (kl ks n)) a11 (et_not (et_b (evD (x := ((W : Int), st, kl ks n)) (enc := fun x : Int × RSt × Int => [.int x.1, stD x.2.1, .int x.2.2]) (Pre := fun _ => True) (r := fun x => .bool (refused x.1 x.2.1 x.2.2)) (ea_cons ((ev_var (a11).env (i := 2) rfl)) (ea_cons ((ev_var (a11).env (i := 7) rfl)) (ea_cons (ev_kl (kv a11 rfl) ((ev_var (a11).env (i := 9) rfl)) hn) ea_nil))) trivial))) (fun hr' H12 e12 a12 => ?_) fun hr' H12 e12 a12 => ?_
        · have hr0 : refused (W : Int) st (kl ks n) = false := by simpa using hr'
          have hb12 := e12 _ _ hb11
          have hlen : xsb'.length < 1000000 := by
            have h1 : xsb'.length = (bh0 st ++ bhN ks (W : Int) st ((may ks (c : Int) st.2).take j)).length := by rw [dpa_length hd']; unfold bhD; rw [List.length_map]
            have h2 : (bh0 st).length ≤ 1 := by unfold bh0 popped; rw [List.length_map]; split <;> simp
            have h3 : (bhN ks (W : Int) st ((may ks (c : Int) st.2).take j)).length ≤ 6 := by
              unfold bhN
              rw [List.length_map]
              exact Nat.le_trans (List.length_filter_le _ _) hml
            rw [h1, List.length_append]
            omega
          refine s_app hb12 ((ev_var (a12).env (i := 8) rfl)) (ev_tup (ds := [.int (n : Nat), stD (pushed ks (W : Int) st n)]) (ea_cons ((ev_var (a12).env (i := 9) rfl)) (ea_cons (evD (x := (ks, (W : Int), st, n)) (enc := fun x : List Kd × Int × RSt × Nat => [kdD x.1, .int x.2.1, stD x.2.2.1, .int (x.2.2.2 : Nat)]) (Pre := fun x => x.2.2.2 < x.1.length ∧ x.2.2.1.2.length ≤ 1000) (r := fun x => stD (pushed x.1 x.2.1 x.2.2.1 x.2.2.2)) (ea_cons (kv a12 rfl) (ea_cons ((ev_var (a12).env (i := 2) rfl)) (ea_cons ((ev_var (a12).env (i := 7) rfl)) (ea_cons ((ev_var (a12).env (i := 9) rfl)) ea_nil)))) ⟨hn, rs.1⟩) ea_nil)) (by decide : 2 ≤ 100000)) hlen fun y H13 e13 hy => ?_
          have hb13 := e13 _ _ hb12
          have e10_13 := (e11.trans e12).trans e13
          have T : ExT H13 (upd H13 bq (.lst (xsb' ++ [y]))) := exT_lst hb13
          have hnoz : noLs (bhD (bh0 st ++ bhN ks (W : Int) st ((may ks (c : Int) st.2).take j))) = true := noLs_bhD fun z hz => (bh_noL z hz).1
          refine ⟨xsb' ++ [y], upd_same, ?_, (S'.ex e10_13).mv T (fun o h => by rw [upd_ne hdb]; exact h) (fun o h => by rw [upd_ne hlb]; exact h) (fun o h => by rw [upd_ne hwb]; exact h), (hK1.trans (.of e10_13)).trans (.lst hb13 hmb), (hK2.trans (.of e10_13)).trans (.lst hb13 hwb), ((a12.mono e13).un 9).wr nb0 hb13 (fun _ z => nomatch z) (fun _ _ z => nomatch z) nls⟩
          rw [bhN_snoc hx2, if_neg (by rw [hr0]; exact Bool.false_ne_true), ← List.append_assoc]
          unfold bhD
          rw [List.map_append]
          refine dpa_append (dpa_monoT ((exT_of e10_13).trans T) _ hnoz hd') (.cons (dp_monoT T _ ?_ hy) .nil)
          show (noL (.int (n : Nat)) && (noL (stD (pushed ks (W : Int) st n)) && true)) = true
          rw [noL_st]
          rfl
        · have hr0 : refused (W : Int) st (kl ks n) = true := by simpa using hr'
          have e1012 := e11.trans e12
          refine ⟨xsb', e12 _ _ hb11, ?_, S'.ex e1012, hK1.trans (.of e1012), hK2.trans (.of e1012), a12.un 9⟩
          rw [bhN_snoc hx2, if_pos hr0, List.append_nil]
          exact dpa_mono e1012 _ hd'
      obtain ⟨xsb', hb', hd', S', hK1, hK2, a10⟩ := h
      rw [List.take_length] at hd'
      -- for asked, one in behind
      have src3 := src_at2 (i := 10) (j := 11) (zs := bh0 st ++ bhN ks (W : Int) st (may ks (c : Int) st.2)) (f1 := fun z => z.1) (f2 := fun z => stD z.2) ((ev_var (a10).env (i := 8) rfl)) hb' hd' (noLs_bhD fun z hz => (bh_noL z hz).1)
      have hsuc := bh_succs ks (c : Int) (W : Int) st
      have hzp : ∀ z ∈ bh0 st ++ bhN ks (W : Int) st (may ks (c : Int) st.2), noL z.1 = true ∧ z.2 ∈ succs ks (c : Int) (W : Int) st := fun z hz => ⟨(bh_noL z hz).1, by rw [← hsuc]; exact List.mem_map.mpr ⟨z, hz, rfl⟩⟩
      generalize hzs : bh0 st ++ bhN ks (W : Int) st (may ks (c : Int) st.2) = zs at *
      refine s_for (xs := zs) (f := fun z => [.d z.1, .d (stD z.2)]) src3 (fun H3' j σ' H' => ∃ (found2 : List RSt) (kvs2 : List Ent) (ls2 : List RSt), SH K P w d lq wq xsw found2 kvs2 ls2 H' ∧ BInv ks (c : Int) (W : Int) found2 (st :: (ws.drop (i + 1) ++ ls2)) ∧ found2.length = found.length + ls2.length ∧ (∀ z ∈ zs.take j, z.2 ∈ found2) ∧ KpA bq H3' H' ∧ KpA wq H2 H' ∧
          At K H [.v u, .d (.int (c : Nat)), .d (.int (W : Nat)), .v (.ref b0), .v (.ref d), .v (.ref wq), .v (.ref lq), .d (stD st), .v (.ref bq), .un, .un, .un] σ' H')
        (fun H3' e => ⟨found', kvs', ls, S'.ex e, b', hlen, (by rw [List.take_zero]; exact fun _ h => nomatch h), .refl _ _, hK2.trans (.of e), a10.mono e⟩) (fun _ _ _ _ _ h => by obtain ⟨_, _, _, _, _, _, _, h, _⟩ := h; exact h)
        (fun H3' j z σ3 H11 H12 us3 e11 hx3 h e12 hus3 => ?_) fun H3' σ3 H11 e11 h => ?_
      · obtain ⟨found2, kvs2, ls2, S2, b2, hlen2, hall, hK3, hK4, a11⟩ := h
        obtain ⟨hnz, hzs'⟩ := hzp z (List.mem_of_getElem? hx3)
        have a12 := (a11.mono e12).putAll (js := [10, 11]) hus3 rfl
        have a12 : At K H [.v u, .d (.int (c : Nat)), .d (.int (W : Nat)), .v (.ref b0), .v (.ref d), .v (.ref wq), .v (.ref lq), .d (stD st), .v (.ref bq), .un, .d z.1, .d (stD z.2)] (setAll σ3 [10, 11] us3) H12 := a12
        have S12 := S2.ex e12
        have hst2 : st ∈ found2 := b2.sub st List.mem_cons_self
        have htk : ∀ found3 : List RSt, (∀ s ∈ found2, s ∈ found3) → z.2 ∈ found3 → ∀ y ∈ zs.take (j + 1), y.2 ∈ found3 := fun found3 h1 h2 y hy => by
          rw [List.take_add_one, hx3] at hy
          rcases List.mem_append.mp hy with hy | hy
          · exact h1 _ (hall y hy)
          · rw [List.mem_singleton.mp hy]
            exact h2
        refine s_if (b := !decide (kSt z.2 ∈ kvs2.map (·.1))) a12 (et_b (ev_nnotF ((ev_var (a12).env (i := 11) rfl)) ((ev_var (a12).env (i := 4) rfl)) S12.nd)) (fun hb1 H13 e13 a13 => ?_) fun hb1 H13 e13 a13 => ?_
        · have hnk : kSt z.2 ∉ kvs2.map (·.1) := by simpa using hb1
          have hnf : z.2 ∉ found2 := fun hz => hnk (by rw [S2.keys]; exact List.mem_map.mpr ⟨_, hz, rfl⟩)
          have S13 := S12.ex e13
          have hkl : kvs2.length = found2.length := by rw [← List.length_map (f := fun e : Ent => e.1), S2.keys, List.length_map]
          have hfs := (fsz b2).2
          obtain ⟨⟨k0, q0, v0⟩, hm0, hk0⟩ := List.mem_map.mp (show kSt st ∈ kvs2.map (·.1) by rw [S2.keys]; exact List.mem_map.mpr ⟨_, hst2, rfl⟩)
          have hk0 : k0 = kSt st := hk0
          subst hk0
          obtain ⟨ds, hds, hv0', hdl'⟩ := S13.vals _ hm0
          have hv0' : Dp K H13 v0 (.tuple ds) := hv0'
          refine q_nput (k := kSt z.2) (x := stD z.2) (dv := .tuple (ds ++ [z.1])) (fun h => kSt_of h) (ev_catB (ev_ngetF ((ev_var (a13).env (i := 4) rfl)) ((ev_var (a13).env (i := 7) rfl)) S13.nd hm0 hv0') (ev_tup (ds := [z.1]) (ea_cons ((ev_var (a13).env (i := 10) rfl)) ea_nil) (by decide : 1 ≤ 100000)) (by simp; omega)) ((ev_var (a13).env (i := 4) rfl)) ((ev_var (a13).env (i := 11) rfl)) S13.nd (by omega) fun b' v' u' H14 e14 nd14 hv14 ndn => ?_
          have S14 := S13.ex e14
          have T1 : ExT H14 (upd H14 d u') := nd14.exT
          have nls2 : ([.v u, .d (.int (c : Nat)), .d (.int (W : Nat)), .v (.ref b0), .v (.ref d), .v (.ref wq), .v (.ref lq), .d (stD st), .v (.ref bq), .un, .d z.1, .d (stD z.2)] : List Sl).all noLS = true := by simp [noLS, noL, noLs, noL_mss, hnz]
          have a14 := (a13.mono e14).wrD (o := u') nd14 nd0 nls2
          obtain ⟨xsl, hxl, hdl2⟩ := S14.hl
          have hxl' : (upd H14 d u') lq = some (.lst xsl) := by rw [upd_ne (Ne.symm hdl)]; exact hxl
          refine s_app hxl' ((ev_var (a14).env (i := 6) rfl)) ((ev_var (a14).env (i := 11) rfl)) (by rw [dpa_length hdl2, List.length_map]; omega) fun y H15 e15 hy => ?_
          have hxl15 := e15 _ _ hxl'
          have T2 : ExT H15 (upd H15 lq (.lst (xsl ++ [y]))) := exT_lst hxl15
          have TT : ExT H14 (upd H15 lq (.lst (xsl ++ [y]))) := (T1.trans (exT_of e15)).trans T2
          rw [putE_new hnk] at ndn
          have ndf : ND K P w (upd H15 lq (.lst (xsl ++ [y]))) d (kvs2 ++ [(kSt z.2, b', v')]) := (ndn.mono e15).other hxl15 (fun _ z => nomatch z) (fun _ _ z => nomatch z) hdl
          have hwf : (upd H15 lq (.lst (xsl ++ [y]))) wq = some (.lst xsw) := by rw [upd_ne hwl]; exact e15 _ _ (by rw [upd_ne (Ne.symm hdw)]; exact S14.hw)
          have e1114 := (e12.trans e13).trans e14
          refine ⟨found2 ++ [z.2], kvs2 ++ [(kSt z.2, b', v')], ls2 ++ [z.2], ⟨ndf, by rw [List.map_append, List.map_append, S2.keys]; rfl, fun e he => ?_, ⟨xsl ++ [y], upd_same, ?_⟩, hwf⟩, ?_, by rw [List.length_append, List.length_append, hlen2]; simp; omega, htk _ (fun s hs => List.mem_append_left _ hs) (List.mem_append_right _ List.mem_cons_self), ?_, ?_, ?_⟩
          · rcases List.mem_append.mp he with he | he
            · obtain ⟨ds', g1, g2, g3⟩ := S14.vals e he
              exact ⟨ds', g1, dp_monoT TT _ (by simpa [noL] using g1) g2, by rw [List.length_append]; simp; omega⟩
            · rw [List.mem_singleton.mp he]
              have hnn : noLs (ds ++ [z.1]) = true := noLs_mem fun x hx => by
                rcases List.mem_append.mp hx with hx | hx
                · exact noLs_at hds hx
                · rw [List.mem_singleton.mp hx]
                  exact hnz
              exact ⟨ds ++ [z.1], hnn, dp_monoT TT _ (by simpa [noL] using hnn) hv14, by rw [List.length_append, List.length_append]; simp; omega⟩
          · rw [List.map_append]
            exact dpa_append (dpa_monoT TT _ (noLs_sts ls2) hdl2) (.cons (dp_monoT T2 _ (noL_st z.2) hy) .nil)
          · have := b2.add (succs_reach hr hzs') hnf
            rw [List.cons_append, List.append_assoc] at this
            exact this
          · exact (((hK3.trans (.of e1114)).trans (.dict nd14 (Ne.symm hdb))).trans (.of e15)).trans (.lst hxl15 (Ne.symm hlb))
          · exact (((hK4.trans (.of e1114)).trans (.dict nd14 (Ne.symm hdw))).trans (.of e15)).trans (.lst hxl15 hwl)
          · exact (((a14.mono e15).un 10).un 11).wr nl0 hxl15 (fun _ z => nomatch z) (fun _ _ z => nomatch z) nls
        · have hyk : kSt z.2 ∈ kvs2.map (·.1) := by simpa using hb1
          rw [S2.keys] at hyk
          obtain ⟨s, hs, hse⟩ := List.mem_map.mp hyk
          have hzf : z.2 ∈ found2 := by rw [← kSt_inj hse]; exact hs
          have e1213 := e12.trans e13
          exact ⟨found2, kvs2, ls2, S2.ex e1213, b2, hlen2, htk _ (fun _ h => h) hzf, hK3.trans (.of e1213), hK4.trans (.of e1213), (a13.un 10).un 11⟩
      · obtain ⟨found2, kvs2, ls2, S2, b2, hlen2, hall, hK3, hK4, a11⟩ := h
        rw [List.take_length] at hall
        refine ⟨found2, kvs2, ls2, S2, b2.done fun s' hs' => ?_, hlen2, hK4, ((a11.un 7).un 8)⟩
        rw [← hsuc] at hs'
        obtain ⟨z, hz, rfl⟩ := List.mem_map.mp hs'
        exact hall z hz
    · obtain ⟨found', kvs', ls, S, b', hlen, hK, a7⟩ := h
      rw [List.drop_length, List.nil_append] at b'
      refine s_asg (l := .v (.ref lq)) a7 ((ev_var (a7).env (i := 6) rfl)) fun σ8 H8 e8 a8 => ?_
      obtain ⟨xsl, hxl, hdl2⟩ := S.hl
      have hfs := (fsz b').1
      refine ⟨_, ?_, found', ls, kvs', lq, xsl, b', rfl, S.nd.mono e8, S.keys, (S.ex e8).vals, nl0, hdl, e8 _ _ hxl, dpa_mono e8 _ hdl2, a8.un 6⟩
      by_cases hz : ls = []
      · rw [if_pos hz]
        rw [hz] at hlen
        simp at hlen
        omega
      · rw [if_neg hz]
        have := List.length_pos_iff.mpr hz
        omega
  · -- the end
    have hw0 : ws = [] := by
      cases ws with
      | nil => rfl
      | cons _ _ => simp at hb
    subst hw0
    exact s_ret (l := .v (.ref d)) ((ev_var ((a5.mono e4)).env (i := 4) rfl)) fun y H5 e5 hy => by
      rw [show y = .ref d from hy]
      exact q d kvs found H5 nd0 ((a5.mono e4).ex.trans e5) (hnd'.mono (e4.trans e5)) hkeys b
end
end Wk

set_option maxHeartbeats 200000
set_option Elab.async false
set_option linter.all false
set_option maxRecDepth 100000
set_option maxHeartbeats 2000000
/-! WrR: the law's right, the law. -/
namespace Wk
open PySem PySem.Spec PyProof.Rows L2 Evl Wr
open C8 (Cal pe_c Met pe_mt pe_mt0 Mak pe_mk)
theorem form_ok {ks : List Kd} {c W : Int} {st : RSt} {n : Nat} (g : Good ks) (i : RInv ks c W st) (hn : n ∈ bad ks c W st) : FormOk ks W st n := by
  by_cases hW : W < kl ks n
  · exact .inl hW
  obtain ⟨hm, hr⟩ := List.mem_filter.mp hn
  have hmn := mem_may.mp hm
  cases i with
  | one H old h1 h2 o hp =>
    have us : Usable ks c n := ⟨hmn.1, by
      have h0 : paid ks (lay ks H old) + kw ks n ≤ c := hmn.2
      rw [paid_lay1] at h0
      have := (o.pos g).2
      omega⟩
    rcases (refused_one g o (by have := us.pos g; omega)).mp hr with h | ⟨hne, _, _⟩
    · exact absurd h hW
    · cases old with
      | nil => exact absurd rfl hne
      | cons m r =>
        have := (o.pos1 g (List.cons_ne_nil _ _)).1
        exact .inr ⟨List.cons_ne_nil _ _, .inl (by show H < H + tot ks (m :: r); omega)⟩
  | two H old t rest ho h1 h2 o hp h3 h4 =>
    cases old with
    | nil => exact absurd rfl ho
    | cons m r =>
      have := (o.right.pos1 g (List.cons_ne_nil _ _)).1
      exact .inr ⟨List.cons_ne_nil _ _, .inr ⟨(0, t), List.mem_append_right _ List.mem_cons_self, by show (0 : Int) < H; omega⟩⟩
theorem sizes_ok {ks : List Kd} {c W : Int} {n : Nat} {sh : Wr.Shape} (hW : 0 ≤ W) (s : ShapeOk ks c W n sh) : (sizes ks n sh).1 ≤ W ∧ W ≤ (sizes ks n sh).2 := by
  cases sh with
  | long =>
    have s : W < kl ks n := s
    exact ⟨hW, by show W ≤ kl ks n - 1; omega⟩
  | short h b =>
    obtain ⟨s1, s2, s3, _⟩ := s
    exact ⟨s2, by show W ≤ h + b + kl ks n - 1; omega⟩
  | caught h b p t =>
    obtain ⟨s1, s2, s3, _⟩ := s
    exact ⟨s2, by show W ≤ h + b + kl ks t - 1; omega⟩
theorem shLt_of {ks : List Kd} {c W : Int} {n : Nat} {sh : Wr.Shape} (s : ShapeOk ks c W n sh) : ShLt ks sh := by
  cases sh with
  | long => trivial
  | short => trivial
  | caught h b p t => obtain ⟨_, _, _, _, _, u, _⟩ := s; exact u.1
theorem noL_shD (sh : Wr.Shape) : noL (shD sh) = true := by cases sh <;> rfl
section
variable {K : PySem.W.Frag} {P : Program} {w : World} {H0 H H' : Hp} {sl : List Sl} {σ : L2.St} {ta tb te : TE} {tr : TA} {p : Addr} {E : XK} {D : Ends} {tz tu : TS}
theorem q_few {i j : Nat} (h : EvPA tr p σ H (· = [.ref p])) (a : At K H0 sl σ H) (hp0 : H0 p = none) (hP : Pot H p) (n : sl.all noLS = true)
    (k : ∀ (ks : List Kd) (c L : Nat) σ1 H1, Good ks → ks ≠ [] → ((ks.length ≤ 3 ∧ L ≤ 5) ∨ (ks.length ≤ 6 ∧ L ≤ 2)) → Few ks (c : Int) L → c ≤ 100 → ExB p H H1 → Pot H1 p → At K H0 ((sl.set i (.d (kdD ks))).set j (.d (.int (c : Nat)))) σ1 H1 → tz D σ1 H1) :
    tSeq (tAsg (tCall (SpFew K) [] E tr) (gTup K 2 (gCons (gName i) (gCons (gName j) gNil)))) tz D σ H :=
  h H (.refl _ _) hP _ fun us H1 e1 P1 hus => by
    subst hus
    refine ⟨p, rfl, P1, fun ks c L u H2 g hne hsz hf hc e2 P2 hd => ?_⟩
    have e := e1.trans e2
    exact g_two (a.P hp0 hP n e) hd fun σ1 a1 => k ks c L σ1 H2 g hne hsz hf hc e P2 a1
/-- d != {} -/
theorem ev_nneNew {d : Addr} {kvs : List Ent} (h : EvS K ta σ H (.v (.ref d))) (n : ND K P w H d kvs) : EvS K (tOp (rNNe K P w) ta (tNNew K P w)) σ H (.d (.bool (!kvs.isEmpty))) := fun H1 e1 Q q =>
  h H1 e1 _ fun y H8 e8 hy => fun e u8 ne he => by
    have e9 : Ex H8 (upd H8 e u8) := Ex.new ne
    exact ⟨d, e, kvs, hy, rfl, n.mono ((e1.trans e8).trans e9), he, q _ _ (e8.trans e9) (.bl _)⟩
/-- for k in a new dict -/
theorem q_forD {ks : List Kd} {c W L : Nat} (h : EvAS K tr σ H [.d (kdD ks), .d (.int (c : Nat)), .d (.int (W : Nat)), .d (stD (0, []))]) {g : TG} (hg : Good ks) (hsz : (ks.length ≤ 3 ∧ L ≤ 5) ∨ (ks.length ≤ 6 ∧ L ≤ 2)) (hf : Few ks (c : Int) L) (hW : W ≤ 180)
    (k : ∀ d kvs found H1, H d = none → Ex H H1 → ND K P w H1 d kvs → kvs.map (·.1) = found.map kSt → BInv ks (c : Int) (W : Int) found [] → tSeq (tFor (iNKeys K P w (tC (.ref d))) g tu) tz D σ H1) : tSeq (tFor (iNKeys K P w (tCall (SpSeen K P w) [] E tr)) g tu) tz D σ H :=
  h H (Ex.refl _) _ fun us H1 e1 hus => ⟨ks, c, L, W, hg, hsz, hf, hW, by rw [List.append_nil]; exact hda_d (ds := [kdD ks, .int (c : Nat), .int (W : Nat), stD (0, [])]) hus, fun d kvs found H2 hd e2 n hk b => k d kvs found H2 (fresh_back e1 hd) (e1.trans e2) n hk b⟩
end
section
variable {P : Program} {w : World} {K : PySem.W.Frag} {mg : Str → Option Value} {base : Heap} {C f : Addr} {fd : FuncData}
def SpRight : Sp := fun vs H Q _ => ∃ p : Addr, vs = [.ref p] ∧ Pot H p ∧ ∀ H', ExB p H H' → Q (.bl true) H'
theorem ok_right (T : Tx w K mg C) (G_l_few : Cal P w K mg base 3 "_law_few" (SpFew K) []) (G_l_top : Cal P w K mg base 3 "_law_top" (spTop K) []) (G_l_take : Cal P w K mg base 1 "_law_take" SpTake []) (G_l_seen : Cal P w K mg base 3 "_law_seen" (SpSeen K P w) [])
    (G_l_bad : Cal P w K mg base 3 "_law_bad" (spBadN K) []) (G_l_form : Cal P w K mg base 1 "_law_form" (spForm K) []) (G_sizes_of : Cal P w K mg base 1 "sizes_of" (spSizes K) []) (G_can_occur : Cal P w K mg base 5 "can_occur" (spCan K) [])
    (F : Fun K "_law_right" "_law_right" s_l_right f fd) : FnOk P w K mg base CX0 6 f fd p_l_right SpRight := by
  refine F.ok sc_l_right (fun vs H Q E h => by obtain ⟨p, rfl, _⟩ := h; rfl) fun cdv A outer s H vs Q E hr h => ?_
  obtain ⟨p, rfl, hP, q⟩ := h
  refine ⟨_, (pss_cons (ps_asg (pe_c G_l_few hr (by decide) (by rfl) (pa_cons (pv 0) pa_nil)) (pg_tup rfl (pgs_cons (pg_name (i := 1) sc_l_right.nd rfl (.inl rfl)) (pgs_cons (pg_name (i := 2) sc_l_right.nd rfl (.inl rfl)) pgs_nil))))
(pss_cons (ps_set (i := 3) sc_l_right.nd rfl (.inl rfl) (pe_c G_l_top hr (by decide) (by rfl) (pa_cons (pv 1) (pa_cons (pv 2) pa_nil))))
(pss_cons (ps_set (i := 4) sc_l_right.nd rfl (.inl rfl) (pe_c G_l_take hr (by decide) (by rfl) (pa_cons (pv 0) (pa_cons (pe_op op_add (pv 3) pe_int) pa_nil))))
(pss_cons (ps_set (i := 5) sc_l_right.nd rfl (.inl rfl) pe_nnew)
(pss_cons (ps_for PassesOwn.never rfl (pi_nkeys (pe_c G_l_seen hr (by decide) (by rfl) (pa_cons (pv 1) (pa_cons (pv 2) (pa_cons (pv 4) (pa_cons (pe_tup (pa_cons pe_int (pa_cons (pe_tup pa_nil) pa_nil))) pa_nil)))))) (pg_name (i := 6) sc_l_right.nd rfl (.inl rfl))
(pss_one (ps_for PassesOwn.never rfl (pi_list (pe_c G_l_bad hr (by decide) (by rfl) (pa_cons (pv 1) (pa_cons (pv 2) (pa_cons (pv 4) (pa_cons (pv 6) pa_nil)))))) (pg_name (i := 7) sc_l_right.nd rfl (.inl rfl))
(pss_one (ps_nput hr.units (pv 5) (pe_tup (pa_cons (pe_c G_l_form hr (by decide) (by rfl) (pa_cons (pv 1) (pa_cons (pv 4) (pa_cons (pv 6) (pa_cons (pv 7) pa_nil))))) (pa_cons (pv 7) pa_nil))) pe_bl rfl)))))
(pss_cons (ps_for PassesOwn.never rfl (pi_nkeys (pv 5)) (pg_tup rfl (pgs_cons (pg_name (i := 8) sc_l_right.nd rfl (.inl rfl)) (pgs_cons (pg_name (i := 7) sc_l_right.nd rfl (.inl rfl)) pgs_nil)))
(pss_cons (ps_asg (pe_c G_sizes_of hr (by decide) (by rfl) (pa_cons (pv 1) (pa_cons (pv 8) (pa_cons (pv 7) pa_nil)))) (pg_tup rfl (pgs_cons (pg_name (i := 9) sc_l_right.nd rfl (.inl rfl)) (pgs_cons (pg_name (i := 10) sc_l_right.nd rfl (.inl rfl)) pgs_nil))))
(pss_one (ps_if (PW.pt (pw_or (pt_not (pt_chain op_le op_le (pv 9) (pv 4) (pv 10))) (pw_or1 (pt_cmpR op_notBl (pe_c G_can_occur hr (by decide) (by rfl) (pa_cons (pv 1) (pa_cons (pv 2) (pa_cons (pv 8) (pa_cons (pv 7) pa_nil))))) pe_bl (nomark _)))))
(pss_one (ps_ret pe_bl))
pss_nil))))
(pss_one (ps_ret (pe_cmpR op_eq (pe_cmpR (op_nne hr.units) (pv 5) pe_nnew (nomark _)) (pe_cmpR op_le (pv 4) (pv 3) (nomark _)) (nomark _)))))))))), ?_⟩
  obtain ⟨H0, hp0, hex, hB0⟩ := hole H p
  have a : At K H0 [.v (.ref p), .un, .un, .un, .un, .un, .un, .un, .un, .un, .un] (start n_l_right [.ref p]) H := ⟨hex, (At.here (N := n_l_right) (HdAll.cons (K := K) (H := H) (l := .v (.ref p)) rfl .nil)).env⟩
  refine q_few (p := p) (fun H1 e1 P1 Q1 q1 => (epa_cons (ep_ref fun H2 e => (ev_var ((a.P hp0 hP rfl e)).env (i := 0) rfl)) epa_nil) H1 e1 P1 Q1 fun us H2 e2 P2 ⟨u, r, hus, hu, hr⟩ => q1 us H2 e2 P2 (by rw [hus, hu, hr])) a hp0 hP rfl fun ks c L σ1 H1 g hne hsz hf hc e1 P1 a1 => ?_
  have a1 : At K H0 [.v (.ref p), .d (kdD ks), .d (.int (c : Nat)), .un, .un, .un, .un, .un, .un, .un, .un] σ1 H1 := a1
  have hk6 : ks.length ≤ 6 := by rcases hsz with h | h <;> omega
  have hL5 : L ≤ 5 := by rcases hsz with h | h <;> omega
  have htop := topF_ok (c := c) g
  have htl := htop.le g hf hL5
  refine q_asg a1 (evD (x := (ks, c)) (enc := fun x : List Kd × Nat => [kdD x.1, .int (x.2 : Nat)]) (Pre := fun x => Good x.1 ∧ x.1.length ≤ 1000 ∧ x.2 ≤ 100) (r := fun x => .int (topF x.1 x.2)) (ea_cons ((ev_var (a1).env (i := 1) rfl)) (ea_cons ((ev_var (a1).env (i := 2) rfl)) ea_nil)) ⟨g, by show ks.length ≤ 1000; omega, hc⟩) fun σ2 H2 e2 a2 => ?_
  have a2 : At K H0 [.v (.ref p), .d (kdD ks), .d (.int (c : Nat)), .d (.int (topF ks c)), .un, .un, .un, .un, .un, .un, .un] σ2 H2 := a2
  have P2 := P1.mono e2
  generalize htt : topF ks c = t at *
  have nls2 : ([.v (.ref p), .d (kdD ks), .d (.int (c : Nat)), .d (.int t), .un, .un, .un, .un, .un, .un, .un] : List Sl).all noLS = true := by simp [noLS, noL, noL_prs]
  refine q_asgP (ep_take (E := C8.E0) (B := (· = t + 3)) (ep_ref (te := tVar 0) fun H3 e => (ev_var ((a2.P hp0 P2 nls2 e)).env (i := 0) rfl)) (ep_pure fun H3 e => ev_add ((ev_var ((a2.P hp0 P2 nls2 e)).env (i := 3) rfl)) (ev_int (i := 3))) (fun m hm => by omega)) a2 hp0 P2 nls2 fun x σ3 H3 hx e3 P3 a3 => ?_
  obtain ⟨_, rfl, x0, x1⟩ := hx
  obtain ⟨W, rfl⟩ := Int.eq_ofNat_of_zero_le x0
  have hW : W ≤ 180 := by omega
  have a3 : At K H0 [.v (.ref p), .d (kdD ks), .d (.int (c : Nat)), .d (.int t), .d (.int (W : Nat)), .un, .un, .un, .un, .un, .un] σ3 H3 := a3
  have htop' := top_iff (W := (W : Int)) g (by omega) (by omega) htop
  have usm := univ_small (ks := ks) hW hsz
  have rsm : ∀ {st : RSt}, Reach ks (c : Int) (W : Int) st → st.2.length ≤ 1000 ∧ ∀ m ∈ st.2, m.2 < ks.length := fun r => by
    have := reach_small g (by omega) (by omega) hf r
    exact ⟨by omega, this.2⟩
  -- met = {}
  refine fun md u0 nmd hnd0 => ?_
  have em : Ex H3 (upd H3 md u0) := Ex.new nmd
  have nmd0 : H0 md = none := fresh_back a3.ex nmd
  have a4 := (a3.mono em).put 5 (l := .v (.ref md)) (u := .ref md) rfl
  have a4 : At K H0 [.v (.ref p), .d (kdD ks), .d (.int (c : Nat)), .d (.int t), .d (.int (W : Nat)), .v (.ref md), .un, .un, .un, .un, .un] _ (upd H3 md u0) := a4
  have seenA : EvAS K (tCons (tVar 1) (tCons (tVar 2) (tCons (tVar 4) (tCons (tTup (tCons (tC (.int 0)) (tCons (tTup tNil) tNil))) tNil)))) _ (upd H3 md u0) [.d (kdD ks), .d (.int (c : Nat)), .d (.int (W : Nat)), .d (stD (0, []))] :=
    ea_cons ((ev_var (a4).env (i := 1) rfl)) (ea_cons ((ev_var (a4).env (i := 2) rfl)) (ea_cons ((ev_var (a4).env (i := 4) rfl)) (ea_cons (ev_tup (ds := [.int 0, .tuple []]) (ea_cons ev_int (ea_cons ev_nilT ea_nil)) (by decide : 2 ≤ 100000)) ea_nil)))
  refine q_forD (L := L) seenA g hsz hf hW fun d kvs found H5 nd e5 hnd hkeys b => ?_
  have hdm : md ≠ d := fun z => by
    subst z
    rw [upd_same] at nd
    cases nd
  have a5 := a4.mono e5
  have src := src_nkeys (σ := σ3.set 5 (some (.ref md))) (j := 6) (K := K) (tl := tC (.ref d)) (ev_c (v := .ref d)) hnd
  rw [show (kvs.map fun e => [Sl.d e.1.data]) = found.map fun s => [Sl.d (stD s)] by
    rw [show (kvs.map fun e => [Sl.d e.1.data]) = (kvs.map (·.1)).map fun k => [Sl.d k.data] by rw [List.map_map]; rfl, hkeys, List.map_map]
    exact List.map_congr_left fun s _ => by show [Sl.d (kSt s).data] = _; rw [kSt_data]] at src
  have nls : ([.v (.ref p), .d (kdD ks), .d (.int (c : Nat)), .d (.int t), .d (.int (W : Nat)), .v (.ref md), .un, .un, .un, .un, .un] : List Sl).all noLS = true := by simp [noLS, noL, noL_prs]
  have nlsS : ∀ st : RSt, ([.v (.ref p), .d (kdD ks), .d (.int (c : Nat)), .d (.int t), .d (.int (W : Nat)), .v (.ref md), .d (stD st), .un, .un, .un, .un] : List Sl).all noLS = true := fun st => by simp [noLS, noL, noLs, noL_prs, noL_mss]
  have mlen : ∀ {ms : List (Wr.Shape × Nat)} {kvsM : List Ent} {H' : Hp}, ND K P w H' md kvsM → kvsM.map (·.1) = ms.map kM → (∀ x ∈ ms, ∃ st, Reach ks (c : Int) (W : Int) st ∧ x.2 ∈ bad ks (c : Int) (W : Int) st ∧ x.1 = form ks (W : Int) st x.2) → kvsM.length < 4000000 := fun {ms kvsM H'} n hk hm => by
    have hnod : ms.Nodup := by
      have := n.nd
      rw [hk] at this
      exact (List.pairwise_map.mp this).imp fun h e => h (by rw [e])
    have hsub : ∀ x ∈ ms, x ∈ shapes ks W L := fun x hx => by
      obtain ⟨st, h1, h2, h3⟩ := hm x hx
      have := mem_shapes g (by omega) hf h1 h2
      rw [← h3] at this
      exact this
    have h1 := nodup_le hnod hsub
    rw [shapes_length] at h1
    have h2 : kvsM.length = ms.length := by rw [← List.length_map (f := fun e : Ent => e.1), hk, List.length_map]
    have := usm.2.1
    omega
  refine q_for (xs := found) (f := fun s => [.d (stD s)]) src (fun H2' i σ' H' => ∃ (kvsM : List Ent) (ms : List (Wr.Shape × Nat)), ND K P w H' md kvsM ∧ kvsM.map (·.1) = ms.map kM ∧ (∀ x ∈ ms, ∃ st, Reach ks (c : Int) (W : Int) st ∧ x.2 ∈ bad ks (c : Int) (W : Int) st ∧ x.1 = form ks (W : Int) st x.2) ∧
      (∀ st ∈ found.take i, ∀ n ∈ bad ks (c : Int) (W : Int) st, (form ks (W : Int) st n, n) ∈ ms) ∧ KpA d H2' H' ∧ At K H0 [.v (.ref p), .d (kdD ks), .d (.int (c : Nat)), .d (.int t), .d (.int (W : Nat)), .v (.ref md), .un, .un, .un, .un, .un] σ' H')
    (fun H2' e => ⟨[], [], (hnd0.mono e5).mono e, rfl, (fun _ h => nomatch h), (by rw [List.take_zero]; exact fun _ h => nomatch h), .refl _ _, a5.mono e⟩) (fun _ _ _ _ _ h => by obtain ⟨_, _, _, _, _, _, h, _⟩ := h; exact h)
    (fun H2' i st σ' H' H'' us e6 hx h e7 hus => ?_) fun H2' σ' H' e6 h => ?_
  · obtain ⟨kvsM, ms, hm, hmk, hms, hall, hK, a6⟩ := h
    have hr' := b.reach st (List.mem_of_getElem? hx)
    have rs := rsm hr'
    have a7 := (a6.mono e7).putAll (js := [6]) hus rfl
    have a7 : At K H0 [.v (.ref p), .d (kdD ks), .d (.int (c : Nat)), .d (.int t), .d (.int (W : Nat)), .v (.ref md), .d (stD st), .un, .un, .un, .un] (setAll σ' [6] us) H'' := a7
    refine s_forN (evN (x := (ks, (c : Int), (W : Int), st)) (enc := badE) (Pre := badP) (r := fun x => numsL (bad x.1 x.2.1 x.2.2.1 x.2.2.2)) (ea_cons ((ev_var (a7).env (i := 1) rfl)) (ea_cons ((ev_var (a7).env (i := 2) rfl)) (ea_cons ((ev_var (a7).env (i := 4) rfl)) (ea_cons ((ev_var (a7).env (i := 6) rfl)) ea_nil)))) ⟨by show ks.length ≤ 1000; omega, rs.1, rs.2⟩) fun bq xsb H8 hbq e8 hb8 hd8 => ?_
    have hbm : bq ≠ md := fun z => by
      subst z
      obtain ⟨_, hz, _⟩ := (hm.mono e7).there
      rw [hbq] at hz
      cases hz
    have src2 := src_at1 (j := 7) (K := K) (σ := setAll σ' [6] us) (ev_c (v := .ref bq)) hb8 hd8 (noLs_mem fun d hd => by obtain ⟨n, _, rfl⟩ := List.mem_map.mp hd; rfl)
    rw [List.map_map] at src2
    refine s_for (xs := bad ks (c : Int) (W : Int) st) (f := fun n => [.d (.int (n : Nat))]) src2 (fun H3' j σ' H' => ∃ (kvsM : List Ent) (ms : List (Wr.Shape × Nat)), ND K P w H' md kvsM ∧ kvsM.map (·.1) = ms.map kM ∧ (∀ x ∈ ms, ∃ st, Reach ks (c : Int) (W : Int) st ∧ x.2 ∈ bad ks (c : Int) (W : Int) st ∧ x.1 = form ks (W : Int) st x.2) ∧
        (∀ st ∈ found.take i, ∀ n ∈ bad ks (c : Int) (W : Int) st, (form ks (W : Int) st n, n) ∈ ms) ∧ (∀ n ∈ (bad ks (c : Int) (W : Int) st).take j, (form ks (W : Int) st n, n) ∈ ms) ∧ KpA bq H3' H' ∧ KpA d H2' H' ∧
        At K H0 [.v (.ref p), .d (kdD ks), .d (.int (c : Nat)), .d (.int t), .d (.int (W : Nat)), .v (.ref md), .d (stD st), .un, .un, .un, .un] σ' H')
      (fun H3' e => ⟨kvsM, ms, (hm.mono (e7.trans e8)).mono e, hmk, hms, hall, (by rw [List.take_zero]; exact fun _ h => nomatch h), .refl _ _, (hK.trans (.of (e7.trans e8))).trans (.of e), (a7.mono e8).mono e⟩) (fun _ _ _ _ _ h => by obtain ⟨_, _, _, _, _, _, _, h, _⟩ := h; exact h)
      (fun H3' j n σ2 H9 H10 us2 e9 hx2 h e10 hus2 => ?_) fun H3' σ2 H9 e9 h => ?_
    · obtain ⟨kvs2, ms2, hm2, hmk2, hms2, hall2, hnow, hK1, hK2, a8⟩ := h
      have hn : n ∈ bad ks (c : Int) (W : Int) st := List.mem_of_getElem? hx2
      have hnl : n < ks.length := (mem_may.mp (List.mem_filter.mp hn).1).1
      have a9 := (a8.mono e10).putAll (js := [7]) hus2 rfl
      have a9 : At K H0 [.v (.ref p), .d (kdD ks), .d (.int (c : Nat)), .d (.int t), .d (.int (W : Nat)), .v (.ref md), .d (stD st), .d (.int (n : Nat)), .un, .un, .un] (setAll σ2 [7] us2) H10 := a9
      have hm10 := hm2.mono e10
      refine s_nput (k := kM (form ks (W : Int) st n, n)) (x := .tuple [shD (form ks (W : Int) st n), .int (n : Nat)]) (dv := .bool true) (fun h => kM_of (x := (form ks (W : Int) st n, n)) h) ev_bl ((ev_var (a9).env (i := 5) rfl))
        (ev_tup (ds := [shD (form ks (W : Int) st n), .int (n : Nat)]) (ea_cons (evD (x := (ks, (W : Int), st, n)) (enc := fun x : List Kd × Int × RSt × Nat => [kdD x.1, .int x.2.1, stD x.2.2.1, .int (x.2.2.2 : Nat)]) (Pre := fun x => x.2.2.2 < x.1.length ∧ x.2.2.1.2.length ≤ 1000 ∧ (∀ m ∈ x.2.2.1.2, m.2 < x.1.length) ∧ FormOk x.1 x.2.1 x.2.2.1 x.2.2.2) (r := fun x => shD (form x.1 x.2.1 x.2.2.1 x.2.2.2)) (ea_cons ((ev_var (a9).env (i := 1) rfl)) (ea_cons ((ev_var (a9).env (i := 4) rfl)) (ea_cons ((ev_var (a9).env (i := 6) rfl)) (ea_cons ((ev_var (a9).env (i := 7) rfl)) ea_nil)))) ⟨hnl, rs.1, rs.2, form_ok g (hr'.inv g (by omega) (by omega)) hn⟩) (ea_cons ((ev_var (a9).env (i := 7) rfl)) ea_nil)) (by decide : 2 ≤ 100000)) hm10 (mlen hm10 hmk2 hms2) fun b' v' u' H11 e11 n11 hv11 ndn => ?_
      have e1011 := e10.trans e11
      have hkeys' := putE_keys kvs2 (kM (form ks (W : Int) st n, n)) b' v'
      have htk : ∀ ms3 : List (Wr.Shape × Nat), (∀ x ∈ ms2, x ∈ ms3) → (form ks (W : Int) st n, n) ∈ ms3 → (∀ st ∈ found.take i, ∀ n ∈ bad ks (c : Int) (W : Int) st, (form ks (W : Int) st n, n) ∈ ms3) ∧ ∀ m ∈ (bad ks (c : Int) (W : Int) st).take (j + 1), (form ks (W : Int) st m, m) ∈ ms3 := fun ms3 h1 h2 => ⟨fun st hst n hn => h1 _ (hall2 st hst n hn), fun m hm' => by
        rw [List.take_add_one, hx2] at hm'
        rcases List.mem_append.mp hm' with hm' | hm'
        · exact h1 _ (hnow m hm')
        · rw [List.mem_singleton.mp hm']
          exact h2⟩
      have aF := ((a9.mono e11).un 7).wrD (o := u') n11 nmd0 (nlsS st)
      have kF1 : KpA bq H3' (upd H11 md u') := (hK1.trans (.of e1011)).trans (.dict n11 hbm)
      have kF2 : KpA d H2' (upd H11 md u') := (hK2.trans (.of e1011)).trans (.dict n11 (Ne.symm hdm))
      by_cases hmem : (form ks (W : Int) st n, n) ∈ ms2
      · have hkm : kM (form ks (W : Int) st n, n) ∈ kvs2.map (·.1) := by rw [hmk2]; exact List.mem_map.mpr ⟨_, hmem, rfl⟩
        rw [if_pos hkm] at hkeys'
        obtain ⟨t1, t2⟩ := htk ms2 (fun _ h => h) hmem
        exact ⟨_, ms2, ndn, hkeys'.trans hmk2, hms2, t1, t2, kF1, kF2, aF⟩
      · have hkm : kM (form ks (W : Int) st n, n) ∉ kvs2.map (·.1) := fun z => by
          rw [hmk2] at z
          obtain ⟨y, hy, hye⟩ := List.mem_map.mp z
          exact hmem (by rw [← kM_inj hye]; exact hy)
        rw [if_neg hkm] at hkeys'
        obtain ⟨t1, t2⟩ := htk (ms2 ++ [(form ks (W : Int) st n, n)]) (fun _ h => List.mem_append_left _ h) (List.mem_append_right _ List.mem_cons_self)
        refine ⟨_, ms2 ++ [(form ks (W : Int) st n, n)], ndn, by rw [hkeys', hmk2, List.map_append]; rfl, fun x hx => ?_, t1, t2, kF1, kF2, aF⟩
        rcases List.mem_append.mp hx with hx | hx
        · exact hms2 x hx
        · rw [List.mem_singleton.mp hx]
          exact ⟨st, hr', hn, rfl⟩
    · obtain ⟨kvs2, ms2, hm2, hmk2, hms2, hall2, hnow, hK1, hK2, a8⟩ := h
      rw [List.take_length] at hnow
      refine ⟨kvs2, ms2, hm2, hmk2, hms2, fun st' hst' n hn => ?_, hK2, a8.un 6⟩
      rw [List.take_add_one, hx] at hst'
      rcases List.mem_append.mp hst' with hst' | hst'
      · exact hall2 st' hst' n hn
      · rw [List.mem_singleton.mp hst'] at hn ⊢
        exact hnow n hn
  · obtain ⟨kvsM, ms, hm, hmk, hms, hall, hK, a6⟩ := h
    rw [List.take_length] at hall
    -- for shape, number in met
    have src4 := src_nkeys2 (i := 8) (j := 7) (zs := ms) (f1 := fun x => shD x.1) (f2 := fun x => .int (x.2 : Nat)) ((ev_var (a6).env (i := 5) rfl)) hm (by
      rw [show (kvsM.map fun x => x.1.data) = (kvsM.map (·.1)).map NestedKey.data by rw [List.map_map]; rfl, hmk, List.map_map]
      exact List.map_congr_left fun x _ => kM_data x)
    refine q_for (xs := ms) (f := fun x => [.d (shD x.1), .d (.int (x.2 : Nat))]) src4 (fun H2' i σ' H' => Ex H2' H' ∧ At K H0 [.v (.ref p), .d (kdD ks), .d (.int (c : Nat)), .d (.int t), .d (.int (W : Nat)), .v (.ref md), .un, .un, .un, .un, .un] σ' H')
      (fun H2' e => ⟨Ex.refl _, a6.mono e⟩) (fun _ _ _ _ _ h => .of h.1) (fun H2' i x σ2 H7 H8 us e7 hx ⟨eH, a7⟩ e8 hus => ?_) fun H2' σ2 H7 e7 ⟨eH, a7⟩ => ?_
    · obtain ⟨st, hst, hbd, hfm⟩ := hms x (List.mem_of_getElem? hx)
      obtain ⟨sh, n⟩ := x
      have hbd : n ∈ bad ks (c : Int) (W : Int) st := hbd
      have hfm : sh = form ks (W : Int) st n := hfm
      obtain ⟨us', so⟩ := (hst.inv g (by omega) (by omega)).shape g hbd
      rw [← hfm] at so
      have a8 := (a7.mono e8).putAll (js := [8, 7]) hus rfl
      have a8 : At K H0 [.v (.ref p), .d (kdD ks), .d (.int (c : Nat)), .d (.int t), .d (.int (W : Nat)), .v (.ref md), .un, .d (.int (n : Nat)), .d (shD sh), .un, .un] (setAll σ2 [8, 7] us) H8 := a8
      refine q_two (d1 := .int (sizes ks n sh).1) (d2 := .int (sizes ks n sh).2) a8 (evD (x := (ks, sh, n)) (enc := fun x : List Kd × Wr.Shape × Nat => [kdD x.1, shD x.2.1, .int (x.2.2 : Nat)]) (Pre := fun x => x.2.2 < x.1.length ∧ ShLt x.1 x.2.1) (r := fun x => pr (sizes x.1 x.2.2 x.2.1)) (ea_cons ((ev_var (a8).env (i := 1) rfl)) (ea_cons ((ev_var (a8).env (i := 8) rfl)) (ea_cons ((ev_var (a8).env (i := 7) rfl)) ea_nil))) ⟨us'.1, shLt_of so⟩) fun σ9 H9 e9 a9 => ?_
      obtain ⟨z1, z2⟩ := sizes_ok (by omega) so
      have t1 := et_s (ev_chain (a := decide ((sizes ks n sh).1 ≤ (W : Int))) (b := decide ((W : Int) ≤ (sizes ks n sh).2)) (r := rI0 fun i j => .bl (decide (i ≤ j))) (r' := rI0 fun i j => .bl (decide (i ≤ j))) ((ev_var (a9).env (i := 9) rfl)) ((ev_var (a9).env (i := 4) rfl)) ((ev_var (a9).env (i := 10) rfl)) (fun H Q q => ⟨_, _, rfl, rfl, q⟩) fun H Q q => ⟨_, _, rfl, rfl, q⟩)
      rw [decide_eq_true z1, decide_eq_true z2] at t1
      have t2 := et_s (ev_notTrue (a := true) (b := true) (evD (x := (⟨ks, (c : Int), sh, n⟩ : CanA)) (enc := fun x : CanA => [kdD x.ks, .int x.c, shD x.sh, .int (x.n : Nat)]) (Pre := CanA.Ok) (r := fun _ => .bool true) (ea_cons ((ev_var (a9).env (i := 1) rfl)) (ea_cons ((ev_var (a9).env (i := 2) rfl)) (ea_cons ((ev_var (a9).env (i := 8) rfl)) (ea_cons ((ev_var (a9).env (i := 7) rfl)) ea_nil)))) ⟨g, by show ks.length ≤ 1000; omega, us', (W : Int), so⟩) ev_bl)
      refine s_if (b := !(true && true) || !decide (true = true)) a9 (et_or (et_not t1) fun _ => t2) (fun hb _ _ _ => absurd hb (by decide)) fun _ H10 e10 a10 => ?_
      exact ⟨((eH.trans e8).trans e9).trans e10, ((((a10.un 7).un 8).un 9).un 10)⟩
    · -- return (met != {}) == (words <= most)
      have hm7 : ND K P w H7 md kvsM := (hm.mono e7).mono eH
      have hiff : (!kvsM.isEmpty) = decide ((W : Int) ≤ t) := by
        by_cases hz : (W : Int) ≤ t
        · rw [decide_eq_true hz]
          obtain ⟨st, n, hr', hn⟩ := htop'.mpr hz
          have hmm := hall st (b.all hr') n hn
          cases hkv : kvsM with
          | cons _ _ => rfl
          | nil =>
            rw [hkv] at hmk
            rw [List.map_eq_nil_iff.mp hmk.symm] at hmm
            exact nomatch hmm
        · rw [decide_eq_false hz]
          cases hkv : kvsM with
          | nil => rfl
          | cons e0 r0 =>
            rw [hkv] at hmk
            cases hms' : ms with
            | nil => rw [hms'] at hmk; simp at hmk
            | cons x r =>
              obtain ⟨st, h1, h2, _⟩ := hms x (by rw [hms']; exact List.mem_cons_self)
              exact absurd (htop'.mp ⟨st, x.2, h1, h2⟩) hz
      refine s_ret (ev_eqB (ev_nneNew ((ev_var (a7).env (i := 5) rfl)) hm7) (ev_le ((ev_var (a7).env (i := 4) rfl)) ((ev_var (a7).env (i := 3) rfl)))) fun y H8 e8 hy => ?_
      have hy : y = .bl (decide ((!kvsM.isEmpty) = decide ((W : Int) ≤ t))) := dp_bl hy
      rw [hy, hiff, decide_eq_true rfl]
      exact q _ (exB_of hB0 (a7.ex.trans e8))
end
end Wk

set_option maxHeartbeats 200000
set_option Elab.async false
set_option linter.all false
set_option maxRecDepth 100000
set_option maxHeartbeats 2000000
/-! WrL: the law; all defs together. -/
namespace Wk
open PySem PySem.Spec PyProof.Rows L2 Evl Wr
open C8 (Cal pe_c Met pe_mt pe_mt0 Mak pe_mk)
section
variable {P : Program} {w : World} {K : PySem.W.Frag} {mg : Str → Option Value} {base : Heap} {C f : Addr} {fd : FuncData}
theorem ev_right {H : Hp} {σ : L2.St} {tr : TA} {ns : List Int} {k : Nat} {E E' : XK} (h : EvAS K tr σ H [.d (.list (ns.map .int)), .d (.int (k : Nat))]) (hk : k ≤ 1) (hn : ns.length ≤ 1000) : EvS K (tCall SpRight [] E (tCons (tCall (SpPot K) [] E' tr) tNil)) σ H (.d (.bool true)) := fun H1 e1 Q q =>
  h H1 e1 _ fun us H2 e2 hus => ⟨ns, k, by rw [List.append_nil]; exact hda_d (ds := [.list (ns.map .int), .int (k : Nat)]) hus, hk, hn, fun p H3 hp e3 P3 => ⟨p, rfl, P3, fun H4 e4 => q _ H4 (fun b o hb => e4 b o (fun z => by subst z; rw [e2 _ _ hb] at hp; cases hp) (e3 _ _ (e2 _ _ hb))) (.bl true)⟩⟩
def SpLaw (K : PySem.W.Frag) : Sp := fun vs H Q _ => ∃ (a : Addr) (ns : List Int), vs = [.ref a] ∧ SqL K H a (ns.map V.int) ∧ ns.length ≤ 63 ∧ ∀ H', Q (.bl true) H'
theorem ok_law (T : Tx w K mg C) (G_l_right : Cal P w K mg base 6 "_law_right" SpRight []) (G_l_pot : Cal P w K mg base 1 "_law_pot" (SpPot K) []) (F : Fun K "law" "law" s_law f fd) : FnOk P w K mg base CX0 7 f fd p_law (SpLaw K) := by
  refine F.ok sc_law (fun vs H Q E h => by obtain ⟨a, ns, rfl, _⟩ := h; rfl) fun cdv A outer s H vs Q E hr h => ?_
  obtain ⟨l, ns, rfl, hl, hn, q⟩ := h
  refine ⟨_, (pss_one (ps_ret (pe_callB (cr_all rfl) (by rfl) T.b_all bt_all (pa_cons (pe_lc (own := [("_law_k", 1)]) (g := gName 1) (tt := tYes) rfl sc_law.nd (pi_range1 (by rfl) T.b_range (pa_cons (pe_callB (call_max2 rfl) (by rfl) T.b_max bt_max (pa_cons pe_int (pa_cons (pe_callB (call_min2 rfl) (by rfl) T.b_min bt_min (pa_cons pe_int (pa_cons (pe_callB call_len (by rfl) T.b_len bt_len (pa_cons (pv 0) pa_nil)) pa_nil))) pa_nil))) pa_nil)) (blkOk_by (N := n_law) (sc := defScope s_law) (by decide +kernel)) (fun _ _ _ _ _ => (pg_name (i := 1) sc_law.nd rfl (.inl rfl))) (fun _ _ _ _ _ => pts_nil) (fun _ _ _ _ _ => (pe_c G_l_right hr (by decide) (by rfl) (pa_cons (pe_c G_l_pot hr (by decide) (by rfl) (pa_cons (pv 0) (pa_cons (pv 1) pa_nil))) pa_nil)))) pa_nil)))), ?_⟩
  have a : At K H [.d (.list (ns.map .int)), .un] (start n_law [.ref l]) H := at_here (N := n_law) (n := 1) (ds := [.list (ns.map .int)]) (.cons (.lst hl dpa_ints') .nil) rfl
  have hlen := ev_lenL ((ev_var (a).env (i := 0) rfl))
  rw [List.length_map] at hlen
  have src := src_rng1 (j := 1) (ea_cons (ev_max2 (ev_int (i := 1)) (ev_min2 (ev_int (i := 2)) hlen)) ea_nil) ⟨by omega, by omega⟩
  have hle : (max (1 : Int) (min 2 (ns.length : Int))).toNat ≤ 2 := by omega
  have hlc := en_lcA (vs := [1]) (te := tCall SpRight [] C8.E0 (tCons (tCall (SpPot K) [] C8.E0 (tCons (tVar 0) (tCons (tVar 1) tNil))) tNil)) (fun _ : Nat => .bool true) src a.env (by rw [List.length_range]; omega) (by decide) (fun _ _ => rfl) fun k hk σ' H' e en => ev_right (ea_cons ((ev_var en (i := 0) rfl)) (ea_cons ((ev_var en (i := 1) rfl)) ea_nil)) (by have := List.mem_range.mp hk; omega) (by omega)
  refine s_ret (ev_all (bs := (List.range (max (1 : Int) (min 2 (ns.length : Int))).toNat).map fun _ => true) (en_cast hlc (by rw [List.map_map]; rfl)).toS) fun y H1 e1 hy => ?_
  rw [show y = V.bl true by
    rw [show y = V.bl _ from dp_bl hy]
    congr 1
    rw [List.all_eq_true]
    intro b hb
    obtain ⟨_, _, rfl⟩ := List.mem_map.mp hb
    rfl]
  exact q H1
end
end Wk

set_option maxHeartbeats 200000
set_option Elab.async false
set_option linter.all false
set_option maxRecDepth 100000
set_option maxHeartbeats 4000000
/-! WrG: what the top has written, all defs together (printed by gen/head.py). -/
namespace Wk
open PySem PySem.Spec PyProof.Rows L2 Evl Wr
open C8 (Cal pe_c Met pe_mt pe_mt0 Mak pe_mk)
theorem all_mk {l : PySem.W.OpenLaw} {w : World} {K : PySem.W.Frag} {h : Heap} {mg : Str → Option Value} {fa C SD TD : Addr} {oTD : Obj} {nTD nS : Nat} {esS : Array DictEntry} {tLONG tSHORT_END tCAUGHT_UP tp0 tp1 tp2 : Tok} (X : K.In h) (G : h.Ns mainGlobals mg) (hfa : mg "law" = some (.ref fa))
    {f_usable f_common_divisor f_least_of f_sizes_of f_is_carried f_end_can_occur f_newer_can_occur f_can_occur f_l_pot f_l_take f_l_of f_l_kinds f_l_can_pay f_l_yes f_l_floors f_l_slim f_l_rich f_l_top_behind f_l_top f_l_few f_l_refused f_l_pushed f_l_paid f_l_may f_l_seen f_l_bad f_l_form f_l_right f_law f_is_integer fm_least_by_rest fm_regular_from fm_floors fm_floor fm_is_sum fm_slimmest fm_lightest_up_to fm_lightest fm_richest fm_longest_up_to fm_init : Addr} {od_usable an_usable od_common_divisor an_common_divisor od_least_of an_least_of od_sizes_of an_sizes_of od_is_carried an_is_carried od_end_can_occur an_end_can_occur od_newer_can_occur an_newer_can_occur od_can_occur an_can_occur od_l_pot an_l_pot od_l_take an_l_take od_l_of an_l_of od_l_kinds an_l_kinds od_l_can_pay an_l_can_pay od_l_yes an_l_yes od_l_floors an_l_floors od_l_slim an_l_slim od_l_rich an_l_rich od_l_top_behind an_l_top_behind od_l_top an_l_top od_l_few an_l_few od_l_refused an_l_refused od_l_pushed an_l_pushed od_l_paid an_l_paid od_l_may an_l_may od_l_seen an_l_seen od_l_bad an_l_bad od_l_form an_l_form od_l_right an_l_right od_law an_law od_is_integer an_is_integer odm_least_by_rest anm_least_by_rest odm_regular_from anm_regular_from odm_floors anm_floors odm_floor anm_floor odm_is_sum anm_is_sum odm_slimmest anm_slimmest odm_lightest_up_to anm_lightest_up_to odm_lightest anm_lightest odm_richest anm_richest odm_longest_up_to anm_longest_up_to odm_init anm_init : Option Addr} {sl_usable sl_common_divisor sl_least_of sl_sizes_of sl_is_carried sl_end_can_occur sl_newer_can_occur sl_can_occur sl_l_pot sl_l_take sl_l_of sl_l_kinds sl_l_can_pay sl_l_yes sl_l_floors sl_l_slim sl_l_rich sl_l_top_behind sl_l_top sl_l_few sl_l_refused sl_l_pushed sl_l_paid sl_l_may sl_l_seen sl_l_bad sl_l_form sl_l_right sl_law sl_is_integer slm_least_by_rest slm_regular_from slm_floors slm_floor slm_is_sum slm_slimmest slm_lightest_up_to slm_lightest slm_richest slm_longest_up_to slm_init : Array (Option Value)} {oc_usable kV_usable dc_usable pm_usable cd_usable ct_usable oc_common_divisor kV_common_divisor dc_common_divisor pm_common_divisor cd_common_divisor ct_common_divisor oc_least_of kV_least_of dc_least_of pm_least_of cd_least_of ct_least_of oc_sizes_of kV_sizes_of dc_sizes_of pm_sizes_of cd_sizes_of ct_sizes_of oc_is_carried kV_is_carried dc_is_carried pm_is_carried cd_is_carried ct_is_carried oc_end_can_occur kV_end_can_occur dc_end_can_occur pm_end_can_occur cd_end_can_occur ct_end_can_occur oc_newer_can_occur kV_newer_can_occur dc_newer_can_occur pm_newer_can_occur cd_newer_can_occur ct_newer_can_occur oc_can_occur kV_can_occur dc_can_occur pm_can_occur cd_can_occur ct_can_occur oc_l_pot kV_l_pot dc_l_pot pm_l_pot cd_l_pot ct_l_pot oc_l_take kV_l_take dc_l_take pm_l_take cd_l_take ct_l_take oc_l_of kV_l_of dc_l_of pm_l_of cd_l_of ct_l_of oc_l_kinds kV_l_kinds dc_l_kinds pm_l_kinds cd_l_kinds ct_l_kinds oc_l_can_pay kV_l_can_pay dc_l_can_pay pm_l_can_pay cd_l_can_pay ct_l_can_pay oc_l_yes kV_l_yes dc_l_yes pm_l_yes cd_l_yes ct_l_yes oc_l_floors kV_l_floors dc_l_floors pm_l_floors cd_l_floors ct_l_floors oc_l_slim kV_l_slim dc_l_slim pm_l_slim cd_l_slim ct_l_slim oc_l_rich kV_l_rich dc_l_rich pm_l_rich cd_l_rich ct_l_rich oc_l_top_behind kV_l_top_behind dc_l_top_behind pm_l_top_behind cd_l_top_behind ct_l_top_behind oc_l_top kV_l_top dc_l_top pm_l_top cd_l_top ct_l_top oc_l_few kV_l_few dc_l_few pm_l_few cd_l_few ct_l_few oc_l_refused kV_l_refused dc_l_refused pm_l_refused cd_l_refused ct_l_refused oc_l_pushed kV_l_pushed dc_l_pushed pm_l_pushed cd_l_pushed ct_l_pushed oc_l_paid kV_l_paid dc_l_paid pm_l_paid cd_l_paid ct_l_paid oc_l_may kV_l_may dc_l_may pm_l_may cd_l_may ct_l_may oc_l_seen kV_l_seen dc_l_seen pm_l_seen cd_l_seen ct_l_seen oc_l_bad kV_l_bad dc_l_bad pm_l_bad cd_l_bad ct_l_bad oc_l_form kV_l_form dc_l_form pm_l_form cd_l_form ct_l_form oc_l_right kV_l_right dc_l_right pm_l_right cd_l_right ct_l_right oc_law kV_law dc_law pm_law cd_law ct_law oc_is_integer kV_is_integer dc_is_integer pm_is_integer cd_is_integer ct_is_integer ocm_least_by_rest kVm_least_by_rest dcm_least_by_rest pmm_least_by_rest cdm_least_by_rest ctm_least_by_rest ocm_regular_from kVm_regular_from dcm_regular_from pmm_regular_from cdm_regular_from ctm_regular_from ocm_floors kVm_floors dcm_floors pmm_floors cdm_floors ctm_floors ocm_floor kVm_floor dcm_floor pmm_floor cdm_floor ctm_floor ocm_is_sum kVm_is_sum dcm_is_sum pmm_is_sum cdm_is_sum ctm_is_sum ocm_slimmest kVm_slimmest dcm_slimmest pmm_slimmest cdm_slimmest ctm_slimmest ocm_lightest_up_to kVm_lightest_up_to dcm_lightest_up_to pmm_lightest_up_to cdm_lightest_up_to ctm_lightest_up_to ocm_lightest kVm_lightest dcm_lightest pmm_lightest cdm_lightest ctm_lightest ocm_richest kVm_richest dcm_richest pmm_richest cdm_richest ctm_richest ocm_longest_up_to kVm_longest_up_to dcm_longest_up_to pmm_longest_up_to cdm_longest_up_to ctm_longest_up_to ocm_init kVm_init dcm_init pmm_init cdm_init ctm_init : Value}
    (a_usable : PySem.W.nsIn K mainGlobals "usable" = some (some (.ref f_usable)))
    (l_usable : K.lookup f_usable = some ⟨oc_usable, od_usable, .func (PySem.W.fnOf "usable" "usable" (defArgs s_usable) (defBody s_usable) (defScope s_usable) .none kV_usable dc_usable pm_usable an_usable cd_usable ct_usable), sl_usable⟩)
    (c_usable : PySem.W.codeIn K cd_usable "usable" = true)
    (k_usable : PySem.W.keepIn K (.ref f_usable) = true)
    (a_common_divisor : PySem.W.nsIn K mainGlobals "common_divisor" = some (some (.ref f_common_divisor)))
    (l_common_divisor : K.lookup f_common_divisor = some ⟨oc_common_divisor, od_common_divisor, .func (PySem.W.fnOf "common_divisor" "common_divisor" (defArgs s_common_divisor) (defBody s_common_divisor) (defScope s_common_divisor) .none kV_common_divisor dc_common_divisor pm_common_divisor an_common_divisor cd_common_divisor ct_common_divisor), sl_common_divisor⟩)
    (c_common_divisor : PySem.W.codeIn K cd_common_divisor "common_divisor" = true)
    (k_common_divisor : PySem.W.keepIn K (.ref f_common_divisor) = true)
    (a_least_of : PySem.W.nsIn K mainGlobals "least_of" = some (some (.ref f_least_of)))
    (l_least_of : K.lookup f_least_of = some ⟨oc_least_of, od_least_of, .func (PySem.W.fnOf "least_of" "least_of" (defArgs s_least_of) (defBody s_least_of) (defScope s_least_of) .none kV_least_of dc_least_of pm_least_of an_least_of cd_least_of ct_least_of), sl_least_of⟩)
    (c_least_of : PySem.W.codeIn K cd_least_of "least_of" = true)
    (k_least_of : PySem.W.keepIn K (.ref f_least_of) = true)
    (a_sizes_of : PySem.W.nsIn K mainGlobals "sizes_of" = some (some (.ref f_sizes_of)))
    (l_sizes_of : K.lookup f_sizes_of = some ⟨oc_sizes_of, od_sizes_of, .func (PySem.W.fnOf "sizes_of" "sizes_of" (defArgs s_sizes_of) (defBody s_sizes_of) (defScope s_sizes_of) .none kV_sizes_of dc_sizes_of pm_sizes_of an_sizes_of cd_sizes_of ct_sizes_of), sl_sizes_of⟩)
    (c_sizes_of : PySem.W.codeIn K cd_sizes_of "sizes_of" = true)
    (k_sizes_of : PySem.W.keepIn K (.ref f_sizes_of) = true)
    (a_is_carried : PySem.W.nsIn K mainGlobals "is_carried" = some (some (.ref f_is_carried)))
    (l_is_carried : K.lookup f_is_carried = some ⟨oc_is_carried, od_is_carried, .func (PySem.W.fnOf "is_carried" "is_carried" (defArgs s_is_carried) (defBody s_is_carried) (defScope s_is_carried) .none kV_is_carried dc_is_carried pm_is_carried an_is_carried cd_is_carried ct_is_carried), sl_is_carried⟩)
    (c_is_carried : PySem.W.codeIn K cd_is_carried "is_carried" = true)
    (k_is_carried : PySem.W.keepIn K (.ref f_is_carried) = true)
    (a_end_can_occur : PySem.W.nsIn K mainGlobals "end_can_occur" = some (some (.ref f_end_can_occur)))
    (l_end_can_occur : K.lookup f_end_can_occur = some ⟨oc_end_can_occur, od_end_can_occur, .func (PySem.W.fnOf "end_can_occur" "end_can_occur" (defArgs s_end_can_occur) (defBody s_end_can_occur) (defScope s_end_can_occur) .none kV_end_can_occur dc_end_can_occur pm_end_can_occur an_end_can_occur cd_end_can_occur ct_end_can_occur), sl_end_can_occur⟩)
    (c_end_can_occur : PySem.W.codeIn K cd_end_can_occur "end_can_occur" = true)
    (k_end_can_occur : PySem.W.keepIn K (.ref f_end_can_occur) = true)
    (a_newer_can_occur : PySem.W.nsIn K mainGlobals "newer_can_occur" = some (some (.ref f_newer_can_occur)))
    (l_newer_can_occur : K.lookup f_newer_can_occur = some ⟨oc_newer_can_occur, od_newer_can_occur, .func (PySem.W.fnOf "newer_can_occur" "newer_can_occur" (defArgs s_newer_can_occur) (defBody s_newer_can_occur) (defScope s_newer_can_occur) .none kV_newer_can_occur dc_newer_can_occur pm_newer_can_occur an_newer_can_occur cd_newer_can_occur ct_newer_can_occur), sl_newer_can_occur⟩)
    (c_newer_can_occur : PySem.W.codeIn K cd_newer_can_occur "newer_can_occur" = true)
    (k_newer_can_occur : PySem.W.keepIn K (.ref f_newer_can_occur) = true)
    (a_can_occur : PySem.W.nsIn K mainGlobals "can_occur" = some (some (.ref f_can_occur)))
    (l_can_occur : K.lookup f_can_occur = some ⟨oc_can_occur, od_can_occur, .func (PySem.W.fnOf "can_occur" "can_occur" (defArgs s_can_occur) (defBody s_can_occur) (defScope s_can_occur) .none kV_can_occur dc_can_occur pm_can_occur an_can_occur cd_can_occur ct_can_occur), sl_can_occur⟩)
    (c_can_occur : PySem.W.codeIn K cd_can_occur "can_occur" = true)
    (k_can_occur : PySem.W.keepIn K (.ref f_can_occur) = true)
    (a_l_pot : PySem.W.nsIn K mainGlobals "_law_pot" = some (some (.ref f_l_pot)))
    (l_l_pot : K.lookup f_l_pot = some ⟨oc_l_pot, od_l_pot, .func (PySem.W.fnOf "_law_pot" "_law_pot" (defArgs s_l_pot) (defBody s_l_pot) (defScope s_l_pot) .none kV_l_pot dc_l_pot pm_l_pot an_l_pot cd_l_pot ct_l_pot), sl_l_pot⟩)
    (c_l_pot : PySem.W.codeIn K cd_l_pot "_law_pot" = true)
    (k_l_pot : PySem.W.keepIn K (.ref f_l_pot) = true)
    (a_l_take : PySem.W.nsIn K mainGlobals "_law_take" = some (some (.ref f_l_take)))
    (l_l_take : K.lookup f_l_take = some ⟨oc_l_take, od_l_take, .func (PySem.W.fnOf "_law_take" "_law_take" (defArgs s_l_take) (defBody s_l_take) (defScope s_l_take) .none kV_l_take dc_l_take pm_l_take an_l_take cd_l_take ct_l_take), sl_l_take⟩)
    (c_l_take : PySem.W.codeIn K cd_l_take "_law_take" = true)
    (k_l_take : PySem.W.keepIn K (.ref f_l_take) = true)
    (a_l_of : PySem.W.nsIn K mainGlobals "_law_of" = some (some (.ref f_l_of)))
    (l_l_of : K.lookup f_l_of = some ⟨oc_l_of, od_l_of, .func (PySem.W.fnOf "_law_of" "_law_of" (defArgs s_l_of) (defBody s_l_of) (defScope s_l_of) .none kV_l_of dc_l_of pm_l_of an_l_of cd_l_of ct_l_of), sl_l_of⟩)
    (c_l_of : PySem.W.codeIn K cd_l_of "_law_of" = true)
    (k_l_of : PySem.W.keepIn K (.ref f_l_of) = true)
    (a_l_kinds : PySem.W.nsIn K mainGlobals "_law_kinds" = some (some (.ref f_l_kinds)))
    (l_l_kinds : K.lookup f_l_kinds = some ⟨oc_l_kinds, od_l_kinds, .func (PySem.W.fnOf "_law_kinds" "_law_kinds" (defArgs s_l_kinds) (defBody s_l_kinds) (defScope s_l_kinds) .none kV_l_kinds dc_l_kinds pm_l_kinds an_l_kinds cd_l_kinds ct_l_kinds), sl_l_kinds⟩)
    (c_l_kinds : PySem.W.codeIn K cd_l_kinds "_law_kinds" = true)
    (k_l_kinds : PySem.W.keepIn K (.ref f_l_kinds) = true)
    (a_l_can_pay : PySem.W.nsIn K mainGlobals "_law_can_pay" = some (some (.ref f_l_can_pay)))
    (l_l_can_pay : K.lookup f_l_can_pay = some ⟨oc_l_can_pay, od_l_can_pay, .func (PySem.W.fnOf "_law_can_pay" "_law_can_pay" (defArgs s_l_can_pay) (defBody s_l_can_pay) (defScope s_l_can_pay) .none kV_l_can_pay dc_l_can_pay pm_l_can_pay an_l_can_pay cd_l_can_pay ct_l_can_pay), sl_l_can_pay⟩)
    (c_l_can_pay : PySem.W.codeIn K cd_l_can_pay "_law_can_pay" = true)
    (k_l_can_pay : PySem.W.keepIn K (.ref f_l_can_pay) = true)
    (a_l_yes : PySem.W.nsIn K mainGlobals "_law_yes" = some (some (.ref f_l_yes)))
    (l_l_yes : K.lookup f_l_yes = some ⟨oc_l_yes, od_l_yes, .func (PySem.W.fnOf "_law_yes" "_law_yes" (defArgs s_l_yes) (defBody s_l_yes) (defScope s_l_yes) .none kV_l_yes dc_l_yes pm_l_yes an_l_yes cd_l_yes ct_l_yes), sl_l_yes⟩)
    (c_l_yes : PySem.W.codeIn K cd_l_yes "_law_yes" = true)
    (k_l_yes : PySem.W.keepIn K (.ref f_l_yes) = true)
    (a_l_floors : PySem.W.nsIn K mainGlobals "_law_floors" = some (some (.ref f_l_floors)))
    (l_l_floors : K.lookup f_l_floors = some ⟨oc_l_floors, od_l_floors, .func (PySem.W.fnOf "_law_floors" "_law_floors" (defArgs s_l_floors) (defBody s_l_floors) (defScope s_l_floors) .none kV_l_floors dc_l_floors pm_l_floors an_l_floors cd_l_floors ct_l_floors), sl_l_floors⟩)
    (c_l_floors : PySem.W.codeIn K cd_l_floors "_law_floors" = true)
    (k_l_floors : PySem.W.keepIn K (.ref f_l_floors) = true)
    (a_l_slim : PySem.W.nsIn K mainGlobals "_law_slim" = some (some (.ref f_l_slim)))
    (l_l_slim : K.lookup f_l_slim = some ⟨oc_l_slim, od_l_slim, .func (PySem.W.fnOf "_law_slim" "_law_slim" (defArgs s_l_slim) (defBody s_l_slim) (defScope s_l_slim) .none kV_l_slim dc_l_slim pm_l_slim an_l_slim cd_l_slim ct_l_slim), sl_l_slim⟩)
    (c_l_slim : PySem.W.codeIn K cd_l_slim "_law_slim" = true)
    (k_l_slim : PySem.W.keepIn K (.ref f_l_slim) = true)
    (a_l_rich : PySem.W.nsIn K mainGlobals "_law_rich" = some (some (.ref f_l_rich)))
    (l_l_rich : K.lookup f_l_rich = some ⟨oc_l_rich, od_l_rich, .func (PySem.W.fnOf "_law_rich" "_law_rich" (defArgs s_l_rich) (defBody s_l_rich) (defScope s_l_rich) .none kV_l_rich dc_l_rich pm_l_rich an_l_rich cd_l_rich ct_l_rich), sl_l_rich⟩)
    (c_l_rich : PySem.W.codeIn K cd_l_rich "_law_rich" = true)
    (k_l_rich : PySem.W.keepIn K (.ref f_l_rich) = true)
    (a_l_top_behind : PySem.W.nsIn K mainGlobals "_law_top_behind" = some (some (.ref f_l_top_behind)))
    (l_l_top_behind : K.lookup f_l_top_behind = some ⟨oc_l_top_behind, od_l_top_behind, .func (PySem.W.fnOf "_law_top_behind" "_law_top_behind" (defArgs s_l_top_behind) (defBody s_l_top_behind) (defScope s_l_top_behind) .none kV_l_top_behind dc_l_top_behind pm_l_top_behind an_l_top_behind cd_l_top_behind ct_l_top_behind), sl_l_top_behind⟩)
    (c_l_top_behind : PySem.W.codeIn K cd_l_top_behind "_law_top_behind" = true)
    (k_l_top_behind : PySem.W.keepIn K (.ref f_l_top_behind) = true)
    (a_l_top : PySem.W.nsIn K mainGlobals "_law_top" = some (some (.ref f_l_top)))
    (l_l_top : K.lookup f_l_top = some ⟨oc_l_top, od_l_top, .func (PySem.W.fnOf "_law_top" "_law_top" (defArgs s_l_top) (defBody s_l_top) (defScope s_l_top) .none kV_l_top dc_l_top pm_l_top an_l_top cd_l_top ct_l_top), sl_l_top⟩)
    (c_l_top : PySem.W.codeIn K cd_l_top "_law_top" = true)
    (k_l_top : PySem.W.keepIn K (.ref f_l_top) = true)
    (a_l_few : PySem.W.nsIn K mainGlobals "_law_few" = some (some (.ref f_l_few)))
    (l_l_few : K.lookup f_l_few = some ⟨oc_l_few, od_l_few, .func (PySem.W.fnOf "_law_few" "_law_few" (defArgs s_l_few) (defBody s_l_few) (defScope s_l_few) .none kV_l_few dc_l_few pm_l_few an_l_few cd_l_few ct_l_few), sl_l_few⟩)
    (c_l_few : PySem.W.codeIn K cd_l_few "_law_few" = true)
    (k_l_few : PySem.W.keepIn K (.ref f_l_few) = true)
    (a_l_refused : PySem.W.nsIn K mainGlobals "_law_refused" = some (some (.ref f_l_refused)))
    (l_l_refused : K.lookup f_l_refused = some ⟨oc_l_refused, od_l_refused, .func (PySem.W.fnOf "_law_refused" "_law_refused" (defArgs s_l_refused) (defBody s_l_refused) (defScope s_l_refused) .none kV_l_refused dc_l_refused pm_l_refused an_l_refused cd_l_refused ct_l_refused), sl_l_refused⟩)
    (c_l_refused : PySem.W.codeIn K cd_l_refused "_law_refused" = true)
    (k_l_refused : PySem.W.keepIn K (.ref f_l_refused) = true)
    (a_l_pushed : PySem.W.nsIn K mainGlobals "_law_pushed" = some (some (.ref f_l_pushed)))
    (l_l_pushed : K.lookup f_l_pushed = some ⟨oc_l_pushed, od_l_pushed, .func (PySem.W.fnOf "_law_pushed" "_law_pushed" (defArgs s_l_pushed) (defBody s_l_pushed) (defScope s_l_pushed) .none kV_l_pushed dc_l_pushed pm_l_pushed an_l_pushed cd_l_pushed ct_l_pushed), sl_l_pushed⟩)
    (c_l_pushed : PySem.W.codeIn K cd_l_pushed "_law_pushed" = true)
    (k_l_pushed : PySem.W.keepIn K (.ref f_l_pushed) = true)
    (a_l_paid : PySem.W.nsIn K mainGlobals "_law_paid" = some (some (.ref f_l_paid)))
    (l_l_paid : K.lookup f_l_paid = some ⟨oc_l_paid, od_l_paid, .func (PySem.W.fnOf "_law_paid" "_law_paid" (defArgs s_l_paid) (defBody s_l_paid) (defScope s_l_paid) .none kV_l_paid dc_l_paid pm_l_paid an_l_paid cd_l_paid ct_l_paid), sl_l_paid⟩)
    (c_l_paid : PySem.W.codeIn K cd_l_paid "_law_paid" = true)
    (k_l_paid : PySem.W.keepIn K (.ref f_l_paid) = true)
    (a_l_may : PySem.W.nsIn K mainGlobals "_law_may" = some (some (.ref f_l_may)))
    (l_l_may : K.lookup f_l_may = some ⟨oc_l_may, od_l_may, .func (PySem.W.fnOf "_law_may" "_law_may" (defArgs s_l_may) (defBody s_l_may) (defScope s_l_may) .none kV_l_may dc_l_may pm_l_may an_l_may cd_l_may ct_l_may), sl_l_may⟩)
    (c_l_may : PySem.W.codeIn K cd_l_may "_law_may" = true)
    (k_l_may : PySem.W.keepIn K (.ref f_l_may) = true)
    (a_l_seen : PySem.W.nsIn K mainGlobals "_law_seen" = some (some (.ref f_l_seen)))
    (l_l_seen : K.lookup f_l_seen = some ⟨oc_l_seen, od_l_seen, .func (PySem.W.fnOf "_law_seen" "_law_seen" (defArgs s_l_seen) (defBody s_l_seen) (defScope s_l_seen) .none kV_l_seen dc_l_seen pm_l_seen an_l_seen cd_l_seen ct_l_seen), sl_l_seen⟩)
    (c_l_seen : PySem.W.codeIn K cd_l_seen "_law_seen" = true)
    (k_l_seen : PySem.W.keepIn K (.ref f_l_seen) = true)
    (a_l_bad : PySem.W.nsIn K mainGlobals "_law_bad" = some (some (.ref f_l_bad)))
    (l_l_bad : K.lookup f_l_bad = some ⟨oc_l_bad, od_l_bad, .func (PySem.W.fnOf "_law_bad" "_law_bad" (defArgs s_l_bad) (defBody s_l_bad) (defScope s_l_bad) .none kV_l_bad dc_l_bad pm_l_bad an_l_bad cd_l_bad ct_l_bad), sl_l_bad⟩)
    (c_l_bad : PySem.W.codeIn K cd_l_bad "_law_bad" = true)
    (k_l_bad : PySem.W.keepIn K (.ref f_l_bad) = true)
    (a_l_form : PySem.W.nsIn K mainGlobals "_law_form" = some (some (.ref f_l_form)))
    (l_l_form : K.lookup f_l_form = some ⟨oc_l_form, od_l_form, .func (PySem.W.fnOf "_law_form" "_law_form" (defArgs s_l_form) (defBody s_l_form) (defScope s_l_form) .none kV_l_form dc_l_form pm_l_form an_l_form cd_l_form ct_l_form), sl_l_form⟩)
    (c_l_form : PySem.W.codeIn K cd_l_form "_law_form" = true)
    (k_l_form : PySem.W.keepIn K (.ref f_l_form) = true)
    (a_l_right : PySem.W.nsIn K mainGlobals "_law_right" = some (some (.ref f_l_right)))
    (l_l_right : K.lookup f_l_right = some ⟨oc_l_right, od_l_right, .func (PySem.W.fnOf "_law_right" "_law_right" (defArgs s_l_right) (defBody s_l_right) (defScope s_l_right) .none kV_l_right dc_l_right pm_l_right an_l_right cd_l_right ct_l_right), sl_l_right⟩)
    (c_l_right : PySem.W.codeIn K cd_l_right "_law_right" = true)
    (k_l_right : PySem.W.keepIn K (.ref f_l_right) = true)
    (a_law : PySem.W.nsIn K mainGlobals "law" = some (some (.ref f_law)))
    (l_law : K.lookup f_law = some ⟨oc_law, od_law, .func (PySem.W.fnOf "law" "law" (defArgs s_law) (defBody s_law) (defScope s_law) .none kV_law dc_law pm_law an_law cd_law ct_law), sl_law⟩)
    (c_law : PySem.W.codeIn K cd_law "law" = true)
    (k_law : PySem.W.keepIn K (.ref f_law) = true)
    (a_is_integer : PySem.W.nsIn K mainGlobals "is_integer" = some (some (.ref f_is_integer)))
    (l_is_integer : K.lookup f_is_integer = some ⟨oc_is_integer, od_is_integer, .func (PySem.W.fnOf "is_integer" "is_integer" (defArgs s_is_integer) (defBody s_is_integer) (defScope s_is_integer) (.ref TD) kV_is_integer dc_is_integer pm_is_integer an_is_integer cd_is_integer ct_is_integer), sl_is_integer⟩)
    (c_is_integer : PySem.W.codeIn K cd_is_integer "is_integer" = true)
    (k_is_integer : PySem.W.keepIn K (.ref f_is_integer) = true)
    (lTD : K.lookup TD = some oTD)
    (dTD : oTD.data = .seq ([Value.none] : List Value).toArray nTD)
    (aC : PySem.W.nsIn K mainGlobals "Loads" = some (some (.ref C)))
    (am_least_by_rest : PySem.W.findIn K (.ref C) "least_by_rest" = some (some (.ref fm_least_by_rest)))
    (im_least_by_rest : PySem.W.isFn K (.ref fm_least_by_rest) = true)
    (lm_least_by_rest : K.lookup fm_least_by_rest = some ⟨ocm_least_by_rest, odm_least_by_rest, .func (PySem.W.fnOf "least_by_rest" "Loads.least_by_rest" (defArgs s_m_least_by_rest) (defBody s_m_least_by_rest) (defScope s_m_least_by_rest) .none kVm_least_by_rest dcm_least_by_rest pmm_least_by_rest anm_least_by_rest cdm_least_by_rest ctm_least_by_rest), slm_least_by_rest⟩)
    (cm_least_by_rest : PySem.W.codeIn K cdm_least_by_rest "Loads.least_by_rest" = true)
    (km_least_by_rest : PySem.W.keepIn K (.ref fm_least_by_rest) = true)
    (am_regular_from : PySem.W.findIn K (.ref C) "regular_from" = some (some (.ref fm_regular_from)))
    (im_regular_from : PySem.W.isFn K (.ref fm_regular_from) = true)
    (lm_regular_from : K.lookup fm_regular_from = some ⟨ocm_regular_from, odm_regular_from, .func (PySem.W.fnOf "regular_from" "Loads.regular_from" (defArgs s_m_regular_from) (defBody s_m_regular_from) (defScope s_m_regular_from) .none kVm_regular_from dcm_regular_from pmm_regular_from anm_regular_from cdm_regular_from ctm_regular_from), slm_regular_from⟩)
    (cm_regular_from : PySem.W.codeIn K cdm_regular_from "Loads.regular_from" = true)
    (km_regular_from : PySem.W.keepIn K (.ref fm_regular_from) = true)
    (am_floors : PySem.W.findIn K (.ref C) "floors" = some (some (.ref fm_floors)))
    (im_floors : PySem.W.isFn K (.ref fm_floors) = true)
    (lm_floors : K.lookup fm_floors = some ⟨ocm_floors, odm_floors, .func (PySem.W.fnOf "floors" "Loads.floors" (defArgs s_m_floors) (defBody s_m_floors) (defScope s_m_floors) .none kVm_floors dcm_floors pmm_floors anm_floors cdm_floors ctm_floors), slm_floors⟩)
    (cm_floors : PySem.W.codeIn K cdm_floors "Loads.floors" = true)
    (km_floors : PySem.W.keepIn K (.ref fm_floors) = true)
    (am_floor : PySem.W.findIn K (.ref C) "floor" = some (some (.ref fm_floor)))
    (im_floor : PySem.W.isFn K (.ref fm_floor) = true)
    (lm_floor : K.lookup fm_floor = some ⟨ocm_floor, odm_floor, .func (PySem.W.fnOf "floor" "Loads.floor" (defArgs s_m_floor) (defBody s_m_floor) (defScope s_m_floor) .none kVm_floor dcm_floor pmm_floor anm_floor cdm_floor ctm_floor), slm_floor⟩)
    (cm_floor : PySem.W.codeIn K cdm_floor "Loads.floor" = true)
    (km_floor : PySem.W.keepIn K (.ref fm_floor) = true)
    (am_is_sum : PySem.W.findIn K (.ref C) "is_sum" = some (some (.ref fm_is_sum)))
    (im_is_sum : PySem.W.isFn K (.ref fm_is_sum) = true)
    (lm_is_sum : K.lookup fm_is_sum = some ⟨ocm_is_sum, odm_is_sum, .func (PySem.W.fnOf "is_sum" "Loads.is_sum" (defArgs s_m_is_sum) (defBody s_m_is_sum) (defScope s_m_is_sum) .none kVm_is_sum dcm_is_sum pmm_is_sum anm_is_sum cdm_is_sum ctm_is_sum), slm_is_sum⟩)
    (cm_is_sum : PySem.W.codeIn K cdm_is_sum "Loads.is_sum" = true)
    (km_is_sum : PySem.W.keepIn K (.ref fm_is_sum) = true)
    (am_slimmest : PySem.W.findIn K (.ref C) "slimmest" = some (some (.ref fm_slimmest)))
    (im_slimmest : PySem.W.isFn K (.ref fm_slimmest) = true)
    (lm_slimmest : K.lookup fm_slimmest = some ⟨ocm_slimmest, odm_slimmest, .func (PySem.W.fnOf "slimmest" "Loads.slimmest" (defArgs s_m_slimmest) (defBody s_m_slimmest) (defScope s_m_slimmest) .none kVm_slimmest dcm_slimmest pmm_slimmest anm_slimmest cdm_slimmest ctm_slimmest), slm_slimmest⟩)
    (cm_slimmest : PySem.W.codeIn K cdm_slimmest "Loads.slimmest" = true)
    (km_slimmest : PySem.W.keepIn K (.ref fm_slimmest) = true)
    (am_lightest_up_to : PySem.W.findIn K (.ref C) "lightest_up_to" = some (some (.ref fm_lightest_up_to)))
    (im_lightest_up_to : PySem.W.isFn K (.ref fm_lightest_up_to) = true)
    (lm_lightest_up_to : K.lookup fm_lightest_up_to = some ⟨ocm_lightest_up_to, odm_lightest_up_to, .func (PySem.W.fnOf "lightest_up_to" "Loads.lightest_up_to" (defArgs s_m_lightest_up_to) (defBody s_m_lightest_up_to) (defScope s_m_lightest_up_to) .none kVm_lightest_up_to dcm_lightest_up_to pmm_lightest_up_to anm_lightest_up_to cdm_lightest_up_to ctm_lightest_up_to), slm_lightest_up_to⟩)
    (cm_lightest_up_to : PySem.W.codeIn K cdm_lightest_up_to "Loads.lightest_up_to" = true)
    (km_lightest_up_to : PySem.W.keepIn K (.ref fm_lightest_up_to) = true)
    (am_lightest : PySem.W.findIn K (.ref C) "lightest" = some (some (.ref fm_lightest)))
    (im_lightest : PySem.W.isFn K (.ref fm_lightest) = true)
    (lm_lightest : K.lookup fm_lightest = some ⟨ocm_lightest, odm_lightest, .func (PySem.W.fnOf "lightest" "Loads.lightest" (defArgs s_m_lightest) (defBody s_m_lightest) (defScope s_m_lightest) .none kVm_lightest dcm_lightest pmm_lightest anm_lightest cdm_lightest ctm_lightest), slm_lightest⟩)
    (cm_lightest : PySem.W.codeIn K cdm_lightest "Loads.lightest" = true)
    (km_lightest : PySem.W.keepIn K (.ref fm_lightest) = true)
    (am_richest : PySem.W.findIn K (.ref C) "richest" = some (some (.ref fm_richest)))
    (im_richest : PySem.W.isFn K (.ref fm_richest) = true)
    (lm_richest : K.lookup fm_richest = some ⟨ocm_richest, odm_richest, .func (PySem.W.fnOf "richest" "Loads.richest" (defArgs s_m_richest) (defBody s_m_richest) (defScope s_m_richest) .none kVm_richest dcm_richest pmm_richest anm_richest cdm_richest ctm_richest), slm_richest⟩)
    (cm_richest : PySem.W.codeIn K cdm_richest "Loads.richest" = true)
    (km_richest : PySem.W.keepIn K (.ref fm_richest) = true)
    (am_longest_up_to : PySem.W.findIn K (.ref C) "longest_up_to" = some (some (.ref fm_longest_up_to)))
    (im_longest_up_to : PySem.W.isFn K (.ref fm_longest_up_to) = true)
    (lm_longest_up_to : K.lookup fm_longest_up_to = some ⟨ocm_longest_up_to, odm_longest_up_to, .func (PySem.W.fnOf "longest_up_to" "Loads.longest_up_to" (defArgs s_m_longest_up_to) (defBody s_m_longest_up_to) (defScope s_m_longest_up_to) .none kVm_longest_up_to dcm_longest_up_to pmm_longest_up_to anm_longest_up_to cdm_longest_up_to ctm_longest_up_to), slm_longest_up_to⟩)
    (cm_longest_up_to : PySem.W.codeIn K cdm_longest_up_to "Loads.longest_up_to" = true)
    (km_longest_up_to : PySem.W.keepIn K (.ref fm_longest_up_to) = true)
    (am_init : PySem.W.findIn K (.ref C) "__init__" = some (some (.ref fm_init)))
    (im_init : PySem.W.isFn K (.ref fm_init) = true)
    (lm_init : K.lookup fm_init = some ⟨ocm_init, odm_init, .func (PySem.W.fnOf "__init__" "Loads.__init__" (defArgs s_m_init) (defBody s_m_init) (defScope s_m_init) .none kVm_init dcm_init pmm_init anm_init cdm_init ctm_init), slm_init⟩)
    (cm_init : PySem.W.codeIn K cdm_init "Loads.__init__" = true)
    (km_init : PySem.W.keepIn K (.ref fm_init) = true)
    (pg : PySem.W.plainGet K C Str.empty = true)
    (hdd : PySem.W.hasDictIn K C = true)
    (po : PySem.W.plainOver K C = true)
    (sa : PySem.W.findIn K (.ref C) "__setattr__" = some (some (.builtin "object.__setattr__")))
    (mk : PySem.W.makesIn K C = true)
    (kC : PySem.W.keepIn K (.ref C) = true)
    (n_kinds : PySem.W.findIn K (.ref C) "kinds" = some none)
    (n_divisor : PySem.W.findIn K (.ref C) "divisor" = some none)
    (n_regular : PySem.W.findIn K (.ref C) "regular" = some none)
    (n_near : PySem.W.findIn K (.ref C) "near" = some none)
    (n_slim : PySem.W.findIn K (.ref C) "slim" = some none)
    (n_slim_bound : PySem.W.findIn K (.ref C) "slim_bound" = some none)
    (n_weights : PySem.W.findIn K (.ref C) "weights" = some none)
    (n_rich : PySem.W.findIn K (.ref C) "rich" = some none)
    (n_rich_bound : PySem.W.findIn K (.ref C) "rich_bound" = some none)
    (n_lengths : PySem.W.findIn K (.ref C) "lengths" = some none)
    (z_len : PySem.W.nsIn K mainGlobals "len" = some none)
    (z_min : PySem.W.nsIn K mainGlobals "min" = some none)
    (z_max : PySem.W.nsIn K mainGlobals "max" = some none)
    (z_abs : PySem.W.nsIn K mainGlobals "abs" = some none)
    (z_sum : PySem.W.nsIn K mainGlobals "sum" = some none)
    (z_any : PySem.W.nsIn K mainGlobals "any" = some none)
    (z_all : PySem.W.nsIn K mainGlobals "all" = some none)
    (z_sorted : PySem.W.nsIn K mainGlobals "sorted" = some none)
    (z_isinstance : PySem.W.nsIn K mainGlobals "isinstance" = some none)
    (z_int : PySem.W.nsIn K mainGlobals "int" = some none)
    (z_bool : PySem.W.nsIn K mainGlobals "bool" = some none)
    (z_str : PySem.W.nsIn K mainGlobals "str" = some none)
    (z_tuple : PySem.W.nsIn K mainGlobals "tuple" = some none)
    (z_set : PySem.W.nsIn K mainGlobals "set" = some none)
    (z_range : PySem.W.nsIn K mainGlobals "range" = some none)
    (z_enumerate : PySem.W.nsIn K mainGlobals "enumerate" = some none)
    (z_zip : PySem.W.nsIn K mainGlobals "zip" = some none)
    (v_LONG : PySem.W.nsIn K mainGlobals "LONG" = some (some (.str "long" tLONG)))
    (v_SHORT_END : PySem.W.nsIn K mainGlobals "SHORT_END" = some (some (.str "short end" tSHORT_END)))
    (v_CAUGHT_UP : PySem.W.nsIn K mainGlobals "CAUGHT_UP" = some (some (.str "caught up" tCAUGHT_UP)))
    (nodig : PySem.W.nsIn K cStatics "sys.int_max_str_digits" = some none)
    (aS : PySem.W.nsIn K mainGlobals "SHAPE_PARTS" = some (some (.ref SD)))
    (lS : K.lookup SD = some ⟨.type "dict", none, .dict esS nS, #[]⟩)
    (wS : (SD == sysModules) = false)
    (p0 : PySem.W.nsIn K SD "long" = some (some (.int 1 tp0)))
    (p1 : PySem.W.nsIn K SD "short end" = some (some (.int 3 tp1)))
    (p2 : PySem.W.nsIn K SD "caught up" = some (some (.int 5 tp2)))
    (litS : PySem.W.KeysLit w.params esS.toList)
    : ∃ fd : FuncData, (∀ (s : Shared) (v : Value), BindsTo s fd ⟨[v], []⟩ [("_law_script", v)]) ∧ ∀ base : Heap, K.In base → base.Ns mainGlobals mg → FnOk l.prog w K mg base L2.CX0 7 fa fd ["_law_script"] (SpLaw K) := by
  have e := hfa.symm.trans (PySem.W.mg_of X G a_law)
  cases e
  have T : Tx w K mg C := {
    b_len := PySem.W.mg_none_of X G z_len
    b_min := PySem.W.mg_none_of X G z_min
    b_max := PySem.W.mg_none_of X G z_max
    b_abs := PySem.W.mg_none_of X G z_abs
    b_sum := PySem.W.mg_none_of X G z_sum
    b_any := PySem.W.mg_none_of X G z_any
    b_all := PySem.W.mg_none_of X G z_all
    b_sorted := PySem.W.mg_none_of X G z_sorted
    b_isinstance := PySem.W.mg_none_of X G z_isinstance
    b_int := PySem.W.mg_none_of X G z_int
    b_bool := PySem.W.mg_none_of X G z_bool
    b_str := PySem.W.mg_none_of X G z_str
    b_tuple := PySem.W.mg_none_of X G z_tuple
    b_set := PySem.W.mg_none_of X G z_set
    b_range := PySem.W.mg_none_of X G z_range
    b_enumerate := PySem.W.mg_none_of X G z_enumerate
    b_zip := PySem.W.mg_none_of X G z_zip
    s_LONG := ⟨_, PySem.W.mg_of X G v_LONG, ⟨_, rfl⟩⟩
    s_SHORT_END := ⟨_, PySem.W.mg_of X G v_SHORT_END, ⟨_, rfl⟩⟩
    s_CAUGHT_UP := ⟨_, PySem.W.mg_of X G v_CAUGHT_UP, ⟨_, rfl⟩⟩
    cls := ⟨pg, hdd, po, sa⟩
    na := fun f hf => by
      simp only [List.mem_cons, List.not_mem_nil, or_false] at hf
      rcases hf with rfl | rfl | rfl | rfl | rfl | rfl | rfl | rfl | rfl | rfl
      · exact n_kinds
      · exact n_divisor
      · exact n_regular
      · exact n_near
      · exact n_slim
      · exact n_slim_bound
      · exact n_weights
      · exact n_rich
      · exact n_rich_bound
      · exact n_lengths
    nodig := nodig
    parts := ⟨SD, esS, nS, PySem.W.mg_of X G aS, ⟨lS, litS, wS⟩, fun z i hz => by
      cases hz with
      | long => exact ⟨_, p0⟩
      | short => exact ⟨_, p1⟩
      | caught => exact ⟨_, p2⟩⟩ }
  refine ⟨PySem.W.fnOf "law" "law" (defArgs s_law) (defBody s_law) (defScope s_law) .none kV_law dc_law pm_law an_law cd_law ct_law, fun s v => .of_eq rfl, fun base _ _ => ?_⟩
  have gen : ∀ {w0 : World}, w0 = w → True := fun _ => trivial
  have F_l_take := fun_mk (st := s_l_take) l_l_take c_l_take k_l_take
  have G_l_take : Cal l.prog w K mg base 1 "_law_take" (SpTake) [] := ⟨f_l_take, _, p_l_take, [], ok_take T F_l_take, PySem.W.mg_of X G a_l_take, k_l_take, F_l_take.binds (ps := p_l_take) fun _ _ _ _ _ _ us hl => match us, hl with | [_, _], _ => rfl, .nil⟩
  have F_l_of := fun_mk (st := s_l_of) l_l_of c_l_of k_l_of
  have G_l_of : Cal l.prog w K mg base 2 "_law_of" (SpOf) [] := ⟨f_l_of, _, p_l_of, [], ok_of T G_l_take F_l_of, PySem.W.mg_of X G a_l_of, k_l_of, F_l_of.binds (ps := p_l_of) fun _ _ _ _ _ _ us hl => match us, hl with | [_, _], _ => rfl, .nil⟩
  have F_l_kinds := fun_mk (st := s_l_kinds) l_l_kinds c_l_kinds k_l_kinds
  have G_l_kinds : Cal l.prog w K mg base 2 "_law_kinds" (SpKinds K) [] := ⟨f_l_kinds, _, p_l_kinds, [], ok_kinds T G_l_take F_l_kinds, PySem.W.mg_of X G a_l_kinds, k_l_kinds, F_l_kinds.binds (ps := p_l_kinds) fun _ _ _ _ _ _ us hl => match us, hl with | [_, _, _], _ => rfl, .nil⟩
  have F_l_few := fun_mk (st := s_l_few) l_l_few c_l_few k_l_few
  have G_l_few : Cal l.prog w K mg base 3 "_law_few" (SpFew K) [] := ⟨f_l_few, _, p_l_few, [], ok_few T G_l_take G_l_of G_l_kinds F_l_few, PySem.W.mg_of X G a_l_few, k_l_few, F_l_few.binds (ps := p_l_few) fun _ _ _ _ _ _ us hl => match us, hl with | [_], _ => rfl, .nil⟩
  have F_l_can_pay := fun_mk (st := s_l_can_pay) l_l_can_pay c_l_can_pay k_l_can_pay
  have G_l_can_pay : Cal l.prog w K mg base 1 "_law_can_pay" (spCanPay K) [] := ⟨f_l_can_pay, _, p_l_can_pay, [], ok_can_pay T F_l_can_pay, PySem.W.mg_of X G a_l_can_pay, k_l_can_pay, F_l_can_pay.binds (ps := p_l_can_pay) fun _ _ _ _ _ _ us hl => match us, hl with | [_, _], _ => rfl, .nil⟩
  have F_l_rich := fun_mk (st := s_l_rich) l_l_rich c_l_rich k_l_rich
  have G_l_rich : Cal l.prog w K mg base 1 "_law_rich" (spRich K) [] := ⟨f_l_rich, _, p_l_rich, [], ok_rich T F_l_rich, PySem.W.mg_of X G a_l_rich, k_l_rich, F_l_rich.binds (ps := p_l_rich) fun _ _ _ _ _ _ us hl => match us, hl with | [_, _], _ => rfl, .nil⟩
  have F_l_yes := fun_mk (st := s_l_yes) l_l_yes c_l_yes k_l_yes
  have G_l_yes : Cal l.prog w K mg base 1 "_law_yes" (spYes K) [] := ⟨f_l_yes, _, p_l_yes, [], ok_yes T F_l_yes, PySem.W.mg_of X G a_l_yes, k_l_yes, F_l_yes.binds (ps := p_l_yes) fun _ _ _ _ _ _ us hl => match us, hl with | [_, _], _ => rfl, .nil⟩
  have F_l_floors := fun_mk (st := s_l_floors) l_l_floors c_l_floors k_l_floors
  have G_l_floors : Cal l.prog w K mg base 2 "_law_floors" (spFloors K) [] := ⟨f_l_floors, _, p_l_floors, [], ok_floors T G_l_yes F_l_floors, PySem.W.mg_of X G a_l_floors, k_l_floors, F_l_floors.binds (ps := p_l_floors) fun _ _ _ _ _ _ us hl => match us, hl with | [_, _], _ => rfl, .nil⟩
  have F_l_slim := fun_mk (st := s_l_slim) l_l_slim c_l_slim k_l_slim
  have G_l_slim : Cal l.prog w K mg base 1 "_law_slim" (spSlim K) [] := ⟨f_l_slim, _, p_l_slim, [], ok_slim T F_l_slim, PySem.W.mg_of X G a_l_slim, k_l_slim, F_l_slim.binds (ps := p_l_slim) fun _ _ _ _ _ _ us hl => match us, hl with | [_, _], _ => rfl, .nil⟩
  have F_l_top_behind := fun_mk (st := s_l_top_behind) l_l_top_behind c_l_top_behind k_l_top_behind
  have G_l_top_behind : Cal l.prog w K mg base 1 "_law_top_behind" (spBeh K) [] := ⟨f_l_top_behind, _, p_l_top_behind, [], ok_beh T F_l_top_behind, PySem.W.mg_of X G a_l_top_behind, k_l_top_behind, F_l_top_behind.binds (ps := p_l_top_behind) fun _ _ _ _ _ _ us hl => match us, hl with | [_, _, _, _, _], _ => rfl, .nil⟩
  have F_l_top := fun_mk (st := s_l_top) l_l_top c_l_top k_l_top
  have G_l_top : Cal l.prog w K mg base 3 "_law_top" (spTop K) [] := ⟨f_l_top, _, p_l_top, [], ok_top T G_l_can_pay G_l_rich G_l_floors G_l_slim G_l_top_behind F_l_top, PySem.W.mg_of X G a_l_top, k_l_top, F_l_top.binds (ps := p_l_top) fun _ _ _ _ _ _ us hl => match us, hl with | [_, _], _ => rfl, .nil⟩
  have F_l_paid := fun_mk (st := s_l_paid) l_l_paid c_l_paid k_l_paid
  have G_l_paid : Cal l.prog w K mg base 1 "_law_paid" (spPaid K) [] := ⟨f_l_paid, _, p_l_paid, [], ok_paid T F_l_paid, PySem.W.mg_of X G a_l_paid, k_l_paid, F_l_paid.binds (ps := p_l_paid) fun _ _ _ _ _ _ us hl => match us, hl with | [_, _], _ => rfl, .nil⟩
  have F_l_may := fun_mk (st := s_l_may) l_l_may c_l_may k_l_may
  have G_l_may : Cal l.prog w K mg base 2 "_law_may" (spMayN K) [] := ⟨f_l_may, _, p_l_may, [], ok_mayN T G_l_paid F_l_may, PySem.W.mg_of X G a_l_may, k_l_may, F_l_may.binds (ps := p_l_may) fun _ _ _ _ _ _ us hl => match us, hl with | [_, _, _], _ => rfl, .nil⟩
  have F_l_refused := fun_mk (st := s_l_refused) l_l_refused c_l_refused k_l_refused
  have G_l_refused : Cal l.prog w K mg base 1 "_law_refused" (spRefused K) [] := ⟨f_l_refused, _, p_l_refused, [], ok_refused  F_l_refused, PySem.W.mg_of X G a_l_refused, k_l_refused, F_l_refused.binds (ps := p_l_refused) fun _ _ _ _ _ _ us hl => match us, hl with | [_, _, _], _ => rfl, .nil⟩
  have F_l_pushed := fun_mk (st := s_l_pushed) l_l_pushed c_l_pushed k_l_pushed
  have G_l_pushed : Cal l.prog w K mg base 1 "_law_pushed" (spPushed K) [] := ⟨f_l_pushed, _, p_l_pushed, [], ok_pushed  F_l_pushed, PySem.W.mg_of X G a_l_pushed, k_l_pushed, F_l_pushed.binds (ps := p_l_pushed) fun _ _ _ _ _ _ us hl => match us, hl with | [_, _, _, _], _ => rfl, .nil⟩
  have F_l_seen := fun_mk (st := s_l_seen) l_l_seen c_l_seen k_l_seen
  have G_l_seen : Cal l.prog w K mg base 3 "_law_seen" (SpSeen K l.prog w) [] := ⟨f_l_seen, _, p_l_seen, [], ok_seen T G_l_may G_l_refused G_l_pushed F_l_seen, PySem.W.mg_of X G a_l_seen, k_l_seen, F_l_seen.binds (ps := p_l_seen) fun _ _ _ _ _ _ us hl => match us, hl with | [_, _, _, _], _ => rfl, .nil⟩
  have F_l_bad := fun_mk (st := s_l_bad) l_l_bad c_l_bad k_l_bad
  have G_l_bad : Cal l.prog w K mg base 3 "_law_bad" (spBadN K) [] := ⟨f_l_bad, _, p_l_bad, [], ok_badN T G_l_may G_l_refused F_l_bad, PySem.W.mg_of X G a_l_bad, k_l_bad, F_l_bad.binds (ps := p_l_bad) fun _ _ _ _ _ _ us hl => match us, hl with | [_, _, _, _], _ => rfl, .nil⟩
  have F_l_form := fun_mk (st := s_l_form) l_l_form c_l_form k_l_form
  have G_l_form : Cal l.prog w K mg base 1 "_law_form" (spForm K) [] := ⟨f_l_form, _, p_l_form, [], ok_form T F_l_form, PySem.W.mg_of X G a_l_form, k_l_form, F_l_form.binds (ps := p_l_form) fun _ _ _ _ _ _ us hl => match us, hl with | [_, _, _, _], _ => rfl, .nil⟩
  have F_sizes_of := fun_mk (st := s_sizes_of) l_sizes_of c_sizes_of k_sizes_of
  have G_sizes_of : Cal l.prog w K mg base 1 "sizes_of" (spSizes K) [] := ⟨f_sizes_of, _, p_sizes_of, [], ok_sizes T F_sizes_of, PySem.W.mg_of X G a_sizes_of, k_sizes_of, F_sizes_of.binds (ps := p_sizes_of) fun _ _ _ _ _ _ us hl => match us, hl with | [_, _, _], _ => rfl, .nil⟩
  have F_usable := fun_mk (st := s_usable) l_usable c_usable k_usable
  have G_usable : Cal l.prog w K mg base 1 "usable" (spUsable K) [] := ⟨f_usable, _, p_usable, [], ok_usable T F_usable, PySem.W.mg_of X G a_usable, k_usable, F_usable.binds (ps := p_usable) fun _ _ _ _ _ _ us hl => match us, hl with | [_, _], _ => rfl, .nil⟩
  have F_common_divisor := fun_mk (st := s_common_divisor) l_common_divisor c_common_divisor k_common_divisor
  have G_common_divisor : Cal l.prog w K mg base 1 "common_divisor" (spDiv K) [] := ⟨f_common_divisor, _, p_common_divisor, [], ok_div  F_common_divisor, PySem.W.mg_of X G a_common_divisor, k_common_divisor, F_common_divisor.binds (ps := p_common_divisor) fun _ _ _ _ _ _ us hl => match us, hl with | [_, _], _ => rfl, .nil⟩
  have Fm_least_by_rest := fun_mk (st := s_m_least_by_rest) lm_least_by_rest cm_least_by_rest km_least_by_rest
  have M_least_by_rest : Met l.prog w K mg base 1 C "least_by_rest" (SpLbr K C) [] := ⟨fm_least_by_rest, _, p_m_least_by_rest, [], ⟨pg, hdd, po, sa⟩, ⟨am_least_by_rest, im_least_by_rest, km_least_by_rest⟩, ok_lbr T Fm_least_by_rest, Fm_least_by_rest.binds (ps := p_m_least_by_rest) fun _ _ _ _ _ _ us hl => match us, hl with | [_], _ => rfl, .nil⟩
  have Fm_regular_from := fun_mk (st := s_m_regular_from) lm_regular_from cm_regular_from km_regular_from
  have M_regular_from : Met l.prog w K mg base 2 C "regular_from" (spRegular K C) [] := ⟨fm_regular_from, _, p_m_regular_from, [], ⟨pg, hdd, po, sa⟩, ⟨am_regular_from, im_regular_from, km_regular_from⟩, ok_regular T M_least_by_rest Fm_regular_from, Fm_regular_from.binds (ps := p_m_regular_from) fun _ _ _ _ _ _ us hl => match us, hl with | [_], _ => rfl, .nil⟩
  have Fm_floors := fun_mk (st := s_m_floors) lm_floors cm_floors km_floors
  have M_floors : Met l.prog w K mg base 1 C "floors" (spFloorsM K C) [] := ⟨fm_floors, _, p_m_floors, [], ⟨pg, hdd, po, sa⟩, ⟨am_floors, im_floors, km_floors⟩, ok_floorsM T Fm_floors, Fm_floors.binds (ps := p_m_floors) fun _ _ _ _ _ _ us hl => match us, hl with | [_, _], _ => rfl, .nil⟩
  have Fm_slimmest := fun_mk (st := s_m_slimmest) lm_slimmest cm_slimmest km_slimmest
  have M_slimmest : Met l.prog w K mg base 1 C "slimmest" (spSlimmest K C) [] := ⟨fm_slimmest, _, p_m_slimmest, [], ⟨pg, hdd, po, sa⟩, ⟨am_slimmest, im_slimmest, km_slimmest⟩, ok_slimmest T Fm_slimmest, Fm_slimmest.binds (ps := p_m_slimmest) fun _ _ _ _ _ _ us hl => match us, hl with | [_], _ => rfl, .nil⟩
  have F_least_of := fun_mk (st := s_least_of) l_least_of c_least_of k_least_of
  have G_least_of : Cal l.prog w K mg base 1 "least_of" (spLeast K) [] := ⟨f_least_of, _, p_least_of, [], ok_least T F_least_of, PySem.W.mg_of X G a_least_of, k_least_of, F_least_of.binds (ps := p_least_of) fun _ _ _ _ _ _ us hl => match us, hl with | [_], _ => rfl, .nil⟩
  have Fm_lightest_up_to := fun_mk (st := s_m_lightest_up_to) lm_lightest_up_to cm_lightest_up_to km_lightest_up_to
  have M_lightest_up_to : Met l.prog w K mg base 2 C "lightest_up_to" (spLightestUp K C) [] := ⟨fm_lightest_up_to, _, p_m_lightest_up_to, [], ⟨pg, hdd, po, sa⟩, ⟨am_lightest_up_to, im_lightest_up_to, km_lightest_up_to⟩, ok_lightest_up T G_least_of Fm_lightest_up_to, Fm_lightest_up_to.binds (ps := p_m_lightest_up_to) fun _ _ _ _ _ _ us hl => match us, hl with | [_, _], _ => rfl, .nil⟩
  have Fm_richest := fun_mk (st := s_m_richest) lm_richest cm_richest km_richest
  have M_richest : Met l.prog w K mg base 1 C "richest" (spRichest K C) [] := ⟨fm_richest, _, p_m_richest, [], ⟨pg, hdd, po, sa⟩, ⟨am_richest, im_richest, km_richest⟩, ok_richest T Fm_richest, Fm_richest.binds (ps := p_m_richest) fun _ _ _ _ _ _ us hl => match us, hl with | [_], _ => rfl, .nil⟩
  have Fm_longest_up_to := fun_mk (st := s_m_longest_up_to) lm_longest_up_to cm_longest_up_to km_longest_up_to
  have M_longest_up_to : Met l.prog w K mg base 1 C "longest_up_to" (spLongestUp K C) [] := ⟨fm_longest_up_to, _, p_m_longest_up_to, [], ⟨pg, hdd, po, sa⟩, ⟨am_longest_up_to, im_longest_up_to, km_longest_up_to⟩, ok_longest_up T Fm_longest_up_to, Fm_longest_up_to.binds (ps := p_m_longest_up_to) fun _ _ _ _ _ _ us hl => match us, hl with | [_, _], _ => rfl, .nil⟩
  have Fm_init := fun_mk (st := s_m_init) lm_init cm_init km_init
  have G_Loads : Mak l.prog w K mg base 3 "Loads" C (SpInit K C) [] := ⟨fm_init, _, p_m_init, [], ⟨mk, am_init, im_init, kC⟩, ok_init T G_common_divisor M_regular_from M_floors M_slimmest M_lightest_up_to M_richest M_longest_up_to Fm_init, PySem.W.mg_of X G aC, Fm_init.binds (ps := p_m_init) fun _ _ _ _ _ _ us hl => match us, hl with | [_, _], _ => rfl, .nil⟩
  have F_is_integer : FunD K "is_integer" "is_integer" (defArgs s_is_integer) (defBody s_is_integer) (defScope s_is_integer) [.non] [] f_is_integer _ := ⟨⟨_, _, _, _, _, _, _, _, _, _, rfl, l_is_integer, c_is_integer, .inr ⟨List.cons_ne_nil _ _, TD, oTD, [Value.none], nTD, rfl, lTD, dTD, .cons rfl .nil⟩, .inl rfl⟩, k_is_integer⟩
  obtain ⟨dsI, vI, bI⟩ := F_is_integer.binds1 (ps := p_is_integer) 2 0 (List.cons_ne_nil _ _) rfl fun _ _ _ _ _ _ _ us its hu hi => match us, its, hu, hi with | [_, _], [_], _, _ => ⟨_, rfl, rfl⟩
  have G_is_integer : Cal l.prog w K mg base 1 "is_integer" (spIsInt K) [.non] := ⟨f_is_integer, _, p_is_integer, dsI, ok_isint T F_is_integer, PySem.W.mg_of X G a_is_integer, k_is_integer, bI, vI⟩
  have Fm_floor := fun_mk (st := s_m_floor) lm_floor cm_floor km_floor
  have M_floor : Met l.prog w K mg base 1 C "floor" (spFloor K C) [] := ⟨fm_floor, _, p_m_floor, [], ⟨pg, hdd, po, sa⟩, ⟨am_floor, im_floor, km_floor⟩, ok_floor T Fm_floor, Fm_floor.binds (ps := p_m_floor) fun _ _ _ _ _ _ us hl => match us, hl with | [_, _], _ => rfl, .nil⟩
  have Fm_is_sum := fun_mk (st := s_m_is_sum) lm_is_sum cm_is_sum km_is_sum
  have M_is_sum : Met l.prog w K mg base 2 C "is_sum" (spIsSum K C) [] := ⟨fm_is_sum, _, p_m_is_sum, [], ⟨pg, hdd, po, sa⟩, ⟨am_is_sum, im_is_sum, km_is_sum⟩, ok_is_sum T M_floor Fm_is_sum, Fm_is_sum.binds (ps := p_m_is_sum) fun _ _ _ _ _ _ us hl => match us, hl with | [_, _], _ => rfl, .nil⟩
  have Fm_lightest := fun_mk (st := s_m_lightest) lm_lightest cm_lightest km_lightest
  have M_lightest : Met l.prog w K mg base 1 C "lightest" (spLightest K C) [] := ⟨fm_lightest, _, p_m_lightest, [], ⟨pg, hdd, po, sa⟩, ⟨am_lightest, im_lightest, km_lightest⟩, ok_lightest T Fm_lightest, Fm_lightest.binds (ps := p_m_lightest) fun _ _ _ _ _ _ us hl => match us, hl with | [_, _], _ => rfl, .nil⟩
  have F_is_carried := fun_mk (st := s_is_carried) l_is_carried c_is_carried k_is_carried
  have G_is_carried : Cal l.prog w K mg base 2 "is_carried" (spCarried K C) [] := ⟨f_is_carried, _, p_is_carried, [], ok_carried T M_lightest F_is_carried, PySem.W.mg_of X G a_is_carried, k_is_carried, F_is_carried.binds (ps := p_is_carried) fun _ _ _ _ _ _ us hl => match us, hl with | [_, _, _], _ => rfl, .nil⟩
  have F_end_can_occur := fun_mk (st := s_end_can_occur) l_end_can_occur c_end_can_occur k_end_can_occur
  have G_end_can_occur : Cal l.prog w K mg base 3 "end_can_occur" (spEnd K C) [] := ⟨f_end_can_occur, _, p_end_can_occur, [], ok_end T M_is_sum G_is_carried F_end_can_occur, PySem.W.mg_of X G a_end_can_occur, k_end_can_occur, F_end_can_occur.binds (ps := p_end_can_occur) fun _ _ _ _ _ _ us hl => match us, hl with | [_, _, _, _], _ => rfl, .nil⟩
  have F_newer_can_occur := fun_mk (st := s_newer_can_occur) l_newer_can_occur c_newer_can_occur k_newer_can_occur
  have G_newer_can_occur : Cal l.prog w K mg base 3 "newer_can_occur" (SpNew K C) [] := ⟨f_newer_can_occur, _, p_newer_can_occur, [], ok_newer T M_is_sum M_lightest G_is_carried F_newer_can_occur, PySem.W.mg_of X G a_newer_can_occur, k_newer_can_occur, F_newer_can_occur.binds (ps := p_newer_can_occur) fun _ _ _ _ _ _ us hl => match us, hl with | [_, _, _, _, _], _ => rfl, .nil⟩
  have F_can_occur := fun_mk (st := s_can_occur) l_can_occur c_can_occur k_can_occur
  have G_can_occur : Cal l.prog w K mg base 5 "can_occur" (spCan K) [] := ⟨f_can_occur, _, p_can_occur, [], ok_can T G_usable G_Loads G_is_integer G_end_can_occur G_newer_can_occur F_can_occur, PySem.W.mg_of X G a_can_occur, k_can_occur, F_can_occur.binds (ps := p_can_occur) fun _ _ _ _ _ _ us hl => match us, hl with | [_, _, _, _], _ => rfl, .nil⟩
  have F_l_right := fun_mk (st := s_l_right) l_l_right c_l_right k_l_right
  have G_l_right : Cal l.prog w K mg base 6 "_law_right" (SpRight) [] := ⟨f_l_right, _, p_l_right, [], ok_right T G_l_few G_l_top G_l_take G_l_seen G_l_bad G_l_form G_sizes_of G_can_occur F_l_right, PySem.W.mg_of X G a_l_right, k_l_right, F_l_right.binds (ps := p_l_right) fun _ _ _ _ _ _ us hl => match us, hl with | [_], _ => rfl, .nil⟩
  have F_l_pot := fun_mk (st := s_l_pot) l_l_pot c_l_pot k_l_pot
  have G_l_pot : Cal l.prog w K mg base 1 "_law_pot" (SpPot K) [] := ⟨f_l_pot, _, p_l_pot, [], ok_pot T F_l_pot, PySem.W.mg_of X G a_l_pot, k_l_pot, F_l_pot.binds (ps := p_l_pot) fun _ _ _ _ _ _ us hl => match us, hl with | [_, _], _ => rfl, .nil⟩
  exact ok_law T G_l_right G_l_pot (fun_mk (st := s_law) l_law c_law k_law)
end Wk

set_option maxHeartbeats 200000
set_option Elab.async false
set_option linter.all false
set_option maxRecDepth 100000
open PySem PySem.W PyProof.Rows
set_option maxHeartbeats 0 in
theorem PySem.Challenge.cw_wholering_k72_whole_every_refusal_has_a_holds : PySem.Challenge.rw_wholering_k72_whole_every_refusal_has_a.Holds := by
  w_on; o_law; k_head; (case hw => w_witness2)
  k_fill
  refine L2.walk_of (l := PySem.Challenge.rw_wholering_k72_whole_every_refusal_has_a) (n := 63) (k := 7) (x := "_law_script") (CX := fun _ => L2.CX0) (sp := fun w => Wk.SpLaw _) rfl (by decide) rfl ⟨rfl, by decide, by decide⟩ (fun w h Y => PySem.W.kIn_of Y) ?F (fun _ _ a ns hl _ hS => ⟨a, ns, rfl, hS, hl, fun _ => rfl⟩) (fun _ _ _ _ _ h => h)
  case F =>
    intro w mg fa h KX G hmg
    refine' Wk.all_mk KX G hmg ?a_usable ?l_usable ?c_usable ?k_usable ?a_common_divisor ?l_common_divisor ?c_common_divisor ?k_common_divisor ?a_least_of ?l_least_of ?c_least_of ?k_least_of ?a_sizes_of ?l_sizes_of ?c_sizes_of ?k_sizes_of ?a_is_carried ?l_is_carried ?c_is_carried ?k_is_carried ?a_end_can_occur ?l_end_can_occur ?c_end_can_occur ?k_end_can_occur ?a_newer_can_occur ?l_newer_can_occur ?c_newer_can_occur ?k_newer_can_occur ?a_can_occur ?l_can_occur ?c_can_occur ?k_can_occur ?a_l_pot ?l_l_pot ?c_l_pot ?k_l_pot ?a_l_take ?l_l_take ?c_l_take ?k_l_take ?a_l_of ?l_l_of ?c_l_of ?k_l_of ?a_l_kinds ?l_l_kinds ?c_l_kinds ?k_l_kinds ?a_l_can_pay ?l_l_can_pay ?c_l_can_pay ?k_l_can_pay ?a_l_yes ?l_l_yes ?c_l_yes ?k_l_yes ?a_l_floors ?l_l_floors ?c_l_floors ?k_l_floors ?a_l_slim ?l_l_slim ?c_l_slim ?k_l_slim ?a_l_rich ?l_l_rich ?c_l_rich ?k_l_rich ?a_l_top_behind ?l_l_top_behind ?c_l_top_behind ?k_l_top_behind ?a_l_top ?l_l_top ?c_l_top ?k_l_top ?a_l_few ?l_l_few ?c_l_few ?k_l_few ?a_l_refused ?l_l_refused ?c_l_refused ?k_l_refused ?a_l_pushed ?l_l_pushed ?c_l_pushed ?k_l_pushed ?a_l_paid ?l_l_paid ?c_l_paid ?k_l_paid ?a_l_may ?l_l_may ?c_l_may ?k_l_may ?a_l_seen ?l_l_seen ?c_l_seen ?k_l_seen ?a_l_bad ?l_l_bad ?c_l_bad ?k_l_bad ?a_l_form ?l_l_form ?c_l_form ?k_l_form ?a_l_right ?l_l_right ?c_l_right ?k_l_right ?a_law ?l_law ?c_law ?k_law ?a_is_integer ?l_is_integer ?c_is_integer ?k_is_integer ?lTD ?dTD ?aC ?am_least_by_rest ?im_least_by_rest ?lm_least_by_rest ?cm_least_by_rest ?km_least_by_rest ?am_regular_from ?im_regular_from ?lm_regular_from ?cm_regular_from ?km_regular_from ?am_floors ?im_floors ?lm_floors ?cm_floors ?km_floors ?am_floor ?im_floor ?lm_floor ?cm_floor ?km_floor ?am_is_sum ?im_is_sum ?lm_is_sum ?cm_is_sum ?km_is_sum ?am_slimmest ?im_slimmest ?lm_slimmest ?cm_slimmest ?km_slimmest ?am_lightest_up_to ?im_lightest_up_to ?lm_lightest_up_to ?cm_lightest_up_to ?km_lightest_up_to ?am_lightest ?im_lightest ?lm_lightest ?cm_lightest ?km_lightest ?am_richest ?im_richest ?lm_richest ?cm_richest ?km_richest ?am_longest_up_to ?im_longest_up_to ?lm_longest_up_to ?cm_longest_up_to ?km_longest_up_to ?am_init ?im_init ?lm_init ?cm_init ?km_init ?pg ?hdd ?po ?sa ?mk ?kC ?n_kinds ?n_divisor ?n_regular ?n_near ?n_slim ?n_slim_bound ?n_weights ?n_rich ?n_rich_bound ?n_lengths ?z_len ?z_min ?z_max ?z_abs ?z_sum ?z_any ?z_all ?z_sorted ?z_isinstance ?z_int ?z_bool ?z_str ?z_tuple ?z_set ?z_range ?z_enumerate ?z_zip ?v_LONG ?v_SHORT_END ?v_CAUGHT_UP ?nodig ?aS ?lS ?wS ?p0 ?p1 ?p2 ?litS
    (case a_usable => k_is)
    (case l_usable => k_is)
    (case c_usable => k_is)
    (case k_usable => k_is)
    (case a_common_divisor => k_is)
    (case l_common_divisor => k_is)
    (case c_common_divisor => k_is)
    (case k_common_divisor => k_is)
    (case a_least_of => k_is)
    (case l_least_of => k_is)
    (case c_least_of => k_is)
    (case k_least_of => k_is)
    (case a_sizes_of => k_is)
    (case l_sizes_of => k_is)
    (case c_sizes_of => k_is)
    (case k_sizes_of => k_is)
    (case a_is_carried => k_is)
    (case l_is_carried => k_is)
    (case c_is_carried => k_is)
    (case k_is_carried => k_is)
    (case a_end_can_occur => k_is)
    (case l_end_can_occur => k_is)
    (case c_end_can_occur => k_is)
    (case k_end_can_occur => k_is)
    (case a_newer_can_occur => k_is)
    (case l_newer_can_occur => k_is)
    (case c_newer_can_occur => k_is)
    (case k_newer_can_occur => k_is)
    (case a_can_occur => k_is)
    (case l_can_occur => k_is)
    (case c_can_occur => k_is)
    (case k_can_occur => k_is)
    (case a_l_pot => k_is)
    (case l_l_pot => k_is)
    (case c_l_pot => k_is)
    (case k_l_pot => k_is)
    (case a_l_take => k_is)
    (case l_l_take => k_is)
    (case c_l_take => k_is)
    (case k_l_take => k_is)
    (case a_l_of => k_is)
    (case l_l_of => k_is)
    (case c_l_of => k_is)
    (case k_l_of => k_is)
    (case a_l_kinds => k_is)
    (case l_l_kinds => k_is)
    (case c_l_kinds => k_is)
    (case k_l_kinds => k_is)
    (case a_l_can_pay => k_is)
    (case l_l_can_pay => k_is)
    (case c_l_can_pay => k_is)
    (case k_l_can_pay => k_is)
    (case a_l_yes => k_is)
    (case l_l_yes => k_is)
    (case c_l_yes => k_is)
    (case k_l_yes => k_is)
    (case a_l_floors => k_is)
    (case l_l_floors => k_is)
    (case c_l_floors => k_is)
    (case k_l_floors => k_is)
    (case a_l_slim => k_is)
    (case l_l_slim => k_is)
    (case c_l_slim => k_is)
    (case k_l_slim => k_is)
    (case a_l_rich => k_is)
    (case l_l_rich => k_is)
    (case c_l_rich => k_is)
    (case k_l_rich => k_is)
    (case a_l_top_behind => k_is)
    (case l_l_top_behind => k_is)
    (case c_l_top_behind => k_is)
    (case k_l_top_behind => k_is)
    (case a_l_top => k_is)
    (case l_l_top => k_is)
    (case c_l_top => k_is)
    (case k_l_top => k_is)
    (case a_l_few => k_is)
    (case l_l_few => k_is)
    (case c_l_few => k_is)
    (case k_l_few => k_is)
    (case a_l_refused => k_is)
    (case l_l_refused => k_is)
    (case c_l_refused => k_is)
    (case k_l_refused => k_is)
    (case a_l_pushed => k_is)
    (case l_l_pushed => k_is)
    (case c_l_pushed => k_is)
    (case k_l_pushed => k_is)
    (case a_l_paid => k_is)
    (case l_l_paid => k_is)
    (case c_l_paid => k_is)
    (case k_l_paid => k_is)
    (case a_l_may => k_is)
    (case l_l_may => k_is)
    (case c_l_may => k_is)
    (case k_l_may => k_is)
    (case a_l_seen => k_is)
    (case l_l_seen => k_is)
    (case c_l_seen => k_is)
    (case k_l_seen => k_is)
    (case a_l_bad => k_is)
    (case l_l_bad => k_is)
    (case c_l_bad => k_is)
    (case k_l_bad => k_is)
    (case a_l_form => k_is)
    (case l_l_form => k_is)
    (case c_l_form => k_is)
    (case k_l_form => k_is)
    (case a_l_right => k_is)
    (case l_l_right => k_is)
    (case c_l_right => k_is)
    (case k_l_right => k_is)
    (case a_law => k_is)
    (case l_law => k_is)
    (case c_law => k_is)
    (case k_law => k_is)
    (case a_is_integer => k_is)
    (case l_is_integer => k_is)
    (case c_is_integer => k_is)
    (case k_is_integer => k_is)
    (case lTD => k_is)
    (case dTD => rfl)
    (case aC => k_is)
    (case am_least_by_rest => k_is)
    (case im_least_by_rest => k_is)
    (case lm_least_by_rest => k_is)
    (case cm_least_by_rest => k_is)
    (case km_least_by_rest => k_is)
    (case am_regular_from => k_is)
    (case im_regular_from => k_is)
    (case lm_regular_from => k_is)
    (case cm_regular_from => k_is)
    (case km_regular_from => k_is)
    (case am_floors => k_is)
    (case im_floors => k_is)
    (case lm_floors => k_is)
    (case cm_floors => k_is)
    (case km_floors => k_is)
    (case am_floor => k_is)
    (case im_floor => k_is)
    (case lm_floor => k_is)
    (case cm_floor => k_is)
    (case km_floor => k_is)
    (case am_is_sum => k_is)
    (case im_is_sum => k_is)
    (case lm_is_sum => k_is)
    (case cm_is_sum => k_is)
    (case km_is_sum => k_is)
    (case am_slimmest => k_is)
    (case im_slimmest => k_is)
    (case lm_slimmest => k_is)
    (case cm_slimmest => k_is)
    (case km_slimmest => k_is)
    (case am_lightest_up_to => k_is)
    (case im_lightest_up_to => k_is)
    (case lm_lightest_up_to => k_is)
    (case cm_lightest_up_to => k_is)
    (case km_lightest_up_to => k_is)
    (case am_lightest => k_is)
    (case im_lightest => k_is)
    (case lm_lightest => k_is)
    (case cm_lightest => k_is)
    (case km_lightest => k_is)
    (case am_richest => k_is)
    (case im_richest => k_is)
    (case lm_richest => k_is)
    (case cm_richest => k_is)
    (case km_richest => k_is)
    (case am_longest_up_to => k_is)
    (case im_longest_up_to => k_is)
    (case lm_longest_up_to => k_is)
    (case cm_longest_up_to => k_is)
    (case km_longest_up_to => k_is)
    (case am_init => k_is)
    (case im_init => k_is)
    (case lm_init => k_is)
    (case cm_init => k_is)
    (case km_init => k_is)
    (case pg => k_is)
    (case hdd => k_is)
    (case po => k_is)
    (case sa => k_is)
    (case mk => k_is)
    (case kC => k_is)
    (case n_kinds => k_is)
    (case n_divisor => k_is)
    (case n_regular => k_is)
    (case n_near => k_is)
    (case n_slim => k_is)
    (case n_slim_bound => k_is)
    (case n_weights => k_is)
    (case n_rich => k_is)
    (case n_rich_bound => k_is)
    (case n_lengths => k_is)
    (case z_len => k_is)
    (case z_min => k_is)
    (case z_max => k_is)
    (case z_abs => k_is)
    (case z_sum => k_is)
    (case z_any => k_is)
    (case z_all => k_is)
    (case z_sorted => k_is)
    (case z_isinstance => k_is)
    (case z_int => k_is)
    (case z_bool => k_is)
    (case z_str => k_is)
    (case z_tuple => k_is)
    (case z_set => k_is)
    (case z_range => k_is)
    (case z_enumerate => k_is)
    (case z_zip => k_is)
    (case v_LONG => k_is)
    (case v_SHORT_END => k_is)
    (case v_CAUGHT_UP => k_is)
    (case nodig => k_is)
    (case aS => k_is)
    (case lS => k_is)
    (case wS => first | rfl | k_is)
    (case p0 => k_is)
    (case p1 => k_is)
    (case p2 => k_is)
    (case litS => exact ⟨⟨_, _, rfl, rfl⟩, ⟨_, _, rfl, rfl⟩, ⟨_, _, rfl, rfl⟩, trivial⟩)

set_option maxHeartbeats 200000
