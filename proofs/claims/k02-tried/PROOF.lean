import PyProof.Rows.All
import Wide.All
import OpenK.AllK
import Wide.FinOn
import HandS.ForMost
import HandS.WideBits
import HandS.Style
import HandS.IsInst
import HandS.EndBits
import HandS.Flow
import HandS.Conv
import HandS.Deep
import PySem.Challenge.RW_squaretree_k02_tried
set_option Elab.async false
set_option linter.all false
set_option maxRecDepth 100000
set_option maxHeartbeats 4000000
/-! pairs, steps, rows: the plain law -/
namespace Sq
/-- no number but 1 goes into both -/
def Cop (a b : Int) : Prop := ∀ d : Int, d ∣ a → d ∣ b → d ∣ 1
theorem cop_iff {a b : Int} : Int.gcd a b = 1 ↔ Cop a b := by
  constructor
  · intro h d h1 h2
    have := Int.dvd_coe_gcd h1 h2
    rw [h] at this
    exact this
  · intro h
    have := h (Int.gcd a b) (Int.gcd_dvd_left a b) (Int.gcd_dvd_right a b)
    have h2 := Int.natAbs_dvd_natAbs.mpr this
    simpa using h2
abbrev Pr := Int × Int
def Good (p : Pr) : Prop := 0 < p.2 ∧ p.2 < p.1 ∧ (p.1 + p.2) % 2 = 1 ∧ Cop p.1 p.2
def S3 (s : Int) : Prop := s = 0 ∨ s = 1 ∨ s = 2
/-- one step -/
def st (s : Int) (p : Pr) : Pr := if s = 0 then (2 * p.1 - p.2, p.1) else if s = 2 then (p.1 + 2 * p.2, p.2) else (2 * p.1 + p.2, p.1)
def rep (s : Int) : Nat → Pr → Pr
  | 0, p => p
  | k + 1, p => st s (rep s k p)
/-- a step done so often -/
def led (p : Pr) (s o : Int) : Pr :=
  if s = 0 then (p.1 + o * (p.1 - p.2), p.2 + o * (p.1 - p.2)) else if s = 2 then (p.1 + 2 * o * p.2, p.2) else rep 1 o.toNat p
theorem rep0 (p : Pr) : ∀ k : Nat, rep 0 k p = (p.1 + k * (p.1 - p.2), p.2 + k * (p.1 - p.2))
  | 0 => by simp [rep]
  | k + 1 => by
    rw [rep, rep0 p k, st, if_pos rfl]
    refine Prod.ext ?_ ?_ <;> dsimp only <;> push_cast <;> grind
theorem rep2 (p : Pr) : ∀ k : Nat, rep 2 k p = (p.1 + 2 * k * p.2, p.2)
  | 0 => by simp [rep]
  | k + 1 => by
    rw [rep, rep2 p k, st, if_neg (by decide), if_pos rfl]
    refine Prod.ext ?_ ?_ <;> dsimp only <;> push_cast <;> grind
theorem led_rep {p : Pr} {s o : Int} (hs : S3 s) (ho : 0 ≤ o) : led p s o = rep s o.toNat p := by
  have e : ((o.toNat : Nat) : Int) = o := Int.toNat_of_nonneg ho
  unfold led
  rcases hs with rfl | rfl | rfl
  · rw [if_pos rfl, rep0, e]
  · rw [if_neg (by decide), if_neg (by decide)]
  · rw [if_neg (by decide), if_pos rfl, rep2, e]
theorem good_root : Good (2, 1) := ⟨by decide, by decide, by decide, fun d _ h => h⟩
theorem good_st {s : Int} {p : Pr} (hs : S3 s) (h : Good p) : Good (st s p) := by
  obtain ⟨m, n⟩ := p
  obtain ⟨h1, h2, h3, h4⟩ := h
  dsimp only at h1 h2 h3 h4
  rcases hs with rfl | rfl | rfl
  · rw [st, if_pos rfl]
    refine ⟨by dsimp only; omega, by dsimp only; omega, by dsimp only; omega, fun d ⟨a, ha⟩ ⟨b, hb⟩ => h4 d ⟨b, hb⟩ ⟨2 * b - a, ?_⟩⟩
    dsimp only at ha hb
    grind
  · rw [st, if_neg (by decide), if_neg (by decide)]
    refine ⟨by dsimp only; omega, by dsimp only; omega, by dsimp only; omega, fun d ⟨a, ha⟩ ⟨b, hb⟩ => h4 d ⟨b, hb⟩ ⟨a - 2 * b, ?_⟩⟩
    dsimp only at ha hb
    grind
  · rw [st, if_neg (by decide), if_pos rfl]
    refine ⟨by dsimp only; omega, by dsimp only; omega, by dsimp only; omega, fun d ⟨a, ha⟩ ⟨b, hb⟩ => h4 d ⟨a - 2 * b, ?_⟩ ⟨b, hb⟩⟩
    dsimp only at ha hb
    grind
theorem good_rep {s : Int} {p : Pr} (hs : S3 s) (h : Good p) : ∀ k, Good (rep s k p)
  | 0 => h
  | k + 1 => good_st hs (good_rep hs h k)
/-- a step leads to no root, and tells itself and the pair ahead -/
theorem st_root {s : Int} {p : Pr} (hs : S3 s) (h : Good p) : st s p ≠ (2, 1) := by
  obtain ⟨m, n⟩ := p
  obtain ⟨h1, h2, h3, h4⟩ := h
  dsimp only at h1 h2 h3 h4
  intro e
  rcases hs with rfl | rfl | rfl
  · rw [st, if_pos rfl] at e
    have := Prod.mk.inj e
    dsimp only at this
    omega
  · rw [st, if_neg (by decide), if_neg (by decide)] at e
    have := Prod.mk.inj e
    dsimp only at this
    omega
  · rw [st, if_neg (by decide), if_pos rfl] at e
    have := Prod.mk.inj e
    dsimp only at this
    omega
theorem st_inj {s t : Int} {p q : Pr} (hs : S3 s) (ht : S3 t) (hp : Good p) (hq : Good q) (e : st s p = st t q) : s = t ∧ p = q := by
  obtain ⟨m, n⟩ := p
  obtain ⟨k, l⟩ := q
  obtain ⟨h1, h2, _, _⟩ := hp
  obtain ⟨h3, h4, _, _⟩ := hq
  dsimp only at h1 h2 h3 h4
  rcases hs with rfl | rfl | rfl <;> rcases ht with rfl | rfl | rfl <;> simp [st] at e <;> simp [Prod.ext_iff] <;> omega
def walk (w : List Int) : Pr := w.foldl (fun p s => st s p) (2, 1)
def Steps (w : List Int) : Prop := ∀ s ∈ w, S3 s
theorem walk_snoc (w : List Int) (s : Int) : walk (w ++ [s]) = st s (walk w) := by simp [walk, List.foldl_append]
theorem foldl_good : ∀ (w : List Int) (p : Pr), Steps w → Good p → Good (w.foldl (fun p s => st s p) p)
  | [], _, _, h => h
  | s :: w, p, hs, h => foldl_good w (st s p) (fun x hx => hs x (List.mem_cons_of_mem _ hx)) (good_st (hs s List.mem_cons_self) h)
theorem walk_good {w : List Int} (h : Steps w) : Good (walk w) := foldl_good w _ h good_root
theorem walk_rep (w : List Int) (s : Int) : ∀ k, walk (w ++ List.replicate k s) = rep s k (walk w)
  | 0 => by simp [rep]
  | k + 1 => by rw [List.replicate_succ', ← List.append_assoc, walk_snoc, walk_rep w s k, rep]
theorem steps_app {a b : List Int} : Steps (a ++ b) ↔ Steps a ∧ Steps b := by
  unfold Steps
  constructor
  · intro h
    exact ⟨fun s hs => h s (List.mem_append_left _ hs), fun s hs => h s (List.mem_append_right _ hs)⟩
  · intro h s hs
    rcases List.mem_append.mp hs with q | q
    · exact h.1 s q
    · exact h.2 s q
/-- the last steps of a way, told by the pair ahead of them -/
theorem walk_back {s : Int} {q : Pr} (hs : S3 s) (hq : Good q) : ∀ (k : Nat) (w : List Int), Steps w → walk w = rep s k q → ∃ w', w = w' ++ List.replicate k s ∧ walk w' = q
  | 0, w, _, e => ⟨w, by simp, e⟩
  | k + 1, w, hw, e => by
    rcases List.eq_nil_or_concat w with rfl | ⟨v, t, rfl⟩
    · exact absurd e.symm (st_root hs (good_rep hs hq k))
    · rw [List.concat_eq_append] at e hw ⊢
      have hv := steps_app.mp hw
      rw [walk_snoc, rep] at e
      have ht : S3 t := hv.2 t (by simp)
      obtain ⟨rfl, e2⟩ := st_inj ht hs (walk_good hv.1) (good_rep hs hq k) e
      obtain ⟨w', rfl, e3⟩ := walk_back hs hq k v hv.1 e2
      exact ⟨w', by rw [List.replicate_succ', List.append_assoc], e3⟩
/-- the step back, how often it was done, and the pair ahead -/
def lastOf (p : Pr) : Int × Int × Pr :=
  if p.1 < 2 * p.2 then (0, (p.2 - 1) / (p.1 - p.2), (p.1 - (p.2 - 1) / (p.1 - p.2) * (p.1 - p.2), p.2 - (p.2 - 1) / (p.1 - p.2) * (p.1 - p.2)))
  else if p.1 < 3 * p.2 then (1, 1, (p.2, p.1 - 2 * p.2))
  else (2, (p.1 - p.2) / (2 * p.2), (p.1 - 2 * ((p.1 - p.2) / (2 * p.2)) * p.2, p.2))
/-- a pair but the first -/
theorem not_two {m n : Int} (h : Good (m, n)) (h0 : ((m, n) : Pr) ≠ (2, 1)) : m ≠ 2 * n := by
  intro e
  obtain ⟨h1, h2, h3, h4⟩ := h
  dsimp only at h1 h2 h3 h4
  have : n ∣ 1 := h4 n ⟨2, by omega⟩ ⟨1, by omega⟩
  have hn : n = 1 := by
    have := Int.le_of_dvd (by decide) this
    omega
  exact h0 (by rw [e, hn]; rfl)
theorem last_ok {p : Pr} (h : Good p) (h0 : p ≠ (2, 1)) : S3 (lastOf p).1 ∧ 1 ≤ (lastOf p).2.1 ∧ Good (lastOf p).2.2 ∧ led (lastOf p).2.2 (lastOf p).1 (lastOf p).2.1 = p := by
  obtain ⟨m, n⟩ := p
  have ne2 := not_two h h0
  obtain ⟨h1, h2, h3, h4⟩ := h
  dsimp only at h1 h2 h3 h4
  unfold lastOf
  dsimp only
  by_cases c : m < 2 * n
  · rw [if_pos c]
    dsimp only
    generalize ho : (n - 1) / (m - n) = o
    have hd : 0 < m - n := by omega
    have e1 := Int.mul_ediv_add_emod (n - 1) (m - n)
    have e2 := Int.emod_nonneg (n - 1) (show m - n ≠ 0 by omega)
    have e3 := Int.emod_lt_of_pos (n - 1) hd
    rw [ho] at e1
    have o1 : 1 ≤ o := by
      rw [← ho]
      exact (Int.le_ediv_iff_mul_le hd).mpr (by omega)
    have e4 : (m - n) * o = o * (m - n) := Int.mul_comm _ _
    refine ⟨.inl rfl, o1, ⟨?_, ?_, ?_, ?_⟩, ?_⟩
    · dsimp only
      omega
    · dsimp only
      omega
    · dsimp only
      omega
    · intro d ⟨a, ha⟩ ⟨b, hb⟩
      dsimp only at ha hb
      refine h4 d ⟨a + o * (a - b), ?_⟩ ⟨b + o * (a - b), ?_⟩ <;> grind
    · rw [led, if_pos rfl]
      refine Prod.ext ?_ ?_ <;> dsimp only <;> grind
  · rw [if_neg c]
    by_cases c2 : m < 3 * n
    · rw [if_pos c2]
      dsimp only
      refine ⟨.inr (.inl rfl), by decide, ⟨?_, ?_, ?_, ?_⟩, ?_⟩
      · dsimp only
        omega
      · dsimp only
        omega
      · dsimp only
        omega
      · intro d ⟨a, ha⟩ ⟨b, hb⟩
        dsimp only at ha hb
        exact h4 d ⟨2 * a + b, by grind⟩ ⟨a, by grind⟩
      · rw [led, if_neg (by decide), if_neg (by decide)]
        simp [rep, st]
        omega
    · rw [if_neg c2]
      dsimp only
      generalize ho : (m - n) / (2 * n) = o
      have hd : 0 < 2 * n := by omega
      have e1 := Int.mul_ediv_add_emod (m - n) (2 * n)
      have e2 := Int.emod_nonneg (m - n) (show 2 * n ≠ 0 by omega)
      have e3 := Int.emod_lt_of_pos (m - n) hd
      rw [ho] at e1
      have o1 : 1 ≤ o := by
        rw [← ho]
        exact (Int.le_ediv_iff_mul_le hd).mpr (by omega)
      have e4 : 2 * n * o = 2 * o * n := by grind
      have e5 : 2 * o * n = 2 * (o * n) := by grind
      have key : (m - n) % (2 * n) ≠ 0 := by
        intro z
        rw [z] at e1
        omega
      refine ⟨.inr (.inr rfl), o1, ⟨?_, ?_, ?_, ?_⟩, ?_⟩
      · dsimp only
        omega
      · dsimp only
        omega
      · dsimp only
        omega
      · intro d ⟨a, ha⟩ ⟨b, hb⟩
        dsimp only at ha hb
        refine h4 d ⟨a + 2 * o * b, ?_⟩ ⟨b, hb⟩
        grind
      · rw [led, if_neg (by decide), if_pos rfl]
        refine Prod.ext ?_ ?_ <;> dsimp only <;> grind
end Sq

/-! rows: the plain law -/
namespace Sq
abbrev PRow := List (Int × Int)
def ex : PRow → List Int
  | [] => []
  | x :: r => List.replicate x.2.toNat x.1 ++ ex r
def Pos (r : PRow) : Prop := ∀ x ∈ r, S3 x.1 ∧ 1 ≤ x.2
def Adj : PRow → Prop
  | [] => True
  | [_] => True
  | a :: b :: r => a.1 ≠ b.1 ∧ Adj (b :: r)
def behind (r : PRow) : Pr := r.foldl (fun p x => led p x.1 x.2) (2, 1)
theorem ex_app : ∀ a b : PRow, ex (a ++ b) = ex a ++ ex b
  | [], _ => rfl
  | x :: a, b => by
    show List.replicate x.2.toNat x.1 ++ ex (a ++ b) = (List.replicate x.2.toNat x.1 ++ ex a) ++ ex b
    rw [ex_app a b, List.append_assoc]
theorem pos_app {a b : PRow} : Pos (a ++ b) ↔ Pos a ∧ Pos b := by
  unfold Pos
  constructor
  · intro h
    exact ⟨fun s hs => h s (List.mem_append_left _ hs), fun s hs => h s (List.mem_append_right _ hs)⟩
  · intro h s hs
    rcases List.mem_append.mp hs with q | q
    · exact h.1 s q
    · exact h.2 s q
theorem pos_cons {x : Int × Int} {b : PRow} : Pos (x :: b) ↔ (S3 x.1 ∧ 1 ≤ x.2) ∧ Pos b := by
  unfold Pos
  exact List.forall_mem_cons
theorem ex_steps {r : PRow} (h : Pos r) : Steps (ex r) := by
  induction r with
  | nil => intro s hs; cases hs
  | cons x r ih =>
    have h2 := pos_cons.mp h
    exact steps_app.mpr ⟨fun s hs => by rw [List.eq_of_mem_replicate hs]; exact h2.1.1, ih h2.2⟩
theorem behind_snoc (r : PRow) (x : Int × Int) : behind (r ++ [x]) = led (behind r) x.1 x.2 := by simp [behind, List.foldl_append]
theorem snoc_ind {α : Type} {P : List α → Prop} (h0 : P []) (h1 : ∀ l x, P l → P (l ++ [x])) (l : List α) : P l := by
  have : ∀ n (l : List α), l.length = n → P l := by
    intro n
    induction n with
    | zero => intro l hl; rw [List.length_eq_zero_iff.mp hl]; exact h0
    | succ n ih =>
      intro l hl
      rcases List.eq_nil_or_concat l with rfl | ⟨v, t, rfl⟩
      · exact h0
      · rw [List.concat_eq_append] at hl ⊢
        rw [List.length_append, List.length_singleton] at hl
        exact h1 v t (ih v (by omega))
  exact this _ l rfl
theorem behind_walk (r : PRow) : Pos r → behind r = walk (ex r) := by
  refine snoc_ind (P := fun r => Pos r → behind r = walk (ex r)) (fun _ => rfl) (fun l x ih h => ?_) r
  have h2 := pos_app.mp h
  have h3 := h2.2 x (by simp)
  rw [behind_snoc, ex_app, led_rep h3.1 (by omega), ih h2.1]
  show rep x.1 x.2.toNat (walk (ex l)) = walk (ex l ++ (List.replicate x.2.toNat x.1 ++ []))
  rw [List.append_nil, walk_rep]
theorem behind_good {r : PRow} (h : Pos r) : Good (behind r) := by
  rw [behind_walk r h]
  exact walk_good (ex_steps h)
theorem adj_tail {x : Int × Int} {r : PRow} (h : Adj (x :: r)) : Adj r := by
  cases r with
  | nil => trivial
  | cons y r => exact h.2
/-- a row's way begins with its first step -/
theorem ex_head {x : Int × Int} {r : PRow} (h : 1 ≤ x.2) : ∃ w, ex (x :: r) = x.1 :: w := by
  have : ∃ k, x.2.toNat = k + 1 := ⟨x.2.toNat - 1, by omega⟩
  obtain ⟨k, e⟩ := this
  exact ⟨List.replicate k x.1 ++ ex r, by rw [ex, e, List.replicate_succ, List.cons_append]⟩
/-- behind its first step a row's way has another one -/
theorem ex_next {x : Int × Int} {r : PRow} (ha : Adj (x :: r)) (hp : Pos r) : ∀ w s, ex r = s :: w → s ≠ x.1 := by
  intro w s e
  cases r with
  | nil => cases e
  | cons y r =>
    obtain ⟨w', e'⟩ := ex_head (x := y) (r := r) (pos_cons.mp hp).1.2
    rw [e'] at e
    cases e
    exact fun z => ha.1 z.symm
theorem rep_split {s : Int} : ∀ {a b : Nat} {u v : List Int}, (∀ w t, u = t :: w → t ≠ s) → (∀ w t, v = t :: w → t ≠ s) → List.replicate a s ++ u = List.replicate b s ++ v → a = b ∧ u = v
  | 0, 0, _, _, _, _, e => ⟨rfl, e⟩
  | a + 1, 0, u, v, _, hv, e => absurd rfl (hv (List.replicate a s ++ u) s (by rw [← List.nil_append v, ← List.replicate_zero (a := s), ← e, List.replicate_succ, List.cons_append]))
  | 0, b + 1, u, v, hu, _, e => absurd rfl (hu (List.replicate b s ++ v) s (by rw [← List.nil_append u, ← List.replicate_zero (a := s), e, List.replicate_succ, List.cons_append]))
  | a + 1, b + 1, u, v, hu, hv, e => by
    rw [List.replicate_succ, List.replicate_succ, List.cons_append, List.cons_append] at e
    have e2 := (List.cons.inj e).2
    obtain ⟨h1, h2⟩ := rep_split hu hv e2
    exact ⟨by rw [h1], h2⟩
theorem ex_inj : ∀ {f r : PRow}, Pos f → Pos r → Adj f → Adj r → ex f = ex r → f = r
  | [], [], _, _, _, _, _ => rfl
  | [], y :: r, _, hr, _, _, e => by
    obtain ⟨w, e'⟩ := ex_head (x := y) (r := r) (pos_cons.mp hr).1.2
    rw [e'] at e
    cases e
  | x :: f, [], hf, _, _, _, e => by
    obtain ⟨w, e'⟩ := ex_head (x := x) (r := f) (pos_cons.mp hf).1.2
    rw [e'] at e
    cases e
  | x :: f, y :: r, hf, hr, af, ar, e => by
    have pf := pos_cons.mp hf
    have pr := pos_cons.mp hr
    obtain ⟨w, e1⟩ := ex_head (x := x) (r := f) pf.1.2
    obtain ⟨w', e2⟩ := ex_head (x := y) (r := r) pr.1.2
    have hs : x.1 = y.1 := by
      rw [e1, e2] at e
      exact (List.cons.inj e).1
    unfold ex at e
    rw [← hs] at e
    obtain ⟨h1, h2⟩ := rep_split (fun w t q => ex_next af pf.2 w t q) (fun w t q => by rw [hs]; exact ex_next ar pr.2 w t q) e
    have h3 : x = y := Prod.ext hs (by have := pf.1.2; have := pr.1.2; omega)
    rw [h3, ex_inj pf.2 pr.2 (adj_tail af) (adj_tail ar) h2]
/-- the end of a row's way, told by a row, is no longer -/
theorem ex_len : ∀ {r f : PRow} {w : List Int}, Pos f → Pos r → Adj f → Adj r → w ++ ex f = ex r → f.length ≤ r.length
  | [], f, w, hf, _, _, _, e => by
    cases f with
    | nil => exact Nat.le_refl _
    | cons x f =>
      obtain ⟨v, e'⟩ := ex_head (x := x) (r := f) (pos_cons.mp hf).1.2
      rw [e'] at e
      have := (List.append_eq_nil_iff.mp e).2
      cases this
  | y :: r, f, w, hf, hr, af, ar, e => by
    have pr := pos_cons.mp hr
    have e0 : w ++ ex f = List.replicate y.2.toNat y.1 ++ ex r := e
    by_cases c : y.2.toNat ≤ w.length
    · have e1 : ∃ v, w = List.replicate y.2.toNat y.1 ++ v ∧ v ++ ex f = ex r := by
        rcases List.append_eq_append_iff.mp e0 with ⟨a, h1, h2⟩ | ⟨a, h1, h2⟩
        · have : a = [] := by
            have := congrArg List.length h1
            rw [List.length_append, List.length_replicate] at this
            exact List.length_eq_zero_iff.mp (by omega)
          subst this
          rw [List.append_nil] at h1
          exact ⟨[], by rw [List.append_nil, h1], by rw [h2, List.nil_append, List.nil_append]⟩
        · exact ⟨a, h1, h2.symm⟩
      obtain ⟨v, _, e2⟩ := e1
      have := ex_len hf pr.2 af (adj_tail ar) e2
      rw [List.length_cons]
      omega
    · have hw : w = List.replicate w.length y.1 ∧ ex f = ex ((y.1, y.2 - w.length) :: r) := by
        rcases List.append_eq_append_iff.mp e0 with ⟨a, h1, h2⟩ | ⟨a, h1, h2⟩
        · have hl := congrArg List.length h1
          rw [List.length_append, List.length_replicate] at hl
          have hw : w = List.replicate w.length y.1 := List.eq_replicate_iff.mpr ⟨rfl, fun b hb => List.eq_of_mem_replicate (n := y.2.toNat) (by rw [h1]; exact List.mem_append_left _ hb)⟩
          have ha : a = List.replicate (y.2 - w.length).toNat y.1 := List.eq_replicate_iff.mpr ⟨by omega, fun b hb => List.eq_of_mem_replicate (n := y.2.toNat) (by rw [h1]; exact List.mem_append_right _ hb)⟩
          exact ⟨hw, by rw [h2]; show a ++ ex r = List.replicate (y.2 - w.length).toNat y.1 ++ ex r; rw [ha]⟩
        · have hl := congrArg List.length h1
          rw [List.length_append, List.length_replicate] at hl
          omega
      have pz : Pos ((y.1, y.2 - (w.length : Int)) :: r) := pos_cons.mpr ⟨⟨pr.1.1, by dsimp only; omega⟩, pr.2⟩
      have az : Adj ((y.1, y.2 - (w.length : Int)) :: r) := by
        cases r with
        | nil => trivial
        | cons z r => exact ar
      rw [ex_inj hf pz af az hw.2]
      exact Nat.le_refl _
/-- what row_of does with a step, told from the row's end: at the front -/
def front (s o : Int) : PRow → PRow
  | [] => [(s, o)]
  | x :: r => if x.1 = s then (s, x.2 + o) :: r else (s, o) :: x :: r
theorem front_eq {s o : Int} {x : Int × Int} {r : PRow} (h : x.1 = s) : front s o (x :: r) = (s, x.2 + o) :: r := if_pos h
theorem front_ne {s o : Int} {x : Int × Int} {r : PRow} (h : ¬ x.1 = s) : front s o (x :: r) = (s, o) :: x :: r := if_neg h
theorem front_ex {s o : Int} {r : PRow} (ho : 1 ≤ o) (hr : Pos r) : ex (front s o r) = List.replicate o.toNat s ++ ex r := by
  cases r with
  | nil => rfl
  | cons x r =>
    by_cases h : x.1 = s
    · have hx := (pos_cons.mp hr).1.2
      rw [front_eq h]
      show List.replicate (x.2 + o).toNat s ++ ex r = List.replicate o.toNat s ++ (List.replicate x.2.toNat x.1 ++ ex r)
      rw [h, ← List.append_assoc, List.replicate_append_replicate]
      congr 2
      omega
    · rw [front_ne h]
      rfl
theorem front_pos {s o : Int} {r : PRow} (hs : S3 s) (ho : 1 ≤ o) (hr : Pos r) : Pos (front s o r) := by
  cases r with
  | nil => exact pos_cons.mpr ⟨⟨hs, ho⟩, hr⟩
  | cons x r =>
    have hx := pos_cons.mp hr
    by_cases h : x.1 = s
    · rw [front_eq h]
      exact pos_cons.mpr ⟨⟨hs, by have := hx.1.2; dsimp only; omega⟩, hx.2⟩
    · rw [front_ne h]
      exact pos_cons.mpr ⟨⟨hs, ho⟩, hr⟩
theorem front_adj {s o : Int} {r : PRow} (hr : Adj r) : Adj (front s o r) := by
  cases r with
  | nil => trivial
  | cons x r =>
    by_cases h : x.1 = s
    · rw [front_eq h]
      cases r with
      | nil => trivial
      | cons y r => exact ⟨by rw [← h]; exact hr.1, hr.2⟩
    · rw [front_ne h]
      exact ⟨fun z => h z.symm, hr⟩
/-- THE LOOP of row_of: what holds between two turns. g: the row found so far (from its end), w: the way still ahead -/
structure Turns (R g : PRow) (p : Pr) (w : List Int) : Prop where
  st : Steps w
  at' : p = walk w
  all : w ++ ex g = ex R
  pos : Pos g
  adj : Adj g
theorem turns_start {R : PRow} (h : Pos R) : Turns R [] (behind R) (ex R) := ⟨ex_steps h, behind_walk R h, by simp [ex], (fun x hx => by cases hx), trivial⟩
theorem turns_next {R g : PRow} {p : Pr} {w : List Int} (t : Turns R g p w) (h0 : p ≠ (2, 1)) : ∃ w', w'.length < w.length ∧ Turns R (front (lastOf p).1 (lastOf p).2.1 g) (lastOf p).2.2 w' := by
  have gp : Good p := by rw [t.at']; exact walk_good t.st
  obtain ⟨h1, h2, h3, h4⟩ := last_ok gp h0
  rw [led_rep h1 (by omega)] at h4
  obtain ⟨w', e, e2⟩ := walk_back h1 h3 _ w t.st (t.at'.symm.trans h4.symm)
  refine ⟨w', ?_, ⟨?_, e2.symm, ?_, front_pos h1 h2 t.pos, front_adj t.adj⟩⟩
  · rw [e, List.length_append, List.length_replicate]
    omega
  · have := t.st
    rw [e] at this
    exact (steps_app.mp this).1
  · rw [front_ex h2 t.pos, ← List.append_assoc, ← e]
    exact t.all
theorem turns_end {R g : PRow} {w : List Int} (t : Turns R g (2, 1) w) (hR : Pos R) (aR : Adj R) : g = R := by
  have : w = [] := by
    rcases List.eq_nil_or_concat w with rfl | ⟨v, s, rfl⟩
    · rfl
    · have h := t.at'
      have hs := t.st
      rw [List.concat_eq_append] at h hs
      rw [walk_snoc] at h
      have h2 := steps_app.mp hs
      exact absurd h.symm (st_root (h2.2 s (by simp)) (walk_good h2.1))
  have e := t.all
  rw [this, List.nil_append] at e
  exact ex_inj t.pos hR t.adj aR e
theorem turns_len {R g : PRow} {p : Pr} {w : List Int} (t : Turns R g p w) (hR : Pos R) (aR : Adj R) : g.length ≤ R.length := ex_len t.pos hR t.adj aR t.all
theorem turns_good {R g : PRow} {p : Pr} {w : List Int} (t : Turns R g p w) : Good p := by rw [t.at']; exact walk_good t.st
end Sq

/-! triples, roots, sizes: the plain law -/
namespace Sq
theorem cop_mul {a b c : Int} (h1 : Cop a b) (h2 : Cop a c) : Cop a (b * c) := by
  have e1 : Nat.Coprime a.natAbs b.natAbs := cop_iff.mpr h1
  have e2 : Nat.Coprime a.natAbs c.natAbs := cop_iff.mpr h2
  have e3 : Nat.Coprime a.natAbs (b * c).natAbs := by
    rw [Int.natAbs_mul]
    exact Nat.Coprime.mul_right e1 e2
  exact cop_iff.mp e3
theorem cop_comm {a b : Int} (h : Cop a b) : Cop b a := fun d h1 h2 => h d h2 h1
abbrev Tr := Int × Int × Int
def tri (p : Pr) : Tr := (p.1 * p.1 - p.2 * p.2, 2 * p.1 * p.2, p.1 * p.1 + p.2 * p.2)
structure TriOk (t : Tr) : Prop where
  a : 0 < t.1
  b : 0 < t.2.1
  c : 0 < t.2.2
  odd : t.1 % 2 = 1
  even : t.2.1 % 2 = 0
  sq : t.1 * t.1 + t.2.1 * t.2.1 = t.2.2 * t.2.2
  cop : Int.gcd t.1 t.2.1 = 1
theorem sq_mod (m : Int) : (m * m) % 2 = m % 2 := by
  rw [Int.mul_emod]
  rcases Int.emod_two_eq m with h | h <;> rw [h] <;> rfl
theorem tri_ok {p : Pr} (h : Good p) : TriOk (tri p) := by
  obtain ⟨m, n⟩ := p
  obtain ⟨h1, h2, h3, h4⟩ := h
  dsimp only at h1 h2 h3 h4
  have k1 : n * n < m * m := Int.lt_trans (Int.mul_lt_mul_of_pos_right h2 h1) (Int.mul_lt_mul_of_pos_left h2 (by omega))
  have k2 : 0 < n * n := Int.mul_pos h1 h1
  have k3 : 0 < m * n := Int.mul_pos (by omega) h1
  have k4 : 2 * m * n = 2 * (m * n) := by grind
  have odd : (m * m - n * n) % 2 = 1 := by
    have := sq_mod m
    have := sq_mod n
    omega
  have cn : Cop n m := cop_comm h4
  refine ⟨by show 0 < m * m - n * n; omega, by show 0 < 2 * m * n; omega, by show 0 < m * m + n * n; omega, odd, by show (2 * m * n) % 2 = 0; omega, ?_, ?_⟩
  · show (m * m - n * n) * (m * m - n * n) + 2 * m * n * (2 * m * n) = (m * m + n * n) * (m * m + n * n)
    grind
  · refine cop_iff.mpr ?_
    show Cop (m * m - n * n) (2 * m * n)
    refine cop_mul (cop_mul ?_ ?_) ?_
    · intro d h5 ⟨e, he⟩
      have hd2 : d ∣ (2 : Int) := ⟨e, he⟩
      obtain ⟨f, hf⟩ := h5
      exact ⟨f - e * ((m * m - n * n) / 2), by
        have e1 := Int.mul_ediv_add_emod (m * m - n * n) 2
        rw [odd] at e1
        grind⟩
    · intro d ⟨e, he⟩ ⟨f, hf⟩
      exact cop_mul h4 h4 d ⟨f, hf⟩ ⟨f * m - e, by grind⟩
    · intro d ⟨e, he⟩ ⟨f, hf⟩
      exact cop_mul cn cn d ⟨f, hf⟩ ⟨f * n + e, by grind⟩
theorem tri_half1 (p : Pr) : ((tri p).2.2 + (tri p).1) / 2 = p.1 * p.1 := by
  show ((p.1 * p.1 + p.2 * p.2) + (p.1 * p.1 - p.2 * p.2)) / 2 = p.1 * p.1
  omega
theorem tri_half2 (p : Pr) : ((tri p).2.2 - (tri p).1) / 2 = p.2 * p.2 := by
  show ((p.1 * p.1 + p.2 * p.2) - (p.1 * p.1 - p.2 * p.2)) / 2 = p.2 * p.2
  omega
/-! ### roots -/
theorem root_uniq {r b n : Int} (h : 0 ≤ r) (h1 : r * r ≤ n) (h2 : n < (r + 1) * (r + 1)) (hb : 0 ≤ b) (h3 : b * b ≤ n) (h4 : n < (b + 1) * (b + 1)) : r = b := by
  rcases Int.lt_trichotomy r b with c | c | c
  · have : (r + 1) * (r + 1) ≤ b * b := Int.mul_le_mul (by omega) (by omega) (by omega) (by omega)
    omega
  · exact c
  · have : (b + 1) * (b + 1) ≤ r * r := Int.mul_le_mul (by omega) (by omega) (by omega) (by omega)
    omega
theorem root_sq {r m : Int} (h : 0 ≤ r) (h1 : r * r ≤ m * m) (h2 : m * m < (r + 1) * (r + 1)) (hm : 0 ≤ m) : r = m :=
  root_uniq h h1 h2 hm (Int.le_refl _) (by grind)
structure Newt (N x : Int) : Prop where
  nn : 0 ≤ x
  up : N < (x + 1) * (x + 1)
theorem newt_next {N x : Int} (hN : 0 ≤ N) (h : Newt N x) (hx : N < x * x) : 0 < x ∧ Newt N ((x + N / x) / 2) ∧ (x + N / x) / 2 < x := by
  have x0 : 0 < x := by
    rcases Int.lt_or_eq_of_le h.nn with c | c
    · exact c
    · rw [← c] at hx
      omega
  have e1 := Int.mul_ediv_add_emod N x
  have e2 := Int.emod_nonneg N (show x ≠ 0 by omega)
  have e3 := Int.emod_lt_of_pos N x0
  generalize hq : N / x = q at *
  have q0 : 0 ≤ q := by rw [← hq]; exact Int.ediv_nonneg hN h.nn
  have q1 : q < x := by
    rcases Int.lt_or_le q x with c | c
    · exact c
    · have : x * x ≤ x * q := Int.mul_le_mul_of_nonneg_left c h.nn
      omega
  have f1 := Int.mul_ediv_add_emod (x + q) 2
  generalize hr : (x + q) / 2 = r at *
  have r1 : x + q + 1 ≤ 2 * (r + 1) := by omega
  refine ⟨x0, ⟨by omega, ?_⟩, by omega⟩
  have g1 : 4 * N < 4 * ((q + 1) * x) := by
    have : (q + 1) * x = x * q + x := by grind
    omega
  have g2 : 4 * ((q + 1) * x) ≤ (x + q + 1) * (x + q + 1) := by
    have z : 0 ≤ (q + 1 - x) * (q + 1 - x) := by
      rcases Int.le_total 0 (q + 1 - x) with c | c
      · exact Int.mul_nonneg c c
      · exact Int.mul_nonneg_of_nonpos_of_nonpos c c
    have : (q + 1 - x) * (q + 1 - x) = (x + q + 1) * (x + q + 1) - 4 * ((q + 1) * x) := by grind
    omega
  have g3 : (x + q + 1) * (x + q + 1) ≤ (2 * (r + 1)) * (2 * (r + 1)) := Int.mul_le_mul r1 r1 (by omega) (by omega)
  have g4 : (2 * (r + 1)) * (2 * (r + 1)) = 4 * ((r + 1) * (r + 1)) := by grind
  omega
theorem newt_start {N : Int} {b : Nat} (hb : N < 2 ^ b) : Newt N (2 ^ ((b + 1) / 2)) := by
  have p0 : ∀ k : Nat, (0 : Int) < 2 ^ k := fun k => by
    have := Nat.two_pow_pos k
    exact_mod_cast this
  have z := p0 ((b + 1) / 2)
  refine ⟨by omega, ?_⟩
  have h1 : (2 : Int) ^ b ≤ 2 ^ ((b + 1) / 2) * 2 ^ ((b + 1) / 2) := by
    rw [← Int.pow_add]
    have : (2 : Nat) ^ b ≤ 2 ^ ((b + 1) / 2 + (b + 1) / 2) := Nat.pow_le_pow_right (by decide) (by omega)
    exact_mod_cast this
  have h2 : ((2 : Int) ^ ((b + 1) / 2) + 1) * (2 ^ ((b + 1) / 2) + 1) = 2 ^ ((b + 1) / 2) * 2 ^ ((b + 1) / 2) + 2 * 2 ^ ((b + 1) / 2) + 1 := by grind
  omega
/-! ### sizes -/
/-- fewer than k bits -/
def Bd (k : Nat) (x : Int) : Prop := x.natAbs < 2 ^ k
theorem Bd.mono {k l : Nat} {x : Int} (h : Bd k x) (e : k ≤ l) : Bd l x := Nat.lt_of_lt_of_le h (Nat.pow_le_pow_right (by decide) e)
theorem Bd.mul {k l : Nat} {x y : Int} (h : Bd k x) (h2 : Bd l y) : Bd (k + l) (x * y) := by
  unfold Bd at *
  rw [Int.natAbs_mul, Nat.pow_add]
  exact Nat.mul_lt_mul'' h h2
theorem Bd.add {k : Nat} {x y : Int} (h : Bd k x) (h2 : Bd k y) : Bd (k + 1) (x + y) := by
  unfold Bd at *
  have := Int.natAbs_add_le x y
  rw [Nat.pow_succ]
  omega
theorem Bd.neg {k : Nat} {x : Int} (h : Bd k x) : Bd k (-x) := by
  unfold Bd at *
  rw [Int.natAbs_neg]
  exact h
theorem Bd.sub {k : Nat} {x y : Int} (h : Bd k x) (h2 : Bd k y) : Bd (k + 1) (x - y) := by
  rw [Int.sub_eq_add_neg]
  exact Bd.add h h2.neg
theorem Bd.le {k : Nat} {x y : Int} (h : Bd k y) (h0 : 0 ≤ x) (h1 : x ≤ y) : Bd k x := Nat.lt_of_le_of_lt (by omega) h
theorem Bd.lt {k : Nat} {x : Int} (h : Bd k x) : x < 2 ^ k := by
  unfold Bd at h
  have : ((x.natAbs : Nat) : Int) < ((2 ^ k : Nat) : Int) := Int.ofNat_lt.mpr h
  rw [Int.natCast_pow] at this
  have e : x ≤ x.natAbs := Int.le_natAbs
  exact Int.lt_of_le_of_lt e this
theorem bd_of {k : Nat} {x : Int} (h0 : 0 ≤ x) (h : x < 2 ^ k) : Bd k x := by
  unfold Bd
  have e : ((x.natAbs : Nat) : Int) < ((2 ^ k : Nat) : Int) := by
    rw [Int.natCast_pow, Int.natAbs_of_nonneg h0]
    exact h
  exact Int.ofNat_lt.mp e
theorem bd_small {x : Int} {k : Nat} (h : x.natAbs < 2 ^ k) : Bd k x := h
theorem tri_bd {p : Pr} {k : Nat} (h : Good p) (hb : Bd k p.1) : Bd (k + k + 2) (tri p).1 ∧ Bd (k + k + 2) (tri p).2.1 ∧ Bd (k + k + 2) (tri p).2.2 := by
  obtain ⟨h1, h2, _, _⟩ := h
  have hn : Bd k p.2 := hb.le (by omega) (by omega)
  have e1 := hb.mul hb
  have e2 := hn.mul hn
  have e3 := hb.mul hn
  refine ⟨(e1.sub e2).mono (by omega), ?_, (e1.add e2).mono (by omega)⟩
  have : (tri p).2.1 = p.1 * p.2 + p.1 * p.2 := by
    show 2 * p.1 * p.2 = _
    grind
  rw [this]
  exact (e3.add e3).mono (by omega)
def PartOk (x : Int × Int) : Prop := S3 x.1 ∧ 1 ≤ x.2 ∧ x.2 ≤ 10 ^ 40 ∧ (x.1 = 1 → x.2 ≤ 1000)
theorem rep1_le {p : Pr} (h : Good p) : ∀ k : Nat, Bd b p.1 → Bd (b + 2 * k) (rep 1 k p).1
  | 0, hb => hb
  | k + 1, hb => by
    have ih := rep1_le h k hb
    have g := good_rep (s := 1) (.inr (.inl rfl)) h k
    obtain ⟨g1, g2, _, _⟩ := g
    rw [rep, st, if_neg (by decide), if_neg (by decide)]
    dsimp only
    have e : Bd (b + 2 * k) (rep 1 k p).2 := ih.le (by omega) (by omega)
    have : 2 * (rep 1 k p).1 + (rep 1 k p).2 = ((rep 1 k p).1 + (rep 1 k p).1) + (rep 1 k p).2 := by grind
    rw [this]
    exact ((ih.add ih).add (e.mono (by omega))).mono (by omega)
theorem led_bd {p : Pr} {x : Int × Int} {b : Nat} (h : Good p) (hx : PartOk x) (hb : Bd b p.1) : Bd (b + 2000) (led p x.1 x.2).1 := by
  obtain ⟨s, o⟩ := x
  obtain ⟨h1, h2, h3, h4⟩ := hx
  obtain ⟨g1, g2, _, _⟩ := id h
  dsimp only at h1 h2 h3 h4 ⊢
  have ho : Bd 140 o := Nat.lt_of_le_of_lt (show o.natAbs ≤ 10 ^ 40 by omega) (by decide +kernel)
  have hn : Bd b p.2 := hb.le (by omega) (by omega)
  rcases h1 with rfl | rfl | rfl
  · rw [led, if_pos rfl]
    dsimp only
    have e1 := hb.sub hn
    exact (((hb.mono (show b ≤ 140 + (b + 1) by omega)).add (ho.mul e1))).mono (by omega)
  · rw [led, if_neg (by decide), if_neg (by decide)]
    exact (rep1_le h o.toNat hb).mono (by have := h4 rfl; omega)
  · rw [led, if_neg (by decide), if_pos rfl]
    dsimp only
    have : 2 * o * p.2 = o * p.2 + o * p.2 := by grind
    rw [this]
    have e1 := ho.mul hn
    exact (((hb.mono (show b ≤ 140 + b + 1 by omega)).add (e1.add e1))).mono (by omega)
theorem rep1_succ (i : Nat) (p : Pr) : rep 1 (i + 1) p = (2 * (rep 1 i p).1 + (rep 1 i p).2, (rep 1 i p).1) := by
  rw [rep, st, if_neg (by decide), if_neg (by decide)]
theorem led_good {p : Pr} {s o : Int} (h : Good p) (hs : S3 s) (ho : 0 ≤ o) : Good (led p s o) := by
  rw [led_rep hs ho]
  exact good_rep hs h _
theorem parts_pos {r : PRow} (h : ∀ x ∈ r, PartOk x) : Pos r := fun x hx => ⟨(h x hx).1, (h x hx).2.1⟩
theorem behind_bd (r : PRow) : (∀ x ∈ r, PartOk x) → Bd (2000 * r.length + 2) (behind r).1 := by
  refine snoc_ind (P := fun r => (∀ x ∈ r, PartOk x) → Bd (2000 * r.length + 2) (behind r).1) (fun _ => by show (2 : Nat) < 2 ^ 2; decide) (fun l x ih h => ?_) r
  have h1 : ∀ y ∈ l, PartOk y := fun y hy => h y (List.mem_append_left _ hy)
  rw [behind_snoc, List.length_append, List.length_singleton]
  exact (led_bd (behind_good (parts_pos h1)) (h x (by simp)) (ih h1)).mono (by omega)
end Sq

/-! one step back; rows cut -/
namespace Sq
def backOf (p : Pr) : Int × Pr := if p.1 < 2 * p.2 then (0, (p.2, 2 * p.2 - p.1)) else if p.1 < 3 * p.2 then (1, (p.2, p.1 - 2 * p.2)) else (2, (p.1 - 2 * p.2, p.2))
theorem back_ok {p : Pr} (h : Good p) (h0 : p ≠ (2, 1)) : S3 (backOf p).1 ∧ Good (backOf p).2 ∧ p = st (backOf p).1 (backOf p).2 := by
  obtain ⟨m, n⟩ := p
  have ne2 := not_two h h0
  obtain ⟨h1, h2, h3, h4⟩ := h
  dsimp only at h1 h2 h3 h4
  unfold backOf
  dsimp only
  by_cases c : m < 2 * n
  · rw [if_pos c]
    refine ⟨.inl rfl, ⟨by dsimp only; omega, by dsimp only; omega, by dsimp only; omega, fun d ⟨a, ha⟩ ⟨b, hb⟩ => ?_⟩, ?_⟩
    · dsimp only at ha hb
      exact h4 d ⟨2 * a - b, by grind⟩ ⟨a, by grind⟩
    · rw [st, if_pos rfl]
      refine Prod.ext ?_ ?_ <;> dsimp only <;> omega
  · rw [if_neg c]
    by_cases c2 : m < 3 * n
    · rw [if_pos c2]
      refine ⟨.inr (.inl rfl), ⟨by dsimp only; omega, by dsimp only; omega, by dsimp only; omega, fun d ⟨a, ha⟩ ⟨b, hb⟩ => ?_⟩, ?_⟩
      · dsimp only at ha hb
        exact h4 d ⟨2 * a + b, by grind⟩ ⟨a, by grind⟩
      · show (m, n) = st 1 (n, m - 2 * n)
        rw [st, if_neg (by decide), if_neg (by decide)]
        refine Prod.ext ?_ ?_ <;> dsimp only <;> omega
    · rw [if_neg c2]
      refine ⟨.inr (.inr rfl), ⟨by dsimp only; omega, by dsimp only; omega, by dsimp only; omega, fun d ⟨a, ha⟩ ⟨b, hb⟩ => ?_⟩, ?_⟩
      · dsimp only at ha hb
        exact h4 d ⟨a + 2 * b, by grind⟩ ⟨b, by grind⟩
      · show (m, n) = st 2 (m - 2 * n, n)
        rw [st, if_neg (by decide), if_pos rfl]
        refine Prod.ext ?_ ?_ <;> dsimp only <;> omega
theorem back_st {s : Int} {p : Pr} (hs : S3 s) (h : Good p) : backOf (st s p) = (s, p) := by
  obtain ⟨h1, h2, h3⟩ := back_ok (good_st hs h) (st_root hs h)
  obtain ⟨e1, e2⟩ := st_inj hs h1 h h2 h3
  exact Prod.ext e1.symm e2.symm
theorem back_le {p : Pr} (h : Good p) : 0 ≤ (backOf p).2.1 ∧ (backOf p).2.1 ≤ p.1 ∧ -p.1 ≤ (backOf p).2.2 ∧ (backOf p).2.2 ≤ p.1 := by
  obtain ⟨h1, h2, _, _⟩ := h
  unfold backOf
  split
  · dsimp only
    omega
  · split <;> (dsimp only; omega)
theorem last_le {p : Pr} (h : Good p) (h0 : p ≠ (2, 1)) : (lastOf p).2.2.1 ≤ p.1 := by
  obtain ⟨h1, h2, h3, h4⟩ := last_ok h h0
  rw [led_rep h1 (by omega)] at h4
  have mono : ∀ k : Nat, (lastOf p).2.2.1 ≤ (rep (lastOf p).1 k (lastOf p).2.2).1 := by
    intro k
    induction k with
    | zero => exact Int.le_refl _
    | succ k ih =>
      have g := good_rep h1 h3 k
      refine Int.le_trans ih ?_
      obtain ⟨g1, g2, _, _⟩ := g
      rw [rep]
      rcases h1 with e | e | e <;> (rw [e] at g1 g2 ⊢; simp [st]; omega)
  have := mono (lastOf p).2.1.toNat
  rw [h4] at this
  exact this
theorem Bd.abs {k : Nat} {x y : Int} (h : Bd k y) (h0 : -y ≤ x) (h1 : x ≤ y) : Bd k x := Nat.lt_of_le_of_lt (by omega) h
theorem behind_take {r : PRow} {i : Nat} {x : Int × Int} (h : r[i]? = some x) : behind (r.take (i + 1)) = led (behind (r.take i)) x.1 x.2 := by
  rw [List.take_add_one, h]
  exact behind_snoc _ _
theorem adj_get : ∀ {r : PRow} {i : Nat} {x y : Int × Int}, Adj r → r[i]? = some x → r[i + 1]? = some y → x.1 ≠ y.1
  | [], _, _, _, _, h, _ => by simp at h
  | [_], 0, _, _, _, _, h => by simp at h
  | [_], _ + 1, _, _, _, h, _ => by simp at h
  | a :: b :: r, 0, x, y, ha, h, h2 => by
    have e1 : a = x := Option.some.inj h
    have e2 : b = y := Option.some.inj h2
    subst e1
    subst e2
    exact ha.1
  | a :: b :: r, i + 1, x, y, ha, h, h2 => adj_get (r := b :: r) (i := i) ha.2 h h2
theorem adj_take : ∀ {r : PRow} (n : Nat), Adj r → Adj (r.take n)
  | _, 0, _ => trivial
  | [], _ + 1, _ => trivial
  | [_], _ + 1, _ => by simp [Adj]
  | a :: b :: r, 1, _ => trivial
  | a :: b :: r, n + 2, h => ⟨h.1, adj_take (r := b :: r) (n + 1) h.2⟩
end Sq

/-! drawn rows -/
namespace Sq
theorem adj_snoc : ∀ {r : PRow} {x y : Int × Int}, Adj (r ++ [x]) → x.1 ≠ y.1 → Adj (r ++ [x] ++ [y])
  | [], _, _, _, h => ⟨h, trivial⟩
  | [a], x, y, ha, h => ⟨ha.1, h, trivial⟩
  | a :: b :: r, x, y, ha, h => ⟨ha.1, adj_snoc (r := b :: r) ha.2 h⟩
/-- a row grown, the step told last: 3 ahead of any -/
def LastIs (r : PRow) (l : Int) : Prop := (r = [] ∧ l = 3) ∨ ∃ r' x, r = r' ++ [x] ∧ l = x.1 ∧ S3 l
theorem next_ok {r : PRow} {l d s o : Int} (hl : LastIs r l) (h : ∀ x ∈ r, PartOk x) (ha : Adj r) (hs : s = if l = 3 then d % 3 else (l + 1 + d % 2) % 3) (h1 : 1 ≤ o) (h2 : o ≤ 10 ^ 40) (h3 : s = 1 → o ≤ 1000) :
    (∀ x ∈ r ++ [(s, o)], PartOk x) ∧ Adj (r ++ [(s, o)]) ∧ LastIs (r ++ [(s, o)]) s := by
  have s3 : S3 s := by
    unfold S3
    split at hs <;> omega
  refine ⟨fun x hx => ?_, ?_, .inr ⟨r, (s, o), rfl, rfl, s3⟩⟩
  · rcases List.mem_append.mp hx with q | q
    · exact h x q
    · rw [List.mem_singleton.mp q]
      exact ⟨s3, h1, h2, h3⟩
  · rcases hl with ⟨e, _⟩ | ⟨r', x, e, e2, l3⟩
    · rw [e]
      trivial
    · rw [e]
      refine adj_snoc (by rw [← e]; exact ha) ?_
      rw [← e2]
      unfold S3 at l3
      rw [if_neg (by omega)] at hs
      show l ≠ s
      omega
theorem often_ok {d m : Int} (hd : 0 ≤ d) (hm : 0 < m) (hm2 : m ≤ 10 ^ 40) : 1 ≤ 1 + d % m ∧ 1 + d % m ≤ 10 ^ 40 := by
  have := Int.emod_nonneg d (show m ≠ 0 by omega)
  have := Int.emod_lt_of_pos d hm
  omega
theorem partok_small {s o : Int} (hs : S3 s) (h1 : 1 ≤ o) (h2 : o ≤ 1000) : PartOk (s, o) := ⟨hs, h1, by dsimp only; omega, fun _ => h2⟩
end Sq

/-! a row's last step, taken back -/
namespace Sq
def shorter (s o : Int) : PRow := if 1 < o then [(s, o - 1)] else []
theorem shorter_ok {s o : Int} (h : PartOk (s, o)) : ∀ x ∈ shorter s o, PartOk x := by
  intro x hx
  unfold shorter at hx
  split at hx
  · rw [List.mem_singleton.mp hx]
    obtain ⟨h1, h2, h3, h4⟩ := h
    dsimp only at h1 h2 h3 h4
    exact ⟨h1, by dsimp only; omega, by dsimp only; omega, fun e => by have := h4 e; dsimp only; omega⟩
  · cases hx
theorem behind_app (a b : PRow) : behind (a ++ b) = b.foldl (fun p x => led p x.1 x.2) (behind a) := by simp [behind, List.foldl_append]
theorem last_step {r : PRow} {s o : Int} (hr : ∀ x ∈ r, PartOk x) (h : PartOk (s, o)) : behind (r ++ [(s, o)]) = st s (behind (r ++ shorter s o)) := by
  obtain ⟨h1, h2, h3, h4⟩ := h
  dsimp only at h1 h2 h3 h4
  rw [behind_app, behind_app]
  unfold shorter
  split
  · show led (behind r) s o = st s (led (behind r) s (o - 1))
    rw [led_rep h1 (by omega), led_rep h1 (by omega)]
    have : o.toNat = (o - 1).toNat + 1 := by omega
    rw [this, rep]
  · show led (behind r) s o = st s (behind r)
    have : o = 1 := by omega
    rw [this, led_rep h1 (by decide)]
    rfl
end Sq

/-! each pair's way and row; the pairs up to a number -/
namespace Sq
theorem way : ∀ (k : Nat) (p : Pr), Good p → p.1.toNat ≤ k → ∃ w : List Int, Steps w ∧ walk w = p ∧ (w.length : Int) + 2 ≤ p.1
  | 0, p, h, hk => by
    have := h.1
    have := h.2.1
    omega
  | k + 1, p, h, hk => by
    by_cases h0 : p = (2, 1)
    · subst h0
      exact ⟨[], (fun s hs => by cases hs), rfl, by decide⟩
    · obtain ⟨b1, b2, b3⟩ := back_ok h h0
      have lt : (backOf p).2.1 < p.1 := by
        have g := b2
        have e := b3
        obtain ⟨g1, g2, _, _⟩ := g
        generalize (backOf p).1 = s at *
        generalize (backOf p).2 = q at *
        rw [e]
        rcases b1 with z | z | z <;> (rw [z]; simp [st]; omega)
      have pos := b2.1
      have pos2 := b2.2.1
      obtain ⟨w, w1, w2, w3⟩ := way k (backOf p).2 b2 (by omega)
      refine ⟨w ++ [(backOf p).1], steps_app.mpr ⟨w1, fun s hs => by rw [List.mem_singleton.mp hs]; exact b1⟩, ?_, ?_⟩
      · rw [walk_snoc, w2]
        exact b3.symm
      · rw [List.length_append, List.length_singleton]
        omega
/-- a way as a row -/
def rle : List Int → PRow
  | [] => []
  | s :: w => front s 1 (rle w)
theorem rle_ok : ∀ w : List Int, Steps w → Pos (rle w) ∧ Adj (rle w) ∧ ex (rle w) = w ∧ (rle w).length ≤ w.length ∧ ∀ x ∈ rle w, x.2 ≤ w.length
  | [], _ => ⟨(fun x hx => by cases hx), trivial, rfl, Nat.le_refl _, (fun x hx => by cases hx)⟩
  | s :: w, h => by
    obtain ⟨h1, h2, h3, h4, h5⟩ := rle_ok w (fun x hx => h x (List.mem_cons_of_mem _ hx))
    have hs := h s List.mem_cons_self
    refine ⟨front_pos hs (by decide) h1, front_adj h2, ?_, ?_, ?_⟩
    · show ex (front s 1 (rle w)) = s :: w
      rw [front_ex (by decide) h1, h3]
      rfl
    · show (front s 1 (rle w)).length ≤ w.length + 1
      cases e : rle w with
      | nil => exact Nat.succ_le_succ (Nat.zero_le _)
      | cons x r =>
        rw [e] at h4
        by_cases c : x.1 = s
        · rw [front_eq c]
          rw [List.length_cons] at h4 ⊢
          omega
        · rw [front_ne c]
          rw [List.length_cons]
          omega
    · show ∀ x ∈ front s 1 (rle w), x.2 ≤ ((w.length + 1 : Nat) : Int)
      intro x hx
      cases e : rle w with
      | nil =>
        rw [e] at hx
        rw [List.mem_singleton.mp hx]
        dsimp only
        omega
      | cons y r =>
        rw [e] at hx h5
        have hy := h5 y List.mem_cons_self
        by_cases c : y.1 = s
        · rw [front_eq c] at hx
          rcases List.mem_cons.mp hx with z | z
          · rw [z]
            dsimp only
            omega
          · have := h5 x (List.mem_cons_of_mem _ z)
            omega
        · rw [front_ne c] at hx
          rcases List.mem_cons.mp hx with z | z
          · rw [z]
            dsimp only
            omega
          · have := h5 x z
            omega
/-- each pair has a row -/
theorem row_of_pair {p : Pr} (h : Good p) (hb : p.1 ≤ 900) : ∃ r : PRow, (∀ x ∈ r, PartOk x) ∧ Adj r ∧ behind r = p ∧ r.length ≤ 900 ∧ (r.length : Int) ≤ p.1 ∧ (ex r).length + 2 ≤ p.1 := by
  obtain ⟨w, w1, w2, w3⟩ := way _ p h (Nat.le_refl _)
  obtain ⟨h1, h2, h3, h4, h5⟩ := rle_ok w w1
  refine ⟨rle w, fun x hx => ?_, h2, ?_, by omega, by omega, by rw [h3]; omega⟩
  · have a := h1 x hx
    have b := h5 x hx
    exact ⟨a.1, a.2, by omega, fun _ => by omega⟩
  · rw [behind_walk _ h1, h3]
    exact w2
theorem tri_root {p : Pr} (h : Good p) (e1 : (tri p).1 = 3) (e2 : (tri p).2.2 = 5) : p = (2, 1) := by
  obtain ⟨h1, h2, h3, h4⟩ := h
  have a : p.1 * p.1 - p.2 * p.2 = 3 := e1
  have b : p.1 * p.1 + p.2 * p.2 = 5 := e2
  have c : p.1 * p.1 = 4 := by omega
  have d : p.2 * p.2 = 1 := by omega
  have x1 : p.1 = 2 := root_sq (m := 2) (by omega) (by omega) (by have := Int.mul_pos (show 0 < p.1 by omega) (show 0 < p.1 by omega); grind) (by decide)
  have x2 : p.2 = 1 := root_sq (m := 1) (by omega) (by omega) (by grind) (by decide)
  exact Prod.ext x1 x2
/-- the pairs (m, 1), .. (m, k) -/
def inner (m : Int) : Nat → List Pr
  | 0 => []
  | k + 1 => inner m k ++ (if (m + (k + 1)) % 2 = 1 ∧ Int.gcd m (k + 1) = 1 then [(m, (k : Int) + 1)] else [])
/-- all pairs up to the number i + 1 -/
def pairs : Nat → List Pr
  | 0 => []
  | i + 1 => pairs i ++ inner (i + 2) (i + 1)
theorem inner_mem {m : Int} : ∀ {k : Nat} {p : Pr}, p ∈ inner m k → p.1 = m ∧ 0 < p.2 ∧ p.2 ≤ k ∧ (p.1 + p.2) % 2 = 1 ∧ Cop p.1 p.2
  | 0, _, h => by cases h
  | k + 1, p, h => by
    rcases List.mem_append.mp h with z | z
    · obtain ⟨a, b, c, d⟩ := inner_mem z
      exact ⟨a, b, by omega, d⟩
    · split at z
      · rename_i c
        rw [List.mem_singleton.mp z]
        exact ⟨rfl, by dsimp only; omega, by dsimp only; omega, c.1, cop_iff.mp c.2⟩
      · cases z
theorem inner_nodup {m : Int} : ∀ k : Nat, (inner m k).Nodup
  | 0 => List.nodup_nil
  | k + 1 => by
    refine List.nodup_append.mpr ⟨inner_nodup k, ?_, ?_⟩
    · split <;> simp
    · intro a ha b hb e
      subst e
      split at hb
      · have := (inner_mem ha).2.2.1
        rw [List.mem_singleton.mp hb] at this
        dsimp only at this
        omega
      · cases hb
theorem pairs_mem : ∀ {i : Nat} {p : Pr}, p ∈ pairs i → Good p ∧ p.1 ≤ i + 1
  | 0, _, h => by cases h
  | i + 1, p, h => by
    rcases List.mem_append.mp h with z | z
    · obtain ⟨a, b⟩ := pairs_mem z
      exact ⟨a, by omega⟩
    · obtain ⟨a, b, c, d, e⟩ := inner_mem z
      exact ⟨⟨b, by omega, d, e⟩, by omega⟩
theorem pairs_nodup : ∀ i : Nat, (pairs i).Nodup
  | 0 => List.nodup_nil
  | i + 1 => by
    refine List.nodup_append.mpr ⟨pairs_nodup i, inner_nodup _, ?_⟩
    intro a ha b hb e
    subst e
    have := (pairs_mem ha).2
    have := (inner_mem hb).1
    omega
theorem pairs_len : ∀ i : Nat, (pairs i).length ≤ i * (i + 1)
  | 0 => Nat.le_refl _
  | i + 1 => by
    have inl : ∀ (m : Int) (k : Nat), (inner m k).length ≤ k := by
      intro m k
      induction k with
      | zero => exact Nat.le_refl _
      | succ k ih =>
        rw [inner, List.length_append]
        split <;> simp <;> omega
    have := pairs_len i
    have := inl (i + 2) (i + 1)
    rw [pairs, List.length_append]
    have e : (i + 1) * (i + 1 + 1) = i * (i + 1) + 2 * (i + 1) := by grind
    omega
theorem pairs_three : ∀ i : Nat, 3 ≤ i → ∃ l, pairs i = (2, 1) :: (3, 2) :: (4, 1) :: l
  | 0, h => by omega
  | 1, h => by omega
  | 2, h => by omega
  | 3, _ => ⟨[(4, 3)], by decide⟩
  | i + 4, _ => by
    obtain ⟨l, e⟩ := pairs_three (i + 3) (by omega)
    exact ⟨l ++ inner ((i + 3 : Nat) + 2) (i + 3 + 1), by rw [pairs, e]; rfl⟩
theorem behind_inj {r u : PRow} (hr : Pos r) (hu : Pos u) (ar : Adj r) (au : Adj u) (e : behind r = behind u) : r = u := by
  have h : ∀ (v w : List Int), Steps v → Steps w → walk v = walk w → v = w := by
    intro v
    refine snoc_ind (P := fun v => ∀ w, Steps v → Steps w → walk v = walk w → v = w) ?_ ?_ v
    · intro w _ hw e
      rcases List.eq_nil_or_concat w with z | ⟨w', s, z⟩
      · exact z.symm
      · subst z
        rw [List.concat_eq_append] at hw e
        have h2 := steps_app.mp hw
        rw [walk_snoc] at e
        exact absurd e.symm (st_root (h2.2 s (by simp)) (walk_good h2.1))
    · intro v s ih w hv hw e
      have hv2 := steps_app.mp hv
      rcases List.eq_nil_or_concat w with z | ⟨w', t, z⟩
      · subst z
        rw [walk_snoc] at e
        exact absurd e (st_root (hv2.2 s (by simp)) (walk_good hv2.1))
      · subst z
        rw [List.concat_eq_append] at hw e ⊢
        have hw2 := steps_app.mp hw
        rw [walk_snoc, walk_snoc] at e
        obtain ⟨e1, e2⟩ := st_inj (hv2.2 s (by simp)) (hw2.2 t (by simp)) (walk_good hv2.1) (walk_good hw2.1) e
        rw [e1, ih w' hv2.1 hw2.1 e2]
  rw [behind_walk r hr, behind_walk u hu] at e
  exact ex_inj hr hu ar au (h _ _ (ex_steps hr) (ex_steps hu) e)
end Sq


/-! own rules, small words -/
namespace SqP
open PySem PySem.Spec PyProof.Rows L2 Sq
theorem Same.tup {K : PySem.W.Frag} {H H' : Hp} {a : Addr} {xs : List V} (e : Same H H') (h : SqT K H a xs) : SqT K H' a xs := by
  rcases h with (h | ⟨o, h⟩) | h
  · exact .inl (.inl (e _ _ h))
  · exact .inl (.inr ⟨o, e _ _ h⟩)
  · exact .inr h
theorem same_upd {H : Hp} {p : Addr} {o : HO} (h : H p = none) : Same H (upd H p o) := fun b x e => by
  rw [upd_ne (ne_of_none e h)]
  exact e
/-- a store to what is new leaves all else -/
theorem same_new {H H' : Hp} {p : Addr} {o : HO} (h : H p = none) (s : Same H H') : Same H (upd H' p o) := fun b x e => by
  rw [upd_ne (ne_of_none e h)]
  exact s _ _ e
theorem new_tup {K : PySem.W.Frag} {H : Hp} {xs : List V} {Q : V → Hp → Prop} (h : ∀ H1 p, Same H H1 → SqT K H1 p xs → Q (.ref p) H1) : ∀ p, H p = none → Q (.ref p) (upd H p (.tup xs)) := fun p hp => h _ p (same_upd hp) (SqT.of upd_same)
theorem new_lst {H : Hp} {xs : List V} {Q : V → Hp → Prop} (h : ∀ H1 p, Same H H1 → H p = none → H1 p = some (.lst xs) → Q (.ref p) H1) : ∀ p, H p = none → Q (.ref p) (upd H p (.lst xs)) := fun p hp => h _ p (same_upd hp) hp upd_same
/-- a def of the top as it stands; a def that keeps its promise -/
def Is (K : PySem.W.Frag) (mg : Str → Option Value) (x : Str) (st : Stmt) (ps : List Str) : Prop := ∃ (f : Addr) (fd : FuncData), Fun K x x st f fd ∧ Binds K fd ps [] ∧ mg x = some (.ref f)
def Has (P : Program) (w : World) (K : PySem.W.Frag) (mg : Str → Option Value) (base : Heap) (k : Nat) (x : Str) (ps : List Str) (sp : Sp) : Prop := ∃ (f : Addr) (fd : FuncData), FnOk P w K mg base CX0 k f fd ps sp ∧ PySem.W.keepIn K (.ref f) = true ∧ Binds K fd ps [] ∧ mg x = some (.ref f)
theorem bd_mul {i j : Int} {k l : Nat} (h : Bd k i) (h2 : Bd l j) (e : k + l ≤ 134217728) : CMulX i j := mulx_ok h h2 e
theorem len2 : 2 ≤ sizeLine := by decide
theorem len3 : 3 ≤ sizeLine := by decide
theorem if_t {c : Bool} {A B : Prop} (hc : c = true) (h : A) : if c = true then A else B := by
  rw [if_pos hc]
  exact h
theorem if_f {c : Bool} {A B : Prop} (hc : c = false) (h : B) : if c = true then A else B := by
  rw [hc, if_neg Bool.false_ne_true]
  exact h
theorem if_b {c : Bool} {A B : Prop} (h1 : c = true → A) (h2 : c = false → B) : if c = true then A else B := by
  cases c with
  | true => exact if_t rfl (h1 rfl)
  | false => exact if_f rfl (h2 rfl)
theorem tyx_tup {K : PySem.W.Frag} {H : Hp} {a : Addr} {xs : List V} (h : SqT K H a xs) : TyX K H (.ref a) (.type "tuple") := by
  rcases h with (h | ⟨o, h⟩) | ⟨o, its, n, h1, h2, _⟩
  · exact .base (.tup h)
  · exact .fTuple h
  · exact .kTuple h1 h2
theorem tyx_lst {K : PySem.W.Frag} {H : Hp} {a : Addr} {xs : List V} (h : SqL K H a xs) : TyX K H (.ref a) (.type "list") := by
  rcases h with (h | ⟨o, h⟩) | ⟨o, its, n, h1, h2, _⟩
  · exact .base (.lst h)
  · exact .base (.frz h)
  · exact .kList h1 h2
theorem kb_int_int : kitB "int" "int" = some true := by decide +kernel
theorem kb_int_bool : kitB "int" "bool" = some false := by decide +kernel
theorem kb_tup_tup : kitB "tuple" "tuple" = some true := by decide +kernel
theorem kb_lst_lst : kitB "list" "list" = some true := by decide +kernel
section
variable {X : Cx}
/-- // by any positive number -/
theorem op_fdivP {l : List Env} (hN : X.base.NoSeer) (ht : X.prog.given.tree = none) (hst : X.stack = X.env :: l) (hg : X.env.scope.isGenerator = false) (hco : X.env.scope.isCoroutine = false) (hd : X.A.depth + 100 < recursionLimit) :
    OpR X (binaryOp .FloorDiv) (rI (fun _ j => 0 < j) fun i j => .int (i / j)) := by
  intro pins s σ H x y v u Q I rx ry h
  obtain ⟨i, j, rfl, rfl, hc, q⟩ := h
  obtain ⟨t, rfl⟩ := rx
  obtain ⟨t', rfl⟩ := ry
  have hj : (0 : Int) < j := hc
  refine floordiv_int (by omega) ?_ (.inr (PySem.PylongRoom.of I.nolimit hd (PySem.SeerAt.of (hN.keeps I.bk) ht (by rw [I.ok.frames, hst]) hg hco I.ok.blt I.ok.glob)))
  rw [Int.fdiv_eq_ediv_of_nonneg i (by omega)]
  exact ⟨.int _, H, I.tok _, ⟨_, rfl⟩, q⟩
end
section
variable {X : Cx} {K : PySem.W.Frag}
/-- rules within a comprehension, the written part by its name -/
theorem ix_listK (e : X.K = K) : IxR X (rIxL K) := by
  subst e
  exact ix_list
theorem ix_tupK (e : X.K = K) : IxR X (rIxT K) := by
  subst e
  exact ix_tup
theorem op_eqDK (e : X.K = K) (hu : X.A.units + 64 < cLine) : OpR X (compareOp .Eq) (rEqD K) := by
  subst e
  exact op_eqD hu
end
/-! ### comprehensions that keep every item -/
theorem set_twice {α : Type} (l : List α) (i : Nat) (a b : α) : (l.set i a).set i b = l.set i b := by rw [List.set_set]
section
variable {K : PySem.W.Frag} {xs ys : List V} {j : Nat} {te : TE} {σ : L2.St} {H : Hp} {D : Addr} {Qd : Hp → Prop}
/-- what a turn of such a comprehension asks: the item x at a heap that holds what H holds, behind it the value y -/
def LcTurn (te : TE) (σ : L2.St) (j : Nat) (H : Hp) (x y : V) : Prop := ∀ H1, Same H H1 → ∀ R : V → Hp → Prop, (∀ H2, Same H1 H2 → R y H2) → te ((σ.set j none).set j (some x)) H1 R
theorem lc_turn {i : Nat} {x y : V} {H1 : Hp} (hD : H D = none) (h : LcTurn te σ j H x y) (hy : ys[i]? = some y) (hz : ys.length ≤ 16000000) (s1 : Same H H1) (d1 : H1 D = some (.lst (ys.take i))) :
    gName j x (wipe σ [j]) H1 fun σ2 H2 => wipe σ2 [j] = wipe σ [j] ∧ tYes σ2 H2 fun b H3 => if b = true then te σ2 H3 fun y H4 => ∃ acc, H4 D = some (.lst acc) ∧ acc.length < sizeLine ∧ (Same H (upd H4 D (.lst (acc ++ [y]))) ∧ (upd H4 D (.lst (acc ++ [y]))) D = some (.lst (ys.take (i + 1)))) else (Same H H3 ∧ H3 D = some (.lst (ys.take (i + 1)))) := by
  refine ⟨by show ((σ.set j none).set j (some x)).set j none = σ.set j none; rw [List.set_set, List.set_set], ?_⟩
  show if true = true then te ((σ.set j none).set j (some x)) H1 (fun y H4 => ∃ acc, H4 D = some (.lst acc) ∧ acc.length < sizeLine ∧ (Same H (upd H4 D (.lst (acc ++ [y]))) ∧ (upd H4 D (.lst (acc ++ [y]))) D = some (.lst (ys.take (i + 1))))) else (Same H H1 ∧ H1 D = some (.lst (ys.take (i + 1))))
  rw [if_pos rfl]
  refine h H1 s1 _ fun H2 s2 => ⟨_, s2 _ _ d1, ?_, same_new hD (fun b o e => s2 _ _ (s1 _ _ e)), ?_⟩
  · have := List.length_take_le' i ys
    rw [sizeLine_eq]
    omega
  · rw [upd_same, List.take_add_one, hy]
    rfl
theorem lc_over_tup {a : Addr} (hS : SqT K H a xs) (hD : H D = none) (hl : ys.length = xs.length) (hz : xs.length ≤ 16000000) (turn : ∀ (i : Nat) x y, xs[i]? = some x → ys[i]? = some y → LcTurn te σ j H x y) (done : ∀ H', Same H H' → H' D = some (.lst ys) → Qd H') :
    ∃ W : Nat → Nat → Hp → Prop, (∃ m, W 0 m (upd H D (.lst []))) ∧ ∀ i m H, W i m H →
      ((Itt K a).stop i H ∧ Qd H) ∨ ((Itt K a).go i H ∧ ∃ Nx : Hp → Prop, (∀ H', Nx H' → ∃ m', m' < m ∧ W (i + 1) m' H') ∧ ∀ x H', (Itt K a).yld i H x H' → gName j x (wipe σ [j]) H' fun σ2 H2 => wipe σ2 [j] = wipe σ [j] ∧ tYes σ2 H2 fun b H3 =>
        if b = true then te σ2 H3 fun y H4 => ∃ acc, H4 D = some (.lst acc) ∧ acc.length < sizeLine ∧ Nx (upd H4 D (.lst (acc ++ [y]))) else Nx H3) := by
  refine lc_tup (xs := xs) (fun i H' => Same H H' ∧ H' D = some (.lst (ys.take i))) ⟨same_upd hD, upd_same⟩ (fun i H' _ h => Same.tup h.1 hS) (fun i x H' hx h => ?_) (fun H' h => done H' h.1 (by rw [← hl] at h; rw [h.2, List.take_length]))
  have hi : i < ys.length := by rw [hl]; exact (List.getElem?_eq_some_iff.mp hx).1
  exact lc_turn hD (turn i x _ hx (List.getElem?_eq_getElem hi)) (List.getElem?_eq_getElem hi) (by omega) h.1 h.2
theorem lc_over_lst {a : Addr} (hS : SqL K H a xs) (hD : H D = none) (hl : ys.length = xs.length) (hz : xs.length ≤ 16000000) (turn : ∀ (i : Nat) x y, xs[i]? = some x → ys[i]? = some y → LcTurn te σ j H x y) (done : ∀ H', Same H H' → H' D = some (.lst ys) → Qd H') :
    ∃ W : Nat → Nat → Hp → Prop, (∃ m, W 0 m (upd H D (.lst []))) ∧ ∀ i m H, W i m H →
      ((Itl K a).stop i H ∧ Qd H) ∨ ((Itl K a).go i H ∧ ∃ Nx : Hp → Prop, (∀ H', Nx H' → ∃ m', m' < m ∧ W (i + 1) m' H') ∧ ∀ x H', (Itl K a).yld i H x H' → gName j x (wipe σ [j]) H' fun σ2 H2 => wipe σ2 [j] = wipe σ [j] ∧ tYes σ2 H2 fun b H3 =>
        if b = true then te σ2 H3 fun y H4 => ∃ acc, H4 D = some (.lst acc) ∧ acc.length < sizeLine ∧ Nx (upd H4 D (.lst (acc ++ [y]))) else Nx H3) := by
  refine lc_list (xs := xs) (fun i H' => Same H H' ∧ H' D = some (.lst (ys.take i))) ⟨same_upd hD, upd_same⟩ (fun i H' _ h => Same.seq h.1 hS) (fun i x H' hx h => ?_) (fun H' h => done H' h.1 (by rw [← hl] at h; rw [h.2, List.take_length]))
  have hi : i < ys.length := by rw [hl]; exact (List.getElem?_eq_some_iff.mp hx).1
  exact lc_turn hD (turn i x _ hx (List.getElem?_eq_getElem hi)) (List.getElem?_eq_getElem hi) (by omega) h.1 h.2
theorem lc_over_range {lo : Int} {n : Nat} (hD : H D = none) (hl : ys.length = n) (hz : n ≤ 16000000) (turn : ∀ (i : Nat) y, i < n → ys[i]? = some y → LcTurn te σ j H (.int (lo + i)) y) (done : ∀ H', Same H H' → H' D = some (.lst ys) → Qd H') :
    ∃ W : Nat → Nat → Hp → Prop, (∃ m, W 0 m (upd H D (.lst []))) ∧ ∀ i m H, W i m H →
      ((Itr lo n).stop i H ∧ Qd H) ∨ ((Itr lo n).go i H ∧ ∃ Nx : Hp → Prop, (∀ H', Nx H' → ∃ m', m' < m ∧ W (i + 1) m' H') ∧ ∀ x H', (Itr lo n).yld i H x H' → gName j x (wipe σ [j]) H' fun σ2 H2 => wipe σ2 [j] = wipe σ [j] ∧ tYes σ2 H2 fun b H3 =>
        if b = true then te σ2 H3 fun y H4 => ∃ acc, H4 D = some (.lst acc) ∧ acc.length < sizeLine ∧ Nx (upd H4 D (.lst (acc ++ [y]))) else Nx H3) := by
  refine lc_range (n := n) (fun i H' => Same H H' ∧ H' D = some (.lst (ys.take i))) ⟨same_upd hD, upd_same⟩ (fun i H' hx h => ?_) (fun H' h => done H' h.1 (by rw [← hl] at h; rw [h.2, List.take_length]))
  have hi : i < ys.length := by omega
  exact lc_turn hD (turn i _ hx (List.getElem?_eq_getElem hi)) (List.getElem?_eq_getElem hi) (by omega) h.1 h.2
end
/-- a list that changes is no tuple: tuples stand -/
theorem tup_keep {K : PySem.W.Frag} {H : Hp} {fo t : Addr} {xs ys zs : List V} (hfo : H fo = some (.lst xs)) (h : SqT K H t zs) : SqT K (upd H fo (.lst ys)) t zs := by
  rcases h with (h | ⟨o, h⟩) | h
  · exact .inl (.inl (by rw [upd_ne (fun e => by rw [e, hfo] at h; cases h)]; exact h))
  · exact .inl (.inr ⟨o, by rw [upd_ne (fun e => by rw [e, hfo] at h; cases h)]; exact h⟩)
  · exact .inr h
/-- for i, x in enumerate(a list that the body leaves as it is) -/
theorem for_enum {K : PySem.W.Frag} {a : Addr} {xs : List V} {g : TG} {tb : TS} {D : Ends} {σ : L2.St} {H : Hp} (Pv : Nat → L2.St → Hp → Prop) (h0 : Pv 0 σ H) (hl : ∀ i σ H, Pv i σ H → SqL K H a xs)
    (hs : ∀ (i : Nat) (x : V) (T : Addr) (σ : L2.St) (H : Hp), xs[i]? = some x → Pv i σ H → H T = none → g (.ref T) σ (upd H T (.tup [.int (i : Nat), x])) fun σ2 H2 => tb { D with nx := Pv (i + 1), ct := Pv (i + 1), bk := D.nx } σ2 H2) (hd : ∀ σ H, Pv xs.length σ H → D.nx σ H) :
    ∃ W : Nat → Nat → L2.St → Hp → Prop, (∃ m, W 0 m σ H) ∧ ∀ i m σ H, W i m σ H →
      ((Ite K a).stop i H ∧ D.nx σ H) ∨ ((Ite K a).go i H ∧ ∃ N : L2.St → Hp → Prop, (∀ σ' H', N σ' H' → ∃ m', m' < m ∧ W (i + 1) m' σ' H') ∧ ∀ v H', (Ite K a).yld i H v H' → g v σ H' fun σ2 H2 => tb { D with nx := N, ct := N, bk := D.nx } σ2 H2) := by
  refine ⟨fun i m σ H => m + i = xs.length ∧ Pv i σ H, ⟨xs.length, rfl, h0⟩, fun i m σ H ⟨e, p⟩ => ?_⟩
  have q := hl i σ H p
  by_cases c : i < xs.length
  · refine .inr ⟨⟨xs, xs[i], q, List.getElem?_eq_getElem c⟩, Pv (i + 1), fun σ' H' p' => ⟨m - 1, by omega, by omega, p'⟩, fun v H' y => ?_⟩
    obtain ⟨T, x, e1, n, e2, y⟩ := y
    subst e1
    subst e2
    exact hs i x T σ H (y xs q) p n
  · have e' : i = xs.length := by omega
    subst e'
    exact .inl ⟨⟨xs, q, Nat.le_refl _⟩, hd σ H p⟩
/-- a if t else b, where nothing is laid -/
theorem tif_mk {tt : TT} {ta tb : TE} {σ : L2.St} {H : Hp} {Q : VK} {c : Bool} {v : V} (h1 : ∀ R : Bool → Hp → Prop, R c H → tt σ H R) (h2 : c = true → ∀ R : VK, R v H → ta σ H R) (h3 : c = false → ∀ R : VK, R v H → tb σ H R) (q : Q v H) : tIf tt ta tb σ H Q :=
  h1 _ (if_b (fun e => h2 e _ q) (fun e => h3 e _ q))
/-- a part of a list of ints, sixteen from b on -/
theorem cut_ints (ns : List Int) (lo hi : Option Int) : ∃ cs : List Int, cutV (ns.map V.int) lo hi = cs.map V.int ∧ (∀ c ∈ cs, c ∈ ns) := by
  refine ⟨(ns.drop (HT.sIx ns.length 0 lo)).take (HT.sIx ns.length ns.length hi - HT.sIx ns.length 0 lo), ?_, fun c hc => List.mem_of_mem_drop (List.mem_of_mem_take hc)⟩
  unfold cutV
  rw [List.length_map, List.map_take, List.map_drop]
theorem cut_len (xs : List V) (a b : Nat) (h : a ≤ b) : (cutV xs (some (a : Int)) (some (b : Int))).length ≤ b - a := by
  unfold cutV
  rw [HT.sIx_nat, HT.sIx_nat, List.length_take]
  omega
/-- a if t else b, where something is laid -/
theorem tif_hp {tt : TT} {ta tb : TE} {σ : L2.St} {H : Hp} {Q : VK} {c : Bool} (R' : V → Hp → Prop) (h1 : ∀ R : Bool → Hp → Prop, R c H → tt σ H R) (h2 : c = true → ∀ R : VK, (∀ v H1, R' v H1 → R v H1) → ta σ H R) (h3 : c = false → ∀ R : VK, (∀ v H1, R' v H1 → R v H1) → tb σ H R) (q : ∀ v H1, R' v H1 → Q v H1) : tIf tt ta tb σ H Q :=
  h1 _ (if_b (fun e => h2 e _ q) (fun e => h3 e _ q))
/-- cuts -/
theorem cut_to (xs : List V) (n : Nat) : cutV xs none (some (n : Int)) = xs.take n := by
  unfold cutV
  rw [HT.sIx_nat, HT.sIx_none, List.drop_zero, Nat.sub_zero]
  rcases Nat.le_total n xs.length with h | h
  · rw [Nat.min_eq_left h]
  · rw [Nat.min_eq_right h, List.take_of_length_le (Nat.le_refl _), List.take_of_length_le h]
theorem cut_last (xs : List V) : cutV xs none (some (-1)) = xs.dropLast := by
  unfold cutV
  rw [HT.sIx_none, List.drop_zero, Nat.sub_zero, List.dropLast_eq_take]
  congr 1
  show (if (-1 : Int) < 0 then ((-1 : Int) + (xs.length : Int)).toNat else min (-1 : Int).toNat xs.length) = xs.length - 1
  rw [if_pos (by decide)]
  omega
theorem rgc_up {l c : Int} (hl : 0 ≤ l) (hl2 : l ≤ 1000000) (hc : 0 < c) (hc2 : c ≤ 1000000) : ∃ n : Nat, RgC 0 l c n ∧ ∀ i : Nat, i < n → (i : Int) * c < l := by
  have hsz : Builtin.Range.rangeSize 0 l c = if 0 < l then (l - 0 - 1) / c + 1 else 0 := by
    unfold Builtin.Range.rangeSize
    rw [if_pos (show c > 0 from hc)]
  have hq : 0 < l → 0 ≤ (l - 0 - 1) / c ∧ (l - 0 - 1) / c ≤ l - 0 - 1 := fun h => ⟨Int.ediv_nonneg (by omega) (by omega), Int.ediv_le_self _ (by omega)⟩
  have e := Int.mul_ediv_add_emod (l - 0 - 1) c
  have e2 := Int.emod_nonneg (l - 0 - 1) (show c ≠ 0 by omega)
  generalize (l - 0 - 1) / c = q at *
  refine ⟨(if 0 < l then q + 1 else 0).toNat, ⟨by omega, by omega, ?_, ?_⟩, fun i hi => ?_⟩
  · unfold Builtin.Range.small
    rw [hsz]
    simp only [Builtin.Range.rangeFitsLong, Bool.and_eq_true, Bool.or_eq_true, decide_eq_true_eq, beq_iff_eq, show c > 0 from hc, if_true]
    have e3 : c * q ≤ l := by
      rcases Int.lt_or_le 0 l with h | h
      · omega
      · have : c * q + (l - 0 - 1) % c = l - 0 - 1 := e
        omega
    have e4 : q * c = c * q := Int.mul_comm _ _
    split
    · have := hq (by assumption)
      refine ⟨?_, ?_⟩ <;> first | omega | (refine ⟨?_, ?_⟩ <;> first | omega | grind)
    · refine ⟨?_, ?_⟩ <;> first | omega | (refine ⟨?_, ?_⟩ <;> first | omega | grind)
  · rw [hsz]
    split
    · have := hq (by assumption)
      omega
    · rfl
  · have hi2 : 0 < l ∧ (i : Int) ≤ q := by
      split at hi <;> omega
    have := Int.mul_le_mul_of_nonneg_left hi2.2 (show 0 ≤ c by omega)
    have e3 : c * (i : Int) = i * c := Int.mul_comm _ _
    omega
end SqP

namespace SqP
open PySem PySem.Spec PyProof.Rows L2 Sq
/-! ### xs.count(y) of nested data; lists of ints as data -/
theorem room65 {k : Nat} {A : Around} (r : Room k A) : A.units + 65 < cLine := by
  have := r.un
  omega
def rCountD (K : PySem.W.Frag) : V → List V → Hp → VK → Prop := fun x vs H Q => ∃ (l : Addr) (y : V) (e : PyData) (es : List PyData), x = V.ref l ∧ vs = [y] ∧ Dp K H (V.ref l) (.list es) ∧ Dp K H y e ∧ SeqAt.shaped (.list es) = true ∧ SeqAt.shaped e = true ∧ Q (.int ((es.countP fun z => PyData.eqv z e : Nat) : Int)) H
theorem mt_countD {X : Cx} (hu : X.A.units + 65 < cLine) : MtR X "list.count" (rCountD X.K) := by
  intro pins st σ H x vs u ws Q I rx rvs h
  obtain ⟨l, y, e, es, rfl, rfl, hL, hY, sL, sE, q⟩ := h
  cases rx
  obtain ⟨uy, rfl, ry⟩ := Vals.one rvs
  obtain ⟨ys, readY⟩ := Dp.reads I e y uy hY ry
  have lay : PyData.canLayAll0 es = true := SeqAt.canLay_of_shaped sL
  cases hL with
  | lst hS hA =>
    obtain ⟨items, rv, ⟨⟨cls, dd, data, sls⟩, n, ho, hc, hn, hd⟩, hlen⟩ := I.list hS
    dsimp only at hc hd
    subst hc hd
    obtain ⟨zs, readL⟩ := Dp.readsAll I es _ items hA rv
    have hmap : items.map (SeqAt.readOf st.heap) = es := SeqAt.readsAll_map es items zs lay readL
    refine call_meets PySem.F.slot_list_count ⟨_, ho, rfl⟩ PySem.F.entry_list_count (PySem.F.args_list_count_2 _ _)
      (SeqAt.list_countAt l items.toArray n dd sls uy fun v => PyData.eqv (SeqAt.readOf st.heap v) e) ⟨ho, SeqAt.items_eqAt (vs := items.toArray) (show ReadsAll st.heap items.toArray.toList es zs from readL) readY lay (SeqAt.canLay_of_shaped sE) (room_in_shaped sE hu), ?_⟩
    have ec : items.toArray.toList.countP (fun v => PyData.eqv (SeqAt.readOf st.heap v) e) = es.countP fun z => PyData.eqv z e := by
      conv => rhs; rw [← hmap, List.countP_map]
      rfl
    refine ⟨.int ((es.countP fun z => PyData.eqv z e : Nat) : Int), H, I.tok (st.toks + 1), ⟨st.toks, ?_⟩, q⟩
    show Value.int ((items.toArray.toList.countP (fun v => PyData.eqv (SeqAt.readOf st.heap v) e) : Nat) : Int) st.toks = Value.int _ st.toks
    rw [ec]
theorem ints_lay : ∀ ns : List Int, PyData.canLayAll0 (ns.map PyData.int) = true
  | [] => by simp [PyData.canLayAll0]
  | n :: ns => by simp [PyData.canLayAll0, PyData.canLay0, ints_lay ns]
theorem ints_depth : ∀ ns : List Int, PyData.depthAll (ns.map PyData.int) ≤ 1
  | [] => by simp [PyData.depthAll]
  | n :: ns => by
    have h1 := ints_depth ns
    simp only [List.map_cons, PyData.depthAll, PyData.depth]
    omega
theorem ints_shaped (ns : List Int) : SeqAt.shaped (.list (ns.map PyData.int)) = true := by
  have h1 := ints_depth ns
  have h2 : PyData.depth (.list (ns.map PyData.int)) ≤ 64 := by
    simp only [PyData.depth]
    omega
  show (PyData.canLay0 (.list (ns.map PyData.int)) && decide (PyData.depth (.list (ns.map PyData.int)) ≤ 64)) = true
  rw [Bool.and_eq_true]
  exact ⟨by simp only [PyData.canLay0]; exact ints_lay ns, decide_eq_true h2⟩
theorem ints_dpa {K : PySem.W.Frag} {H : Hp} : ∀ ns : List Int, DpAll K H (ns.map V.int) (ns.map PyData.int)
  | [] => .nil
  | n :: ns => .cons (.int n) (ints_dpa ns)
theorem ints_dp {K : PySem.W.Frag} {H : Hp} {a : Addr} {ns : List Int} (h : SqL K H a (ns.map V.int)) : Dp K H (.ref a) (.list (ns.map PyData.int)) := .lst h (ints_dpa ns)
end SqP

local macro_rules | `(tactic| walk_at "bd") => `(tactic| first | assumption | exact Sq.bd_small (k := 64) (by decide) | exact Sq.Bd.mul (by walk_at "bd") (by walk_at "bd") | exact Sq.Bd.sub (Sq.Bd.mono (l := 9000000) (by walk_at "bd") (by decide)) (Sq.Bd.mono (by walk_at "bd") (by decide)) | exact Sq.Bd.add (Sq.Bd.mono (l := 9000000) (by walk_at "bd") (by decide)) (Sq.Bd.mono (by walk_at "bd") (by decide)))
local macro_rules | `(tactic| walk_at "rd") => `(tactic| repeat (first | refine ⟨_, rfl, ?_⟩ | refine ⟨_, _, rfl, rfl, ?_⟩ | refine ⟨Or.inl ⟨by decide, by decide⟩, ?_⟩ | refine ⟨SqP.bd_mul (by walk_at "bd") (by walk_at "bd") (by decide), ?_⟩))

namespace SqP
open PySem
def topS (i : Nat) : Stmt := PySem.Challenge.pw_squaretree_k02_tried.main.body.getD i (.Pass ⟨0, 0, 0, 0⟩)
end SqP

namespace SqP
open PySem PySem.Spec PyProof.Rows L2 Sq
/-- the names that stay the built-in ones -/
structure Bt (mg : Str → Option Value) : Prop where
  isi : mg "isinstance" = none
  int : mg "int" = none
  bool : mg "bool" = none
  tuple : mg "tuple" = none
  list : mg "list" = none
  len : mg "len" = none
  all : mg "all" = none
  any : mg "any" = none
  range : mg "range" = none
  enum : mg "enumerate" = none
abbrev s_is_whole : Stmt := topS 6
theorem sc_is_whole : FnScope ["thing"] ["thing"] (defScope s_is_whole) := ⟨rfl, rfl, rfl, by decide +kernel, rfl, by decide +kernel, by decide +kernel⟩
abbrev s_are_wholes : Stmt := topS 7
theorem sc_are_wholes : FnScope ["thing", "many", "one"] ["thing", "many"] (defScope s_are_wholes) := ⟨rfl, rfl, rfl, by decide +kernel, rfl, by decide +kernel, by decide +kernel⟩
abbrev s_common : Stmt := topS 8
theorem sc_common : FnScope ["one", "other"] ["one", "other"] (defScope s_common) := ⟨rfl, rfl, rfl, by decide +kernel, rfl, by decide +kernel, by decide +kernel⟩
abbrev s_is_triple : Stmt := topS 9
theorem sc_is_triple : FnScope ["thing"] ["thing"] (defScope s_is_triple) := ⟨rfl, rfl, rfl, by decide +kernel, rfl, by decide +kernel, by decide +kernel⟩
abbrev s_is_pair : Stmt := topS 10
theorem sc_is_pair : FnScope ["thing"] ["thing"] (defScope s_is_pair) := ⟨rfl, rfl, rfl, by decide +kernel, rfl, by decide +kernel, by decide +kernel⟩
abbrev s_check_triple : Stmt := topS 11
theorem sc_check_triple : FnScope ["triple"] ["triple"] (defScope s_check_triple) := ⟨rfl, rfl, rfl, by decide +kernel, rfl, by decide +kernel, by decide +kernel⟩
abbrev s_root_of : Stmt := topS 12
theorem sc_root_of : FnScope ["number", "now"] ["number"] (defScope s_root_of) := ⟨rfl, rfl, rfl, by decide +kernel, rfl, by decide +kernel, by decide +kernel⟩
abbrev s_pair_by : Stmt := topS 13
theorem sc_pair_by : FnScope ["triple"] ["triple"] (defScope s_pair_by) := ⟨rfl, rfl, rfl, by decide +kernel, rfl, by decide +kernel, by decide +kernel⟩
abbrev s_pair_of : Stmt := topS 14
theorem sc_pair_of : FnScope ["triple"] ["triple"] (defScope s_pair_of) := ⟨rfl, rfl, rfl, by decide +kernel, rfl, by decide +kernel, by decide +kernel⟩
abbrev s_triple_by : Stmt := topS 15
theorem sc_triple_by : FnScope ["pair", "m", "n"] ["pair"] (defScope s_triple_by) := ⟨rfl, rfl, rfl, by decide +kernel, rfl, by decide +kernel, by decide +kernel⟩
abbrev s_triple_of : Stmt := topS 16
theorem sc_triple_of : FnScope ["pair"] ["pair"] (defScope s_triple_of) := ⟨rfl, rfl, rfl, by decide +kernel, rfl, by decide +kernel, by decide +kernel⟩
section
variable {P : Program} {w : World} {K : PySem.W.Frag} {mg : Str → Option Value} {base : Heap}
/-! ### is_whole -/
def sp_is_whole (K : PySem.W.Frag) : Sp := fun vs H Q _ => ∃ (v : V) (T : String) (bi bb : Bool), vs = [v] ∧ TyX K H v (.type T) ∧ kitB T "int" = some bi ∧ kitB T "bool" = some bb ∧ Q (.bl (bi && !bb)) H
theorem ok_is_whole (B : Bt mg) (D : Is K mg "is_whole" s_is_whole ["thing"]) : Has P w K mg base 1 "is_whole" ["thing"] (sp_is_whole K) := by
  obtain ⟨f, fd, F, b, g⟩ := D
  refine ⟨f, fd, F.ok sc_is_whole (fun vs H Q E h => ?_) (fun cdv A outer s H vs Q E hr h => ?_), F.kp, b, g⟩
  · obtain ⟨v, T, bi, bb, rfl, _⟩ := h
    rfl
  · obtain ⟨v, T, bi, bb, rfl, ty, k1, k2, q⟩ := h
    refine ⟨_, (pss_one (ps_ret (pe_and (pe_callB call_isi (by rfl) B.isi (by decide +kernel) (pa_cons (pv 0) (pa_cons (pe_bltn (v := .ty "int") (by rfl) B.int (by decide +kernel) rfl) pa_nil))) (pe_one (pe_not (pe_callB call_isi (by rfl) B.isi (by decide +kernel) (pa_cons (pv 0) (pa_cons (pe_bltn (v := .ty "bool") (by rfl) B.bool (by decide +kernel) rfl) pa_nil)))))))), ?_⟩
    refine ⟨_, rfl, v, .ty "int", _, _, bi, rfl, .ty _, ty, kit_ty k1, bi, rfl, ?_⟩
    cases bi with
    | false => exact iteF q
    | true => exact iteT ⟨_, rfl, v, .ty "bool", _, _, bb, rfl, .ty _, ty, kit_ty k2, bb, rfl, q⟩
theorem whole_int {i : Int} {H : Hp} {Q : VK} {E : XK} (q : Q (.bl true) H) : sp_is_whole K [.int i] H Q E := ⟨.int i, "int", true, false, rfl, .base (.int i), kb_int_int, kb_int_bool, q⟩
/-! ### are_wholes, of tuples of ints -/
def sp_are_wholes (K : PySem.W.Frag) : Sp := fun vs H Q _ => ∃ (a : Addr) (ns : List Int) (n : Int), vs = [.ref a, .int n] ∧ SqT K H a (ns.map V.int) ∧ ns.length ≤ 1000 ∧ ∀ H', Same H H' → Q (.bl (decide ((ns.length : Int) = n) && ns.all fun z => decide (0 < z))) H'
theorem ok_are_wholes (B : Bt mg) (D : Is K mg "are_wholes" s_are_wholes ["thing", "many"]) (H_is_whole : Has P w K mg base 1 "is_whole" ["thing"] (sp_is_whole K)) : Has P w K mg base 2 "are_wholes" ["thing", "many"] (sp_are_wholes K) := by
  obtain ⟨f, fd, F, b, g⟩ := D
  obtain ⟨f_is_whole, fd_is_whole, G_is_whole, k_is_whole, b_is_whole, g_is_whole⟩ := H_is_whole
  refine ⟨f, fd, F.ok sc_are_wholes (fun vs H Q E h => ?_) (fun cdv A outer s H vs Q E hr h => ?_), F.kp, b, g⟩
  · obtain ⟨a, ns, n, rfl, _⟩ := h
    rfl
  · obtain ⟨a, ns, n, rfl, hS, hl, q⟩ := h
    refine ⟨_, (pss_cons (ps_if (PW.pt (pw_or (pt_not (pt_val (pe_callB call_isi (by rfl) B.isi (by decide +kernel) (pa_cons (pv 0) (pa_cons (pe_bltn (v := .ty "tuple") (by rfl) B.tuple (by decide +kernel) rfl) pa_nil))))) (pw_or1 (pt_cmpR op_ne (pe_callB call_len_seq (by rfl) B.len PySem.boot_len (pa_cons (pv 0) pa_nil)) (pv 1) (nomark _))))) (pss_one (ps_ret pe_bl)) pss_nil) (pss_one (ps_ret (pe_callB (cr_all rfl) (by rfl) B.all (by decide +kernel) (pa_cons (pe_lc (own := [("one", 2)]) (g := gName 2) (tt := tYes) rfl sc_are_wholes.nd (pi_tup (pv 0)) (blkOk_by (N := ["thing", "many", "one"]) (sc := defScope s_are_wholes) (by decide +kernel)) (fun _ _ _ _ _ => pg_name (i := 2) sc_are_wholes.nd rfl (Or.inl rfl)) (fun _ _ _ _ _ => pts_nil) (fun _ _ _ _ _ => (pe_and (pe_call G_is_whole (hr.mono (by decide)) (by rfl) g_is_whole k_is_whole b_is_whole .nil pass0 (pa_cons (pv 2) pa_nil)) (pe_one (pe_cmpR op_gt (pv 2) pe_int (nomark _)))))) pa_nil))))), ?_⟩
    refine ⟨_, rfl, _, _, _, _, true, rfl, .ty _, tyx_tup hS, kit_ty kb_tup_tup, true, rfl, ?_⟩
    refine iteF ⟨_, rfl, a, _, rfl, .inr hS, _, rfl, rfl, _, rfl, ?_⟩
    rw [List.length_map]
    have e : decide (V.int (ns.length : Int) = V.int n) = decide ((ns.length : Int) = n) := by
      by_cases c : (ns.length : Int) = n
      · rw [decide_eq_true c, decide_eq_true (by rw [c])]
      · rw [decide_eq_false c, decide_eq_false (fun z => c (V.int.inj z))]
    rw [e]
    by_cases c : (ns.length : Int) = n
    · rw [decide_eq_true c] at q ⊢
      refine iteF ?_
      refine ⟨_, rfl, a, rfl, ⟨_, hS⟩, fun D nD => lc_over_tup (xs := ns.map V.int) (ys := (ns.map fun z => decide (0 < z)).map V.bl) (j := 2) hS nD (by simp) (by rw [List.length_map]; omega) (fun i x y hx hy => ?_) (fun H' s1 d1 => ?_)⟩
      · rw [List.getElem?_map] at hx hy
        rw [List.getElem?_map] at hy
        cases hz : ns[i]? with
        | none =>
          rw [hz] at hx
          cases hx
        | some z =>
          rw [hz] at hx hy
          cases hx
          cases hy
          intro H1 s1 R hR
          refine ⟨_, rfl, .int z, "int", true, false, rfl, .base (.int z), kb_int_int, kb_int_bool, true, rfl, iteT ⟨_, rfl, _, _, rfl, rfl, hR _ (Same.refl _)⟩⟩
      · refine ⟨D, ns.map fun z => decide (0 < z), rfl, SqL.of d1, ?_⟩
        have e2 : (ns.map fun z => decide (0 < z)).all id = ns.all fun z => decide (0 < z) := by
          rw [List.all_map]
          rfl
        rw [e2]
        exact q H' s1
    · rw [decide_eq_false c] at q ⊢
      exact iteT (q H (Same.refl H))
/-! ### common -/
def sp_common : Sp := fun vs H Q _ => ∃ a b : Int, vs = [.int a, .int b] ∧ 0 ≤ a ∧ 0 ≤ b ∧ Q (.int (Int.gcd a b)) H
theorem ok_common (D : Is K mg "common" s_common ["one", "other"]) : Has P w K mg base 1 "common" ["one", "other"] sp_common := by
  obtain ⟨f, fd, F, b, g⟩ := D
  refine ⟨f, fd, F.ok sc_common (fun vs H Q E h => ?_) (fun cdv A outer s H vs Q E hr h => ?_), F.kp, b, g⟩
  · obtain ⟨a, b, rfl, _⟩ := h
    rfl
  · obtain ⟨a, b, rfl, ha, hb, q⟩ := h
    refine ⟨_, (pss_cons (ps_while PassesOwn.never (pt_cmpR op_gt (pv 1) pe_int (nomark _)) (pss_one (ps_par (i := 0) (j := 1) rfl sc_common.nd rfl rfl (by decide) rfl rfl (pa_cons (pv 1) (pa_cons (pe_op op_mod (pv 0) (pv 1)) pa_nil)) (by rfl)))) (pss_one (ps_ret (pv 0)))), ?_⟩
    refine ⟨fun m σ H' => ∃ x y : Int, σ = [some (.int x), some (.int y)] ∧ m = y.toNat ∧ 0 ≤ x ∧ 0 ≤ y ∧ Int.gcd x y = Int.gcd a b ∧ H' = H, ⟨_, a, b, rfl, rfl, ha, hb, rfl, rfl⟩, ?_⟩
    rintro m σ H' ⟨x, y, rfl, rfl, hx, hy, hg, rfl⟩
    refine ⟨_, rfl, _, _, rfl, rfl, _, rfl, if_b (fun c => ?_) (fun c => ?_)⟩
    · have c := of_decide_eq_true c
      refine ⟨fun σ' H2 => ∃ m', m' < y.toNat ∧ ∃ x1 y1 : Int, σ' = [some (.int x1), some (.int y1)] ∧ m' = y1.toNat ∧ 0 ≤ x1 ∧ 0 ≤ y1 ∧ Int.gcd x1 y1 = Int.gcd a b ∧ H2 = H', fun _ _ h => h, ?_⟩
      refine ⟨_, rfl, _, rfl, _, rfl, _, _, rfl, rfl, c, _, _, rfl, ?_⟩
      have e1 := Int.emod_nonneg x (show y ≠ 0 by omega)
      have e2 := Int.emod_lt_of_pos x c
      refine ⟨_, ?_, y, x % y, rfl, rfl, hy, e1, ?_, rfl⟩
      · omega
      · rw [← hg]
        have := Int.mul_ediv_add_emod x y
        rw [Int.gcd_comm x y]
        conv => rhs; rw [← this]
        rw [Int.add_comm, Int.gcd_add_mul_left_right]
    · have c := of_decide_eq_false c
      have e : y = 0 := by omega
      subst e
      refine ⟨_, rfl, ?_⟩
      rw [← hg, Int.gcd_zero_right] at q
      have e2 : ((x.natAbs : Nat) : Int) = x := Int.natAbs_of_nonneg hx
      rw [e2] at q
      exact q
/-! ### is_triple, is_pair: of tuples of ints -/
def isTri (x y z : Int) : Bool := (decide (0 < x) && decide (0 < y) && decide (0 < z)) && !decide (x % 2 = 0) && !decide (y % 2 = 1) && decide (x * x + y * y = z * z) && decide (Int.gcd x y = 1)
def isPr (m n : Int) : Bool := (decide (0 < m) && decide (0 < n)) && !decide (m ≤ n) && !decide ((m + n) % 2 = 0) && decide (Int.gcd m n = 1)
theorem dec_vint (a b : Int) : decide (V.int a = V.int b) = decide (a = b) := by
  by_cases c : a = b
  · rw [decide_eq_true c, decide_eq_true (by rw [c])]
  · rw [decide_eq_false c, decide_eq_false (fun z => c (V.int.inj z))]
def sp_is_triple (K : PySem.W.Frag) : Sp := fun vs H Q _ => ∃ (a : Addr) (x y z : Int), vs = [.ref a] ∧ SqT K H a [.int x, .int y, .int z] ∧ Bd 3000000 x ∧ Bd 3000000 y ∧ Bd 3000000 z ∧ ∀ H', Same H H' → Q (.bl (isTri x y z)) H'
theorem ok_is_triple (D : Is K mg "is_triple" s_is_triple ["thing"]) (H_are_wholes : Has P w K mg base 2 "are_wholes" ["thing", "many"] (sp_are_wholes K)) (H_common : Has P w K mg base 1 "common" ["one", "other"] sp_common) : Has P w K mg base 3 "is_triple" ["thing"] (sp_is_triple K) := by
  obtain ⟨f, fd, F, b, g⟩ := D
  obtain ⟨f_are_wholes, fd_are_wholes, G_are_wholes, k_are_wholes, b_are_wholes, g_are_wholes⟩ := H_are_wholes
  obtain ⟨f_common, fd_common, G_common, k_common, b_common, g_common⟩ := H_common
  refine ⟨f, fd, F.ok sc_is_triple (fun vs H Q E h => ?_) (fun cdv A outer s H vs Q E hr h => ?_), F.kp, b, g⟩
  · obtain ⟨a, x, y, z, rfl, _⟩ := h
    rfl
  · obtain ⟨a, x, y, z, rfl, hS, hx, hy, hz, q⟩ := h
    have hr1 := hr.mono (show 1 ≤ 2 by decide)
    have ix : ∀ (i : Nat), PlainIx (.Constant (.int i) 0 ⟨0, 0, 0, 0⟩) := fun _ _ _ => rfl
    refine ⟨_, (pss_cons (ps_if (PW.pt (pw_or (pt_not (pt_val (pe_call G_are_wholes (hr.mono (by decide)) (by rfl) g_are_wholes k_are_wholes b_are_wholes .nil pass0 (pa_cons (pv 0) (pa_cons pe_int pa_nil))))) (pw_or (pt_cmpR op_eq (pe_op op_mod (pe_ix ix_tup (pv 0) pe_int (fun _ _ => rfl)) pe_int) pe_int (nomark _)) (pw_or1 (pt_cmpR op_eq (pe_op op_mod (pe_ix ix_tup (pv 0) pe_int (fun _ _ => rfl)) pe_int) pe_int (nomark _)))))) (pss_one (ps_ret pe_bl)) pss_nil) (pss_one (ps_ret (pe_and (pe_cmpR op_eq (pe_op op_add (pe_op op_mulX (pe_ix ix_tup (pv 0) pe_int (fun _ _ => rfl)) (pe_ix ix_tup (pv 0) pe_int (fun _ _ => rfl))) (pe_op op_mulX (pe_ix ix_tup (pv 0) pe_int (fun _ _ => rfl)) (pe_ix ix_tup (pv 0) pe_int (fun _ _ => rfl)))) (pe_op op_mulX (pe_ix ix_tup (pv 0) pe_int (fun _ _ => rfl)) (pe_ix ix_tup (pv 0) pe_int (fun _ _ => rfl))) (nomark _)) (pe_one (pe_cmpR op_eq (pe_call G_common (hr.mono (by decide)) (by rfl) g_common k_common b_common .nil pass0 (pa_cons (pe_ix ix_tup (pv 0) pe_int (fun _ _ => rfl)) (pa_cons (pe_ix ix_tup (pv 0) pe_int (fun _ _ => rfl)) pa_nil))) pe_int (nomark _))))))), ?_⟩
    refine ⟨_, rfl, a, [x, y, z], 3, rfl, hS, (by show 3 ≤ 1000; decide), fun H1 s1 => ⟨_, rfl, ?_⟩⟩
    have hS1 := Same.tup s1 hS
    have e0 : (decide ((([x, y, z] : List Int).length : Int) = 3) && ([x, y, z] : List Int).all fun z => decide (0 < z)) = (decide (0 < x) && decide (0 < y) && decide (0 < z)) := by
      simp [Bool.and_assoc]
    rw [e0]
    have i0 : atI ([.int x, .int y, .int z] : List V) 0 = some (.int x) := rfl
    have i1 : atI ([.int x, .int y, .int z] : List V) 1 = some (.int y) := rfl
    have i2 : atI ([.int x, .int y, .int z] : List V) 2 = some (.int z) := rfl
    unfold isTri at q
    cases c0 : (decide (0 < x) && decide (0 < y) && decide (0 < z)) with
    | false =>
      rw [c0] at q
      exact iteT (iteT (q H1 s1))
    | true =>
      rw [c0] at q
      have p1 : 0 < x ∧ 0 < y ∧ 0 < z := by simpa [and_assoc] using c0
      refine iteF ⟨_, rfl, a, _, 0, _, rfl, rfl, hS1, i0, _, _, rfl, rfl, (by decide : (0 : Int) < 2), rfl, _, rfl, ?_⟩
      rw [dec_vint]
      cases c1 : decide (x % 2 = 0) with
      | true =>
        rw [c1] at q
        exact iteT (iteT (q H1 s1))
      | false =>
        rw [c1] at q
        refine iteF ⟨_, rfl, a, _, 1, _, rfl, rfl, hS1, i1, _, _, rfl, rfl, (by decide : (0 : Int) < 2), rfl, _, rfl, ?_⟩
        rw [dec_vint]
        cases c2 : decide (y % 2 = 1) with
        | true =>
          rw [c2] at q
          exact iteT (q H1 s1)
        | false =>
          rw [c2] at q
          refine iteF ?_
          refine ⟨_, rfl, a, _, 0, _, rfl, rfl, hS1, i0, _, rfl, a, _, 0, _, rfl, rfl, hS1, i0, _, _, rfl, rfl, bd_mul hx hx (by decide),
            _, rfl, a, _, 1, _, rfl, rfl, hS1, i1, _, rfl, a, _, 1, _, rfl, rfl, hS1, i1, _, _, rfl, rfl, bd_mul hy hy (by decide), _, _, rfl, rfl,
            _, rfl, a, _, 2, _, rfl, rfl, hS1, i2, _, rfl, a, _, 2, _, rfl, rfl, hS1, i2, _, _, rfl, rfl, bd_mul hz hz (by decide), rfl, _, rfl, ?_⟩
          rw [dec_vint]
          cases c3 : decide (x * x + y * y = z * z) with
          | false =>
            rw [c3] at q
            exact iteF (q H1 s1)
          | true =>
            rw [c3] at q
            refine iteT ⟨_, rfl, a, _, 0, _, rfl, rfl, hS1, i0, _, rfl, a, _, 1, _, rfl, rfl, hS1, i1, x, y, rfl, by omega, by omega, rfl, ?_⟩
            rw [dec_vint]
            have e3 : decide (((Int.gcd x y : Nat) : Int) = 1) = decide (Int.gcd x y = 1) := by
              by_cases c : Int.gcd x y = 1
              · rw [decide_eq_true c, decide_eq_true (by rw [c]; rfl)]
              · rw [decide_eq_false c, decide_eq_false (by omega)]
            rw [e3]
            exact q H1 s1
def sp_is_pair (K : PySem.W.Frag) : Sp := fun vs H Q _ => ∃ (a : Addr) (m n : Int), vs = [.ref a] ∧ SqT K H a [.int m, .int n] ∧ ∀ H', Same H H' → Q (.bl (isPr m n)) H'
theorem ok_is_pair (D : Is K mg "is_pair" s_is_pair ["thing"]) (H_are_wholes : Has P w K mg base 2 "are_wholes" ["thing", "many"] (sp_are_wholes K)) (H_common : Has P w K mg base 1 "common" ["one", "other"] sp_common) : Has P w K mg base 3 "is_pair" ["thing"] (sp_is_pair K) := by
  obtain ⟨f, fd, F, b, g⟩ := D
  obtain ⟨f_are_wholes, fd_are_wholes, G_are_wholes, k_are_wholes, b_are_wholes, g_are_wholes⟩ := H_are_wholes
  obtain ⟨f_common, fd_common, G_common, k_common, b_common, g_common⟩ := H_common
  refine ⟨f, fd, F.ok sc_is_pair (fun vs H Q E h => ?_) (fun cdv A outer s H vs Q E hr h => ?_), F.kp, b, g⟩
  · obtain ⟨a, m, n, rfl, _⟩ := h
    rfl
  · obtain ⟨a, m, n, rfl, hS, q⟩ := h
    have hr1 := hr.mono (show 1 ≤ 2 by decide)
    refine ⟨_, (pss_cons (ps_if (PW.pt (pw_or (pt_not (pt_val (pe_call G_are_wholes (hr.mono (by decide)) (by rfl) g_are_wholes k_are_wholes b_are_wholes .nil pass0 (pa_cons (pv 0) (pa_cons pe_int pa_nil))))) (pw_or (pt_cmpR op_le (pe_ix ix_tup (pv 0) pe_int (fun _ _ => rfl)) (pe_ix ix_tup (pv 0) pe_int (fun _ _ => rfl)) (nomark _)) (pw_or1 (pt_cmpR op_eq (pe_op op_mod (pe_op op_add (pe_ix ix_tup (pv 0) pe_int (fun _ _ => rfl)) (pe_ix ix_tup (pv 0) pe_int (fun _ _ => rfl))) pe_int) pe_int (nomark _)))))) (pss_one (ps_ret pe_bl)) pss_nil) (pss_one (ps_ret (pe_cmpR op_eq (pe_call G_common (hr.mono (by decide)) (by rfl) g_common k_common b_common .nil pass0 (pa_cons (pe_ix ix_tup (pv 0) pe_int (fun _ _ => rfl)) (pa_cons (pe_ix ix_tup (pv 0) pe_int (fun _ _ => rfl)) pa_nil))) pe_int (nomark _))))), ?_⟩
    refine ⟨_, rfl, a, [m, n], 2, rfl, hS, (by show 2 ≤ 1000; decide), fun H1 s1 => ⟨_, rfl, ?_⟩⟩
    have hS1 := Same.tup s1 hS
    have e0 : (decide ((([m, n] : List Int).length : Int) = 2) && ([m, n] : List Int).all fun z => decide (0 < z)) = (decide (0 < m) && decide (0 < n)) := by simp
    rw [e0]
    have i0 : atI ([.int m, .int n] : List V) 0 = some (.int m) := rfl
    have i1 : atI ([.int m, .int n] : List V) 1 = some (.int n) := rfl
    unfold isPr at q
    cases c0 : (decide (0 < m) && decide (0 < n)) with
    | false =>
      rw [c0] at q
      exact iteT (iteT (q H1 s1))
    | true =>
      rw [c0] at q
      have p1 : 0 < m ∧ 0 < n := by simpa using c0
      refine iteF ⟨_, rfl, a, _, 0, _, rfl, rfl, hS1, i0, _, rfl, a, _, 1, _, rfl, rfl, hS1, i1, _, _, rfl, rfl, _, rfl, ?_⟩
      cases c1 : decide (m ≤ n) with
      | true =>
        rw [c1] at q
        exact iteT (iteT (q H1 s1))
      | false =>
        rw [c1] at q
        refine iteF ⟨_, rfl, a, _, 0, _, rfl, rfl, hS1, i0, _, rfl, a, _, 1, _, rfl, rfl, hS1, i1, _, _, rfl, rfl, _, _, rfl, rfl, (by decide : (0 : Int) < 2), rfl, _, rfl, ?_⟩
        rw [dec_vint]
        cases c2 : decide ((m + n) % 2 = 0) with
        | true =>
          rw [c2] at q
          exact iteT (q H1 s1)
        | false =>
          rw [c2] at q
          refine iteF ⟨_, rfl, a, _, 0, _, rfl, rfl, hS1, i0, _, rfl, a, _, 1, _, rfl, rfl, hS1, i1, m, n, rfl, by omega, by omega, rfl, ?_⟩
          rw [dec_vint]
          have e3 : decide (((Int.gcd m n : Nat) : Int) = 1) = decide (Int.gcd m n = 1) := by
            by_cases c : Int.gcd m n = 1
            · rw [decide_eq_true c, decide_eq_true (by rw [c]; rfl)]
            · rw [decide_eq_false c, decide_eq_false (by omega)]
          rw [e3]
          exact q H1 s1
end
end SqP

namespace SqP
open PySem PySem.Spec PyProof.Rows L2 Sq
section
variable {P : Program} {w : World} {K : PySem.W.Frag} {mg : Str → Option Value} {base : Heap}
/-- a tuple of a pair, of a triple -/
abbrev PrAt (K : PySem.W.Frag) (H : Hp) (a : Addr) (p : Pr) : Prop := SqT K H a [.int p.1, .int p.2]
abbrev TrAt (K : PySem.W.Frag) (H : Hp) (a : Addr) (t : Tr) : Prop := SqT K H a [.int t.1, .int t.2.1, .int t.2.2]
theorem isTri_ok {t : Tr} (h : TriOk t) : isTri t.1 t.2.1 t.2.2 = true := by
  unfold isTri
  rw [decide_eq_true h.a, decide_eq_true h.b, decide_eq_true h.c, decide_eq_false (show ¬ t.1 % 2 = 0 by have := h.odd; omega), decide_eq_false (show ¬ t.2.1 % 2 = 1 by have := h.even; omega), decide_eq_true h.sq, decide_eq_true h.cop]
  rfl
theorem isPr_ok {p : Pr} (h : Good p) : isPr p.1 p.2 = true := by
  obtain ⟨h1, h2, h3, h4⟩ := h
  unfold isPr
  rw [decide_eq_true (show 0 < p.1 by omega), decide_eq_true h1, decide_eq_false (show ¬ p.1 ≤ p.2 by omega), decide_eq_false (show ¬ (p.1 + p.2) % 2 = 0 by omega), decide_eq_true (cop_iff.mpr h4)]
  rfl
/-! ### check_triple, of a triple -/
def sp_check_triple (K : PySem.W.Frag) : Sp := fun vs H Q _ => ∃ (a : Addr) (t : Tr), vs = [.ref a] ∧ TrAt K H a t ∧ TriOk t ∧ Bd 3000000 t.1 ∧ Bd 3000000 t.2.1 ∧ Bd 3000000 t.2.2 ∧ ∀ H', Same H H' → Q .non H'
theorem ok_check_triple (D : Is K mg "check_triple" s_check_triple ["triple"]) (H_is_triple : Has P w K mg base 3 "is_triple" ["thing"] (sp_is_triple K)) : Has P w K mg base 4 "check_triple" ["triple"] (sp_check_triple K) := by
  obtain ⟨f, fd, F, b, g⟩ := D
  obtain ⟨f_is_triple, fd_is_triple, G_is_triple, k_is_triple, b_is_triple, g_is_triple⟩ := H_is_triple
  refine ⟨f, fd, F.ok sc_check_triple (fun vs H Q E h => ?_) (fun cdv A outer s H vs Q E hr h => ?_), F.kp, b, g⟩
  · obtain ⟨a, t, rfl, _⟩ := h
    rfl
  · obtain ⟨a, t, rfl, hS, ht, h1, h2, h3, q⟩ := h
    refine ⟨_, (pss_one (ps_if (pt_not (pt_val (pe_call G_is_triple (hr.mono (by decide)) (by rfl) g_is_triple k_is_triple b_is_triple .nil pass0 (pa_cons (pv 0) pa_nil)))) (pss_one ps_never) pss_nil)), ?_⟩
    refine ⟨_, rfl, a, _, _, _, rfl, hS, h1, h2, h3, fun H1 s1 => ⟨_, rfl, ?_⟩⟩
    rw [isTri_ok ht]
    exact iteF (q H1 s1)
/-! ### root_of -/
def sp_root_of : Sp := fun vs H Q _ => ∃ N : Int, vs = [.int N] ∧ 0 ≤ N ∧ Bd 2000010 N ∧ ∀ r : Int, 0 ≤ r → r * r ≤ N → N < (r + 1) * (r + 1) → Q (.int r) H
theorem bits_lt {N : Int} (h : 0 ≤ N) : N < 2 ^ (Builtin.Int.intBits N) := by
  have q : N.natAbs < 2 ^ (Builtin.Int.intBits N) := by
    unfold Builtin.Int.intBits
    split
    · rename_i e
      rw [beq_iff_eq.mp e]
      decide
    · exact Nat.lt_log2_self
  exact Bd.lt (k := Builtin.Int.intBits N) q
theorem bits_bd {N : Int} {k : Nat} (h : Bd k N) : Builtin.Int.intBits N ≤ k := PyProof.Rows.intBits_le h
theorem ok_root_of (hN : base.NoSeer) (ht : P.given.tree = none) (D : Is K mg "root_of" s_root_of ["number"]) : Has P w K mg base 33 "root_of" ["number"] sp_root_of := by
  obtain ⟨f, fd, F, b, g⟩ := D
  refine ⟨f, fd, F.ok sc_root_of (fun vs H Q E h => ?_) (fun cdv A outer s H vs Q E hr h => ?_), F.kp, b, g⟩
  · obtain ⟨N, rfl, _⟩ := h
    rfl
  · obtain ⟨N, rfl, h0, hb, q⟩ := h
    have hd : (A.deeper (envOfC "root_of" (defScope s_root_of) s.heap.objs.size f cdv)).depth + 100 < recursionLimit := by
      have := hr.dp
      omega
    refine ⟨_, (pss_cons (ps_set (i := 1) sc_root_of.nd rfl (Or.inl rfl) (pe_op op_oneShl pe_int (pe_op op_fdiv (pe_op op_add (pe_bits (pv 0)) pe_int) pe_int))) (pss_cons (ps_while PassesOwn.never (pt_cmpR op_gt (pe_op op_mulX (pv 1) (pv 1)) (pv 0) (nomark _)) (pss_one (ps_set (i := 1) sc_root_of.nd rfl (Or.inl rfl) (pe_op op_fdiv (pe_op op_add (pv 1) (pe_op (op_fdivP (l := outer) hN ht rfl rfl rfl hd) (pv 0) (pv 1))) pe_int)))) (pss_one (ps_ret (pv 1))))), ?_⟩
    have hbl := bits_bd hb
    have hlt := bits_lt h0
    generalize hB : Builtin.Int.intBits N = b at *
    have n0 := newt_start hlt
    refine ⟨_, rfl, N, rfl, _, _, rfl, rfl, _, _, rfl, rfl, ⟨by decide, by decide⟩, (b + 1) / 2, rfl, by rw [hB]; show V.int _ = V.int _; congr 1, by omega, ?_⟩
    have top : Bd ((b + 1) / 2 + 1) (2 ^ ((b + 1) / 2) : Int) := by
      refine bd_of n0.nn ?_
      rw [Int.pow_succ]
      have : (0 : Int) < 2 ^ ((b + 1) / 2) := by
        have := Nat.two_pow_pos ((b + 1) / 2)
        exact_mod_cast this
      omega
    generalize (2 ^ ((b + 1) / 2) : Int) = x0 at *
    refine ⟨fun m σ H' => ∃ x : Int, σ = [some (.int N), some (.int x)] ∧ m = x.toNat ∧ Newt N x ∧ x ≤ x0 ∧ H' = H, ⟨_, x0, rfl, rfl, n0, Int.le_refl _, rfl⟩, ?_⟩
    rintro m σ H' ⟨x, rfl, rfl, hn, hx, rfl⟩
    have xb : Bd ((b + 1) / 2 + 1) x := top.le hn.nn hx
    refine ⟨_, rfl, _, rfl, _, _, rfl, rfl, bd_mul xb xb (by omega), _, rfl, _, _, rfl, rfl, _, rfl, if_b (fun c => ?_) (fun c => ?_)⟩
    · have c := of_decide_eq_true c
      obtain ⟨x1, nx, lt⟩ := newt_next h0 hn c
      refine ⟨fun σ' H2 => ∃ m', m' < x.toNat ∧ ∃ y : Int, σ' = [some (.int N), some (.int y)] ∧ m' = y.toNat ∧ Newt N y ∧ y ≤ x0 ∧ H2 = H', fun _ _ h => h, ?_⟩
      refine ⟨_, rfl, _, rfl, _, rfl, _, _, rfl, rfl, x1, _, _, rfl, rfl, _, _, rfl, rfl, ⟨by decide, by decide⟩, _, ?_, _, rfl, rfl, nx, by omega, rfl⟩
      have := nx.nn
      omega
    · have c := of_decide_eq_false c
      exact ⟨_, rfl, q x hn.nn (by omega) hn.up⟩
/-! ### pair_by, pair_of -/
def sp_pair_by (K : PySem.W.Frag) : Sp := fun vs H Q _ => ∃ (a : Addr) (p : Pr), vs = [.ref a] ∧ TrAt K H a (tri p) ∧ Good p ∧ Bd 1000000 p.1 ∧ ∀ H' q, Same H H' → PrAt K H' q p → Q (.ref q) H'
theorem ok_pair_by (D : Is K mg "pair_by" s_pair_by ["triple"]) (H_root_of : Has P w K mg base 33 "root_of" ["number"] sp_root_of) : Has P w K mg base 34 "pair_by" ["triple"] (sp_pair_by K) := by
  obtain ⟨f, fd, F, b, g⟩ := D
  obtain ⟨f_root_of, fd_root_of, G_root_of, k_root_of, b_root_of, g_root_of⟩ := H_root_of
  refine ⟨f, fd, F.ok sc_pair_by (fun vs H Q E h => ?_) (fun cdv A outer s H vs Q E hr h => ?_), F.kp, b, g⟩
  · obtain ⟨a, p, rfl, _⟩ := h
    rfl
  · obtain ⟨a, p, rfl, hS, hg, hb, q⟩ := h
    have hb2 : Bd 1000000 p.2 := hb.le (by have := hg.1; omega) (by have := hg.2.1; omega)
    refine ⟨_, (pss_one (ps_ret (pe_tup (pa_cons (pe_call G_root_of (hr.mono (by decide)) (by rfl) g_root_of k_root_of b_root_of .nil pass0 (pa_cons (pe_op op_fdiv (pe_op op_add (pe_ix ix_tup (pv 0) pe_int (fun _ _ => rfl)) (pe_ix ix_tup (pv 0) pe_int (fun _ _ => rfl))) pe_int) pa_nil)) (pa_cons (pe_call G_root_of (hr.mono (by decide)) (by rfl) g_root_of k_root_of b_root_of .nil pass0 (pa_cons (pe_op op_fdiv (pe_op op_sub (pe_ix ix_tup (pv 0) pe_int (fun _ _ => rfl)) (pe_ix ix_tup (pv 0) pe_int (fun _ _ => rfl))) pe_int) pa_nil)) pa_nil))))), ?_⟩
    have i0 : atI ([.int (tri p).1, .int (tri p).2.1, .int (tri p).2.2] : List V) 0 = some (.int (tri p).1) := rfl
    have i2 : atI ([.int (tri p).1, .int (tri p).2.1, .int (tri p).2.2] : List V) 2 = some (.int (tri p).2.2) := rfl
    refine ⟨_, rfl, a, _, 2, _, rfl, rfl, hS, i2, _, rfl, a, _, 0, _, rfl, rfl, hS, i0, _, _, rfl, rfl, _, _, rfl, rfl, ⟨by decide, by decide⟩, _, rfl, ?_⟩
    rw [tri_half1]
    refine ⟨Int.mul_nonneg (by have := hg.1; have := hg.2.1; omega) (by have := hg.1; have := hg.2.1; omega), (hb.mul hb).mono (by decide), fun r r0 r1 r2 => ?_⟩
    have er := root_sq r0 r1 r2 (by have := hg.1; have := hg.2.1; omega)
    subst er
    refine ⟨_, rfl, a, _, 2, _, rfl, rfl, hS, i2, _, rfl, a, _, 0, _, rfl, rfl, hS, i0, _, _, rfl, rfl, _, _, rfl, rfl, ⟨by decide, by decide⟩, _, rfl, ?_⟩
    rw [tri_half2]
    refine ⟨Int.mul_nonneg (by have := hg.1; omega) (by have := hg.1; omega), (hb2.mul hb2).mono (by decide), fun r3 r4 r5 r6 => ?_⟩
    have er := root_sq r4 r5 r6 (by have := hg.1; omega)
    subst er
    exact ⟨len2, new_tup (K := K) fun H1 t s1 t1 => q _ _ s1 t1⟩
def sp_pair_of := sp_pair_by
theorem ok_pair_of (D : Is K mg "pair_of" s_pair_of ["triple"]) (H_check_triple : Has P w K mg base 4 "check_triple" ["triple"] (sp_check_triple K)) (H_pair_by : Has P w K mg base 34 "pair_by" ["triple"] (sp_pair_by K)) : Has P w K mg base 35 "pair_of" ["triple"] (sp_pair_of K) := by
  obtain ⟨f, fd, F, b, g⟩ := D
  obtain ⟨f_check_triple, fd_check_triple, G_check_triple, k_check_triple, b_check_triple, g_check_triple⟩ := H_check_triple
  obtain ⟨f_pair_by, fd_pair_by, G_pair_by, k_pair_by, b_pair_by, g_pair_by⟩ := H_pair_by
  refine ⟨f, fd, F.ok sc_pair_of (fun vs H Q E h => ?_) (fun cdv A outer s H vs Q E hr h => ?_), F.kp, b, g⟩
  · obtain ⟨a, p, rfl, _⟩ := h
    rfl
  · obtain ⟨a, p, rfl, hS, hg, hb, q⟩ := h
    refine ⟨_, (pss_cons (ps_expr (pe_call G_check_triple (hr.mono (by decide)) (by rfl) g_check_triple k_check_triple b_check_triple .nil pass0 (pa_cons (pv 0) pa_nil))) (pss_one (ps_ret (pe_call G_pair_by (hr.mono (by decide)) (by rfl) g_pair_by k_pair_by b_pair_by .nil pass0 (pa_cons (pv 0) pa_nil))))), ?_⟩
    obtain ⟨c1, c2, c3⟩ := tri_bd hg hb
    refine ⟨_, rfl, a, _, rfl, hS, tri_ok hg, c1.mono (by decide), c2.mono (by decide), c3.mono (by decide), fun H1 s1 => ?_⟩
    exact ⟨_, rfl, a, p, rfl, Same.tup s1 hS, hg, hb, fun H2 t s2 t2 => q _ _ (s1.trans s2) t2⟩
/-! ### triple_by, triple_of -/
def sp_triple_by (K : PySem.W.Frag) : Sp := fun vs H Q _ => ∃ (a : Addr) (p : Pr), vs = [.ref a] ∧ PrAt K H a p ∧ Bd 1000000 p.1 ∧ Bd 1000000 p.2 ∧ ∀ H' q, Same H H' → TrAt K H' q (tri p) → Q (.ref q) H'
theorem ok_triple_by (D : Is K mg "triple_by" s_triple_by ["pair"]) : Has P w K mg base 1 "triple_by" ["pair"] (sp_triple_by K) := by
  obtain ⟨f, fd, F, b, g⟩ := D
  refine ⟨f, fd, F.ok sc_triple_by (fun vs H Q E h => ?_) (fun cdv A outer s H vs Q E hr h => ?_), F.kp, b, g⟩
  · obtain ⟨a, p, rfl, _⟩ := h
    rfl
  · obtain ⟨a, p, rfl, hS, hm, hn, q⟩ := h
    refine ⟨_, (pss_cons (ps_asg (pv 0) (pg_tup rfl (pgs_cons (pg_name (i := 1) sc_triple_by.nd rfl (Or.inl rfl)) (pgs_cons (pg_name (i := 2) sc_triple_by.nd rfl (Or.inl rfl)) pgs_nil)))) (pss_one (ps_ret (pe_tup (pa_cons (pe_op op_sub (pe_op op_mulX (pv 1) (pv 1)) (pe_op op_mulX (pv 2) (pv 2))) (pa_cons (pe_op op_mulX (pe_op op_mul pe_int (pv 1)) (pv 2)) (pa_cons (pe_op op_add (pe_op op_mulX (pv 1) (pv 1)) (pe_op op_mulX (pv 2) (pv 2))) pa_nil))))))), ?_⟩
    refine ⟨_, rfl, _, _, rfl, hS, rfl, _, _, rfl, _, _, rfl, rfl, ?_⟩
    walk_at "rd"
    refine ⟨len3, new_tup (K := K) fun H1 t s1 t1 => q _ _ s1 t1⟩
def sp_triple_of (K : PySem.W.Frag) : Sp := fun vs H Q _ => ∃ (a : Addr) (p : Pr), vs = [.ref a] ∧ PrAt K H a p ∧ Good p ∧ Bd 1000000 p.1 ∧ ∀ H' q, Same H H' → TrAt K H' q (tri p) → Q (.ref q) H'
theorem ok_triple_of (D : Is K mg "triple_of" s_triple_of ["pair"]) (H_is_pair : Has P w K mg base 3 "is_pair" ["thing"] (sp_is_pair K)) (H_triple_by : Has P w K mg base 1 "triple_by" ["pair"] (sp_triple_by K)) : Has P w K mg base 4 "triple_of" ["pair"] (sp_triple_of K) := by
  obtain ⟨f, fd, F, b, g⟩ := D
  obtain ⟨f_is_pair, fd_is_pair, G_is_pair, k_is_pair, b_is_pair, g_is_pair⟩ := H_is_pair
  obtain ⟨f_triple_by, fd_triple_by, G_triple_by, k_triple_by, b_triple_by, g_triple_by⟩ := H_triple_by
  refine ⟨f, fd, F.ok sc_triple_of (fun vs H Q E h => ?_) (fun cdv A outer s H vs Q E hr h => ?_), F.kp, b, g⟩
  · obtain ⟨a, p, rfl, _⟩ := h
    rfl
  · obtain ⟨a, p, rfl, hS, hg, hb, q⟩ := h
    have hb2 : Bd 1000000 p.2 := hb.le (by have := hg.1; omega) (by have := hg.2.1; omega)
    refine ⟨_, (pss_cons (ps_if (pt_not (pt_val (pe_call G_is_pair (hr.mono (by decide)) (by rfl) g_is_pair k_is_pair b_is_pair .nil pass0 (pa_cons (pv 0) pa_nil)))) (pss_one ps_never) pss_nil) (pss_one (ps_ret (pe_call G_triple_by (hr.mono (by decide)) (by rfl) g_triple_by k_triple_by b_triple_by .nil pass0 (pa_cons (pv 0) pa_nil))))), ?_⟩
    refine ⟨_, rfl, a, _, _, rfl, hS, fun H1 s1 => ⟨_, rfl, ?_⟩⟩
    rw [isPr_ok hg]
    refine iteF ?_
    exact ⟨_, rfl, a, p, rfl, Same.tup s1 hS, hb, hb2, fun H2 t s2 t2 => q _ _ (s1.trans s2) t2⟩
end
end SqP

namespace SqP
open PySem PySem.Spec PyProof.Rows L2 Sq
abbrev s_led : Stmt := topS 20
theorem sc_led : FnScope ["pair", "step", "often", "m", "n", "turn"] ["pair", "step", "often"] (defScope s_led) := ⟨rfl, rfl, rfl, by decide +kernel, rfl, by decide +kernel, by decide +kernel⟩
abbrev s_last_of : Stmt := topS 21
theorem sc_last_of : FnScope ["pair", "m", "n", "often"] ["pair"] (defScope s_last_of) := ⟨rfl, rfl, rfl, by decide +kernel, rfl, by decide +kernel, by decide +kernel⟩
abbrev s_back : Stmt := topS 22
theorem sc_back : FnScope ["triple", "m", "n"] ["triple"] (defScope s_back) := ⟨rfl, rfl, rfl, by decide +kernel, rfl, by decide +kernel, by decide +kernel⟩
abbrev s_is_part : Stmt := topS 23
theorem sc_is_part : FnScope ["thing", "one"] ["thing"] (defScope s_is_part) := ⟨rfl, rfl, rfl, by decide +kernel, rfl, by decide +kernel, by decide +kernel⟩
abbrev s_by_row : Stmt := topS 24
theorem sc_by_row : FnScope ["row", "pair", "step", "often", "part", "at"] ["row"] (defScope s_by_row) := ⟨rfl, rfl, rfl, by decide +kernel, rfl, by decide +kernel, by decide +kernel⟩
abbrev s_row_of : Stmt := topS 25
theorem sc_row_of : FnScope ["triple", "pair", "found", "step", "often"] ["triple"] (defScope s_row_of) := ⟨rfl, rfl, rfl, by decide +kernel, rfl, by decide +kernel, by decide +kernel⟩
/-- the parts of a row, each a tuple -/
def Parts (K : PySem.W.Frag) (H : Hp) : List Addr → PRow → Prop
  | [], [] => True
  | t :: ts, x :: r => SqT K H t [.int x.1, .int x.2] ∧ Parts K H ts r
  | [], _ :: _ => False
  | _ :: _, [] => False
theorem Parts.same {K : PySem.W.Frag} {H H' : Hp} (s : Same H H') : ∀ {ts : List Addr} {r : PRow}, Parts K H ts r → Parts K H' ts r
  | [], [], _ => trivial
  | _ :: _, _ :: _, h => ⟨Same.tup s h.1, Parts.same s h.2⟩
  | [], _ :: _, h => h.elim
  | _ :: _, [], h => h.elim
theorem Parts.length {K : PySem.W.Frag} {H : Hp} : ∀ {ts : List Addr} {r : PRow}, Parts K H ts r → ts.length = r.length
  | [], [], _ => rfl
  | _ :: _, _ :: _, h => by rw [List.length_cons, List.length_cons, Parts.length h.2]
  | [], _ :: _, h => h.elim
  | _ :: _, [], h => h.elim
theorem Parts.get {K : PySem.W.Frag} {H : Hp} : ∀ {ts : List Addr} {r : PRow} {i : Nat} {x : Int × Int}, Parts K H ts r → r[i]? = some x → ∃ t, ts[i]? = some t ∧ SqT K H t [.int x.1, .int x.2]
  | [], [], _, _, _, e => by simp at e
  | t :: _, y :: _, 0, x, h, e => by
    have e' : y = x := Option.some.inj e
    subst e'
    exact ⟨t, rfl, h.1⟩
  | _ :: _, _ :: _, i + 1, _, h, e => Parts.get (i := i) h.2 e
  | [], _ :: _, _, _, h, _ => h.elim
  | _ :: _, [], _, _, h, _ => h.elim
theorem Parts.snoc {K : PySem.W.Frag} {H : Hp} {t : Addr} {x : Int × Int} (hx : SqT K H t [.int x.1, .int x.2]) : ∀ {ts : List Addr} {r : PRow}, Parts K H ts r → Parts K H (ts ++ [t]) (r ++ [x])
  | [], [], _ => ⟨hx, trivial⟩
  | _ :: _, _ :: _, h => ⟨h.1, Parts.snoc hx h.2⟩
  | [], _ :: _, h => h.elim
  | _ :: _, [], h => h.elim
theorem Parts.app {K : PySem.W.Frag} {H : Hp} {bs : List Addr} {v : PRow} (h2 : Parts K H bs v) : ∀ {as : List Addr} {u : PRow}, Parts K H as u → Parts K H (as ++ bs) (u ++ v)
  | [], [], _ => h2
  | _ :: _, _ :: _, h => ⟨h.1, Parts.app h2 h.2⟩
  | [], _ :: _, h => h.elim
  | _ :: _, [], h => h.elim
theorem Parts.take {K : PySem.W.Frag} {H : Hp} : ∀ {ts : List Addr} {r : PRow} (n : Nat), Parts K H ts r → Parts K H (ts.take n) (r.take n)
  | _, _, 0, _ => trivial
  | [], [], _ + 1, _ => trivial
  | _ :: _, _ :: _, n + 1, h => ⟨h.1, Parts.take n h.2⟩
  | [], _ :: _, _, h => h.elim
  | _ :: _, [], _, h => h.elim
theorem parts_keep {K : PySem.W.Frag} {H : Hp} {fo : Addr} {xs ys : List V} (hfo : H fo = some (.lst xs)) : ∀ {ts : List Addr} {r : PRow}, Parts K H ts r → Parts K (upd H fo (.lst ys)) ts r
  | [], [], _ => trivial
  | _ :: _, _ :: _, h => ⟨tup_keep hfo h.1, parts_keep hfo h.2⟩
  | [], _ :: _, h => h.elim
  | _ :: _, [], h => h.elim
/-- a row in the heap: a list of tuples -/
def RowAt (K : PySem.W.Frag) (H : Hp) (a : Addr) (r : PRow) : Prop := ∃ ts : List Addr, SqL K H a (ts.map V.ref) ∧ Parts K H ts r
theorem RowAt.same {K : PySem.W.Frag} {H H' : Hp} {a : Addr} {r : PRow} (s : Same H H') (h : RowAt K H a r) : RowAt K H' a r := by
  obtain ⟨ts, h1, h2⟩ := h
  exact ⟨ts, Same.seq s h1, h2.same s⟩
/-- data: a pair, a triple -/
theorem two_shaped (a b : Int) : SeqAt.shaped (.tuple [.int a, .int b]) = true := rfl
theorem two_eqv (a b c d : Int) : PyData.eqv (.tuple [.int a, .int b]) (.tuple [.int c, .int d]) = (decide (a = c) && decide (b = d)) := by
  simp [PyData.eqv, PyData.eqvAll, Bool.beq_eq_decide_eq]
theorem two_dp {K : PySem.W.Frag} {H : Hp} {t : Addr} {a b : Int} (h : SqT K H t [.int a, .int b]) : Dp K H (.ref t) (.tuple [.int a, .int b]) := .tup h (.cons (.int _) (.cons (.int _) .nil))
theorem three_shaped (a b c : Int) : SeqAt.shaped (.tuple [.int a, .int b, .int c]) = true := rfl
theorem three_eqv (a b c x y z : Int) : PyData.eqv (.tuple [.int a, .int b, .int c]) (.tuple [.int x, .int y, .int z]) = (decide (a = x) && decide (b = y) && decide (c = z)) := by
  simp [PyData.eqv, PyData.eqvAll, Bool.and_assoc, Bool.beq_eq_decide_eq]
theorem three_dp {K : PySem.W.Frag} {H : Hp} {t : Addr} {a b c : Int} (h : SqT K H t [.int a, .int b, .int c]) : Dp K H (.ref t) (.tuple [.int a, .int b, .int c]) := .tup h (.cons (.int _) (.cons (.int _) (.cons (.int _) .nil)))
/-- a row as data -/
def partD (x : Int × Int) : PyData := .tuple [.int x.1, .int x.2]
def rowD (r : PRow) : PyData := .list (r.map partD)
theorem part_lay (x : Int × Int) : (partD x).canLay0 = true := by simp [partD, PyData.canLay0, PyData.canLayAll0]
theorem part_depth (x : Int × Int) : (partD x).depth = 1 := by simp [partD, PyData.depth, PyData.depthAll]
theorem parts_lay : ∀ r : PRow, PyData.canLayAll0 (r.map partD) = true
  | [] => by simp [PyData.canLayAll0]
  | x :: r => by simp [PyData.canLayAll0, part_lay x, parts_lay r]
theorem parts_depth : ∀ r : PRow, PyData.depthAll (r.map partD) ≤ 1
  | [] => by simp [PyData.depthAll]
  | x :: r => by
    have h1 := parts_depth r
    have h2 := part_depth x
    simp only [List.map_cons, PyData.depthAll]
    omega
theorem row_shaped (r : PRow) : SeqAt.shaped (rowD r) = true := by
  have h1 := parts_depth r
  have h2 : PyData.depth (rowD r) ≤ 64 := by
    simp only [rowD, PyData.depth]
    omega
  show (PyData.canLay0 (rowD r) && decide (PyData.depth (rowD r) ≤ 64)) = true
  rw [Bool.and_eq_true]
  exact ⟨by simp only [rowD, PyData.canLay0]; exact parts_lay r, decide_eq_true h2⟩
theorem eqv_self {d : PyData} (h : SeqAt.shaped d = true) : PyData.eqv d d = true := SeqAt.eqv_refl d (SeqAt.canLay_of_shaped h)
theorem parts_dp {K : PySem.W.Frag} {H : Hp} : ∀ {ts : List Addr} {r : PRow}, Parts K H ts r → DpAll K H (ts.map V.ref) (r.map partD)
  | [], [], _ => .nil
  | _ :: _, _ :: _, h => .cons (two_dp h.1) (parts_dp h.2)
  | [], _ :: _, h => h.elim
  | _ :: _, [], h => h.elim
theorem row_dp {K : PySem.W.Frag} {H : Hp} {a : Addr} {r : PRow} (h : RowAt K H a r) : Dp K H (.ref a) (rowD r) := by
  obtain ⟨ts, h1, h2⟩ := h
  exact .lst h1 (parts_dp h2)
section
variable {P : Program} {w : World} {K : PySem.W.Frag} {mg : Str → Option Value} {base : Heap}
/-! ### led -/
def sp_led (K : PySem.W.Frag) : Sp := fun vs H Q _ => ∃ (a : Addr) (p : Pr) (s o : Int), vs = [.ref a, .int s, .int o] ∧ PrAt K H a p ∧ S3 s ∧ 0 ≤ o ∧ Bd 1000 o ∧ (s = 1 → o ≤ 1000) ∧ Bd 1000000 p.1 ∧ Bd 1000000 p.2 ∧ ∀ H' q, Same H H' → PrAt K H' q (led p s o) → Q (.ref q) H'
theorem ok_led (B : Bt mg) (D : Is K mg "led" s_led ["pair", "step", "often"]) : Has P w K mg base 1 "led" ["pair", "step", "often"] (sp_led K) := by
  obtain ⟨f, fd, F, b, g⟩ := D
  refine ⟨f, fd, F.ok sc_led (fun vs H Q E h => ?_) (fun cdv A outer s H vs Q E hr h => ?_), F.kp, b, g⟩
  · obtain ⟨a, p, s, o, rfl, _⟩ := h
    rfl
  · obtain ⟨a, p, s, o, rfl, hS, hs, h0, ho, h1, hm, hn, q⟩ := h
    refine ⟨_, (pss_cons (ps_asg (pv 0) (pg_tup rfl (pgs_cons (pg_name (i := 3) sc_led.nd rfl (Or.inl rfl)) (pgs_cons (pg_name (i := 4) sc_led.nd rfl (Or.inl rfl)) pgs_nil)))) (pss_cons (ps_if (pt_cmpR op_eq (pv 1) pe_int (nomark _)) (pss_one (ps_ret (pe_tup (pa_cons (pe_op op_add (pv 3) (pe_op op_mulX (pv 2) (pe_op op_sub (pv 3) (pv 4)))) (pa_cons (pe_op op_add (pv 4) (pe_op op_mulX (pv 2) (pe_op op_sub (pv 3) (pv 4)))) pa_nil))))) pss_nil) (pss_cons (ps_if (pt_cmpR op_eq (pv 1) pe_int (nomark _)) (pss_one (ps_ret (pe_tup (pa_cons (pe_op op_add (pv 3) (pe_op op_mulX (pe_op op_mul pe_int (pv 2)) (pv 4))) (pa_cons (pv 4) pa_nil))))) pss_nil) (pss_cons (ps_for PassesOwn.never rfl (pi_range1 (by rfl) B.range (pa_cons (pv 2) pa_nil)) (pg_name (i := 5) sc_led.nd rfl (Or.inl rfl)) (pss_one (ps_par (i := 3) (j := 4) rfl sc_led.nd rfl rfl (by decide) rfl rfl (pa_cons (pe_op op_add (pe_op op_mul pe_int (pv 3)) (pv 4)) (pa_cons (pv 3) pa_nil)) (by rfl)))) (pss_one (ps_ret (pe_tup (pa_cons (pv 3) (pa_cons (pv 4) pa_nil))))))))), ?_⟩
    refine ⟨_, rfl, _, _, rfl, hS, rfl, _, _, rfl, _, _, rfl, rfl, ?_⟩
    refine ⟨_, rfl, rfl, _, rfl, ?_⟩
    rw [dec_vint]
    rcases hs with rfl | rfl | rfl
    · refine iteT ?_
      walk_at "rd"
      refine ⟨len2, new_tup (K := K) fun H1 t s1 t1 => q _ _ s1 ?_⟩
      rw [led, if_pos rfl]
      exact t1
    · refine iteF ⟨_, rfl, rfl, _, rfl, ?_⟩
      rw [dec_vint]
      refine iteF ?_
      have ho1 := h1 rfl
      refine ⟨_, rfl, o, rfl, by omega, by omega, for_range (lo := 0) (n := o.toNat) (fun i σ H' => ∃ v : Option V, σ = [some (.ref a), some (.int 1), some (.int o), some (.int (rep 1 i p).1), some (.int (rep 1 i p).2), v] ∧ H' = H) ⟨none, rfl, rfl⟩ ?_ ?_⟩
      · rintro i σ H' hi ⟨v, rfl, rfl⟩
        refine ⟨_, rfl, _, _, rfl, rfl, .inl ⟨by decide, by decide⟩, _, rfl, _, _, rfl, rfl, _, rfl, _, _, rfl, some (.int (0 + i)), ?_, rfl⟩
        rw [rep1_succ]
        rfl
      · rintro σ H' ⟨v, rfl, rfl⟩
        refine ⟨_, rfl, _, rfl, len2, new_tup (K := K) fun H1 t s1 t1 => q _ _ s1 ?_⟩
        rw [led, if_neg (by decide), if_neg (by decide)]
        exact t1
    · refine iteF ⟨_, rfl, rfl, _, rfl, ?_⟩
      rw [dec_vint]
      refine iteT ?_
      walk_at "rd"
      refine ⟨len2, new_tup (K := K) fun H1 t s1 t1 => q _ _ s1 ?_⟩
      rw [led, if_neg (by decide), if_pos rfl]
      exact t1
/-! ### last_of -/
def sp_last_of (K : PySem.W.Frag) : Sp := fun vs H Q _ => ∃ (a : Addr) (p : Pr), vs = [.ref a] ∧ PrAt K H a p ∧ 0 < p.2 ∧ p.2 < p.1 ∧ Bd 1000000 p.1 ∧
  ∀ H' q t, Same H H' → SqT K H' q [.int (lastOf p).1, .int (lastOf p).2.1, .ref t] → PrAt K H' t (lastOf p).2.2 → Q (.ref q) H'
theorem ok_last_of (hN : base.NoSeer) (ht : P.given.tree = none) (D : Is K mg "last_of" s_last_of ["pair"]) : Has P w K mg base 33 "last_of" ["pair"] (sp_last_of K) := by
  obtain ⟨f, fd, F, b, g⟩ := D
  refine ⟨f, fd, F.ok sc_last_of (fun vs H Q E h => ?_) (fun cdv A outer s H vs Q E hr h => ?_), F.kp, b, g⟩
  · obtain ⟨a, p, rfl, _⟩ := h
    rfl
  · obtain ⟨a, p, rfl, hS, h1, h2, hm, q⟩ := h
    have hn : Bd 1000000 p.2 := hm.le (by omega) (by omega)
    have hd : (A.deeper (envOfC "last_of" (defScope s_last_of) s.heap.objs.size f cdv)).depth + 100 < recursionLimit := by
      have := hr.dp
      omega
    refine ⟨_, (pss_cons (ps_asg (pv 0) (pg_tup rfl (pgs_cons (pg_name (i := 1) sc_last_of.nd rfl (Or.inl rfl)) (pgs_cons (pg_name (i := 2) sc_last_of.nd rfl (Or.inl rfl)) pgs_nil)))) (pss_cons (ps_if (pt_cmpR op_lt (pv 1) (pe_op op_mul pe_int (pv 2)) (nomark _)) (pss_cons (ps_set (i := 3) sc_last_of.nd rfl (Or.inl rfl) (pe_op (op_fdivP (l := outer) hN ht rfl rfl rfl hd) (pe_op op_sub (pv 2) pe_int) (pe_op op_sub (pv 1) (pv 2)))) (pss_one (ps_ret (pe_tup (pa_cons pe_int (pa_cons (pv 3) (pa_cons (pe_tup (pa_cons (pe_op op_sub (pv 1) (pe_op op_mulX (pv 3) (pe_op op_sub (pv 1) (pv 2)))) (pa_cons (pe_op op_sub (pv 2) (pe_op op_mulX (pv 3) (pe_op op_sub (pv 1) (pv 2)))) pa_nil))) pa_nil))))))) pss_nil) (pss_cons (ps_if (pt_cmpR op_lt (pv 1) (pe_op op_mul pe_int (pv 2)) (nomark _)) (pss_one (ps_ret (pe_tup (pa_cons pe_int (pa_cons pe_int (pa_cons (pe_tup (pa_cons (pv 2) (pa_cons (pe_op op_sub (pv 1) (pe_op op_mul pe_int (pv 2))) pa_nil))) pa_nil)))))) pss_nil) (pss_cons (ps_set (i := 3) sc_last_of.nd rfl (Or.inl rfl) (pe_op (op_fdivP (l := outer) hN ht rfl rfl rfl hd) (pe_op op_sub (pv 1) (pv 2)) (pe_op op_mul pe_int (pv 2)))) (pss_one (ps_ret (pe_tup (pa_cons pe_int (pa_cons (pv 3) (pa_cons (pe_tup (pa_cons (pe_op op_sub (pv 1) (pe_op op_mulX (pe_op op_mul pe_int (pv 3)) (pv 2))) (pa_cons (pv 2) pa_nil))) pa_nil)))))))))), ?_⟩
    refine ⟨_, rfl, _, _, rfl, hS, rfl, _, _, rfl, _, _, rfl, rfl, ?_⟩
    have b2 : Bd 64 2 := by show (2 : Nat) < 2 ^ 64; decide
    have b3 : Bd 64 3 := by show (3 : Nat) < 2 ^ 64; decide
    have ob : ∀ x d : Int, 0 ≤ x → x ≤ p.1 → 0 < d → Bd 1000000 (x / d) := fun x d h0 hx hd => hm.le (Int.ediv_nonneg h0 (by omega)) (Int.le_trans (Int.ediv_le_self _ h0) hx)
    refine ⟨_, rfl, _, rfl, _, _, rfl, rfl, .inl ⟨by decide, by decide⟩, _, _, rfl, rfl, _, rfl, if_b (fun c => ?_) (fun c => ?_)⟩
    · have c := of_decide_eq_true c
      have hob := ob (p.2 - 1) (p.1 - p.2) (by omega) (by omega) (by omega)
      refine ⟨_, rfl, _, _, rfl, rfl, _, rfl, _, rfl, _, _, rfl, rfl, _, _, rfl, rfl, (show (0 : Int) < p.1 - p.2 by omega), ?_⟩
      refine ⟨_, rfl, ?_⟩
      walk_at "rd"
      refine ⟨len2, fun t ht => ⟨len3, fun u hu => q _ u t ((same_upd ht).trans (same_upd hu)) ?_ ?_⟩⟩
      · rw [lastOf, if_pos c]
        exact SqT.of upd_same
      · rw [lastOf, if_pos c]
        exact Same.tup (same_upd hu) (SqT.of upd_same)
    · have c := of_decide_eq_false c
      refine ⟨_, rfl, _, rfl, _, _, rfl, rfl, .inl ⟨by decide, by decide⟩, _, _, rfl, rfl, _, rfl, if_b (fun c2 => ?_) (fun c2 => ?_)⟩
      · have c2 := of_decide_eq_true c2
        walk_at "rd"
        refine ⟨len2, fun t ht => ⟨len3, fun u hu => q _ u t ((same_upd ht).trans (same_upd hu)) ?_ ?_⟩⟩
        · rw [lastOf, if_neg c, if_pos c2]
          exact SqT.of upd_same
        · rw [lastOf, if_neg c, if_pos c2]
          exact Same.tup (same_upd hu) (SqT.of upd_same)
      · have c2 := of_decide_eq_false c2
        have hob := ob (p.1 - p.2) (2 * p.2) (by omega) (by omega) (by omega)
        refine ⟨_, rfl, _, rfl, _, _, rfl, rfl, _, rfl, _, _, rfl, rfl, .inl ⟨by decide, by decide⟩, _, _, rfl, rfl, (show (0 : Int) < 2 * p.2 by omega), ?_⟩
        refine ⟨_, rfl, ?_⟩
        walk_at "rd"
        refine ⟨len2, fun t ht => ⟨len3, fun u hu => q _ u t ((same_upd ht).trans (same_upd hu)) ?_ ?_⟩⟩
        · rw [lastOf, if_neg c, if_neg c2]
          exact SqT.of upd_same
        · rw [lastOf, if_neg c, if_neg c2]
          exact Same.tup (same_upd hu) (SqT.of upd_same)
end
end SqP

namespace SqP
open PySem PySem.Spec PyProof.Rows L2 Sq
section
variable {P : Program} {w : World} {K : PySem.W.Frag} {mg : Str → Option Value} {base : Heap}
/-! ### back -/
def sp_back (K : PySem.W.Frag) : Sp := fun vs H Q _ => ∃ (a : Addr) (p : Pr), vs = [.ref a] ∧ TrAt K H a (tri p) ∧ Good p ∧ Bd 1000000 p.1 ∧ (p = (2, 1) → ∀ H', Same H H' → Q .non H') ∧
  (p ≠ (2, 1) → ∀ H' q t, Same H H' → SqT K H' q [.ref t, .int (backOf p).1] → TrAt K H' t (tri (backOf p).2) → Q (.ref q) H')
theorem ok_back (D : Is K mg "back" s_back ["triple"]) (H_check_triple : Has P w K mg base 4 "check_triple" ["triple"] (sp_check_triple K)) (H_pair_by : Has P w K mg base 34 "pair_by" ["triple"] (sp_pair_by K)) (H_triple_by : Has P w K mg base 1 "triple_by" ["pair"] (sp_triple_by K)) : Has P w K mg base 35 "back" ["triple"] (sp_back K) := by
  obtain ⟨f, fd, F, b, g⟩ := D
  obtain ⟨f_check_triple, fd_check_triple, G_check_triple, k_check_triple, b_check_triple, g_check_triple⟩ := H_check_triple
  obtain ⟨f_pair_by, fd_pair_by, G_pair_by, k_pair_by, b_pair_by, g_pair_by⟩ := H_pair_by
  obtain ⟨f_triple_by, fd_triple_by, G_triple_by, k_triple_by, b_triple_by, g_triple_by⟩ := H_triple_by
  refine ⟨f, fd, F.ok sc_back (fun vs H Q E h => ?_) (fun cdv A outer s H vs Q E hr h => ?_), F.kp, b, g⟩
  · obtain ⟨a, p, rfl, _⟩ := h
    rfl
  · obtain ⟨a, p, rfl, hS, hg, hb, q0, q1⟩ := h
    obtain ⟨c1, c2, c3⟩ := tri_bd hg hb
    obtain ⟨l1, l2, l3, l4⟩ := back_le hg
    have bb1 : Bd 1000000 (backOf p).2.1 := hb.le l1 l2
    have bb2 : Bd 1000000 (backOf p).2.2 := hb.abs l3 l4
    have hr1 := hr.mono (show 1 ≤ 34 by decide)
    refine ⟨_, (pss_cons (ps_expr (pe_call G_check_triple (hr.mono (by decide)) (by rfl) g_check_triple k_check_triple b_check_triple .nil pass0 (pa_cons (pv 0) pa_nil))) (pss_cons (ps_asg (pe_call G_pair_by (hr.mono (by decide)) (by rfl) g_pair_by k_pair_by b_pair_by .nil pass0 (pa_cons (pv 0) pa_nil)) (pg_tup rfl (pgs_cons (pg_name (i := 1) sc_back.nd rfl (Or.inl rfl)) (pgs_cons (pg_name (i := 2) sc_back.nd rfl (Or.inl rfl)) pgs_nil)))) (pss_cons (ps_if (PW.pt (pw_and (pt_cmpR op_eq (pv 2) pe_int (nomark _)) (pw_and1 (pt_cmpR op_eq (pv 1) pe_int (nomark _))))) (pss_one (ps_ret pe_non)) pss_nil) (pss_cons (ps_if (pt_cmpR op_lt (pv 1) (pe_op op_mul pe_int (pv 2)) (nomark _)) (pss_one (ps_ret (pe_tup (pa_cons (pe_call G_triple_by (hr.mono (by decide)) (by rfl) g_triple_by k_triple_by b_triple_by .nil pass0 (pa_cons (pe_tup (pa_cons (pv 2) (pa_cons (pe_op op_sub (pe_op op_mul pe_int (pv 2)) (pv 1)) pa_nil))) pa_nil)) (pa_cons pe_int pa_nil))))) pss_nil) (pss_cons (ps_if (pt_cmpR op_lt (pv 1) (pe_op op_mul pe_int (pv 2)) (nomark _)) (pss_one (ps_ret (pe_tup (pa_cons (pe_call G_triple_by (hr.mono (by decide)) (by rfl) g_triple_by k_triple_by b_triple_by .nil pass0 (pa_cons (pe_tup (pa_cons (pv 2) (pa_cons (pe_op op_sub (pv 1) (pe_op op_mul pe_int (pv 2))) pa_nil))) pa_nil)) (pa_cons pe_int pa_nil))))) pss_nil) (pss_one (ps_ret (pe_tup (pa_cons (pe_call G_triple_by (hr.mono (by decide)) (by rfl) g_triple_by k_triple_by b_triple_by .nil pass0 (pa_cons (pe_tup (pa_cons (pe_op op_sub (pv 1) (pe_op op_mul pe_int (pv 2))) (pa_cons (pv 2) pa_nil))) pa_nil)) (pa_cons pe_int pa_nil)))))))))), ?_⟩
    refine ⟨_, rfl, a, _, rfl, hS, tri_ok hg, c1.mono (by decide), c2.mono (by decide), c3.mono (by decide), fun H1 s1 => ?_⟩
    refine ⟨_, rfl, a, p, rfl, Same.tup s1 hS, hg, hb, fun H2 pa s2 hp => ⟨_, _, rfl, hp, rfl, _, _, rfl, _, _, rfl, rfl, ?_⟩⟩
    have s12 := s1.trans s2
    have m2 : CMul 2 p.2 := .inl ⟨by decide, by decide⟩
    have m3 : CMul 3 p.2 := .inl ⟨by decide, by decide⟩
    by_cases h0 : p = (2, 1)
    · subst h0
      refine ⟨_, rfl, rfl, _, rfl, iteT ⟨_, rfl, rfl, _, rfl, iteT (q0 rfl _ s12)⟩⟩
    · have q1 := q1 h0
      have skip : ∀ (R : Bool → Hp → Prop), R false H2 → tAnd (tTest (tOp rEq (tVar 2) (tC (.int 1)))) (tTest (tOp rEq (tVar 1) (tC (.int 2)))) (((L2.start ["triple", "m", "n"] [V.ref a]).set 1 (some (.int p.1))).set 2 (some (.int p.2))) H2 R := fun R hR => by
        refine ⟨_, rfl, rfl, _, rfl, ?_⟩
        rw [dec_vint]
        refine if_b (fun c => ?_) (fun _ => hR)
        refine ⟨_, rfl, rfl, _, rfl, ?_⟩
        rw [dec_vint]
        have c := of_decide_eq_true c
        rw [decide_eq_false (fun z => h0 (Prod.ext z c))]
        exact hR
      refine skip _ (iteF ?_)
      refine ⟨_, rfl, _, rfl, _, _, rfl, rfl, m2, _, _, rfl, rfl, _, rfl, if_b (fun c => ?_) (fun c => ?_)⟩
      · have c := of_decide_eq_true c
        have e : backOf p = (0, (p.2, 2 * p.2 - p.1)) := by rw [backOf, if_pos c]
        rw [e] at bb1 bb2 q1
        refine ⟨_, rfl, _, rfl, _, _, rfl, rfl, m2, _, rfl, _, _, rfl, rfl, len2, fun t ht => ⟨t, (p.2, 2 * p.2 - p.1), rfl, SqT.of upd_same, bb1, bb2, fun H3 u s3 hu => ⟨len2, fun v hv => q1 _ v u (((s12.trans (same_upd ht)).trans s3).trans (same_upd hv)) (SqT.of upd_same) (Same.tup (same_upd hv) hu)⟩⟩⟩
      · have c := of_decide_eq_false c
        refine ⟨_, rfl, _, rfl, _, _, rfl, rfl, m3, _, _, rfl, rfl, _, rfl, if_b (fun c2 => ?_) (fun c2 => ?_)⟩
        · have c2 := of_decide_eq_true c2
          have e : backOf p = (1, (p.2, p.1 - 2 * p.2)) := by rw [backOf, if_neg c, if_pos c2]
          rw [e] at bb1 bb2 q1
          refine ⟨_, rfl, _, rfl, _, rfl, _, _, rfl, rfl, m2, _, _, rfl, rfl, len2, fun t ht => ⟨t, (p.2, p.1 - 2 * p.2), rfl, SqT.of upd_same, bb1, bb2, fun H3 u s3 hu => ⟨len2, fun v hv => q1 _ v u (((s12.trans (same_upd ht)).trans s3).trans (same_upd hv)) (SqT.of upd_same) (Same.tup (same_upd hv) hu)⟩⟩⟩
        · have c2 := of_decide_eq_false c2
          have e : backOf p = (2, (p.1 - 2 * p.2, p.2)) := by rw [backOf, if_neg c, if_neg c2]
          rw [e] at bb1 bb2 q1
          refine ⟨_, rfl, _, rfl, _, _, rfl, rfl, m2, _, _, rfl, rfl, _, rfl, len2, fun t ht => ⟨t, (p.1 - 2 * p.2, p.2), rfl, SqT.of upd_same, bb1, bb2, fun H3 u s3 hu => ⟨len2, fun v hv => q1 _ v u (((s12.trans (same_upd ht)).trans s3).trans (same_upd hv)) (SqT.of upd_same) (Same.tup (same_upd hv) hu)⟩⟩⟩
/-! ### is_part, of two ints -/
def isPart (s o : Int) : Bool := (decide (0 ≤ s) && decide (s ≤ 2)) && (decide (1 ≤ o) && (!decide (s = 1) || decide (o ≤ 1000)))
theorem isPart_ok {x : Int × Int} (h : PartOk x) : isPart x.1 x.2 = true := by
  obtain ⟨h1, h2, h3, h4⟩ := h
  unfold isPart
  rw [decide_eq_true (show 0 ≤ x.1 by rcases h1 with e | e | e <;> omega), decide_eq_true (show x.1 ≤ 2 by rcases h1 with e | e | e <;> omega), decide_eq_true h2]
  by_cases c : x.1 = 1
  · rw [decide_eq_true (h4 c)]
    simp
  · rw [decide_eq_false c]
    rfl
def sp_is_part (K : PySem.W.Frag) : Sp := fun vs H Q _ => ∃ (a : Addr) (s o : Int), vs = [.ref a] ∧ SqT K H a [.int s, .int o] ∧ ∀ H', Same H H' → Q (.bl (isPart s o)) H'
theorem ok_is_part (B : Bt mg) {tk : Tok} (g_OFTEN : mg "OFTEN" = some (.int 1000 tk)) (D : Is K mg "is_part" s_is_part ["thing"]) (H_is_whole : Has P w K mg base 1 "is_whole" ["thing"] (sp_is_whole K)) : Has P w K mg base 2 "is_part" ["thing"] (sp_is_part K) := by
  obtain ⟨f, fd, F, b, g⟩ := D
  obtain ⟨f_is_whole, fd_is_whole, G_is_whole, k_is_whole, b_is_whole, g_is_whole⟩ := H_is_whole
  refine ⟨f, fd, F.ok sc_is_part (fun vs H Q E h => ?_) (fun cdv A outer s H vs Q E hr h => ?_), F.kp, b, g⟩
  · obtain ⟨a, s, o, rfl, _⟩ := h
    rfl
  · obtain ⟨a, s', o, rfl, hS, q⟩ := h
    refine ⟨_, (pss_cons (ps_if (PW.pt (pw_or (pt_not (pt_val (pe_callB call_isi (by rfl) B.isi (by decide +kernel) (pa_cons (pv 0) (pa_cons (pe_bltn (v := .ty "tuple") (by rfl) B.tuple (by decide +kernel) rfl) pa_nil))))) (pw_or (pt_cmpR op_ne (pe_callB call_len_seq (by rfl) B.len PySem.boot_len (pa_cons (pv 0) pa_nil)) pe_int (nomark _)) (pw_or1 (pt_not (pt_val (pe_callB (cr_all rfl) (by rfl) B.all (by decide +kernel) (pa_cons (pe_lc (own := [("one", 1)]) (g := gName 1) (tt := tYes) rfl sc_is_part.nd (pi_tup (pv 0)) (blkOk_by (N := ["thing", "one"]) (sc := defScope s_is_part) (by decide +kernel)) (fun _ _ _ _ _ => pg_name (i := 1) sc_is_part.nd rfl (Or.inl rfl)) (fun _ _ _ _ _ => pts_nil) (fun _ _ _ _ _ => (pe_call G_is_whole (hr.mono (by decide)) (by rfl) g_is_whole k_is_whole b_is_whole .nil pass0 (pa_cons (pv 1) pa_nil)))) pa_nil)))))))) (pss_one (ps_ret pe_bl)) pss_nil) (pss_one (ps_ret (pe_and (pe_chain op_le op_le pe_int (pe_ix ix_tup (pv 0) pe_int (fun _ _ => rfl)) pe_int) (pe_and (pe_cmpR op_ge (pe_ix ix_tup (pv 0) pe_int (fun _ _ => rfl)) pe_int (nomark _)) (pe_one (pe_or (pe_cmpR op_ne (pe_ix ix_tup (pv 0) pe_int (fun _ _ => rfl)) pe_int (nomark _)) (pe_one (pe_cmpR op_le (pe_ix ix_tup (pv 0) pe_int (fun _ _ => rfl)) (pe_glob (v := .int 1000) rfl g_OFTEN ⟨_, rfl⟩) (nomark _)))))))))), ?_⟩
    have i0 : atI ([.int s', .int o] : List V) 0 = some (.int s') := rfl
    have i1 : atI ([.int s', .int o] : List V) 1 = some (.int o) := rfl
    refine ⟨_, rfl, _, _, _, _, true, rfl, .ty _, tyx_tup hS, kit_ty kb_tup_tup, true, rfl, iteF ?_⟩
    refine ⟨_, rfl, a, _, rfl, .inr hS, rfl, _, rfl, iteF ?_⟩
    refine ⟨_, rfl, a, rfl, ⟨_, hS⟩, fun D nD => lc_over_tup (xs := [.int s', .int o]) (ys := [.bl true, .bl true]) (j := 1) hS nD rfl (by show 2 ≤ 16000000; decide) (fun i x y hx hy => ?_) (fun H1 s1 d1 => ?_)⟩
    · have hz : ∃ z, x = .int z ∧ y = .bl true := by
        match i, hx, hy with
        | 0, hx, hy => exact ⟨s', (Option.some.inj hx).symm, (Option.some.inj hy).symm⟩
        | 1, hx, hy => exact ⟨o, (Option.some.inj hx).symm, (Option.some.inj hy).symm⟩
        | i + 2, hx, hy => simp at hx
      obtain ⟨z, rfl, rfl⟩ := hz
      intro H1 s1 R hR
      exact ⟨_, rfl, .int z, "int", true, false, rfl, .base (.int z), kb_int_int, kb_int_bool, hR _ (Same.refl _)⟩
    · refine ⟨D, [true, true], rfl, SqL.of d1, true, rfl, iteF ?_⟩
      have hS1 := Same.tup s1 hS
      have q := q H1 s1
      unfold isPart at q
      refine ⟨_, rfl, a, _, 0, _, rfl, rfl, hS1, i0, _, _, rfl, rfl, ?_⟩
      refine ⟨_, rfl, ?_⟩
      cases c1 : decide (0 ≤ s') with
      | false =>
        rw [c1] at q
        exact iteF ⟨_, rfl, iteF q⟩
      | true =>
        rw [c1] at q
        refine iteT ⟨_, _, rfl, rfl, ?_⟩
        refine ⟨_, rfl, ?_⟩
        cases c2 : decide (s' ≤ 2) with
        | false =>
          rw [c2] at q
          exact iteF q
        | true =>
          rw [c2] at q
          refine iteT ⟨_, rfl, a, _, 1, _, rfl, rfl, hS1, i1, _, _, rfl, rfl, _, rfl, ?_⟩
          cases c3 : decide (1 ≤ o) with
          | false =>
            rw [c3] at q
            exact iteF q
          | true =>
            rw [c3] at q
            refine iteT ⟨_, rfl, a, _, 0, _, rfl, rfl, hS1, i0, rfl, _, rfl, ?_⟩
            rw [dec_vint]
            cases c4 : decide (s' = 1) with
            | false =>
              rw [c4] at q
              exact iteT q
            | true =>
              rw [c4] at q
              exact iteF ⟨_, rfl, a, _, 1, _, rfl, rfl, hS1, i1, _, _, rfl, rfl, q⟩
end
end SqP

namespace SqP
open PySem PySem.Spec PyProof.Rows L2 Sq
section
variable {P : Program} {w : World} {K : PySem.W.Frag} {mg : Str → Option Value} {base : Heap}
/-! ### by_row, of a row -/
structure RowOk (r : PRow) : Prop where
  part : ∀ x ∈ r, PartOk x
  adj : Adj r
theorem RowOk.good {r : PRow} (h : RowOk r) : Good (behind r) := behind_good (parts_pos h.part)
theorem RowOk.bd {r : PRow} (h : RowOk r) (hl : r.length ≤ 200) : Bd 500000 (behind r).1 := (behind_bd r h.part).mono (by omega)
theorem RowOk.take {r : PRow} (h : RowOk r) (n : Nat) : RowOk (r.take n) := ⟨fun x hx => h.part x (List.mem_of_mem_take hx), adj_take n h.adj⟩
def sp_by_row (K : PySem.W.Frag) : Sp := fun vs H Q _ => ∃ (a : Addr) (r : PRow), vs = [.ref a] ∧ RowAt K H a r ∧ RowOk r ∧ r.length ≤ 200 ∧ ∀ H' q, Same H H' → TrAt K H' q (tri (behind r)) → Q (.ref q) H'
theorem ok_by_row (B : Bt mg) {tk : Tok} (g_MOST : mg "MOST" = some (.int 200 tk)) (D : Is K mg "by_row" s_by_row ["row"]) (H_is_part : Has P w K mg base 2 "is_part" ["thing"] (sp_is_part K)) (H_led : Has P w K mg base 1 "led" ["pair", "step", "often"] (sp_led K)) (H_triple_by : Has P w K mg base 1 "triple_by" ["pair"] (sp_triple_by K)) :
    Has P w K mg base 3 "by_row" ["row"] (sp_by_row K) := by
  obtain ⟨f, fd, F, b, g⟩ := D
  obtain ⟨f_is_part, fd_is_part, G_is_part, k_is_part, b_is_part, g_is_part⟩ := H_is_part
  obtain ⟨f_led, fd_led, G_led, k_led, b_led, g_led⟩ := H_led
  obtain ⟨f_triple_by, fd_triple_by, G_triple_by, k_triple_by, b_triple_by, g_triple_by⟩ := H_triple_by
  refine ⟨f, fd, F.ok sc_by_row (fun vs H Q E h => ?_) (fun cdv A outer s H vs Q E hr h => ?_), F.kp, b, g⟩
  · obtain ⟨a, r, rfl, _⟩ := h
    rfl
  · obtain ⟨a, r, rfl, ⟨ts, hL, hP⟩, ok, hl, q⟩ := h
    have hlt := hP.length
    refine ⟨_, (pss_cons (ps_if (PW.pt (pw_or (pt_not (pt_val (pe_callB call_isi (by rfl) B.isi (by decide +kernel) (pa_cons (pv 0) (pa_cons (pe_bltn (v := .ty "list") (by rfl) B.list (by decide +kernel) rfl) pa_nil))))) (pw_or (pt_cmpR op_gt (pe_callB call_len_seq (by rfl) B.len PySem.boot_len (pa_cons (pv 0) pa_nil)) (pe_glob (v := .int 200) rfl g_MOST ⟨_, rfl⟩) (nomark _)) (pw_or1 (pt_not (pt_val (pe_callB (cr_all rfl) (by rfl) B.all (by decide +kernel) (pa_cons (pe_lc (own := [("part", 4)]) (g := gName 4) (tt := tYes) rfl sc_by_row.nd (pi_list (pv 0)) (blkOk_by (N := ["row", "pair", "step", "often", "part", "at"]) (sc := defScope s_by_row) (by decide +kernel)) (fun _ _ _ _ _ => pg_name (i := 4) sc_by_row.nd rfl (Or.inl rfl)) (fun _ _ _ _ _ => pts_nil) (fun _ _ _ _ _ => (pe_call G_is_part (hr.mono (by decide)) (by rfl) g_is_part k_is_part b_is_part .nil pass0 (pa_cons (pv 4) pa_nil)))) pa_nil)))))))) (pss_one ps_never) pss_nil) (pss_cons (ps_if (pt_val (pe_callB (cr_any rfl) (by rfl) B.any (by decide +kernel) (pa_cons (pe_lc (own := [("at", 5)]) (g := gName 5) (tt := tYes) rfl sc_by_row.nd (pi_range2 (by rfl) B.range (pa_cons pe_int (pa_cons (pe_callB call_len_seq (by rfl) B.len PySem.boot_len (pa_cons (pv 0) pa_nil)) pa_nil))) (blkOk_by (N := ["row", "pair", "step", "often", "part", "at"]) (sc := defScope s_by_row) (by decide +kernel)) (fun _ _ _ _ _ => pg_name (i := 5) sc_by_row.nd rfl (Or.inl rfl)) (fun _ _ _ _ _ => pts_nil) (fun _ _ _ _ _ => (pe_cmpR op_eq (pe_ix (ix_tupK (K := K) rfl) (pe_ix (ix_listK (K := K) rfl) (pv 0) (pe_op op_sub (pv 5) pe_int) (fun _ _ => rfl)) pe_int (fun _ _ => rfl)) (pe_ix (ix_tupK (K := K) rfl) (pe_ix (ix_listK (K := K) rfl) (pv 0) (pv 5) (fun _ _ => rfl)) pe_int (fun _ _ => rfl)) (nomark _)))) pa_nil))) (pss_one ps_never) pss_nil) (pss_cons (ps_set (i := 1) sc_by_row.nd rfl (Or.inl rfl) (pe_tup (pa_cons pe_int (pa_cons pe_int pa_nil)))) (pss_cons (ps_for PassesOwn.never rfl (pi_list (pv 0)) (pg_tup rfl (pgs_cons (pg_name (i := 2) sc_by_row.nd rfl (Or.inl rfl)) (pgs_cons (pg_name (i := 3) sc_by_row.nd rfl (Or.inl rfl)) pgs_nil))) (pss_one (ps_set (i := 1) sc_by_row.nd rfl (Or.inl rfl) (pe_call G_led (hr.mono (by decide)) (by rfl) g_led k_led b_led .nil pass0 (pa_cons (pv 1) (pa_cons (pv 2) (pa_cons (pv 3) pa_nil))))))) (pss_one (ps_ret (pe_call G_triple_by (hr.mono (by decide)) (by rfl) g_triple_by k_triple_by b_triple_by .nil pass0 (pa_cons (pv 1) pa_nil)))))))), ?_⟩
    refine ⟨_, rfl, _, _, _, _, true, rfl, .ty _, tyx_lst hL, kit_ty kb_lst_lst, true, rfl, iteF ?_⟩
    refine ⟨_, rfl, a, _, rfl, .inl hL, _, _, rfl, rfl, _, rfl, ?_⟩
    rw [List.length_map, decide_eq_false (show ¬ (200 : Int) < (ts.length : Int) by omega)]
    refine iteF ?_
    refine ⟨_, rfl, a, rfl, ⟨_, hL⟩, fun D nD => lc_over_lst (xs := ts.map V.ref) (ys := List.replicate ts.length (.bl true)) (j := 4) hL nD (by simp) (by rw [List.length_map]; omega) (fun i x y hx hy => ?_) (fun H1 s1 d1 => ?_)⟩
    · rw [List.getElem?_map] at hx
      have hi : i < ts.length := by
        rw [List.getElem?_replicate] at hy
        split at hy
        · assumption
        · cases hy
      have hy2 : y = .bl true := by
        rw [List.getElem?_replicate, if_pos hi] at hy
        exact (Option.some.inj hy).symm
      obtain ⟨t, ht, hS⟩ := hP.get (i := i) (List.getElem?_eq_getElem (by omega))
      rw [ht] at hx
      cases hx
      subst hy2
      intro H1 s1 R hR
      refine ⟨_, rfl, t, _, _, rfl, Same.tup s1 hS, fun H2 s2 => ?_⟩
      rw [isPart_ok (ok.part _ (List.getElem_mem _))]
      exact hR _ s2
    · refine ⟨D, List.replicate ts.length true, rfl, SqL.of (by rw [d1, List.map_replicate]), true, ?_, iteF ?_⟩
      · rw [show (List.replicate ts.length true).all id = true by simp]
      have hL1 := Same.seq s1 hL
      have hP1 := hP.same s1
      refine ⟨_, rfl, a, _, rfl, .inl hL1, 1, _, rfl, ⟨by omega, by omega, by omega, by rw [List.length_map]; omega⟩, ?_⟩
      rw [List.length_map]
      refine fun D2 nD2 => lc_over_range (lo := 1) (n := ((ts.length : Int) - 1).toNat) (ys := List.replicate ((ts.length : Int) - 1).toNat (.bl false)) (j := 5) nD2 (by simp) (by omega) (fun i y hi hy => ?_) (fun H2 s2 d2 => ?_)
      · have hy2 : y = .bl false := by
          rw [List.getElem?_replicate, if_pos hi] at hy
          exact (Option.some.inj hy).symm
        subst hy2
        intro H2 s2 R hR
        obtain ⟨t1, ht1, hS1⟩ := hP1.get (i := i) (List.getElem?_eq_getElem (by omega))
        obtain ⟨t2, ht2, hS2⟩ := hP1.get (i := i + 1) (List.getElem?_eq_getElem (by omega))
        have m1 : (ts.map V.ref)[i]? = some (.ref t1) := by rw [List.getElem?_map, ht1]; rfl
        have m2 : (ts.map V.ref)[i + 1]? = some (.ref t2) := by rw [List.getElem?_map, ht2]; rfl
        have hL2 := Same.seq s2 hL1
        refine ⟨_, rfl, _, rfl, _, _, rfl, rfl, a, _, _, _, rfl, rfl, hL2, at_of (j := i) (by omega) m1, t1, _, 0, _, rfl, rfl, Same.tup s2 hS1, rfl, ?_⟩
        refine ⟨_, rfl, _, rfl, a, _, _, _, rfl, rfl, hL2, at_of (j := i + 1) (by omega) m2, t2, _, 0, _, rfl, rfl, Same.tup s2 hS2, rfl, rfl, ?_⟩
        rw [dec_vint, decide_eq_false (adj_get ok.adj (List.getElem?_eq_getElem (by omega)) (List.getElem?_eq_getElem (by omega)))]
        exact hR _ (Same.refl _)
      · refine ⟨D2, List.replicate ((ts.length : Int) - 1).toNat false, rfl, SqL.of (by rw [d2, List.map_replicate]), false, ?_, iteF ?_⟩
        · rw [show (List.replicate ((ts.length : Int) - 1).toNat false).any id = false by simp]
        have s12 := s1.trans s2
        have hL2 := Same.seq s2 hL1
        have hP2 := hP1.same s2
        refine ⟨len2, fun t0 ht0 => ?_⟩
        have s3 := same_upd (o := .tup [.int 2, .int 1]) ht0
        refine ⟨_, rfl, a, rfl, ⟨_, Same.seq s3 hL2⟩, for_list (K := K) (a := a) (xs := ts.map V.ref) (fun i σ H' => ∃ (pa : Addr) (v2 v3 v4 v5 : Option V), σ = [some (.ref a), some (.ref pa), v2, v3, v4, v5] ∧ Same H2 H' ∧ PrAt K H' pa (behind (r.take i)))
          ⟨t0, _, _, _, _, rfl, s3, SqT.of upd_same⟩ (fun i σ H' _ ⟨_, _, _, _, _, _, s4, _⟩ => Same.seq s4 hL2) ?_ ?_⟩
        · rintro i x σ H' hx ⟨pa, v2, v3, v4, v5, rfl, s4, hpa⟩
          have hi : i < ts.length := by
            have := (List.getElem?_eq_some_iff.mp hx).1
            rw [List.length_map] at this
            exact this
          obtain ⟨t, ht, hS⟩ := hP2.get (i := i) (List.getElem?_eq_getElem (by omega))
          rw [List.getElem?_map, ht] at hx
          cases hx
          have hS4 := Same.tup s4 hS
          have pk := ok.part _ (List.getElem_mem (show i < r.length by omega))
          have okt := ok.take i
          have bt := okt.bd (by rw [List.length_take]; omega)
          have gt := okt.good
          refine ⟨_, _, rfl, hS4, rfl, _, _, rfl, _, _, rfl, rfl, ?_⟩
          refine ⟨_, rfl, _, rfl, _, rfl, pa, _, _, _, rfl, hpa, pk.1, by have := pk.2.1; omega, (Nat.lt_of_le_of_lt (show (r[i]).2.natAbs ≤ 10 ^ 40 by have := pk.2.1; have := pk.2.2.1; omega) (by decide +kernel)), pk.2.2.2, bt.mono (by decide), (bt.le (by have := gt.1; omega) (by have := gt.2.1; omega)).mono (by decide), fun H5 q5 s5 h5 => ?_⟩
          refine ⟨q5, _, _, _, _, rfl, s4.trans s5, ?_⟩
          rw [behind_take (List.getElem?_eq_getElem (show i < r.length by omega))]
          exact h5
        · rintro σ H' ⟨pa, v2, v3, v4, v5, rfl, s4, hpa⟩
          rw [List.length_map, hlt, List.take_length] at hpa
          have bt := ok.bd hl
          have gt := ok.good
          exact ⟨_, rfl, pa, _, rfl, hpa, bt.mono (by decide), (bt.le (by have := gt.1; omega) (by have := gt.2.1; omega)).mono (by decide), fun H5 q5 s5 h5 => q _ _ ((s12.trans s4).trans s5) h5⟩
/-! ### row_of -/
def sp_row_of (K : PySem.W.Frag) : Sp := fun vs H Q _ => ∃ (a : Addr) (r : PRow), vs = [.ref a] ∧ TrAt K H a (tri (behind r)) ∧ Pos r ∧ Adj r ∧ r.length ≤ 1000 ∧ Bd 1000000 (behind r).1 ∧
  ∀ H' q (ts : List Addr), Same H H' → H q = none → H' q = some (.lst (ts.map V.ref)) → Parts K H' ts r → Q (.ref q) H'
theorem set_end {α : Type} (l : List α) (x y : α) : (l ++ [x]).set l.length y = l ++ [y] := by
  rw [List.set_append_right _ _ (Nat.le_refl _), Nat.sub_self]
  rfl
theorem ixN_end {α : Type} (l : List α) (x : α) : ixN (l ++ [x]).length (-1) = some l.length := by
  unfold ixN
  rw [List.length_append, List.length_singleton, if_neg (by decide), if_pos (by omega)]
  congr 1
  omega
theorem ok_row_of (B : Bt mg) (D : Is K mg "row_of" s_row_of ["triple"]) (H_check_triple : Has P w K mg base 4 "check_triple" ["triple"] (sp_check_triple K)) (H_pair_by : Has P w K mg base 34 "pair_by" ["triple"] (sp_pair_by K)) (H_last_of : Has P w K mg base 33 "last_of" ["pair"] (sp_last_of K)) :
    Has P w K mg base 35 "row_of" ["triple"] (sp_row_of K) := by
  obtain ⟨f, fd, F, b, g⟩ := D
  obtain ⟨f_check_triple, fd_check_triple, G_check_triple, k_check_triple, b_check_triple, g_check_triple⟩ := H_check_triple
  obtain ⟨f_pair_by, fd_pair_by, G_pair_by, k_pair_by, b_pair_by, g_pair_by⟩ := H_pair_by
  obtain ⟨f_last_of, fd_last_of, G_last_of, k_last_of, b_last_of, g_last_of⟩ := H_last_of
  refine ⟨f, fd, F.ok sc_row_of (fun vs H Q E h => ?_) (fun cdv A outer s H vs Q E hr h => ?_), F.kp, b, g⟩
  · obtain ⟨a, r, rfl, _⟩ := h
    rfl
  · obtain ⟨a, r, rfl, hS, hp, ha, hl, hb, q⟩ := h
    have hg := behind_good hp
    obtain ⟨c1, c2, c3⟩ := tri_bd hg hb
    refine ⟨_, (pss_cons (ps_expr (pe_call G_check_triple (hr.mono (by decide)) (by rfl) g_check_triple k_check_triple b_check_triple .nil pass0 (pa_cons (pv 0) pa_nil))) (pss_cons (ps_set (i := 1) sc_row_of.nd rfl (Or.inl rfl) (pe_call G_pair_by (hr.mono (by decide)) (by rfl) g_pair_by k_pair_by b_pair_by .nil pass0 (pa_cons (pv 0) pa_nil))) (pss_cons (ps_set (i := 2) sc_row_of.nd rfl (Or.inl rfl) (pe_lst pa_nil)) (pss_cons (ps_while PassesOwn.never (pt_cmpR (op_neD hr.units) (pv 1) (pe_tup (pa_cons pe_int (pa_cons pe_int pa_nil))) (nomark _)) (pss_cons (ps_asg (pe_call G_last_of (hr.mono (by decide)) (by rfl) g_last_of k_last_of b_last_of .nil pass0 (pa_cons (pv 1) pa_nil)) (pg_tup rfl (pgs_cons (pg_name (i := 3) sc_row_of.nd rfl (Or.inl rfl)) (pgs_cons (pg_name (i := 4) sc_row_of.nd rfl (Or.inl rfl)) (pgs_cons (pg_name (i := 1) sc_row_of.nd rfl (Or.inl rfl)) pgs_nil))))) (pss_one (ps_if (PW.pt (pw_and (pt_cmpR op_gt (pe_callB call_len_seq (by rfl) B.len PySem.boot_len (pa_cons (pv 2) pa_nil)) pe_int (nomark _)) (pw_and1 (pt_cmpR op_eq (pe_ix ix_tup (pe_ix ix_list (pv 2) (pe_un un_neg pe_int) (fun _ _ => rfl)) pe_int (fun _ _ => rfl)) (pv 3) (nomark _))))) (pss_one (ps_asg (pe_tup (pa_cons (pv 3) (pa_cons (pe_op op_add (pe_ix ix_tup (pe_ix ix_list (pv 2) (pe_un un_neg pe_int) (fun _ _ => rfl)) pe_int (fun _ _ => rfl)) (pv 4)) pa_nil))) (pg_sub (pv 2) (pe_un un_neg pe_int) set_list))) (pss_one (ps_expr (pe_bm PySem.F.plainAttrs_list PySem.F.slot_list_append PySem.F.type_list_append mt_append (pv 2) (pa_cons (pe_tup (pa_cons (pv 3) (pa_cons (pv 4) pa_nil))) pa_nil)))))))) (pss_one (ps_ret (pe_revL (pv 2)))))))), ?_⟩
    refine ⟨_, rfl, a, _, rfl, hS, tri_ok hg, c1.mono (by decide), c2.mono (by decide), c3.mono (by decide), fun H1 s1 => ?_⟩
    refine ⟨_, rfl, a, _, rfl, Same.tup s1 hS, hg, hb, fun H2 pa s2 hpa => ?_⟩
    have s12 := s1.trans s2
    refine ⟨Nat.zero_le _, fun fo nfo => ?_⟩
    have nfo0 : H fo = none := s12.free nfo
    have s3 := same_upd (o := .lst []) nfo
    refine ⟨fun m σ H' => ∃ (pb : Addr) (sv ov : Option V) (p : Pr) (g : PRow) (w : List Int) (rs : List Addr), σ = [some (.ref a), some (.ref pb), some (.ref fo), sv, ov] ∧ m = w.length ∧ Turns r g p w ∧ Same H H' ∧ PrAt K H' pb p ∧ H' fo = some (.lst (rs.reverse.map V.ref)) ∧ Parts K H' rs g ∧ Bd 1000000 p.1,
      ⟨_, pa, none, none, behind r, [], ex r, [], rfl, rfl, turns_start hp, s12.trans s3, Same.tup s3 hpa, upd_same, trivial, hb⟩, ?_⟩
    rintro m σ H' ⟨pb, sv, ov, p, g, w', rs, rfl, rfl, tu, s4, hpb, hfo, hpt, hbp⟩
    refine ⟨_, rfl, len2, fun t0 ht0 => ?_⟩
    have s5 := same_upd (o := .tup [.int 2, .int 1]) ht0
    have hpb5 := Same.tup s5 hpb
    refine ⟨_, _, two_dp hpb5, two_dp (SqT.of upd_same), two_shaped _ _, two_shaped _ _, _, rfl, ?_⟩
    rw [two_eqv]
    have fin : ∀ (q' : Pr), Same H (upd H' t0 (.tup [.int 2, .int 1])) := fun _ => s4.trans s5
    have s45 := s4.trans s5
    have hfo5 := s5 _ _ hfo
    have hpt5 := hpt.same s5
    generalize upd H' t0 (.tup [.int 2, .int 1]) = H5 at *
    by_cases h0 : p = (2, 1)
    · subst h0
      rw [show (!(decide ((2 : Int) = 2) && decide ((1 : Int) = 1))) = false by decide]
      refine iteF ?_
      have eg := turns_end tu hp ha
      subst eg
      refine ⟨_, rfl, fo, _, rfl, SqL.of hfo5, fun z nz => ?_⟩
      refine q _ z rs (s45.trans (same_upd nz)) (s45.free nz) ?_ (hpt5.same (same_upd nz))
      rw [upd_same, ← List.map_reverse, List.reverse_reverse]
    · have e0 : (!(decide (p.1 = 2) && decide (p.2 = 1))) = true := by
        by_cases c1 : p.1 = 2
        · rw [decide_eq_false (show ¬ p.2 = 1 from fun c2 => h0 (Prod.ext c1 c2))]
          simp
        · rw [decide_eq_false c1]
          rfl
      rw [e0]
      refine iteT ?_
      have gp := turns_good tu
      obtain ⟨w2, lw, tu2⟩ := turns_next tu h0
      have bl2 : Bd 1000000 (lastOf p).2.2.1 := by
        obtain ⟨k1, k2, k3, k4⟩ := last_ok gp h0
        refine hbp.le (by have := k3.1; have := k3.2.1; omega) (last_le gp h0)
      refine ⟨fun σ' H2 => ∃ m', m' < w'.length ∧ ∃ (pb : Addr) (sv ov : Option V) (p : Pr) (g : PRow) (w : List Int) (rs : List Addr), σ' = [some (.ref a), some (.ref pb), some (.ref fo), sv, ov] ∧ m' = w.length ∧ Turns r g p w ∧ Same H H2 ∧ PrAt K H2 pb p ∧ H2 fo = some (.lst (rs.reverse.map V.ref)) ∧ Parts K H2 rs g ∧ Bd 1000000 p.1, fun _ _ h => h, ?_⟩
      refine ⟨_, rfl, pb, p, rfl, hpb5, gp.1, gp.2.1, hbp, fun H6 x y s6 hx hy => ?_⟩
      refine ⟨_, _, rfl, hx, rfl, _, _, rfl, _, _, rfl, _, _, rfl, rfl, ?_⟩
      have hfo6 := s6 _ _ hfo5
      have hpt6 := hpt5.same s6
      have s06 := s45.trans s6
      have hll := turns_len tu hp ha
      have hpl := hpt6.length
      refine ⟨_, rfl, fo, _, rfl, .inl (SqL.of hfo6), _, _, rfl, rfl, _, rfl, ?_⟩
      have app : g = [] ∨ (∃ z g', g = z :: g' ∧ ¬ z.1 = (lastOf p).1) → tDrop (tBM K "list" rAppend (tVar 2) (tCons (tTup (tCons (tVar 3) (tCons (tVar 4) tNil))) tNil)) { nx := fun σ' H2 => ∃ m', m' < w'.length ∧ ∃ (pb : Addr) (sv ov : Option V) (p : Pr) (g : PRow) (w : List Int) (rs : List Addr), σ' = [some (.ref a), some (.ref pb), some (.ref fo), sv, ov] ∧ m' = w.length ∧ Turns r g p w ∧ Same H H2 ∧ PrAt K H2 pb p ∧ H2 fo = some (.lst (rs.reverse.map V.ref)) ∧ Parts K H2 rs g ∧ Bd 1000000 p.1, rt := Q } [some (.ref a), some (.ref y), some (.ref fo), some (.int (lastOf p).1), some (.int (lastOf p).2.1)] H6 := fun hc => by
        refine ⟨_, rfl, .inl ⟨rfl, _, SqL.of hfo6⟩, _, rfl, _, rfl, len2, fun t ht => ?_⟩
        have s7 := same_upd (o := .tup [.int (lastOf p).1, .int (lastOf p).2.1]) ht
        refine ⟨fo, _, _, rfl, rfl, s7 _ _ hfo6, small1000 (by rw [List.length_map, List.length_reverse]; omega), ?_⟩
        have s8 : Same (upd H6 t (.tup [.int (lastOf p).1, .int (lastOf p).2.1])) (upd H6 t (.tup [.int (lastOf p).1, .int (lastOf p).2.1])) := Same.refl _
        refine ⟨_, lw, y, _, _, _, _, _, t :: rs, rfl, rfl, tu2, same_new nfo0 (s06.trans s7), ?_, ?_, ?_, bl2⟩
        · exact tup_keep (hfo := s7 _ _ hfo6) (Same.tup s7 hy)
        · rw [upd_same, List.reverse_cons, List.map_append]
          rfl
        · have ef : front (lastOf p).1 (lastOf p).2.1 g = ((lastOf p).1, (lastOf p).2.1) :: g := by
            rcases hc with e | ⟨z, g', e, ne⟩
            · rw [e]
              rfl
            · rw [e, front_ne ne]
          rw [ef]
          exact ⟨tup_keep (hfo := s7 _ _ hfo6) (SqT.of upd_same), parts_keep (hfo := s7 _ _ hfo6) (hpt6.same s7)⟩
      cases g with
      | nil =>
        cases rs with
        | cons _ _ => exact hpt.elim
        | nil =>
          refine iteF ?_
          exact app (.inl rfl)
      | cons z g' =>
        cases rs with
        | nil => exact hpt.elim
        | cons t rs' =>
          have hpos : decide ((0 : Int) < (((t :: rs').reverse.map V.ref).length : Int)) = true := decide_eq_true (by rw [List.length_map, List.length_reverse, List.length_cons]; omega)
          rw [hpos]
          refine iteT ?_
          have el : (t :: rs').reverse.map V.ref = rs'.reverse.map V.ref ++ [V.ref t] := by
            rw [List.reverse_cons, List.map_append]
            rfl
          rw [el] at hfo6
          have hz := hpt6.1
          refine ⟨_, rfl, _, rfl, fo, _, _, _, rfl, rfl, SqL.of hfo6, atI_last _ _, t, _, 0, _, rfl, rfl, hz, rfl, _, rfl, rfl, _, rfl, ?_⟩
          rw [dec_vint]
          by_cases c : z.1 = (lastOf p).1
          · rw [decide_eq_true c]
            refine iteT ?_
            refine ⟨_, rfl, _, rfl, _, rfl, fo, _, _, _, rfl, rfl, SqL.of hfo6, atI_last _ _, t, _, 1, _, rfl, rfl, hz, rfl, _, rfl, _, _, rfl, rfl, len2, fun t2 ht2 => ?_⟩
            have s7 := same_upd (o := .tup [.int (lastOf p).1, .int (z.2 + (lastOf p).2.1)]) ht2
            refine ⟨_, rfl, _, rfl, fo, _, _, _, rfl, rfl, s7 _ _ hfo6, ixN_end _ _, ?_⟩
            rw [set_end]
            refine ⟨_, lw, y, _, _, _, _, _, t2 :: rs', rfl, rfl, tu2, same_new nfo0 (s06.trans s7), tup_keep (hfo := s7 _ _ hfo6) (Same.tup s7 hy), ?_, ?_, bl2⟩
            · rw [upd_same, List.reverse_cons, List.map_append]
              rfl
            · rw [front_eq c]
              exact ⟨tup_keep (hfo := s7 _ _ hfo6) (SqT.of upd_same), parts_keep (hfo := s7 _ _ hfo6) (hpt6.2.same s7)⟩
          · rw [decide_eq_false c]
            refine iteF ?_
            rw [← el] at hfo6
            exact app (.inr ⟨z, g', rfl, c⟩)
end
end SqP

namespace SqP
open PySem PySem.Spec PyProof.Rows L2 Sq
abbrev s__law_cell_at : Stmt := topS 27
theorem sc__law_cell_at : FnScope ["_law_script", "_law_k"] ["_law_script", "_law_k"] (defScope s__law_cell_at) := ⟨rfl, rfl, rfl, by decide +kernel, rfl, by decide +kernel, by decide +kernel⟩
abbrev s__law_draw : Stmt := topS 28
theorem sc__law_draw : FnScope ["_law_cell", "_law_k", "_law_many", "_law_primes"] ["_law_cell", "_law_k", "_law_many"] (defScope s__law_draw) := ⟨rfl, rfl, rfl, by decide +kernel, rfl, by decide +kernel, by decide +kernel⟩
abbrev s__law_triple : Stmt := topS 29
theorem sc__law_triple : FnScope ["_law_pair", "_law_m", "_law_n"] ["_law_pair"] (defScope s__law_triple) := ⟨rfl, rfl, rfl, by decide +kernel, rfl, by decide +kernel, by decide +kernel⟩
abbrev s__law_common : Stmt := topS 30
theorem sc__law_common : FnScope ["_law_one", "_law_other"] ["_law_one", "_law_other"] (defScope s__law_common) := ⟨rfl, rfl, rfl, by decide +kernel, rfl, by decide +kernel, by decide +kernel⟩
abbrev s__law_right : Stmt := topS 31
theorem sc__law_right : FnScope ["_law_m", "_law_n", "_law_triple_here", "_law_row", "_law_steps", "_law_now", "_law_come", "_law_step", "_law_told", "_law_often"] ["_law_m", "_law_n"] (defScope s__law_right) := ⟨rfl, rfl, rfl, by decide +kernel, rfl, by decide +kernel, by decide +kernel⟩
abbrev s_law : Stmt := topS 32
theorem sc_law : FnScope ["_law_script", "_law_most", "_law_rows", "_law_m", "_law_n", "_law_row"] ["_law_script"] (defScope s_law) := ⟨rfl, rfl, rfl, by decide +kernel, rfl, by decide +kernel, by decide +kernel⟩
section
variable {P : Program} {w : World} {K : PySem.W.Frag} {mg : Str → Option Value} {base : Heap}
def sp_cell_at (K : PySem.W.Frag) : Sp := fun vs H Q _ => ∃ (a : Addr) (ns : List Int) (k : Nat), vs = [.ref a, .int k] ∧ SqL K H a (ns.map V.int) ∧ ns.length ≤ 1000 ∧ ∀ c : Int, (c ∈ ns ∨ c = 0) → Q (.int c) H
theorem ok__law_cell_at (B : Bt mg) (D : Is K mg "_law_cell_at" s__law_cell_at ["_law_script", "_law_k"]) : Has P w K mg base 1 "_law_cell_at" ["_law_script", "_law_k"] (sp_cell_at K) := by
  obtain ⟨f, fd, F, b, g⟩ := D
  refine ⟨f, fd, F.ok sc__law_cell_at (fun vs H Q E h => ?_) (fun cdv A outer s H vs Q E hr h => ?_), F.kp, b, g⟩
  · obtain ⟨a, ns, k, rfl, _⟩ := h
    rfl
  · obtain ⟨a, ns, k, rfl, hS, hl, q⟩ := h
    refine ⟨_, (pss_cons (ps_if (pt_cmpR op_lt (pv 1) (pe_callB call_len_seq (by rfl) B.len PySem.boot_len (pa_cons (pv 0) pa_nil)) (nomark _)) (pss_one (ps_ret (pe_ix ix_list (pv 0) (pv 1) (fun _ _ => rfl)))) pss_nil) (pss_one (ps_ret pe_int))), ?_⟩
    refine ⟨_, rfl, _, rfl, a, _, rfl, .inl hS, _, _, rfl, rfl, _, rfl, if_b (fun c => ?_) (fun c => ?_)⟩
    · have c := of_decide_eq_true c
      rw [List.length_map] at c
      have hk : k < ns.length := by omega
      refine ⟨_, rfl, _, rfl, a, _, _, _, rfl, rfl, hS, atI_nat (v := .int ns[k]) ?_, q _ (.inl (List.getElem_mem hk))⟩
      rw [List.getElem?_map, List.getElem?_eq_getElem hk]
      rfl
    · exact q 0 (.inr rfl)

/-! ### the law's draws -/
def sp_draw : Sp := fun vs H Q _ => ∃ c k m : Int, vs = [.int c, .int k, .int m] ∧ 0 < m ∧ ∀ H' r, Same H H' → 0 ≤ r → r < m → Q (.int r) H'
theorem ok__law_draw (D : Is K mg "_law_draw" s__law_draw ["_law_cell", "_law_k", "_law_many"]) : Has P w K mg base 1 "_law_draw" ["_law_cell", "_law_k", "_law_many"] sp_draw := by
  obtain ⟨f, fd, F, b, g⟩ := D
  refine ⟨f, fd, F.ok sc__law_draw (fun vs H Q E h => ?_) (fun cdv A outer s H vs Q E hr h => ?_), F.kp, b, g⟩
  · obtain ⟨c, k, m, rfl, _⟩ := h
    rfl
  · obtain ⟨c, k, m, rfl, hm, q⟩ := h
    refine ⟨_, (pss_cons (ps_set (i := 3) sc__law_draw.nd rfl (Or.inl rfl) (pe_tup (pa_cons pe_int (pa_cons pe_int (pa_cons pe_int (pa_cons pe_int (pa_cons pe_int (pa_cons pe_int (pa_cons pe_int (pa_cons pe_int (pa_cons pe_int (pa_cons pe_int (pa_cons pe_int (pa_cons pe_int (pa_cons pe_int (pa_cons pe_int (pa_cons pe_int (pa_cons pe_int pa_nil)))))))))))))))))) (pss_one (ps_ret (pe_op op_mod (pe_op op_mod (pe_op op_add (pe_op op_mul (pv 0) pe_int) (pe_op op_mul (pv 1) pe_int)) (pe_ix ix_tup (pv 3) (pe_op op_mod (pv 1) pe_int) (fun _ _ => rfl))) (pv 2))))), ?_⟩
    refine ⟨by show 16 ≤ sizeLine; decide, fun t ht => ?_⟩
    refine ⟨_, rfl, _, _, rfl, rfl, .inr ⟨by decide, by decide⟩, _, rfl, _, _, rfl, rfl, .inr ⟨by decide, by decide⟩, _, _, rfl, rfl, ?_⟩
    refine ⟨_, rfl, _, rfl, _, _, rfl, rfl, (by decide : (0 : Int) < 16), ?_⟩
    have e1 := Int.emod_nonneg k (show (16 : Int) ≠ 0 by decide)
    have e2 := Int.emod_lt_of_pos k (show (0 : Int) < 16 by decide)
    obtain ⟨j, hj⟩ : ∃ j : Nat, k % 16 = (j : Int) := ⟨(k % 16).toNat, by omega⟩
    have hj2 : j < 16 := by omega
    have hv : ∃ v : Int, ([.int 1000003, .int 1000033, .int 1000037, .int 1000039, .int 1000081, .int 1000099, .int 1000117, .int 1000121, .int 1000133, .int 1000151, .int 1000159, .int 1000171, .int 1000183, .int 1000187, .int 1000193, .int 1000199] : List V)[j]? = some (.int v) ∧ 0 < v := by
      match j, hj2 with
      | 0, _ => exact ⟨_, rfl, by decide⟩
      | 1, _ => exact ⟨_, rfl, by decide⟩
      | 2, _ => exact ⟨_, rfl, by decide⟩
      | 3, _ => exact ⟨_, rfl, by decide⟩
      | 4, _ => exact ⟨_, rfl, by decide⟩
      | 5, _ => exact ⟨_, rfl, by decide⟩
      | 6, _ => exact ⟨_, rfl, by decide⟩
      | 7, _ => exact ⟨_, rfl, by decide⟩
      | 8, _ => exact ⟨_, rfl, by decide⟩
      | 9, _ => exact ⟨_, rfl, by decide⟩
      | 10, _ => exact ⟨_, rfl, by decide⟩
      | 11, _ => exact ⟨_, rfl, by decide⟩
      | 12, _ => exact ⟨_, rfl, by decide⟩
      | 13, _ => exact ⟨_, rfl, by decide⟩
      | 14, _ => exact ⟨_, rfl, by decide⟩
      | 15, _ => exact ⟨_, rfl, by decide⟩
      | n + 16, h => omega
    obtain ⟨v, hv1, hv2⟩ := hv
    refine ⟨t, _, _, _, rfl, rfl, SqT.of upd_same, at_of hj hv1, _, _, rfl, rfl, hv2, _, rfl, _, _, rfl, rfl, hm, ?_⟩
    exact q _ _ (same_upd ht) (Int.emod_nonneg _ (by omega)) (Int.emod_lt_of_pos _ hm)

theorem ok__law_triple (D : Is K mg "_law_triple" s__law_triple ["_law_pair"]) : Has P w K mg base 1 "_law_triple" ["_law_pair"] (sp_triple_by K) := by
  obtain ⟨f, fd, F, b, g⟩ := D
  refine ⟨f, fd, F.ok sc__law_triple (fun vs H Q E h => ?_) (fun cdv A outer s H vs Q E hr h => ?_), F.kp, b, g⟩
  · obtain ⟨a, p, rfl, _⟩ := h
    rfl
  · obtain ⟨a, p, rfl, hS, hm, hn, q⟩ := h
    refine ⟨_, (pss_cons (ps_asg (pv 0) (pg_tup rfl (pgs_cons (pg_name (i := 1) sc__law_triple.nd rfl (Or.inl rfl)) (pgs_cons (pg_name (i := 2) sc__law_triple.nd rfl (Or.inl rfl)) pgs_nil)))) (pss_one (ps_ret (pe_tup (pa_cons (pe_op op_sub (pe_op op_mulX (pv 1) (pv 1)) (pe_op op_mulX (pv 2) (pv 2))) (pa_cons (pe_op op_mulX (pe_op op_mul pe_int (pv 1)) (pv 2)) (pa_cons (pe_op op_add (pe_op op_mulX (pv 1) (pv 1)) (pe_op op_mulX (pv 2) (pv 2))) pa_nil))))))), ?_⟩
    refine ⟨_, rfl, _, _, rfl, hS, rfl, _, _, rfl, _, _, rfl, rfl, ?_⟩
    walk_at "rd"
    refine ⟨len3, new_tup (K := K) fun H1 t s1 t1 => q _ _ s1 t1⟩

theorem ok__law_common (D : Is K mg "_law_common" s__law_common ["_law_one", "_law_other"]) : Has P w K mg base 1 "_law_common" ["_law_one", "_law_other"] sp_common := by
  obtain ⟨f, fd, F, b, g⟩ := D
  refine ⟨f, fd, F.ok sc__law_common (fun vs H Q E h => ?_) (fun cdv A outer s H vs Q E hr h => ?_), F.kp, b, g⟩
  · obtain ⟨a, b, rfl, _⟩ := h
    rfl
  · obtain ⟨a, b, rfl, ha, hb, q⟩ := h
    refine ⟨_, (pss_cons (ps_while PassesOwn.never (pt_cmpR op_gt (pv 1) pe_int (nomark _)) (pss_one (ps_par (i := 0) (j := 1) rfl sc__law_common.nd rfl rfl (by decide) rfl rfl (pa_cons (pv 1) (pa_cons (pe_op op_mod (pv 0) (pv 1)) pa_nil)) (by rfl)))) (pss_one (ps_ret (pv 0)))), ?_⟩
    refine ⟨fun m σ H' => ∃ x y : Int, σ = [some (.int x), some (.int y)] ∧ m = y.toNat ∧ 0 ≤ x ∧ 0 ≤ y ∧ Int.gcd x y = Int.gcd a b ∧ H' = H, ⟨_, a, b, rfl, rfl, ha, hb, rfl, rfl⟩, ?_⟩
    rintro m σ H' ⟨x, y, rfl, rfl, hx, hy, hg, rfl⟩
    refine ⟨_, rfl, _, _, rfl, rfl, _, rfl, if_b (fun c => ?_) (fun c => ?_)⟩
    · have c := of_decide_eq_true c
      refine ⟨fun σ' H2 => ∃ m', m' < y.toNat ∧ ∃ x1 y1 : Int, σ' = [some (.int x1), some (.int y1)] ∧ m' = y1.toNat ∧ 0 ≤ x1 ∧ 0 ≤ y1 ∧ Int.gcd x1 y1 = Int.gcd a b ∧ H2 = H', fun _ _ h => h, ?_⟩
      refine ⟨_, rfl, _, rfl, _, rfl, _, _, rfl, rfl, c, _, _, rfl, ?_⟩
      have e1 := Int.emod_nonneg x (show y ≠ 0 by omega)
      have e2 := Int.emod_lt_of_pos x c
      refine ⟨_, ?_, y, x % y, rfl, rfl, hy, e1, ?_, rfl⟩
      · omega
      · rw [← hg]
        have := Int.mul_ediv_add_emod x y
        rw [Int.gcd_comm x y]
        conv => rhs; rw [← this]
        rw [Int.add_comm, Int.gcd_add_mul_left_right]
    · have c := of_decide_eq_false c
      have e : y = 0 := by omega
      subst e
      refine ⟨_, rfl, ?_⟩
      rw [← hg, Int.gcd_zero_right] at q
      have e2 : ((x.natAbs : Nat) : Int) = x := Int.natAbs_of_nonneg hx
      rw [e2] at q
      exact q

/-! ### _law_right -/
theorem bd_900 {x : Int} {k : Nat} (h0 : -900 ≤ x) (h : x ≤ 900) (hk : 64 ≤ k) : Bd k x := (bd_small (k := 64) (show x.natAbs < 2 ^ 64 by omega)).mono hk
theorem ex_take {r : PRow} {i : Nat} {x : Int × Int} (h : r[i]? = some x) : ex (r.take (i + 1)) = ex (r.take i) ++ List.replicate x.2.toNat x.1 := by
  rw [List.take_add_one, h, ex_app]
  show ex (r.take i) ++ (List.replicate x.2.toNat x.1 ++ []) = _
  rw [List.append_nil]
theorem ex_take_len (r : PRow) (i : Nat) : (ex (r.take i)).length ≤ (ex r).length := by
  conv => rhs; rw [← List.take_append_drop i r, ex_app, List.length_append]
  omega
def sp_right (K : PySem.W.Frag) : Sp := fun vs H Q _ => ∃ p : Pr, vs = [.int p.1, .int p.2] ∧ Good p ∧ p.1 ≤ 100 ∧ ∀ H', Same H H' → Q (.bl true) H'
theorem ok__law_right (B : Bt mg) (D : Is K mg "_law_right" s__law_right ["_law_m", "_law_n"]) (H_triple_of : Has P w K mg base 4 "triple_of" ["pair"] (sp_triple_of K)) (H__law_triple : Has P w K mg base 1 "_law_triple" ["_law_pair"] (sp_triple_by K)) (H_pair_of : Has P w K mg base 35 "pair_of" ["triple"] (sp_pair_of K)) (H_row_of : Has P w K mg base 35 "row_of" ["triple"] (sp_row_of K)) (H_by_row : Has P w K mg base 3 "by_row" ["row"] (sp_by_row K)) (H_back : Has P w K mg base 35 "back" ["triple"] (sp_back K)) :
    Has P w K mg base 36 "_law_right" ["_law_m", "_law_n"] (sp_right K) := by
  obtain ⟨f, fd, F, b, g⟩ := D
  obtain ⟨f_triple_of, fd_triple_of, G_triple_of, k_triple_of, b_triple_of, g_triple_of⟩ := H_triple_of
  obtain ⟨f__law_triple, fd__law_triple, G__law_triple, k__law_triple, b__law_triple, g__law_triple⟩ := H__law_triple
  obtain ⟨f_pair_of, fd_pair_of, G_pair_of, k_pair_of, b_pair_of, g_pair_of⟩ := H_pair_of
  obtain ⟨f_row_of, fd_row_of, G_row_of, k_row_of, b_row_of, g_row_of⟩ := H_row_of
  obtain ⟨f_by_row, fd_by_row, G_by_row, k_by_row, b_by_row, g_by_row⟩ := H_by_row
  obtain ⟨f_back, fd_back, G_back, k_back, b_back, g_back⟩ := H_back
  refine ⟨f, fd, F.ok sc__law_right (fun vs H Q E h => ?_) (fun cdv A outer s H vs Q E hr h => ?_), F.kp, b, g⟩
  · obtain ⟨p, rfl, _⟩ := h
    rfl
  · obtain ⟨p, rfl, hg, hp, q⟩ := h
    obtain ⟨r, rok, radj, ebr, rl, rl2, exl⟩ := row_of_pair hg (by omega)
    subst ebr
    have hp1 := hg.1
    have hp2 := hg.2.1
    have b1 : Bd 1000000 (behind r).1 := bd_900 (by omega) (by omega) (by decide)
    have b2 : Bd 1000000 (behind r).2 := bd_900 (by omega) (by omega) (by decide)
    refine ⟨_, (pss_cons (ps_set (i := 2) sc__law_right.nd rfl (Or.inl rfl) (pe_call G_triple_of (hr.mono (by decide)) (by rfl) g_triple_of k_triple_of b_triple_of .nil pass0 (pa_cons (pe_tup (pa_cons (pv 0) (pa_cons (pv 1) pa_nil))) pa_nil))) (pss_cons (ps_if (PW.pt (pw_or (pt_cmpR (op_neD hr.units) (pv 2) (pe_call G__law_triple (hr.mono (by decide)) (by rfl) g__law_triple k__law_triple b__law_triple .nil pass0 (pa_cons (pe_tup (pa_cons (pv 0) (pa_cons (pv 1) pa_nil))) pa_nil)) (nomark _)) (pw_or1 (pt_cmpR (op_neD hr.units) (pe_call G_pair_of (hr.mono (by decide)) (by rfl) g_pair_of k_pair_of b_pair_of .nil pass0 (pa_cons (pv 2) pa_nil)) (pe_tup (pa_cons (pv 0) (pa_cons (pv 1) pa_nil))) (nomark _))))) (pss_one (ps_ret pe_bl)) pss_nil) (pss_cons (ps_set (i := 3) sc__law_right.nd rfl (Or.inl rfl) (pe_call G_row_of (hr.mono (by decide)) (by rfl) g_row_of k_row_of b_row_of .nil pass0 (pa_cons (pv 2) pa_nil))) (pss_cons (ps_if (pt_cmpR (op_neD hr.units) (pe_call G_by_row (hr.mono (by decide)) (by rfl) g_by_row k_by_row b_by_row .nil pass0 (pa_cons (pv 3) pa_nil)) (pv 2) (nomark _)) (pss_one (ps_ret pe_bl)) pss_nil) (pss_cons (ps_par (i := 4) (j := 5) rfl sc__law_right.nd rfl rfl (by decide) rfl rfl (pa_cons (pe_lst pa_nil) (pa_cons (pv 2) pa_nil)) (by rfl)) (pss_cons (ps_while PassesOwn.never (pt_cmpR (op_neD hr.units) (pv 5) (pe_tup (pa_cons pe_int (pa_cons pe_int (pa_cons pe_int pa_nil)))) (nomark _)) (pss_cons (ps_set (i := 6) sc__law_right.nd rfl (Or.inl rfl) (pe_call G_back (hr.mono (by decide)) (by rfl) g_back k_back b_back .nil pass0 (pa_cons (pv 5) pa_nil))) (pss_cons (ps_if (PW.pt (pw_or (pt_cmpR op_isN (pv 6) pe_non (nomark _)) (pw_or1 (pt_cmpR op_gt (pe_callB call_len_seq (by rfl) B.len PySem.boot_len (pa_cons (pv 4) pa_nil)) (pv 0) (nomark _))))) (pss_one (ps_ret pe_bl)) pss_nil) (pss_cons (ps_asg (pv 6) (pg_tup rfl (pgs_cons (pg_name (i := 5) sc__law_right.nd rfl (Or.inl rfl)) (pgs_cons (pg_name (i := 7) sc__law_right.nd rfl (Or.inl rfl)) pgs_nil)))) (pss_one (ps_expr (pe_bm PySem.F.plainAttrs_list PySem.F.slot_list_append PySem.F.type_list_append mt_append (pv 4) (pa_cons (pv 7) pa_nil)))))))) (pss_cons (ps_set (i := 8) sc__law_right.nd rfl (Or.inl rfl) (pe_lst pa_nil)) (pss_cons (ps_for PassesOwn.never rfl (pi_list (pv 3)) (pg_tup rfl (pgs_cons (pg_name (i := 7) sc__law_right.nd rfl (Or.inl rfl)) (pgs_cons (pg_name (i := 9) sc__law_right.nd rfl (Or.inl rfl)) pgs_nil))) (pss_one (ps_set (i := 8) sc__law_right.nd rfl (Or.inl rfl) (pe_op op_cat (pv 8) (pe_op op_rep (pe_lst (pa_cons (pv 7) pa_nil)) (pv 9)))))) (pss_one (ps_ret (pe_cmpR (op_eqD hr.units) (pe_revL (pv 4)) (pv 8) (nomark _)))))))))))), ?_⟩
    refine ⟨_, rfl, _, rfl, len2, fun t0 ht0 => ⟨t0, behind r, rfl, SqT.of upd_same, hg, b1, fun H1 ta s1 hta => ?_⟩⟩
    have s01 := (same_upd (o := .tup [.int (behind r).1, .int (behind r).2]) ht0).trans s1
    refine ⟨_, rfl, _, rfl, _, rfl, len2, fun t2 ht2 => ⟨t2, behind r, rfl, SqT.of upd_same, b1, b2, fun H3 tb s3 htb => ?_⟩⟩
    have s13 := (same_upd (o := .tup [.int (behind r).1, .int (behind r).2]) ht2).trans s3
    refine ⟨_, _, three_dp (Same.tup s13 hta), three_dp htb, three_shaped _ _ _, three_shaped _ _ _, _, rfl, ?_⟩
    rw [eqv_self (three_shaped _ _ _)]
    refine iteF ?_
    have hta3 := Same.tup s13 hta
    refine ⟨_, rfl, ta, behind r, rfl, hta3, hg, b1, fun H4 pa s4 hpa => ?_⟩
    refine ⟨_, rfl, _, rfl, len2, fun t5 ht5 => ?_⟩
    have s5 := same_upd (o := .tup [.int (behind r).1, .int (behind r).2]) ht5
    refine ⟨_, _, two_dp (Same.tup s5 hpa), two_dp (SqT.of upd_same), two_shaped _ _, two_shaped _ _, _, rfl, ?_⟩
    rw [eqv_self (two_shaped _ _)]
    refine iteF ?_
    have s35 := s4.trans s5
    have hta5 := Same.tup s35 hta3
    have s05 := (s01.trans s13).trans s35
    generalize upd H4 t5 (.tup [.int (behind r).1, .int (behind r).2]) = H5 at *
    -- row = row_of(triple)
    refine ⟨_, rfl, ta, r, rfl, hta5, parts_pos rok, radj, by omega, b1, fun H6 ra ts s6 nra hra hpr => ?_⟩
    have hta6 := Same.tup s6 hta5
    have s06 := s05.trans s6
    refine ⟨_, rfl, ra, r, rfl, ⟨ts, SqL.of hra, hpr⟩, ⟨rok, radj⟩, by omega, fun H7 tc s7 htc => ?_⟩
    have hra7 := s7 _ _ hra
    have hpr7 := hpr.same s7
    have hta7 := Same.tup s7 hta6
    have s07 := s06.trans s7
    refine ⟨_, rfl, _, _, three_dp htc, three_dp hta7, three_shaped _ _ _, three_shaped _ _ _, _, rfl, ?_⟩
    rw [eqv_self (three_shaped _ _ _)]
    refine iteF ?_
    -- steps, now = [], triple
    refine ⟨Nat.zero_le _, fun so nso => ⟨_, rfl, _, _, rfl, ?_⟩⟩
    have s8 := same_upd (o := .lst []) nso
    refine ⟨fun k σ H' => ∃ (na : Addr) (v6 v7 v8 v9 : Option V) (w rest : List Int), σ = [some (.int (behind r).1), some (.int (behind r).2), some (.ref ta), some (.ref ra), some (.ref so), some (.ref na), v6, v7, v8, v9] ∧ k = w.length ∧ ex r = w ++ rest ∧ Same H7 H' ∧ H' so = some (.lst (rest.reverse.map V.int)) ∧ TrAt K H' na (tri (walk w)) ∧ (walk w).1 ≤ 100,
      ⟨_, ta, _, _, _, _, ex r, [], rfl, rfl, by rw [List.append_nil], s8, upd_same, ?_, ?_⟩, ?_⟩
    · rw [← behind_walk r (parts_pos rok)]
      exact Same.tup s8 hta7
    · rw [← behind_walk r (parts_pos rok)]
      exact hp
    · rintro k σ H8 ⟨na, v6, v7, v8, v9, w', rest, rfl, rfl, ew, s78, hso, hna, hw⟩
      have stw : Steps w' := by
        have := ex_steps (parts_pos rok)
        rw [ew] at this
        exact (steps_app.mp this).1
      have gw := walk_good stw
      refine ⟨_, rfl, len3, fun t9 ht9 => ?_⟩
      have s9 := same_upd (o := .tup [.int 3, .int 4, .int 5]) ht9
      refine ⟨_, _, three_dp (Same.tup s9 hna), three_dp (SqT.of upd_same), three_shaped _ _ _, three_shaped _ _ _, _, rfl, ?_⟩
      have hna9 := Same.tup s9 hna
      have hso9 := s9 _ _ hso
      have s79 := s78.trans s9
      generalize upd H8 t9 (.tup [.int 3, .int 4, .int 5]) = H9 at *
      by_cases h0 : walk w' = (2, 1)
      · rw [h0, show PyData.eqv (.tuple [.int (tri (2, 1)).1, .int (tri (2, 1)).2.1, .int (tri (2, 1)).2.2]) (.tuple [.int 3, .int 4, .int 5]) = true from eqv_self (three_shaped _ _ _)]
        refine iteF ?_
        have ew0 : w' = [] := by
          rcases List.eq_nil_or_concat w' with z | ⟨v, t, z⟩
          · exact z
          · rw [z, List.concat_eq_append] at h0 stw
            rw [walk_snoc] at h0
            have h2 := steps_app.mp stw
            exact absurd h0 (st_root (h2.2 t (by simp)) (walk_good h2.1))
        subst ew0
        rw [List.nil_append] at ew
        subst ew
        -- told = []
        refine ⟨Nat.zero_le _, fun to nto => ?_⟩
        have s10 := same_upd (o := .lst []) nto
        have hso10 := s10 _ _ hso9
        have s710 := s79.trans s10
        refine ⟨_, rfl, ra, rfl, ⟨_, SqL.of (s710 _ _ hra7)⟩, for_list (K := K) (a := ra) (xs := ts.map V.ref) (fun i σ H' => ∃ (tt : Addr) (v6 v7 v9 : Option V), σ = [some (.int (behind r).1), some (.int (behind r).2), some (.ref ta), some (.ref ra), some (.ref so), some (.ref na), v6, v7, some (.ref tt), v9] ∧ Same (upd H9 to (.lst [])) H' ∧ H' tt = some (.lst ((ex (r.take i)).map V.int)))
          ⟨to, _, _, _, rfl, Same.refl _, upd_same⟩ (fun i σ H' _ ⟨_, _, _, _, _, s11, _⟩ => SqL.of (s11 _ _ (s710 _ _ hra7))) ?_ ?_⟩
        · rintro i x σ H' hx ⟨tt, v6, v7, v9, rfl, s11, htt⟩
          have hi : i < ts.length := by
            have := (List.getElem?_eq_some_iff.mp hx).1
            rw [List.length_map] at this
            exact this
          have hlen := hpr7.length
          obtain ⟨t, et, hS⟩ := hpr7.get (i := i) (List.getElem?_eq_getElem (by omega))
          rw [List.getElem?_map, et] at hx
          cases hx
          have pk := rok _ (List.getElem_mem (show i < r.length by omega))
          have e1 := ex_take (r := r) (i := i) (List.getElem?_eq_getElem (show i < r.length by omega))
          have l1 := ex_take_len r (i + 1)
          have l2 : (ex (r.take i)).length + (r[i]).2.toNat = (ex (r.take (i + 1))).length := by
            rw [e1, List.length_append, List.length_replicate]
          refine ⟨_, _, rfl, Same.tup (s710.trans s11) hS, rfl, _, _, rfl, _, _, rfl, rfl, ?_⟩
          refine ⟨_, rfl, _, rfl, by show 1 ≤ sizeLine; decide, fun l nl => ⟨_, rfl, ?_⟩⟩
          have s12 := same_upd (o := .lst [.int (r[i]).1]) nl
          have pk1 := pk.2.1
          refine ⟨l, _, _, rfl, rfl, upd_same, by omega, by omega, by rw [sizeLine_eq]; show 1 * (r[i]).2.toNat ≤ 16777216; omega, fun l2' nl2 => ?_⟩
          have s13 := same_upd (o := .lst (List.replicate (r[i]).2.toNat [V.int (r[i]).1]).flatten) nl2
          have ef : (List.replicate (r[i]).2.toNat [V.int (r[i]).1]).flatten = (List.replicate (r[i]).2.toNat (r[i]).1).map V.int := by
            rw [List.map_replicate, List.flatten_replicate_singleton]
          refine ⟨tt, l2', _, _, rfl, rfl, s13 _ _ (s12 _ _ htt), upd_same, ?_, fun l3 nl3 => ?_⟩
          · rw [ef, List.length_map, List.length_map, List.length_replicate, sizeLine_eq]
            omega
          · refine ⟨l3, _, _, _, rfl, ((s11.trans s12).trans s13).trans (same_upd nl3), ?_⟩
            rw [upd_same, ef, e1, List.map_append]
        · rintro σ H' ⟨tt, v6, v7, v9, rfl, s11, htt⟩
          rw [List.length_map, hpr7.length, List.take_length] at htt
          refine ⟨_, rfl, so, _, rfl, SqL.of (s11 _ _ hso10), fun z nz => ?_⟩
          have s12 := same_upd (o := .lst ((ex r).reverse.map V.int).reverse) nz
          refine ⟨_, rfl, _, _, ints_dp (ns := ex r) (SqL.of ?_), ints_dp (ns := ex r) (SqL.of (s12 _ _ htt)), ints_shaped _, ints_shaped _, ?_⟩
          · rw [upd_same, ← List.map_reverse, List.reverse_reverse]
          · rw [eqv_self (ints_shaped _)]
            exact q _ (((s07.trans s710).trans s11).trans s12)
      · have ne : PyData.eqv (.tuple [.int (tri (walk w')).1, .int (tri (walk w')).2.1, .int (tri (walk w')).2.2]) (.tuple [.int 3, .int 4, .int 5]) = false := by
          rw [three_eqv]
          by_cases c1 : (tri (walk w')).1 = 3
          · rw [decide_eq_false (show ¬ (tri (walk w')).2.2 = 5 from fun c2 => h0 (tri_root gw c1 c2))]
            simp
          · rw [decide_eq_false c1]
            rfl
        rw [ne]
        refine iteT ?_
        obtain ⟨w2, s', rfl⟩ : ∃ w2 s', w' = w2 ++ [s'] := by
          rcases List.eq_nil_or_concat w' with z | ⟨v, t, z⟩
          · rw [z] at h0
            exact absurd rfl h0
          · exact ⟨v, t, by rw [z, List.concat_eq_append]⟩
        have st2 := steps_app.mp stw
        have hs' : S3 s' := st2.2 s' (by simp)
        have g2 := walk_good st2.1
        have eb : backOf (walk (w2 ++ [s'])) = (s', walk w2) := by rw [walk_snoc, back_st hs' g2]
        have bl := back_le gw
        rw [eb] at bl
        dsimp only at bl
        have lenr : rest.length ≤ (ex r).length := by
          rw [ew, List.length_append]
          omega
        refine ⟨fun σ' H2 => ∃ m', m' < (w2 ++ [s']).length ∧ ∃ (na : Addr) (v6 v7 v8 v9 : Option V) (w rest : List Int), σ' = [some (.int (behind r).1), some (.int (behind r).2), some (.ref ta), some (.ref ra), some (.ref so), some (.ref na), v6, v7, v8, v9] ∧ m' = w.length ∧ ex r = w ++ rest ∧ Same H7 H2 ∧ H2 so = some (.lst (rest.reverse.map V.int)) ∧ TrAt K H2 na (tri (walk w)) ∧ (walk w).1 ≤ 100, fun _ _ h => h, ?_⟩
        have gw1 := gw.1
        have gw2 := gw.2.1
        refine ⟨_, rfl, na, _, rfl, hna9, gw, bd_900 (by omega) (by omega) (by decide), fun e => absurd e h0, fun _ H10 co t s10 hco hct => ?_⟩
        rw [eb] at hco hct
        dsimp only at hco hct
        have hso10 := s10 _ _ hso9
        refine ⟨_, rfl, rfl, _, rfl, iteF ?_⟩
        refine ⟨_, rfl, so, _, rfl, .inl (SqL.of hso10), _, rfl, _, _, rfl, rfl, _, rfl, ?_⟩
        rw [List.length_map, List.length_reverse, decide_eq_false (show ¬ (behind r).1 < (rest.length : Int) by omega)]
        refine iteF ?_
        refine ⟨_, rfl, _, _, rfl, hco, rfl, _, _, rfl, _, _, rfl, rfl, ?_⟩
        refine ⟨_, rfl, .inl ⟨rfl, _, SqL.of hso10⟩, _, rfl, so, _, _, rfl, rfl, hso10, small1000 (by rw [List.length_map, List.length_reverse]; omega), ?_⟩
        have nso7 : H7 so = none := nso
        refine ⟨_, ?_, t, _, _, _, _, w2, s' :: rest, rfl, rfl, ?_, same_new nso7 (s79.trans s10), ?_, tup_keep (hfo := hso10) hct, by omega⟩
        · rw [List.length_append, List.length_singleton]
          omega
        · rw [ew, List.append_assoc]
          rfl
        · rw [upd_same, List.reverse_cons, List.map_append]
          rfl
end
end SqP

namespace SqP
open PySem PySem.Spec PyProof.Rows L2 Sq
/-! ### a list of rows -/
def Rows (K : PySem.W.Frag) (H : Hp) (fo : Addr) : List Addr → List PRow → Prop
  | [], [] => True
  | a :: as, r :: rs => (a ≠ fo ∧ RowAt K H a r) ∧ Rows K H fo as rs
  | [], _ :: _ => False
  | _ :: _, [] => False
theorem seq_keep {K : PySem.W.Frag} {H : Hp} {fo a : Addr} {o : HO} {zs : List V} (ne : a ≠ fo) (h : SqL K H a zs) : SqL K (upd H fo o) a zs := by
  rcases h with (h | ⟨u, h⟩) | h
  · exact .inl (.inl (by rw [upd_ne ne]; exact h))
  · exact .inl (.inr ⟨u, by rw [upd_ne ne]; exact h⟩)
  · exact .inr h
theorem row_keep {K : PySem.W.Frag} {H : Hp} {fo a : Addr} {xs ys : List V} {r : PRow} (hfo : H fo = some (.lst xs)) (ne : a ≠ fo) (h : RowAt K H a r) : RowAt K (upd H fo (.lst ys)) a r := by
  obtain ⟨ts, h1, h2⟩ := h
  exact ⟨ts, seq_keep ne h1, parts_keep hfo h2⟩
theorem Rows.same {K : PySem.W.Frag} {H H' : Hp} {fo : Addr} (s : Same H H') : ∀ {as : List Addr} {rs : List PRow}, Rows K H fo as rs → Rows K H' fo as rs
  | [], [], _ => trivial
  | _ :: _, _ :: _, h => ⟨⟨h.1.1, h.1.2.same s⟩, Rows.same s h.2⟩
  | [], _ :: _, h => h.elim
  | _ :: _, [], h => h.elim
theorem Rows.keep {K : PySem.W.Frag} {H : Hp} {fo : Addr} {xs ys : List V} (hfo : H fo = some (.lst xs)) : ∀ {as : List Addr} {rs : List PRow}, Rows K H fo as rs → Rows K (upd H fo (.lst ys)) fo as rs
  | [], [], _ => trivial
  | _ :: _, _ :: _, h => ⟨⟨h.1.1, row_keep hfo h.1.1 h.1.2⟩, Rows.keep hfo h.2⟩
  | [], _ :: _, h => h.elim
  | _ :: _, [], h => h.elim
theorem Rows.snoc {K : PySem.W.Frag} {H : Hp} {fo a : Addr} {r : PRow} (ha : a ≠ fo ∧ RowAt K H a r) : ∀ {as : List Addr} {rs : List PRow}, Rows K H fo as rs → Rows K H fo (as ++ [a]) (rs ++ [r])
  | [], [], _ => ⟨ha, trivial⟩
  | _ :: _, _ :: _, h => ⟨h.1, Rows.snoc ha h.2⟩
  | [], _ :: _, h => h.elim
  | _ :: _, [], h => h.elim
theorem Rows.length {K : PySem.W.Frag} {H : Hp} {fo : Addr} : ∀ {as : List Addr} {rs : List PRow}, Rows K H fo as rs → as.length = rs.length
  | [], [], _ => rfl
  | _ :: _, _ :: _, h => by rw [List.length_cons, List.length_cons, Rows.length h.2]
  | [], _ :: _, h => h.elim
  | _ :: _, [], h => h.elim
theorem Rows.get {K : PySem.W.Frag} {H : Hp} {fo : Addr} : ∀ {as : List Addr} {rs : List PRow} {i : Nat} {r : PRow}, Rows K H fo as rs → rs[i]? = some r → ∃ a, as[i]? = some a ∧ RowAt K H a r
  | [], [], _, _, _, e => by simp at e
  | a :: _, y :: _, 0, r, h, e => by
    have e' : y = r := Option.some.inj e
    subst e'
    exact ⟨a, rfl, h.1.2⟩
  | _ :: _, _ :: _, i + 1, _, h, e => Rows.get (i := i) h.2 e
  | [], _ :: _, _, _, h, _ => h.elim
  | _ :: _, [], _, _, h, _ => h.elim
theorem Rows.take {K : PySem.W.Frag} {H : Hp} {fo : Addr} : ∀ {as : List Addr} {rs : List PRow} (n : Nat), Rows K H fo as rs → Rows K H fo (as.take n) (rs.take n)
  | _, _, 0, _ => trivial
  | [], [], _ + 1, _ => trivial
  | _ :: _, _ :: _, n + 1, h => ⟨h.1, Rows.take n h.2⟩
  | [], _ :: _, _, h => h.elim
  | _ :: _, [], _, h => h.elim
theorem rows_dp {K : PySem.W.Frag} {H : Hp} {fo : Addr} : ∀ {as : List Addr} {rs : List PRow}, Rows K H fo as rs → DpAll K H (as.map V.ref) (rs.map rowD)
  | [], [], _ => .nil
  | _ :: _, _ :: _, h => .cons (row_dp h.1.2) (rows_dp h.2)
  | [], _ :: _, h => h.elim
  | _ :: _, [], h => h.elim
theorem row_lay (r : PRow) : (rowD r).canLay0 = true := SeqAt.canLay_of_shaped (row_shaped r)
theorem rows_lay : ∀ rs : List PRow, PyData.canLayAll0 (rs.map rowD) = true
  | [] => by simp [PyData.canLayAll0]
  | r :: rs => by simp [PyData.canLayAll0, row_lay r, rows_lay rs]
theorem rows_depth : ∀ rs : List PRow, PyData.depthAll (rs.map rowD) ≤ 2
  | [] => by simp [PyData.depthAll]
  | r :: rs => by
    have h1 := rows_depth rs
    have h2 := parts_depth r
    simp only [List.map_cons, PyData.depthAll, rowD, PyData.depth] at h1 ⊢
    omega
theorem rows_shaped (rs : List PRow) : SeqAt.shaped (.list (rs.map rowD)) = true := by
  have h1 := rows_depth rs
  have h2 : PyData.depth (.list (rs.map rowD)) ≤ 64 := by
    simp only [PyData.depth]
    omega
  show (PyData.canLay0 (.list (rs.map rowD)) && decide (PyData.depth (.list (rs.map rowD)) ≤ 64)) = true
  rw [Bool.and_eq_true]
  exact ⟨by simp only [PyData.canLay0]; exact rows_lay rs, decide_eq_true h2⟩
theorem part_eqv (x y : Int × Int) : PyData.eqv (partD x) (partD y) = decide (x = y) := by
  unfold partD
  rw [two_eqv]
  by_cases c1 : x.1 = y.1
  · by_cases c2 : x.2 = y.2
    · rw [decide_eq_true c1, decide_eq_true c2, decide_eq_true (Prod.ext c1 c2)]
      rfl
    · rw [decide_eq_false c2, decide_eq_false (show ¬ x = y from fun z => c2 (congrArg (·.2) z)), Bool.and_false]
  · rw [decide_eq_false c1, decide_eq_false (show ¬ x = y from fun z => c1 (congrArg (·.1) z)), Bool.false_and]
theorem parts_eqv : ∀ r u : PRow, PyData.eqvAll (r.map partD) (u.map partD) = decide (r = u)
  | [], [] => by simp [PyData.eqvAll]
  | [], y :: u => by
    rw [decide_eq_false (by simp)]
    simp [PyData.eqvAll]
  | x :: r, [] => by
    rw [decide_eq_false (by simp)]
    simp [PyData.eqvAll]
  | x :: r, y :: u => by
    simp only [List.map_cons, PyData.eqvAll]
    rw [part_eqv, parts_eqv r u]
    by_cases c1 : x = y
    · by_cases c2 : r = u
      · rw [decide_eq_true c1, decide_eq_true c2, decide_eq_true (by rw [c1, c2])]
        rfl
      · rw [decide_eq_false c2, decide_eq_false (fun z => c2 (List.cons.inj z).2), Bool.and_false]
    · rw [decide_eq_false c1, decide_eq_false (fun z => c1 (List.cons.inj z).1), Bool.false_and]
theorem row_eqv (r u : PRow) : PyData.eqv (rowD r) (rowD u) = decide (r = u) := by
  unfold rowD
  rw [PyData.eqv]
  exact parts_eqv r u
theorem count_one : ∀ {rs : List PRow} {r : PRow}, rs.Nodup → r ∈ rs → rs.countP (fun u => decide (u = r)) = 1
  | [], _, _, h => by cases h
  | u :: rs, r, hn, h => by
    have hn2 := List.nodup_cons.mp hn
    by_cases c : u = r
    · subst c
      have e0 : rs.countP (fun v => decide (v = u)) = 0 := List.countP_eq_zero.mpr fun v hv => by
        have : ¬ v = u := fun e => hn2.1 (by rw [← e]; exact hv)
        simpa using this
      rw [List.countP_cons, e0, if_pos (by simp)]
    · have hr : r ∈ rs := by
        rcases List.mem_cons.mp h with z | z
        · exact absurd z.symm c
        · exact z
      rw [List.countP_cons, count_one hn2.2 hr, if_neg (by simpa using c)]
/-- the rows told so far: each is a row of its pair -/
structure RowsOf (rs : List PRow) (L : List Pr) : Prop where
  ps : rs.map behind = L
  ok : ∀ r ∈ rs, Pos r ∧ Adj r
theorem RowsOf.snoc {rs : List PRow} {L : List Pr} {r : PRow} (h : RowsOf rs L) (hr : Pos r ∧ Adj r) : RowsOf (rs ++ [r]) (L ++ [behind r]) :=
  ⟨by rw [List.map_append, h.ps]; rfl, fun u hu => (List.mem_append.mp hu).elim (h.ok u) fun z => by rw [List.mem_singleton.mp z]; exact hr⟩
theorem nodup_of_map {α β : Type} (f : α → β) : ∀ {l : List α}, (l.map f).Nodup → l.Nodup
  | [], _ => List.nodup_nil
  | a :: l, h => by
    have h2 := List.nodup_cons.mp h
    exact List.nodup_cons.mpr ⟨fun z => h2.1 (List.mem_map.mpr ⟨a, z, rfl⟩), nodup_of_map f h2.2⟩
theorem RowsOf.nodup {rs : List PRow} {L : List Pr} (h : RowsOf rs L) (hL : L.Nodup) : rs.Nodup := nodup_of_map behind (by rw [h.ps]; exact hL)
theorem three_rows {rs : List PRow} {l : List Pr} (hps : rs.map behind = (2, 1) :: (3, 2) :: (4, 1) :: l) (ok : ∀ r ∈ rs, Pos r ∧ Adj r) : rs.take 3 = [[], [(0, 1)], [(2, 1)]] := by
  match rs, hps, ok with
  | [], hps, _ => cases hps
  | [_], hps, _ => simp at hps
  | [_, _], hps, _ => simp at hps
  | a0 :: a1 :: a2 :: rest, hps, ok =>
    have h0 : behind a0 = (2, 1) := (List.cons.inj hps).1
    have h1 : behind a1 = (3, 2) := (List.cons.inj (List.cons.inj hps).2).1
    have h2 : behind a2 = (4, 1) := (List.cons.inj (List.cons.inj (List.cons.inj hps).2).2).1
    have k0 := ok a0 (by simp)
    have k1 := ok a1 (by simp)
    have k2 := ok a2 (by simp)
    have r0 : a0 = [] := behind_inj k0.1 (fun x hx => by cases hx) k0.2 trivial h0
    have r1 : a1 = [(0, 1)] := behind_inj k1.1 (fun x hx => by rw [List.mem_singleton.mp hx]; exact ⟨.inl rfl, by decide⟩) k1.2 trivial (h1.trans (by decide))
    have r2 : a2 = [(2, 1)] := behind_inj k2.1 (fun x hx => by rw [List.mem_singleton.mp hx]; exact ⟨.inr (.inr rfl), by decide⟩) k2.2 trivial (h2.trans (by decide))
    rw [r0, r1, r2]
    rfl
section
variable {P : Program} {w : World} {K : PySem.W.Frag} {mg : Str → Option Value} {base : Heap}
/-! ### law -/
def sp_law (K : PySem.W.Frag) : Sp := fun vs H Q _ => ∃ (a : Addr) (ns : List Int), vs = [.ref a] ∧ SqL K H a (ns.map V.int) ∧ (∀ n ∈ ns, Bd 1048577 n) ∧ ns.length ≤ 63 ∧ ∀ H', Q (.bl true) H'
structure LawInv (K : PySem.W.Frag) (Hz : Hp) (a : Addr) (most : Int) (fo : Addr) (L : List Pr) (x3 x4 x5 : Option V) (σ : L2.St) (H' : Hp) : Prop where
  ex : ∃ (as : List Addr) (rs : List PRow), σ = [some (.ref a), some (.int most), some (.ref fo), x3, x4, x5] ∧ H' fo = some (.lst (as.map V.ref)) ∧ Rows K H' fo as rs ∧ RowsOf rs L
theorem ok_law (B : Bt mg) {f : Addr} {fd : FuncData} (F : Fun K "law" "law" s_law f fd) (H__law_cell_at : Has P w K mg base 1 "_law_cell_at" ["_law_script", "_law_k"] (sp_cell_at K)) (H__law_draw : Has P w K mg base 1 "_law_draw" ["_law_cell", "_law_k", "_law_many"] sp_draw) (H__law_common : Has P w K mg base 1 "_law_common" ["_law_one", "_law_other"] sp_common) (H__law_right : Has P w K mg base 36 "_law_right" ["_law_m", "_law_n"] (sp_right K)) (H_triple_of : Has P w K mg base 4 "triple_of" ["pair"] (sp_triple_of K)) (H_row_of : Has P w K mg base 35 "row_of" ["triple"] (sp_row_of K)) :
    FnOk P w K mg base CX0 37 f fd ["_law_script"] (sp_law K) := by
  obtain ⟨f__law_cell_at, fd__law_cell_at, G__law_cell_at, k__law_cell_at, b__law_cell_at, g__law_cell_at⟩ := H__law_cell_at
  obtain ⟨f__law_draw, fd__law_draw, G__law_draw, k__law_draw, b__law_draw, g__law_draw⟩ := H__law_draw
  obtain ⟨f__law_common, fd__law_common, G__law_common, k__law_common, b__law_common, g__law_common⟩ := H__law_common
  obtain ⟨f__law_right, fd__law_right, G__law_right, k__law_right, b__law_right, g__law_right⟩ := H__law_right
  obtain ⟨f_triple_of, fd_triple_of, G_triple_of, k_triple_of, b_triple_of, g_triple_of⟩ := H_triple_of
  obtain ⟨f_row_of, fd_row_of, G_row_of, k_row_of, b_row_of, g_row_of⟩ := H_row_of
  refine F.ok sc_law (fun vs H Q E h => ?_) (fun cdv A outer s H vs Q E hr h => ?_)
  · obtain ⟨a, ns, rfl, _⟩ := h
    rfl
  · obtain ⟨a, ns, rfl, hS, hb, hl, q⟩ := h
    refine ⟨_, (pss_cons (ps_set (i := 1) sc_law.nd rfl (Or.inl rfl) (pe_op op_add pe_int (pe_call G__law_draw (hr.mono (by decide)) (by rfl) g__law_draw k__law_draw b__law_draw .nil pass0 (pa_cons (pe_op op_mod (pe_call G__law_cell_at (hr.mono (by decide)) (by rfl) g__law_cell_at k__law_cell_at b__law_cell_at .nil pass0 (pa_cons (pv 0) (pa_cons pe_int pa_nil))) (pe_op op_pow pe_int pe_int)) (pa_cons pe_int (pa_cons pe_int pa_nil)))))) (pss_cons (ps_set (i := 2) sc_law.nd rfl (Or.inl rfl) (pe_lst pa_nil)) (pss_cons (ps_for PassesOwn.never rfl (pi_range2 (by rfl) B.range (pa_cons pe_int (pa_cons (pe_op op_add (pv 1) pe_int) pa_nil))) (pg_name (i := 3) sc_law.nd rfl (Or.inl rfl)) (pss_one (ps_for PassesOwn.never rfl (pi_range2 (by rfl) B.range (pa_cons pe_int (pa_cons (pv 3) pa_nil))) (pg_name (i := 4) sc_law.nd rfl (Or.inl rfl)) (pss_one (ps_if (PW.pt (pw_and (pt_cmpR op_eq (pe_op op_mod (pe_op op_add (pv 3) (pv 4)) pe_int) pe_int (nomark _)) (pw_and1 (pt_cmpR op_eq (pe_call G__law_common (hr.mono (by decide)) (by rfl) g__law_common k__law_common b__law_common .nil pass0 (pa_cons (pv 3) (pa_cons (pv 4) pa_nil))) pe_int (nomark _))))) (pss_cons (ps_if (pt_not (pt_val (pe_call G__law_right (hr.mono (by decide)) (by rfl) g__law_right k__law_right b__law_right .nil pass0 (pa_cons (pv 3) (pa_cons (pv 4) pa_nil))))) (pss_one (ps_ret pe_bl)) pss_nil) (pss_one (ps_expr (pe_bm PySem.F.plainAttrs_list PySem.F.slot_list_append PySem.F.type_list_append mt_append (pv 2) (pa_cons (pe_call G_row_of (hr.mono (by decide)) (by rfl) g_row_of k_row_of b_row_of .nil pass0 (pa_cons (pe_call G_triple_of (hr.mono (by decide)) (by rfl) g_triple_of k_triple_of b_triple_of .nil pass0 (pa_cons (pe_tup (pa_cons (pv 3) (pa_cons (pv 4) pa_nil))) pa_nil)) pa_nil)) pa_nil))))) pss_nil))))) (pss_cons (ps_for PassesOwn.never rfl (pi_list (pv 2)) (pg_name (i := 5) sc_law.nd rfl (Or.inl rfl)) (pss_one (ps_if (pt_cmpR op_ne (pe_bm PySem.F.plainAttrs_list PySem.F.slot_list_count PySem.F.type_list_count (mt_countD (room65 hr)) (pv 2) (pa_cons (pv 5) pa_nil)) pe_int (nomark _)) (pss_one (ps_ret pe_bl)) pss_nil))) (pss_one (ps_ret (pe_cmpR (op_eqD hr.units) (pe_slice sl_list (pv 2) po_none (po_some pe_int)) (pe_lst (pa_cons (pe_lst pa_nil) (pa_cons (pe_lst (pa_cons (pe_tup (pa_cons pe_int (pa_cons pe_int pa_nil))) pa_nil)) (pa_cons (pe_lst (pa_cons (pe_tup (pa_cons pe_int (pa_cons pe_int pa_nil))) pa_nil)) pa_nil)))) (nomark _)))))))), ?_⟩
    -- most
    refine ⟨_, rfl, a, ns, 0, rfl, hS, by omega, fun c hc => ?_⟩
    refine ⟨_, _, rfl, rfl, ⟨by decide, by decide, by decide⟩, _, _, rfl, rfl, (by decide +kernel : (0 : Int) < 10 ^ (18 : Int).toNat), _, _, _, rfl, by decide, fun H1 d s1 d0 d1 => ⟨_, _, rfl, rfl, ?_⟩⟩
    obtain ⟨N, hN⟩ : ∃ N : Nat, 12 + d = (N : Int) := ⟨(12 + d).toNat, by omega⟩
    have hN1 : 12 ≤ N := by omega
    have hN2 : N ≤ 40 := by omega
    refine ⟨Nat.zero_le _, fun fo nfo => ?_⟩
    have s2 := same_upd (o := .lst []) nfo
    refine ⟨_, rfl, _, _, rfl, rfl, 2, _, rfl, ⟨by decide, by decide, ?_, ?_⟩, ?_⟩
    · show (-(2 ^ 62) : Int) ≤ 12 + d + 1
      omega
    · show (12 : Int) + d + 1 < 2 ^ 62
      omega
    have en : ((12 : Int) + d + 1 - 2).toNat = N - 1 := by omega
    show ∃ W : Nat → Nat → L2.St → Hp → Prop, _
    refine for_range (lo := 2) (n := ((12 : Int) + d + 1 - 2).toNat) (fun i σ H' => ∃ x3 x4 x5, LawInv K H1 a (12 + d) fo (pairs i) x3 x4 x5 σ H') ⟨_, _, _, ⟨[], [], rfl, upd_same, trivial, ⟨rfl, fun r hr => by cases hr⟩⟩⟩ ?_ ?_
    · rintro i σ H' hi ⟨x3, x4, x5, as, rs, rfl, hfo, hrs, hro⟩
      have hi40 : i ≤ 38 := by omega
      refine ⟨_, rfl, 1, 2 + (i : Int), rfl, ⟨by decide, by decide, by omega, by omega⟩, for_range (lo := 1) (n := (2 + (i : Int) - 1).toNat) (fun j σ H' => ∃ x4 x5, LawInv K H1 a (12 + d) fo (pairs i ++ inner (i + 2) j) (some (.int (2 + i))) x4 x5 σ H') ⟨_, _, ⟨as, rs, rfl, hfo, hrs, by rw [inner, List.append_nil]; exact hro⟩⟩ ?_ ?_⟩
      · rintro j σ H2 hj ⟨x4, x5, as, rs, rfl, hfo, hrs, hro⟩
        have hj2 : j < i + 1 := by omega
        have e2 : (2 : Int) + i = i + 2 := Int.add_comm _ _
        have e1 : (1 : Int) + j = j + 1 := Int.add_comm _ _
        refine ⟨_, rfl, _, rfl, _, _, rfl, rfl, _, _, rfl, rfl, (by decide : (0 : Int) < 2), rfl, _, rfl, ?_⟩
        rw [dec_vint]
        have skip : ∀ (hc : ¬ (((i : Int) + 2 + (j + 1)) % 2 = 1 ∧ Int.gcd ((i : Int) + 2) (j + 1) = 1)), ∃ y4 y5, LawInv K H1 a (12 + d) fo (pairs i ++ inner (i + 2) (j + 1)) (some (.int (2 + i))) y4 y5 [some (.ref a), some (.int (12 + d)), some (.ref fo), some (.int (2 + i)), some (.int (1 + j)), x5] H2 := fun hc =>
          ⟨_, _, ⟨as, rs, rfl, hfo, hrs, by rw [inner, if_neg hc, List.append_nil]; exact hro⟩⟩
        refine if_b (fun c1 => ?_) (fun c1 => iteF (skip fun z => of_decide_eq_false c1 (by have := z.1; omega)))
        have c1 : ((i : Int) + 2 + (j + 1)) % 2 = 1 := by
          have := of_decide_eq_true c1
          omega
        refine ⟨_, rfl, _, rfl, _, _, rfl, by omega, by omega, rfl, _, rfl, ?_⟩
        rw [dec_vint]
        refine if_b (fun c2 => ?_) (fun c2 => skip fun z => of_decide_eq_false c2 (by rw [e2, e1, z.2]; rfl))
        have c2 := of_decide_eq_true c2
        have c3 : Int.gcd ((i : Int) + 2) (j + 1) = 1 := by
          rw [e2, e1] at c2
          omega
        have gd : Good ((i : Int) + 2, (j : Int) + 1) := ⟨by dsimp only; omega, by dsimp only; omega, c1, cop_iff.mp c3⟩
        obtain ⟨r, rok, radj, ebr, rl, rl2, exl⟩ := row_of_pair gd (by dsimp only; omega)
        have eP : ([V.int (2 + (i : Int)), V.int (1 + (j : Int))] : List V) = [V.int ((i : Int) + 2, (j : Int) + 1).1, V.int ((i : Int) + 2, (j : Int) + 1).2] := by
          rw [e2, e1]
        refine ⟨_, rfl, _, rfl, ((i : Int) + 2, (j : Int) + 1), eP, gd, by dsimp only; omega, fun H3 s3 => ⟨true, rfl, iteF ?_⟩⟩
        have hfo3 := s3 _ _ hfo
        have hrs3 := hrs.same s3
        -- rows.append(row_of(triple_of((m, n))))
        refine ⟨_, rfl, .inl ⟨rfl, _, SqL.of hfo3⟩, _, rfl, _, rfl, len2, fun t ht => ?_⟩
        have s4 := same_upd (o := .tup [.int (2 + (i : Int)), .int (1 + (j : Int))]) ht
        refine ⟨t, ((i : Int) + 2, (j : Int) + 1), rfl, ?_, gd, bd_900 (by dsimp only; omega) (by dsimp only; omega) (by decide), fun H5 ta s5 hta => ?_⟩
        · rw [eP]
          exact SqT.of upd_same
        rw [← ebr] at hta
        refine ⟨ta, r, rfl, hta, parts_pos rok, radj, by omega, by rw [ebr]; exact bd_900 (by dsimp only; omega) (by dsimp only; omega) (by decide), fun H6 ra us s6 nra hra hpr => ?_⟩
        have s36 := (s4.trans s5).trans s6
        have hfo6 := s36 _ _ hfo3
        have hrs6 := hrs3.same s36
        have ne : ra ≠ fo := fun z => by
          have := (s4.trans s5) _ _ hfo3
          rw [← z, nra] at this
          cases this
        have hl1 := hrs.length
        have hl2 : rs.length ≤ 5000 := by
          have := congrArg List.length hro.ps
          rw [List.length_map, List.length_append] at this
          have p1 := pairs_len i
          have p2 : (inner ((i : Int) + 2) j).length ≤ j := by
            have : ∀ k : Nat, (inner ((i : Int) + 2) k).length ≤ k := by
              intro k
              induction k with
              | zero => exact Nat.le_refl _
              | succ k ih =>
                rw [inner, List.length_append]
                split <;> simp <;> omega
            exact this j
          have p3 : i * (i + 1) ≤ 38 * 39 := Nat.mul_le_mul hi40 (by omega)
          omega
        refine ⟨fo, _, _, rfl, rfl, hfo6, by rw [List.length_map, sizeLine_eq]; omega, ?_⟩
        refine ⟨_, _, ⟨as ++ [ra], rs ++ [r], rfl, by rw [upd_same, List.map_append]; rfl, Rows.snoc ⟨ne, row_keep hfo6 ne ⟨us, SqL.of hra, hpr⟩⟩ (hrs6.keep hfo6), ?_⟩⟩
        have := hro.snoc (r := r) ⟨parts_pos rok, radj⟩
        rw [ebr, List.append_assoc] at this
        rw [inner, if_pos ⟨c1, c3⟩]
        exact this
      · rintro σ H2 ⟨x4, x5, h⟩
        have ei : (2 + (i : Int) - 1).toNat = i + 1 := by omega
        rw [ei] at h
        exact ⟨_, _, _, h⟩
    · rintro σ H2 ⟨x3, x4, x5, as, rs, rfl, hfo, hrs, hro⟩
      rw [en] at hro
      have nd := hro.nodup (pairs_nodup (N - 1))
      have hlen := hrs.length
      -- each row once
      refine ⟨_, rfl, fo, rfl, ⟨_, SqL.of hfo⟩, for_list (K := K) (a := fo) (xs := as.map V.ref) (fun j σ H' => ∃ x5, σ = [some (.ref a), some (.int (12 + d)), some (.ref fo), x3, x4, x5] ∧ H' = H2) ⟨_, rfl, rfl⟩ (fun j σ H' _ ⟨_, _, e⟩ => by rw [e]; exact SqL.of hfo) ?_ ?_⟩
      · rintro j x σ H' hx ⟨x5, rfl, rfl⟩
        have hj : j < as.length := by
          have := (List.getElem?_eq_some_iff.mp hx).1
          rw [List.length_map] at this
          exact this
        obtain ⟨ra, ea, hra⟩ := hrs.get (i := j) (List.getElem?_eq_getElem (by omega))
        rw [List.getElem?_map, ea] at hx
        cases hx
        refine ⟨_, rfl, .inl ⟨rfl, _, SqL.of hfo⟩, _, rfl, fo, _, rowD rs[j], rs.map rowD, rfl, rfl, .lst (SqL.of hfo) (rows_dp hrs), row_dp hra, rows_shaped rs, row_shaped _, rfl, _, rfl, ?_⟩
        rw [List.countP_map]
        have e1 : (rs.countP ((fun z => PyData.eqv z (rowD rs[j])) ∘ rowD)) = 1 := by
          have : ((fun z => PyData.eqv z (rowD rs[j])) ∘ rowD) = fun u => decide (u = rs[j]) := by
            funext u
            exact row_eqv u rs[j]
          rw [this]
          exact count_one nd (List.getElem_mem _)
        rw [e1, dec_vint]
        exact iteF ⟨_, rfl, rfl⟩
      · rintro σ H' ⟨x5, rfl, rfl⟩
        obtain ⟨l, el⟩ := pairs_three (N - 1) (by omega)
        -- rows[:3] == ..
        refine ⟨_, rfl, 3, rfl, fo, _, rfl, SqL.of hfo, fun z nz => ?_⟩
        have ec := cut_to (as.map V.ref) 3
        rw [show ((3 : Nat) : Int) = 3 by rfl] at ec
        rw [ec, ← List.map_take]
        have s3 := same_upd (o := .lst ((as.take 3).map V.ref)) nz
        have hz : (upd H' z (.lst ((as.take 3).map V.ref))) z = some (.lst ((as.take 3).map V.ref)) := upd_same
        have hrs3 := (hrs.same s3).take 3
        generalize upd H' z (.lst ((as.take 3).map V.ref)) = H3 at *
        have e3 : rs.take 3 = [[], [(0, 1)], [(2, 1)]] := by
          exact three_rows (by rw [hro.ps, el]) hro.ok
        rw [e3] at hrs3
        refine ⟨Nat.zero_le _, fun l0 n0 => ⟨len2, fun t1 n1 => ⟨by show 1 ≤ sizeLine; decide, fun l1 m1 => ⟨len2, fun t2 n2 => ⟨by show 1 ≤ sizeLine; decide, fun l2 m2 => ⟨len3, fun l3 m3 => ?_⟩⟩⟩⟩⟩⟩
        have a1 := same_upd (o := .lst []) n0
        have a2 := same_upd (o := .tup [.int 0, .int 1]) n1
        have a3 := same_upd (o := .lst [.ref t1]) m1
        have a4 := same_upd (o := .tup [.int 2, .int 1]) n2
        have a5 := same_upd (o := .lst [.ref t2]) m2
        have a6 := same_upd (o := .lst [.ref l0, .ref l1, .ref l2]) m3
        have a26 := (((a2.trans a3).trans a4).trans a5).trans a6
        have a46 := (a4.trans a5).trans a6
        have a16 := a1.trans a26
        refine ⟨.list (([[], [(0, 1)], [(2, 1)]] : List PRow).map rowD), .list (([[], [(0, 1)], [(2, 1)]] : List PRow).map rowD), .lst (SqL.of (a16 _ _ hz)) (rows_dp (hrs3.same a16)), .lst (SqL.of upd_same) (.cons (row_dp ⟨[], SqL.of (a26 _ _ upd_same), trivial⟩) (.cons (row_dp ⟨[t1], SqL.of (a46 _ _ upd_same), ⟨Same.tup (a3.trans a46) (SqT.of upd_same), trivial⟩⟩) (.cons (row_dp ⟨[t2], SqL.of (a6 _ _ upd_same), ⟨Same.tup (a5.trans a6) (SqT.of upd_same), trivial⟩⟩) .nil))), rows_shaped _, rows_shaped _, ?_⟩
        rw [eqv_self (rows_shaped _)]
        exact q _
end
end SqP

namespace SqP
open PySem PySem.Spec PyProof.Rows L2 Sq
/-! ### the law's end, the built-in modules' names told too -/
theorem frag_mem {K : PySem.W.Frag} {a : Addr} {o : Obj} (h : (a, o) ∈ K) : ∃ o', K.lookup a = some o' := by
  induction K with
  | nil => cases h
  | cons p K ih =>
    obtain ⟨b, u⟩ := p
    by_cases e : a = b
    · exact ⟨u, by rw [e, List.lookup_cons_self]⟩
    · have hb : (a == b) = false := by simpa using e
      rcases List.mem_cons.mp h with z | z
      · exact absurd (Prod.mk.inj z).1 e
      · obtain ⟨o', h'⟩ := ih z
        exact ⟨o', by rw [List.lookup_cons, hb]; exact h'⟩
theorem frag_of {E : PySem.W.Frag} {a : Addr} {o : Obj} (h : E.lookup a = some o) : (a, o) ∈ E := by
  induction E with
  | nil => cases h
  | cons p E ih =>
    obtain ⟨b, u⟩ := p
    rw [List.lookup_cons] at h
    by_cases e : (a == b) = true
    · rw [e] at h
      have h : some u = some o := h
      cases h
      rw [beq_iff_eq.mp e]
      exact List.mem_cons_self
    · rw [Bool.not_eq_true] at e
      rw [e] at h
      exact List.mem_cons_of_mem _ (ih h)
theorem frag_app {K E : PySem.W.Frag} {a : Addr} {o : Obj} (h : (K ++ E).lookup a = some o) : K.lookup a = some o ∨ (K.lookup a = none ∧ (a, o) ∈ E) := by
  rw [List.lookup_append] at h
  cases e : K.lookup a with
  | some u =>
    rw [e] at h
    exact .inl h
  | none =>
    rw [e] at h
    have h : E.lookup a = some o := h
    exact .inr ⟨rfl, frag_of h⟩
theorem frag_left {K E : PySem.W.Frag} {a : Addr} {o : Obj} (h : K.lookup a = some o) : (K ++ E).lookup a = some o := by
  rw [List.lookup_append, h]
  rfl
theorem frag_in {K E : PySem.W.Frag} {h : Heap} (hK : K.In h) (hE : ∀ p ∈ E, h.get? p.1 = some p.2) : PySem.W.Frag.In (K ++ E) h := fun a o e => by
  rcases frag_app e with q | ⟨_, q⟩
  · exact hK a o q
  · exact hE _ q
theorem frag_at {K : PySem.W.Frag} {h base : Heap} {a : Addr} {o : Obj} (hK : K.In h) (hB : K.In base) (m : (a, o) ∈ K) (e : h.get? a = some o) : base.get? a = some o := by
  obtain ⟨o', l⟩ := frag_mem m
  have := hK a o' l
  rw [e] at this
  cases this
  exact hB a o l
theorem fn_more {P : Program} {w : World} {K E : PySem.W.Frag} {mg : Str → Option Value} {base : Heap} {CX : CXT} {k : Nat} {f : Addr} {fd : FuncData} {ps : List Str} {sp : Sp} (F : FnOk P w K mg base CX k f fd ps sp) : FnOk P w (K ++ E) mg base CX k f fd ps sp :=
  ⟨F.len, fun A outer s H args us vs Q X hr e hb hv hs => F.run A outer s H args us vs Q X hr ⟨e.frames, ⟨fun a o q => e.mod.kin a o (frag_left q), e.mod.glob, e.mod.blt, e.mod.nolimit⟩, e.bs, e.bsz, e.funs, e.frf, e.hok, e.bare⟩ hb hv hs⟩
theorem walk_ofS {l : PySem.W.OpenLaw} {n k : Nat} {q : Program} {loose : List Str} {XP : (Str → Option Value) → Heap → Prop} {YP : World → Heap → Prop} {d : DefRec} {K : Params → PySem.W.Frag} {sp : PySem.W.Frag → Sp} {x : Str}
    (hn : l.most = some n) (hn2 : n ≤ sizeLine) (hdf : d.params.defaults = []) (hr : Room k callerA) (hq : importsNone q = true)
    (hY : ∀ (w : World) (h : Heap), YP w h → (K w.params).In h)
    (F : ∀ (w : World) (mg : Str → Option Value) (fa : Addr) (h : Heap), (K w.params).In h → h.Ns mainGlobals mg → mg d.name = some (.ref fa) →
      ∃ fd : FuncData, (∀ (s : Shared) (u : Value), BindsTo s fd ⟨[u], []⟩ [(x, u)]) ∧
        ∀ base : Heap, (K w.params).In base → base.Ns mainGlobals mg → base.NoSeer → FnOk l.prog w (K w.params) mg base CX0 k fa fd [x] (sp (K w.params)))
    (hsp : ∀ (K : PySem.W.Frag) (H : Hp) (a : Addr) (ns : List Int), ns.length ≤ n → (∀ z ∈ ns, Bd 1048577 z) → SqL K H a (ns.map V.int) → sp K [.ref a] H (fun v _ => v = .bl true) fun _ _ _ => False) :
    PySem.W.WalkO q loose XP YP l.row.toRowW d [] (fun f vs => PySem.call f vs) := by
  refine Att.attach_callB hn hdf fun w s₀ s₁ mg mb fa o pm cd doc a vs ns G Y ho hd hcd hmg hobj hints hlen hbits hg => ?_
  have KX := hY w _ Y
  obtain ⟨fd, hb, hF⟩ := F w mg fa _ KX G.T.g hmg
  have seer := G.T.seer hq
  obtain ⟨mc, ⟨oc, ec, pc, c1, c2, c3, c4⟩, hc1, hc2⟩ := seer.statics
  obtain ⟨mm, ⟨om, em, pm', m1, m2, m3, m4⟩, hm1⟩ := seer.mods
  obtain ⟨mi, ⟨oi, ei, pi', i1, i2, i3, i4⟩, hi1⟩ := seer.imp
  obtain ⟨mz, bm, ob, ⟨oz, ez, pz, z1, z2, z3, z4⟩, hz1, hz2, hz3, hz4⟩ := seer.main
  have all : ∀ p ∈ ([(cStatics, oc), (sysModules, om), (builtinsNs, oi), (mainGlobals, oz), (bm, ob)] : PySem.W.Frag), s₁.heap.get? p.1 = some p.2 ∧ ((∃ es ep, p.2.data = .dict es ep) ∨ p.2.cls = .type "module") := by
    intro p hp
    simp only [List.mem_cons, List.not_mem_nil, or_false] at hp
    rcases hp with e | e | e | e | e <;> subst e
    · exact ⟨c1, .inl ⟨_, _, c2⟩⟩
    · exact ⟨m1, .inl ⟨_, _, m2⟩⟩
    · exact ⟨i1, .inl ⟨_, _, i2⟩⟩
    · exact ⟨z1, .inl ⟨_, _, z2⟩⟩
    · exact ⟨hz2, .inr hz3⟩
  have KX2 := frag_in KX fun p hp => (all p hp).1
  refine law_call (K := K w.params ++ [(cStatics, oc), (sysModules, om), (builtinsNs, oi), (mainGlobals, oz), (bm, ob)]) KX2 G.T.g G.T.b G.T.builtins G.T.nolimit hg hobj hints (Nat.le_trans hlen hn2) hr
    (fun base hB hN => fn_more (hF base (fun a o e => hB a o (frag_left e)) hN ?_)) hb (fun H hO hS => hsp (K w.params) H a ns hlen (fun z hz => (Sq.Bd.mono (k := 1048576) (PySem.intBits_le_iff.mp (hbits z hz)) (by decide))) ?_) (fun H e s' h => h)
  · have at' : ∀ {b : Addr} {u : Obj}, (b, u) ∈ ([(cStatics, oc), (sysModules, om), (builtinsNs, oi), (mainGlobals, oz), (bm, ob)] : PySem.W.Frag) → base.get? b = some u := fun m => frag_at KX2 hB (List.mem_append_right _ m) (all _ m).1
    exact ⟨⟨mc, ⟨oc, ec, pc, at' (by simp), c2, c3, c4⟩, hc1, hc2⟩, ⟨mm, ⟨om, em, pm', at' (by simp), m2, m3, m4⟩, hm1⟩, ⟨mi, ⟨oi, ei, pi', at' (by simp), i2, i3, i4⟩, hi1⟩, ⟨mz, bm, ob, ⟨oz, ez, pz, at' (by simp), z2, z3, z4⟩, hz1, at' (by simp), hz3, hz4⟩⟩
  · rcases hS with h | ⟨u, its, m, hk, h1, h2, h3, h4, h5⟩
    · exact .inl h
    · rcases frag_app hk with z | ⟨_, z⟩
      · exact .inr ⟨u, its, m, z, h1, h2, h3, h4, h5⟩
      · rcases (all _ z).2 with ⟨es, ep, e⟩ | e
        · rw [show (a, u).2.data = u.data from rfl, h3] at e
          cases e
        · rw [show (a, u).2.cls = u.cls from rfl, h1] at e
          exact absurd (Value.type.inj e) (by decide)
/-- a def that the top wrote -/
theorem is_mk {K : PySem.W.Frag} {h : Heap} {mg : Str → Option Value} {x : Str} {st : Stmt} {ps : List Str} {f : Addr} {oc : Value} {od an : Option Addr} {osl : Array (Option Value)} {kV doc pm cdv ct : Value} (X : K.In h) (G : h.Ns mainGlobals mg)
    (a : PySem.W.nsIn K mainGlobals x = some (some (.ref f))) (l : K.lookup f = some ⟨oc, od, .func (PySem.W.fnOf x x (defArgs st) (defBody st) (defScope st) .none kV doc pm an cdv ct), osl⟩) (c : PySem.W.codeIn K cdv x = true) (k : PySem.W.keepIn K (.ref f) = true)
    (hb : ∀ (kV doc pm : Value) (an : Option Addr) (cdv ct : Value) (us : List Value), us.length = ps.length → bindArgs (PySem.W.fnOf x x (defArgs st) (defBody st) (defScope st) .none kV doc pm an cdv ct) ⟨us, []⟩ = pure (ps.zip us)) : Is K mg x st ps :=
  ⟨f, _, fun_mk l c k, (fun_mk l c k).binds hb, PySem.W.mg_of X G a⟩
theorem with_is {C : Prop} {K : PySem.W.Frag} {h : Heap} {mg : Str → Option Value} {x : Str} {st : Stmt} {ps : List Str} {f : Addr} {oc : Value} {od an : Option Addr} {osl : Array (Option Value)} {kV doc pm cdv ct : Value} (X : K.In h) (G : h.Ns mainGlobals mg)
    (a : PySem.W.nsIn K mainGlobals x = some (some (.ref f))) (l : K.lookup f = some ⟨oc, od, .func (PySem.W.fnOf x x (defArgs st) (defBody st) (defScope st) .none kV doc pm an cdv ct), osl⟩) (c : PySem.W.codeIn K cdv x = true) (k : PySem.W.keepIn K (.ref f) = true)
    (hb : ∀ (kV doc pm : Value) (an : Option Addr) (cdv ct : Value) (us : List Value), us.length = ps.length → bindArgs (PySem.W.fnOf x x (defArgs st) (defBody st) (defScope st) .none kV doc pm an cdv ct) ⟨us, []⟩ = pure (ps.zip us)) (r : Is K mg x st ps → C) : C := r (is_mk X G a l c k hb)
theorem law_mk {K : PySem.W.Frag} {h : Heap} {mg : Str → Option Value} {x y : Str} {st : Stmt} {f fa : Addr} {oc : Value} {od an : Option Addr} {osl : Array (Option Value)} {kV doc pm cdv ct : Value} (X : K.In h) (G : h.Ns mainGlobals mg) (hfa : mg x = some (.ref fa))
    (a : PySem.W.nsIn K mainGlobals x = some (some (.ref f))) (l : K.lookup f = some ⟨oc, od, .func (PySem.W.fnOf x x (defArgs st) (defBody st) (defScope st) .none kV doc pm an cdv ct), osl⟩) (c : PySem.W.codeIn K cdv x = true) (k : PySem.W.keepIn K (.ref f) = true)
    (hb : ∀ (kV doc pm : Value) (an : Option Addr) (cdv ct : Value) (us : List Value), us.length = ([y] : List Str).length → bindArgs (PySem.W.fnOf x x (defArgs st) (defBody st) (defScope st) .none kV doc pm an cdv ct) ⟨us, []⟩ = pure (([y] : List Str).zip us)) :
    ∃ fd : FuncData, Fun K x x st fa fd ∧ ∀ (s : Shared) (u : Value), BindsTo s fd ⟨[u], []⟩ [(y, u)] := by
  have e := hfa.symm.trans (PySem.W.mg_of X G a)
  cases e
  exact ⟨_, fun_mk l c k, fun s u => .of_eq (hb kV doc pm an cdv ct [u] rfl)⟩
theorem with_law {C : Prop} {K : PySem.W.Frag} {h : Heap} {mg : Str → Option Value} {x y : Str} {st : Stmt} {f fa : Addr} {oc : Value} {od an : Option Addr} {osl : Array (Option Value)} {kV doc pm cdv ct : Value} (X : K.In h) (G : h.Ns mainGlobals mg) (hfa : mg x = some (.ref fa))
    (a : PySem.W.nsIn K mainGlobals x = some (some (.ref f))) (l : K.lookup f = some ⟨oc, od, .func (PySem.W.fnOf x x (defArgs st) (defBody st) (defScope st) .none kV doc pm an cdv ct), osl⟩) (c : PySem.W.codeIn K cdv x = true) (k : PySem.W.keepIn K (.ref f) = true)
    (hb : ∀ (kV doc pm : Value) (an : Option Addr) (cdv ct : Value) (us : List Value), us.length = ([y] : List Str).length → bindArgs (PySem.W.fnOf x x (defArgs st) (defBody st) (defScope st) .none kV doc pm an cdv ct) ⟨us, []⟩ = pure (([y] : List Str).zip us))
    (r : (∃ fd : FuncData, Fun K x x st fa fd ∧ ∀ (s : Shared) (u : Value), BindsTo s fd ⟨[u], []⟩ [(y, u)]) → C) : C := r (law_mk X G hfa a l c k hb)
end SqP

open PySem PySem.W PyProof.Rows in
set_option maxRecDepth 100000 in
set_option maxHeartbeats 0 in
theorem PySem.Challenge.cw_squaretree_k02_tried_holds : PySem.Challenge.rw_squaretree_k02_tried.Holds := by
  w_on; o_law; k_head; (case hw => w_witness2)
  k_fill
  refine SqP.walk_ofS (l := PySem.Challenge.rw_squaretree_k02_tried) (n := 63) (k := 37) (x := "_law_script") (sp := SqP.sp_law) rfl (by decide) rfl ⟨rfl, by decide, by decide⟩ (by decide +kernel) (fun w h Y => PySem.W.kIn_of Y) ?F (fun K H a ns hl hb hS => ⟨a, ns, rfl, hS, hb, hl, fun _ => rfl⟩)
  case F =>
    intro w mg fa h KX G hmg
    have z_isi : mg "isinstance" = none := by
      refine' PySem.W.mg_none_of KX G ?z
      (case z => k_is)
    have z_int : mg "int" = none := by
      refine' PySem.W.mg_none_of KX G ?z
      (case z => k_is)
    have z_bool : mg "bool" = none := by
      refine' PySem.W.mg_none_of KX G ?z
      (case z => k_is)
    have z_tuple : mg "tuple" = none := by
      refine' PySem.W.mg_none_of KX G ?z
      (case z => k_is)
    have z_list : mg "list" = none := by
      refine' PySem.W.mg_none_of KX G ?z
      (case z => k_is)
    have z_len : mg "len" = none := by
      refine' PySem.W.mg_none_of KX G ?z
      (case z => k_is)
    have z_all : mg "all" = none := by
      refine' PySem.W.mg_none_of KX G ?z
      (case z => k_is)
    have z_any : mg "any" = none := by
      refine' PySem.W.mg_none_of KX G ?z
      (case z => k_is)
    have z_range : mg "range" = none := by
      refine' PySem.W.mg_none_of KX G ?z
      (case z => k_is)
    have z_enum : mg "enumerate" = none := by
      refine' PySem.W.mg_none_of KX G ?z
      (case z => k_is)
    have B : SqP.Bt mg := ⟨z_isi, z_int, z_bool, z_tuple, z_list, z_len, z_all, z_any, z_range, z_enum⟩
    have c_MOST : ∃ v, mg "MOST" = some v ∧ ∃ tk, v = Value.int 200 tk := by
      refine' ⟨_, PySem.W.mg_of KX G ?a, ?b⟩
      (case a => k_is)
      (case b => exact ⟨_, rfl⟩)
    obtain ⟨v_MOST, g_MOST, tk_MOST, e_MOST⟩ := c_MOST
    subst e_MOST
    have c_OFTEN : ∃ v, mg "OFTEN" = some v ∧ ∃ tk, v = Value.int 1000 tk := by
      refine' ⟨_, PySem.W.mg_of KX G ?a, ?b⟩
      (case a => k_is)
      (case b => exact ⟨_, rfl⟩)
    obtain ⟨v_OFTEN, g_OFTEN, tk_OFTEN, e_OFTEN⟩ := c_OFTEN
    subst e_OFTEN
    refine' SqP.with_is (x := "is_whole") (st := SqP.s_is_whole) (ps := ["thing"]) KX G ?a_is_whole ?l_is_whole ?c_is_whole ?k_is_whole (fun _ _ _ _ _ _ us hl => match us, hl with | [_], _ => rfl) (fun D_is_whole => ?r_is_whole)
    (case a_is_whole => k_is); (case l_is_whole => k_is); (case c_is_whole => k_is); (case k_is_whole => k_is)
    refine' SqP.with_is (x := "are_wholes") (st := SqP.s_are_wholes) (ps := ["thing", "many"]) KX G ?a_are_wholes ?l_are_wholes ?c_are_wholes ?k_are_wholes (fun _ _ _ _ _ _ us hl => match us, hl with | [_, _], _ => rfl) (fun D_are_wholes => ?r_are_wholes)
    (case a_are_wholes => k_is); (case l_are_wholes => k_is); (case c_are_wholes => k_is); (case k_are_wholes => k_is)
    refine' SqP.with_is (x := "common") (st := SqP.s_common) (ps := ["one", "other"]) KX G ?a_common ?l_common ?c_common ?k_common (fun _ _ _ _ _ _ us hl => match us, hl with | [_, _], _ => rfl) (fun D_common => ?r_common)
    (case a_common => k_is); (case l_common => k_is); (case c_common => k_is); (case k_common => k_is)
    refine' SqP.with_is (x := "is_triple") (st := SqP.s_is_triple) (ps := ["thing"]) KX G ?a_is_triple ?l_is_triple ?c_is_triple ?k_is_triple (fun _ _ _ _ _ _ us hl => match us, hl with | [_], _ => rfl) (fun D_is_triple => ?r_is_triple)
    (case a_is_triple => k_is); (case l_is_triple => k_is); (case c_is_triple => k_is); (case k_is_triple => k_is)
    refine' SqP.with_is (x := "is_pair") (st := SqP.s_is_pair) (ps := ["thing"]) KX G ?a_is_pair ?l_is_pair ?c_is_pair ?k_is_pair (fun _ _ _ _ _ _ us hl => match us, hl with | [_], _ => rfl) (fun D_is_pair => ?r_is_pair)
    (case a_is_pair => k_is); (case l_is_pair => k_is); (case c_is_pair => k_is); (case k_is_pair => k_is)
    refine' SqP.with_is (x := "check_triple") (st := SqP.s_check_triple) (ps := ["triple"]) KX G ?a_check_triple ?l_check_triple ?c_check_triple ?k_check_triple (fun _ _ _ _ _ _ us hl => match us, hl with | [_], _ => rfl) (fun D_check_triple => ?r_check_triple)
    (case a_check_triple => k_is); (case l_check_triple => k_is); (case c_check_triple => k_is); (case k_check_triple => k_is)
    refine' SqP.with_is (x := "root_of") (st := SqP.s_root_of) (ps := ["number"]) KX G ?a_root_of ?l_root_of ?c_root_of ?k_root_of (fun _ _ _ _ _ _ us hl => match us, hl with | [_], _ => rfl) (fun D_root_of => ?r_root_of)
    (case a_root_of => k_is); (case l_root_of => k_is); (case c_root_of => k_is); (case k_root_of => k_is)
    refine' SqP.with_is (x := "pair_by") (st := SqP.s_pair_by) (ps := ["triple"]) KX G ?a_pair_by ?l_pair_by ?c_pair_by ?k_pair_by (fun _ _ _ _ _ _ us hl => match us, hl with | [_], _ => rfl) (fun D_pair_by => ?r_pair_by)
    (case a_pair_by => k_is); (case l_pair_by => k_is); (case c_pair_by => k_is); (case k_pair_by => k_is)
    refine' SqP.with_is (x := "pair_of") (st := SqP.s_pair_of) (ps := ["triple"]) KX G ?a_pair_of ?l_pair_of ?c_pair_of ?k_pair_of (fun _ _ _ _ _ _ us hl => match us, hl with | [_], _ => rfl) (fun D_pair_of => ?r_pair_of)
    (case a_pair_of => k_is); (case l_pair_of => k_is); (case c_pair_of => k_is); (case k_pair_of => k_is)
    refine' SqP.with_is (x := "triple_by") (st := SqP.s_triple_by) (ps := ["pair"]) KX G ?a_triple_by ?l_triple_by ?c_triple_by ?k_triple_by (fun _ _ _ _ _ _ us hl => match us, hl with | [_], _ => rfl) (fun D_triple_by => ?r_triple_by)
    (case a_triple_by => k_is); (case l_triple_by => k_is); (case c_triple_by => k_is); (case k_triple_by => k_is)
    refine' SqP.with_is (x := "triple_of") (st := SqP.s_triple_of) (ps := ["pair"]) KX G ?a_triple_of ?l_triple_of ?c_triple_of ?k_triple_of (fun _ _ _ _ _ _ us hl => match us, hl with | [_], _ => rfl) (fun D_triple_of => ?r_triple_of)
    (case a_triple_of => k_is); (case l_triple_of => k_is); (case c_triple_of => k_is); (case k_triple_of => k_is)
    refine' SqP.with_is (x := "led") (st := SqP.s_led) (ps := ["pair", "step", "often"]) KX G ?a_led ?l_led ?c_led ?k_led (fun _ _ _ _ _ _ us hl => match us, hl with | [_, _, _], _ => rfl) (fun D_led => ?r_led)
    (case a_led => k_is); (case l_led => k_is); (case c_led => k_is); (case k_led => k_is)
    refine' SqP.with_is (x := "last_of") (st := SqP.s_last_of) (ps := ["pair"]) KX G ?a_last_of ?l_last_of ?c_last_of ?k_last_of (fun _ _ _ _ _ _ us hl => match us, hl with | [_], _ => rfl) (fun D_last_of => ?r_last_of)
    (case a_last_of => k_is); (case l_last_of => k_is); (case c_last_of => k_is); (case k_last_of => k_is)
    refine' SqP.with_is (x := "back") (st := SqP.s_back) (ps := ["triple"]) KX G ?a_back ?l_back ?c_back ?k_back (fun _ _ _ _ _ _ us hl => match us, hl with | [_], _ => rfl) (fun D_back => ?r_back)
    (case a_back => k_is); (case l_back => k_is); (case c_back => k_is); (case k_back => k_is)
    refine' SqP.with_is (x := "is_part") (st := SqP.s_is_part) (ps := ["thing"]) KX G ?a_is_part ?l_is_part ?c_is_part ?k_is_part (fun _ _ _ _ _ _ us hl => match us, hl with | [_], _ => rfl) (fun D_is_part => ?r_is_part)
    (case a_is_part => k_is); (case l_is_part => k_is); (case c_is_part => k_is); (case k_is_part => k_is)
    refine' SqP.with_is (x := "by_row") (st := SqP.s_by_row) (ps := ["row"]) KX G ?a_by_row ?l_by_row ?c_by_row ?k_by_row (fun _ _ _ _ _ _ us hl => match us, hl with | [_], _ => rfl) (fun D_by_row => ?r_by_row)
    (case a_by_row => k_is); (case l_by_row => k_is); (case c_by_row => k_is); (case k_by_row => k_is)
    refine' SqP.with_is (x := "row_of") (st := SqP.s_row_of) (ps := ["triple"]) KX G ?a_row_of ?l_row_of ?c_row_of ?k_row_of (fun _ _ _ _ _ _ us hl => match us, hl with | [_], _ => rfl) (fun D_row_of => ?r_row_of)
    (case a_row_of => k_is); (case l_row_of => k_is); (case c_row_of => k_is); (case k_row_of => k_is)
    refine' SqP.with_is (x := "_law_cell_at") (st := SqP.s__law_cell_at) (ps := ["_law_script", "_law_k"]) KX G ?a__law_cell_at ?l__law_cell_at ?c__law_cell_at ?k__law_cell_at (fun _ _ _ _ _ _ us hl => match us, hl with | [_, _], _ => rfl) (fun D__law_cell_at => ?r__law_cell_at)
    (case a__law_cell_at => k_is); (case l__law_cell_at => k_is); (case c__law_cell_at => k_is); (case k__law_cell_at => k_is)
    refine' SqP.with_is (x := "_law_draw") (st := SqP.s__law_draw) (ps := ["_law_cell", "_law_k", "_law_many"]) KX G ?a__law_draw ?l__law_draw ?c__law_draw ?k__law_draw (fun _ _ _ _ _ _ us hl => match us, hl with | [_, _, _], _ => rfl) (fun D__law_draw => ?r__law_draw)
    (case a__law_draw => k_is); (case l__law_draw => k_is); (case c__law_draw => k_is); (case k__law_draw => k_is)
    refine' SqP.with_is (x := "_law_triple") (st := SqP.s__law_triple) (ps := ["_law_pair"]) KX G ?a__law_triple ?l__law_triple ?c__law_triple ?k__law_triple (fun _ _ _ _ _ _ us hl => match us, hl with | [_], _ => rfl) (fun D__law_triple => ?r__law_triple)
    (case a__law_triple => k_is); (case l__law_triple => k_is); (case c__law_triple => k_is); (case k__law_triple => k_is)
    refine' SqP.with_is (x := "_law_common") (st := SqP.s__law_common) (ps := ["_law_one", "_law_other"]) KX G ?a__law_common ?l__law_common ?c__law_common ?k__law_common (fun _ _ _ _ _ _ us hl => match us, hl with | [_, _], _ => rfl) (fun D__law_common => ?r__law_common)
    (case a__law_common => k_is); (case l__law_common => k_is); (case c__law_common => k_is); (case k__law_common => k_is)
    refine' SqP.with_is (x := "_law_right") (st := SqP.s__law_right) (ps := ["_law_m", "_law_n"]) KX G ?a__law_right ?l__law_right ?c__law_right ?k__law_right (fun _ _ _ _ _ _ us hl => match us, hl with | [_, _], _ => rfl) (fun D__law_right => ?r__law_right)
    (case a__law_right => k_is); (case l__law_right => k_is); (case c__law_right => k_is); (case k__law_right => k_is)
    refine' SqP.with_law (x := "law") (y := "_law_script") (st := SqP.s_law) KX G hmg ?a_law ?l_law ?c_law ?k_law (fun _ _ _ _ _ _ us hl => match us, hl with | [_], _ => rfl) (fun DL => ?r_law)
    (case a_law => k_is); (case l_law => k_is); (case c_law => k_is); (case k_law => k_is)
    obtain ⟨fd, FL, bL⟩ := DL
    refine ⟨fd, bL, fun base hB hN seer => ?_⟩
    have H_is_whole := SqP.ok_is_whole (P := PySem.Challenge.rw_squaretree_k02_tried.prog) (w := w) (base := base) B D_is_whole 
    have H_are_wholes := SqP.ok_are_wholes (P := PySem.Challenge.rw_squaretree_k02_tried.prog) (w := w) (base := base) B D_are_wholes H_is_whole
    have H_common := SqP.ok_common (P := PySem.Challenge.rw_squaretree_k02_tried.prog) (w := w) (base := base)  D_common 
    have H_is_triple := SqP.ok_is_triple (P := PySem.Challenge.rw_squaretree_k02_tried.prog) (w := w) (base := base)  D_is_triple H_are_wholes H_common
    have H_is_pair := SqP.ok_is_pair (P := PySem.Challenge.rw_squaretree_k02_tried.prog) (w := w) (base := base)  D_is_pair H_are_wholes H_common
    have H_check_triple := SqP.ok_check_triple (P := PySem.Challenge.rw_squaretree_k02_tried.prog) (w := w) (base := base)  D_check_triple H_is_triple
    have H_root_of := SqP.ok_root_of (P := PySem.Challenge.rw_squaretree_k02_tried.prog) (w := w) (base := base) seer rfl D_root_of 
    have H_pair_by := SqP.ok_pair_by (P := PySem.Challenge.rw_squaretree_k02_tried.prog) (w := w) (base := base)  D_pair_by H_root_of
    have H_pair_of := SqP.ok_pair_of (P := PySem.Challenge.rw_squaretree_k02_tried.prog) (w := w) (base := base)  D_pair_of H_check_triple H_pair_by
    have H_triple_by := SqP.ok_triple_by (P := PySem.Challenge.rw_squaretree_k02_tried.prog) (w := w) (base := base)  D_triple_by 
    have H_triple_of := SqP.ok_triple_of (P := PySem.Challenge.rw_squaretree_k02_tried.prog) (w := w) (base := base)  D_triple_of H_is_pair H_triple_by
    have H_led := SqP.ok_led (P := PySem.Challenge.rw_squaretree_k02_tried.prog) (w := w) (base := base) B D_led 
    have H_last_of := SqP.ok_last_of (P := PySem.Challenge.rw_squaretree_k02_tried.prog) (w := w) (base := base) seer rfl D_last_of 
    have H_back := SqP.ok_back (P := PySem.Challenge.rw_squaretree_k02_tried.prog) (w := w) (base := base)  D_back H_check_triple H_pair_by H_triple_by
    have H_is_part := SqP.ok_is_part (P := PySem.Challenge.rw_squaretree_k02_tried.prog) (w := w) (base := base) B g_OFTEN D_is_part H_is_whole
    have H_by_row := SqP.ok_by_row (P := PySem.Challenge.rw_squaretree_k02_tried.prog) (w := w) (base := base) B g_MOST D_by_row H_is_part H_led H_triple_by
    have H_row_of := SqP.ok_row_of (P := PySem.Challenge.rw_squaretree_k02_tried.prog) (w := w) (base := base) B D_row_of H_check_triple H_pair_by H_last_of
    have H__law_cell_at := SqP.ok__law_cell_at (P := PySem.Challenge.rw_squaretree_k02_tried.prog) (w := w) (base := base) B D__law_cell_at 
    have H__law_draw := SqP.ok__law_draw (P := PySem.Challenge.rw_squaretree_k02_tried.prog) (w := w) (base := base)  D__law_draw 
    have H__law_triple := SqP.ok__law_triple (P := PySem.Challenge.rw_squaretree_k02_tried.prog) (w := w) (base := base)  D__law_triple 
    have H__law_common := SqP.ok__law_common (P := PySem.Challenge.rw_squaretree_k02_tried.prog) (w := w) (base := base)  D__law_common 
    have H__law_right := SqP.ok__law_right (P := PySem.Challenge.rw_squaretree_k02_tried.prog) (w := w) (base := base) B D__law_right H_triple_of H__law_triple H_pair_of H_row_of H_by_row H_back
    exact SqP.ok_law B FL H__law_cell_at H__law_draw H__law_common H__law_right H_triple_of H_row_of
