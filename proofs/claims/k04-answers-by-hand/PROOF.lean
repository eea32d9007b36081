import PyProof.Rows.All
import Wide.All
import OpenK.AllK
import Wide.FinOn
import HandS.ForMost
import HandS.WideBits
import HandS.Style
import HandS.IsInst
import HandS.EndBits
import HandS.Flow
import HandS.Conv
import HandS.Deep
import HandS.SortOrd
import HandS.SortRule
import HandS.CallRecv
import HandS.Codes
import PySem.Challenge.RW_squaretree_k04_answers_by_hand
set_option Elab.async false
set_option linter.all false
set_option maxRecDepth 100000
set_option maxHeartbeats 4000000
/-! pairs, steps, rows: the plain law -/
namespace Sq
/-- no number but 1 goes into both -/
def Cop (a b : Int) : Prop := ∀ d : Int, d ∣ a → d ∣ b → d ∣ 1
theorem cop_iff {a b : Int} : Int.gcd a b = 1 ↔ Cop a b := by
  constructor
  · intro h d h1 h2
    have := Int.dvd_coe_gcd h1 h2
    rw [h] at this
    exact this
  · intro h
    have := h (Int.gcd a b) (Int.gcd_dvd_left a b) (Int.gcd_dvd_right a b)
    have h2 := Int.natAbs_dvd_natAbs.mpr this
    simpa using h2
abbrev Pr := Int × Int
def Good (p : Pr) : Prop := 0 < p.2 ∧ p.2 < p.1 ∧ (p.1 + p.2) % 2 = 1 ∧ Cop p.1 p.2
def S3 (s : Int) : Prop := s = 0 ∨ s = 1 ∨ s = 2
/-- one step -/
def st (s : Int) (p : Pr) : Pr := if s = 0 then (2 * p.1 - p.2, p.1) else if s = 2 then (p.1 + 2 * p.2, p.2) else (2 * p.1 + p.2, p.1)
def rep (s : Int) : Nat → Pr → Pr
  | 0, p => p
  | k + 1, p => st s (rep s k p)
/-- a step done so often -/
def led (p : Pr) (s o : Int) : Pr :=
  if s = 0 then (p.1 + o * (p.1 - p.2), p.2 + o * (p.1 - p.2)) else if s = 2 then (p.1 + 2 * o * p.2, p.2) else rep 1 o.toNat p
theorem rep0 (p : Pr) : ∀ k : Nat, rep 0 k p = (p.1 + k * (p.1 - p.2), p.2 + k * (p.1 - p.2))
  | 0 => by simp [rep]
  | k + 1 => by
    rw [rep, rep0 p k, st, if_pos rfl]
    refine Prod.ext ?_ ?_ <;> dsimp only <;> push_cast <;> grind
theorem rep2 (p : Pr) : ∀ k : Nat, rep 2 k p = (p.1 + 2 * k * p.2, p.2)
  | 0 => by simp [rep]
  | k + 1 => by
    rw [rep, rep2 p k, st, if_neg (by decide), if_pos rfl]
    refine Prod.ext ?_ ?_ <;> dsimp only <;> push_cast <;> grind
theorem led_rep {p : Pr} {s o : Int} (hs : S3 s) (ho : 0 ≤ o) : led p s o = rep s o.toNat p := by
  have e : ((o.toNat : Nat) : Int) = o := Int.toNat_of_nonneg ho
  unfold led
  rcases hs with rfl | rfl | rfl
  · rw [if_pos rfl, rep0, e]
  · rw [if_neg (by decide), if_neg (by decide)]
  · rw [if_neg (by decide), if_pos rfl, rep2, e]
theorem good_root : Good (2, 1) := ⟨by decide, by decide, by decide, fun d _ h => h⟩
theorem good_st {s : Int} {p : Pr} (hs : S3 s) (h : Good p) : Good (st s p) := by
  obtain ⟨m, n⟩ := p
  obtain ⟨h1, h2, h3, h4⟩ := h
  dsimp only at h1 h2 h3 h4
  rcases hs with rfl | rfl | rfl
  · rw [st, if_pos rfl]
    refine ⟨by dsimp only; omega, by dsimp only; omega, by dsimp only; omega, fun d ⟨a, ha⟩ ⟨b, hb⟩ => h4 d ⟨b, hb⟩ ⟨2 * b - a, ?_⟩⟩
    dsimp only at ha hb
    grind
  · rw [st, if_neg (by decide), if_neg (by decide)]
    refine ⟨by dsimp only; omega, by dsimp only; omega, by dsimp only; omega, fun d ⟨a, ha⟩ ⟨b, hb⟩ => h4 d ⟨b, hb⟩ ⟨a - 2 * b, ?_⟩⟩
    dsimp only at ha hb
    grind
  · rw [st, if_neg (by decide), if_pos rfl]
    refine ⟨by dsimp only; omega, by dsimp only; omega, by dsimp only; omega, fun d ⟨a, ha⟩ ⟨b, hb⟩ => h4 d ⟨a - 2 * b, ?_⟩ ⟨b, hb⟩⟩
    dsimp only at ha hb
    grind
theorem good_rep {s : Int} {p : Pr} (hs : S3 s) (h : Good p) : ∀ k, Good (rep s k p)
  | 0 => h
  | k + 1 => good_st hs (good_rep hs h k)
/-- a step leads to no root, and tells itself and the pair ahead -/
theorem st_root {s : Int} {p : Pr} (hs : S3 s) (h : Good p) : st s p ≠ (2, 1) := by
  obtain ⟨m, n⟩ := p
  obtain ⟨h1, h2, h3, h4⟩ := h
  dsimp only at h1 h2 h3 h4
  intro e
  rcases hs with rfl | rfl | rfl
  · rw [st, if_pos rfl] at e
    have := Prod.mk.inj e
    dsimp only at this
    omega
  · rw [st, if_neg (by decide), if_neg (by decide)] at e
    have := Prod.mk.inj e
    dsimp only at this
    omega
  · rw [st, if_neg (by decide), if_pos rfl] at e
    have := Prod.mk.inj e
    dsimp only at this
    omega
theorem st_inj {s t : Int} {p q : Pr} (hs : S3 s) (ht : S3 t) (hp : Good p) (hq : Good q) (e : st s p = st t q) : s = t ∧ p = q := by
  obtain ⟨m, n⟩ := p
  obtain ⟨k, l⟩ := q
  obtain ⟨h1, h2, _, _⟩ := hp
  obtain ⟨h3, h4, _, _⟩ := hq
  dsimp only at h1 h2 h3 h4
  rcases hs with rfl | rfl | rfl <;> rcases ht with rfl | rfl | rfl <;> simp [st] at e <;> simp [Prod.ext_iff] <;> omega
def walk (w : List Int) : Pr := w.foldl (fun p s => st s p) (2, 1)
def Steps (w : List Int) : Prop := ∀ s ∈ w, S3 s
theorem walk_snoc (w : List Int) (s : Int) : walk (w ++ [s]) = st s (walk w) := by simp [walk, List.foldl_append]
theorem foldl_good : ∀ (w : List Int) (p : Pr), Steps w → Good p → Good (w.foldl (fun p s => st s p) p)
  | [], _, _, h => h
  | s :: w, p, hs, h => foldl_good w (st s p) (fun x hx => hs x (List.mem_cons_of_mem _ hx)) (good_st (hs s List.mem_cons_self) h)
theorem walk_good {w : List Int} (h : Steps w) : Good (walk w) := foldl_good w _ h good_root
theorem walk_rep (w : List Int) (s : Int) : ∀ k, walk (w ++ List.replicate k s) = rep s k (walk w)
  | 0 => by simp [rep]
  | k + 1 => by rw [List.replicate_succ', ← List.append_assoc, walk_snoc, walk_rep w s k, rep]
theorem steps_app {a b : List Int} : Steps (a ++ b) ↔ Steps a ∧ Steps b := by
  unfold Steps
  constructor
  · intro h
    exact ⟨fun s hs => h s (List.mem_append_left _ hs), fun s hs => h s (List.mem_append_right _ hs)⟩
  · intro h s hs
    rcases List.mem_append.mp hs with q | q
    · exact h.1 s q
    · exact h.2 s q
/-- the last steps of a way, told by the pair ahead of them -/
theorem walk_back {s : Int} {q : Pr} (hs : S3 s) (hq : Good q) : ∀ (k : Nat) (w : List Int), Steps w → walk w = rep s k q → ∃ w', w = w' ++ List.replicate k s ∧ walk w' = q
  | 0, w, _, e => ⟨w, by simp, e⟩
  | k + 1, w, hw, e => by
    rcases List.eq_nil_or_concat w with rfl | ⟨v, t, rfl⟩
    · exact absurd e.symm (st_root hs (good_rep hs hq k))
    · rw [List.concat_eq_append] at e hw ⊢
      have hv := steps_app.mp hw
      rw [walk_snoc, rep] at e
      have ht : S3 t := hv.2 t (by simp)
      obtain ⟨rfl, e2⟩ := st_inj ht hs (walk_good hv.1) (good_rep hs hq k) e
      obtain ⟨w', rfl, e3⟩ := walk_back hs hq k v hv.1 e2
      exact ⟨w', by rw [List.replicate_succ', List.append_assoc], e3⟩
/-- the step back, how often it was done, and the pair ahead -/
def lastOf (p : Pr) : Int × Int × Pr :=
  if p.1 < 2 * p.2 then (0, (p.2 - 1) / (p.1 - p.2), (p.1 - (p.2 - 1) / (p.1 - p.2) * (p.1 - p.2), p.2 - (p.2 - 1) / (p.1 - p.2) * (p.1 - p.2)))
  else if p.1 < 3 * p.2 then (1, 1, (p.2, p.1 - 2 * p.2))
  else (2, (p.1 - p.2) / (2 * p.2), (p.1 - 2 * ((p.1 - p.2) / (2 * p.2)) * p.2, p.2))
/-- a pair but the first -/
theorem not_two {m n : Int} (h : Good (m, n)) (h0 : ((m, n) : Pr) ≠ (2, 1)) : m ≠ 2 * n := by
  intro e
  obtain ⟨h1, h2, h3, h4⟩ := h
  dsimp only at h1 h2 h3 h4
  have : n ∣ 1 := h4 n ⟨2, by omega⟩ ⟨1, by omega⟩
  have hn : n = 1 := by
    have := Int.le_of_dvd (by decide) this
    omega
  exact h0 (by rw [e, hn]; rfl)
theorem last_ok {p : Pr} (h : Good p) (h0 : p ≠ (2, 1)) : S3 (lastOf p).1 ∧ 1 ≤ (lastOf p).2.1 ∧ Good (lastOf p).2.2 ∧ led (lastOf p).2.2 (lastOf p).1 (lastOf p).2.1 = p := by
  obtain ⟨m, n⟩ := p
  have ne2 := not_two h h0
  obtain ⟨h1, h2, h3, h4⟩ := h
  dsimp only at h1 h2 h3 h4
  unfold lastOf
  dsimp only
  by_cases c : m < 2 * n
  · rw [if_pos c]
    dsimp only
    generalize ho : (n - 1) / (m - n) = o
    have hd : 0 < m - n := by omega
    have e1 := Int.mul_ediv_add_emod (n - 1) (m - n)
    have e2 := Int.emod_nonneg (n - 1) (show m - n ≠ 0 by omega)
    have e3 := Int.emod_lt_of_pos (n - 1) hd
    rw [ho] at e1
    have o1 : 1 ≤ o := by
      rw [← ho]
      exact (Int.le_ediv_iff_mul_le hd).mpr (by omega)
    have e4 : (m - n) * o = o * (m - n) := Int.mul_comm _ _
    refine ⟨.inl rfl, o1, ⟨?_, ?_, ?_, ?_⟩, ?_⟩
    · dsimp only
      omega
    · dsimp only
      omega
    · dsimp only
      omega
    · intro d ⟨a, ha⟩ ⟨b, hb⟩
      dsimp only at ha hb
      refine h4 d ⟨a + o * (a - b), ?_⟩ ⟨b + o * (a - b), ?_⟩ <;> grind
    · rw [led, if_pos rfl]
      refine Prod.ext ?_ ?_ <;> dsimp only <;> grind
  · rw [if_neg c]
    by_cases c2 : m < 3 * n
    · rw [if_pos c2]
      dsimp only
      refine ⟨.inr (.inl rfl), by decide, ⟨?_, ?_, ?_, ?_⟩, ?_⟩
      · dsimp only
        omega
      · dsimp only
        omega
      · dsimp only
        omega
      · intro d ⟨a, ha⟩ ⟨b, hb⟩
        dsimp only at ha hb
        exact h4 d ⟨2 * a + b, by grind⟩ ⟨a, by grind⟩
      · rw [led, if_neg (by decide), if_neg (by decide)]
        simp [rep, st]
        omega
    · rw [if_neg c2]
      dsimp only
      generalize ho : (m - n) / (2 * n) = o
      have hd : 0 < 2 * n := by omega
      have e1 := Int.mul_ediv_add_emod (m - n) (2 * n)
      have e2 := Int.emod_nonneg (m - n) (show 2 * n ≠ 0 by omega)
      have e3 := Int.emod_lt_of_pos (m - n) hd
      rw [ho] at e1
      have o1 : 1 ≤ o := by
        rw [← ho]
        exact (Int.le_ediv_iff_mul_le hd).mpr (by omega)
      have e4 : 2 * n * o = 2 * o * n := by grind
      have e5 : 2 * o * n = 2 * (o * n) := by grind
      have key : (m - n) % (2 * n) ≠ 0 := by
        intro z
        rw [z] at e1
        omega
      refine ⟨.inr (.inr rfl), o1, ⟨?_, ?_, ?_, ?_⟩, ?_⟩
      · dsimp only
        omega
      · dsimp only
        omega
      · dsimp only
        omega
      · intro d ⟨a, ha⟩ ⟨b, hb⟩
        dsimp only at ha hb
        refine h4 d ⟨a + 2 * o * b, ?_⟩ ⟨b, hb⟩
        grind
      · rw [led, if_neg (by decide), if_pos rfl]
        refine Prod.ext ?_ ?_ <;> dsimp only <;> grind
end Sq

/-! rows: the plain law -/
namespace Sq
abbrev PRow := List (Int × Int)
def ex : PRow → List Int
  | [] => []
  | x :: r => List.replicate x.2.toNat x.1 ++ ex r
def Pos (r : PRow) : Prop := ∀ x ∈ r, S3 x.1 ∧ 1 ≤ x.2
def Adj : PRow → Prop
  | [] => True
  | [_] => True
  | a :: b :: r => a.1 ≠ b.1 ∧ Adj (b :: r)
def behind (r : PRow) : Pr := r.foldl (fun p x => led p x.1 x.2) (2, 1)
theorem ex_app : ∀ a b : PRow, ex (a ++ b) = ex a ++ ex b
  | [], _ => rfl
  | x :: a, b => by
    show List.replicate x.2.toNat x.1 ++ ex (a ++ b) = (List.replicate x.2.toNat x.1 ++ ex a) ++ ex b
    rw [ex_app a b, List.append_assoc]
theorem pos_app {a b : PRow} : Pos (a ++ b) ↔ Pos a ∧ Pos b := by
  unfold Pos
  constructor
  · intro h
    exact ⟨fun s hs => h s (List.mem_append_left _ hs), fun s hs => h s (List.mem_append_right _ hs)⟩
  · intro h s hs
    rcases List.mem_append.mp hs with q | q
    · exact h.1 s q
    · exact h.2 s q
theorem pos_cons {x : Int × Int} {b : PRow} : Pos (x :: b) ↔ (S3 x.1 ∧ 1 ≤ x.2) ∧ Pos b := by
  unfold Pos
  exact List.forall_mem_cons
theorem ex_steps {r : PRow} (h : Pos r) : Steps (ex r) := by
  induction r with
  | nil => intro s hs; cases hs
  | cons x r ih =>
    have h2 := pos_cons.mp h
    exact steps_app.mpr ⟨fun s hs => by rw [List.eq_of_mem_replicate hs]; exact h2.1.1, ih h2.2⟩
theorem behind_snoc (r : PRow) (x : Int × Int) : behind (r ++ [x]) = led (behind r) x.1 x.2 := by simp [behind, List.foldl_append]
theorem snoc_ind {α : Type} {P : List α → Prop} (h0 : P []) (h1 : ∀ l x, P l → P (l ++ [x])) (l : List α) : P l := by
  have : ∀ n (l : List α), l.length = n → P l := by
    intro n
    induction n with
    | zero => intro l hl; rw [List.length_eq_zero_iff.mp hl]; exact h0
    | succ n ih =>
      intro l hl
      rcases List.eq_nil_or_concat l with rfl | ⟨v, t, rfl⟩
      · exact h0
      · rw [List.concat_eq_append] at hl ⊢
        rw [List.length_append, List.length_singleton] at hl
        exact h1 v t (ih v (by omega))
  exact this _ l rfl
theorem behind_walk (r : PRow) : Pos r → behind r = walk (ex r) := by
  refine snoc_ind (P := fun r => Pos r → behind r = walk (ex r)) (fun _ => rfl) (fun l x ih h => ?_) r
  have h2 := pos_app.mp h
  have h3 := h2.2 x (by simp)
  rw [behind_snoc, ex_app, led_rep h3.1 (by omega), ih h2.1]
  show rep x.1 x.2.toNat (walk (ex l)) = walk (ex l ++ (List.replicate x.2.toNat x.1 ++ []))
  rw [List.append_nil, walk_rep]
theorem behind_good {r : PRow} (h : Pos r) : Good (behind r) := by
  rw [behind_walk r h]
  exact walk_good (ex_steps h)
theorem adj_tail {x : Int × Int} {r : PRow} (h : Adj (x :: r)) : Adj r := by
  cases r with
  | nil => trivial
  | cons y r => exact h.2
/-- a row's way begins with its first step -/
theorem ex_head {x : Int × Int} {r : PRow} (h : 1 ≤ x.2) : ∃ w, ex (x :: r) = x.1 :: w := by
  have : ∃ k, x.2.toNat = k + 1 := ⟨x.2.toNat - 1, by omega⟩
  obtain ⟨k, e⟩ := this
  exact ⟨List.replicate k x.1 ++ ex r, by rw [ex, e, List.replicate_succ, List.cons_append]⟩
/-- behind its first step a row's way has another one -/
theorem ex_next {x : Int × Int} {r : PRow} (ha : Adj (x :: r)) (hp : Pos r) : ∀ w s, ex r = s :: w → s ≠ x.1 := by
  intro w s e
  cases r with
  | nil => cases e
  | cons y r =>
    obtain ⟨w', e'⟩ := ex_head (x := y) (r := r) (pos_cons.mp hp).1.2
    rw [e'] at e
    cases e
    exact fun z => ha.1 z.symm
theorem rep_split {s : Int} : ∀ {a b : Nat} {u v : List Int}, (∀ w t, u = t :: w → t ≠ s) → (∀ w t, v = t :: w → t ≠ s) → List.replicate a s ++ u = List.replicate b s ++ v → a = b ∧ u = v
  | 0, 0, _, _, _, _, e => ⟨rfl, e⟩
  | a + 1, 0, u, v, _, hv, e => absurd rfl (hv (List.replicate a s ++ u) s (by rw [← List.nil_append v, ← List.replicate_zero (a := s), ← e, List.replicate_succ, List.cons_append]))
  | 0, b + 1, u, v, hu, _, e => absurd rfl (hu (List.replicate b s ++ v) s (by rw [← List.nil_append u, ← List.replicate_zero (a := s), e, List.replicate_succ, List.cons_append]))
  | a + 1, b + 1, u, v, hu, hv, e => by
    rw [List.replicate_succ, List.replicate_succ, List.cons_append, List.cons_append] at e
    have e2 := (List.cons.inj e).2
    obtain ⟨h1, h2⟩ := rep_split hu hv e2
    exact ⟨by rw [h1], h2⟩
theorem ex_inj : ∀ {f r : PRow}, Pos f → Pos r → Adj f → Adj r → ex f = ex r → f = r
  | [], [], _, _, _, _, _ => rfl
  | [], y :: r, _, hr, _, _, e => by
    obtain ⟨w, e'⟩ := ex_head (x := y) (r := r) (pos_cons.mp hr).1.2
    rw [e'] at e
    cases e
  | x :: f, [], hf, _, _, _, e => by
    obtain ⟨w, e'⟩ := ex_head (x := x) (r := f) (pos_cons.mp hf).1.2
    rw [e'] at e
    cases e
  | x :: f, y :: r, hf, hr, af, ar, e => by
    have pf := pos_cons.mp hf
    have pr := pos_cons.mp hr
    obtain ⟨w, e1⟩ := ex_head (x := x) (r := f) pf.1.2
    obtain ⟨w', e2⟩ := ex_head (x := y) (r := r) pr.1.2
    have hs : x.1 = y.1 := by
      rw [e1, e2] at e
      exact (List.cons.inj e).1
    unfold ex at e
    rw [← hs] at e
    obtain ⟨h1, h2⟩ := rep_split (fun w t q => ex_next af pf.2 w t q) (fun w t q => by rw [hs]; exact ex_next ar pr.2 w t q) e
    have h3 : x = y := Prod.ext hs (by have := pf.1.2; have := pr.1.2; omega)
    rw [h3, ex_inj pf.2 pr.2 (adj_tail af) (adj_tail ar) h2]
/-- the end of a row's way, told by a row, is no longer -/
theorem ex_len : ∀ {r f : PRow} {w : List Int}, Pos f → Pos r → Adj f → Adj r → w ++ ex f = ex r → f.length ≤ r.length
  | [], f, w, hf, _, _, _, e => by
    cases f with
    | nil => exact Nat.le_refl _
    | cons x f =>
      obtain ⟨v, e'⟩ := ex_head (x := x) (r := f) (pos_cons.mp hf).1.2
      rw [e'] at e
      have := (List.append_eq_nil_iff.mp e).2
      cases this
  | y :: r, f, w, hf, hr, af, ar, e => by
    have pr := pos_cons.mp hr
    have e0 : w ++ ex f = List.replicate y.2.toNat y.1 ++ ex r := e
    by_cases c : y.2.toNat ≤ w.length
    · have e1 : ∃ v, w = List.replicate y.2.toNat y.1 ++ v ∧ v ++ ex f = ex r := by
        rcases List.append_eq_append_iff.mp e0 with ⟨a, h1, h2⟩ | ⟨a, h1, h2⟩
        · have : a = [] := by
            have := congrArg List.length h1
            rw [List.length_append, List.length_replicate] at this
            exact List.length_eq_zero_iff.mp (by omega)
          subst this
          rw [List.append_nil] at h1
          exact ⟨[], by rw [List.append_nil, h1], by rw [h2, List.nil_append, List.nil_append]⟩
        · exact ⟨a, h1, h2.symm⟩
      obtain ⟨v, _, e2⟩ := e1
      have := ex_len hf pr.2 af (adj_tail ar) e2
      rw [List.length_cons]
      omega
    · have hw : w = List.replicate w.length y.1 ∧ ex f = ex ((y.1, y.2 - w.length) :: r) := by
        rcases List.append_eq_append_iff.mp e0 with ⟨a, h1, h2⟩ | ⟨a, h1, h2⟩
        · have hl := congrArg List.length h1
          rw [List.length_append, List.length_replicate] at hl
          have hw : w = List.replicate w.length y.1 := List.eq_replicate_iff.mpr ⟨rfl, fun b hb => List.eq_of_mem_replicate (n := y.2.toNat) (by rw [h1]; exact List.mem_append_left _ hb)⟩
          have ha : a = List.replicate (y.2 - w.length).toNat y.1 := List.eq_replicate_iff.mpr ⟨by omega, fun b hb => List.eq_of_mem_replicate (n := y.2.toNat) (by rw [h1]; exact List.mem_append_right _ hb)⟩
          exact ⟨hw, by rw [h2]; show a ++ ex r = List.replicate (y.2 - w.length).toNat y.1 ++ ex r; rw [ha]⟩
        · have hl := congrArg List.length h1
          rw [List.length_append, List.length_replicate] at hl
          omega
      have pz : Pos ((y.1, y.2 - (w.length : Int)) :: r) := pos_cons.mpr ⟨⟨pr.1.1, by dsimp only; omega⟩, pr.2⟩
      have az : Adj ((y.1, y.2 - (w.length : Int)) :: r) := by
        cases r with
        | nil => trivial
        | cons z r => exact ar
      rw [ex_inj hf pz af az hw.2]
      exact Nat.le_refl _
/-- what row_of does with a step, told from the row's end: at the front -/
def front (s o : Int) : PRow → PRow
  | [] => [(s, o)]
  | x :: r => if x.1 = s then (s, x.2 + o) :: r else (s, o) :: x :: r
theorem front_eq {s o : Int} {x : Int × Int} {r : PRow} (h : x.1 = s) : front s o (x :: r) = (s, x.2 + o) :: r := if_pos h
theorem front_ne {s o : Int} {x : Int × Int} {r : PRow} (h : ¬ x.1 = s) : front s o (x :: r) = (s, o) :: x :: r := if_neg h
theorem front_ex {s o : Int} {r : PRow} (ho : 1 ≤ o) (hr : Pos r) : ex (front s o r) = List.replicate o.toNat s ++ ex r := by
  cases r with
  | nil => rfl
  | cons x r =>
    by_cases h : x.1 = s
    · have hx := (pos_cons.mp hr).1.2
      rw [front_eq h]
      show List.replicate (x.2 + o).toNat s ++ ex r = List.replicate o.toNat s ++ (List.replicate x.2.toNat x.1 ++ ex r)
      rw [h, ← List.append_assoc, List.replicate_append_replicate]
      congr 2
      omega
    · rw [front_ne h]
      rfl
theorem front_pos {s o : Int} {r : PRow} (hs : S3 s) (ho : 1 ≤ o) (hr : Pos r) : Pos (front s o r) := by
  cases r with
  | nil => exact pos_cons.mpr ⟨⟨hs, ho⟩, hr⟩
  | cons x r =>
    have hx := pos_cons.mp hr
    by_cases h : x.1 = s
    · rw [front_eq h]
      exact pos_cons.mpr ⟨⟨hs, by have := hx.1.2; dsimp only; omega⟩, hx.2⟩
    · rw [front_ne h]
      exact pos_cons.mpr ⟨⟨hs, ho⟩, hr⟩
theorem front_adj {s o : Int} {r : PRow} (hr : Adj r) : Adj (front s o r) := by
  cases r with
  | nil => trivial
  | cons x r =>
    by_cases h : x.1 = s
    · rw [front_eq h]
      cases r with
      | nil => trivial
      | cons y r => exact ⟨by rw [← h]; exact hr.1, hr.2⟩
    · rw [front_ne h]
      exact ⟨fun z => h z.symm, hr⟩
/-- THE LOOP of row_of: what holds between two turns. g: the row found so far (from its end), w: the way still ahead -/
structure Turns (R g : PRow) (p : Pr) (w : List Int) : Prop where
  st : Steps w
  at' : p = walk w
  all : w ++ ex g = ex R
  pos : Pos g
  adj : Adj g
theorem turns_start {R : PRow} (h : Pos R) : Turns R [] (behind R) (ex R) := ⟨ex_steps h, behind_walk R h, by simp [ex], (fun x hx => by cases hx), trivial⟩
theorem turns_next {R g : PRow} {p : Pr} {w : List Int} (t : Turns R g p w) (h0 : p ≠ (2, 1)) : ∃ w', w'.length < w.length ∧ Turns R (front (lastOf p).1 (lastOf p).2.1 g) (lastOf p).2.2 w' := by
  have gp : Good p := by rw [t.at']; exact walk_good t.st
  obtain ⟨h1, h2, h3, h4⟩ := last_ok gp h0
  rw [led_rep h1 (by omega)] at h4
  obtain ⟨w', e, e2⟩ := walk_back h1 h3 _ w t.st (t.at'.symm.trans h4.symm)
  refine ⟨w', ?_, ⟨?_, e2.symm, ?_, front_pos h1 h2 t.pos, front_adj t.adj⟩⟩
  · rw [e, List.length_append, List.length_replicate]
    omega
  · have := t.st
    rw [e] at this
    exact (steps_app.mp this).1
  · rw [front_ex h2 t.pos, ← List.append_assoc, ← e]
    exact t.all
theorem turns_end {R g : PRow} {w : List Int} (t : Turns R g (2, 1) w) (hR : Pos R) (aR : Adj R) : g = R := by
  have : w = [] := by
    rcases List.eq_nil_or_concat w with rfl | ⟨v, s, rfl⟩
    · rfl
    · have h := t.at'
      have hs := t.st
      rw [List.concat_eq_append] at h hs
      rw [walk_snoc] at h
      have h2 := steps_app.mp hs
      exact absurd h.symm (st_root (h2.2 s (by simp)) (walk_good h2.1))
  have e := t.all
  rw [this, List.nil_append] at e
  exact ex_inj t.pos hR t.adj aR e
theorem turns_len {R g : PRow} {p : Pr} {w : List Int} (t : Turns R g p w) (hR : Pos R) (aR : Adj R) : g.length ≤ R.length := ex_len t.pos hR t.adj aR t.all
theorem turns_good {R g : PRow} {p : Pr} {w : List Int} (t : Turns R g p w) : Good p := by rw [t.at']; exact walk_good t.st
end Sq

/-! triples, roots, sizes: the plain law -/
namespace Sq
theorem cop_mul {a b c : Int} (h1 : Cop a b) (h2 : Cop a c) : Cop a (b * c) := by
  have e1 : Nat.Coprime a.natAbs b.natAbs := cop_iff.mpr h1
  have e2 : Nat.Coprime a.natAbs c.natAbs := cop_iff.mpr h2
  have e3 : Nat.Coprime a.natAbs (b * c).natAbs := by
    rw [Int.natAbs_mul]
    exact Nat.Coprime.mul_right e1 e2
  exact cop_iff.mp e3
theorem cop_comm {a b : Int} (h : Cop a b) : Cop b a := fun d h1 h2 => h d h2 h1
abbrev Tr := Int × Int × Int
def tri (p : Pr) : Tr := (p.1 * p.1 - p.2 * p.2, 2 * p.1 * p.2, p.1 * p.1 + p.2 * p.2)
structure TriOk (t : Tr) : Prop where
  a : 0 < t.1
  b : 0 < t.2.1
  c : 0 < t.2.2
  odd : t.1 % 2 = 1
  even : t.2.1 % 2 = 0
  sq : t.1 * t.1 + t.2.1 * t.2.1 = t.2.2 * t.2.2
  cop : Int.gcd t.1 t.2.1 = 1
theorem sq_mod (m : Int) : (m * m) % 2 = m % 2 := by
  rw [Int.mul_emod]
  rcases Int.emod_two_eq m with h | h <;> rw [h] <;> rfl
theorem tri_ok {p : Pr} (h : Good p) : TriOk (tri p) := by
  obtain ⟨m, n⟩ := p
  obtain ⟨h1, h2, h3, h4⟩ := h
  dsimp only at h1 h2 h3 h4
  have k1 : n * n < m * m := Int.lt_trans (Int.mul_lt_mul_of_pos_right h2 h1) (Int.mul_lt_mul_of_pos_left h2 (by omega))
  have k2 : 0 < n * n := Int.mul_pos h1 h1
  have k3 : 0 < m * n := Int.mul_pos (by omega) h1
  have k4 : 2 * m * n = 2 * (m * n) := by grind
  have odd : (m * m - n * n) % 2 = 1 := by
    have := sq_mod m
    have := sq_mod n
    omega
  have cn : Cop n m := cop_comm h4
  refine ⟨by show 0 < m * m - n * n; omega, by show 0 < 2 * m * n; omega, by show 0 < m * m + n * n; omega, odd, by show (2 * m * n) % 2 = 0; omega, ?_, ?_⟩
  · show (m * m - n * n) * (m * m - n * n) + 2 * m * n * (2 * m * n) = (m * m + n * n) * (m * m + n * n)
    grind
  · refine cop_iff.mpr ?_
    show Cop (m * m - n * n) (2 * m * n)
    refine cop_mul (cop_mul ?_ ?_) ?_
    · intro d h5 ⟨e, he⟩
      have hd2 : d ∣ (2 : Int) := ⟨e, he⟩
      obtain ⟨f, hf⟩ := h5
      exact ⟨f - e * ((m * m - n * n) / 2), by
        have e1 := Int.mul_ediv_add_emod (m * m - n * n) 2
        rw [odd] at e1
        grind⟩
    · intro d ⟨e, he⟩ ⟨f, hf⟩
      exact cop_mul h4 h4 d ⟨f, hf⟩ ⟨f * m - e, by grind⟩
    · intro d ⟨e, he⟩ ⟨f, hf⟩
      exact cop_mul cn cn d ⟨f, hf⟩ ⟨f * n + e, by grind⟩
theorem tri_half1 (p : Pr) : ((tri p).2.2 + (tri p).1) / 2 = p.1 * p.1 := by
  show ((p.1 * p.1 + p.2 * p.2) + (p.1 * p.1 - p.2 * p.2)) / 2 = p.1 * p.1
  omega
theorem tri_half2 (p : Pr) : ((tri p).2.2 - (tri p).1) / 2 = p.2 * p.2 := by
  show ((p.1 * p.1 + p.2 * p.2) - (p.1 * p.1 - p.2 * p.2)) / 2 = p.2 * p.2
  omega
/-! ### roots -/
theorem root_uniq {r b n : Int} (h : 0 ≤ r) (h1 : r * r ≤ n) (h2 : n < (r + 1) * (r + 1)) (hb : 0 ≤ b) (h3 : b * b ≤ n) (h4 : n < (b + 1) * (b + 1)) : r = b := by
  rcases Int.lt_trichotomy r b with c | c | c
  · have : (r + 1) * (r + 1) ≤ b * b := Int.mul_le_mul (by omega) (by omega) (by omega) (by omega)
    omega
  · exact c
  · have : (b + 1) * (b + 1) ≤ r * r := Int.mul_le_mul (by omega) (by omega) (by omega) (by omega)
    omega
theorem root_sq {r m : Int} (h : 0 ≤ r) (h1 : r * r ≤ m * m) (h2 : m * m < (r + 1) * (r + 1)) (hm : 0 ≤ m) : r = m :=
  root_uniq h h1 h2 hm (Int.le_refl _) (by grind)
structure Newt (N x : Int) : Prop where
  nn : 0 ≤ x
  up : N < (x + 1) * (x + 1)
theorem newt_next {N x : Int} (hN : 0 ≤ N) (h : Newt N x) (hx : N < x * x) : 0 < x ∧ Newt N ((x + N / x) / 2) ∧ (x + N / x) / 2 < x := by
  have x0 : 0 < x := by
    rcases Int.lt_or_eq_of_le h.nn with c | c
    · exact c
    · rw [← c] at hx
      omega
  have e1 := Int.mul_ediv_add_emod N x
  have e2 := Int.emod_nonneg N (show x ≠ 0 by omega)
  have e3 := Int.emod_lt_of_pos N x0
  generalize hq : N / x = q at *
  have q0 : 0 ≤ q := by rw [← hq]; exact Int.ediv_nonneg hN h.nn
  have q1 : q < x := by
    rcases Int.lt_or_le q x with c | c
    · exact c
    · have : x * x ≤ x * q := Int.mul_le_mul_of_nonneg_left c h.nn
      omega
  have f1 := Int.mul_ediv_add_emod (x + q) 2
  generalize hr : (x + q) / 2 = r at *
  have r1 : x + q + 1 ≤ 2 * (r + 1) := by omega
  refine ⟨x0, ⟨by omega, ?_⟩, by omega⟩
  have g1 : 4 * N < 4 * ((q + 1) * x) := by
    have : (q + 1) * x = x * q + x := by grind
    omega
  have g2 : 4 * ((q + 1) * x) ≤ (x + q + 1) * (x + q + 1) := by
    have z : 0 ≤ (q + 1 - x) * (q + 1 - x) := by
      rcases Int.le_total 0 (q + 1 - x) with c | c
      · exact Int.mul_nonneg c c
      · exact Int.mul_nonneg_of_nonpos_of_nonpos c c
    have : (q + 1 - x) * (q + 1 - x) = (x + q + 1) * (x + q + 1) - 4 * ((q + 1) * x) := by grind
    omega
  have g3 : (x + q + 1) * (x + q + 1) ≤ (2 * (r + 1)) * (2 * (r + 1)) := Int.mul_le_mul r1 r1 (by omega) (by omega)
  have g4 : (2 * (r + 1)) * (2 * (r + 1)) = 4 * ((r + 1) * (r + 1)) := by grind
  omega
theorem newt_start {N : Int} {b : Nat} (hb : N < 2 ^ b) : Newt N (2 ^ ((b + 1) / 2)) := by
  have p0 : ∀ k : Nat, (0 : Int) < 2 ^ k := fun k => by
    have := Nat.two_pow_pos k
    exact_mod_cast this
  have z := p0 ((b + 1) / 2)
  refine ⟨by omega, ?_⟩
  have h1 : (2 : Int) ^ b ≤ 2 ^ ((b + 1) / 2) * 2 ^ ((b + 1) / 2) := by
    rw [← Int.pow_add]
    have : (2 : Nat) ^ b ≤ 2 ^ ((b + 1) / 2 + (b + 1) / 2) := Nat.pow_le_pow_right (by decide) (by omega)
    exact_mod_cast this
  have h2 : ((2 : Int) ^ ((b + 1) / 2) + 1) * (2 ^ ((b + 1) / 2) + 1) = 2 ^ ((b + 1) / 2) * 2 ^ ((b + 1) / 2) + 2 * 2 ^ ((b + 1) / 2) + 1 := by grind
  omega
/-! ### sizes -/
/-- fewer than k bits -/
def Bd (k : Nat) (x : Int) : Prop := x.natAbs < 2 ^ k
theorem Bd.mono {k l : Nat} {x : Int} (h : Bd k x) (e : k ≤ l) : Bd l x := Nat.lt_of_lt_of_le h (Nat.pow_le_pow_right (by decide) e)
theorem Bd.mul {k l : Nat} {x y : Int} (h : Bd k x) (h2 : Bd l y) : Bd (k + l) (x * y) := by
  unfold Bd at *
  rw [Int.natAbs_mul, Nat.pow_add]
  exact Nat.mul_lt_mul'' h h2
theorem Bd.add {k : Nat} {x y : Int} (h : Bd k x) (h2 : Bd k y) : Bd (k + 1) (x + y) := by
  unfold Bd at *
  have := Int.natAbs_add_le x y
  rw [Nat.pow_succ]
  omega
theorem Bd.neg {k : Nat} {x : Int} (h : Bd k x) : Bd k (-x) := by
  unfold Bd at *
  rw [Int.natAbs_neg]
  exact h
theorem Bd.sub {k : Nat} {x y : Int} (h : Bd k x) (h2 : Bd k y) : Bd (k + 1) (x - y) := by
  rw [Int.sub_eq_add_neg]
  exact Bd.add h h2.neg
theorem Bd.le {k : Nat} {x y : Int} (h : Bd k y) (h0 : 0 ≤ x) (h1 : x ≤ y) : Bd k x := Nat.lt_of_le_of_lt (by omega) h
theorem Bd.lt {k : Nat} {x : Int} (h : Bd k x) : x < 2 ^ k := by
  unfold Bd at h
  have : ((x.natAbs : Nat) : Int) < ((2 ^ k : Nat) : Int) := Int.ofNat_lt.mpr h
  rw [Int.natCast_pow] at this
  have e : x ≤ x.natAbs := Int.le_natAbs
  exact Int.lt_of_le_of_lt e this
theorem bd_of {k : Nat} {x : Int} (h0 : 0 ≤ x) (h : x < 2 ^ k) : Bd k x := by
  unfold Bd
  have e : ((x.natAbs : Nat) : Int) < ((2 ^ k : Nat) : Int) := by
    rw [Int.natCast_pow, Int.natAbs_of_nonneg h0]
    exact h
  exact Int.ofNat_lt.mp e
theorem bd_small {x : Int} {k : Nat} (h : x.natAbs < 2 ^ k) : Bd k x := h
theorem tri_bd {p : Pr} {k : Nat} (h : Good p) (hb : Bd k p.1) : Bd (k + k + 2) (tri p).1 ∧ Bd (k + k + 2) (tri p).2.1 ∧ Bd (k + k + 2) (tri p).2.2 := by
  obtain ⟨h1, h2, _, _⟩ := h
  have hn : Bd k p.2 := hb.le (by omega) (by omega)
  have e1 := hb.mul hb
  have e2 := hn.mul hn
  have e3 := hb.mul hn
  refine ⟨(e1.sub e2).mono (by omega), ?_, (e1.add e2).mono (by omega)⟩
  have : (tri p).2.1 = p.1 * p.2 + p.1 * p.2 := by
    show 2 * p.1 * p.2 = _
    grind
  rw [this]
  exact (e3.add e3).mono (by omega)
def PartOk (x : Int × Int) : Prop := S3 x.1 ∧ 1 ≤ x.2 ∧ x.2 ≤ 10 ^ 40 ∧ (x.1 = 1 → x.2 ≤ 1000)
theorem rep1_le {p : Pr} (h : Good p) : ∀ k : Nat, Bd b p.1 → Bd (b + 2 * k) (rep 1 k p).1
  | 0, hb => hb
  | k + 1, hb => by
    have ih := rep1_le h k hb
    have g := good_rep (s := 1) (.inr (.inl rfl)) h k
    obtain ⟨g1, g2, _, _⟩ := g
    rw [rep, st, if_neg (by decide), if_neg (by decide)]
    dsimp only
    have e : Bd (b + 2 * k) (rep 1 k p).2 := ih.le (by omega) (by omega)
    have : 2 * (rep 1 k p).1 + (rep 1 k p).2 = ((rep 1 k p).1 + (rep 1 k p).1) + (rep 1 k p).2 := by grind
    rw [this]
    exact ((ih.add ih).add (e.mono (by omega))).mono (by omega)
theorem led_bd {p : Pr} {x : Int × Int} {b : Nat} (h : Good p) (hx : PartOk x) (hb : Bd b p.1) : Bd (b + 2000) (led p x.1 x.2).1 := by
  obtain ⟨s, o⟩ := x
  obtain ⟨h1, h2, h3, h4⟩ := hx
  obtain ⟨g1, g2, _, _⟩ := id h
  dsimp only at h1 h2 h3 h4 ⊢
  have ho : Bd 140 o := Nat.lt_of_le_of_lt (show o.natAbs ≤ 10 ^ 40 by omega) (by decide +kernel)
  have hn : Bd b p.2 := hb.le (by omega) (by omega)
  rcases h1 with rfl | rfl | rfl
  · rw [led, if_pos rfl]
    dsimp only
    have e1 := hb.sub hn
    exact (((hb.mono (show b ≤ 140 + (b + 1) by omega)).add (ho.mul e1))).mono (by omega)
  · rw [led, if_neg (by decide), if_neg (by decide)]
    exact (rep1_le h o.toNat hb).mono (by have := h4 rfl; omega)
  · rw [led, if_neg (by decide), if_pos rfl]
    dsimp only
    have : 2 * o * p.2 = o * p.2 + o * p.2 := by grind
    rw [this]
    have e1 := ho.mul hn
    exact (((hb.mono (show b ≤ 140 + b + 1 by omega)).add (e1.add e1))).mono (by omega)
theorem rep1_succ (i : Nat) (p : Pr) : rep 1 (i + 1) p = (2 * (rep 1 i p).1 + (rep 1 i p).2, (rep 1 i p).1) := by
  rw [rep, st, if_neg (by decide), if_neg (by decide)]
theorem led_good {p : Pr} {s o : Int} (h : Good p) (hs : S3 s) (ho : 0 ≤ o) : Good (led p s o) := by
  rw [led_rep hs ho]
  exact good_rep hs h _
theorem parts_pos {r : PRow} (h : ∀ x ∈ r, PartOk x) : Pos r := fun x hx => ⟨(h x hx).1, (h x hx).2.1⟩
theorem behind_bd (r : PRow) : (∀ x ∈ r, PartOk x) → Bd (2000 * r.length + 2) (behind r).1 := by
  refine snoc_ind (P := fun r => (∀ x ∈ r, PartOk x) → Bd (2000 * r.length + 2) (behind r).1) (fun _ => by show (2 : Nat) < 2 ^ 2; decide) (fun l x ih h => ?_) r
  have h1 : ∀ y ∈ l, PartOk y := fun y hy => h y (List.mem_append_left _ hy)
  rw [behind_snoc, List.length_append, List.length_singleton]
  exact (led_bd (behind_good (parts_pos h1)) (h x (by simp)) (ih h1)).mono (by omega)
end Sq

/-! one step back; rows cut -/
namespace Sq
def backOf (p : Pr) : Int × Pr := if p.1 < 2 * p.2 then (0, (p.2, 2 * p.2 - p.1)) else if p.1 < 3 * p.2 then (1, (p.2, p.1 - 2 * p.2)) else (2, (p.1 - 2 * p.2, p.2))
theorem back_ok {p : Pr} (h : Good p) (h0 : p ≠ (2, 1)) : S3 (backOf p).1 ∧ Good (backOf p).2 ∧ p = st (backOf p).1 (backOf p).2 := by
  obtain ⟨m, n⟩ := p
  have ne2 := not_two h h0
  obtain ⟨h1, h2, h3, h4⟩ := h
  dsimp only at h1 h2 h3 h4
  unfold backOf
  dsimp only
  by_cases c : m < 2 * n
  · rw [if_pos c]
    refine ⟨.inl rfl, ⟨by dsimp only; omega, by dsimp only; omega, by dsimp only; omega, fun d ⟨a, ha⟩ ⟨b, hb⟩ => ?_⟩, ?_⟩
    · dsimp only at ha hb
      exact h4 d ⟨2 * a - b, by grind⟩ ⟨a, by grind⟩
    · rw [st, if_pos rfl]
      refine Prod.ext ?_ ?_ <;> dsimp only <;> omega
  · rw [if_neg c]
    by_cases c2 : m < 3 * n
    · rw [if_pos c2]
      refine ⟨.inr (.inl rfl), ⟨by dsimp only; omega, by dsimp only; omega, by dsimp only; omega, fun d ⟨a, ha⟩ ⟨b, hb⟩ => ?_⟩, ?_⟩
      · dsimp only at ha hb
        exact h4 d ⟨2 * a + b, by grind⟩ ⟨a, by grind⟩
      · show (m, n) = st 1 (n, m - 2 * n)
        rw [st, if_neg (by decide), if_neg (by decide)]
        refine Prod.ext ?_ ?_ <;> dsimp only <;> omega
    · rw [if_neg c2]
      refine ⟨.inr (.inr rfl), ⟨by dsimp only; omega, by dsimp only; omega, by dsimp only; omega, fun d ⟨a, ha⟩ ⟨b, hb⟩ => ?_⟩, ?_⟩
      · dsimp only at ha hb
        exact h4 d ⟨a + 2 * b, by grind⟩ ⟨b, by grind⟩
      · show (m, n) = st 2 (m - 2 * n, n)
        rw [st, if_neg (by decide), if_pos rfl]
        refine Prod.ext ?_ ?_ <;> dsimp only <;> omega
theorem back_st {s : Int} {p : Pr} (hs : S3 s) (h : Good p) : backOf (st s p) = (s, p) := by
  obtain ⟨h1, h2, h3⟩ := back_ok (good_st hs h) (st_root hs h)
  obtain ⟨e1, e2⟩ := st_inj hs h1 h h2 h3
  exact Prod.ext e1.symm e2.symm
theorem back_le {p : Pr} (h : Good p) : 0 ≤ (backOf p).2.1 ∧ (backOf p).2.1 ≤ p.1 ∧ -p.1 ≤ (backOf p).2.2 ∧ (backOf p).2.2 ≤ p.1 := by
  obtain ⟨h1, h2, _, _⟩ := h
  unfold backOf
  split
  · dsimp only
    omega
  · split <;> (dsimp only; omega)
theorem last_le {p : Pr} (h : Good p) (h0 : p ≠ (2, 1)) : (lastOf p).2.2.1 ≤ p.1 := by
  obtain ⟨h1, h2, h3, h4⟩ := last_ok h h0
  rw [led_rep h1 (by omega)] at h4
  have mono : ∀ k : Nat, (lastOf p).2.2.1 ≤ (rep (lastOf p).1 k (lastOf p).2.2).1 := by
    intro k
    induction k with
    | zero => exact Int.le_refl _
    | succ k ih =>
      have g := good_rep h1 h3 k
      refine Int.le_trans ih ?_
      obtain ⟨g1, g2, _, _⟩ := g
      rw [rep]
      rcases h1 with e | e | e <;> (rw [e] at g1 g2 ⊢; simp [st]; omega)
  have := mono (lastOf p).2.1.toNat
  rw [h4] at this
  exact this
theorem Bd.abs {k : Nat} {x y : Int} (h : Bd k y) (h0 : -y ≤ x) (h1 : x ≤ y) : Bd k x := Nat.lt_of_le_of_lt (by omega) h
theorem behind_take {r : PRow} {i : Nat} {x : Int × Int} (h : r[i]? = some x) : behind (r.take (i + 1)) = led (behind (r.take i)) x.1 x.2 := by
  rw [List.take_add_one, h]
  exact behind_snoc _ _
theorem adj_get : ∀ {r : PRow} {i : Nat} {x y : Int × Int}, Adj r → r[i]? = some x → r[i + 1]? = some y → x.1 ≠ y.1
  | [], _, _, _, _, h, _ => by simp at h
  | [_], 0, _, _, _, _, h => by simp at h
  | [_], _ + 1, _, _, _, h, _ => by simp at h
  | a :: b :: r, 0, x, y, ha, h, h2 => by
    have e1 : a = x := Option.some.inj h
    have e2 : b = y := Option.some.inj h2
    subst e1
    subst e2
    exact ha.1
  | a :: b :: r, i + 1, x, y, ha, h, h2 => adj_get (r := b :: r) (i := i) ha.2 h h2
theorem adj_take : ∀ {r : PRow} (n : Nat), Adj r → Adj (r.take n)
  | _, 0, _ => trivial
  | [], _ + 1, _ => trivial
  | [_], _ + 1, _ => by simp [Adj]
  | a :: b :: r, 1, _ => trivial
  | a :: b :: r, n + 2, h => ⟨h.1, adj_take (r := b :: r) (n + 1) h.2⟩
end Sq

/-! drawn rows -/
namespace Sq
theorem adj_snoc : ∀ {r : PRow} {x y : Int × Int}, Adj (r ++ [x]) → x.1 ≠ y.1 → Adj (r ++ [x] ++ [y])
  | [], _, _, _, h => ⟨h, trivial⟩
  | [a], x, y, ha, h => ⟨ha.1, h, trivial⟩
  | a :: b :: r, x, y, ha, h => ⟨ha.1, adj_snoc (r := b :: r) ha.2 h⟩
/-- a row grown, the step told last: 3 ahead of any -/
def LastIs (r : PRow) (l : Int) : Prop := (r = [] ∧ l = 3) ∨ ∃ r' x, r = r' ++ [x] ∧ l = x.1 ∧ S3 l
theorem next_ok {r : PRow} {l d s o : Int} (hl : LastIs r l) (h : ∀ x ∈ r, PartOk x) (ha : Adj r) (hs : s = if l = 3 then d % 3 else (l + 1 + d % 2) % 3) (h1 : 1 ≤ o) (h2 : o ≤ 10 ^ 40) (h3 : s = 1 → o ≤ 1000) :
    (∀ x ∈ r ++ [(s, o)], PartOk x) ∧ Adj (r ++ [(s, o)]) ∧ LastIs (r ++ [(s, o)]) s := by
  have s3 : S3 s := by
    unfold S3
    split at hs <;> omega
  refine ⟨fun x hx => ?_, ?_, .inr ⟨r, (s, o), rfl, rfl, s3⟩⟩
  · rcases List.mem_append.mp hx with q | q
    · exact h x q
    · rw [List.mem_singleton.mp q]
      exact ⟨s3, h1, h2, h3⟩
  · rcases hl with ⟨e, _⟩ | ⟨r', x, e, e2, l3⟩
    · rw [e]
      trivial
    · rw [e]
      refine adj_snoc (by rw [← e]; exact ha) ?_
      rw [← e2]
      unfold S3 at l3
      rw [if_neg (by omega)] at hs
      show l ≠ s
      omega
theorem often_ok {d m : Int} (hd : 0 ≤ d) (hm : 0 < m) (hm2 : m ≤ 10 ^ 40) : 1 ≤ 1 + d % m ∧ 1 + d % m ≤ 10 ^ 40 := by
  have := Int.emod_nonneg d (show m ≠ 0 by omega)
  have := Int.emod_lt_of_pos d hm
  omega
theorem partok_small {s o : Int} (hs : S3 s) (h1 : 1 ≤ o) (h2 : o ≤ 1000) : PartOk (s, o) := ⟨hs, h1, by dsimp only; omega, fun _ => h2⟩
end Sq

/-! a row's last step, taken back -/
namespace Sq
def shorter (s o : Int) : PRow := if 1 < o then [(s, o - 1)] else []
theorem shorter_ok {s o : Int} (h : PartOk (s, o)) : ∀ x ∈ shorter s o, PartOk x := by
  intro x hx
  unfold shorter at hx
  split at hx
  · rw [List.mem_singleton.mp hx]
    obtain ⟨h1, h2, h3, h4⟩ := h
    dsimp only at h1 h2 h3 h4
    exact ⟨h1, by dsimp only; omega, by dsimp only; omega, fun e => by have := h4 e; dsimp only; omega⟩
  · cases hx
theorem behind_app (a b : PRow) : behind (a ++ b) = b.foldl (fun p x => led p x.1 x.2) (behind a) := by simp [behind, List.foldl_append]
theorem last_step {r : PRow} {s o : Int} (hr : ∀ x ∈ r, PartOk x) (h : PartOk (s, o)) : behind (r ++ [(s, o)]) = st s (behind (r ++ shorter s o)) := by
  obtain ⟨h1, h2, h3, h4⟩ := h
  dsimp only at h1 h2 h3 h4
  rw [behind_app, behind_app]
  unfold shorter
  split
  · show led (behind r) s o = st s (led (behind r) s (o - 1))
    rw [led_rep h1 (by omega), led_rep h1 (by omega)]
    have : o.toNat = (o - 1).toNat + 1 := by omega
    rw [this, rep]
  · show led (behind r) s o = st s (behind r)
    have : o = 1 := by omega
    rw [this, led_rep h1 (by decide)]
    rfl
end Sq

/-! each pair's way and row; the pairs up to a number -/
namespace Sq
theorem way : ∀ (k : Nat) (p : Pr), Good p → p.1.toNat ≤ k → ∃ w : List Int, Steps w ∧ walk w = p ∧ (w.length : Int) + 2 ≤ p.1
  | 0, p, h, hk => by
    have := h.1
    have := h.2.1
    omega
  | k + 1, p, h, hk => by
    by_cases h0 : p = (2, 1)
    · subst h0
      exact ⟨[], (fun s hs => by cases hs), rfl, by decide⟩
    · obtain ⟨b1, b2, b3⟩ := back_ok h h0
      have lt : (backOf p).2.1 < p.1 := by
        have g := b2
        have e := b3
        obtain ⟨g1, g2, _, _⟩ := g
        generalize (backOf p).1 = s at *
        generalize (backOf p).2 = q at *
        rw [e]
        rcases b1 with z | z | z <;> (rw [z]; simp [st]; omega)
      have pos := b2.1
      have pos2 := b2.2.1
      obtain ⟨w, w1, w2, w3⟩ := way k (backOf p).2 b2 (by omega)
      refine ⟨w ++ [(backOf p).1], steps_app.mpr ⟨w1, fun s hs => by rw [List.mem_singleton.mp hs]; exact b1⟩, ?_, ?_⟩
      · rw [walk_snoc, w2]
        exact b3.symm
      · rw [List.length_append, List.length_singleton]
        omega
/-- a way as a row -/
def rle : List Int → PRow
  | [] => []
  | s :: w => front s 1 (rle w)
theorem rle_ok : ∀ w : List Int, Steps w → Pos (rle w) ∧ Adj (rle w) ∧ ex (rle w) = w ∧ (rle w).length ≤ w.length ∧ ∀ x ∈ rle w, x.2 ≤ w.length
  | [], _ => ⟨(fun x hx => by cases hx), trivial, rfl, Nat.le_refl _, (fun x hx => by cases hx)⟩
  | s :: w, h => by
    obtain ⟨h1, h2, h3, h4, h5⟩ := rle_ok w (fun x hx => h x (List.mem_cons_of_mem _ hx))
    have hs := h s List.mem_cons_self
    refine ⟨front_pos hs (by decide) h1, front_adj h2, ?_, ?_, ?_⟩
    · show ex (front s 1 (rle w)) = s :: w
      rw [front_ex (by decide) h1, h3]
      rfl
    · show (front s 1 (rle w)).length ≤ w.length + 1
      cases e : rle w with
      | nil => exact Nat.succ_le_succ (Nat.zero_le _)
      | cons x r =>
        rw [e] at h4
        by_cases c : x.1 = s
        · rw [front_eq c]
          rw [List.length_cons] at h4 ⊢
          omega
        · rw [front_ne c]
          rw [List.length_cons]
          omega
    · show ∀ x ∈ front s 1 (rle w), x.2 ≤ ((w.length + 1 : Nat) : Int)
      intro x hx
      cases e : rle w with
      | nil =>
        rw [e] at hx
        rw [List.mem_singleton.mp hx]
        dsimp only
        omega
      | cons y r =>
        rw [e] at hx h5
        have hy := h5 y List.mem_cons_self
        by_cases c : y.1 = s
        · rw [front_eq c] at hx
          rcases List.mem_cons.mp hx with z | z
          · rw [z]
            dsimp only
            omega
          · have := h5 x (List.mem_cons_of_mem _ z)
            omega
        · rw [front_ne c] at hx
          rcases List.mem_cons.mp hx with z | z
          · rw [z]
            dsimp only
            omega
          · have := h5 x z
            omega
/-- each pair has a row -/
theorem row_of_pair {p : Pr} (h : Good p) (hb : p.1 ≤ 900) : ∃ r : PRow, (∀ x ∈ r, PartOk x) ∧ Adj r ∧ behind r = p ∧ r.length ≤ 900 ∧ (r.length : Int) ≤ p.1 ∧ (ex r).length + 2 ≤ p.1 := by
  obtain ⟨w, w1, w2, w3⟩ := way _ p h (Nat.le_refl _)
  obtain ⟨h1, h2, h3, h4, h5⟩ := rle_ok w w1
  refine ⟨rle w, fun x hx => ?_, h2, ?_, by omega, by omega, by rw [h3]; omega⟩
  · have a := h1 x hx
    have b := h5 x hx
    exact ⟨a.1, a.2, by omega, fun _ => by omega⟩
  · rw [behind_walk _ h1, h3]
    exact w2
theorem tri_root {p : Pr} (h : Good p) (e1 : (tri p).1 = 3) (e2 : (tri p).2.2 = 5) : p = (2, 1) := by
  obtain ⟨h1, h2, h3, h4⟩ := h
  have a : p.1 * p.1 - p.2 * p.2 = 3 := e1
  have b : p.1 * p.1 + p.2 * p.2 = 5 := e2
  have c : p.1 * p.1 = 4 := by omega
  have d : p.2 * p.2 = 1 := by omega
  have x1 : p.1 = 2 := root_sq (m := 2) (by omega) (by omega) (by have := Int.mul_pos (show 0 < p.1 by omega) (show 0 < p.1 by omega); grind) (by decide)
  have x2 : p.2 = 1 := root_sq (m := 1) (by omega) (by omega) (by grind) (by decide)
  exact Prod.ext x1 x2
/-- the pairs (m, 1), .. (m, k) -/
def inner (m : Int) : Nat → List Pr
  | 0 => []
  | k + 1 => inner m k ++ (if (m + (k + 1)) % 2 = 1 ∧ Int.gcd m (k + 1) = 1 then [(m, (k : Int) + 1)] else [])
/-- all pairs up to the number i + 1 -/
def pairs : Nat → List Pr
  | 0 => []
  | i + 1 => pairs i ++ inner (i + 2) (i + 1)
theorem inner_mem {m : Int} : ∀ {k : Nat} {p : Pr}, p ∈ inner m k → p.1 = m ∧ 0 < p.2 ∧ p.2 ≤ k ∧ (p.1 + p.2) % 2 = 1 ∧ Cop p.1 p.2
  | 0, _, h => by cases h
  | k + 1, p, h => by
    rcases List.mem_append.mp h with z | z
    · obtain ⟨a, b, c, d⟩ := inner_mem z
      exact ⟨a, b, by omega, d⟩
    · split at z
      · rename_i c
        rw [List.mem_singleton.mp z]
        exact ⟨rfl, by dsimp only; omega, by dsimp only; omega, c.1, cop_iff.mp c.2⟩
      · cases z
theorem inner_nodup {m : Int} : ∀ k : Nat, (inner m k).Nodup
  | 0 => List.nodup_nil
  | k + 1 => by
    refine List.nodup_append.mpr ⟨inner_nodup k, ?_, ?_⟩
    · split <;> simp
    · intro a ha b hb e
      subst e
      split at hb
      · have := (inner_mem ha).2.2.1
        rw [List.mem_singleton.mp hb] at this
        dsimp only at this
        omega
      · cases hb
theorem pairs_mem : ∀ {i : Nat} {p : Pr}, p ∈ pairs i → Good p ∧ p.1 ≤ i + 1
  | 0, _, h => by cases h
  | i + 1, p, h => by
    rcases List.mem_append.mp h with z | z
    · obtain ⟨a, b⟩ := pairs_mem z
      exact ⟨a, by omega⟩
    · obtain ⟨a, b, c, d, e⟩ := inner_mem z
      exact ⟨⟨b, by omega, d, e⟩, by omega⟩
theorem pairs_nodup : ∀ i : Nat, (pairs i).Nodup
  | 0 => List.nodup_nil
  | i + 1 => by
    refine List.nodup_append.mpr ⟨pairs_nodup i, inner_nodup _, ?_⟩
    intro a ha b hb e
    subst e
    have := (pairs_mem ha).2
    have := (inner_mem hb).1
    omega
theorem pairs_len : ∀ i : Nat, (pairs i).length ≤ i * (i + 1)
  | 0 => Nat.le_refl _
  | i + 1 => by
    have inl : ∀ (m : Int) (k : Nat), (inner m k).length ≤ k := by
      intro m k
      induction k with
      | zero => exact Nat.le_refl _
      | succ k ih =>
        rw [inner, List.length_append]
        split <;> simp <;> omega
    have := pairs_len i
    have := inl (i + 2) (i + 1)
    rw [pairs, List.length_append]
    have e : (i + 1) * (i + 1 + 1) = i * (i + 1) + 2 * (i + 1) := by grind
    omega
theorem pairs_three : ∀ i : Nat, 3 ≤ i → ∃ l, pairs i = (2, 1) :: (3, 2) :: (4, 1) :: l
  | 0, h => by omega
  | 1, h => by omega
  | 2, h => by omega
  | 3, _ => ⟨[(4, 3)], by decide⟩
  | i + 4, _ => by
    obtain ⟨l, e⟩ := pairs_three (i + 3) (by omega)
    exact ⟨l ++ inner ((i + 3 : Nat) + 2) (i + 3 + 1), by rw [pairs, e]; rfl⟩
theorem behind_inj {r u : PRow} (hr : Pos r) (hu : Pos u) (ar : Adj r) (au : Adj u) (e : behind r = behind u) : r = u := by
  have h : ∀ (v w : List Int), Steps v → Steps w → walk v = walk w → v = w := by
    intro v
    refine snoc_ind (P := fun v => ∀ w, Steps v → Steps w → walk v = walk w → v = w) ?_ ?_ v
    · intro w _ hw e
      rcases List.eq_nil_or_concat w with z | ⟨w', s, z⟩
      · exact z.symm
      · subst z
        rw [List.concat_eq_append] at hw e
        have h2 := steps_app.mp hw
        rw [walk_snoc] at e
        exact absurd e.symm (st_root (h2.2 s (by simp)) (walk_good h2.1))
    · intro v s ih w hv hw e
      have hv2 := steps_app.mp hv
      rcases List.eq_nil_or_concat w with z | ⟨w', t, z⟩
      · subst z
        rw [walk_snoc] at e
        exact absurd e (st_root (hv2.2 s (by simp)) (walk_good hv2.1))
      · subst z
        rw [List.concat_eq_append] at hw e ⊢
        have hw2 := steps_app.mp hw
        rw [walk_snoc, walk_snoc] at e
        obtain ⟨e1, e2⟩ := st_inj (hv2.2 s (by simp)) (hw2.2 t (by simp)) (walk_good hv2.1) (walk_good hw2.1) e
        rw [e1, ih w' hv2.1 hw2.1 e2]
  rw [behind_walk r hr, behind_walk u hu] at e
  exact ex_inj hr hu ar au (h _ _ (ex_steps hr) (ex_steps hu) e)
end Sq

/-! triples in order: the plain law -/
namespace Sq
def lt3 (p q : Tr) : Bool := decide (p.1 < q.1 ∨ (p.1 = q.1 ∧ (p.2.1 < q.2.1 ∨ (p.2.1 = q.2.1 ∧ p.2.2 < q.2.2))))
theorem lt3_iff {p q : Tr} : lt3 p q = true ↔ p.1 < q.1 ∨ (p.1 = q.1 ∧ (p.2.1 < q.2.1 ∨ (p.2.1 = q.2.1 ∧ p.2.2 < q.2.2))) := decide_eq_true_iff
theorem lt3_no {p q : Tr} : lt3 p q = false ↔ ¬ (p.1 < q.1 ∨ (p.1 = q.1 ∧ (p.2.1 < q.2.1 ∨ (p.2.1 = q.2.1 ∧ p.2.2 < q.2.2)))) := decide_eq_false_iff_not
def le3 (p q : Tr) : Bool := !lt3 q p
theorem le3_iff {p q : Tr} : le3 p q = true ↔ lt3 q p = false := by
  unfold le3
  cases lt3 q p <;> simp
/-- the one sorted list of these -/
def srt (L : List Tr) : List Tr := L.mergeSort le3
theorem srt_perm (L : List Tr) : (srt L).Perm L := List.mergeSort_perm L le3
theorem srt_pw (L : List Tr) : (srt L).Pairwise fun x y => le3 x y = true := by
  refine List.pairwise_mergeSort (fun a b c h1 h2 => ?_) (fun a b => ?_) L
  · have h1 := lt3_no.mp (le3_iff.mp h1)
    have h2 := lt3_no.mp (le3_iff.mp h2)
    refine le3_iff.mpr (lt3_no.mpr ?_)
    omega
  · rcases Bool.eq_false_or_eq_true (lt3 b a) with h | h
    · have h' := lt3_iff.mp h
      have : le3 b a = true := le3_iff.mpr (lt3_no.mpr (by omega))
      rw [this, Bool.or_true]
    · rw [le3_iff.mpr h, Bool.true_or]
theorem srt_of {L M : List Tr} (hp : M.Perm L) (hs : M.Pairwise fun x y => lt3 y x = false) : M = srt L := by
  refine List.Perm.eq_of_pairwise (le := fun x y => le3 x y = true) (fun a b _ _ h1 h2 => ?_) (hs.imp fun {a b} h => le3_iff.mpr h) (srt_pw L) (hp.trans (srt_perm L).symm)
  have h1 := lt3_no.mp (le3_iff.mp h1)
  have h2 := lt3_no.mp (le3_iff.mp h2)
  obtain ⟨a1, a2, a3⟩ := a
  obtain ⟨b1, b2, b3⟩ := b
  dsimp only at h1 h2
  have e1 : a1 = b1 := by omega
  have e2 : a2 = b2 := by omega
  have e3 : a3 = b3 := by omega
  rw [e1, e2, e3]
end Sq

/-! the answers: the plain law -/
namespace Sq
/-- the whole root -/
def rt : Nat → Nat
  | 0 => 0
  | k + 1 => if (rt k + 1) * (rt k + 1) ≤ k + 1 then rt k + 1 else rt k
theorem rt_ok : ∀ k : Nat, rt k * rt k ≤ k ∧ k < (rt k + 1) * (rt k + 1)
  | 0 => ⟨Nat.le_refl _, by decide⟩
  | k + 1 => by
    obtain ⟨h1, h2⟩ := rt_ok k
    unfold rt
    generalize rt k = r at h1 h2
    by_cases c : (r + 1) * (r + 1) ≤ k + 1
    · rw [if_pos c]
      refine ⟨c, ?_⟩
      have : (r + 1 + 1) * (r + 1 + 1) = (r + 1) * (r + 1) + 2 * r + 3 := by grind
      omega
    · rw [if_neg c]
      exact ⟨by omega, by omega⟩
def rti (n : Int) : Int := (rt n.toNat : Nat)
theorem rti_pos (n : Int) : 0 ≤ rti n := Int.natCast_nonneg _
theorem rti_le {n : Int} (h : 0 ≤ n) : rti n * rti n ≤ n := by
  have q := (rt_ok n.toNat).1
  have e : ((n.toNat : Nat) : Int) = n := Int.toNat_of_nonneg h
  unfold rti
  rw [← Int.natCast_mul]
  omega
theorem rti_lt {n : Int} (h : 0 ≤ n) : n < (rti n + 1) * (rti n + 1) := by
  have q := (rt_ok n.toNat).2
  have e : ((n.toNat : Nat) : Int) = n := Int.toNat_of_nonneg h
  unfold rti
  have e2 : ((rt n.toNat : Nat) : Int) + 1 = ((rt n.toNat + 1 : Nat) : Int) := by omega
  rw [e2, ← Int.natCast_mul]
  omega
theorem sq_mono {a b : Int} (h0 : 0 ≤ a) (h : a ≤ b) : a * a ≤ b * b := Int.mul_le_mul h h h0 (by omega)
theorem le_of_sq {a b : Int} (hb : 0 ≤ b) (h : a * a ≤ b * b) : a ≤ b := by
  by_cases c : a ≤ b
  · exact c
  · have := sq_mono (a := b + 1) (b := a) (by omega) (by omega)
    have e : (b + 1) * (b + 1) = b * b + 2 * b + 1 := by grind
    omega
theorem lt_of_sq {a b : Int} (hb : 0 ≤ b) (h : a * a < b * b) : a < b := by
  by_cases c : a < b
  · exact c
  · have := sq_mono (a := b) (b := a) hb (by omega)
    omega
theorem rti_uniq {r n : Int} (h : 0 ≤ r) (h1 : r * r ≤ n) (h2 : n < (r + 1) * (r + 1)) : rti n = r := by
  have h0 : 0 ≤ n := Int.le_trans (Int.mul_nonneg h h) h1
  exact root_uniq (rti_pos n) (rti_le h0) (rti_lt h0) h h1 h2
theorem le_rti {a n : Int} (h0 : 0 ≤ n) (h : a * a ≤ n) : a ≤ rti n := by
  have h2 := rti_lt h0
  have := lt_of_sq (a := a) (b := rti n + 1) (by have := rti_pos n; omega) (by omega)
  omega
theorem rti_mono {a b : Int} (h0 : 0 ≤ a) (h : a ≤ b) : rti a ≤ rti b := le_rti (by omega) (by have := rti_le h0; omega)

/-! ### lists made turn by turn -/
def upto {α : Type} (f : Int → List α) : Nat → List α
  | 0 => []
  | k + 1 => upto f k ++ f (k + 1 : Nat)
theorem upto_more {α : Type} {f : Int → List α} {a : Nat} (h : ∀ i : Nat, a < i → f i = []) : ∀ d : Nat, upto f (a + d) = upto f a
  | 0 => rfl
  | d + 1 => by
    show upto f (a + d) ++ f (a + d + 1 : Nat) = upto f a
    rw [upto_more h d, h (a + d + 1) (by omega), List.append_nil]
theorem upto_eq {α : Type} {f : Int → List α} {a b : Nat} (hab : a ≤ b) (h : ∀ i : Nat, a < i → f i = []) : upto f b = upto f a := by
  obtain ⟨d, rfl⟩ := Nat.exists_eq_add_of_le hab
  exact upto_more h d
theorem upto_len {α : Type} {f : Int → List α} {c : Nat} (h : ∀ i, (f i).length ≤ c) : ∀ k : Nat, (upto f k).length ≤ c * k
  | 0 => by simp [upto]
  | k + 1 => by
    have q := upto_len h k
    have q2 := h (k + 1 : Nat)
    rw [upto, List.length_append, Nat.mul_succ]
    omega
theorem upto_nil {α : Type} {f : Int → List α} (h : ∀ i, f i = []) : ∀ k : Nat, upto f k = []
  | 0 => rfl
  | k + 1 => by rw [upto, upto_nil h k, h]; rfl
theorem upto_congr {α : Type} {f g : Int → List α} (h : ∀ i, f i = g i) : ∀ k : Nat, upto f k = upto g k
  | 0 => rfl
  | k + 1 => by rw [upto, upto, upto_congr h k, h]

/-! ### the longest side -/
def lgOk (N m n : Int) : Bool := decide (m * m + n * n = N) && decide ((m + n) % 2 = 1) && decide ((Int.gcd m n : Int) = 1)
def lgAt (N n : Int) : List Tr := if (decide (n < rti (N - n * n)) && lgOk N (rti (N - n * n)) n) = true then [tri (rti (N - n * n), n)] else []
def lgL (N : Int) : List Tr := upto (lgAt N) (rti N).toNat
theorem lgAt_nil {N n : Int} (h : N ≤ 2 * n * n) (hn : 0 ≤ n) : lgAt N n = [] := by
  refine if_neg fun c => ?_
  rw [Bool.and_eq_true] at c
  obtain ⟨c1, c2⟩ := c
  unfold lgOk at c2
  rw [Bool.and_eq_true, Bool.and_eq_true] at c2
  have c1 := of_decide_eq_true c1
  have c2 := of_decide_eq_true c2.1.1
  generalize rti (N - n * n) = m at c1 c2
  have := sq_mono (a := n + 1) (b := m) (by omega) (by omega)
  have e : (n + 1) * (n + 1) = n * n + 2 * n + 1 := by grind
  have e2 : 2 * n * n = 2 * (n * n) := by grind
  omega
theorem lgAt_len (N n : Int) : (lgAt N n).length ≤ 1 := by
  unfold lgAt
  split <;> simp
theorem lgL_upto {N : Int} {k : Nat} (hN : 0 ≤ N) (h : ∀ i : Int, 0 ≤ i → i ≤ k → i = 0 ∨ 2 * i * i < N) (h2 : N ≤ 2 * (k + 1 : Nat) * (k + 1 : Nat)) : upto (lgAt N) k = lgL N := by
  have hk : k ≤ (rti N).toNat := by
    by_cases c : k = 0
    · omega
    · have h3 := h k (by omega) (Int.le_refl _)
      have h4 : (k : Int) * k ≤ N := by
        have e2 : 2 * (k : Int) * k = 2 * ((k : Int) * k) := by grind
        have : 0 ≤ (k : Int) * k := Int.mul_nonneg (by omega) (by omega)
        omega
      have := le_rti hN h4
      omega
  refine (upto_eq hk fun i hi => lgAt_nil ?_ (by omega)).symm
  have := sq_mono (a := ((k + 1 : Nat) : Int)) (b := (i : Int)) (by omega) (by omega)
  have e2 : 2 * ((k + 1 : Nat) : Int) * (k + 1 : Nat) = 2 * (((k + 1 : Nat) : Int) * (k + 1 : Nat)) := by grind
  have e3 : 2 * (i : Int) * i = 2 * ((i : Int) * i) := by grind
  omega

/-! ### a leg -/
def leA (N p : Int) : List Tr := if (decide (N % p = 0) && decide (p < N / p) && decide ((Int.gcd p (N / p) : Int) = 1) && decide (N % 2 = 1)) = true then [tri ((N / p + p) / 2, (N / p - p) / 2)] else []
def leB (N p : Int) : List Tr := if (decide (N % 4 = 0) && decide (N / 2 % p = 0) && decide (p < N / 2 / p) && decide ((Int.gcd p (N / 2 / p) : Int) = 1)) = true then [tri (N / 2 / p, p)] else []
def leL (N : Int) : List Tr := upto (fun p => leA N p ++ leB N p) (rti N).toNat
theorem leA_even {N p : Int} (h : ¬ N % 2 = 1) : leA N p = [] := by
  refine if_neg fun c => ?_
  rw [Bool.and_eq_true] at c
  exact h (of_decide_eq_true c.2)
theorem leB_odd {N p : Int} (h : ¬ N % 4 = 0) : leB N p = [] := by
  refine if_neg fun c => ?_
  rw [Bool.and_eq_true, Bool.and_eq_true, Bool.and_eq_true] at c
  exact h (of_decide_eq_true c.1.1.1)
theorem part_lt {N p : Int} (hp : 0 < p) (h : N % p = 0) : p < N / p ↔ p * p < N := by
  have e := Int.mul_ediv_add_emod N p
  rw [h, Int.add_zero] at e
  constructor
  · intro c
    rw [← e]
    exact Int.mul_lt_mul_of_pos_left c hp
  · intro c
    rw [← e] at c
    exact Int.lt_of_mul_lt_mul_left c (by omega)
theorem leA_nil {N p : Int} (hp : 0 < p) (h : N ≤ p * p) : leA N p = [] := by
  refine if_neg fun c => ?_
  rw [Bool.and_eq_true, Bool.and_eq_true, Bool.and_eq_true] at c
  have := (part_lt hp (of_decide_eq_true c.1.1.1)).mp (of_decide_eq_true c.1.1.2)
  omega
theorem leB_nil {N p : Int} (hp : 0 < p) (h : N / 2 ≤ p * p) : leB N p = [] := by
  refine if_neg fun c => ?_
  rw [Bool.and_eq_true, Bool.and_eq_true, Bool.and_eq_true] at c
  have := (part_lt hp (of_decide_eq_true c.1.1.2)).mp (of_decide_eq_true c.1.2)
  omega
theorem upto_leA {N : Int} {k : Nat} (hN : 0 ≤ N) (h : (k : Int) = 0 ∨ (k : Int) * k < N) (h2 : N ≤ (k + 1 : Nat) * (k + 1 : Nat)) : upto (leA N) k = upto (leA N) (rti N).toNat := by
  have hk : k ≤ (rti N).toNat := by
    rcases h with h | h
    · omega
    · have := le_rti hN (show (k : Int) * k ≤ N by omega)
      omega
  refine (upto_eq hk fun i hi => leA_nil (by omega) ?_).symm
  have := sq_mono (a := ((k + 1 : Nat) : Int)) (b := (i : Int)) (by omega) (by omega)
  omega
theorem upto_leB {N : Int} {k : Nat} (hN : 0 ≤ N) (h : (k : Int) = 0 ∨ (k : Int) * k < N / 2) (h2 : N % 4 = 0 → N / 2 ≤ (k + 1 : Nat) * (k + 1 : Nat)) : upto (leB N) k = upto (leB N) (rti N).toNat := by
  have hk : k ≤ (rti N).toNat := by
    rcases h with h | h
    · omega
    · have := le_rti hN (show (k : Int) * k ≤ N by omega)
      omega
  refine (upto_eq hk fun i hi => ?_).symm
  by_cases c : N % 4 = 0
  · refine leB_nil (by omega) ?_
    have := sq_mono (a := ((k + 1 : Nat) : Int)) (b := (i : Int)) (by omega) (by omega)
    have := h2 c
    omega
  · exact leB_odd c
theorem leL_eq (N : Int) : upto (leA N) (rti N).toNat ++ upto (leB N) (rti N).toNat = leL N := by
  unfold leL
  by_cases c : N % 2 = 1
  · have e : ∀ i, leB N i = [] := fun i => leB_odd (by omega)
    rw [upto_nil e, List.append_nil]
    exact upto_congr (fun i => by rw [e, List.append_nil]) _
  · have e : ∀ i, leA N i = [] := fun i => leA_even c
    rw [upto_nil e, List.nil_append]
    exact upto_congr (fun i => by rw [e, List.nil_append]) _
theorem le_len (N p : Int) : (leA N p ++ leB N p).length ≤ 2 := by
  have h1 : (leA N p).length ≤ 1 := by unfold leA; split <;> simp
  have h2 : (leB N p).length ≤ 1 := by unfold leB; split <;> simp
  rw [List.length_append]
  omega
theorem leA_len (N p : Int) : (leA N p).length ≤ 1 := by unfold leA; split <;> simp
theorem leB_len (N p : Int) : (leB N p).length ≤ 1 := by unfold leB; split <;> simp

/-! ### barred -/
def noDiv (p : Int) : Bool := (List.range (rti p).toNat).all fun i => decide (i = 0) || decide (p % (i + 1 : Nat) ≠ 0)
theorem noDiv_iff {p : Int} (hp : 0 ≤ p) : noDiv p = true ↔ ∀ d : Int, 2 ≤ d → d * d ≤ p → p % d ≠ 0 := by
  unfold noDiv
  rw [List.all_eq_true]
  constructor
  · intro h d h2 h3 h4
    have h5 := le_rti hp h3
    have q := h (d.toNat - 1) (List.mem_range.mpr (by omega))
    have e : ((d.toNat - 1 + 1 : Nat) : Int) = d := by omega
    rw [e, Bool.or_eq_true] at q
    rcases q with q | q
    · have := of_decide_eq_true q
      omega
    · exact of_decide_eq_true q h4
  · intro h i hi
    rw [Bool.or_eq_true]
    have hi := List.mem_range.mp hi
    by_cases c : i = 0
    · exact .inl (decide_eq_true c)
    · refine .inr (decide_eq_true (h _ (by omega) ?_))
      have h1 := sq_mono (a := ((i + 1 : Nat) : Int)) (b := rti p) (by omega) (by omega)
      have h2 := rti_le hp
      omega
def brd (N p : Int) : Bool := decide (2 ≤ p) && decide (p ≤ N) && decide (N % p = 0) && noDiv p && (decide (p = 2) || decide (p % 4 = 3))
end Sq


/-! own rules, small words -/
namespace SqP
open PySem PySem.Spec PyProof.Rows L2 Sq
theorem Same.tup {K : PySem.W.Frag} {H H' : Hp} {a : Addr} {xs : List V} (e : Same H H') (h : SqT K H a xs) : SqT K H' a xs := by
  rcases h with (h | ⟨o, h⟩) | h
  · exact .inl (.inl (e _ _ h))
  · exact .inl (.inr ⟨o, e _ _ h⟩)
  · exact .inr h
theorem same_upd {H : Hp} {p : Addr} {o : HO} (h : H p = none) : Same H (upd H p o) := fun b x e => by
  rw [upd_ne (ne_of_none e h)]
  exact e
/-- a store to what is new leaves all else -/
theorem same_new {H H' : Hp} {p : Addr} {o : HO} (h : H p = none) (s : Same H H') : Same H (upd H' p o) := fun b x e => by
  rw [upd_ne (ne_of_none e h)]
  exact s _ _ e
theorem new_tup {K : PySem.W.Frag} {H : Hp} {xs : List V} {Q : V → Hp → Prop} (h : ∀ H1 p, Same H H1 → SqT K H1 p xs → Q (.ref p) H1) : ∀ p, H p = none → Q (.ref p) (upd H p (.tup xs)) := fun p hp => h _ p (same_upd hp) (SqT.of upd_same)
theorem new_lst {H : Hp} {xs : List V} {Q : V → Hp → Prop} (h : ∀ H1 p, Same H H1 → H p = none → H1 p = some (.lst xs) → Q (.ref p) H1) : ∀ p, H p = none → Q (.ref p) (upd H p (.lst xs)) := fun p hp => h _ p (same_upd hp) hp upd_same
/-- a def of the top as it stands; a def that keeps its promise -/
def Is (K : PySem.W.Frag) (mg : Str → Option Value) (x : Str) (st : Stmt) (ps : List Str) : Prop := ∃ (f : Addr) (fd : FuncData), Fun K x x st f fd ∧ Binds K fd ps [] ∧ mg x = some (.ref f)
def Has (P : Program) (w : World) (K : PySem.W.Frag) (mg : Str → Option Value) (base : Heap) (k : Nat) (x : Str) (ps : List Str) (sp : Sp) : Prop := ∃ (f : Addr) (fd : FuncData), FnOk P w K mg base CX0 k f fd ps sp ∧ PySem.W.keepIn K (.ref f) = true ∧ Binds K fd ps [] ∧ mg x = some (.ref f)
theorem bd_mul {i j : Int} {k l : Nat} (h : Bd k i) (h2 : Bd l j) (e : k + l ≤ 134217728) : CMulX i j := mulx_ok h h2 e
theorem len2 : 2 ≤ sizeLine := by decide
theorem len3 : 3 ≤ sizeLine := by decide
theorem if_t {c : Bool} {A B : Prop} (hc : c = true) (h : A) : if c = true then A else B := by
  rw [if_pos hc]
  exact h
theorem if_f {c : Bool} {A B : Prop} (hc : c = false) (h : B) : if c = true then A else B := by
  rw [hc, if_neg Bool.false_ne_true]
  exact h
theorem if_b {c : Bool} {A B : Prop} (h1 : c = true → A) (h2 : c = false → B) : if c = true then A else B := by
  cases c with
  | true => exact if_t rfl (h1 rfl)
  | false => exact if_f rfl (h2 rfl)
theorem tyx_tup {K : PySem.W.Frag} {H : Hp} {a : Addr} {xs : List V} (h : SqT K H a xs) : TyX K H (.ref a) (.type "tuple") := by
  rcases h with (h | ⟨o, h⟩) | ⟨o, its, n, h1, h2, _⟩
  · exact .base (.tup h)
  · exact .fTuple h
  · exact .kTuple h1 h2
theorem tyx_lst {K : PySem.W.Frag} {H : Hp} {a : Addr} {xs : List V} (h : SqL K H a xs) : TyX K H (.ref a) (.type "list") := by
  rcases h with (h | ⟨o, h⟩) | ⟨o, its, n, h1, h2, _⟩
  · exact .base (.lst h)
  · exact .base (.frz h)
  · exact .kList h1 h2
theorem kb_int_int : kitB "int" "int" = some true := by decide +kernel
theorem kb_int_bool : kitB "int" "bool" = some false := by decide +kernel
theorem kb_tup_tup : kitB "tuple" "tuple" = some true := by decide +kernel
theorem kb_lst_lst : kitB "list" "list" = some true := by decide +kernel
section
variable {X : Cx}
/-- // by any positive number -/
theorem op_fdivP {l : List Env} (hN : X.base.NoSeer) (ht : X.prog.given.tree = none) (hst : X.stack = X.env :: l) (hg : X.env.scope.isGenerator = false) (hco : X.env.scope.isCoroutine = false) (hd : X.A.depth + 100 < recursionLimit) :
    OpR X (binaryOp .FloorDiv) (rI (fun _ j => 0 < j) fun i j => .int (i / j)) := by
  intro pins s σ H x y v u Q I rx ry h
  obtain ⟨i, j, rfl, rfl, hc, q⟩ := h
  obtain ⟨t, rfl⟩ := rx
  obtain ⟨t', rfl⟩ := ry
  have hj : (0 : Int) < j := hc
  refine floordiv_int (by omega) ?_ (.inr (PySem.PylongRoom.of I.nolimit hd (PySem.SeerAt.of (hN.keeps I.bk) ht (by rw [I.ok.frames, hst]) hg hco I.ok.blt I.ok.glob)))
  rw [Int.fdiv_eq_ediv_of_nonneg i (by omega)]
  exact ⟨.int _, H, I.tok _, ⟨_, rfl⟩, q⟩
end
section
variable {X : Cx} {K : PySem.W.Frag}
/-- rules within a comprehension, the written part by its name -/
theorem ix_listK (e : X.K = K) : IxR X (rIxL K) := by
  subst e
  exact ix_list
theorem ix_tupK (e : X.K = K) : IxR X (rIxT K) := by
  subst e
  exact ix_tup
theorem op_eqDK (e : X.K = K) (hu : X.A.units + 64 < cLine) : OpR X (compareOp .Eq) (rEqD K) := by
  subst e
  exact op_eqD hu
end
/-! ### comprehensions that keep every item -/
theorem set_twice {α : Type} (l : List α) (i : Nat) (a b : α) : (l.set i a).set i b = l.set i b := by rw [List.set_set]
section
variable {K : PySem.W.Frag} {xs ys : List V} {j : Nat} {te : TE} {σ : L2.St} {H : Hp} {D : Addr} {Qd : Hp → Prop}
/-- what a turn of such a comprehension asks: the item x at a heap that holds what H holds, behind it the value y -/
def LcTurn (te : TE) (σ : L2.St) (j : Nat) (H : Hp) (x y : V) : Prop := ∀ H1, Same H H1 → ∀ R : V → Hp → Prop, (∀ H2, Same H1 H2 → R y H2) → te ((σ.set j none).set j (some x)) H1 R
theorem lc_turn {i : Nat} {x y : V} {H1 : Hp} (hD : H D = none) (h : LcTurn te σ j H x y) (hy : ys[i]? = some y) (hz : ys.length ≤ 16000000) (s1 : Same H H1) (d1 : H1 D = some (.lst (ys.take i))) :
    gName j x (wipe σ [j]) H1 fun σ2 H2 => wipe σ2 [j] = wipe σ [j] ∧ tYes σ2 H2 fun b H3 => if b = true then te σ2 H3 fun y H4 => ∃ acc, H4 D = some (.lst acc) ∧ acc.length < sizeLine ∧ (Same H (upd H4 D (.lst (acc ++ [y]))) ∧ (upd H4 D (.lst (acc ++ [y]))) D = some (.lst (ys.take (i + 1)))) else (Same H H3 ∧ H3 D = some (.lst (ys.take (i + 1)))) := by
  refine ⟨by show ((σ.set j none).set j (some x)).set j none = σ.set j none; rw [List.set_set, List.set_set], ?_⟩
  show if true = true then te ((σ.set j none).set j (some x)) H1 (fun y H4 => ∃ acc, H4 D = some (.lst acc) ∧ acc.length < sizeLine ∧ (Same H (upd H4 D (.lst (acc ++ [y]))) ∧ (upd H4 D (.lst (acc ++ [y]))) D = some (.lst (ys.take (i + 1))))) else (Same H H1 ∧ H1 D = some (.lst (ys.take (i + 1))))
  rw [if_pos rfl]
  refine h H1 s1 _ fun H2 s2 => ⟨_, s2 _ _ d1, ?_, same_new hD (fun b o e => s2 _ _ (s1 _ _ e)), ?_⟩
  · have := List.length_take_le' i ys
    rw [sizeLine_eq]
    omega
  · rw [upd_same, List.take_add_one, hy]
    rfl
theorem lc_over_tup {a : Addr} (hS : SqT K H a xs) (hD : H D = none) (hl : ys.length = xs.length) (hz : xs.length ≤ 16000000) (turn : ∀ (i : Nat) x y, xs[i]? = some x → ys[i]? = some y → LcTurn te σ j H x y) (done : ∀ H', Same H H' → H' D = some (.lst ys) → Qd H') :
    ∃ W : Nat → Nat → Hp → Prop, (∃ m, W 0 m (upd H D (.lst []))) ∧ ∀ i m H, W i m H →
      ((Itt K a).stop i H ∧ Qd H) ∨ ((Itt K a).go i H ∧ ∃ Nx : Hp → Prop, (∀ H', Nx H' → ∃ m', m' < m ∧ W (i + 1) m' H') ∧ ∀ x H', (Itt K a).yld i H x H' → gName j x (wipe σ [j]) H' fun σ2 H2 => wipe σ2 [j] = wipe σ [j] ∧ tYes σ2 H2 fun b H3 =>
        if b = true then te σ2 H3 fun y H4 => ∃ acc, H4 D = some (.lst acc) ∧ acc.length < sizeLine ∧ Nx (upd H4 D (.lst (acc ++ [y]))) else Nx H3) := by
  refine lc_tup (xs := xs) (fun i H' => Same H H' ∧ H' D = some (.lst (ys.take i))) ⟨same_upd hD, upd_same⟩ (fun i H' _ h => Same.tup h.1 hS) (fun i x H' hx h => ?_) (fun H' h => done H' h.1 (by rw [← hl] at h; rw [h.2, List.take_length]))
  have hi : i < ys.length := by rw [hl]; exact (List.getElem?_eq_some_iff.mp hx).1
  exact lc_turn hD (turn i x _ hx (List.getElem?_eq_getElem hi)) (List.getElem?_eq_getElem hi) (by omega) h.1 h.2
theorem lc_over_lst {a : Addr} (hS : SqL K H a xs) (hD : H D = none) (hl : ys.length = xs.length) (hz : xs.length ≤ 16000000) (turn : ∀ (i : Nat) x y, xs[i]? = some x → ys[i]? = some y → LcTurn te σ j H x y) (done : ∀ H', Same H H' → H' D = some (.lst ys) → Qd H') :
    ∃ W : Nat → Nat → Hp → Prop, (∃ m, W 0 m (upd H D (.lst []))) ∧ ∀ i m H, W i m H →
      ((Itl K a).stop i H ∧ Qd H) ∨ ((Itl K a).go i H ∧ ∃ Nx : Hp → Prop, (∀ H', Nx H' → ∃ m', m' < m ∧ W (i + 1) m' H') ∧ ∀ x H', (Itl K a).yld i H x H' → gName j x (wipe σ [j]) H' fun σ2 H2 => wipe σ2 [j] = wipe σ [j] ∧ tYes σ2 H2 fun b H3 =>
        if b = true then te σ2 H3 fun y H4 => ∃ acc, H4 D = some (.lst acc) ∧ acc.length < sizeLine ∧ Nx (upd H4 D (.lst (acc ++ [y]))) else Nx H3) := by
  refine lc_list (xs := xs) (fun i H' => Same H H' ∧ H' D = some (.lst (ys.take i))) ⟨same_upd hD, upd_same⟩ (fun i H' _ h => Same.seq h.1 hS) (fun i x H' hx h => ?_) (fun H' h => done H' h.1 (by rw [← hl] at h; rw [h.2, List.take_length]))
  have hi : i < ys.length := by rw [hl]; exact (List.getElem?_eq_some_iff.mp hx).1
  exact lc_turn hD (turn i x _ hx (List.getElem?_eq_getElem hi)) (List.getElem?_eq_getElem hi) (by omega) h.1 h.2
theorem lc_over_range {lo : Int} {n : Nat} (hD : H D = none) (hl : ys.length = n) (hz : n ≤ 16000000) (turn : ∀ (i : Nat) y, i < n → ys[i]? = some y → LcTurn te σ j H (.int (lo + i)) y) (done : ∀ H', Same H H' → H' D = some (.lst ys) → Qd H') :
    ∃ W : Nat → Nat → Hp → Prop, (∃ m, W 0 m (upd H D (.lst []))) ∧ ∀ i m H, W i m H →
      ((Itr lo n).stop i H ∧ Qd H) ∨ ((Itr lo n).go i H ∧ ∃ Nx : Hp → Prop, (∀ H', Nx H' → ∃ m', m' < m ∧ W (i + 1) m' H') ∧ ∀ x H', (Itr lo n).yld i H x H' → gName j x (wipe σ [j]) H' fun σ2 H2 => wipe σ2 [j] = wipe σ [j] ∧ tYes σ2 H2 fun b H3 =>
        if b = true then te σ2 H3 fun y H4 => ∃ acc, H4 D = some (.lst acc) ∧ acc.length < sizeLine ∧ Nx (upd H4 D (.lst (acc ++ [y]))) else Nx H3) := by
  refine lc_range (n := n) (fun i H' => Same H H' ∧ H' D = some (.lst (ys.take i))) ⟨same_upd hD, upd_same⟩ (fun i H' hx h => ?_) (fun H' h => done H' h.1 (by rw [← hl] at h; rw [h.2, List.take_length]))
  have hi : i < ys.length := by omega
  exact lc_turn hD (turn i _ hx (List.getElem?_eq_getElem hi)) (List.getElem?_eq_getElem hi) (by omega) h.1 h.2
end
/-- a list that changes is no tuple: tuples stand -/
theorem tup_keep {K : PySem.W.Frag} {H : Hp} {fo t : Addr} {xs ys zs : List V} (hfo : H fo = some (.lst xs)) (h : SqT K H t zs) : SqT K (upd H fo (.lst ys)) t zs := by
  rcases h with (h | ⟨o, h⟩) | h
  · exact .inl (.inl (by rw [upd_ne (fun e => by rw [e, hfo] at h; cases h)]; exact h))
  · exact .inl (.inr ⟨o, by rw [upd_ne (fun e => by rw [e, hfo] at h; cases h)]; exact h⟩)
  · exact .inr h
/-- for i, x in enumerate(a list that the body leaves as it is) -/
theorem for_enum {K : PySem.W.Frag} {a : Addr} {xs : List V} {g : TG} {tb : TS} {D : Ends} {σ : L2.St} {H : Hp} (Pv : Nat → L2.St → Hp → Prop) (h0 : Pv 0 σ H) (hl : ∀ i σ H, Pv i σ H → SqL K H a xs)
    (hs : ∀ (i : Nat) (x : V) (T : Addr) (σ : L2.St) (H : Hp), xs[i]? = some x → Pv i σ H → H T = none → g (.ref T) σ (upd H T (.tup [.int (i : Nat), x])) fun σ2 H2 => tb { D with nx := Pv (i + 1), ct := Pv (i + 1), bk := D.nx } σ2 H2) (hd : ∀ σ H, Pv xs.length σ H → D.nx σ H) :
    ∃ W : Nat → Nat → L2.St → Hp → Prop, (∃ m, W 0 m σ H) ∧ ∀ i m σ H, W i m σ H →
      ((Ite K a).stop i H ∧ D.nx σ H) ∨ ((Ite K a).go i H ∧ ∃ N : L2.St → Hp → Prop, (∀ σ' H', N σ' H' → ∃ m', m' < m ∧ W (i + 1) m' σ' H') ∧ ∀ v H', (Ite K a).yld i H v H' → g v σ H' fun σ2 H2 => tb { D with nx := N, ct := N, bk := D.nx } σ2 H2) := by
  refine ⟨fun i m σ H => m + i = xs.length ∧ Pv i σ H, ⟨xs.length, rfl, h0⟩, fun i m σ H ⟨e, p⟩ => ?_⟩
  have q := hl i σ H p
  by_cases c : i < xs.length
  · refine .inr ⟨⟨xs, xs[i], q, List.getElem?_eq_getElem c⟩, Pv (i + 1), fun σ' H' p' => ⟨m - 1, by omega, by omega, p'⟩, fun v H' y => ?_⟩
    obtain ⟨T, x, e1, n, e2, y⟩ := y
    subst e1
    subst e2
    exact hs i x T σ H (y xs q) p n
  · have e' : i = xs.length := by omega
    subst e'
    exact .inl ⟨⟨xs, q, Nat.le_refl _⟩, hd σ H p⟩
/-- a if t else b, where nothing is laid -/
theorem tif_mk {tt : TT} {ta tb : TE} {σ : L2.St} {H : Hp} {Q : VK} {c : Bool} {v : V} (h1 : ∀ R : Bool → Hp → Prop, R c H → tt σ H R) (h2 : c = true → ∀ R : VK, R v H → ta σ H R) (h3 : c = false → ∀ R : VK, R v H → tb σ H R) (q : Q v H) : tIf tt ta tb σ H Q :=
  h1 _ (if_b (fun e => h2 e _ q) (fun e => h3 e _ q))
/-- a part of a list of ints, sixteen from b on -/
theorem cut_ints (ns : List Int) (lo hi : Option Int) : ∃ cs : List Int, cutV (ns.map V.int) lo hi = cs.map V.int ∧ (∀ c ∈ cs, c ∈ ns) := by
  refine ⟨(ns.drop (HT.sIx ns.length 0 lo)).take (HT.sIx ns.length ns.length hi - HT.sIx ns.length 0 lo), ?_, fun c hc => List.mem_of_mem_drop (List.mem_of_mem_take hc)⟩
  unfold cutV
  rw [List.length_map, List.map_take, List.map_drop]
theorem cut_len (xs : List V) (a b : Nat) (h : a ≤ b) : (cutV xs (some (a : Int)) (some (b : Int))).length ≤ b - a := by
  unfold cutV
  rw [HT.sIx_nat, HT.sIx_nat, List.length_take]
  omega
/-- a if t else b, where something is laid -/
theorem tif_hp {tt : TT} {ta tb : TE} {σ : L2.St} {H : Hp} {Q : VK} {c : Bool} (R' : V → Hp → Prop) (h1 : ∀ R : Bool → Hp → Prop, R c H → tt σ H R) (h2 : c = true → ∀ R : VK, (∀ v H1, R' v H1 → R v H1) → ta σ H R) (h3 : c = false → ∀ R : VK, (∀ v H1, R' v H1 → R v H1) → tb σ H R) (q : ∀ v H1, R' v H1 → Q v H1) : tIf tt ta tb σ H Q :=
  h1 _ (if_b (fun e => h2 e _ q) (fun e => h3 e _ q))
/-- cuts -/
theorem cut_to (xs : List V) (n : Nat) : cutV xs none (some (n : Int)) = xs.take n := by
  unfold cutV
  rw [HT.sIx_nat, HT.sIx_none, List.drop_zero, Nat.sub_zero]
  rcases Nat.le_total n xs.length with h | h
  · rw [Nat.min_eq_left h]
  · rw [Nat.min_eq_right h, List.take_of_length_le (Nat.le_refl _), List.take_of_length_le h]
theorem cut_last (xs : List V) : cutV xs none (some (-1)) = xs.dropLast := by
  unfold cutV
  rw [HT.sIx_none, List.drop_zero, Nat.sub_zero, List.dropLast_eq_take]
  congr 1
  show (if (-1 : Int) < 0 then ((-1 : Int) + (xs.length : Int)).toNat else min (-1 : Int).toNat xs.length) = xs.length - 1
  rw [if_pos (by decide)]
  omega
theorem rgc_up {l c : Int} (hl : 0 ≤ l) (hl2 : l ≤ 1000000) (hc : 0 < c) (hc2 : c ≤ 1000000) : ∃ n : Nat, RgC 0 l c n ∧ ∀ i : Nat, i < n → (i : Int) * c < l := by
  have hsz : Builtin.Range.rangeSize 0 l c = if 0 < l then (l - 0 - 1) / c + 1 else 0 := by
    unfold Builtin.Range.rangeSize
    rw [if_pos (show c > 0 from hc)]
  have hq : 0 < l → 0 ≤ (l - 0 - 1) / c ∧ (l - 0 - 1) / c ≤ l - 0 - 1 := fun h => ⟨Int.ediv_nonneg (by omega) (by omega), Int.ediv_le_self _ (by omega)⟩
  have e := Int.mul_ediv_add_emod (l - 0 - 1) c
  have e2 := Int.emod_nonneg (l - 0 - 1) (show c ≠ 0 by omega)
  generalize (l - 0 - 1) / c = q at *
  refine ⟨(if 0 < l then q + 1 else 0).toNat, ⟨by omega, by omega, ?_, ?_⟩, fun i hi => ?_⟩
  · unfold Builtin.Range.small
    rw [hsz]
    simp only [Builtin.Range.rangeFitsLong, Bool.and_eq_true, Bool.or_eq_true, decide_eq_true_eq, beq_iff_eq, show c > 0 from hc, if_true]
    have e3 : c * q ≤ l := by
      rcases Int.lt_or_le 0 l with h | h
      · omega
      · have : c * q + (l - 0 - 1) % c = l - 0 - 1 := e
        omega
    have e4 : q * c = c * q := Int.mul_comm _ _
    split
    · have := hq (by assumption)
      refine ⟨?_, ?_⟩ <;> first | omega | (refine ⟨?_, ?_⟩ <;> first | omega | grind)
    · refine ⟨?_, ?_⟩ <;> first | omega | (refine ⟨?_, ?_⟩ <;> first | omega | grind)
  · rw [hsz]
    split
    · have := hq (by assumption)
      omega
    · rfl
  · have hi2 : 0 < l ∧ (i : Int) ≤ q := by
      split at hi <;> omega
    have := Int.mul_le_mul_of_nonneg_left hi2.2 (show 0 ≤ c by omega)
    have e3 : c * (i : Int) = i * c := Int.mul_comm _ _
    omega
end SqP

/-! ### sorted, of triples of ints -/
namespace SqP
open PySem PySem.Spec PyProof.Rows L2 Sq
/-- the triple that stands at a reference -/
def trItems : List Value → Tr
  | [.int x _, .int y _, .int z _] => (x, y, z)
  | _ => (0, 0, 0)
def trData : Data → Tr
  | .seq items _ => trItems items.toList
  | _ => (0, 0, 0)
def trOf (h : Heap) : Value → Tr
  | .ref a => ((h.get? a).map fun o => trData o.data).getD (0, 0, 0)
  | _ => (0, 0, 0)
/-- three ints stand there, in a tuple -/
def Tri3 (h : Heap) (v : Value) : Prop := ∃ (a : Addr) (ob : Obj) (x y z : Int) (t1 t2 t3 : Tok) (nn : Nat), v = .ref a ∧ h.get? a = some ob ∧ ob.cls = .type "tuple" ∧ ob.data = .seq #[.int x t1, .int y t2, .int z t3] nn ∧ trOf h v = (x, y, z)
theorem tri3_of {h : Heap} {a : Addr} {ob : Obj} {x y z : Int} {t1 t2 t3 : Tok} {nn : Nat} (h1 : h.get? a = some ob) (h2 : ob.cls = .type "tuple") (h3 : ob.data = .seq #[.int x t1, .int y t2, .int z t3] nn) : Tri3 h (.ref a) := by
  refine ⟨a, ob, x, y, z, t1, t2, t3, nn, rfl, h1, h2, h3, ?_⟩
  show ((h.get? a).map fun o => trData o.data).getD (0, 0, 0) = (x, y, z)
  rw [h1]
  show trData ob.data = (x, y, z)
  rw [h3]
  rfl
theorem Tri3.keep {h h' : Heap} {v : Value} (q : Tri3 h v) (hk : ∀ (b : Addr) (o : Obj), h.get? b = some o → o.cls = .type "tuple" → h'.get? b = some o) : Tri3 h' v ∧ trOf h' v = trOf h v := by
  obtain ⟨a, ob, x, y, z, t1, t2, t3, nn, rfl, h1, h2, h3, h4⟩ := q
  have q2 := tri3_of (hk a ob h1 h2) h2 h3
  refine ⟨q2, ?_⟩
  obtain ⟨a', ob', x', y', z', t1', t2', t3', nn', e, g1, g2, g3, g4⟩ := q2
  cases e
  rw [hk a ob h1 h2] at g1
  cases g1
  rw [h3] at g3
  cases g3
  rw [g4, h4]
theorem swo3 {α : Type} (key : α → Tr) : SrtO.Swo fun a b => lt3 (key a) (key b) :=
  ⟨fun a b h => by
    have h1 := lt3_iff.mp h
    exact lt3_no.mpr (by omega), fun a b c h h' => by
    have h1 := lt3_no.mp h
    have h2 := lt3_no.mp h'
    exact lt3_no.mpr (by omega)⟩
section
variable {P : Program} {w : World} {A : Around} {E : Value → Shared → Prop} {s : Shared}
theorem cmp3 {vs : List Value} (hv : ∀ v ∈ vs, Tri3 s.heap v) : SrtO.Cmp P w A s (tuples' true) (fun p => p.1 ∈ vs) (SrtO.lt2 fun a b => lt3 (trOf s.heap a) (trOf s.heap b)) := by
  intro p q mp mq
  show wpAny (model P w) A (keyLt' (tuples' true) p.1 q.1) (fun r st => st = s ∧ r = lt3 (trOf s.heap p.1) (trOf s.heap q.1)) (fun _ _ => False) s
  have a1 := hv _ mp
  have a2 := hv _ mq
  obtain ⟨a, oa, x, y, z, t1, t2, t3, na, ea, ga, ca, da, ra⟩ := a1
  obtain ⟨b, ob, x', y', z', u1, u2, u3, nb, eb, gb, cb, db, rb⟩ := a2
  rw [ra, rb, ea, eb]
  refine PySem.W.kat_lt ga da gb db ?_
  show PySem.W.KatLex P w A true (decide (3 < 3)) _ [(.int x t1, .int x' u1), (.int y t2, .int y' u2), (.int z t3, .int z' u3)] 0 s
  refine PySem.W.kat_cons (SeqAt.EqAt.int_int x t1 x' u1 P w _ _ ?_)
  refine PySem.W.kat_go (fun c1 => ?_) (fun c1 => ?_)
  · have c1 : x = x' := of_decide_eq_true c1
    refine PySem.W.kat_yes (PySem.W.kat_cons (SeqAt.EqAt.int_int y t2 y' u2 P w _ _ ?_))
    refine PySem.W.kat_go (fun c2 => ?_) (fun c2 => ?_)
    · have c2 : y = y' := of_decide_eq_true c2
      refine PySem.W.kat_yes (PySem.W.kat_cons (SeqAt.EqAt.int_int z t3 z' u3 P w _ _ ?_))
      refine PySem.W.kat_go (fun c3 => ?_) (fun c3 => ?_)
      · have c3 : z = z' := of_decide_eq_true c3
        exact PySem.W.kat_yes (PySem.W.kat_nil ⟨rfl, (lt3_no.mpr (by dsimp only; omega)).symm⟩)
      · refine PySem.W.kat_no (PySem.W.kat_one _ _ (PyProof.Rows.lt_int ?_))
        refine (show s = s ∧ decide (z < z') = lt3 (x, y, z) (x', y', z') from ⟨rfl, ?_⟩)
        unfold lt3
        exact decide_eq_decide.mpr (by dsimp only; omega)
    · have c2 : ¬ y = y' := of_decide_eq_false c2
      refine PySem.W.kat_no (PySem.W.kat_one _ _ (PyProof.Rows.lt_int ?_))
      refine (show s = s ∧ decide (y < y') = lt3 (x, y, z) (x', y', z') from ⟨rfl, ?_⟩)
      unfold lt3
      exact decide_eq_decide.mpr (by dsimp only; omega)
  · have c1 : ¬ x = x' := of_decide_eq_false c1
    refine PySem.W.kat_no (oneLt_int ⟨rfl, ?_⟩)
    unfold lt3
    exact decide_eq_decide.mpr (by dsimp only; omega)
theorem heads3 {h : Heap} : ∀ {vs : List Value}, (∀ v ∈ vs, Tri3 h v) → ∃ fs : List Value, PySem.W.KatTups h vs fs ∧ fs.length = vs.length ∧ ∀ f ∈ fs, ∃ i t, f = Value.int i t
  | [], _ => ⟨[], PySem.W.KatTups.nil, rfl, fun _ hf => nomatch hf⟩
  | v :: vs, hv => by
    obtain ⟨fs, k1, k2, k3⟩ := heads3 fun u hu => hv u (List.mem_cons_of_mem _ hu)
    obtain ⟨a, ob, x, y, z, t1, t2, t3, nn, rfl, g1, g2, g3, _⟩ := hv v List.mem_cons_self
    refine ⟨.int x t1 :: fs, .cons g1 g2 g3 rfl k1, by simp [k2], fun f hf => ?_⟩
    rcases List.mem_cons.mp hf with rfl | hf
    · exact ⟨x, t1, rfl⟩
    · exact k3 f hf
theorem sortable3 {a : Addr} {vs : List Value} (hne : 0 < vs.length) (hv : ∀ v ∈ vs, Tri3 s.heap v) (hc : ∀ o, s.heap.get? a = some o → ¬ o.cls = .type "tuple") : SrtO.SortableO P w A s a vs fun x y => lt3 (trOf s.heap x) (trOf s.heap y) := by
  intro h2 hk
  have kp : ∀ v ∈ vs, Tri3 h2 v ∧ trOf h2 v = trOf s.heap v := fun v m => (hv v m).keep fun b o e c => hk b o (fun z => by
    rw [z] at e
    exact hc o e c) e
  obtain ⟨fs, k1, k2, k3⟩ := heads3 fun v m => (kp v m).1
  refine ⟨tuples' true, fun Q E hq => PySem.W.kat_kind (T := .type "int") k1 (by omega) (fun f m => ?_) (by rfl) ?_, fun p q mp mq => ?_⟩
  · obtain ⟨i, t, rfl⟩ := k3 f m
    exact PySem.W.Looks.now
  · rw [show (Value.type "int" != Value.type "tuple") = true by first | decide +kernel | rfl]
    exact hq
  · have c := cmp3 (P := P) (w := w) (A := A) (s := { s with heap := h2 }) (fun v m => (kp v m).1) p q mp mq
    have e1 := (kp p.1 mp).2
    have e2 := (kp q.1 mq).2
    show wpAny (model P w) A (keyLt' (tuples' true) p.1 q.1) (fun r st => st = { s with heap := h2 } ∧ r = lt3 (trOf s.heap p.1) (trOf s.heap q.1)) (fun _ _ => False) { s with heap := h2 }
    rw [← e1, ← e2]
    exact c
end
/-- references to these triples -/
inductive TrS (K : PySem.W.Frag) (H : Hp) : List V → List Tr → Prop
  | nil : TrS K H [] []
  | cons {a : Addr} {t : Tr} {xs : List V} {L : List Tr} (h : SqT K H a [.int t.1, .int t.2.1, .int t.2.2]) (r : TrS K H xs L) : TrS K H (.ref a :: xs) (t :: L)
theorem TrS.same {K : PySem.W.Frag} {H H' : Hp} (s : Same H H') : ∀ {xs : List V} {L : List Tr}, TrS K H xs L → TrS K H' xs L
  | _, _, .nil => .nil
  | _, _, .cons h r => .cons (Same.tup s h) (r.same s)
theorem TrS.len {K : PySem.W.Frag} {H : Hp} : ∀ {xs : List V} {L : List Tr}, TrS K H xs L → xs.length = L.length
  | _, _, .nil => rfl
  | _, _, .cons _ r => by rw [List.length_cons, List.length_cons, r.len]
theorem TrS.app {K : PySem.W.Frag} {H : Hp} : ∀ {xs ys : List V} {L M : List Tr}, TrS K H xs L → TrS K H ys M → TrS K H (xs ++ ys) (L ++ M)
  | _, _, _, _, .nil, h => h
  | _, _, _, _, .cons h r, q => .cons h (r.app q)
theorem TrS.rev {K : PySem.W.Frag} {H : Hp} : ∀ {xs : List V} {L : List Tr}, TrS K H xs L → TrS K H xs.reverse L.reverse
  | _, _, .nil => .nil
  | _, _, .cons h r => by
    rw [List.reverse_cons, List.reverse_cons]
    exact r.rev.app (.cons h .nil)
theorem TrS.drop {K : PySem.W.Frag} {H : Hp} : ∀ {xs : List V} {L : List Tr} (i : Nat), TrS K H xs L → TrS K H (xs.drop i) (L.drop i)
  | _, _, 0, h => by rw [List.drop_zero, List.drop_zero]; exact h
  | _, _, _ + 1, .nil => .nil
  | _, _, i + 1, .cons _ r => r.drop i
theorem TrS.take {K : PySem.W.Frag} {H : Hp} : ∀ {xs : List V} {L : List Tr} (i : Nat), TrS K H xs L → TrS K H (xs.take i) (L.take i)
  | _, _, 0, h => by rw [List.take_zero, List.take_zero]; exact .nil
  | _, _, _ + 1, .nil => .nil
  | _, _, i + 1, .cons h r => .cons h (r.take i)
section
variable {X : Cx} {pins : List (Addr × Obj)} {s : Shared} {σ : List (Option V)} {H : Hp}
theorem tri3_at (I : Inv X pins σ H s) {a : Addr} {t : Tr} (h : SqT X.K H a [.int t.1, .int t.2.1, .int t.2.2]) : Tri3 s.heap (.ref a) ∧ trOf s.heap (.ref a) = t := by
  obtain ⟨its, rv, ⟨ob, g1, g2, nn, g3⟩, _⟩ := I.tuple h
  cases rv with
  | cons r1 rv =>
    cases rv with
    | cons r2 rv =>
      cases rv with
      | cons r3 rv =>
        cases rv
        obtain ⟨t1, rfl⟩ := r1
        obtain ⟨t2, rfl⟩ := r2
        obtain ⟨t3, rfl⟩ := r3
        have q := tri3_of g1 g2 g3
        refine ⟨q, ?_⟩
        obtain ⟨a', ob', x', y', z', t1', t2', t3', nn', e, k1, k2, k3, k4⟩ := q
        cases e
        rw [g1] at k1
        cases k1
        rw [g3] at k3
        cases k3
        rw [k4]
/-- the values behind them -/
theorem trs_back (I : Inv X pins σ H s) : ∀ {xs : List V} {L : List Tr} {its : List Value}, TrS X.K H xs L → Vals xs its → L = its.map (trOf s.heap) ∧ xs = its.map backV ∧ ∀ u ∈ its, Tri3 s.heap u ∧ ∃ a, u = Value.ref a ∧ SqT X.K H a [.int (trOf s.heap u).1, .int (trOf s.heap u).2.1, .int (trOf s.heap u).2.2]
  | _, _, _, .nil, .nil => ⟨rfl, rfl, fun _ hu => nomatch hu⟩
  | _, _, _, .cons (a := a) (t := t) h r, .cons q rv => by
    obtain ⟨e1, e2, e3⟩ := trs_back I r rv
    cases q
    obtain ⟨k1, k2⟩ := tri3_at I h
    refine ⟨by rw [List.map_cons, k2, ← e1], by rw [List.map_cons, ← e2]; rfl, fun u hu => ?_⟩
    rcases List.mem_cons.mp hu with rfl | hu
    · exact ⟨k1, a, rfl, by rw [k2]; exact h⟩
    · exact e3 u hu
theorem trs_of {K : PySem.W.Frag} {H : Hp} {key : Value → Tr} : ∀ {us : List Value}, (∀ u ∈ us, ∃ a, u = Value.ref a ∧ SqT K H a [.int (key u).1, .int (key u).2.1, .int (key u).2.2]) → TrS K H (us.map backV) (us.map key)
  | [], _ => .nil
  | u :: us, h => by
    obtain ⟨a, e, k⟩ := h u List.mem_cons_self
    rw [List.map_cons, List.map_cons]
    have r := trs_of fun y hy => h y (List.mem_cons_of_mem _ hy)
    rw [e] at k ⊢
    exact .cons k r
def rSortedT (K : PySem.W.Frag) : List V → Hp → VK → Prop := fun vs H Q => ∃ (a : Addr) (xs : List V) (L : List Tr), vs = [V.ref a] ∧ SqL K H a xs ∧ TrS K H xs L ∧ ∀ ys p, TrS K H ys (srt L) → H p = none → Q (.ref p) (upd H p (.lst ys))
theorem cr_sortedT : CallR X (.builtin "sorted") (rSortedT X.K) := by
  intro pn st ρ H vs us Q I r h
  obtain ⟨a, xs, L, rfl, hS, hT, q⟩ := h
  obtain ⟨its, rv, pl, hz⟩ := I.list hS
  obtain ⟨u, rfl, ru⟩ := vals1 r
  obtain rfl : u = Value.ref a := ru
  obtain ⟨eL, eX, each⟩ := trs_back I hT rv
  refine SrtO.sorted_ord (ltv := fun x y => lt3 (trOf st.heap x) (trOf st.heap y)) (swo3 _) pl.isList (by rw [← rv.length]; exact hz) (fun two h₁ d hd kk => ?_) (fun out hs hb => ?_)
  · have kp : ∀ v ∈ its, Tri3 h₁ v ∧ trOf h₁ v = trOf st.heap v := fun v m => (each v m).1.keep fun b o e _ => (kk b o e).2
    have c := sortable3 (P := X.prog) (w := X.w) (A := X.A.in1.in1) (s := { st with heap := h₁ }) (a := d) (by omega) (fun v m => (kp v m).1) fun o e ec => by
      have e2 := Option.some.inj (e.symm.trans hd)
      rw [e2] at ec
      exact absurd (Value.type.inj ec) (by decide)
    intro h2 hk
    obtain ⟨κ, c1, c2⟩ := c h2 hk
    refine ⟨κ, c1, fun x y mx my => ?_⟩
    have c3 := c2 x y mx my
    have e1 := (kp x.1 mx).2
    have e2 := (kp y.1 my).2
    have e3 : SrtO.lt2 (fun x y => lt3 (trOf h₁ x) (trOf h₁ y)) x y = SrtO.lt2 (fun x y => lt3 (trOf st.heap x) (trOf st.heap y)) x y := by
      show lt3 (trOf h₁ x.1) (trOf h₁ y.1) = lt3 (trOf st.heap x.1) (trOf st.heap y.1)
      rw [e1, e2]
    rw [← e3]
    exact c3
  · have m : ∀ u ∈ out, u ∈ its := fun u hu => hb.perm.mem_iff.mp hu
    have eo : out.map (trOf st.heap) = srt L := srt_of (by rw [eL]; exact hb.perm.map _) (List.pairwise_map.mpr hs)
    have tr : TrS X.K H (out.map backV) (srt L) := by
      rw [← eo]
      exact trs_of fun u hu => (each u (m u hu)).2
    obtain ⟨nn, hn⟩ := PyProof.Rows.sortedAll_at st.heap its out.toArray
    refine ⟨.ref (st.heap.objs.size + 1), upd H _ (.lst (out.map backV)), I.laid (t' := st.toks) (fun b o e => PyProof.Rows.sortedAll_old e) (Nat.le_succ _) ⟨?_, out, nn, vals_back fun u hu => ?_, hn⟩, rfl, q _ _ tr (I.hok.fresh (Nat.le_succ _))⟩
    · rw [List.length_map, hb.perm.length_eq, ← rv.length]
      exact hz
    · obtain ⟨b, e, _⟩ := (each u (m u hu)).2
      exact ⟨b, e⟩
end
end SqP

namespace SqP
open PySem PySem.Spec PyProof.Rows L2 Sq
/-! ### classes of the text -/
structure KC (K : PySem.W.Frag) (mg : Str → Option Value) (x : Str) (C : Addr) : Prop where
  cl : Cls K C
  mg : mg x = some (.ref C)
  makes : PySem.W.makesIn K C = true
  kp : PySem.W.keepIn K (.ref C) = true
def IsM (K : PySem.W.Frag) (C : Addr) (m qual : Str) (st : Stmt) (ps : List Str) : Prop := ∃ (f : Addr) (fd : FuncData), Fun K m qual st f fd ∧ Binds K fd ps [] ∧ Meth K C m f
def HasM (P : Program) (w : World) (K : PySem.W.Frag) (mg : Str → Option Value) (base : Heap) (k : Nat) (C : Addr) (m : Str) (ps : List Str) (sp : Sp) : Prop := ∃ (f : Addr) (fd : FuncData), FnOk P w K mg base CX0 k f fd ps sp ∧ Binds K fd ps [] ∧ Meth K C m f
section
variable {X : Cx} {pins : List (Addr × Obj)} {σ : L2.St} {H : Hp} {s : Shared} {Q : VK} {C : Addr}
/-- C(): __init__ is object's -/
theorem run_bare (hm : PySem.W.makesIn X.K C = true) (hi : PySem.W.findIn X.K (.ref C) "__init__" = some (some (.builtin "object.__init__"))) (I : Inv X pins σ H s)
    (q : ∀ x dx, H x = none → H dx = none → dx ≠ x → Q (.ref x) (upd (upd H dx (.own x)) x (.ins C dx []))) : wpAny (model X.prog X.w) X.A (call (.ref C) []) (EP X pins σ Q) X.xe s := by
  have J := Inv.made (C := C) I
  refine wpAny_call (make_map0 I.kIn hm hi (fun self => PySem.W.Looks.of_pure (PySem.W.oi_bind self)) ?_)
  have Y := PySem.W.makes_of (M := model X.prog X.w) I.kIn hm
  have at1 : ((s.heap.push PySem.W.emptyDict).push (PySem.W.instObj C s.heap.objs.size)).get? (s.heap.objs.size + 1) = some (PySem.W.instObj C s.heap.objs.size) := by heap_get
  have t1 : PySem.W.Looks (model X.prog X.w) ((s.heap.push PySem.W.emptyDict).push (PySem.W.instObj C s.heap.objs.size)) (typeOf (.ref (s.heap.objs.size + 1))) (.ref C) := (PySem.W.Looks.ld at1).andThen .now
  have t2 : PySem.W.Looks (model X.prog X.w) ((s.heap.push PySem.W.emptyDict).push (PySem.W.instObj C s.heap.objs.size)) (isInstance (.ref (s.heap.objs.size + 1)) (.type "object")) true :=
    t1.andThen (Y.top.keeps fun b o e => Heap.get?_push_of_some _ (Heap.get?_push_of_some _ e))
  refine codeAny_call_builtin PySem.W.oi_plain PySem.W.entry_oi (@PySem.W.check_slot (model X.prog X.w) _ _ _ "object.__init__" "object" "__init__" (.ref (s.heap.objs.size + 1)) [] [] _ PySem.W.oi_kind PySem.W.oi_split t2 (PySem.W.oi_args (.ref (s.heap.objs.size + 1))) ?_)
  rw [PySem.W.oi_run]
  exact wpAny_pure (And.intro rfl ⟨V.ref (s.heap.objs.size + 1), _, J, rfl, q _ _ (I.hok.fresh (Nat.le_succ _)) (I.hok.fresh (Nat.le_refl _)) (Nat.ne_of_lt (Nat.lt_succ_self _))⟩)
def tBare (C : Addr) : TE := fun _ H Q => ∀ x dx, H x = none → H dx = none → dx ≠ x → Q (.ref x) (upd (upd H dx (.own x)) x (.ins C dx []))
theorem pe_bare {x : Str} {p pos : Pos} (hm : PySem.W.makesIn X.K C = true) (hk : PySem.W.keepIn X.K (.ref C) = true) (hi : PySem.W.findIn X.K (.ref C) "__init__" = some (some (.builtin "object.__init__"))) (hg : Gl X x) (hx : X.mg x = some (.ref C))
    (hdb : (x == ("__debug__" : Str)) = false := by decide) : PE X (.Call (.Name x p) [] [] pos) (tBare C) := by
  refine ⟨fun pn st ρ H Q I h => ?_⟩
  refine wpAny_Call_Name_kw (ld_glob I hg hx ?_ hdb)
  exact PySem.W.callWith_K0 I.kIn hk (run_bare hm hi I h)
end
theorem TrS.upd {K : PySem.W.Frag} {H : Hp} {fo : Addr} {zs ws : List V} (hf : H fo = some (.lst zs)) : ∀ {xs : List V} {L : List Tr}, TrS K H xs L → TrS K (upd H fo (.lst ws)) xs L
  | _, _, .nil => .nil
  | _, _, .cons h r => .cons (tup_keep hf h) (r.upd hf)
/-! ### triples as data -/
def trD (t : Tr) : PyData := .tuple [.int t.1, .int t.2.1, .int t.2.2]
theorem trs_dpa {K : PySem.W.Frag} {H : Hp} : ∀ {xs : List V} {L : List Tr}, TrS K H xs L → DpAll K H xs (L.map trD)
  | _, _, .nil => .nil
  | _, _, .cons h r => .cons (.tup h (.cons (.int _) (.cons (.int _) (.cons (.int _) .nil)))) (trs_dpa r)
theorem trs_dp {K : PySem.W.Frag} {H : Hp} {a : Addr} {xs : List V} {L : List Tr} (h : SqL K H a xs) (r : TrS K H xs L) : Dp K H (.ref a) (.list (L.map trD)) := .lst h (trs_dpa r)
theorem trd_lay (t : Tr) : (trD t).canLay0 = true := by simp [trD, PyData.canLay0, PyData.canLayAll0]
theorem trd_depth (t : Tr) : (trD t).depth = 1 := by simp [trD, PyData.depth, PyData.depthAll]
theorem trs_lay : ∀ L : List Tr, PyData.canLayAll0 (L.map trD) = true
  | [] => by simp [PyData.canLayAll0]
  | t :: L => by simp [PyData.canLayAll0, trd_lay t, trs_lay L]
theorem trs_depth : ∀ L : List Tr, PyData.depthAll (L.map trD) ≤ 2
  | [] => by simp [PyData.depthAll]
  | t :: L => by
    have h1 := trs_depth L
    have h2 := trd_depth t
    simp only [List.map_cons, PyData.depthAll]
    omega
theorem trs_shaped (L : List Tr) : SeqAt.shaped (.list (L.map trD)) = true := by
  have h1 := trs_depth L
  have h2 : PyData.depth (.list (L.map trD)) ≤ 64 := by
    simp only [PyData.depth]
    omega
  show (PyData.canLay0 (.list (L.map trD)) && decide (PyData.depth (.list (L.map trD)) ≤ 64)) = true
  rw [Bool.and_eq_true]
  exact ⟨by simp only [PyData.canLay0]; exact trs_lay L, decide_eq_true h2⟩
theorem trd_eqv (t u : Tr) : PyData.eqv (trD t) (trD u) = decide (t = u) := by
  obtain ⟨a, b, c⟩ := t
  obtain ⟨d, e, f⟩ := u
  have q : PyData.eqv (trD (a, b, c)) (trD (d, e, f)) = (decide (a = d) && (decide (b = e) && (decide (c = f) && true))) := by
    simp only [trD, PyData.eqv, PyData.eqvAll]
    rfl
  rw [q]
  by_cases h1 : a = d
  · by_cases h2 : b = e
    · by_cases h3 : c = f
      · subst h1 h2 h3
        simp
      · simp [h1, h2, h3]
    · simp [h1, h2]
  · simp [h1]
theorem trs_eqv : ∀ L M : List Tr, PyData.eqvAll (L.map trD) (M.map trD) = decide (L = M)
  | [], [] => by simp [PyData.eqvAll]
  | [], _ :: _ => by simp [PyData.eqvAll]
  | _ :: _, [] => by simp [PyData.eqvAll]
  | t :: L, u :: M => by
    simp only [List.map_cons, PyData.eqvAll, trd_eqv, trs_eqv L M]
    by_cases h1 : t = u
    · by_cases h2 : L = M
      · simp [h1, h2]
      · simp [h1, h2]
    · simp [h1]
theorem trl_eqv (L M : List Tr) : PyData.eqv (.list (L.map trD)) (.list (M.map trD)) = decide (L = M) := by
  rw [PyData.eqv]
  exact trs_eqv L M
end SqP

local macro_rules | `(tactic| walk_at "bd") => `(tactic| first | assumption | exact Sq.bd_small (k := 64) (by decide) | exact Sq.Bd.mul (by walk_at "bd") (by walk_at "bd") | exact Sq.Bd.sub (Sq.Bd.mono (l := 9000000) (by walk_at "bd") (by decide)) (Sq.Bd.mono (by walk_at "bd") (by decide)) | exact Sq.Bd.add (Sq.Bd.mono (l := 9000000) (by walk_at "bd") (by decide)) (Sq.Bd.mono (by walk_at "bd") (by decide)))
local macro_rules | `(tactic| walk_at "rd") => `(tactic| repeat (first | refine ⟨_, rfl, ?_⟩ | refine ⟨_, _, rfl, rfl, ?_⟩ | refine ⟨Or.inl ⟨by decide, by decide⟩, ?_⟩ | refine ⟨SqP.bd_mul (by walk_at "bd") (by walk_at "bd") (by decide), ?_⟩))

namespace SqP
open PySem
def topS (i : Nat) : Stmt := PySem.Challenge.pw_squaretree_k04_answers_by_hand.main.body.getD i (.Pass ⟨0, 0, 0, 0⟩)
end SqP

namespace SqP
open PySem PySem.Spec PyProof.Rows L2 Sq
/-- the names that stay the built-in ones -/
structure Bt (mg : Str → Option Value) : Prop where
  isi : mg "isinstance" = none
  int : mg "int" = none
  bool : mg "bool" = none
  list : mg "list" = none
  len : mg "len" = none
  all : mg "all" = none
  any : mg "any" = none
  range : mg "range" = none
  sorted : mg "sorted" = none
  max : mg "max" = none
abbrev PrAt (K : PySem.W.Frag) (H : Hp) (a : Addr) (p : Pr) : Prop := SqT K H a [.int p.1, .int p.2]
abbrev TrAt (K : PySem.W.Frag) (H : Hp) (a : Addr) (t : Tr) : Prop := SqT K H a [.int t.1, .int t.2.1, .int t.2.2]
abbrev s_is_whole : Stmt := topS 1
theorem sc_is_whole : FnScope ["thing"] ["thing"] (defScope s_is_whole) := ⟨rfl, rfl, rfl, by decide +kernel, rfl, by decide +kernel, by decide +kernel⟩
abbrev s_common : Stmt := topS 2
theorem sc_common : FnScope ["one", "other"] ["one", "other"] (defScope s_common) := ⟨rfl, rfl, rfl, by decide +kernel, rfl, by decide +kernel, by decide +kernel⟩
abbrev s_root_of : Stmt := topS 3
theorem sc_root_of : FnScope ["number", "now"] ["number"] (defScope s_root_of) := ⟨rfl, rfl, rfl, by decide +kernel, rfl, by decide +kernel, by decide +kernel⟩
abbrev s_triple_by : Stmt := topS 4
theorem sc_triple_by : FnScope ["pair", "m", "n"] ["pair"] (defScope s_triple_by) := ⟨rfl, rfl, rfl, by decide +kernel, rfl, by decide +kernel, by decide +kernel⟩
abbrev s_longest_of : Stmt := topS 7
theorem sc_longest_of : FnScope ["number", "found", "n", "m"] ["number"] (defScope s_longest_of) := ⟨rfl, rfl, rfl, by decide +kernel, rfl, by decide +kernel, by decide +kernel⟩
abbrev s_legs_of : Stmt := topS 8
theorem sc_legs_of : FnScope ["number", "found", "part", "half"] ["number"] (defScope s_legs_of) := ⟨rfl, rfl, rfl, by decide +kernel, rfl, by decide +kernel, by decide +kernel⟩
abbrev s__law_cell_at : Stmt := topS 14
theorem sc__law_cell_at : FnScope ["_law_script", "_law_k"] ["_law_script", "_law_k"] (defScope s__law_cell_at) := ⟨rfl, rfl, rfl, by decide +kernel, rfl, by decide +kernel, by decide +kernel⟩
abbrev s__law_draw : Stmt := topS 15
theorem sc__law_draw : FnScope ["_law_cell", "_law_k", "_law_many", "_law_primes"] ["_law_cell", "_law_k", "_law_many"] (defScope s__law_draw) := ⟨rfl, rfl, rfl, by decide +kernel, rfl, by decide +kernel, by decide +kernel⟩
abbrev s__law_value : Stmt := topS 16
theorem sc__law_value : FnScope ["_law_cell", "_law_k", "_law_limit"] ["_law_cell", "_law_k", "_law_limit"] (defScope s__law_value) := ⟨rfl, rfl, rfl, by decide +kernel, rfl, by decide +kernel, by decide +kernel⟩
abbrev s__law_triple : Stmt := topS 17
theorem sc__law_triple : FnScope ["_law_pair", "_law_m", "_law_n"] ["_law_pair"] (defScope s__law_triple) := ⟨rfl, rfl, rfl, by decide +kernel, rfl, by decide +kernel, by decide +kernel⟩
abbrev s__law_common : Stmt := topS 18
theorem sc__law_common : FnScope ["_law_one", "_law_other"] ["_law_one", "_law_other"] (defScope s__law_common) := ⟨rfl, rfl, rfl, by decide +kernel, rfl, by decide +kernel, by decide +kernel⟩
abbrev s__law_root : Stmt := topS 19
theorem sc__law_root : FnScope ["_law_number_here", "_law_low", "_law_high", "_law_middle"] ["_law_number_here"] (defScope s__law_root) := ⟨rfl, rfl, rfl, by decide +kernel, rfl, by decide +kernel, by decide +kernel⟩
abbrev s__law_longest : Stmt := topS 20
theorem sc__law_longest : FnScope ["_law_number_here", "_law_found", "_law_m", "_law_n"] ["_law_number_here"] (defScope s__law_longest) := ⟨rfl, rfl, rfl, by decide +kernel, rfl, by decide +kernel, by decide +kernel⟩
abbrev s__law_legs : Stmt := topS 21
theorem sc__law_legs : FnScope ["_law_number_here", "_law_found", "_law_part", "_law_other", "_law_half"] ["_law_number_here"] (defScope s__law_legs) := ⟨rfl, rfl, rfl, by decide +kernel, rfl, by decide +kernel, by decide +kernel⟩
section
variable {P : Program} {w : World} {K : PySem.W.Frag} {mg : Str → Option Value} {base : Heap}
/-! ### is_whole -/
def sp_is_whole (K : PySem.W.Frag) : Sp := fun vs H Q _ => ∃ (v : V) (T : String) (bi bb : Bool), vs = [v] ∧ TyX K H v (.type T) ∧ kitB T "int" = some bi ∧ kitB T "bool" = some bb ∧ Q (.bl (bi && !bb)) H
theorem ok_is_whole (B : Bt mg) (D : Is K mg "is_whole" s_is_whole ["thing"]) : Has P w K mg base 1 "is_whole" ["thing"] (sp_is_whole K) := by
  obtain ⟨f, fd, F, b, g⟩ := D
  refine ⟨f, fd, F.ok sc_is_whole (fun vs H Q E h => ?_) (fun cdv A outer s H vs Q E hr h => ?_), F.kp, b, g⟩
  · obtain ⟨v, T, bi, bb, rfl, _⟩ := h
    rfl
  · obtain ⟨v, T, bi, bb, rfl, ty, k1, k2, q⟩ := h
    refine ⟨_, (pss_one (ps_ret (pe_and (pe_callB call_isi (by rfl) B.isi (by decide +kernel) (pa_cons (pv 0) (pa_cons (pe_bltn (v := .ty "int") (by rfl) B.int (by decide +kernel) rfl) pa_nil))) (pe_one (pe_not (pe_callB call_isi (by rfl) B.isi (by decide +kernel) (pa_cons (pv 0) (pa_cons (pe_bltn (v := .ty "bool") (by rfl) B.bool (by decide +kernel) rfl) pa_nil)))))))), ?_⟩
    refine ⟨_, rfl, v, .ty "int", _, _, bi, rfl, .ty _, ty, kit_ty k1, bi, rfl, ?_⟩
    cases bi with
    | false => exact iteF q
    | true => exact iteT ⟨_, rfl, v, .ty "bool", _, _, bb, rfl, .ty _, ty, kit_ty k2, bb, rfl, q⟩
theorem whole_int {i : Int} {H : Hp} {Q : VK} {E : XK} (q : Q (.bl true) H) : sp_is_whole K [.int i] H Q E := ⟨.int i, "int", true, false, rfl, .base (.int i), kb_int_int, kb_int_bool, q⟩

/-! ### common -/
def sp_common : Sp := fun vs H Q _ => ∃ a b : Int, vs = [.int a, .int b] ∧ 0 ≤ a ∧ 0 ≤ b ∧ Q (.int (Int.gcd a b)) H
theorem ok_common (D : Is K mg "common" s_common ["one", "other"]) : Has P w K mg base 1 "common" ["one", "other"] sp_common := by
  obtain ⟨f, fd, F, b, g⟩ := D
  refine ⟨f, fd, F.ok sc_common (fun vs H Q E h => ?_) (fun cdv A outer s H vs Q E hr h => ?_), F.kp, b, g⟩
  · obtain ⟨a, b, rfl, _⟩ := h
    rfl
  · obtain ⟨a, b, rfl, ha, hb, q⟩ := h
    refine ⟨_, (pss_cons (ps_while PassesOwn.never (pt_cmpR op_gt (pv 1) pe_int (nomark _)) (pss_one (ps_par (i := 0) (j := 1) rfl sc_common.nd rfl rfl (by decide) rfl rfl (pa_cons (pv 1) (pa_cons (pe_op op_mod (pv 0) (pv 1)) pa_nil)) (by rfl)))) (pss_one (ps_ret (pv 0)))), ?_⟩
    refine ⟨fun m σ H' => ∃ x y : Int, σ = [some (.int x), some (.int y)] ∧ m = y.toNat ∧ 0 ≤ x ∧ 0 ≤ y ∧ Int.gcd x y = Int.gcd a b ∧ H' = H, ⟨_, a, b, rfl, rfl, ha, hb, rfl, rfl⟩, ?_⟩
    rintro m σ H' ⟨x, y, rfl, rfl, hx, hy, hg, rfl⟩
    refine ⟨_, rfl, _, _, rfl, rfl, _, rfl, if_b (fun c => ?_) (fun c => ?_)⟩
    · have c := of_decide_eq_true c
      refine ⟨fun σ' H2 => ∃ m', m' < y.toNat ∧ ∃ x1 y1 : Int, σ' = [some (.int x1), some (.int y1)] ∧ m' = y1.toNat ∧ 0 ≤ x1 ∧ 0 ≤ y1 ∧ Int.gcd x1 y1 = Int.gcd a b ∧ H2 = H', fun _ _ h => h, ?_⟩
      refine ⟨_, rfl, _, rfl, _, rfl, _, _, rfl, rfl, c, _, _, rfl, ?_⟩
      have e1 := Int.emod_nonneg x (show y ≠ 0 by omega)
      have e2 := Int.emod_lt_of_pos x c
      refine ⟨_, ?_, y, x % y, rfl, rfl, hy, e1, ?_, rfl⟩
      · omega
      · rw [← hg]
        have := Int.mul_ediv_add_emod x y
        rw [Int.gcd_comm x y]
        conv => rhs; rw [← this]
        rw [Int.add_comm, Int.gcd_add_mul_left_right]
    · have c := of_decide_eq_false c
      have e : y = 0 := by omega
      subst e
      refine ⟨_, rfl, ?_⟩
      rw [← hg, Int.gcd_zero_right] at q
      have e2 : ((x.natAbs : Nat) : Int) = x := Int.natAbs_of_nonneg hx
      rw [e2] at q
      exact q

/-! ### root_of -/
def sp_root_of : Sp := fun vs H Q _ => ∃ N : Int, vs = [.int N] ∧ 0 ≤ N ∧ Bd 2000010 N ∧ ∀ r : Int, 0 ≤ r → r * r ≤ N → N < (r + 1) * (r + 1) → Q (.int r) H
theorem bits_lt {N : Int} (h : 0 ≤ N) : N < 2 ^ (Builtin.Int.intBits N) := by
  have q : N.natAbs < 2 ^ (Builtin.Int.intBits N) := by
    unfold Builtin.Int.intBits
    split
    · rename_i e
      rw [beq_iff_eq.mp e]
      decide
    · exact Nat.lt_log2_self
  exact Bd.lt (k := Builtin.Int.intBits N) q
theorem bits_bd {N : Int} {k : Nat} (h : Bd k N) : Builtin.Int.intBits N ≤ k := PyProof.Rows.intBits_le h
theorem ok_root_of (hN : base.NoSeer) (ht : P.given.tree = none) (D : Is K mg "root_of" s_root_of ["number"]) : Has P w K mg base 33 "root_of" ["number"] sp_root_of := by
  obtain ⟨f, fd, F, b, g⟩ := D
  refine ⟨f, fd, F.ok sc_root_of (fun vs H Q E h => ?_) (fun cdv A outer s H vs Q E hr h => ?_), F.kp, b, g⟩
  · obtain ⟨N, rfl, _⟩ := h
    rfl
  · obtain ⟨N, rfl, h0, hb, q⟩ := h
    have hd : (A.deeper (envOfC "root_of" (defScope s_root_of) s.heap.objs.size f cdv)).depth + 100 < recursionLimit := by
      have := hr.dp
      omega
    refine ⟨_, (pss_cons (ps_set (i := 1) sc_root_of.nd rfl (Or.inl rfl) (pe_op op_oneShl pe_int (pe_op op_fdiv (pe_op op_add (pe_bits (pv 0)) pe_int) pe_int))) (pss_cons (ps_while PassesOwn.never (pt_cmpR op_gt (pe_op op_mulX (pv 1) (pv 1)) (pv 0) (nomark _)) (pss_one (ps_set (i := 1) sc_root_of.nd rfl (Or.inl rfl) (pe_op op_fdiv (pe_op op_add (pv 1) (pe_op (op_fdivP (l := outer) hN ht rfl rfl rfl hd) (pv 0) (pv 1))) pe_int)))) (pss_one (ps_ret (pv 1))))), ?_⟩
    have hbl := bits_bd hb
    have hlt := bits_lt h0
    generalize hB : Builtin.Int.intBits N = b at *
    have n0 := newt_start hlt
    refine ⟨_, rfl, N, rfl, _, _, rfl, rfl, _, _, rfl, rfl, ⟨by decide, by decide⟩, (b + 1) / 2, rfl, by rw [hB]; show V.int _ = V.int _; congr 1, by omega, ?_⟩
    have top : Bd ((b + 1) / 2 + 1) (2 ^ ((b + 1) / 2) : Int) := by
      refine bd_of n0.nn ?_
      rw [Int.pow_succ]
      have : (0 : Int) < 2 ^ ((b + 1) / 2) := by
        have := Nat.two_pow_pos ((b + 1) / 2)
        exact_mod_cast this
      omega
    generalize (2 ^ ((b + 1) / 2) : Int) = x0 at *
    refine ⟨fun m σ H' => ∃ x : Int, σ = [some (.int N), some (.int x)] ∧ m = x.toNat ∧ Newt N x ∧ x ≤ x0 ∧ H' = H, ⟨_, x0, rfl, rfl, n0, Int.le_refl _, rfl⟩, ?_⟩
    rintro m σ H' ⟨x, rfl, rfl, hn, hx, rfl⟩
    have xb : Bd ((b + 1) / 2 + 1) x := top.le hn.nn hx
    refine ⟨_, rfl, _, rfl, _, _, rfl, rfl, bd_mul xb xb (by omega), _, rfl, _, _, rfl, rfl, _, rfl, if_b (fun c => ?_) (fun c => ?_)⟩
    · have c := of_decide_eq_true c
      obtain ⟨x1, nx, lt⟩ := newt_next h0 hn c
      refine ⟨fun σ' H2 => ∃ m', m' < x.toNat ∧ ∃ y : Int, σ' = [some (.int N), some (.int y)] ∧ m' = y.toNat ∧ Newt N y ∧ y ≤ x0 ∧ H2 = H', fun _ _ h => h, ?_⟩
      refine ⟨_, rfl, _, rfl, _, rfl, _, _, rfl, rfl, x1, _, _, rfl, rfl, _, _, rfl, rfl, ⟨by decide, by decide⟩, _, ?_, _, rfl, rfl, nx, by omega, rfl⟩
      have := nx.nn
      omega
    · have c := of_decide_eq_false c
      exact ⟨_, rfl, q x hn.nn (by omega) hn.up⟩

/-! ### triple_by, triple_of -/
def sp_triple_by (K : PySem.W.Frag) : Sp := fun vs H Q _ => ∃ (a : Addr) (p : Pr), vs = [.ref a] ∧ PrAt K H a p ∧ Bd 1000000 p.1 ∧ Bd 1000000 p.2 ∧ ∀ H' q, Same H H' → TrAt K H' q (tri p) → Q (.ref q) H'
theorem ok_triple_by (D : Is K mg "triple_by" s_triple_by ["pair"]) : Has P w K mg base 1 "triple_by" ["pair"] (sp_triple_by K) := by
  obtain ⟨f, fd, F, b, g⟩ := D
  refine ⟨f, fd, F.ok sc_triple_by (fun vs H Q E h => ?_) (fun cdv A outer s H vs Q E hr h => ?_), F.kp, b, g⟩
  · obtain ⟨a, p, rfl, _⟩ := h
    rfl
  · obtain ⟨a, p, rfl, hS, hm, hn, q⟩ := h
    refine ⟨_, (pss_cons (ps_asg (pv 0) (pg_tup rfl (pgs_cons (pg_name (i := 1) sc_triple_by.nd rfl (Or.inl rfl)) (pgs_cons (pg_name (i := 2) sc_triple_by.nd rfl (Or.inl rfl)) pgs_nil)))) (pss_one (ps_ret (pe_tup (pa_cons (pe_op op_sub (pe_op op_mulX (pv 1) (pv 1)) (pe_op op_mulX (pv 2) (pv 2))) (pa_cons (pe_op op_mulX (pe_op op_mul pe_int (pv 1)) (pv 2)) (pa_cons (pe_op op_add (pe_op op_mulX (pv 1) (pv 1)) (pe_op op_mulX (pv 2) (pv 2))) pa_nil))))))), ?_⟩
    refine ⟨_, rfl, _, _, rfl, hS, rfl, _, _, rfl, _, _, rfl, rfl, ?_⟩
    walk_at "rd"
    refine ⟨len3, new_tup (K := K) fun H1 t s1 t1 => q _ _ s1 t1⟩

def sp_cell_at (K : PySem.W.Frag) : Sp := fun vs H Q _ => ∃ (a : Addr) (ns : List Int) (k : Nat), vs = [.ref a, .int k] ∧ SqL K H a (ns.map V.int) ∧ ns.length ≤ 1000 ∧ ∀ c : Int, (c ∈ ns ∨ c = 0) → Q (.int c) H
theorem ok__law_cell_at (B : Bt mg) (D : Is K mg "_law_cell_at" s__law_cell_at ["_law_script", "_law_k"]) : Has P w K mg base 1 "_law_cell_at" ["_law_script", "_law_k"] (sp_cell_at K) := by
  obtain ⟨f, fd, F, b, g⟩ := D
  refine ⟨f, fd, F.ok sc__law_cell_at (fun vs H Q E h => ?_) (fun cdv A outer s H vs Q E hr h => ?_), F.kp, b, g⟩
  · obtain ⟨a, ns, k, rfl, _⟩ := h
    rfl
  · obtain ⟨a, ns, k, rfl, hS, hl, q⟩ := h
    refine ⟨_, (pss_cons (ps_if (pt_cmpR op_lt (pv 1) (pe_callB call_len_seq (by rfl) B.len PySem.boot_len (pa_cons (pv 0) pa_nil)) (nomark _)) (pss_one (ps_ret (pe_ix ix_list (pv 0) (pv 1) (fun _ _ => rfl)))) pss_nil) (pss_one (ps_ret pe_int))), ?_⟩
    refine ⟨_, rfl, _, rfl, a, _, rfl, .inl hS, _, _, rfl, rfl, _, rfl, if_b (fun c => ?_) (fun c => ?_)⟩
    · have c := of_decide_eq_true c
      rw [List.length_map] at c
      have hk : k < ns.length := by omega
      refine ⟨_, rfl, _, rfl, a, _, _, _, rfl, rfl, hS, atI_nat (v := .int ns[k]) ?_, q _ (.inl (List.getElem_mem hk))⟩
      rw [List.getElem?_map, List.getElem?_eq_getElem hk]
      rfl
    · exact q 0 (.inr rfl)

/-! ### the law's draws -/
def sp_draw : Sp := fun vs H Q _ => ∃ c k m : Int, vs = [.int c, .int k, .int m] ∧ 0 < m ∧ ∀ H' r, Same H H' → 0 ≤ r → r < m → Q (.int r) H'
theorem ok__law_draw (D : Is K mg "_law_draw" s__law_draw ["_law_cell", "_law_k", "_law_many"]) : Has P w K mg base 1 "_law_draw" ["_law_cell", "_law_k", "_law_many"] sp_draw := by
  obtain ⟨f, fd, F, b, g⟩ := D
  refine ⟨f, fd, F.ok sc__law_draw (fun vs H Q E h => ?_) (fun cdv A outer s H vs Q E hr h => ?_), F.kp, b, g⟩
  · obtain ⟨c, k, m, rfl, _⟩ := h
    rfl
  · obtain ⟨c, k, m, rfl, hm, q⟩ := h
    refine ⟨_, (pss_cons (ps_set (i := 3) sc__law_draw.nd rfl (Or.inl rfl) (pe_tup (pa_cons pe_int (pa_cons pe_int (pa_cons pe_int (pa_cons pe_int (pa_cons pe_int (pa_cons pe_int (pa_cons pe_int (pa_cons pe_int (pa_cons pe_int (pa_cons pe_int (pa_cons pe_int (pa_cons pe_int (pa_cons pe_int (pa_cons pe_int (pa_cons pe_int (pa_cons pe_int pa_nil)))))))))))))))))) (pss_one (ps_ret (pe_op op_mod (pe_op op_mod (pe_op op_add (pe_op op_mul (pv 0) pe_int) (pe_op op_mul (pv 1) pe_int)) (pe_ix ix_tup (pv 3) (pe_op op_mod (pv 1) pe_int) (fun _ _ => rfl))) (pv 2))))), ?_⟩
    refine ⟨by show 16 ≤ sizeLine; decide, fun t ht => ?_⟩
    refine ⟨_, rfl, _, _, rfl, rfl, .inr ⟨by decide, by decide⟩, _, rfl, _, _, rfl, rfl, .inr ⟨by decide, by decide⟩, _, _, rfl, rfl, ?_⟩
    refine ⟨_, rfl, _, rfl, _, _, rfl, rfl, (by decide : (0 : Int) < 16), ?_⟩
    have e1 := Int.emod_nonneg k (show (16 : Int) ≠ 0 by decide)
    have e2 := Int.emod_lt_of_pos k (show (0 : Int) < 16 by decide)
    obtain ⟨j, hj⟩ : ∃ j : Nat, k % 16 = (j : Int) := ⟨(k % 16).toNat, by omega⟩
    have hj2 : j < 16 := by omega
    have hv : ∃ v : Int, ([.int 1000003, .int 1000033, .int 1000037, .int 1000039, .int 1000081, .int 1000099, .int 1000117, .int 1000121, .int 1000133, .int 1000151, .int 1000159, .int 1000171, .int 1000183, .int 1000187, .int 1000193, .int 1000199] : List V)[j]? = some (.int v) ∧ 0 < v := by
      match j, hj2 with
      | 0, _ => exact ⟨_, rfl, by decide⟩
      | 1, _ => exact ⟨_, rfl, by decide⟩
      | 2, _ => exact ⟨_, rfl, by decide⟩
      | 3, _ => exact ⟨_, rfl, by decide⟩
      | 4, _ => exact ⟨_, rfl, by decide⟩
      | 5, _ => exact ⟨_, rfl, by decide⟩
      | 6, _ => exact ⟨_, rfl, by decide⟩
      | 7, _ => exact ⟨_, rfl, by decide⟩
      | 8, _ => exact ⟨_, rfl, by decide⟩
      | 9, _ => exact ⟨_, rfl, by decide⟩
      | 10, _ => exact ⟨_, rfl, by decide⟩
      | 11, _ => exact ⟨_, rfl, by decide⟩
      | 12, _ => exact ⟨_, rfl, by decide⟩
      | 13, _ => exact ⟨_, rfl, by decide⟩
      | 14, _ => exact ⟨_, rfl, by decide⟩
      | 15, _ => exact ⟨_, rfl, by decide⟩
      | n + 16, h => omega
    obtain ⟨v, hv1, hv2⟩ := hv
    refine ⟨t, _, _, _, rfl, rfl, SqT.of upd_same, at_of hj hv1, _, _, rfl, rfl, hv2, _, rfl, _, _, rfl, rfl, hm, ?_⟩
    exact q _ _ (same_upd ht) (Int.emod_nonneg _ (by omega)) (Int.emod_lt_of_pos _ hm)

def sp_value : Sp := fun vs H Q _ => ∃ c k m : Int, vs = [.int c, .int k, .int m] ∧ 0 < m ∧ m ≤ 10 ^ 40 ∧ 0 ≤ k ∧ k ≤ 1000 ∧ Bd 1048577 c ∧ ∀ H' r, Same H H' → 0 ≤ r → r < 10 ^ 40 → Q (.int r) H'
theorem ok__law_value (D : Is K mg "_law_value" s__law_value ["_law_cell", "_law_k", "_law_limit"]) (H__law_draw : Has P w K mg base 1 "_law_draw" ["_law_cell", "_law_k", "_law_many"] sp_draw) : Has P w K mg base 2 "_law_value" ["_law_cell", "_law_k", "_law_limit"] sp_value := by
  obtain ⟨f, fd, F, b, g⟩ := D
  obtain ⟨f__law_draw, fd__law_draw, G__law_draw, k__law_draw, b__law_draw, g__law_draw⟩ := H__law_draw
  refine ⟨f, fd, F.ok sc__law_value (fun vs H Q E h => ?_) (fun cdv A outer s H vs Q E hr h => ?_), F.kp, b, g⟩
  · obtain ⟨c, k, m, rfl, _⟩ := h
    rfl
  · obtain ⟨c, k, m, rfl, hm, hm2, hk, hk2, hc, q⟩ := h
    refine ⟨_, (pss_cons (ps_if (pt_cmpR op_ge (pv 0) (pe_op op_pow pe_int pe_int) (nomark _)) (pss_one (ps_ret (pe_op op_mod (pe_op op_fdiv (pe_op op_sub (pv 0) (pe_op op_pow pe_int pe_int)) (pe_ix ix_tup (pe_tup (pa_cons pe_int (pa_cons pe_int (pa_cons pe_int (pa_cons pe_int pa_nil))))) (pe_op op_mod (pv 1) pe_int) (fun _ _ => rfl))) (pe_op op_pow pe_int pe_int)))) pss_nil) (pss_one (ps_ret (pe_call G__law_draw (hr.mono (by decide)) (by rfl) g__law_draw k__law_draw b__law_draw .nil pass0 (pa_cons (pe_op op_mulX (pe_op op_add (pv 0) (pe_op op_mul pe_int (pv 1))) (pe_op op_add (pe_op op_add (pv 0) (pe_op op_mul pe_int (pv 1))) pe_int)) (pa_cons (pe_op op_add (pe_op op_mod (pv 1) pe_int) pe_int) (pa_cons (pv 2) pa_nil))))))), ?_⟩
    refine ⟨_, rfl, _, _, rfl, rfl, ⟨by decide, by decide, by decide⟩, _, _, rfl, rfl, _, rfl, if_b (fun e => ?_) (fun e => ?_)⟩
    · have e1 := Int.emod_nonneg k (show (4 : Int) ≠ 0 by decide)
      have e2 := Int.emod_lt_of_pos k (show (0 : Int) < 4 by decide)
      obtain ⟨j, hj⟩ : ∃ j : Nat, k % 4 = (j : Int) := ⟨(k % 4).toNat, by omega⟩
      have hj2 : j < 4 := by omega
      have hv : ∃ v : Int, ([.int 1, .int 7, .int 49, .int 343] : List V)[j]? = some (.int v) ∧ 0 < v ∧ v < 1073741824 := by
        match j, hj2 with
        | 0, _ => exact ⟨_, rfl, by decide⟩
        | 1, _ => exact ⟨_, rfl, by decide⟩
        | 2, _ => exact ⟨_, rfl, by decide⟩
        | 3, _ => exact ⟨_, rfl, by decide⟩
        | n + 4, h => omega
      obtain ⟨v, hv1, hv2⟩ := hv
      refine ⟨_, rfl, _, _, rfl, rfl, ⟨by decide, by decide, by decide⟩, _, _, rfl, rfl, by show 4 ≤ sizeLine; decide, fun t ht => ?_⟩
      refine ⟨_, rfl, _, _, rfl, rfl, (by decide : (0 : Int) < 4), t, _, _, _, rfl, rfl, SqT.of upd_same, at_of hj hv1, _, _, rfl, rfl, hv2, _, _, rfl, rfl, ⟨by decide, by decide, by decide⟩, _, _, rfl, rfl, (by decide +kernel : (0 : Int) < 10 ^ (40 : Int).toNat), ?_⟩
      exact q _ _ (same_upd ht) (Int.emod_nonneg _ (by decide +kernel)) (Int.emod_lt_of_pos _ (by decide +kernel))
    · have hk9 := Int.emod_nonneg k (show (9 : Int) ≠ 0 by decide)
      have b1 : Bd 1048579 (c + 977 * k) := (hc.add ((bd_small (k := 64) (show (977 * k).natAbs < 2 ^ 64 by omega)).mono (by decide))).mono (by decide)
      have b2 : Bd 1048579 (c + 31 * k + 5) := ((hc.add ((bd_small (k := 64) (show (31 * k).natAbs < 2 ^ 64 by omega)).mono (by decide))).add (bd_small (k := 1048578) (Nat.lt_of_lt_of_le (show (5 : Int).natAbs < 2 ^ 64 by decide) (Nat.pow_le_pow_right (by decide) (by decide))))).mono (by decide)
      refine ⟨_, rfl, _, rfl, _, _, rfl, rfl, .inl ⟨by decide, by decide⟩, _, _, rfl, rfl, _, rfl, _, rfl, _, _, rfl, rfl, .inl ⟨by decide, by decide⟩, _, _, rfl, rfl, _, _, rfl, rfl, _, _, rfl, rfl, bd_mul b1 b2 (by decide), ?_⟩
      refine ⟨_, rfl, _, _, rfl, rfl, (by decide : (0 : Int) < 9), _, _, rfl, rfl, _, rfl, _, _, _, rfl, hm, fun H1 r s1 r0 r1 => q _ _ s1 r0 (by omega)⟩

theorem ok__law_triple (D : Is K mg "_law_triple" s__law_triple ["_law_pair"]) : Has P w K mg base 1 "_law_triple" ["_law_pair"] (sp_triple_by K) := by
  obtain ⟨f, fd, F, b, g⟩ := D
  refine ⟨f, fd, F.ok sc__law_triple (fun vs H Q E h => ?_) (fun cdv A outer s H vs Q E hr h => ?_), F.kp, b, g⟩
  · obtain ⟨a, p, rfl, _⟩ := h
    rfl
  · obtain ⟨a, p, rfl, hS, hm, hn, q⟩ := h
    refine ⟨_, (pss_cons (ps_asg (pv 0) (pg_tup rfl (pgs_cons (pg_name (i := 1) sc__law_triple.nd rfl (Or.inl rfl)) (pgs_cons (pg_name (i := 2) sc__law_triple.nd rfl (Or.inl rfl)) pgs_nil)))) (pss_one (ps_ret (pe_tup (pa_cons (pe_op op_sub (pe_op op_mulX (pv 1) (pv 1)) (pe_op op_mulX (pv 2) (pv 2))) (pa_cons (pe_op op_mulX (pe_op op_mul pe_int (pv 1)) (pv 2)) (pa_cons (pe_op op_add (pe_op op_mulX (pv 1) (pv 1)) (pe_op op_mulX (pv 2) (pv 2))) pa_nil))))))), ?_⟩
    refine ⟨_, rfl, _, _, rfl, hS, rfl, _, _, rfl, _, _, rfl, rfl, ?_⟩
    walk_at "rd"
    refine ⟨len3, new_tup (K := K) fun H1 t s1 t1 => q _ _ s1 t1⟩

theorem ok__law_common (D : Is K mg "_law_common" s__law_common ["_law_one", "_law_other"]) : Has P w K mg base 1 "_law_common" ["_law_one", "_law_other"] sp_common := by
  obtain ⟨f, fd, F, b, g⟩ := D
  refine ⟨f, fd, F.ok sc__law_common (fun vs H Q E h => ?_) (fun cdv A outer s H vs Q E hr h => ?_), F.kp, b, g⟩
  · obtain ⟨a, b, rfl, _⟩ := h
    rfl
  · obtain ⟨a, b, rfl, ha, hb, q⟩ := h
    refine ⟨_, (pss_cons (ps_while PassesOwn.never (pt_cmpR op_gt (pv 1) pe_int (nomark _)) (pss_one (ps_par (i := 0) (j := 1) rfl sc__law_common.nd rfl rfl (by decide) rfl rfl (pa_cons (pv 1) (pa_cons (pe_op op_mod (pv 0) (pv 1)) pa_nil)) (by rfl)))) (pss_one (ps_ret (pv 0)))), ?_⟩
    refine ⟨fun m σ H' => ∃ x y : Int, σ = [some (.int x), some (.int y)] ∧ m = y.toNat ∧ 0 ≤ x ∧ 0 ≤ y ∧ Int.gcd x y = Int.gcd a b ∧ H' = H, ⟨_, a, b, rfl, rfl, ha, hb, rfl, rfl⟩, ?_⟩
    rintro m σ H' ⟨x, y, rfl, rfl, hx, hy, hg, rfl⟩
    refine ⟨_, rfl, _, _, rfl, rfl, _, rfl, if_b (fun c => ?_) (fun c => ?_)⟩
    · have c := of_decide_eq_true c
      refine ⟨fun σ' H2 => ∃ m', m' < y.toNat ∧ ∃ x1 y1 : Int, σ' = [some (.int x1), some (.int y1)] ∧ m' = y1.toNat ∧ 0 ≤ x1 ∧ 0 ≤ y1 ∧ Int.gcd x1 y1 = Int.gcd a b ∧ H2 = H', fun _ _ h => h, ?_⟩
      refine ⟨_, rfl, _, rfl, _, rfl, _, _, rfl, rfl, c, _, _, rfl, ?_⟩
      have e1 := Int.emod_nonneg x (show y ≠ 0 by omega)
      have e2 := Int.emod_lt_of_pos x c
      refine ⟨_, ?_, y, x % y, rfl, rfl, hy, e1, ?_, rfl⟩
      · omega
      · rw [← hg]
        have := Int.mul_ediv_add_emod x y
        rw [Int.gcd_comm x y]
        conv => rhs; rw [← this]
        rw [Int.add_comm, Int.gcd_add_mul_left_right]
    · have c := of_decide_eq_false c
      have e : y = 0 := by omega
      subst e
      refine ⟨_, rfl, ?_⟩
      rw [← hg, Int.gcd_zero_right] at q
      have e2 : ((x.natAbs : Nat) : Int) = x := Int.natAbs_of_nonneg hx
      rw [e2] at q
      exact q

end
end SqP

namespace SqP
open PySem PySem.Spec PyProof.Rows L2 Sq
section
variable {P : Program} {w : World} {K : PySem.W.Frag} {mg : Str → Option Value} {base : Heap}
theorem dec_vint (a b : Int) : decide (V.int a = V.int b) = decide (a = b) := by
  by_cases c : a = b
  · rw [decide_eq_true c, decide_eq_true (by rw [c])]
  · rw [decide_eq_false c, decide_eq_false (fun z => c (V.int.inj z))]
/-- a list of triples of one's own, as found so far -/
structure FoundAt (K : PySem.W.Frag) (H H' : Hp) (fo : Addr) (xs : List V) (L : List Tr) : Prop where
  same : Same H H'
  new : H fo = none
  lst : H' fo = some (.lst xs)
  trs : TrS K H' xs L
theorem FoundAt.start {H : Hp} {fo : Addr} (h : H fo = none) : FoundAt K H (upd H fo (.lst [])) fo [] [] := ⟨same_upd h, h, upd_same, .nil⟩
theorem FoundAt.on {H H' H2 : Hp} {fo : Addr} {xs : List V} {L : List Tr} (h : FoundAt K H H' fo xs L) (s : Same H' H2) : FoundAt K H H2 fo xs L := ⟨h.same.trans s, h.new, s _ _ h.lst, h.trs.same s⟩
theorem FoundAt.add {H H' : Hp} {fo q : Addr} {xs : List V} {L : List Tr} {t : Tr} (h : FoundAt K H H' fo xs L) (ht : TrAt K H' q t) : FoundAt K H (upd H' fo (.lst (xs ++ [.ref q]))) fo (xs ++ [.ref q]) (L ++ [t]) :=
  ⟨same_new h.new h.same, h.new, upd_same, (h.trs.app (.cons ht .nil)).upd h.lst⟩
theorem mxs {i j : Int} (h : (-1000000000 ≤ i ∧ i ≤ 1000000000) ∧ (-1000000000 ≤ j ∧ j ≤ 1000000000)) : CMulX i j :=
  bd_mul (k := 64) (l := 64) (bd_small (k := 64) (show i.natAbs < 2 ^ 64 by omega)) (bd_small (k := 64) (show j.natAbs < 2 ^ 64 by omega)) (by decide)
theorem bds {x : Int} (h : -1000000000 ≤ x ∧ x ≤ 1000000000) : Bd 1000000 x := (bd_small (k := 64) (show x.natAbs < 2 ^ 64 by omega)).mono (by decide)
theorem rti_mono' {a b : Int} (h : a ≤ b) : rti a ≤ rti b := by
  by_cases h0 : 0 ≤ a
  · exact rti_mono h0 h
  · have e : rti a = 0 := by
      unfold rti
      rw [show a.toNat = 0 by omega]
      rfl
    have := rti_pos b
    omega
theorem sq_pos (n : Int) : 0 ≤ n * n := by
  rcases Int.le_total 0 n with h | h
  · exact Int.mul_nonneg h h
  · exact Int.mul_nonneg_of_nonpos_of_nonpos h h
/-- one step of m down -/
theorem down_m {N m n : Int} (hm : 0 ≤ m) (hr : rti (N - n * n) ≤ m) (h0 : 0 ≤ N - n * n) (c : N < m * m + n * n) : rti (N - n * n) ≤ m - 1 := by
  have h1 := rti_le h0
  have h2 := lt_of_sq (a := rti (N - n * n)) (b := m) hm (by omega)
  omega
theorem stop_m {N m n : Int} (hr : rti (N - n * n) ≤ m) (h0 : 0 ≤ N - n * n) (c : ¬ N < m * m + n * n) : m = rti (N - n * n) := by
  have := le_rti (a := m) h0 (by omega)
  omega
theorem rti_small {N : Int} (h0 : 0 ≤ N) (h : N ≤ 2000000) : rti N ≤ 2000 := by
  by_cases c : rti N ≤ 2000
  · exact c
  · have h1 := rti_le h0
    have h2 := sq_mono (a := 2001) (b := rti N) (by decide) (by omega)
    omega
theorem lgOk_iff {N m n : Int} : lgOk N m n = true ↔ m * m + n * n = N ∧ (m + n) % 2 = 1 ∧ (Int.gcd m n : Int) = 1 := by
  unfold lgOk
  rw [Bool.and_eq_true, Bool.and_eq_true, decide_eq_true_iff, decide_eq_true_iff, decide_eq_true_iff, and_assoc]
/-! ### longest_of -/
def sp_longest_of (K : PySem.W.Frag) : Sp := fun vs H Q _ => ∃ N : Int, vs = [.int N] ∧ 1 ≤ N ∧ N ≤ 2000000 ∧ ∀ H' p ys, Same H H' → H' p = some (.lst ys) → TrS K H' ys (srt (lgL N)) → Q (.ref p) H'
theorem ok_longest_of (B : Bt mg) (D : Is K mg "longest_of" s_longest_of ["number"]) (H_root_of : Has P w K mg base 33 "root_of" ["number"] sp_root_of) (H_common : Has P w K mg base 1 "common" ["one", "other"] sp_common) (H_triple_by : Has P w K mg base 1 "triple_by" ["pair"] (sp_triple_by K)) :
    Has P w K mg base 34 "longest_of" ["number"] (sp_longest_of K) := by
  obtain ⟨f, fd, F, b, g⟩ := D
  obtain ⟨f_root_of, fd_root_of, G_root_of, k_root_of, b_root_of, g_root_of⟩ := H_root_of
  obtain ⟨f_common, fd_common, G_common, k_common, b_common, g_common⟩ := H_common
  obtain ⟨f_triple_by, fd_triple_by, G_triple_by, k_triple_by, b_triple_by, g_triple_by⟩ := H_triple_by
  refine ⟨f, fd, F.ok sc_longest_of (fun vs H Q E h => ?_) (fun cdv A outer s H vs Q E hr h => ?_), F.kp, b, g⟩
  · obtain ⟨N, rfl, _⟩ := h
    rfl
  · obtain ⟨N, rfl, h1, h2, q⟩ := h
    refine ⟨_, (pss_cons (ps_set (i := 1) sc_longest_of.nd rfl (Or.inl rfl) (pe_lst pa_nil)) (pss_cons (ps_set (i := 2) sc_longest_of.nd rfl (Or.inl rfl) pe_int) (pss_cons (ps_set (i := 3) sc_longest_of.nd rfl (Or.inl rfl) (pe_call G_root_of (hr.mono (by decide)) (by rfl) g_root_of k_root_of b_root_of .nil pass0 (pa_cons (pv 0) pa_nil))) (pss_cons (ps_while PassesOwn.never (pt_cmpR op_lt (pe_op op_mulX (pe_op op_mul pe_int (pv 2)) (pv 2)) (pv 0) (nomark _)) (pss_cons (ps_while PassesOwn.never (pt_cmpR op_gt (pe_op op_add (pe_op op_mulX (pv 3) (pv 3)) (pe_op op_mulX (pv 2) (pv 2))) (pv 0) (nomark _)) (pss_one (ps_aug (i := 3) sc_longest_of.nd rfl (Or.inl rfl) pe_int ip_sub))) (pss_cons (ps_if (PW.pt (pw_and (pt_cmpR op_eq (pe_op op_add (pe_op op_mulX (pv 3) (pv 3)) (pe_op op_mulX (pv 2) (pv 2))) (pv 0) (nomark _)) (pw_and (pt_cmpR op_eq (pe_op op_mod (pe_op op_add (pv 3) (pv 2)) pe_int) pe_int (nomark _)) (pw_and1 (pt_cmpR op_eq (pe_call G_common (hr.mono (by decide)) (by rfl) g_common k_common b_common .nil pass0 (pa_cons (pv 3) (pa_cons (pv 2) pa_nil))) pe_int (nomark _)))))) (pss_one (ps_expr (pe_bm PySem.F.plainAttrs_list PySem.F.slot_list_append PySem.F.type_list_append mt_append (pv 1) (pa_cons (pe_call G_triple_by (hr.mono (by decide)) (by rfl) g_triple_by k_triple_by b_triple_by .nil pass0 (pa_cons (pe_tup (pa_cons (pv 3) (pa_cons (pv 2) pa_nil))) pa_nil)) pa_nil)))) pss_nil) (pss_one (ps_aug (i := 2) sc_longest_of.nd rfl (Or.inl rfl) pe_int ip_add))))) (pss_one (ps_ret (pe_callB cr_sortedT (by rfl) B.sorted (by decide +kernel) (pa_cons (pv 1) pa_nil)))))))), ?_⟩
    refine ⟨Nat.zero_le _, fun fo nfo => ⟨_, rfl, N, rfl, by omega, (bds (by omega)).mono (by decide), fun r r0 r1 r2 => ?_⟩⟩
    have er : rti N = r := rti_uniq r0 r1 r2
    subst er
    have hs := rti_small (N := N) (by omega) h2
    refine ⟨fun k σ H' => ∃ (xs : List V) (n : Nat) (m : Int), σ = [some (.int N), some (.ref fo), some (.int (n + 1 : Nat)), some (.int m)] ∧ k = (N - n).toNat ∧ FoundAt K H H' fo xs (upto (lgAt N) n) ∧ (∀ i : Int, 0 ≤ i → i ≤ n → i = 0 ∨ 2 * i * i < N) ∧ (n : Int) ≤ 2000 ∧ rti (N - (n + 1 : Nat) * (n + 1 : Nat)) ≤ m ∧ 0 ≤ m ∧ m ≤ 2000, ⟨_, [], 0, rti N, rfl, rfl, .start nfo, fun i a b => .inl (by omega), by decide, rti_mono' (by show N - 1 * 1 ≤ N; omega), rti_pos N, hs⟩, ?_⟩
    rintro k σ H' ⟨xs, n, m, rfl, rfl, fa, up, hn, hr1, hm, hm2⟩
    refine ⟨_, rfl, _, _, rfl, rfl, .inl ⟨by decide, by decide⟩, _, rfl, _, _, rfl, rfl, mxs (by omega), _, rfl, _, _, rfl, rfl, _, rfl, if_b (fun c => ?_) (fun c => ?_)⟩
    · have c := of_decide_eq_true c
      have e2 : 2 * ((n + 1 : Nat) : Int) * (n + 1 : Nat) = 2 * (((n + 1 : Nat) : Int) * (n + 1 : Nat)) := by grind
      have sp := sq_pos ((n + 1 : Nat) : Int)
      have h0 : 0 ≤ N - ((n + 1 : Nat) : Int) * (n + 1 : Nat) := by omega
      have hn2 : ((n + 1 : Nat) : Int) ≤ 1000 := by
        by_cases z : ((n + 1 : Nat) : Int) ≤ 1000
        · exact z
        · have := sq_mono (a := 1001) (b := ((n + 1 : Nat) : Int)) (by decide) (by omega)
          omega
      generalize hd : ((n + 1 : Nat) : Int) = d at *
      refine ⟨fun σ' H2 => ∃ k', k' < (N - n).toNat ∧ ∃ (xs : List V) (n : Nat) (m : Int), σ' = [some (.int N), some (.ref fo), some (.int (n + 1 : Nat)), some (.int m)] ∧ k' = (N - n).toNat ∧ FoundAt K H H2 fo xs (upto (lgAt N) n) ∧ (∀ i : Int, 0 ≤ i → i ≤ n → i = 0 ∨ 2 * i * i < N) ∧ (n : Int) ≤ 2000 ∧ rti (N - (n + 1 : Nat) * (n + 1 : Nat)) ≤ m ∧ 0 ≤ m ∧ m ≤ 2000, fun _ _ h => h, ?_⟩
      -- while m * m + n * n > number: m -= 1
      refine ⟨fun k2 σ H2 => ∃ m : Int, σ = [some (.int N), some (.ref fo), some (.int d), some (.int m)] ∧ k2 = m.toNat ∧ H2 = H' ∧ rti (N - d * d) ≤ m ∧ 0 ≤ m ∧ m ≤ 2000, ⟨_, m, rfl, rfl, rfl, hr1, hm, hm2⟩, ?_⟩
      clear hr1 hm hm2
      rintro k2 σ H2 ⟨m, rfl, rfl, rfl, hr1, hm, hm2⟩
      refine ⟨_, rfl, _, rfl, _, _, rfl, rfl, mxs (by omega), _, rfl, _, rfl, _, _, rfl, rfl, mxs (by omega), _, _, rfl, rfl, _, rfl, _, _, rfl, rfl, _, rfl, if_b (fun c2 => ?_) (fun c2 => ?_)⟩
      · have c2 := of_decide_eq_true c2
        have d1 := down_m hm hr1 h0 c2
        have := rti_pos (N - d * d)
        exact ⟨fun σ' H3 => ∃ k3, k3 < m.toNat ∧ ∃ m1 : Int, σ' = [some (.int N), some (.ref fo), some (.int d), some (.int m1)] ∧ k3 = m1.toNat ∧ H3 = H2 ∧ rti (N - d * d) ≤ m1 ∧ 0 ≤ m1 ∧ m1 ≤ 2000, fun _ _ h => h, _, rfl, _, _, rfl, rfl, (m - 1).toNat, by omega, m - 1, rfl, rfl, rfl, d1, by omega, by omega⟩
      · have c2 := of_decide_eq_false c2
        have em := stop_m hr1 h0 c2
        have next : ∀ (H4 : Hp) (ys : List V), FoundAt K H H4 fo ys (upto (lgAt N) n ++ lgAt N d) → ∃ k', k' < (N - n).toNat ∧ ∃ (xs : List V) (n : Nat) (m2 : Int), [some (V.int N), some (.ref fo), some (.int (d + 1)), some (.int m)] = [some (V.int N), some (.ref fo), some (.int (n + 1 : Nat)), some (.int m2)] ∧ k' = (N - n).toNat ∧ FoundAt K H H4 fo xs (upto (lgAt N) n) ∧ (∀ i : Int, 0 ≤ i → i ≤ n → i = 0 ∨ 2 * i * i < N) ∧ (n : Int) ≤ 2000 ∧ rti (N - (n + 1 : Nat) * (n + 1 : Nat)) ≤ m2 ∧ 0 ≤ m2 ∧ m2 ≤ 2000 := fun H4 ys fa4 => by
          refine ⟨_, ?_, ys, n + 1, m, by rw [← hd]; rfl, rfl, by rw [upto, hd]; exact fa4, fun i i0 i1 => ?_, by omega, ?_, hm, hm2⟩
          · have : d ≤ d * d := by
              have := Int.mul_le_mul_of_nonneg_right (a := 1) (b := d) (c := d) (by omega) (by omega)
              omega
            omega
          · by_cases z : i ≤ n
            · exact up i i0 z
            · have : i = d := by omega
              rw [this]
              exact .inr c
          · refine Int.le_trans (rti_mono' ?_) hr1
            have := sq_mono (a := d) (b := ((n + 1 + 1 : Nat) : Int)) (by omega) (by omega)
            omega
        have skip : ¬ (m * m + d * d = N ∧ (m + d) % 2 = 1 ∧ (Int.gcd m d : Int) = 1) → lgAt N d = [] := fun z => by
          unfold lgAt
          rw [← em]
          refine if_neg fun y => ?_
          rw [Bool.and_eq_true] at y
          exact z (lgOk_iff.mp y.2)
        have fin : lgAt N d = [] → FoundAt K H H2 fo xs (upto (lgAt N) n ++ lgAt N d) := fun z => by
          rw [z, List.append_nil]
          exact fa
        refine ⟨_, rfl, _, rfl, _, _, rfl, rfl, mxs (by omega), _, rfl, _, rfl, _, _, rfl, rfl, mxs (by omega), _, _, rfl, rfl, _, rfl, rfl, _, rfl, ?_⟩
        rw [dec_vint]
        refine if_b (fun c3 => ?_) (fun c3 => iteF ⟨_, rfl, _, _, rfl, rfl, next _ _ (fin (skip fun z => of_decide_eq_false c3 z.1))⟩)
        have c3 := of_decide_eq_true c3
        refine ⟨_, rfl, _, rfl, _, _, rfl, rfl, _, _, rfl, rfl, (by decide : (0 : Int) < 2), rfl, _, rfl, ?_⟩
        rw [dec_vint]
        refine if_b (fun c4 => ?_) (fun c4 => iteF ⟨_, rfl, _, _, rfl, rfl, next _ _ (fin (skip fun z => of_decide_eq_false c4 z.2.1))⟩)
        have c4 := of_decide_eq_true c4
        refine ⟨_, rfl, _, rfl, m, d, rfl, hm, by omega, rfl, _, rfl, ?_⟩
        rw [dec_vint]
        refine if_b (fun c5 => ?_) (fun c5 => ⟨_, rfl, _, _, rfl, rfl, next _ _ (fin (skip fun z => of_decide_eq_false c5 z.2.2))⟩)
        have c5 := of_decide_eq_true c5
        have lt : d < m := by
          refine lt_of_sq hm ?_
          omega
        have eA : lgAt N d = [tri (m, d)] := by
          unfold lgAt
          rw [← em, lgOk_iff.mpr ⟨c3, c4, c5⟩, decide_eq_true lt]
          rfl
        refine ⟨_, rfl, .inl ⟨rfl, _, SqL.of fa.lst⟩, _, rfl, _, rfl, len2, fun t ht => ?_⟩
        refine ⟨t, (m, d), rfl, SqT.of upd_same, bds (by dsimp only; omega), bds (by dsimp only; omega), fun H5 ta s5 hta => ?_⟩
        have fa5 := fa.on ((same_upd (o := .tup [.int m, .int d]) ht).trans s5)
        have len := fa.trs.len
        have len2 := upto_len (f := lgAt N) (c := 1) (lgAt_len N) n
        refine ⟨fo, _, _, rfl, rfl, fa5.lst, by rw [sizeLine_eq]; omega, ?_⟩
        exact ⟨_, rfl, _, _, rfl, rfl, next _ _ (by rw [eA]; exact fa5.add hta)⟩
    · have c := of_decide_eq_false c
      have ef := lgL_upto (N := N) (k := n) (by omega) up (by omega)
      refine ⟨_, rfl, fo, xs, _, rfl, SqL.of fa.lst, fa.trs, fun ys p ht hp => ?_⟩
      rw [ef] at ht
      exact q _ p ys (same_new (by
        cases e : H p with
        | none => rfl
        | some o =>
          rw [fa.same _ _ e] at hp
          cases hp) fa.same) upd_same (ht.same (same_upd hp))
end
end SqP

namespace SqP
open PySem PySem.Spec PyProof.Rows L2 Sq
section
variable {P : Program} {w : World} {K : PySem.W.Frag} {mg : Str → Option Value} {base : Heap}
theorem found_end {H H' : Hp} {fo : Addr} {xs : List V} {L : List Tr} {Q : VK} (fa : FoundAt K H H' fo xs L) (q : ∀ H' p ys, Same H H' → H' p = some (.lst ys) → TrS K H' ys (srt L) → Q (.ref p) H') : rSortedT K [.ref fo] H' Q := by
  refine ⟨fo, xs, L, rfl, SqL.of fa.lst, fa.trs, fun ys p ht hp => q _ p ys (same_new ?_ fa.same) upd_same (ht.same (same_upd hp))⟩
  cases e : H p with
  | none => rfl
  | some o =>
    rw [fa.same _ _ e] at hp
    cases hp
theorem leA_yes {N p : Int} (h1 : N % p = 0) (h2 : p < N / p) (h3 : (Int.gcd p (N / p) : Int) = 1) (h4 : N % 2 = 1) : leA N p = [tri ((N / p + p) / 2, (N / p - p) / 2)] := by
  unfold leA
  rw [decide_eq_true h1, decide_eq_true h2, decide_eq_true h3, decide_eq_true h4]
  rfl
theorem leA_no {N p : Int} (z : ¬ (N % p = 0 ∧ p < N / p ∧ (Int.gcd p (N / p) : Int) = 1 ∧ N % 2 = 1)) : leA N p = [] := by
  refine if_neg fun c => ?_
  rw [Bool.and_eq_true, Bool.and_eq_true, Bool.and_eq_true] at c
  exact z ⟨of_decide_eq_true c.1.1.1, of_decide_eq_true c.1.1.2, of_decide_eq_true c.1.2, of_decide_eq_true c.2⟩
theorem leB_yes {N p : Int} (h1 : N % 4 = 0) (h2 : N / 2 % p = 0) (h3 : p < N / 2 / p) (h4 : (Int.gcd p (N / 2 / p) : Int) = 1) : leB N p = [tri (N / 2 / p, p)] := by
  unfold leB
  rw [decide_eq_true h1, decide_eq_true h2, decide_eq_true h3, decide_eq_true h4]
  rfl
theorem leB_no {N p : Int} (z : ¬ (N % 4 = 0 ∧ N / 2 % p = 0 ∧ p < N / 2 / p ∧ (Int.gcd p (N / 2 / p) : Int) = 1)) : leB N p = [] := by
  refine if_neg fun c => ?_
  rw [Bool.and_eq_true, Bool.and_eq_true, Bool.and_eq_true] at c
  exact z ⟨of_decide_eq_true c.1.1.1, of_decide_eq_true c.1.1.2, of_decide_eq_true c.1.2, of_decide_eq_true c.2⟩
theorem div_rng {N p : Int} (h0 : 0 ≤ N) (hp : 0 < p) : 0 ≤ N / p ∧ N / p ≤ N := ⟨Int.ediv_nonneg h0 (by omega), Int.ediv_le_self p h0⟩
/-! ### legs_of -/
def sp_legs_of (K : PySem.W.Frag) : Sp := fun vs H Q _ => ∃ N : Int, vs = [.int N] ∧ 1 ≤ N ∧ N ≤ 2000000 ∧ ∀ H' p ys, Same H H' → H' p = some (.lst ys) → TrS K H' ys (srt (leL N)) → Q (.ref p) H'
theorem ok_legs_of (B : Bt mg) (hN : base.NoSeer) (ht : P.given.tree = none) (D : Is K mg "legs_of" s_legs_of ["number"]) (H_common : Has P w K mg base 1 "common" ["one", "other"] sp_common) (H_triple_by : Has P w K mg base 1 "triple_by" ["pair"] (sp_triple_by K)) :
    Has P w K mg base 33 "legs_of" ["number"] (sp_legs_of K) := by
  obtain ⟨f, fd, F, b, g⟩ := D
  obtain ⟨f_common, fd_common, G_common, k_common, b_common, g_common⟩ := H_common
  obtain ⟨f_triple_by, fd_triple_by, G_triple_by, k_triple_by, b_triple_by, g_triple_by⟩ := H_triple_by
  refine ⟨f, fd, F.ok sc_legs_of (fun vs H Q E h => ?_) (fun cdv A outer s H vs Q E hr h => ?_), F.kp, b, g⟩
  · obtain ⟨N, rfl, _⟩ := h
    rfl
  · obtain ⟨N, rfl, h1, h2, q⟩ := h
    have hd : (A.deeper (envOfC "legs_of" (defScope s_legs_of) s.heap.objs.size f cdv)).depth + 100 < recursionLimit := by
      have := hr.dp
      omega
    refine ⟨_, (pss_cons (ps_set (i := 1) sc_legs_of.nd rfl (Or.inl rfl) (pe_lst pa_nil)) (pss_cons (ps_set (i := 2) sc_legs_of.nd rfl (Or.inl rfl) pe_int) (pss_cons (ps_while PassesOwn.never (pt_cmpR op_lt (pe_op op_mulX (pv 2) (pv 2)) (pv 0) (nomark _)) (pss_cons (ps_if (PW.pt (pw_and (pt_cmpR op_eq (pe_op op_mod (pv 0) (pv 2)) pe_int (nomark _)) (pw_and (pt_cmpR op_eq (pe_call G_common (hr.mono (by decide)) (by rfl) g_common k_common b_common .nil pass0 (pa_cons (pv 2) (pa_cons (pe_op (op_fdivP (l := outer) hN ht rfl rfl rfl hd) (pv 0) (pv 2)) pa_nil))) pe_int (nomark _)) (pw_and1 (pt_cmpR op_eq (pe_op op_mod (pv 0) pe_int) pe_int (nomark _)))))) (pss_one (ps_expr (pe_bm PySem.F.plainAttrs_list PySem.F.slot_list_append PySem.F.type_list_append mt_append (pv 1) (pa_cons (pe_call G_triple_by (hr.mono (by decide)) (by rfl) g_triple_by k_triple_by b_triple_by .nil pass0 (pa_cons (pe_tup (pa_cons (pe_op op_fdiv (pe_op op_add (pe_op (op_fdivP (l := outer) hN ht rfl rfl rfl hd) (pv 0) (pv 2)) (pv 2)) pe_int) (pa_cons (pe_op op_fdiv (pe_op op_sub (pe_op (op_fdivP (l := outer) hN ht rfl rfl rfl hd) (pv 0) (pv 2)) (pv 2)) pe_int) pa_nil))) pa_nil)) pa_nil)))) pss_nil) (pss_one (ps_aug (i := 2) sc_legs_of.nd rfl (Or.inl rfl) pe_int ip_add)))) (pss_cons (ps_set (i := 3) sc_legs_of.nd rfl (Or.inl rfl) (pe_op op_fdiv (pv 0) pe_int)) (pss_cons (ps_set (i := 2) sc_legs_of.nd rfl (Or.inl rfl) pe_int) (pss_cons (ps_while PassesOwn.never (PW.pt (pw_and (pt_cmpR op_lt (pe_op op_mulX (pv 2) (pv 2)) (pv 3) (nomark _)) (pw_and1 (pt_cmpR op_eq (pe_op op_mod (pv 0) pe_int) pe_int (nomark _))))) (pss_cons (ps_if (PW.pt (pw_and (pt_cmpR op_eq (pe_op op_mod (pv 3) (pv 2)) pe_int (nomark _)) (pw_and1 (pt_cmpR op_eq (pe_call G_common (hr.mono (by decide)) (by rfl) g_common k_common b_common .nil pass0 (pa_cons (pv 2) (pa_cons (pe_op (op_fdivP (l := outer) hN ht rfl rfl rfl hd) (pv 3) (pv 2)) pa_nil))) pe_int (nomark _))))) (pss_one (ps_expr (pe_bm PySem.F.plainAttrs_list PySem.F.slot_list_append PySem.F.type_list_append mt_append (pv 1) (pa_cons (pe_call G_triple_by (hr.mono (by decide)) (by rfl) g_triple_by k_triple_by b_triple_by .nil pass0 (pa_cons (pe_tup (pa_cons (pe_op (op_fdivP (l := outer) hN ht rfl rfl rfl hd) (pv 3) (pv 2)) (pa_cons (pv 2) pa_nil))) pa_nil)) pa_nil)))) pss_nil) (pss_one (ps_aug (i := 2) sc_legs_of.nd rfl (Or.inl rfl) pe_int ip_add)))) (pss_one (ps_ret (pe_callB cr_sortedT (by rfl) B.sorted (by decide +kernel) (pa_cons (pv 1) pa_nil)))))))))), ?_⟩
    have hs := rti_small (N := N) (by omega) h2
    refine ⟨Nat.zero_le _, fun fo nfo => ?_⟩
    refine ⟨fun k σ H' => ∃ (xs : List V) (n : Nat), σ = [some (.int N), some (.ref fo), some (.int (n + 1 : Nat)), none] ∧ k = (2001 - n : Int).toNat ∧ FoundAt K H H' fo xs (upto (leA N) n) ∧ ((n : Int) = 0 ∨ (n : Int) * n < N) ∧ (n : Int) ≤ 2000, ⟨_, [], 0, rfl, rfl, .start nfo, .inl rfl, by decide⟩, ?_⟩
    rintro k σ H' ⟨xs, n, rfl, rfl, fa, up, hn⟩
    refine ⟨_, rfl, _, rfl, _, _, rfl, rfl, mxs (by omega), _, rfl, _, _, rfl, rfl, _, rfl, if_b (fun c => ?_) (fun c => ?_)⟩
    · have c := of_decide_eq_true c
      have hn2 : ((n + 1 : Nat) : Int) ≤ 2000 := by
        have := le_rti (a := ((n + 1 : Nat) : Int)) (n := N) (by omega) (by omega)
        omega
      generalize hd : ((n + 1 : Nat) : Int) = d at *
      have d0 : 0 < d := by omega
      obtain ⟨o1, o2⟩ := div_rng (N := N) (p := d) (by omega) d0
      refine ⟨fun σ' H2 => ∃ k', k' < (2001 - n : Int).toNat ∧ ∃ (xs : List V) (n : Nat), σ' = [some (.int N), some (.ref fo), some (.int (n + 1 : Nat)), none] ∧ k' = (2001 - n : Int).toNat ∧ FoundAt K H H2 fo xs (upto (leA N) n) ∧ ((n : Int) = 0 ∨ (n : Int) * n < N) ∧ (n : Int) ≤ 2000, fun _ _ h => h, ?_⟩
      have next : ∀ (H4 : Hp) (ys : List V), FoundAt K H H4 fo ys (upto (leA N) n ++ leA N d) → ∃ k', k' < (2001 - n : Int).toNat ∧ ∃ (xs : List V) (n : Nat), [some (V.int N), some (.ref fo), some (.int (d + 1)), none] = [some (V.int N), some (.ref fo), some (.int (n + 1 : Nat)), none] ∧ k' = (2001 - n : Int).toNat ∧ FoundAt K H H4 fo xs (upto (leA N) n) ∧ ((n : Int) = 0 ∨ (n : Int) * n < N) ∧ (n : Int) ≤ 2000 := fun H4 ys fa4 =>
        ⟨_, by omega, ys, n + 1, by rw [← hd]; rfl, rfl, by rw [upto, hd]; exact fa4, .inr (by rw [hd]; exact c), by omega⟩
      have fin : leA N d = [] → FoundAt K H H' fo xs (upto (leA N) n ++ leA N d) := fun z => by
        rw [z, List.append_nil]
        exact fa
      refine ⟨_, rfl, _, rfl, _, _, rfl, rfl, d0, rfl, _, rfl, ?_⟩
      rw [dec_vint]
      refine if_b (fun c3 => ?_) (fun c3 => iteF ⟨_, rfl, _, _, rfl, rfl, next _ _ (fin (leA_no fun z => of_decide_eq_false c3 z.1))⟩)
      have c3 := of_decide_eq_true c3
      refine ⟨_, rfl, _, rfl, _, rfl, _, _, rfl, rfl, d0, d, N / d, rfl, by omega, o1, rfl, _, rfl, ?_⟩
      rw [dec_vint]
      refine if_b (fun c4 => ?_) (fun c4 => iteF ⟨_, rfl, _, _, rfl, rfl, next _ _ (fin (leA_no fun z => of_decide_eq_false c4 z.2.2.1))⟩)
      have c4 := of_decide_eq_true c4
      refine ⟨_, rfl, _, _, rfl, rfl, (by decide : (0 : Int) < 2), rfl, _, rfl, ?_⟩
      rw [dec_vint]
      refine if_b (fun c5 => ?_) (fun c5 => ⟨_, rfl, _, _, rfl, rfl, next _ _ (fin (leA_no fun z => of_decide_eq_false c5 z.2.2.2))⟩)
      have c5 := of_decide_eq_true c5
      have eA := leA_yes c3 ((part_lt d0 c3).mpr c) c4 c5
      refine ⟨_, rfl, .inl ⟨rfl, _, SqL.of fa.lst⟩, _, rfl, _, rfl, _, _, rfl, rfl, d0, _, rfl, _, _, rfl, rfl, _, _, rfl, rfl, ⟨by decide, by decide⟩, _, rfl, _, rfl, _, _, rfl, rfl, d0, _, rfl, _, _, rfl, rfl, _, _, rfl, rfl, ⟨by decide, by decide⟩, len2, fun t ht => ?_⟩
      refine ⟨t, ((N / d + d) / 2, (N / d - d) / 2), rfl, SqT.of upd_same, bds (by dsimp only; omega), bds (by dsimp only; omega), fun H5 ta s5 hta => ?_⟩
      have fa5 := fa.on ((same_upd (o := .tup [.int ((N / d + d) / 2), .int ((N / d - d) / 2)]) ht).trans s5)
      have len := fa.trs.len
      have len2 := upto_len (f := leA N) (c := 1) (leA_len N) n
      refine ⟨fo, _, _, rfl, rfl, fa5.lst, by rw [sizeLine_eq]; omega, ?_⟩
      exact ⟨_, rfl, _, _, rfl, rfl, next _ _ (by rw [eA]; exact fa5.add hta)⟩
    · have c := of_decide_eq_false c
      have ef := upto_leA (N := N) (k := n) (by omega) up (by omega)
      rw [ef] at fa
      clear ef up c hn
      refine ⟨_, rfl, _, _, rfl, rfl, ⟨by decide, by decide⟩, ?_⟩
      have hh : 0 ≤ N / 2 ∧ N / 2 ≤ N := by omega
      generalize eh : N / 2 = h at *
      refine ⟨fun k σ H' => ∃ (xs : List V) (n : Nat), σ = [some (.int N), some (.ref fo), some (.int (n + 1 : Nat)), some (.int h)] ∧ k = (2001 - n : Int).toNat ∧ FoundAt K H H' fo xs (upto (leA N) (rti N).toNat ++ upto (leB N) n) ∧ ((n : Int) = 0 ∨ (n : Int) * n < h) ∧ (n : Int) ≤ 2000, ⟨_, xs, 0, by rw [← eh]; rfl, rfl, by rw [upto, List.append_nil]; exact fa, .inl rfl, by decide⟩, ?_⟩
      clear fa
      rintro k σ H' ⟨xs, n, rfl, rfl, fa, up, hn⟩
      have out : (N % 4 = 0 → h ≤ ((n + 1 : Nat) : Int) * (n + 1 : Nat)) → rSortedT K [.ref fo] H' Q := fun z => by
        refine found_end fa ?_
        rw [upto_leB (N := N) (k := n) (by omega) (by rw [eh]; exact up) (by rw [eh]; exact z), leL_eq]
        exact q
      refine ⟨_, rfl, _, rfl, _, _, rfl, rfl, mxs (by omega), _, rfl, _, _, rfl, rfl, _, rfl, if_b (fun c => ?_) (fun c => iteF ⟨_, rfl, out fun _ => by have := of_decide_eq_false c; omega⟩)⟩
      have c := of_decide_eq_true c
      refine ⟨_, rfl, _, _, rfl, rfl, (by decide : (0 : Int) < 4), rfl, _, rfl, ?_⟩
      rw [dec_vint]
      refine if_b (fun c2 => ?_) (fun c2 => ⟨_, rfl, out fun z => absurd z (of_decide_eq_false c2)⟩)
      have c2 := of_decide_eq_true c2
      have hn2 : ((n + 1 : Nat) : Int) ≤ 2000 := by
        have := le_rti (a := ((n + 1 : Nat) : Int)) (n := N) (by omega) (by omega)
        omega
      clear out
      generalize hd : ((n + 1 : Nat) : Int) = d at *
      have d0 : 0 < d := by omega
      obtain ⟨o1, o2⟩ := div_rng (N := h) (p := d) (by omega) d0
      refine ⟨fun σ' H2 => ∃ k', k' < (2001 - n : Int).toNat ∧ ∃ (xs : List V) (n : Nat), σ' = [some (.int N), some (.ref fo), some (.int (n + 1 : Nat)), some (.int h)] ∧ k' = (2001 - n : Int).toNat ∧ FoundAt K H H2 fo xs (upto (leA N) (rti N).toNat ++ upto (leB N) n) ∧ ((n : Int) = 0 ∨ (n : Int) * n < h) ∧ (n : Int) ≤ 2000, fun _ _ h => h, ?_⟩
      have next : ∀ (H4 : Hp) (ys : List V), FoundAt K H H4 fo ys (upto (leA N) (rti N).toNat ++ upto (leB N) n ++ leB N d) → ∃ k', k' < (2001 - n : Int).toNat ∧ ∃ (xs : List V) (n : Nat), [some (V.int N), some (.ref fo), some (.int (d + 1)), some (.int h)] = [some (V.int N), some (.ref fo), some (.int (n + 1 : Nat)), some (.int h)] ∧ k' = (2001 - n : Int).toNat ∧ FoundAt K H H4 fo xs (upto (leA N) (rti N).toNat ++ upto (leB N) n) ∧ ((n : Int) = 0 ∨ (n : Int) * n < h) ∧ (n : Int) ≤ 2000 := fun H4 ys fa4 =>
        ⟨_, by omega, ys, n + 1, by rw [← hd]; rfl, rfl, by rw [upto, hd, ← List.append_assoc]; exact fa4, .inr (by rw [hd]; exact c), by omega⟩
      have fin : leB N d = [] → FoundAt K H H' fo xs (upto (leA N) (rti N).toNat ++ upto (leB N) n ++ leB N d) := fun z => by
        rw [z, List.append_nil]
        exact fa
      refine ⟨_, rfl, _, rfl, _, _, rfl, rfl, d0, rfl, _, rfl, ?_⟩
      rw [dec_vint]
      refine if_b (fun c3 => ?_) (fun c3 => iteF ⟨_, rfl, _, _, rfl, rfl, next _ _ (fin (leB_no fun z => of_decide_eq_false c3 (by rw [← eh]; exact z.2.1)))⟩)
      have c3 := of_decide_eq_true c3
      refine ⟨_, rfl, _, rfl, _, rfl, _, _, rfl, rfl, d0, d, h / d, rfl, by omega, o1, rfl, _, rfl, ?_⟩
      rw [dec_vint]
      refine if_b (fun c4 => ?_) (fun c4 => ⟨_, rfl, _, _, rfl, rfl, next _ _ (fin (leB_no fun z => of_decide_eq_false c4 (by rw [← eh]; exact z.2.2.2)))⟩)
      have c4 := of_decide_eq_true c4
      have eA := leB_yes (N := N) (p := d) c2 (by rw [eh]; exact c3) (by rw [eh]; exact (part_lt d0 c3).mpr c) (by rw [eh]; exact c4)
      rw [eh] at eA
      refine ⟨_, rfl, .inl ⟨rfl, _, SqL.of fa.lst⟩, _, rfl, _, rfl, _, _, rfl, rfl, d0, _, rfl, len2, fun t ht => ?_⟩
      refine ⟨t, (h / d, d), rfl, SqT.of upd_same, bds (by dsimp only; omega), bds (by dsimp only; omega), fun H5 ta s5 hta => ?_⟩
      have fa5 := fa.on ((same_upd (o := .tup [.int (h / d), .int d]) ht).trans s5)
      have len := fa.trs.len
      have l1 := upto_len (f := leB N) (c := 1) (leB_len N) n
      have l2 := upto_len (f := leA N) (c := 1) (leA_len N) (rti N).toNat
      rw [List.length_append] at len
      refine ⟨fo, _, _, rfl, rfl, fa5.lst, by rw [sizeLine_eq]; omega, ?_⟩
      exact ⟨_, rfl, _, _, rfl, rfl, next _ _ (by rw [eA]; exact fa5.add hta)⟩
/-! ### _law_root -/
def sp_law_root : Sp := fun vs H Q _ => ∃ N : Int, vs = [.int N] ∧ 0 ≤ N ∧ N ≤ 2000000 ∧ ∀ H', Same H H' → Q (.int (rti N)) H'
theorem ok__law_root (D : Is K mg "_law_root" s__law_root ["_law_number_here"]) : Has P w K mg base 1 "_law_root" ["_law_number_here"] sp_law_root := by
  obtain ⟨f, fd, F, b, g⟩ := D
  refine ⟨f, fd, F.ok sc__law_root (fun vs H Q E h => ?_) (fun cdv A outer s H vs Q E hr h => ?_), F.kp, b, g⟩
  · obtain ⟨N, rfl, _⟩ := h
    rfl
  · obtain ⟨N, rfl, h1, h2, q⟩ := h
    refine ⟨_, (pss_cons (ps_asg (pe_tup (pa_cons pe_int (pa_cons pe_int pa_nil))) (pg_tup rfl (pgs_cons (pg_name (i := 1) sc__law_root.nd rfl (Or.inl rfl)) (pgs_cons (pg_name (i := 2) sc__law_root.nd rfl (Or.inl rfl)) pgs_nil)))) (pss_cons (ps_while PassesOwn.never (pt_cmpR op_le (pe_op op_mulX (pv 2) (pv 2)) (pv 0) (nomark _)) (pss_one (ps_set (i := 2) sc__law_root.nd rfl (Or.inl rfl) (pe_op op_mul pe_int (pv 2))))) (pss_cons (ps_while PassesOwn.never (pt_cmpR op_gt (pe_op op_sub (pv 2) (pv 1)) pe_int (nomark _)) (pss_cons (ps_set (i := 3) sc__law_root.nd rfl (Or.inl rfl) (pe_op op_fdiv (pe_op op_add (pv 1) (pv 2)) pe_int)) (pss_one (ps_asg (pe_ifExp (pt_cmpR op_le (pe_op op_mulX (pv 3) (pv 3)) (pv 0) (nomark _)) (pe_tup (pa_cons (pv 3) (pa_cons (pv 2) pa_nil))) (pe_tup (pa_cons (pv 1) (pa_cons (pv 3) pa_nil)))) (pg_tup rfl (pgs_cons (pg_name (i := 1) sc__law_root.nd rfl (Or.inl rfl)) (pgs_cons (pg_name (i := 2) sc__law_root.nd rfl (Or.inl rfl)) pgs_nil))))))) (pss_one (ps_ret (pv 1)))))), ?_⟩
    have hs := rti_small (N := N) (by omega) h2
    refine ⟨len2, fun tt htt => ⟨_, _, rfl, SqT.of upd_same, rfl, _, _, rfl, _, _, rfl, rfl, ?_⟩⟩
    have s0 := same_upd (o := .tup [.int 0, .int 1]) htt
    generalize upd H tt (.tup [.int 0, .int 1]) = H0 at *
    refine ⟨fun k σ H' => ∃ hi : Int, σ = [some (.int N), some (.int 0), some (.int hi), none] ∧ k = (4001 - hi).toNat ∧ 1 ≤ hi ∧ hi ≤ 4000 ∧ H' = H0, ⟨_, 1, rfl, rfl, by decide, by decide, rfl⟩, ?_⟩
    rintro k σ H' ⟨hi, rfl, rfl, g1, g2, rfl⟩
    refine ⟨_, rfl, _, rfl, _, _, rfl, rfl, mxs (by omega), _, rfl, _, _, rfl, rfl, _, rfl, if_b (fun c => ?_) (fun c => ?_)⟩
    · have c := of_decide_eq_true c
      have := le_rti h1 c
      exact ⟨fun σ' H2 => ∃ k', k' < (4001 - hi).toNat ∧ ∃ hi : Int, σ' = [some (.int N), some (.int 0), some (.int hi), none] ∧ k' = (4001 - hi).toNat ∧ 1 ≤ hi ∧ hi ≤ 4000 ∧ H2 = H', fun _ _ h => h, _, rfl, _, _, rfl, rfl, .inl ⟨by decide, by decide⟩, (4001 - 2 * hi).toNat, by omega, 2 * hi, rfl, rfl, by omega, by omega, rfl⟩
    · have c := of_decide_eq_false c
      refine ⟨fun k σ H2 => ∃ (lo hi : Int) (x : Option V), σ = [some (.int N), some (.int lo), some (.int hi), x] ∧ k = (hi - lo).toNat ∧ 0 ≤ lo ∧ lo < hi ∧ hi ≤ 4000 ∧ lo * lo ≤ N ∧ N < hi * hi ∧ Same H' H2, ⟨_, 0, hi, none, rfl, rfl, by decide, by omega, g2, by omega, by omega, Same.refl _⟩, ?_⟩
      clear c g1 g2
      rintro k σ H2 ⟨lo, hi, x, rfl, rfl, g1, g2, g3, g4, g5, sm⟩
      refine ⟨_, rfl, _, rfl, _, _, rfl, rfl, _, _, rfl, rfl, _, rfl, if_b (fun c => ?_) (fun c => ?_)⟩
      · have c := of_decide_eq_true c
        refine ⟨fun σ' H3 => ∃ k', k' < (hi - lo).toNat ∧ ∃ (lo hi : Int) (x : Option V), σ' = [some (.int N), some (.int lo), some (.int hi), x] ∧ k' = (hi - lo).toNat ∧ 0 ≤ lo ∧ lo < hi ∧ hi ≤ 4000 ∧ lo * lo ≤ N ∧ N < hi * hi ∧ Same H' H3, fun _ _ h => h, ?_⟩
        refine ⟨_, rfl, _, rfl, _, _, rfl, rfl, _, _, rfl, rfl, ⟨by decide, by decide⟩, ?_⟩
        have hm : lo < (lo + hi) / 2 ∧ (lo + hi) / 2 < hi := by omega
        refine ⟨_, rfl, _, rfl, _, _, rfl, rfl, mxs (by omega), _, rfl, _, _, rfl, rfl, _, rfl, if_b (fun c2 => ?_) (fun c2 => ?_)⟩
        · have c2 := of_decide_eq_true c2
          exact ⟨_, rfl, _, rfl, len2, fun t ht => ⟨_, _, rfl, SqT.of upd_same, rfl, _, _, rfl, _, _, rfl, rfl, (hi - (lo + hi) / 2).toNat, by omega, (lo + hi) / 2, hi, _, rfl, rfl, by omega, by omega, g3, c2, g5, sm.trans (same_upd ht)⟩⟩
        · have c2 := of_decide_eq_false c2
          exact ⟨_, rfl, _, rfl, len2, fun t ht => ⟨_, _, rfl, SqT.of upd_same, rfl, _, _, rfl, _, _, rfl, rfl, ((lo + hi) / 2 - lo).toNat, by omega, lo, (lo + hi) / 2, _, rfl, rfl, by omega, by omega, by omega, g4, Int.not_le.mp c2, sm.trans (same_upd ht)⟩⟩
      · have c := of_decide_eq_false c
        have e : hi = lo + 1 := by omega
        subst e
        refine ⟨_, rfl, ?_⟩
        rw [← rti_uniq g1 g4 g5]
        exact q _ (s0.trans sm)
end
end SqP

namespace SqP
open PySem PySem.Spec PyProof.Rows L2 Sq
section
variable {P : Program} {w : World} {K : PySem.W.Frag} {mg : Str → Option Value} {base : Heap}
/-! ### _law_longest -/
theorem ok__law_longest (B : Bt mg) (D : Is K mg "_law_longest" s__law_longest ["_law_number_here"]) (H__law_root : Has P w K mg base 1 "_law_root" ["_law_number_here"] sp_law_root) (H__law_common : Has P w K mg base 1 "_law_common" ["_law_one", "_law_other"] sp_common) (H__law_triple : Has P w K mg base 1 "_law_triple" ["_law_pair"] (sp_triple_by K)) :
    Has P w K mg base 2 "_law_longest" ["_law_number_here"] (sp_longest_of K) := by
  obtain ⟨f, fd, F, b, g⟩ := D
  obtain ⟨f__law_root, fd__law_root, G__law_root, k__law_root, b__law_root, g__law_root⟩ := H__law_root
  obtain ⟨f__law_common, fd__law_common, G__law_common, k__law_common, b__law_common, g__law_common⟩ := H__law_common
  obtain ⟨f__law_triple, fd__law_triple, G__law_triple, k__law_triple, b__law_triple, g__law_triple⟩ := H__law_triple
  refine ⟨f, fd, F.ok sc__law_longest (fun vs H Q E h => ?_) (fun cdv A outer s H vs Q E hr h => ?_), F.kp, b, g⟩
  · obtain ⟨N, rfl, _⟩ := h
    rfl
  · obtain ⟨N, rfl, h1, h2, q⟩ := h
    refine ⟨_, (pss_cons (ps_par (i := 1) (j := 2) rfl sc__law_longest.nd rfl rfl (by decide) rfl rfl (pa_cons (pe_lst pa_nil) (pa_cons (pe_call G__law_root (hr.mono (by decide)) (by rfl) g__law_root k__law_root b__law_root .nil pass0 (pa_cons (pv 0) pa_nil)) pa_nil)) (by rfl)) (pss_cons (ps_for PassesOwn.never rfl (pi_range2 (by rfl) B.range (pa_cons pe_int (pa_cons (pe_op op_add (pv 2) pe_int) pa_nil))) (pg_name (i := 3) sc__law_longest.nd rfl (Or.inl rfl)) (pss_cons (ps_while PassesOwn.never (pt_cmpR op_gt (pe_op op_add (pe_op op_mulX (pv 2) (pv 2)) (pe_op op_mulX (pv 3) (pv 3))) (pv 0) (nomark _)) (pss_one (ps_set (i := 2) sc__law_longest.nd rfl (Or.inl rfl) (pe_op op_sub (pv 2) pe_int)))) (pss_one (ps_if (PW.pt (pw_and (pt_cmpR op_gt (pv 2) (pv 3) (nomark _)) (pw_and (pt_cmpR op_eq (pe_op op_add (pe_op op_mulX (pv 2) (pv 2)) (pe_op op_mulX (pv 3) (pv 3))) (pv 0) (nomark _)) (pw_and (pt_cmpR op_eq (pe_op op_mod (pe_op op_add (pv 2) (pv 3)) pe_int) pe_int (nomark _)) (pw_and1 (pt_cmpR op_eq (pe_call G__law_common (hr.mono (by decide)) (by rfl) g__law_common k__law_common b__law_common .nil pass0 (pa_cons (pv 2) (pa_cons (pv 3) pa_nil))) pe_int (nomark _))))))) (pss_one (ps_expr (pe_bm PySem.F.plainAttrs_list PySem.F.slot_list_append PySem.F.type_list_append mt_append (pv 1) (pa_cons (pe_call G__law_triple (hr.mono (by decide)) (by rfl) g__law_triple k__law_triple b__law_triple .nil pass0 (pa_cons (pe_tup (pa_cons (pv 2) (pa_cons (pv 3) pa_nil))) pa_nil)) pa_nil)))) pss_nil)))) (pss_one (ps_ret (pe_callB cr_sortedT (by rfl) B.sorted (by decide +kernel) (pa_cons (pv 1) pa_nil)))))), ?_⟩
    have hs := rti_small (N := N) (by omega) h2
    have rp := rti_pos N
    refine ⟨Nat.zero_le _, fun fo nfo => ⟨_, rfl, N, rfl, by omega, h2, fun H1 s1 => ?_⟩⟩
    have fa0 := (FoundAt.start (K := K) nfo).on s1
    refine ⟨_, _, rfl, _, rfl, _, _, rfl, rfl, 1, _, rfl, ⟨by decide, by decide, ?_, ?_⟩, ?_⟩
    · show (-(2 ^ 62) : Int) ≤ rti N + 1
      omega
    · show rti N + 1 < (2 ^ 62 : Int)
      omega
    show ∃ W : Nat → Nat → L2.St → Hp → Prop, _
    refine for_range (lo := 1) (n := (rti N + 1 - 1).toNat) (fun i σ H' => ∃ (xs : List V) (m : Int) (x : Option V), σ = [some (.int N), some (.ref fo), some (.int m), x] ∧ FoundAt K H H' fo xs (upto (lgAt N) i) ∧ rti (N - (i + 1 : Nat) * (i + 1 : Nat)) ≤ m ∧ 0 ≤ m ∧ m ≤ 2000) ⟨[], rti N, none, rfl, fa0, rti_mono' (by show N - 1 * 1 ≤ N; omega), rp, hs⟩ ?_ ?_
    · rintro i σ H' hi ⟨xs, m, x, rfl, fa, hr1, hm, hm2⟩
      have hi2 : ((i + 1 : Nat) : Int) ≤ rti N := by omega
      have e1 : (1 : Int) + (i : Int) = ((i + 1 : Nat) : Int) := by omega
      rw [e1]
      have h0 : 0 ≤ N - ((i + 1 : Nat) : Int) * (i + 1 : Nat) := by
        have a1 := sq_mono (a := ((i + 1 : Nat) : Int)) (b := rti N) (by omega) hi2
        have a2 := rti_le (n := N) (by omega)
        omega
      generalize hd : ((i + 1 : Nat) : Int) = d at *
      refine ⟨fun k2 σ H2 => ∃ m : Int, σ = [some (.int N), some (.ref fo), some (.int m), some (.int d)] ∧ k2 = m.toNat ∧ H2 = H' ∧ rti (N - d * d) ≤ m ∧ 0 ≤ m ∧ m ≤ 2000, ⟨_, m, rfl, rfl, rfl, hr1, hm, hm2⟩, ?_⟩
      clear hr1 hm hm2
      rintro k2 σ H2 ⟨m, rfl, rfl, rfl, hr1, hm, hm2⟩
      refine ⟨_, rfl, _, rfl, _, _, rfl, rfl, mxs (by omega), _, rfl, _, rfl, _, _, rfl, rfl, mxs (by omega), _, _, rfl, rfl, _, rfl, _, _, rfl, rfl, _, rfl, if_b (fun c2 => ?_) (fun c2 => ?_)⟩
      · have c2 := of_decide_eq_true c2
        have d1 := down_m hm hr1 h0 c2
        have := rti_pos (N - d * d)
        exact ⟨fun σ' H3 => ∃ k3, k3 < m.toNat ∧ ∃ m1 : Int, σ' = [some (.int N), some (.ref fo), some (.int m1), some (.int d)] ∧ k3 = m1.toNat ∧ H3 = H2 ∧ rti (N - d * d) ≤ m1 ∧ 0 ≤ m1 ∧ m1 ≤ 2000, fun _ _ h => h, _, rfl, _, _, rfl, rfl, (m - 1).toNat, by omega, m - 1, rfl, rfl, rfl, d1, by omega, by omega⟩
      · have c2 := of_decide_eq_false c2
        have em := stop_m hr1 h0 c2
        have next : ∀ (H4 : Hp) (ys : List V), FoundAt K H H4 fo ys (upto (lgAt N) i ++ lgAt N d) → ∃ (xs : List V) (m2 : Int) (x : Option V), [some (V.int N), some (.ref fo), some (.int m), some (.int d)] = [some (V.int N), some (.ref fo), some (.int m2), x] ∧ FoundAt K H H4 fo xs (upto (lgAt N) (i + 1)) ∧ rti (N - (i + 1 + 1 : Nat) * (i + 1 + 1 : Nat)) ≤ m2 ∧ 0 ≤ m2 ∧ m2 ≤ 2000 := fun H4 ys fa4 => by
          refine ⟨ys, m, _, rfl, by rw [upto, hd]; exact fa4, ?_, hm, hm2⟩
          refine Int.le_trans (rti_mono' ?_) hr1
          have := sq_mono (a := d) (b := ((i + 1 + 1 : Nat) : Int)) (by omega) (by omega)
          omega
        have skip : ¬ (d < m ∧ m * m + d * d = N ∧ (m + d) % 2 = 1 ∧ (Int.gcd m d : Int) = 1) → FoundAt K H H2 fo xs (upto (lgAt N) i ++ lgAt N d) := fun z => by
          have e : lgAt N d = [] := by
            unfold lgAt
            rw [← em]
            refine if_neg fun y => ?_
            rw [Bool.and_eq_true] at y
            exact z ⟨of_decide_eq_true y.1, lgOk_iff.mp y.2⟩
          rw [e, List.append_nil]
          exact fa
        refine ⟨_, rfl, _, rfl, _, _, rfl, rfl, _, rfl, if_b (fun c0 => ?_) (fun c0 => iteF (next _ _ (skip fun z => of_decide_eq_false c0 z.1)))⟩
        have lt := of_decide_eq_true c0
        refine ⟨_, rfl, _, rfl, _, _, rfl, rfl, mxs (by omega), _, rfl, _, rfl, _, _, rfl, rfl, mxs (by omega), _, _, rfl, rfl, _, rfl, rfl, _, rfl, ?_⟩
        rw [dec_vint]
        refine if_b (fun c3 => ?_) (fun c3 => iteF (next _ _ (skip fun z => of_decide_eq_false c3 z.2.1)))
        have c3 := of_decide_eq_true c3
        refine ⟨_, rfl, _, rfl, _, _, rfl, rfl, _, _, rfl, rfl, (by decide : (0 : Int) < 2), rfl, _, rfl, ?_⟩
        rw [dec_vint]
        refine if_b (fun c4 => ?_) (fun c4 => iteF (next _ _ (skip fun z => of_decide_eq_false c4 z.2.2.1)))
        have c4 := of_decide_eq_true c4
        refine ⟨_, rfl, _, rfl, m, d, rfl, hm, by omega, rfl, _, rfl, ?_⟩
        rw [dec_vint]
        refine if_b (fun c5 => ?_) (fun c5 => next _ _ (skip fun z => of_decide_eq_false c5 z.2.2.2))
        have c5 := of_decide_eq_true c5
        have eA : lgAt N d = [tri (m, d)] := by
          unfold lgAt
          rw [← em, lgOk_iff.mpr ⟨c3, c4, c5⟩, decide_eq_true lt]
          rfl
        refine ⟨_, rfl, .inl ⟨rfl, _, SqL.of fa.lst⟩, _, rfl, _, rfl, len2, fun t ht => ?_⟩
        refine ⟨t, (m, d), rfl, SqT.of upd_same, bds (by dsimp only; omega), bds (by dsimp only; omega), fun H5 ta s5 hta => ?_⟩
        have fa5 := fa.on ((same_upd (o := .tup [.int m, .int d]) ht).trans s5)
        have len := fa.trs.len
        have len2 := upto_len (f := lgAt N) (c := 1) (lgAt_len N) i
        refine ⟨fo, _, _, rfl, rfl, fa5.lst, by rw [sizeLine_eq]; omega, ?_⟩
        exact next _ _ (by rw [eA]; exact fa5.add hta)
    · rintro σ H' ⟨xs, m, x, rfl, fa, hr1, hm, hm2⟩
      rw [show (rti N + 1 - 1).toNat = (rti N).toNat by omega] at fa
      exact ⟨_, rfl, found_end fa q⟩
/-! ### _law_legs -/
theorem ok__law_legs (B : Bt mg) (hN : base.NoSeer) (ht : P.given.tree = none) (D : Is K mg "_law_legs" s__law_legs ["_law_number_here"]) (H__law_root : Has P w K mg base 1 "_law_root" ["_law_number_here"] sp_law_root) (H__law_common : Has P w K mg base 1 "_law_common" ["_law_one", "_law_other"] sp_common) (H__law_triple : Has P w K mg base 1 "_law_triple" ["_law_pair"] (sp_triple_by K)) :
    Has P w K mg base 33 "_law_legs" ["_law_number_here"] (sp_legs_of K) := by
  obtain ⟨f, fd, F, b, g⟩ := D
  obtain ⟨f__law_root, fd__law_root, G__law_root, k__law_root, b__law_root, g__law_root⟩ := H__law_root
  obtain ⟨f__law_common, fd__law_common, G__law_common, k__law_common, b__law_common, g__law_common⟩ := H__law_common
  obtain ⟨f__law_triple, fd__law_triple, G__law_triple, k__law_triple, b__law_triple, g__law_triple⟩ := H__law_triple
  refine ⟨f, fd, F.ok sc__law_legs (fun vs H Q E h => ?_) (fun cdv A outer s H vs Q E hr h => ?_), F.kp, b, g⟩
  · obtain ⟨N, rfl, _⟩ := h
    rfl
  · obtain ⟨N, rfl, h1, h2, q⟩ := h
    have hd : (A.deeper (envOfC "_law_legs" (defScope s__law_legs) s.heap.objs.size f cdv)).depth + 100 < recursionLimit := by
      have := hr.dp
      omega
    refine ⟨_, (pss_cons (ps_set (i := 1) sc__law_legs.nd rfl (Or.inl rfl) (pe_lst pa_nil)) (pss_cons (ps_for PassesOwn.never rfl (pi_range2 (by rfl) B.range (pa_cons pe_int (pa_cons (pe_op op_add (pe_call G__law_root (hr.mono (by decide)) (by rfl) g__law_root k__law_root b__law_root .nil pass0 (pa_cons (pv 0) pa_nil)) pe_int) pa_nil))) (pg_name (i := 2) sc__law_legs.nd rfl (Or.inl rfl)) (pss_cons (ps_set (i := 3) sc__law_legs.nd rfl (Or.inl rfl) (pe_op (op_fdivP (l := outer) hN ht rfl rfl rfl hd) (pv 0) (pv 2))) (C8.pss_cut (ps_if (PW.pt (pw_and (pt_cmpR op_eq (pe_op op_mod (pv 0) (pv 2)) pe_int (nomark _)) (pw_and (pt_cmpR op_lt (pv 2) (pv 3) (nomark _)) (pw_and (pt_cmpR op_eq (pe_call G__law_common (hr.mono (by decide)) (by rfl) g__law_common k__law_common b__law_common .nil pass0 (pa_cons (pv 2) (pa_cons (pv 3) pa_nil))) pe_int (nomark _)) (pw_and1 (pt_cmpR op_eq (pe_op op_mod (pv 0) pe_int) pe_int (nomark _))))))) (pss_one (ps_expr (pe_bm PySem.F.plainAttrs_list PySem.F.slot_list_append PySem.F.type_list_append mt_append (pv 1) (pa_cons (pe_call G__law_triple (hr.mono (by decide)) (by rfl) g__law_triple k__law_triple b__law_triple .nil pass0 (pa_cons (pe_tup (pa_cons (pe_op op_fdiv (pe_op op_add (pv 3) (pv 2)) pe_int) (pa_cons (pe_op op_fdiv (pe_op op_sub (pv 3) (pv 2)) pe_int) pa_nil))) pa_nil)) pa_nil)))) pss_nil) (pss_cons (ps_set (i := 4) sc__law_legs.nd rfl (Or.inl rfl) (pe_op (op_fdivP (l := outer) hN ht rfl rfl rfl hd) (pe_op op_fdiv (pv 0) pe_int) (pv 2))) (pss_one (ps_if (PW.pt (pw_and (pt_cmpR op_eq (pe_op op_mod (pv 0) pe_int) pe_int (nomark _)) (pw_and (pt_cmpR op_eq (pe_op op_mod (pe_op op_fdiv (pv 0) pe_int) (pv 2)) pe_int (nomark _)) (pw_and (pt_cmpR op_lt (pv 2) (pv 4) (nomark _)) (pw_and1 (pt_cmpR op_eq (pe_call G__law_common (hr.mono (by decide)) (by rfl) g__law_common k__law_common b__law_common .nil pass0 (pa_cons (pv 2) (pa_cons (pv 4) pa_nil))) pe_int (nomark _))))))) (pss_one (ps_expr (pe_bm PySem.F.plainAttrs_list PySem.F.slot_list_append PySem.F.type_list_append mt_append (pv 1) (pa_cons (pe_call G__law_triple (hr.mono (by decide)) (by rfl) g__law_triple k__law_triple b__law_triple .nil pass0 (pa_cons (pe_tup (pa_cons (pv 4) (pa_cons (pv 2) pa_nil))) pa_nil)) pa_nil)))) pss_nil)))))) (pss_one (ps_ret (pe_callB cr_sortedT (by rfl) B.sorted (by decide +kernel) (pa_cons (pv 1) pa_nil)))))), ?_⟩
    have hs := rti_small (N := N) (by omega) h2
    have rp := rti_pos N
    refine ⟨Nat.zero_le _, fun fo nfo => ⟨_, rfl, N, rfl, by omega, h2, fun H1 s1 => ?_⟩⟩
    have fa0 := (FoundAt.start (K := K) nfo).on s1
    refine ⟨_, _, rfl, rfl, 1, _, rfl, ⟨by decide, by decide, ?_, ?_⟩, ?_⟩
    · show (-(2 ^ 62) : Int) ≤ rti N + 1
      omega
    · show rti N + 1 < (2 ^ 62 : Int)
      omega
    show ∃ W : Nat → Nat → L2.St → Hp → Prop, _
    refine for_range (lo := 1) (n := (rti N + 1 - 1).toNat) (fun i σ H' => ∃ (xs : List V) (x y z : Option V), σ = [some (.int N), some (.ref fo), x, y, z] ∧ FoundAt K H H' fo xs (upto (fun p => leA N p ++ leB N p) i)) ⟨[], _, _, _, rfl, fa0⟩ ?_ ?_
    · rintro i σ H' hi ⟨xs, x, y, z, rfl, fa⟩
      have hi2 : ((i + 1 : Nat) : Int) ≤ rti N := by omega
      have e1 : (1 : Int) + (i : Int) = ((i + 1 : Nat) : Int) := by omega
      rw [e1]
      have next : ∀ (H4 : Hp) (ys : List V) (u v z : Option V), FoundAt K H H4 fo ys (upto (fun p => leA N p ++ leB N p) i ++ (leA N (i + 1 : Nat) ++ leB N (i + 1 : Nat))) → ∃ (xs : List V) (x y w : Option V), [some (V.int N), some (.ref fo), u, v, z] = [some (.int N), some (.ref fo), x, y, w] ∧ FoundAt K H H4 fo xs (upto (fun p => leA N p ++ leB N p) (i + 1)) := fun H4 ys u v z fa4 => ⟨ys, u, v, z, rfl, by rw [upto]; exact fa4⟩
      have len2 := upto_len (f := fun p => leA N p ++ leB N p) (c := 2) (le_len N) i
      generalize hd : ((i + 1 : Nat) : Int) = d at *
      have d0 : 0 < d := by omega
      obtain ⟨o1, o2⟩ := div_rng (N := N) (p := d) (by omega) d0
      obtain ⟨o3, o4⟩ := div_rng (N := N / 2) (p := d) (by omega) d0
      refine ⟨_, rfl, _, rfl, _, _, rfl, rfl, d0, ?_⟩
      have finA : leA N d = [] → FoundAt K H H' fo xs (upto (fun p => leA N p ++ leB N p) i ++ leA N d) := fun z => by
        rw [z, List.append_nil]
        exact fa
      refine ⟨fun σ H4 => ∃ ys, σ = [some (.int N), some (.ref fo), some (.int d), some (.int (N / d)), z] ∧ FoundAt K H H4 fo ys (upto (fun p => leA N p ++ leB N p) i ++ leA N d), ?_, ?_⟩
      · refine ⟨_, rfl, _, rfl, _, _, rfl, rfl, d0, rfl, _, rfl, ?_⟩
        rw [dec_vint]
        refine if_b (fun c1 => ?_) (fun c1 => iteF ⟨xs, rfl, finA (leA_no fun z => of_decide_eq_false c1 z.1)⟩)
        have c1 := of_decide_eq_true c1
        refine ⟨_, rfl, _, rfl, _, _, rfl, rfl, _, rfl, if_b (fun c2 => ?_) (fun c2 => iteF ⟨xs, rfl, finA (leA_no fun z => of_decide_eq_false c2 z.2.1)⟩)⟩
        have c2 := of_decide_eq_true c2
        refine ⟨_, rfl, _, rfl, d, N / d, rfl, by omega, o1, rfl, _, rfl, ?_⟩
        rw [dec_vint]
        refine if_b (fun c3 => ?_) (fun c3 => iteF ⟨xs, rfl, finA (leA_no fun z => of_decide_eq_false c3 z.2.2.1)⟩)
        have c3 := of_decide_eq_true c3
        refine ⟨_, rfl, _, _, rfl, rfl, (by decide : (0 : Int) < 2), rfl, _, rfl, ?_⟩
        rw [dec_vint]
        refine if_b (fun c4 => ?_) (fun c4 => ⟨xs, rfl, finA (leA_no fun z => of_decide_eq_false c4 z.2.2.2)⟩)
        have c4 := of_decide_eq_true c4
        have eA := leA_yes c1 c2 c3 c4
        refine ⟨_, rfl, .inl ⟨rfl, _, SqL.of fa.lst⟩, _, rfl, _, rfl, _, _, rfl, rfl, _, _, rfl, rfl, ⟨by decide, by decide⟩, _, rfl, _, rfl, _, _, rfl, rfl, _, _, rfl, rfl, ⟨by decide, by decide⟩, SqP.len2, fun t ht => ?_⟩
        refine ⟨t, ((N / d + d) / 2, (N / d - d) / 2), rfl, SqT.of upd_same, bds (by dsimp only; omega), bds (by dsimp only; omega), fun H5 ta s5 hta => ?_⟩
        have fa5 := fa.on ((same_upd (o := .tup [.int ((N / d + d) / 2), .int ((N / d - d) / 2)]) ht).trans s5)
        have len := fa.trs.len
        refine ⟨fo, _, _, rfl, rfl, fa5.lst, by rw [sizeLine_eq]; omega, xs ++ [.ref ta], rfl, ?_⟩
        rw [eA]
        exact fa5.add hta
      · clear finA fa xs
        rintro σ H4 ⟨xs, rfl, fa⟩
        have len := fa.trs.len
        have lA := leA_len N d
        rw [List.length_append] at len
        have finB : leB N d = [] → FoundAt K H H4 fo xs (upto (fun p => leA N p ++ leB N p) i ++ (leA N d ++ leB N d)) := fun z => by
          rw [z, List.append_nil]
          exact fa
        refine ⟨_, rfl, _, _, rfl, rfl, ⟨by decide, by decide⟩, _, rfl, _, _, rfl, rfl, d0, ?_⟩
        refine ⟨_, rfl, _, _, rfl, rfl, (by decide : (0 : Int) < 4), rfl, _, rfl, ?_⟩
        rw [dec_vint]
        refine if_b (fun c1 => ?_) (fun c1 => iteF (next _ xs _ _ _ (finB (leB_no fun z => of_decide_eq_false c1 z.1))))
        have c1 := of_decide_eq_true c1
        refine ⟨_, rfl, _, _, rfl, rfl, ⟨by decide, by decide⟩, _, rfl, _, _, rfl, rfl, d0, rfl, _, rfl, ?_⟩
        rw [dec_vint]
        refine if_b (fun c2 => ?_) (fun c2 => iteF (next _ xs _ _ _ (finB (leB_no fun z => of_decide_eq_false c2 z.2.1))))
        have c2 := of_decide_eq_true c2
        refine ⟨_, rfl, _, rfl, _, _, rfl, rfl, _, rfl, if_b (fun c3 => ?_) (fun c3 => iteF (next _ xs _ _ _ (finB (leB_no fun z => of_decide_eq_false c3 z.2.2.1))))⟩
        have c3 := of_decide_eq_true c3
        refine ⟨_, rfl, _, rfl, d, N / 2 / d, rfl, by omega, o3, rfl, _, rfl, ?_⟩
        rw [dec_vint]
        refine if_b (fun c4 => ?_) (fun c4 => next _ xs _ _ _ (finB (leB_no fun z => of_decide_eq_false c4 z.2.2.2)))
        have c4 := of_decide_eq_true c4
        have eB := leB_yes c1 c2 c3 c4
        refine ⟨_, rfl, .inl ⟨rfl, _, SqL.of fa.lst⟩, _, rfl, _, rfl, SqP.len2, fun t ht => ?_⟩
        refine ⟨t, (N / 2 / d, d), rfl, SqT.of upd_same, bds (by dsimp only; omega), bds (by dsimp only; omega), fun H5 ta s5 hta => ?_⟩
        have fa5 := fa.on ((same_upd (o := .tup [.int (N / 2 / d), .int d]) ht).trans s5)
        refine ⟨fo, _, _, rfl, rfl, fa5.lst, by rw [sizeLine_eq]; omega, next _ (xs ++ [.ref ta]) _ _ _ ?_⟩
        rw [eB, ← List.append_assoc]
        exact fa5.add hta
    · rintro σ H' ⟨xs, x, y, z, rfl, fa⟩
      rw [show (rti N + 1 - 1).toNat = (rti N).toNat by omega] at fa
      exact ⟨_, rfl, found_end fa q⟩
end
end SqP

namespace SqP
open PySem PySem.Spec PyProof.Rows L2 Sq
abbrev s_Longest_init : Stmt := inClass (topS 9) 0
theorem sc_Longest_init : FnScope ["self", "triples"] ["self", "triples"] (defScope s_Longest_init) := ⟨rfl, rfl, rfl, by decide +kernel, rfl, by decide +kernel, by decide +kernel⟩
abbrev s_Longest_shows : Stmt := inClass (topS 9) 1
theorem sc_Longest_shows : FnScope ["self", "number"] ["self", "number"] (defScope s_Longest_shows) := ⟨rfl, rfl, rfl, by decide +kernel, rfl, by decide +kernel, by decide +kernel⟩
abbrev s_Leg_init : Stmt := inClass (topS 10) 0
theorem sc_Leg_init : FnScope ["self", "triples"] ["self", "triples"] (defScope s_Leg_init) := ⟨rfl, rfl, rfl, by decide +kernel, rfl, by decide +kernel, by decide +kernel⟩
abbrev s_Leg_shows : Stmt := inClass (topS 10) 1
theorem sc_Leg_shows : FnScope ["self", "number"] ["self", "number"] (defScope s_Leg_shows) := ⟨rfl, rfl, rfl, by decide +kernel, rfl, by decide +kernel, by decide +kernel⟩
abbrev s_Barred_init : Stmt := inClass (topS 11) 0
theorem sc_Barred_init : FnScope ["self", "prime"] ["self", "prime"] (defScope s_Barred_init) := ⟨rfl, rfl, rfl, by decide +kernel, rfl, by decide +kernel, by decide +kernel⟩
abbrev s_Barred_shows : Stmt := inClass (topS 11) 1
theorem sc_Barred_shows : FnScope ["self", "number", "part"] ["self", "number"] (defScope s_Barred_shows) := ⟨rfl, rfl, rfl, by decide +kernel, rfl, by decide +kernel, by decide +kernel⟩
abbrev s_Halved_shows : Stmt := inClass (topS 12) 0
theorem sc_Halved_shows : FnScope ["self", "number"] ["self", "number"] (defScope s_Halved_shows) := ⟨rfl, rfl, rfl, by decide +kernel, rfl, by decide +kernel, by decide +kernel⟩
abbrev s__law_is_prime : Stmt := topS 22
theorem sc__law_is_prime : FnScope ["_law_number_here", "_law_part"] ["_law_number_here"] (defScope s__law_is_prime) := ⟨rfl, rfl, rfl, by decide +kernel, rfl, by decide +kernel, by decide +kernel⟩
abbrev s__law_bars : Stmt := topS 23
theorem sc__law_bars : FnScope ["_law_number_here", "_law_prime"] ["_law_number_here", "_law_prime"] (defScope s__law_bars) := ⟨rfl, rfl, rfl, by decide +kernel, rfl, by decide +kernel, by decide +kernel⟩
abbrev s__law_number : Stmt := topS 24
theorem sc__law_number : FnScope ["_law_script", "_law_k", "_law_cell", "_law_drawn", "_law_kind", "_law_found", "_law_turn"] ["_law_script", "_law_k"] (defScope s__law_number) := ⟨rfl, rfl, rfl, by decide +kernel, rfl, by decide +kernel, by decide +kernel⟩
abbrev s__law_says : Stmt := topS 25
theorem sc__law_says : FnScope ["_law_said", "_law_due"] ["_law_said", "_law_due"] (defScope s__law_says) := ⟨rfl, rfl, rfl, by decide +kernel, rfl, by decide +kernel, by decide +kernel⟩
section
variable {P : Program} {w : World} {K : PySem.W.Frag} {mg : Str → Option Value} {base : Heap}
/-! ### answers that keep a list -/
def sp_keeps (K : PySem.W.Frag) (C : Addr) : Sp := fun vs H Q _ => ∃ (p dx a : Addr) (xs : List V), vs = [.ref p, .ref a] ∧ H p = some (.ins C dx []) ∧ SqL K H a xs ∧ ∀ l, H l = none → Q .non (upd (upd H l (.lst xs)) p (.ins C dx [("triples", .ref l)]))
theorem ok_Longest_init (B : Bt mg) {C : Addr} (c : KC K mg "Longest" C) (nT : NoAttr K C "triples") (D : IsM K C "__init__" "Longest.__init__" s_Longest_init ["self", "triples"]) : HasM P w K mg base 1 C "__init__" ["self", "triples"] (sp_keeps K C) := by
  obtain ⟨f, fd, F, b, m⟩ := D
  refine ⟨f, fd, F.ok sc_Longest_init (fun vs H Q E h => ?_) (fun cdv A outer s H vs Q E hr h => ?_), b, m⟩
  · obtain ⟨p, dx, a, xs, rfl, _⟩ := h
    rfl
  · obtain ⟨p, dx, a, xs, rfl, hp, hS, q⟩ := h
    refine ⟨_, (pss_one (ps_fld (pv 0) (pe_callTy call_list_of (by rfl) B.list (by decide +kernel) (pa_cons (pv 1) pa_nil)) rfl)), ?_⟩
    refine ⟨_, rfl, a, xs, rfl, .inl hS, fun l hl => ?_⟩
    exact ⟨_, rfl, p, C, dx, [], rfl, by rw [upd_ne (ne_of_none hp hl)]; exact hp, c.cl, nT, by decide, q l hl⟩
theorem ok_Leg_init (B : Bt mg) {C : Addr} (c : KC K mg "Leg" C) (nT : NoAttr K C "triples") (D : IsM K C "__init__" "Leg.__init__" s_Leg_init ["self", "triples"]) : HasM P w K mg base 1 C "__init__" ["self", "triples"] (sp_keeps K C) := by
  obtain ⟨f, fd, F, b, m⟩ := D
  refine ⟨f, fd, F.ok sc_Leg_init (fun vs H Q E h => ?_) (fun cdv A outer s H vs Q E hr h => ?_), b, m⟩
  · obtain ⟨p, dx, a, xs, rfl, _⟩ := h
    rfl
  · obtain ⟨p, dx, a, xs, rfl, hp, hS, q⟩ := h
    refine ⟨_, (pss_one (ps_fld (pv 0) (pe_callTy call_list_of (by rfl) B.list (by decide +kernel) (pa_cons (pv 1) pa_nil)) rfl)), ?_⟩
    refine ⟨_, rfl, a, xs, rfl, .inl hS, fun l hl => ?_⟩
    exact ⟨_, rfl, p, C, dx, [], rfl, by rw [upd_ne (ne_of_none hp hl)]; exact hp, c.cl, nT, by decide, q l hl⟩
/-- an answer with a list, its triples -/
structure AnsAt (K : PySem.W.Frag) (H : Hp) (p C : Addr) (xs : List V) (L : List Tr) : Prop where
  ex : ∃ dx l, H p = some (.ins C dx [("triples", .ref l)]) ∧ H l = some (.lst xs)
  trs : TrS K H xs L
theorem AnsAt.on {H H' : Hp} {p C : Addr} {xs : List V} {L : List Tr} (h : AnsAt K H p C xs L) (s : Same H H') : AnsAt K H' p C xs L := by
  obtain ⟨⟨dx, l, h1, h2⟩, h3⟩ := h
  exact ⟨⟨dx, l, s _ _ h1, s _ _ h2⟩, h3.same s⟩
def sp_shows_list (K : PySem.W.Frag) (C : Addr) (g : Int → List Tr) : Sp := fun vs H Q _ => ∃ (p : Addr) (xs : List V) (L : List Tr) (N : Int), vs = [.ref p, .int N] ∧ AnsAt K H p C xs L ∧ 1 ≤ N ∧ N ≤ 2000000 ∧ ∀ H', Same H H' → Q (.bl (decide (L ≠ []) && decide (L = srt (g N)))) H'
theorem look_triples (l : Addr) : ([("triples", V.ref l)] : List (Str × V)).lookup ("triples" : Str) = some (.ref l) := by
  rw [List.lookup_cons_self]
theorem ok_Longest_shows (B : Bt mg) {C : Addr} (c : KC K mg "Longest" C) (nT : NoAttr K C "triples") (D : IsM K C "shows" "Longest.shows" s_Longest_shows ["self", "number"]) (H_longest_of : Has P w K mg base 34 "longest_of" ["number"] (sp_longest_of K)) : HasM P w K mg base 35 C "shows" ["self", "number"] (sp_shows_list K C lgL) := by
  obtain ⟨f, fd, F, b, m⟩ := D
  obtain ⟨f_longest_of, fd_longest_of, G_longest_of, k_longest_of, b_longest_of, g_longest_of⟩ := H_longest_of
  refine ⟨f, fd, F.ok sc_Longest_shows (fun vs H Q E h => ?_) (fun cdv A outer s H vs Q E hr h => ?_), b, m⟩
  · obtain ⟨p, xs, L, N, rfl, _⟩ := h
    rfl
  · obtain ⟨p, xs, L, N, rfl, ⟨⟨dx, l, h1, h2⟩, h3⟩, n1, n2, q⟩ := h
    refine ⟨_, (pss_one (ps_ret (pe_and (pe_cmpR op_gt (pe_callB call_len_seq (by rfl) B.len PySem.boot_len (pa_cons (pe_fld (pv 0) rfl) pa_nil)) pe_int (nomark _)) (pe_one (pe_cmpR (op_eqD hr.units) (pe_fld (pv 0) rfl) (pe_call G_longest_of (hr.mono (by decide)) (by rfl) g_longest_of k_longest_of b_longest_of .nil pass0 (pa_cons (pv 1) pa_nil)) (nomark _)))))), ?_⟩
    refine ⟨_, rfl, p, C, dx, _, _, rfl, h1, c.cl, nT, look_triples l, l, _, rfl, .inl (SqL.of h2), _, _, rfl, rfl, _, rfl, ?_⟩
    have el : decide ((0 : Int) < (xs.length : Int)) = decide (L ≠ []) := by
      rw [h3.len]
      cases L <;> simp
    rw [el]
    refine if_b (fun c1 => ?_) (fun c1 => ?_)
    · refine ⟨_, rfl, p, C, dx, _, _, rfl, h1, c.cl, nT, look_triples l, _, rfl, N, rfl, n1, n2, fun H1 r ys s1 hr ht => ?_⟩
      refine ⟨_, _, trs_dp (SqL.of (s1 _ _ h2)) (h3.same s1), trs_dp (SqL.of hr) ht, trs_shaped _, trs_shaped _, ?_⟩
      rw [trl_eqv]
      have := q H1 s1
      rw [c1, Bool.true_and] at this
      exact this
    · have := q H (Same.refl H)
      rw [c1, Bool.false_and] at this
      exact this
theorem ok_Leg_shows (B : Bt mg) {C : Addr} (c : KC K mg "Leg" C) (nT : NoAttr K C "triples") (D : IsM K C "shows" "Leg.shows" s_Leg_shows ["self", "number"]) (H_legs_of : Has P w K mg base 33 "legs_of" ["number"] (sp_legs_of K)) : HasM P w K mg base 35 C "shows" ["self", "number"] (sp_shows_list K C leL) := by
  obtain ⟨f, fd, F, b, m⟩ := D
  obtain ⟨f_legs_of, fd_legs_of, G_legs_of, k_legs_of, b_legs_of, g_legs_of⟩ := H_legs_of
  refine ⟨f, fd, F.ok sc_Leg_shows (fun vs H Q E h => ?_) (fun cdv A outer s H vs Q E hr h => ?_), b, m⟩
  · obtain ⟨p, xs, L, N, rfl, _⟩ := h
    rfl
  · obtain ⟨p, xs, L, N, rfl, ⟨⟨dx, l, h1, h2⟩, h3⟩, n1, n2, q⟩ := h
    refine ⟨_, (pss_one (ps_ret (pe_and (pe_cmpR op_gt (pe_callB call_len_seq (by rfl) B.len PySem.boot_len (pa_cons (pe_fld (pv 0) rfl) pa_nil)) pe_int (nomark _)) (pe_one (pe_cmpR (op_eqD hr.units) (pe_fld (pv 0) rfl) (pe_call G_legs_of (hr.mono (by decide)) (by rfl) g_legs_of k_legs_of b_legs_of .nil pass0 (pa_cons (pv 1) pa_nil)) (nomark _)))))), ?_⟩
    refine ⟨_, rfl, p, C, dx, _, _, rfl, h1, c.cl, nT, look_triples l, l, _, rfl, .inl (SqL.of h2), _, _, rfl, rfl, _, rfl, ?_⟩
    have el : decide ((0 : Int) < (xs.length : Int)) = decide (L ≠ []) := by
      rw [h3.len]
      cases L <;> simp
    rw [el]
    refine if_b (fun c1 => ?_) (fun c1 => ?_)
    · refine ⟨_, rfl, p, C, dx, _, _, rfl, h1, c.cl, nT, look_triples l, _, rfl, N, rfl, n1, n2, fun H1 r ys s1 hr ht => ?_⟩
      refine ⟨_, _, trs_dp (SqL.of (s1 _ _ h2)) (h3.same s1), trs_dp (SqL.of hr) ht, trs_shaped _, trs_shaped _, ?_⟩
      rw [trl_eqv]
      have := q H1 s1
      rw [c1, Bool.true_and] at this
      exact this
    · have := q H (Same.refl H)
      rw [c1, Bool.false_and] at this
      exact this
/-! ### Barred, Halved -/
def sp_barred (C : Addr) : Sp := fun vs H Q _ => ∃ (p dx : Addr) (v : V), vs = [.ref p, v] ∧ H p = some (.ins C dx []) ∧ Q .non (upd H p (.ins C dx [("prime", v)]))
theorem ok_Barred_init {C : Addr} (c : KC K mg "Barred" C) (nP : NoAttr K C "prime") (D : IsM K C "__init__" "Barred.__init__" s_Barred_init ["self", "prime"]) : HasM P w K mg base 1 C "__init__" ["self", "prime"] (sp_barred C) := by
  obtain ⟨f, fd, F, b, m⟩ := D
  refine ⟨f, fd, F.ok sc_Barred_init (fun vs H Q E h => ?_) (fun cdv A outer s H vs Q E hr h => ?_), b, m⟩
  · obtain ⟨p, dx, v, rfl, _⟩ := h
    rfl
  · obtain ⟨p, dx, v, rfl, hp, q⟩ := h
    refine ⟨_, (pss_one (ps_fld (pv 0) (pv 1) rfl)), ?_⟩
    exact ⟨_, rfl, _, rfl, p, C, dx, [], rfl, hp, c.cl, nP, by decide, q⟩
theorem look_prime (v : V) : ([("prime", v)] : List (Str × V)).lookup ("prime" : Str) = some v := by
  rw [List.lookup_cons_self]
def sp_shows_barred (C : Addr) : Sp := fun vs H Q _ => ∃ (p dx : Addr) (x N : Int), vs = [.ref p, .int N] ∧ H p = some (.ins C dx [("prime", .int x)]) ∧ 1 ≤ N ∧ N ≤ 2000000 ∧ Q (.bl (brd N x)) H
theorem brd_no {N p : Int} (z : ¬ (2 ≤ p ∧ p ≤ N ∧ N % p = 0 ∧ noDiv p = true ∧ (p = 2 ∨ p % 4 = 3))) : brd N p = false := by
  rcases Bool.eq_false_or_eq_true (brd N p) with h | h
  · unfold brd at h
    rw [Bool.and_eq_true, Bool.and_eq_true, Bool.and_eq_true, Bool.and_eq_true, Bool.or_eq_true, decide_eq_true_iff, decide_eq_true_iff, decide_eq_true_iff, decide_eq_true_iff, decide_eq_true_iff] at h
    exact absurd ⟨h.1.1.1.1, h.1.1.1.2, h.1.1.2, h.1.2, h.2⟩ z
  · exact h
theorem brd_yes {N p : Int} (h1 : 2 ≤ p) (h2 : p ≤ N) (h3 : N % p = 0) (h4 : noDiv p = true) : brd N p = (decide (p = 2) || decide (p % 4 = 3)) := by
  unfold brd
  rw [decide_eq_true h1, decide_eq_true h2, decide_eq_true h3, h4]
  rfl
theorem ok_Barred_shows {C : Addr} (c : KC K mg "Barred" C) (nP : NoAttr K C "prime") (D : IsM K C "shows" "Barred.shows" s_Barred_shows ["self", "number"]) (H_is_whole : Has P w K mg base 1 "is_whole" ["thing"] (sp_is_whole K)) : HasM P w K mg base 2 C "shows" ["self", "number"] (sp_shows_barred C) := by
  obtain ⟨f, fd, F, b, m⟩ := D
  obtain ⟨f_is_whole, fd_is_whole, G_is_whole, k_is_whole, b_is_whole, g_is_whole⟩ := H_is_whole
  refine ⟨f, fd, F.ok sc_Barred_shows (fun vs H Q E h => ?_) (fun cdv A outer s H vs Q E hr h => ?_), b, m⟩
  · obtain ⟨p, dx, x, N, rfl, _⟩ := h
    rfl
  · obtain ⟨p, dx, x, N, rfl, hp, n1, n2, q⟩ := h
    refine ⟨_, (pss_cons (ps_if (PW.pt (pw_or (pt_not (pt_val (pe_call G_is_whole (hr.mono (by decide)) (by rfl) g_is_whole k_is_whole b_is_whole .nil pass0 (pa_cons (pe_fld (pv 0) rfl) pa_nil)))) (pw_or (pt_not (pt_chain op_le op_le pe_int (pe_fld (pv 0) rfl) (pv 1))) (pw_or1 (pt_cmpR op_ne (pe_op op_mod (pv 1) (pe_fld (pv 0) rfl)) pe_int (nomark _)))))) (pss_one (ps_ret pe_bl)) pss_nil) (pss_cons (ps_set (i := 2) sc_Barred_shows.nd rfl (Or.inl rfl) pe_int) (pss_cons (ps_while PassesOwn.never (pt_cmpR op_le (pe_op op_mulX (pv 2) (pv 2)) (pe_fld (pv 0) rfl) (nomark _)) (pss_cons (ps_if (pt_cmpR op_eq (pe_op op_mod (pe_fld (pv 0) rfl) (pv 2)) pe_int (nomark _)) (pss_one (ps_ret pe_bl)) pss_nil) (pss_one (ps_aug (i := 2) sc_Barred_shows.nd rfl (Or.inl rfl) pe_int ip_add)))) (pss_one (ps_ret (pe_or (pe_cmpR op_eq (pe_fld (pv 0) rfl) pe_int (nomark _)) (pe_one (pe_cmpR op_eq (pe_op op_mod (pe_fld (pv 0) rfl) pe_int) pe_int (nomark _))))))))), ?_⟩
    have no : ¬ (2 ≤ x ∧ x ≤ N ∧ N % x = 0 ∧ noDiv x = true ∧ (x = 2 ∨ x % 4 = 3)) → Q (.bl false) H := fun z => by
      rw [brd_no z] at q
      exact q
    refine ⟨_, rfl, p, C, dx, _, _, rfl, hp, c.cl, nP, look_prime _, ⟨_, "int", true, false, rfl, .base (.int _), kb_int_int, kb_int_bool, true, rfl, iteF ?_⟩⟩
    refine ⟨_, rfl, p, C, dx, _, _, rfl, hp, c.cl, nP, look_prime _, _, _, rfl, rfl, _, rfl, if_b (fun c1 => ?_) (fun c1 => ⟨_, rfl, iteT (no fun z => of_decide_eq_false c1 z.1)⟩)⟩
    have c1 := of_decide_eq_true c1
    refine ⟨_, rfl, _, _, rfl, rfl, _, rfl, ?_⟩
    by_cases c2 : x ≤ N
    case neg =>
      rw [decide_eq_false c2]
      exact iteT (no fun z => c2 z.2.1)
    rw [decide_eq_true c2]
    refine iteF ⟨_, rfl, _, rfl, p, C, dx, _, _, rfl, hp, c.cl, nP, look_prime _, _, _, rfl, rfl, (show (0 : Int) < x by omega), rfl, _, rfl, ?_⟩
    rw [dec_vint]
    by_cases c3 : N % x = 0
    case neg =>
      rw [decide_eq_false c3]
      exact iteT (no fun z => c3 z.2.2.1)
    rw [decide_eq_true c3]
    refine iteF ?_
    refine ⟨fun k σ H' => ∃ d : Int, σ = [some (.ref p), some (.int N), some (.int d)] ∧ k = (x + 1 - d).toNat ∧ 2 ≤ d ∧ d ≤ x + 1 ∧ (∀ e : Int, 2 ≤ e → e < d → x % e ≠ 0) ∧ H' = H, ⟨_, 2, rfl, rfl, by decide, by omega, fun e e1 e2 => by omega, rfl⟩, ?_⟩
    rintro k σ H' ⟨d, rfl, rfl, d1, d2, dv, rfl⟩
    refine ⟨_, rfl, _, rfl, _, _, rfl, rfl, mxs (by omega), _, rfl, p, C, dx, _, _, rfl, hp, c.cl, nP, look_prime _, _, _, rfl, rfl, _, rfl, if_b (fun c4 => ?_) (fun c4 => ?_)⟩
    · have c4 := of_decide_eq_true c4
      refine ⟨fun σ' H2 => ∃ k', k' < (x + 1 - d).toNat ∧ ∃ d : Int, σ' = [some (.ref p), some (.int N), some (.int d)] ∧ k' = (x + 1 - d).toNat ∧ 2 ≤ d ∧ d ≤ x + 1 ∧ (∀ e : Int, 2 ≤ e → e < d → x % e ≠ 0) ∧ H2 = H', fun _ _ h => h, ?_⟩
      have dx2 : d ≤ x := by
        have := Int.mul_le_mul_of_nonneg_right (a := 1) (b := d) (c := d) (by omega) (by omega)
        omega
      refine ⟨_, rfl, p, C, dx, _, _, rfl, hp, c.cl, nP, look_prime _, _, rfl, _, _, rfl, rfl, (show (0 : Int) < d by omega), rfl, _, rfl, ?_⟩
      rw [dec_vint]
      refine if_b (fun c5 => ?_) (fun c5 => ?_)
      · have c5 := of_decide_eq_true c5
        exact no fun z => (noDiv_iff (by omega)).mp z.2.2.2.1 d d1 c4 c5
      · have c5 := of_decide_eq_false c5
        refine ⟨_, rfl, _, _, rfl, rfl, (x + 1 - (d + 1)).toNat, by omega, d + 1, rfl, rfl, by omega, by omega, fun e e1 e2 => ?_, rfl⟩
        by_cases z : e = d
        · rw [z]
          exact c5
        · exact dv e e1 (by omega)
    · have c4 := of_decide_eq_false c4
      have nd : noDiv x = true := (noDiv_iff (by omega)).mpr fun e e1 e2 => dv e e1 (lt_of_sq (by omega) (by omega))
      rw [brd_yes c1 c2 c3 nd] at q
      refine ⟨_, rfl, p, C, dx, _, _, rfl, hp, c.cl, nP, look_prime _, rfl, _, rfl, ?_⟩
      rw [dec_vint]
      refine if_b (fun c5 => ?_) (fun c5 => ?_)
      · rw [c5, Bool.true_or] at q
        exact q
      · refine ⟨_, rfl, p, C, dx, _, _, rfl, hp, c.cl, nP, look_prime _, _, _, rfl, rfl, (by decide : (0 : Int) < 4), rfl, ?_⟩
        rw [dec_vint]
        rw [c5, Bool.false_or] at q
        exact q
def sp_shows_halved (C : Addr) : Sp := fun vs H Q _ => ∃ (p : Addr) (N : Int), vs = [.ref p, .int N] ∧ Q (.bl (decide (N % 4 = 2))) H
theorem ok_Halved_shows {C : Addr} (D : IsM K C "shows" "Halved.shows" s_Halved_shows ["self", "number"]) : HasM P w K mg base 1 C "shows" ["self", "number"] (sp_shows_halved C) := by
  obtain ⟨f, fd, F, b, m⟩ := D
  refine ⟨f, fd, F.ok sc_Halved_shows (fun vs H Q E h => ?_) (fun cdv A outer s H vs Q E hr h => ?_), b, m⟩
  · obtain ⟨p, N, rfl, _⟩ := h
    rfl
  · obtain ⟨p, N, rfl, q⟩ := h
    refine ⟨_, (pss_one (ps_ret (pe_cmpR op_eq (pe_op op_mod (pv 1) pe_int) pe_int (nomark _)))), ?_⟩
    refine ⟨_, rfl, _, _, rfl, rfl, (by decide : (0 : Int) < 4), rfl, ?_⟩
    rw [dec_vint]
    exact q
/-! ### _law_says -/
def sp_says : Sp := fun vs H Q _ => ∃ a b : Bool, vs = [.bl a, .bl b] ∧ Q (.bl (a == b)) H
theorem dec_vbl (a b : Bool) : decide (V.bl a = V.bl b) = (a == b) := by
  cases a <;> cases b <;> rfl
theorem ok__law_says (B : Bt mg) (D : Is K mg "_law_says" s__law_says ["_law_said", "_law_due"]) : Has P w K mg base 1 "_law_says" ["_law_said", "_law_due"] sp_says := by
  obtain ⟨f, fd, F, b, g⟩ := D
  refine ⟨f, fd, F.ok sc__law_says (fun vs H Q E h => ?_) (fun cdv A outer s H vs Q E hr h => ?_), F.kp, b, g⟩
  · obtain ⟨a, b, rfl, _⟩ := h
    rfl
  · obtain ⟨x, y, rfl, q⟩ := h
    refine ⟨_, (pss_one (ps_ret (pe_and (pe_callB call_isi (by rfl) B.isi (by decide +kernel) (pa_cons (pv 0) (pa_cons (pe_bltn (v := .ty "bool") (by rfl) B.bool (by decide +kernel) rfl) pa_nil))) (pe_one (pe_cmpR op_eq (pv 0) (pv 1) (nomark _)))))), ?_⟩
    refine ⟨_, rfl, _, .ty "bool", _, _, true, rfl, .ty _, .base (.bl _), kit_ty (by decide +kernel), true, rfl, iteT ⟨_, rfl, _, rfl, rfl, ?_⟩⟩
    rw [dec_vbl]
    exact q
/-! ### _law_is_prime, _law_bars -/
def sp_is_prime : Sp := fun vs H Q _ => ∃ p : Int, vs = [.int p] ∧ 2 ≤ p ∧ p ≤ 2000000 ∧ ∀ H', Same H H' → Q (.bl (noDiv p)) H'
def sp_bars : Sp := fun vs H Q _ => ∃ N p : Int, vs = [.int N, .int p] ∧ 1 ≤ N ∧ N ≤ 2000000 ∧ ∀ H', Same H H' → Q (.bl (brd N p)) H'
theorem ok__law_bars (D : Is K mg "_law_bars" s__law_bars ["_law_number_here", "_law_prime"]) (H__law_is_prime : Has P w K mg base 2 "_law_is_prime" ["_law_number_here"] sp_is_prime) : Has P w K mg base 3 "_law_bars" ["_law_number_here", "_law_prime"] sp_bars := by
  obtain ⟨f, fd, F, b, g⟩ := D
  obtain ⟨f__law_is_prime, fd__law_is_prime, G__law_is_prime, k__law_is_prime, b__law_is_prime, g__law_is_prime⟩ := H__law_is_prime
  refine ⟨f, fd, F.ok sc__law_bars (fun vs H Q E h => ?_) (fun cdv A outer s H vs Q E hr h => ?_), F.kp, b, g⟩
  · obtain ⟨N, p, rfl, _⟩ := h
    rfl
  · obtain ⟨N, x, rfl, n1, n2, q⟩ := h
    refine ⟨_, (pss_cons (ps_if (PW.pt (pw_or (pt_cmpR op_lt (pv 1) pe_int (nomark _)) (pw_or (pt_cmpR op_gt (pv 1) (pv 0) (nomark _)) (pw_or (pt_cmpR op_gt (pe_op op_mod (pv 0) (pv 1)) pe_int (nomark _)) (pw_or1 (PW.pt (pw_and (pt_cmpR op_gt (pv 1) pe_int (nomark _)) (pw_and1 (pt_cmpR op_ne (pe_op op_mod (pv 1) pe_int) pe_int (nomark _)))))))))) (pss_one (ps_ret pe_bl)) pss_nil) (pss_one (ps_ret (pe_call G__law_is_prime (hr.mono (by decide)) (by rfl) g__law_is_prime k__law_is_prime b__law_is_prime .nil pass0 (pa_cons (pv 1) pa_nil))))), ?_⟩
    have no : ¬ (2 ≤ x ∧ x ≤ N ∧ N % x = 0 ∧ noDiv x = true ∧ (x = 2 ∨ x % 4 = 3)) → Q (.bl false) H := fun z => by
      have := q H (Same.refl H)
      rw [brd_no z] at this
      exact this
    refine ⟨_, rfl, _, _, rfl, rfl, _, rfl, if_b (fun c1 => ?_) (fun c1 => ?_)⟩
    · exact iteT (no fun z => by have := of_decide_eq_true c1; omega)
    have c1 := of_decide_eq_false c1
    refine ⟨_, rfl, _, rfl, _, _, rfl, rfl, _, rfl, if_b (fun c2 => ?_) (fun c2 => ?_)⟩
    · exact iteT (no fun z => by have := of_decide_eq_true c2; omega)
    have c2 := of_decide_eq_false c2
    refine ⟨_, rfl, _, rfl, _, _, rfl, rfl, (show (0 : Int) < x by omega), _, _, rfl, rfl, _, rfl, if_b (fun c3 => ?_) (fun c3 => ?_)⟩
    · exact iteT (no fun z => by have := of_decide_eq_true c3; omega)
    have c3 := of_decide_eq_false c3
    have c3 : N % x = 0 := by
      have := Int.emod_nonneg N (show x ≠ 0 by omega)
      omega
    have yes : (x = 2 ∨ x % 4 = 3) → ∃ p : Int, [V.int x] = [.int p] ∧ 2 ≤ p ∧ p ≤ 2000000 ∧ ∀ H', Same H H' → Q (.bl (noDiv p)) H' := fun z => by
      refine ⟨x, rfl, by omega, by omega, fun H1 s1 => ?_⟩
      have := q H1 s1
      rcases Bool.eq_false_or_eq_true (noDiv x) with e | e
      · rw [brd_yes (by omega) (by omega) c3 e] at this
        rw [e]
        have e2 : (decide (x = 2) || decide (x % 4 = 3)) = true := by
          rw [Bool.or_eq_true, decide_eq_true_iff, decide_eq_true_iff]
          exact z
        rw [e2] at this
        exact this
      · rw [brd_no (fun z => by rw [e] at z; exact absurd z.2.2.2.1 (by decide))] at this
        rw [e]
        exact this
    refine ⟨_, rfl, _, _, rfl, rfl, _, rfl, if_b (fun c4 => ?_) (fun c4 => iteF ⟨_, rfl, yes (.inl (by have := of_decide_eq_false c4; omega))⟩)⟩
    have c4 := of_decide_eq_true c4
    refine ⟨_, rfl, _, _, rfl, rfl, (by decide : (0 : Int) < 4), rfl, _, rfl, ?_⟩
    rw [dec_vint]
    by_cases c5 : x % 4 = 3
    · rw [decide_eq_true c5]
      exact iteF ⟨_, rfl, yes (.inr c5)⟩
    · rw [decide_eq_false c5]
      exact iteT (no fun z => by omega)
end
end SqP

namespace SqP
open PySem PySem.Spec PyProof.Rows L2 Sq
abbrev s__law_lists_right : Stmt := topS 26
theorem sc__law_lists_right : FnScope ["_law_number_here", "_law_triples", "_law_mine", "_law_theirs", "_law_handed", "_law_answers", "_law_due"] ["_law_number_here", "_law_triples", "_law_mine", "_law_theirs"] (defScope s__law_lists_right) := ⟨rfl, rfl, rfl, by decide +kernel, rfl, by decide +kernel, by decide +kernel⟩
section
variable {P : Program} {w : World} {K : PySem.W.Frag} {mg : Str → Option Value} {base : Heap}
theorem any_div {x : Int} (h : 2 ≤ x) : ((List.range (rti x + 1 - 2).toNat).map fun i : Nat => decide (x % (2 + (i : Int)) = 0)).any id = !noDiv x := by
  rw [Bool.eq_iff_iff, List.any_eq_true, Bool.not_eq_true', ← Bool.not_eq_true, noDiv_iff (by omega)]
  constructor
  · rintro ⟨b, hb, e⟩ z
    obtain ⟨i, hi, rfl⟩ := List.mem_map.mp hb
    have hi := List.mem_range.mp hi
    have e := of_decide_eq_true (show decide (x % (2 + (i : Int)) = 0) = true from e)
    have h1 := sq_mono (a := 2 + (i : Int)) (b := rti x) (by omega) (by omega)
    have h2 := rti_le (n := x) (by omega)
    exact z (2 + i) (by omega) (by omega) e
  · intro z
    refine Classical.byContradiction fun no => z fun d d1 d2 d3 => no ?_
    have := le_rti (by omega) d2
    refine ⟨_, List.mem_map.mpr ⟨(d - 2).toNat, List.mem_range.mpr (by omega), rfl⟩, ?_⟩
    refine decide_eq_true ?_
    rw [show (2 : Int) + ((d - 2).toNat : Nat) = d by omega]
    exact d3
theorem ok__law_is_prime (B : Bt mg) (D : Is K mg "_law_is_prime" s__law_is_prime ["_law_number_here"]) (H__law_root : Has P w K mg base 1 "_law_root" ["_law_number_here"] sp_law_root) : Has P w K mg base 2 "_law_is_prime" ["_law_number_here"] sp_is_prime := by
  obtain ⟨f, fd, F, b, g⟩ := D
  obtain ⟨f__law_root, fd__law_root, G__law_root, k__law_root, b__law_root, g__law_root⟩ := H__law_root
  refine ⟨f, fd, F.ok sc__law_is_prime (fun vs H Q E h => ?_) (fun cdv A outer s H vs Q E hr h => ?_), F.kp, b, g⟩
  · obtain ⟨p, rfl, _⟩ := h
    rfl
  · obtain ⟨x, rfl, h1, h2, q⟩ := h
    refine ⟨_, (pss_cons (ps_if (pt_cmpR op_lt (pv 0) pe_int (nomark _)) (pss_one (ps_ret pe_bl)) pss_nil) (pss_one (ps_ret (pe_not (pe_callB (cr_any rfl) (by rfl) B.any (by decide +kernel) (pa_cons (pe_lc (own := [("_law_part", 1)]) (g := gName 1) (tt := tYes) rfl sc__law_is_prime.nd (pi_range2 (by rfl) B.range (pa_cons pe_int (pa_cons (pe_op op_add (pe_call G__law_root (hr.mono (by decide)) (by rfl) g__law_root k__law_root b__law_root .nil pass0 (pa_cons (pv 0) pa_nil)) pe_int) pa_nil))) (blkOk_by (N := ["_law_number_here", "_law_part"]) (sc := defScope s__law_is_prime) (by decide +kernel)) (fun _ _ _ _ _ => pg_name (i := 1) sc__law_is_prime.nd rfl (Or.inl rfl)) (fun _ _ _ _ _ => pts_nil) (fun _ _ _ _ _ => (pe_cmpR op_eq (pe_op op_mod (pv 0) (pv 1)) pe_int (nomark _)))) pa_nil)))))), ?_⟩
    have hs := rti_small (N := x) (by omega) h2
    have rp := rti_pos x
    refine ⟨_, rfl, _, _, rfl, rfl, _, rfl, ?_⟩
    rw [decide_eq_false (show ¬ x < 2 by omega)]
    refine iteF ⟨_, rfl, x, rfl, by omega, h2, fun H1 s1 => ⟨_, _, rfl, rfl, 2, _, rfl, ⟨by decide, by decide, by omega, by omega⟩, ?_⟩⟩
    refine fun D nD => lc_over_range (lo := 2) (n := (rti x + 1 - 2).toNat) (ys := ((List.range (rti x + 1 - 2).toNat).map fun i : Nat => decide (x % (2 + (i : Int)) = 0)).map V.bl) (j := 1) nD (by simp) (by omega) (fun i y hi hy => ?_) (fun H2 s2 d2 => ?_)
    · rw [List.getElem?_map, List.getElem?_map, List.getElem?_range hi] at hy
      obtain rfl := (Option.some.inj hy).symm
      intro H2 s2 R hR
      refine ⟨_, rfl, _, rfl, _, _, rfl, rfl, (show (0 : Int) < 2 + (i : Int) by omega), rfl, ?_⟩
      rw [dec_vint]
      exact hR _ (Same.refl _)
    · refine ⟨D, _, rfl, SqL.of d2, _, rfl, ?_⟩
      rw [any_div h1, Bool.not_not]
      exact q _ (s1.trans s2)
/-! ### _law_number -/
def sp_number (K : PySem.W.Frag) : Sp := fun vs H Q _ => ∃ (a : Addr) (ns : List Int) (k : Nat), vs = [.ref a, .int k] ∧ SqL K H a (ns.map V.int) ∧ ns.length ≤ 900 ∧ k ≤ 900 ∧ (∀ n ∈ ns, Bd 1048577 n) ∧ ∀ H' N, Same H H' → 2 ≤ N → N ≤ 1000000 → Q (.int N) H'
theorem ok__law_number (B : Bt mg) (D : Is K mg "_law_number" s__law_number ["_law_script", "_law_k"]) (H__law_cell_at : Has P w K mg base 1 "_law_cell_at" ["_law_script", "_law_k"] (sp_cell_at K)) (H__law_value : Has P w K mg base 2 "_law_value" ["_law_cell", "_law_k", "_law_limit"] sp_value) (H__law_draw : Has P w K mg base 1 "_law_draw" ["_law_cell", "_law_k", "_law_many"] sp_draw) : Has P w K mg base 3 "_law_number" ["_law_script", "_law_k"] (sp_number K) := by
  obtain ⟨f, fd, F, b, g⟩ := D
  obtain ⟨f__law_cell_at, fd__law_cell_at, G__law_cell_at, k__law_cell_at, b__law_cell_at, g__law_cell_at⟩ := H__law_cell_at
  obtain ⟨f__law_value, fd__law_value, G__law_value, k__law_value, b__law_value, g__law_value⟩ := H__law_value
  obtain ⟨f__law_draw, fd__law_draw, G__law_draw, k__law_draw, b__law_draw, g__law_draw⟩ := H__law_draw
  refine ⟨f, fd, F.ok sc__law_number (fun vs H Q E h => ?_) (fun cdv A outer s H vs Q E hr h => ?_), F.kp, b, g⟩
  · obtain ⟨a, ns, k, rfl, _⟩ := h
    rfl
  · obtain ⟨a, ns, k, rfl, hS, hl, hk, hb, q⟩ := h
    refine ⟨_, (pss_cons (ps_set (i := 2) sc__law_number.nd rfl (Or.inl rfl) (pe_call G__law_cell_at (hr.mono (by decide)) (by rfl) g__law_cell_at k__law_cell_at b__law_cell_at .nil pass0 (pa_cons (pv 0) (pa_cons (pv 1) pa_nil)))) (pss_cons (ps_set (i := 3) sc__law_number.nd rfl (Or.inl rfl) (pe_call G__law_value (hr.mono (by decide)) (by rfl) g__law_value k__law_value b__law_value .nil pass0 (pa_cons (pv 2) (pa_cons (pe_op op_add (pv 1) pe_int) (pa_cons pe_int pa_nil))))) (pss_cons (ps_set (i := 4) sc__law_number.nd rfl (Or.inl rfl) (pe_call G__law_draw (hr.mono (by decide)) (by rfl) g__law_draw k__law_draw b__law_draw .nil pass0 (pa_cons (pe_op op_add (pe_op op_mod (pv 2) (pe_op op_pow pe_int pe_int)) (pe_op op_mul pe_int (pv 1))) (pa_cons pe_int (pa_cons pe_int pa_nil))))) (pss_cons (ps_if (pt_cmpR op_eq (pv 4) pe_int (nomark _)) (pss_cons (ps_set (i := 5) sc__law_number.nd rfl (Or.inl rfl) pe_int) (pss_cons (ps_for PassesOwn.never rfl (pi_range1 (by rfl) B.range (pa_cons pe_int pa_nil)) (pg_name (i := 6) sc__law_number.nd rfl (Or.inl rfl)) (pss_one (ps_par (i := 5) (j := 3) rfl sc__law_number.nd rfl rfl (by decide) rfl rfl (pa_cons (pe_op op_mulX (pv 5) (pe_ix ix_tup (pe_tup (pa_cons pe_int (pa_cons pe_int (pa_cons pe_int (pa_cons pe_int (pa_cons pe_int (pa_cons pe_int (pa_cons pe_int pa_nil)))))))) (pe_op op_mod (pv 3) pe_int) (fun _ _ => rfl))) (pa_cons (pe_op op_fdiv (pv 3) pe_int) pa_nil)) (by rfl)))) (pss_one (ps_ret (pe_callB (call_max2 rfl) (by rfl) B.max (by decide +kernel) (pa_cons pe_int (pa_cons (pv 5) pa_nil))))))) pss_nil) (pss_one (ps_ret (pe_op op_add pe_int (pe_op op_mod (pv 3) (pe_ix ix_tup (pe_tup (pa_cons pe_int (pa_cons pe_int (pa_cons pe_int (pa_cons pe_int (pa_cons pe_int pa_nil)))))) (pv 4) (fun _ _ => rfl)))))))))), ?_⟩
    refine ⟨_, rfl, _, rfl, a, ns, k, rfl, hS, by omega, fun c hc => ?_⟩
    have bc : Bd 1048577 c := by
      rcases hc with hc | rfl
      · exact hb c hc
      · exact (bd_small (k := 64) (by decide)).mono (by decide)
    refine ⟨_, rfl, _, rfl, _, _, rfl, rfl, c, (k : Int) + 2, 999983, rfl, by decide, by decide +kernel, by omega, by omega, bc, fun H1 d s1 d0 d1 => ?_⟩
    refine ⟨_, rfl, _, _, rfl, rfl, ⟨by decide, by decide, by decide⟩, _, _, rfl, rfl, (by decide +kernel : (0 : Int) < 10 ^ (18 : Int).toNat), _, rfl, _, _, rfl, rfl, .inl ⟨by decide, by decide⟩, _, _, rfl, rfl, _, 6, 5, rfl, by decide, fun H2 kd s2 k0 k1 => ?_⟩
    refine ⟨_, rfl, rfl, _, rfl, ?_⟩
    rw [dec_vint]
    refine if_b (fun c1 => ?_) (fun c1 => ?_)
    · refine ⟨4, rfl, by decide, by decide, for_range (lo := 0) (n := (4 : Int).toNat) (fun i σ H' => ∃ (d fo : Int) (x : Option V), σ = [some (.ref a), some (.int k), some (.int c), some (.int d), some (.int kd), some (.int fo), x] ∧ 0 ≤ d ∧ 1 ≤ fo ∧ fo ≤ 29 ^ i ∧ Same H2 H') ⟨d, 1, none, rfl, d0, by decide, by decide, Same.refl _⟩ ?_ ?_⟩
      · rintro i σ H' hi ⟨d, fo, x, rfl, d0, f1, f2, sm⟩
        have hi : i < 4 := hi
        have e1 := Int.emod_nonneg d (show (7 : Int) ≠ 0 by decide)
        have e2 := Int.emod_lt_of_pos d (show (0 : Int) < 7 by decide)
        obtain ⟨j, hj⟩ : ∃ j : Nat, d % 7 = (j : Int) := ⟨(d % 7).toNat, by omega⟩
        have hj2 : j < 7 := by omega
        have hv : ∃ v : Int, ([.int 5, .int 13, .int 17, .int 29, .int 1, .int 1, .int 1] : List V)[j]? = some (.int v) ∧ 1 ≤ v ∧ v ≤ 29 := by
          match j, hj2 with
          | 0, _ => exact ⟨_, rfl, by decide⟩
          | 1, _ => exact ⟨_, rfl, by decide⟩
          | 2, _ => exact ⟨_, rfl, by decide⟩
          | 3, _ => exact ⟨_, rfl, by decide⟩
          | 4, _ => exact ⟨_, rfl, by decide⟩
          | 5, _ => exact ⟨_, rfl, by decide⟩
          | 6, _ => exact ⟨_, rfl, by decide⟩
          | n + 7, h => omega
        obtain ⟨v, hv1, hv2, hv3⟩ := hv
        have top : (29 : Int) ^ i ≤ 24389 := by
          match i, hi with
          | 0, _ => decide
          | 1, _ => decide
          | 2, _ => decide
          | 3, _ => decide
          | n + 4, h => omega
        have up : fo * v ≤ 29 ^ i * 29 := Int.mul_le_mul f2 hv3 (by omega) (by omega)
        have lo : 1 * 1 ≤ fo * v := Int.mul_le_mul f1 hv2 (by omega) (by omega)
        refine ⟨_, rfl, by show 7 ≤ sizeLine; decide, fun t ht => ?_⟩
        refine ⟨_, rfl, _, _, rfl, rfl, (by decide : (0 : Int) < 7), t, _, _, _, rfl, rfl, SqT.of upd_same, at_of hj hv1, _, _, rfl, rfl, mxs (by omega), _, rfl, _, _, rfl, rfl, ⟨by decide, by decide⟩, _, _, rfl, d / 7, fo * v, _, rfl, by omega, by omega, ?_, sm.trans (same_upd ht)⟩
        rw [Int.pow_succ]
        exact up
      · rintro σ H' ⟨d, fo, x, rfl, d0, f1, f2, sm⟩
        have f2 : fo ≤ 29 ^ 4 := f2
        have top2 : (29 : Int) ^ 4 = 707281 := by decide
        refine ⟨_, rfl, 5, fo, rfl, q _ _ (s1.trans (s2.trans sm)) ?_ ?_⟩
        · split <;> omega
        · split <;> omega
    · obtain ⟨j, hj⟩ : ∃ j : Nat, kd = (j : Int) := ⟨kd.toNat, by omega⟩
      have hj2 : j < 5 := by omega
      have hv : ∃ v : Int, ([.int 60, .int 999999, .int 1, .int 5000, .int 99999] : List V)[j]? = some (.int v) ∧ 1 ≤ v ∧ v ≤ 999999 := by
        match j, hj2 with
        | 0, _ => exact ⟨_, rfl, by decide⟩
        | 1, _ => exact ⟨_, rfl, by decide⟩
        | 2, _ => exact ⟨_, rfl, by decide⟩
        | 3, _ => exact ⟨_, rfl, by decide⟩
        | 4, _ => exact ⟨_, rfl, by decide⟩
        | n + 5, h => omega
      obtain ⟨v, hv1, hv2, hv3⟩ := hv
      have m1 := Int.emod_nonneg d (show v ≠ 0 by omega)
      have m2 := Int.emod_lt_of_pos d (show 0 < v by omega)
      refine ⟨_, rfl, by show 5 ≤ sizeLine; decide, fun t ht => ?_⟩
      exact ⟨_, rfl, t, _, _, _, rfl, rfl, SqT.of upd_same, at_of hj hv1, _, _, rfl, rfl, (show (0 : Int) < v by omega), _, _, rfl, rfl, q _ _ (s1.trans (s2.trans (same_upd ht))) (by omega) (by omega)⟩
/-! ### _law_lists_right -/
theorem look_shows (l : Addr) : ([("triples", V.ref l)] : List (Str × V)).lookup ("shows" : Str) = none := by
  show (match (("shows" : Str) == ("triples" : Str)) with | true => some (V.ref l) | false => none) = none
  rw [show (("shows" : Str) == ("triples" : Str)) = false by decide +kernel]
theorem made {H : Hp} {x dx l C : Addr} {xs : List V} (nx : H x = none) (ndx : H dx = none) (nl : (upd (upd H dx (.own x)) x (.ins C dx [])) l = none) :
    Same H (upd (upd (upd (upd H dx (.own x)) x (.ins C dx [])) l (.lst xs)) x (.ins C dx [("triples", .ref l)])) ∧ (upd (upd (upd (upd H dx (.own x)) x (.ins C dx [])) l (.lst xs)) x (.ins C dx [("triples", .ref l)])) x = some (.ins C dx [("triples", .ref l)]) ∧ (upd (upd (upd (upd H dx (.own x)) x (.ins C dx [])) l (.lst xs)) x (.ins C dx [("triples", .ref l)])) l = some (.lst xs) ∧ H l = none := by
  have nxl : l ≠ x := fun z => by
    rw [z, upd_same] at nl
    cases nl
  have nl0 : H l = none := by
    by_cases z : l = dx
    · rw [z]
      exact ndx
    · rw [upd_ne nxl, upd_ne z] at nl
      exact nl
  exact ⟨same_new nx (same_new nl0 (same_new nx (same_upd ndx))), upd_same, by rw [upd_ne nxl, upd_same], nl0⟩
def due (L M : List Tr) : Bool := decide (L ≠ []) && decide (L = M)
def sp_lists_right (K : PySem.W.Frag) : Sp := fun vs H Q _ => ∃ (N : Int) (at1 am ath : Addr) (xs ms ts : List V) (L : List Tr), vs = [.int N, .ref at1, .ref am, .ref ath] ∧ SqL K H at1 xs ∧ TrS K H xs L ∧ SqL K H am ms ∧ TrS K H ms (srt (lgL N)) ∧ SqL K H ath ts ∧ TrS K H ts (srt (leL N)) ∧ 1 ≤ N ∧ N ≤ 2000000 ∧ xs.length ≤ 1000000 ∧ ∀ H', Same H H' → Q (.bl true) H'
theorem ok__law_lists_right (B : Bt mg) {C C2 : Addr} (c_Longest : KC K mg "Longest" C) (nT : NoAttr K C "triples") (c_Leg : KC K mg "Leg" C2) (nT2 : NoAttr K C2 "triples") (D : Is K mg "_law_lists_right" s__law_lists_right ["_law_number_here", "_law_triples", "_law_mine", "_law_theirs"]) (H_Longest_init : HasM P w K mg base 1 C "__init__" ["self", "triples"] (sp_keeps K C)) (H_Leg_init : HasM P w K mg base 1 C2 "__init__" ["self", "triples"] (sp_keeps K C2))
    (H_Longest_shows : HasM P w K mg base 35 C "shows" ["self", "number"] (sp_shows_list K C lgL)) (H_Leg_shows : HasM P w K mg base 35 C2 "shows" ["self", "number"] (sp_shows_list K C2 leL)) (H__law_says : Has P w K mg base 1 "_law_says" ["_law_said", "_law_due"] sp_says) : Has P w K mg base 36 "_law_lists_right" ["_law_number_here", "_law_triples", "_law_mine", "_law_theirs"] (sp_lists_right K) := by
  obtain ⟨f, fd, F, b, g⟩ := D
  obtain ⟨f_Longest_init, fd_Longest_init, G_Longest_init, b_Longest_init, m_Longest_init⟩ := H_Longest_init
  obtain ⟨f_Leg_init, fd_Leg_init, G_Leg_init, b_Leg_init, m_Leg_init⟩ := H_Leg_init
  obtain ⟨f_Longest_shows, fd_Longest_shows, G_Longest_shows, b_Longest_shows, m_Longest_shows⟩ := H_Longest_shows
  obtain ⟨f_Leg_shows, fd_Leg_shows, G_Leg_shows, b_Leg_shows, m_Leg_shows⟩ := H_Leg_shows
  obtain ⟨f__law_says, fd__law_says, G__law_says, k__law_says, b__law_says, g__law_says⟩ := H__law_says
  refine ⟨f, fd, F.ok sc__law_lists_right (fun vs H Q E h => ?_) (fun cdv A outer s H vs Q E hr h => ?_), F.kp, b, g⟩
  · obtain ⟨N, at1, am, ath, xs, ms, ts, L, rfl, _⟩ := h
    rfl
  · obtain ⟨N, at1, am, ath, xs, ms, ts, L, rfl, hS, hT, hS2, hT2, hS3, hT3, n1, n2, hl, q⟩ := h
    refine ⟨_, (pss_cons (ps_set (i := 4) sc__law_lists_right.nd rfl (Or.inl rfl) (pe_callTy call_list_of (by rfl) B.list (by decide +kernel) (pa_cons (pv 1) pa_nil))) (pss_cons (ps_set (i := 5) sc__law_lists_right.nd rfl (Or.inl rfl) (pe_lst (pa_cons (pe_make ⟨c_Longest.makes, m_Longest_init.at_, m_Longest_init.fn, c_Longest.kp⟩ G_Longest_init (hr.mono (by decide)) (by rfl) c_Longest.mg b_Longest_init .nil pass0 (pa_cons (pv 4) pa_nil)) (pa_cons (pe_make ⟨c_Leg.makes, m_Leg_init.at_, m_Leg_init.fn, c_Leg.kp⟩ G_Leg_init (hr.mono (by decide)) (by rfl) c_Leg.mg b_Leg_init .nil pass0 (pa_cons (pv 4) pa_nil)) pa_nil)))) (pss_cons (ps_expr (pe_bm PySem.F.plainAttrs_list PySem.F.slot_list_append PySem.F.type_list_append mt_append (pv 4) (pa_cons (pe_tup (pa_cons pe_int (pa_cons pe_int (pa_cons pe_int pa_nil)))) pa_nil))) (pss_cons (ps_if (PW.pt (pw_or (pt_cmpR (op_neD hr.units) (pe_fld (pe_ix ix_list (pv 5) pe_int (fun _ _ => rfl)) rfl) (pv 1) (nomark _)) (pw_or1 (pt_cmpR (op_neD hr.units) (pe_fld (pe_ix ix_list (pv 5) pe_int (fun _ _ => rfl)) rfl) (pv 1) (nomark _))))) (pss_one (ps_ret pe_bl)) pss_nil) (C8.pss_cut (ps_set (i := 6) sc__law_lists_right.nd rfl (Or.inl rfl) (pe_and (pe_cmpR (op_neD hr.units) (pv 1) (pe_lst pa_nil) (nomark _)) (pe_one (pe_cmpR (op_eqD hr.units) (pv 1) (pv 2) (nomark _))))) (pss_cons (ps_if (pt_not (pt_val (pe_call G__law_says (hr.mono (by decide)) (by rfl) g__law_says k__law_says b__law_says .nil pass0 (pa_cons (pe_meth (pe_ix ix_list (pv 5) pe_int (fun _ _ => rfl)) c_Longest.cl m_Longest_shows G_Longest_shows (hr.mono (by decide)) b_Longest_shows .nil pass0 (pa_cons (pv 0) pa_nil)) (pa_cons (pv 6) pa_nil))))) (pss_one (ps_ret pe_bl)) pss_nil) (C8.pss_cut (ps_set (i := 6) sc__law_lists_right.nd rfl (Or.inl rfl) (pe_and (pe_cmpR (op_neD hr.units) (pv 1) (pe_lst pa_nil) (nomark _)) (pe_one (pe_cmpR (op_eqD hr.units) (pv 1) (pv 3) (nomark _))))) (pss_one (ps_ret (pe_call G__law_says (hr.mono (by decide)) (by rfl) g__law_says k__law_says b__law_says .nil pass0 (pa_cons (pe_meth (pe_ix ix_list (pv 5) pe_int (fun _ _ => rfl)) c_Leg.cl m_Leg_shows G_Leg_shows (hr.mono (by decide)) b_Leg_shows .nil pass0 (pa_cons (pv 0) pa_nil)) (pa_cons (pv 6) pa_nil)))))))))))), ?_⟩
    refine ⟨_, rfl, at1, xs, rfl, .inl hS, fun h1 nh1 => ?_⟩
    have s1 := same_upd (o := .lst xs) nh1
    have e1 : (upd H h1 (.lst xs)) h1 = some (.lst xs) := upd_same
    generalize upd H h1 (.lst xs) = H1 at *
    refine ⟨_, rfl, fun x1 d1 nx1 nd1 ne1 => ⟨x1, d1, h1, xs, rfl, upd_same, SqL.of (same_new nx1 (same_upd nd1) _ _ e1), fun l1 nl1 => ⟨rfl, ?_⟩⟩⟩
    obtain ⟨s2, a1, b1, z1⟩ := made (C := C) (xs := xs) nx1 nd1 nl1
    have hl1 : l1 ≠ h1 := (ne_of_none e1 z1).symm
    have hx1 : x1 ≠ h1 := (ne_of_none e1 nx1).symm
    clear nl1
    generalize upd (upd (upd (upd H1 d1 (.own x1)) x1 (.ins C d1 [])) l1 (.lst xs)) x1 (.ins C d1 [("triples", .ref l1)]) = H2 at *
    refine ⟨_, rfl, fun x2 d2 nx2 nd2 ne2 => ⟨x2, d2, h1, xs, rfl, upd_same, SqL.of (same_new nx2 (same_upd nd2) _ _ (s2 _ _ e1)), fun l2 nl2 => ⟨rfl, ?_⟩⟩⟩
    obtain ⟨s3, a2, b2, z2⟩ := made (C := C2) (xs := xs) nx2 nd2 nl2
    have hl2 : l2 ≠ h1 := (ne_of_none (s2 _ _ e1) z2).symm
    have hx2 : x2 ≠ h1 := (ne_of_none (s2 _ _ e1) nx2).symm
    clear nl2
    generalize upd (upd (upd (upd H2 d2 (.own x2)) x2 (.ins C2 d2 [])) l2 (.lst xs)) x2 (.ins C2 d2 [("triples", .ref l2)]) = H3 at *
    refine ⟨len2, fun an nan => ?_⟩
    have s4 := same_upd (o := .lst [.ref x1, .ref x2]) nan
    have an4 : (upd H3 an (.lst [.ref x1, .ref x2])) an = some (.lst [.ref x1, .ref x2]) := upd_same
    have han : an ≠ h1 := (ne_of_none (s3 _ _ (s2 _ _ e1)) nan).symm
    generalize upd H3 an (.lst [.ref x1, .ref x2]) = H4 at *
    have e4 := s4 _ _ (s3 _ _ (s2 _ _ e1))
    refine ⟨_, rfl, .inl ⟨rfl, _, SqL.of e4⟩, len3, fun tt ntt => ?_⟩
    have s5 := same_upd (o := .tup [.int 3, .int 4, .int 5]) ntt
    have t5 : (upd H4 tt (.tup [.int 3, .int 4, .int 5])) tt = some (.tup [.int 3, .int 4, .int 5]) := upd_same
    generalize upd H4 tt (.tup [.int 3, .int 4, .int 5]) = H5 at *
    refine ⟨h1, _, _, rfl, rfl, s5 _ _ e4, by rw [sizeLine_eq]; omega, ?_⟩
    have s05 : Same H H5 := s1.trans (s2.trans (s3.trans (s4.trans s5)))
    have s6 : Same H (upd H5 h1 (.lst (xs ++ [.ref tt]))) := same_new nh1 s05
    have a1 : (upd H5 h1 (.lst (xs ++ [.ref tt]))) x1 = some (.ins C d1 [("triples", .ref l1)]) := by rw [upd_ne hx1]; exact s5 _ _ (s4 _ _ (s3 _ _ a1))
    have b1 : (upd H5 h1 (.lst (xs ++ [.ref tt]))) l1 = some (.lst xs) := by rw [upd_ne hl1]; exact s5 _ _ (s4 _ _ (s3 _ _ b1))
    have a2 : (upd H5 h1 (.lst (xs ++ [.ref tt]))) x2 = some (.ins C2 d2 [("triples", .ref l2)]) := by rw [upd_ne hx2]; exact s5 _ _ (s4 _ _ a2)
    have b2 : (upd H5 h1 (.lst (xs ++ [.ref tt]))) l2 = some (.lst xs) := by rw [upd_ne hl2]; exact s5 _ _ (s4 _ _ b2)
    have an4 : (upd H5 h1 (.lst (xs ++ [.ref tt]))) an = some (.lst [.ref x1, .ref x2]) := by rw [upd_ne han]; exact s5 _ _ an4
    clear s1 e1 s2 s3 s4 s5 t5 s05 nx1 nd1 z1 nx2 nd2 z2 nan ntt e4
    generalize upd H5 h1 (.lst (xs ++ [.ref tt])) = H6 at *
    have hS := Same.seq s6 hS
    have hT := hT.same s6
    have hS2 := Same.seq s6 hS2
    have hT2 := hT2.same s6
    have hS3 := Same.seq s6 hS3
    have hT3 := hT3.same s6
    refine ⟨_, rfl, an, _, 0, _, rfl, rfl, SqL.of an4, rfl, x1, C, d1, _, _, rfl, a1, c_Longest.cl, nT, look_triples l1, _, rfl, _, _, trs_dp (SqL.of b1) hT, trs_dp hS hT, trs_shaped _, trs_shaped _, _, rfl, ?_⟩
    rw [trl_eqv, decide_eq_true rfl]
    refine iteF ⟨_, rfl, an, _, 1, _, rfl, rfl, SqL.of an4, rfl, x2, C2, d2, _, _, rfl, a2, c_Leg.cl, nT2, look_triples l2, _, rfl, _, _, trs_dp (SqL.of b2) hT, trs_dp hS hT, trs_shaped _, trs_shaped _, _, rfl, ?_⟩
    rw [trl_eqv, decide_eq_true rfl]
    refine iteF ?_
    -- due, for the longest sides
    refine ⟨fun σ H7 => ∃ x : V, x = .bl (due L (srt (lgL N))) ∧ σ = [some (.int N), some (.ref at1), some (.ref am), some (.ref ath), some (.ref h1), some (.ref an), some x] ∧ Same H6 H7, ?_, ?_⟩
    · refine ⟨_, rfl, Nat.zero_le _, fun em nem => ?_⟩
      have s7 := same_upd (o := .lst []) nem
      refine ⟨_, _, trs_dp (Same.seq s7 hS) (hT.same s7), trs_dp (L := []) (SqL.of upd_same) .nil, trs_shaped _, trs_shaped _, _, rfl, ?_⟩
      rw [trl_eqv]
      by_cases z : L = []
      · rw [decide_eq_true z]
        exact ⟨_, by rw [due, decide_eq_false (fun y => y z)]; rfl, rfl, s7⟩
      · rw [decide_eq_false z]
        refine iteT ⟨_, rfl, _, rfl, _, _, trs_dp (Same.seq s7 hS) (hT.same s7), trs_dp (Same.seq s7 hS2) (hT2.same s7), trs_shaped _, trs_shaped _, ?_⟩
        rw [trl_eqv]
        exact ⟨_, by rw [due, decide_eq_true z]; rfl, rfl, s7⟩
    rintro σ H7 ⟨x, rfl, rfl, s7⟩
    refine ⟨_, rfl, an, _, 0, _, rfl, rfl, SqL.of (s7 _ _ an4), rfl, x1, d1, _, rfl, s7 _ _ a1, look_shows l1, _, rfl, x1, xs, L, N, rfl, ⟨⟨d1, l1, s7 _ _ a1, s7 _ _ b1⟩, hT.same s7⟩, n1, n2, fun H8 s8 => ⟨_, rfl, _, _, rfl, _, rfl, ?_⟩⟩
    have s68 := s7.trans s8
    rw [show ((decide (L ≠ []) && decide (L = srt (lgL N))) == due L (srt (lgL N))) = true by rw [due]; exact beq_self_eq_true _]
    refine iteF ?_
    refine ⟨fun σ H7 => ∃ x : V, x = .bl (due L (srt (leL N))) ∧ σ = [some (.int N), some (.ref at1), some (.ref am), some (.ref ath), some (.ref h1), some (.ref an), some x] ∧ Same H6 H7, ?_, ?_⟩
    · refine ⟨_, rfl, Nat.zero_le _, fun em nem => ?_⟩
      have s7 := s68.trans (same_upd (o := .lst []) nem)
      refine ⟨_, _, trs_dp (Same.seq s7 hS) (hT.same s7), trs_dp (L := []) (SqL.of upd_same) .nil, trs_shaped _, trs_shaped _, _, rfl, ?_⟩
      rw [trl_eqv]
      by_cases z : L = []
      · rw [decide_eq_true z]
        exact ⟨_, by rw [due, decide_eq_false (fun y => y z)]; rfl, rfl, s7⟩
      · rw [decide_eq_false z]
        refine iteT ⟨_, rfl, _, rfl, _, _, trs_dp (Same.seq s7 hS) (hT.same s7), trs_dp (Same.seq s7 hS3) (hT3.same s7), trs_shaped _, trs_shaped _, ?_⟩
        rw [trl_eqv]
        exact ⟨_, by rw [due, decide_eq_true z]; rfl, rfl, s7⟩
    clear s7 s8 s68 H7 H8
    rintro σ H7 ⟨x, rfl, rfl, s7⟩
    refine ⟨_, rfl, an, _, 1, _, rfl, rfl, SqL.of (s7 _ _ an4), rfl, x2, d2, _, rfl, s7 _ _ a2, look_shows l2, _, rfl, x2, xs, L, N, rfl, ⟨⟨d2, l2, s7 _ _ a2, s7 _ _ b2⟩, hT.same s7⟩, n1, n2, fun H8 s8 => ⟨_, rfl, _, _, rfl, ?_⟩⟩
    rw [show ((decide (L ≠ []) && decide (L = srt (leL N))) == due L (srt (leL N))) = true by rw [due]; exact beq_self_eq_true _]
    exact q _ (s6.trans (s7.trans s8))
end
end SqP

namespace SqP
open PySem PySem.Spec PyProof.Rows L2 Sq
abbrev s_law : Stmt := topS 27
theorem sc_law : FnScope ["_law_script", "_law_k", "_law_number_here", "_law_cell", "_law_mine", "_law_theirs", "_law_some", "_law_lists", "_law_primes", "_law_prime", "_law_answer", "_law_due", "_law_good", "_law_bad", "_law_one", "_law_said"] ["_law_script"] (defScope s_law) := ⟨rfl, rfl, rfl, by decide +kernel, rfl, by decide +kernel, by decide +kernel⟩
section
variable {P : Program} {w : World} {K : PySem.W.Frag} {mg : Str → Option Value} {base : Heap}
theorem bd_mem {ns : List Int} {c : Int} (h : ∀ n ∈ ns, Bd 1048577 n) (hc : c ∈ ns ∨ c = 0) : Bd 1048577 c := by
  rcases hc with hc | rfl
  · exact h c hc
  · exact (bd_small (k := 64) (by decide)).mono (by decide)
/-- some list of triples -/
def Lt (K : PySem.W.Frag) (H : Hp) (v : V) : Prop := ∃ (q : Addr) (xs : List V) (L : List Tr), v = .ref q ∧ SqL K H q xs ∧ TrS K H xs L ∧ xs.length ≤ 1000000
theorem Lt.on {H H' : Hp} {v : V} (s : Same H H') (h : Lt K H v) : Lt K H' v := by
  obtain ⟨q, xs, L, e, a, b, c⟩ := h
  exact ⟨q, xs, L, e, Same.seq s a, b.same s, c⟩
theorem trs_cut {H : Hp} {xs : List V} {L : List Tr} (h : TrS K H xs L) (lo hi : Option Int) : ∃ M, TrS K H (cutV xs lo hi) M ∧ (cutV xs lo hi).length ≤ xs.length := by
  unfold cutV
  exact ⟨_, (h.drop _).take _, by rw [List.length_take, List.length_drop]; omega⟩
theorem rg_ints (a b : Int) : rgV a b = ((List.range (b - a).toNat).map fun i : Nat => a + (i : Int)).map V.int := by
  unfold rgV
  rw [List.map_map]
  rfl
theorem look_shows2 (v : V) : ([("prime", v)] : List (Str × V)).lookup ("shows" : Str) = none := by
  show (match (("shows" : Str) == ("prime" : Str)) with | true => some v | false => none) = none
  rw [show (("shows" : Str) == ("prime" : Str)) = false by decide +kernel]
theorem made_b {H : Hp} {x dx C : Addr} {v : V} (nx : H x = none) (ndx : H dx = none) : Same H (upd (upd (upd H dx (.own x)) x (.ins C dx [])) x (.ins C dx [("prime", v)])) := same_new nx (same_new nx (same_upd ndx))
theorem made_ans {H : Hp} {x dx l C : Addr} {xs : List V} {L : List Tr} (nx : H x = none) (ndx : H dx = none) (nl : (upd (upd H dx (.own x)) x (.ins C dx [])) l = none) (h : TrS K H xs L) : AnsAt K (upd (upd (upd (upd H dx (.own x)) x (.ins C dx [])) l (.lst xs)) x (.ins C dx [("triples", .ref l)])) x C xs L := by
  obtain ⟨s, a, b, _⟩ := made (C := C) (xs := xs) nx ndx nl
  exact ⟨⟨dx, l, a, b⟩, h.same s⟩
theorem says_tri {C : Addr} {g : Int → List Tr} {num : Int} {v : Bool} {E E2 : XK} {σ : L2.St} {H : Hp} {Q : VK} (hv : (decide (([(3, 4, 5)] : List Tr) ≠ []) && decide (([(3, 4, 5)] : List Tr) = srt (g num))) = v) (n1 : 1 ≤ num) (n2 : num ≤ 2000000) (q : ∀ H', Same H H' → Q (.bl v) H') :
    tMeth C "shows" (sp_shows_list K C g) [] E (tMake C (sp_keeps K C) [] E2 (tCons (tLst (tCons (tTup (tCons (tC (V.int 3)) (tCons (tC (V.int 4)) (tCons (tC (V.int 5)) tNil)))) tNil)) tNil)) (tCons (tC (.int num)) tNil) σ H Q := by
  refine ⟨len3, fun t nt => ?_⟩
  have w1 := same_upd (o := .tup [.int 3, .int 4, .int 5]) nt
  have et : SqT K (upd H t (.tup [.int 3, .int 4, .int 5])) t [.int ((3 : Int), (4 : Int), (5 : Int)).1, .int ((3 : Int), (4 : Int), (5 : Int)).2.1, .int ((3 : Int), (4 : Int), (5 : Int)).2.2] := SqT.of upd_same
  generalize upd H t (.tup [.int 3, .int 4, .int 5]) = H1 at *
  refine ⟨by show 1 ≤ sizeLine; decide, fun l0 nl0 => ?_⟩
  have w2 := same_upd (o := .lst [.ref t]) nl0
  have e0 : SqL K (upd H1 l0 (.lst [.ref t])) l0 [.ref t] := SqL.of upd_same
  have tr : TrS K (upd H1 l0 (.lst [.ref t])) [.ref t] [(3, 4, 5)] := .cons (Same.tup w2 et) .nil
  generalize upd H1 l0 (.lst [.ref t]) = H2 at *
  refine fun x dx nx ndx ne => ⟨x, dx, l0, [.ref t], rfl, upd_same, Same.seq (same_new nx (same_upd ndx)) e0, fun l nl => ⟨rfl, ?_⟩⟩
  obtain ⟨w3, a1, b1, z1⟩ := made (C := C) (xs := [.ref t]) nx ndx nl
  have an := made_ans (K := K) (C := C) nx ndx nl tr
  generalize upd (upd (upd (upd H2 dx (.own x)) x (.ins C dx [])) l (.lst [.ref t])) x (.ins C dx [("triples", .ref l)]) = H3 at *
  refine ⟨x, dx, _, rfl, a1, look_shows l, x, [.ref t], [(3, 4, 5)], num, rfl, an, n1, n2, fun H4 w4 => ?_⟩
  rw [hv]
  exact q _ (w1.trans (w2.trans (w3.trans w4)))
theorem says_nil {C : Addr} {g : Int → List Tr} {num : Int} {E E2 : XK} {σ : L2.St} {H : Hp} {Q : VK} (n1 : 1 ≤ num) (n2 : num ≤ 2000000) (q : ∀ H', Same H H' → Q (.bl false) H') :
    tMeth C "shows" (sp_shows_list K C g) [] E (tMake C (sp_keeps K C) [] E2 (tCons (tLst tNil) tNil)) (tCons (tC (.int num)) tNil) σ H Q := by
  refine ⟨Nat.zero_le _, fun l0 nl0 => ?_⟩
  have w2 := same_upd (o := .lst []) nl0
  have e0 : SqL K (upd H l0 (.lst [])) l0 [] := SqL.of upd_same
  have tr : TrS K (upd H l0 (.lst [])) [] [] := .nil
  generalize upd H l0 (.lst []) = H2 at *
  refine fun x dx nx ndx ne => ⟨x, dx, l0, [], rfl, upd_same, Same.seq (same_new nx (same_upd ndx)) e0, fun l nl => ⟨rfl, ?_⟩⟩
  obtain ⟨w3, a1, b1, z1⟩ := made (C := C) (xs := []) nx ndx nl
  have an := made_ans (K := K) (C := C) nx ndx nl tr
  generalize upd (upd (upd (upd H2 dx (.own x)) x (.ins C dx [])) l (.lst [])) x (.ins C dx [("triples", .ref l)]) = H3 at *
  refine ⟨x, dx, _, rfl, a1, look_shows l, x, [], [], num, rfl, an, n1, n2, fun H4 w4 => ?_⟩
  rw [show (decide (([] : List Tr) ≠ []) && decide (([] : List Tr) = srt (g num))) = false by simp]
  exact q _ (w2.trans (w3.trans w4))
theorem says_bar {C : Addr} {num pr : Int} {v : Bool} {E E2 : XK} {σ : L2.St} {H : Hp} {Q : VK} (hv : brd num pr = v) (n1 : 1 ≤ num) (n2 : num ≤ 2000000) (q : ∀ H', Same H H' → Q (.bl v) H') :
    tMeth C "shows" (sp_shows_barred C) [] E (tMake C (sp_barred C) [] E2 (tCons (tC (.int pr)) tNil)) (tCons (tC (.int num)) tNil) σ H Q := by
  refine fun x dx nx ndx ne => ⟨x, dx, .int pr, rfl, upd_same, rfl, ?_⟩
  refine ⟨x, dx, _, rfl, upd_same, look_shows2 _, x, dx, pr, num, rfl, upd_same, n1, n2, ?_⟩
  rw [hv]
  exact q _ (made_b nx ndx)
theorem says_half {C : Addr} {num : Int} {v : Bool} {E : XK} {σ : L2.St} {H : Hp} {Q : VK} (hv : decide (num % 4 = 2) = v) (q : ∀ H', Same H H' → Q (.bl v) H') :
    tMeth C "shows" (sp_shows_halved C) [] E (tBare C) (tCons (tC (.int num)) tNil) σ H Q := by
  refine fun x dx nx ndx ne => ⟨x, dx, [], rfl, upd_same, rfl, x, num, rfl, ?_⟩
  rw [hv]
  exact q _ (same_new nx (same_upd ndx))
def sp_law (K : PySem.W.Frag) : Sp := fun vs H Q _ => ∃ (a : Addr) (ns : List Int), vs = [.ref a] ∧ SqL K H a (ns.map V.int) ∧ (∀ n ∈ ns, Bd 1048577 n) ∧ ns.length ≤ 63 ∧ ∀ H', Q (.bl true) H'
set_option maxHeartbeats 16000000 in
theorem ok_law (B : Bt mg) {CL CG CB CH : Addr} (c_Longest : KC K mg "Longest" CL) (c_Leg : KC K mg "Leg" CG) (c_Barred : KC K mg "Barred" CB) (nP : NoAttr K CB "prime") (c_Halved : KC K mg "Halved" CH) (i_Halved : PySem.W.findIn K (.ref CH) "__init__" = some (some (.builtin "object.__init__"))) {f : Addr} {fd : FuncData} (F : Fun K "law" "law" s_law f fd)
    (H_Longest_init : HasM P w K mg base 1 CL "__init__" ["self", "triples"] (sp_keeps K CL)) (H_Leg_init : HasM P w K mg base 1 CG "__init__" ["self", "triples"] (sp_keeps K CG)) (H_Barred_init : HasM P w K mg base 1 CB "__init__" ["self", "prime"] (sp_barred CB))
    (H_Longest_shows : HasM P w K mg base 35 CL "shows" ["self", "number"] (sp_shows_list K CL lgL)) (H_Leg_shows : HasM P w K mg base 35 CG "shows" ["self", "number"] (sp_shows_list K CG leL)) (H_Barred_shows : HasM P w K mg base 2 CB "shows" ["self", "number"] (sp_shows_barred CB)) (H_Halved_shows : HasM P w K mg base 1 CH "shows" ["self", "number"] (sp_shows_halved CH))
    (H__law_cell_at : Has P w K mg base 1 "_law_cell_at" ["_law_script", "_law_k"] (sp_cell_at K)) (H__law_value : Has P w K mg base 2 "_law_value" ["_law_cell", "_law_k", "_law_limit"] sp_value) (H__law_longest : Has P w K mg base 2 "_law_longest" ["_law_number_here"] (sp_longest_of K)) (H__law_legs : Has P w K mg base 33 "_law_legs" ["_law_number_here"] (sp_legs_of K))
    (H__law_bars : Has P w K mg base 3 "_law_bars" ["_law_number_here", "_law_prime"] sp_bars) (H__law_number : Has P w K mg base 3 "_law_number" ["_law_script", "_law_k"] (sp_number K)) (H__law_says : Has P w K mg base 1 "_law_says" ["_law_said", "_law_due"] sp_says) (H__law_lists_right : Has P w K mg base 36 "_law_lists_right" ["_law_number_here", "_law_triples", "_law_mine", "_law_theirs"] (sp_lists_right K)) :
    FnOk P w K mg base CX0 37 f fd ["_law_script"] (sp_law K) := by
  obtain ⟨f_Longest_init, fd_Longest_init, G_Longest_init, b_Longest_init, m_Longest_init⟩ := H_Longest_init
  obtain ⟨f_Leg_init, fd_Leg_init, G_Leg_init, b_Leg_init, m_Leg_init⟩ := H_Leg_init
  obtain ⟨f_Barred_init, fd_Barred_init, G_Barred_init, b_Barred_init, m_Barred_init⟩ := H_Barred_init
  obtain ⟨f_Longest_shows, fd_Longest_shows, G_Longest_shows, b_Longest_shows, m_Longest_shows⟩ := H_Longest_shows
  obtain ⟨f_Leg_shows, fd_Leg_shows, G_Leg_shows, b_Leg_shows, m_Leg_shows⟩ := H_Leg_shows
  obtain ⟨f_Barred_shows, fd_Barred_shows, G_Barred_shows, b_Barred_shows, m_Barred_shows⟩ := H_Barred_shows
  obtain ⟨f_Halved_shows, fd_Halved_shows, G_Halved_shows, b_Halved_shows, m_Halved_shows⟩ := H_Halved_shows
  obtain ⟨f__law_cell_at, fd__law_cell_at, G__law_cell_at, k__law_cell_at, b__law_cell_at, g__law_cell_at⟩ := H__law_cell_at
  obtain ⟨f__law_value, fd__law_value, G__law_value, k__law_value, b__law_value, g__law_value⟩ := H__law_value
  obtain ⟨f__law_longest, fd__law_longest, G__law_longest, k__law_longest, b__law_longest, g__law_longest⟩ := H__law_longest
  obtain ⟨f__law_legs, fd__law_legs, G__law_legs, k__law_legs, b__law_legs, g__law_legs⟩ := H__law_legs
  obtain ⟨f__law_bars, fd__law_bars, G__law_bars, k__law_bars, b__law_bars, g__law_bars⟩ := H__law_bars
  obtain ⟨f__law_number, fd__law_number, G__law_number, k__law_number, b__law_number, g__law_number⟩ := H__law_number
  obtain ⟨f__law_says, fd__law_says, G__law_says, k__law_says, b__law_says, g__law_says⟩ := H__law_says
  obtain ⟨f__law_lists_right, fd__law_lists_right, G__law_lists_right, k__law_lists_right, b__law_lists_right, g__law_lists_right⟩ := H__law_lists_right
  refine F.ok sc_law (fun vs H Q E h => ?_) (fun cdv A outer s H vs Q E hr h => ?_)
  · obtain ⟨a, ns, rfl, _⟩ := h
    rfl
  · obtain ⟨a, ns, rfl, hS, hb, hl, q⟩ := h
    refine ⟨_, (pss_cons (ps_set (i := 0) sc_law.nd rfl (Or.inl rfl) (pe_slice sl_list (pv 0) po_none (po_some pe_int))) (pss_cons (ps_for PassesOwn.never rfl (pi_range3 (by rfl) B.range (pa_cons pe_int (pa_cons (pe_callB call_len_seq (by rfl) B.len PySem.boot_len (pa_cons (pv 0) pa_nil)) (pa_cons (pe_op op_add pe_int (pe_op op_fdiv (pe_callB call_len_seq (by rfl) B.len PySem.boot_len (pa_cons (pv 0) pa_nil)) pe_int)) pa_nil)))) (pg_name (i := 1) sc_law.nd rfl (Or.inl rfl)) (pss_cons (ps_asg (pe_tup (pa_cons (pe_call G__law_number (hr.mono (by decide)) (by rfl) g__law_number k__law_number b__law_number .nil pass0 (pa_cons (pv 0) (pa_cons (pv 1) pa_nil))) (pa_cons (pe_call G__law_value (hr.mono (by decide)) (by rfl) g__law_value k__law_value b__law_value .nil pass0 (pa_cons (pe_call G__law_cell_at (hr.mono (by decide)) (by rfl) g__law_cell_at k__law_cell_at b__law_cell_at .nil pass0 (pa_cons (pv 0) (pa_cons (pe_op op_add (pv 1) pe_int) pa_nil))) (pa_cons (pv 1) (pa_cons pe_int pa_nil)))) pa_nil))) (pg_tup rfl (pgs_cons (pg_name (i := 2) sc_law.nd rfl (Or.inr rfl)) (pgs_cons (pg_name (i := 3) sc_law.nd rfl (Or.inl rfl)) pgs_nil)))) (pss_cons (ps_asg (pe_tup (pa_cons (pe_call G__law_longest (hr.mono (by decide)) (by rfl) g__law_longest k__law_longest b__law_longest .nil pass0 (pa_cons (pv 2) pa_nil)) (pa_cons (pe_call G__law_legs (hr.mono (by decide)) (by rfl) g__law_legs k__law_legs b__law_legs .nil pass0 (pa_cons (pv 2) pa_nil)) pa_nil))) (pg_tup rfl (pgs_cons (pg_name (i := 4) sc_law.nd rfl (Or.inr rfl)) (pgs_cons (pg_name (i := 5) sc_law.nd rfl (Or.inr rfl)) pgs_nil)))) (pss_cons (ps_for PassesOwn.never rfl (pi_tup (pe_tup (pa_cons (pv 4) (pa_cons (pv 5) pa_nil)))) (pg_name (i := 6) sc_law.nd rfl (Or.inl rfl)) (pss_cons (ps_set (i := 7) sc_law.nd rfl (Or.inl rfl) (pe_lst (pa_cons (pv 6) (pa_cons (pe_revL (pv 6)) (pa_cons (pe_slice sl_list (pv 6) (po_some pe_int) po_none) (pa_cons (pe_op op_cat (pv 6) (pe_slice sl_list (pv 6) po_none (po_some pe_int))) (pa_cons (pe_op op_cat (pv 6) (pe_lst (pa_cons (pe_tup (pa_cons pe_int (pa_cons pe_int (pa_cons pe_int pa_nil)))) pa_nil))) (pa_cons (pe_slice sl_list (pv 6) po_none (po_some pe_int)) pa_nil)))))))) (pss_one (ps_if (pt_not (pt_val (pe_callB (cr_all rfl) (by rfl) B.all (by decide +kernel) (pa_cons (pe_lc (own := [("_law_one", 14)]) (g := gName 14) (tt := tYes) rfl sc_law.nd (pi_list (pv 7)) (blkOk_by (N := ["_law_script", "_law_k", "_law_number_here", "_law_cell", "_law_mine", "_law_theirs", "_law_some", "_law_lists", "_law_primes", "_law_prime", "_law_answer", "_law_due", "_law_good", "_law_bad", "_law_one", "_law_said"]) (sc := defScope s_law) (by decide +kernel)) (fun _ _ _ _ _ => pg_name (i := 14) sc_law.nd rfl (Or.inl rfl)) (fun _ _ _ _ _ => pts_nil) (fun _ _ _ _ _ => (pe_call G__law_lists_right (hr.mono (by decide)) (by rfl) g__law_lists_right k__law_lists_right b__law_lists_right .nil pass0 (pa_cons (pv 2) (pa_cons (pv 14) (pa_cons (pv 4) (pa_cons (pv 5) pa_nil))))))) pa_nil)))) (pss_one (ps_ret pe_bl)) pss_nil)))) (pss_cons (ps_set (i := 8) sc_law.nd rfl (Or.inl rfl) (pe_op op_cat (pe_listRg rfl (by rfl) B.list (prg_2 (by rfl) B.range (pe_un un_neg pe_int) pe_int)) (pe_lst (pa_cons (pv 2) (pa_cons (pe_op op_fdiv (pv 2) pe_int) (pa_cons (pe_op op_fdiv (pv 2) pe_int) (pa_cons (pe_op op_mod (pv 3) pe_int) (pa_cons (pe_un un_neg (pv 2)) (pa_cons (pe_op op_add (pv 2) pe_int) (pa_cons (pv 3) pa_nil)))))))))) (pss_cons (ps_for PassesOwn.never rfl (pi_list (pv 8)) (pg_name (i := 9) sc_law.nd rfl (Or.inl rfl)) (pss_cons (ps_par (i := 10) (j := 11) rfl sc_law.nd rfl rfl (by decide) rfl rfl (pa_cons (pe_make ⟨c_Barred.makes, m_Barred_init.at_, m_Barred_init.fn, c_Barred.kp⟩ G_Barred_init (hr.mono (by decide)) (by rfl) c_Barred.mg b_Barred_init .nil pass0 (pa_cons (pv 9) pa_nil)) (pa_cons (pe_call G__law_bars (hr.mono (by decide)) (by rfl) g__law_bars k__law_bars b__law_bars .nil pass0 (pa_cons (pv 2) (pa_cons (pv 9) pa_nil))) pa_nil)) (by rfl)) (pss_one (ps_if (PW.pt (pw_or (pt_cmpR op_ne (pe_fld (pv 10) rfl) (pv 9) (nomark _)) (pw_or1 (pt_not (pt_val (pe_call G__law_says (hr.mono (by decide)) (by rfl) g__law_says k__law_says b__law_says .nil pass0 (pa_cons (pe_meth (pv 10) c_Barred.cl m_Barred_shows G_Barred_shows (hr.mono (by decide)) b_Barred_shows .nil pass0 (pa_cons (pv 2) pa_nil)) (pa_cons (pv 11) pa_nil)))))))) (pss_one (ps_ret pe_bl)) pss_nil)))) (pss_one (ps_if (pt_not (pt_val (pe_call G__law_says (hr.mono (by decide)) (by rfl) g__law_says k__law_says b__law_says .nil pass0 (pa_cons (pe_meth (pe_bare c_Halved.makes c_Halved.kp i_Halved (by rfl) c_Halved.mg) c_Halved.cl m_Halved_shows G_Halved_shows (hr.mono (by decide)) b_Halved_shows .nil pass0 (pa_cons (pv 2) pa_nil) (ht := mcall_of (abase_call (by decide)) (fun _ => rfl))) (pa_cons (pe_cmpR op_eq (pe_op op_mod (pv 2) pe_int) pe_int (nomark _)) pa_nil))))) (pss_one (ps_ret pe_bl)) pss_nil)))))))) (pss_cons (ps_set (i := 12) sc_law.nd rfl (Or.inl rfl) (pe_lst (pa_cons (pe_meth (pe_make ⟨c_Longest.makes, m_Longest_init.at_, m_Longest_init.fn, c_Longest.kp⟩ G_Longest_init (hr.mono (by decide)) (by rfl) c_Longest.mg b_Longest_init .nil pass0 (pa_cons (pe_lst (pa_cons (pe_tup (pa_cons pe_int (pa_cons pe_int (pa_cons pe_int pa_nil)))) pa_nil)) pa_nil)) c_Longest.cl m_Longest_shows G_Longest_shows (hr.mono (by decide)) b_Longest_shows .nil pass0 (pa_cons pe_int pa_nil)) (pa_cons (pe_meth (pe_make ⟨c_Leg.makes, m_Leg_init.at_, m_Leg_init.fn, c_Leg.kp⟩ G_Leg_init (hr.mono (by decide)) (by rfl) c_Leg.mg b_Leg_init .nil pass0 (pa_cons (pe_lst (pa_cons (pe_tup (pa_cons pe_int (pa_cons pe_int (pa_cons pe_int pa_nil)))) pa_nil)) pa_nil)) c_Leg.cl m_Leg_shows G_Leg_shows (hr.mono (by decide)) b_Leg_shows .nil pass0 (pa_cons pe_int pa_nil)) (pa_cons (pe_meth (pe_make ⟨c_Barred.makes, m_Barred_init.at_, m_Barred_init.fn, c_Barred.kp⟩ G_Barred_init (hr.mono (by decide)) (by rfl) c_Barred.mg b_Barred_init .nil pass0 (pa_cons pe_int pa_nil)) c_Barred.cl m_Barred_shows G_Barred_shows (hr.mono (by decide)) b_Barred_shows .nil pass0 (pa_cons pe_int pa_nil)) pa_nil))))) (pss_cons (ps_set (i := 12) sc_law.nd rfl (Or.inl rfl) (pe_op op_cat (pv 12) (pe_lst (pa_cons (pe_meth (pe_make ⟨c_Barred.makes, m_Barred_init.at_, m_Barred_init.fn, c_Barred.kp⟩ G_Barred_init (hr.mono (by decide)) (by rfl) c_Barred.mg b_Barred_init .nil pass0 (pa_cons pe_int pa_nil)) c_Barred.cl m_Barred_shows G_Barred_shows (hr.mono (by decide)) b_Barred_shows .nil pass0 (pa_cons pe_int pa_nil)) (pa_cons (pe_meth (pe_bare c_Halved.makes c_Halved.kp i_Halved (by rfl) c_Halved.mg) c_Halved.cl m_Halved_shows G_Halved_shows (hr.mono (by decide)) b_Halved_shows .nil pass0 (pa_cons pe_int pa_nil) (ht := mcall_of (abase_call (by decide)) (fun _ => rfl))) pa_nil))))) (pss_cons (ps_set (i := 13) sc_law.nd rfl (Or.inl rfl) (pe_lst (pa_cons (pe_meth (pe_make ⟨c_Longest.makes, m_Longest_init.at_, m_Longest_init.fn, c_Longest.kp⟩ G_Longest_init (hr.mono (by decide)) (by rfl) c_Longest.mg b_Longest_init .nil pass0 (pa_cons (pe_lst pa_nil) pa_nil)) c_Longest.cl m_Longest_shows G_Longest_shows (hr.mono (by decide)) b_Longest_shows .nil pass0 (pa_cons pe_int pa_nil)) (pa_cons (pe_meth (pe_make ⟨c_Leg.makes, m_Leg_init.at_, m_Leg_init.fn, c_Leg.kp⟩ G_Leg_init (hr.mono (by decide)) (by rfl) c_Leg.mg b_Leg_init .nil pass0 (pa_cons (pe_lst pa_nil) pa_nil)) c_Leg.cl m_Leg_shows G_Leg_shows (hr.mono (by decide)) b_Leg_shows .nil pass0 (pa_cons pe_int pa_nil)) (pa_cons (pe_meth (pe_make ⟨c_Barred.makes, m_Barred_init.at_, m_Barred_init.fn, c_Barred.kp⟩ G_Barred_init (hr.mono (by decide)) (by rfl) c_Barred.mg b_Barred_init .nil pass0 (pa_cons pe_int pa_nil)) c_Barred.cl m_Barred_shows G_Barred_shows (hr.mono (by decide)) b_Barred_shows .nil pass0 (pa_cons pe_int pa_nil)) (pa_cons (pe_meth (pe_make ⟨c_Barred.makes, m_Barred_init.at_, m_Barred_init.fn, c_Barred.kp⟩ G_Barred_init (hr.mono (by decide)) (by rfl) c_Barred.mg b_Barred_init .nil pass0 (pa_cons pe_int pa_nil)) c_Barred.cl m_Barred_shows G_Barred_shows (hr.mono (by decide)) b_Barred_shows .nil pass0 (pa_cons pe_int pa_nil)) (pa_cons (pe_meth (pe_bare c_Halved.makes c_Halved.kp i_Halved (by rfl) c_Halved.mg) c_Halved.cl m_Halved_shows G_Halved_shows (hr.mono (by decide)) b_Halved_shows .nil pass0 (pa_cons pe_int pa_nil) (ht := mcall_of (abase_call (by decide)) (fun _ => rfl))) pa_nil))))))) (pss_one (ps_ret (pe_and (pe_callB (cr_all rfl) (by rfl) B.all (by decide +kernel) (pa_cons (pe_lc (own := [("_law_said", 15)]) (g := gName 15) (tt := tYes) rfl sc_law.nd (pi_list (pv 12)) (blkOk_by (N := ["_law_script", "_law_k", "_law_number_here", "_law_cell", "_law_mine", "_law_theirs", "_law_some", "_law_lists", "_law_primes", "_law_prime", "_law_answer", "_law_due", "_law_good", "_law_bad", "_law_one", "_law_said"]) (sc := defScope s_law) (by decide +kernel)) (fun _ _ _ _ _ => pg_name (i := 15) sc_law.nd rfl (Or.inl rfl)) (fun _ _ _ _ _ => pts_nil) (fun _ _ _ _ _ => (pe_call G__law_says (hr.mono (by decide)) (by rfl) g__law_says k__law_says b__law_says .nil pass0 (pa_cons (pv 15) (pa_cons pe_bl pa_nil))))) pa_nil)) (pe_one (pe_callB (cr_all rfl) (by rfl) B.all (by decide +kernel) (pa_cons (pe_lc (own := [("_law_said", 15)]) (g := gName 15) (tt := tYes) rfl sc_law.nd (pi_list (pv 13)) (blkOk_by (N := ["_law_script", "_law_k", "_law_number_here", "_law_cell", "_law_mine", "_law_theirs", "_law_some", "_law_lists", "_law_primes", "_law_prime", "_law_answer", "_law_due", "_law_good", "_law_bad", "_law_one", "_law_said"]) (sc := defScope s_law) (by decide +kernel)) (fun _ _ _ _ _ => pg_name (i := 15) sc_law.nd rfl (Or.inl rfl)) (fun _ _ _ _ _ => pts_nil) (fun _ _ _ _ _ => (pe_call G__law_says (hr.mono (by decide)) (by rfl) g__law_says k__law_says b__law_says .nil pass0 (pa_cons (pv 15) (pa_cons pe_bl pa_nil))))) pa_nil))))))))))), ?_⟩
    -- script = script[:63]
    refine ⟨_, rfl, 63, rfl, a, _, rfl, hS, fun sa nsa => ?_⟩
    obtain ⟨cs, e, hcs⟩ := cut_ints ns none (some 63)
    have hcl : cs.length ≤ 63 := by
      have := cut_to (ns.map V.int) 63
      rw [show ((63 : Nat) : Int) = 63 by rfl, e] at this
      have := congrArg List.length this
      rw [List.length_map, List.length_take, List.length_map] at this
      omega
    rw [e]
    have hcb : ∀ n ∈ cs, Bd 1048577 n := fun z hz => hb z (hcs z hz)
    have hsa : SqL K (upd H sa (.lst (cs.map V.int))) sa (cs.map V.int) := SqL.of upd_same
    generalize upd H sa (.lst (cs.map V.int)) = H1 at *
    obtain ⟨st, hst⟩ : ∃ st : Int, st = 1 + ((cs.map V.int).length : Int) / 3 := ⟨_, rfl⟩
    have hst1 : 0 < st ∧ st ≤ 30 := by
      rw [List.length_map] at hst
      omega
    obtain ⟨n, hrg, hin⟩ := rgc_up (l := (cs.length : Int)) (c := st) (by omega) (by omega) hst1.1 (by omega)
    refine ⟨_, rfl, sa, _, rfl, .inl hsa, _, rfl, sa, _, rfl, .inl hsa, _, _, rfl, rfl, ⟨by decide, by decide⟩, _, _, rfl, rfl, 0, _, st, n, by rw [hst], by rw [List.length_map]; exact hrg, ?_⟩
    refine for_rangeC (lo := 0) (c := st) (n := n) (fun i σ H' => ∃ v1 v2 v3 v4 v5 v6 v7 v8 v9 v10 v11 v14 : Option V, σ = [some (.ref sa), v1, v2, v3, v4, v5, v6, v7, v8, v9, v10, v11, none, none, v14, none] ∧ Same H1 H') ⟨_, _, _, _, _, _, _, _, _, _, _, _, rfl, Same.refl _⟩ ?_ ?_
    · rintro i σ H' hi ⟨v1, v2, v3, v4, v5, v6, v7, v8, v9, v10, v11, v14, rfl, s1⟩
      have hi2 := hin i hi
      have hi0 : 0 ≤ (i : Int) * st := Int.mul_nonneg (by omega) (by omega)
      obtain ⟨k, hk⟩ : ∃ k : Nat, (0 : Int) + (i : Int) * st = (k : Int) := ⟨((i : Int) * st).toNat, by omega⟩
      rw [hk]
      have hsa1 := Same.seq s1 hsa
      refine ⟨_, rfl, _, rfl, sa, cs, k, rfl, hsa1, by omega, by omega, hcb, fun H2 N s2 N1 N2 => ?_⟩
      refine ⟨_, rfl, _, rfl, _, _, rfl, rfl, sa, cs, k + 3, rfl, Same.seq s2 hsa1, by omega, fun c hc => ?_⟩
      refine ⟨_, rfl, c, (k : Int), 999983, rfl, by decide, by decide +kernel, by omega, by omega, bd_mem hcb hc, fun H3 d s3 d0 d1 => ?_⟩
      refine ⟨len2, fun t1 nt1 => ⟨_, _, rfl, SqT.of upd_same, rfl, _, _, rfl, _, _, rfl, rfl, ?_⟩⟩
      have s4 := same_upd (o := .tup [.int N, .int d]) nt1
      generalize upd H3 t1 (.tup [.int N, .int d]) = H4 at *
      refine ⟨_, rfl, N, rfl, by omega, by omega, fun H5 pm ms s5 hm tm => ⟨_, rfl, N, rfl, by omega, by omega, fun H6 pt ts s6 ht tt => ?_⟩⟩
      refine ⟨len2, fun t2 nt2 => ⟨_, _, rfl, SqT.of upd_same, rfl, _, _, rfl, _, _, rfl, rfl, ?_⟩⟩
      have s7 := same_upd (o := .tup [.ref pm, .ref pt]) nt2
      generalize upd H6 t2 (.tup [.ref pm, .ref pt]) = H7 at *
      have s67 := s6.trans s7
      have hm := s67 _ _ hm
      have tm := tm.same s67
      have ht := s7 _ _ ht
      have tt := tt.same s7
      have s17 : Same H' H7 := s2.trans (s3.trans (s4.trans (s5.trans s67)))
      have hs := rti_small (N := N) (by omega) (by omega)
      have lm : ms.length ≤ 2000 := by
        have h1 := tm.len
        have h2 := (srt_perm (lgL N)).length_eq
        have h3 := upto_len (f := lgAt N) (c := 1) (lgAt_len N) (rti N).toNat
        unfold lgL at h2 h1
        omega
      have lt : ts.length ≤ 4000 := by
        have h1 := tt.len
        have h2 := (srt_perm (leL N)).length_eq
        have h3 := upto_len (f := fun p => leA N p ++ leB N p) (c := 2) (le_len N) (rti N).toNat
        unfold leL at h2 h1
        omega
      -- for some in (mine, theirs)
      refine ⟨_, rfl, _, rfl, len2, fun t3 nt3 => ⟨t3, rfl, ⟨_, SqT.of upd_same⟩, ?_⟩⟩
      have ht3 : (upd H7 t3 (.tup [.ref pm, .ref pt])) t3 = some (.tup [.ref pm, .ref pt]) := upd_same
      have s8 := same_upd (o := .tup [.ref pm, .ref pt]) nt3
      generalize upd H7 t3 (.tup [.ref pm, .ref pt]) = H8 at *
      refine for_tup (K := K) (a := t3) (xs := [.ref pm, .ref pt]) (fun j σ H9 => ∃ x6 x7 x14 : Option V, σ = [some (.ref sa), some (.int k), some (.int N), some (.int d), some (.ref pm), some (.ref pt), x6, x7, v8, v9, v10, v11, none, none, x14, none] ∧ Same H8 H9) ⟨_, _, _, rfl, Same.refl _⟩ (fun j σ H9 _ ⟨_, _, _, _, s9⟩ => Same.tup s9 (SqT.of ht3)) ?_ ?_
      · rintro j y σ H9 hy ⟨x6, x7, x14, rfl, s9⟩
        have s79 := s8.trans s9
        obtain ⟨p, zs, L, rfl, hp, tp, lp⟩ : ∃ (p : Addr) (zs : List V) (L : List Tr), y = .ref p ∧ H9 p = some (.lst zs) ∧ TrS K H9 zs L ∧ zs.length ≤ 4000 := by
          match j, hy with
          | 0, hy => cases hy; exact ⟨pm, ms, _, rfl, s79 _ _ hm, tm.same s79, by omega⟩
          | 1, hy => cases hy; exact ⟨pt, ts, _, rfl, s79 _ _ ht, tt.same s79, by omega⟩
          | j + 2, hy => cases hy
        have l1 : Lt K H9 (.ref p) := ⟨p, zs, L, rfl, SqL.of hp, tp, by omega⟩
        refine ⟨_, rfl, _, rfl, p, zs, rfl, SqL.of hp, fun r1 nr1 => ?_⟩
        have u1 := same_upd (o := .lst zs.reverse) nr1
        have l2 : Lt K (upd H9 r1 (.lst zs.reverse)) (.ref r1) := ⟨r1, _, _, rfl, SqL.of upd_same, (tp.same u1).rev, by rw [List.length_reverse]; omega⟩
        generalize upd H9 r1 (.lst zs.reverse) = G1 at *
        refine ⟨_, rfl, 1, rfl, p, zs, rfl, SqL.of (u1 _ _ hp), fun r2 nr2 => ?_⟩
        have u2 := same_upd (o := .lst (cutV zs (some 1) none)) nr2
        obtain ⟨M2, tM2, lM2⟩ := trs_cut (tp.same (u1.trans u2)) (some 1) none
        have l3 : Lt K (upd G1 r2 (.lst (cutV zs (some 1) none))) (.ref r2) := ⟨r2, _, _, rfl, SqL.of upd_same, tM2, by omega⟩
        generalize upd G1 r2 (.lst (cutV zs (some 1) none)) = G2 at *
        have u12 := u1.trans u2
        refine ⟨_, rfl, _, rfl, 1, rfl, p, zs, rfl, SqL.of (u12 _ _ hp), fun r3 nr3 => ?_⟩
        have u3 := same_upd (o := .lst (cutV zs none (some 1))) nr3
        have e3 : (upd G2 r3 (.lst (cutV zs none (some 1)))) r3 = some (.lst (cutV zs none (some 1))) := upd_same
        generalize upd G2 r3 (.lst (cutV zs none (some 1))) = G3 at *
        have u13 := u12.trans u3
        obtain ⟨M3, tM3, lM3⟩ := trs_cut (tp.same u13) none (some 1)
        refine ⟨p, r3, zs, _, rfl, rfl, u13 _ _ hp, e3, by rw [sizeLine_eq]; omega, fun r4 nr4 => ?_⟩
        have u4 := same_upd (o := .lst (zs ++ cutV zs none (some 1))) nr4
        have l4 : Lt K (upd G3 r4 (.lst (zs ++ cutV zs none (some 1)))) (.ref r4) := ⟨r4, _, _, rfl, SqL.of upd_same, ((tp.same u13).app tM3).same u4, by rw [List.length_append]; omega⟩
        generalize upd G3 r4 (.lst (zs ++ cutV zs none (some 1))) = G4 at *
        have u14 := u13.trans u4
        refine ⟨_, rfl, len3, fun t5 nt5 => ?_⟩
        have u5 := same_upd (o := .tup [.int 3, .int 4, .int 5]) nt5
        have e5 : SqT K (upd G4 t5 (.tup [.int 3, .int 4, .int 5])) t5 [.int ((3 : Int), (4 : Int), (5 : Int)).1, .int ((3 : Int), (4 : Int), (5 : Int)).2.1, .int ((3 : Int), (4 : Int), (5 : Int)).2.2] := SqT.of upd_same
        generalize upd G4 t5 (.tup [.int 3, .int 4, .int 5]) = G5 at *
        refine ⟨by show 1 ≤ sizeLine; decide, fun r5 nr5 => ?_⟩
        have u6 := same_upd (o := .lst [.ref t5]) nr5
        have e6 : (upd G5 r5 (.lst [.ref t5])) r5 = some (.lst [.ref t5]) := upd_same
        generalize upd G5 r5 (.lst [.ref t5]) = G6 at *
        have u16 := u14.trans (u5.trans u6)
        refine ⟨p, r5, zs, _, rfl, rfl, u16 _ _ hp, e6, by rw [sizeLine_eq]; show zs.length + 1 ≤ _; omega, fun r6 nr6 => ?_⟩
        have u7 := same_upd (o := .lst (zs ++ [.ref t5])) nr6
        have l5 : Lt K (upd G6 r6 (.lst (zs ++ [.ref t5]))) (.ref r6) := ⟨r6, _, _, rfl, SqL.of upd_same, ((tp.same u16).app (TrS.cons (Same.tup u6 e5) .nil)).same u7, by rw [List.length_append]; show zs.length + 1 ≤ _; omega⟩
        generalize upd G6 r6 (.lst (zs ++ [.ref t5])) = G7 at *
        have u17 := u16.trans u7
        refine ⟨_, rfl, 1, rfl, p, zs, rfl, SqL.of (u17 _ _ hp), fun r7 nr7 => ?_⟩
        have u8 := same_upd (o := .lst (cutV zs none (some 1))) nr7
        have u18 := u17.trans u8
        obtain ⟨M8, tM8, lM8⟩ := trs_cut (tp.same u18) none (some 1)
        have l6 : Lt K (upd G7 r7 (.lst (cutV zs none (some 1)))) (.ref r7) := ⟨r7, _, _, rfl, SqL.of upd_same, tM8, by omega⟩
        generalize upd G7 r7 (.lst (cutV zs none (some 1))) = G8 at *
        refine ⟨by show 6 ≤ sizeLine; decide, fun ls nls => ?_⟩
        have u9 := same_upd (o := .lst [.ref p, .ref r1, .ref r2, .ref r4, .ref r6, .ref r7]) nls
        have els : (upd G8 ls (.lst [.ref p, .ref r1, .ref r2, .ref r4, .ref r6, .ref r7])) ls = some (.lst [.ref p, .ref r1, .ref r2, .ref r4, .ref r6, .ref r7]) := upd_same
        generalize upd G8 ls (.lst [.ref p, .ref r1, .ref r2, .ref r4, .ref r6, .ref r7]) = G9 at *
        have all6 : ∀ v ∈ ([.ref p, .ref r1, .ref r2, .ref r4, .ref r6, .ref r7] : List V), Lt K G9 v := by
          intro v hv
          simp only [List.mem_cons, List.not_mem_nil, or_false] at hv
          rcases hv with rfl | rfl | rfl | rfl | rfl | rfl
          · exact l1.on (u18.trans u9)
          · exact l2.on ((u2.trans (u3.trans (u4.trans (u5.trans (u6.trans (u7.trans u8)))))).trans u9)
          · exact l3.on ((u3.trans (u4.trans (u5.trans (u6.trans (u7.trans u8))))).trans u9)
          · exact l4.on ((u5.trans (u6.trans (u7.trans u8))).trans u9)
          · exact l5.on (u8.trans u9)
          · exact l6.on u9
        have s7G := s79.trans (u18.trans u9)
        refine ⟨_, rfl, ls, rfl, ⟨_, SqL.of els⟩, fun D nD => lc_over_lst (xs := [.ref p, .ref r1, .ref r2, .ref r4, .ref r6, .ref r7]) (ys := List.replicate 6 (.bl true)) (j := 14) (SqL.of els) nD rfl (by show 6 ≤ 16000000; decide) (fun i x y hx hy => ?_) (fun H2 s2 d2 => ?_)⟩
        · have hy2 : y = .bl true := by
            have := List.mem_of_getElem? hy
            rw [List.mem_replicate] at this
            exact this.2
          subst hy2
          intro F1 w1 R hR
          obtain ⟨z, zs2, L2, rfl, a1, a2, a3⟩ := (all6 x (List.mem_of_getElem? hx)).on w1
          have w7 := s7G.trans w1
          exact ⟨_, rfl, _, rfl, _, rfl, _, rfl, N, z, pm, pt, zs2, ms, ts, L2, rfl, a1, a2, SqL.of (w7 _ _ hm), tm.same w7, SqL.of (w7 _ _ ht), tt.same w7, by omega, by omega, a3, fun F2 w2 => hR _ w2⟩
        · refine ⟨D, List.replicate 6 true, rfl, SqL.of (by rw [d2, List.map_replicate]), true, rfl, iteF ?_⟩
          exact ⟨_, _, _, rfl, s9.trans (u18.trans (u9.trans s2))⟩
      · rintro σ H9 ⟨x6, x7, x14, rfl, s9⟩
        have s19 := s17.trans (s8.trans s9)
        -- the primes
        have rg : RgOk (-1) 12 := ⟨by decide, by decide, by decide, by decide, by decide⟩
        refine ⟨_, rfl, _, _, rfl, rfl, rg, fun q1 nq1 => ?_⟩
        have u1 := same_upd (o := .lst (rgV (-1) 12)) nq1
        have e1 : (upd H9 q1 (.lst (rgV (-1) 12))) q1 = some (.lst (rgV (-1) 12)) := upd_same
        generalize upd H9 q1 (.lst (rgV (-1) 12)) = G1 at *
        refine ⟨_, rfl, _, rfl, _, _, rfl, rfl, ⟨by decide, by decide⟩, _, rfl, _, _, rfl, rfl, ⟨by decide, by decide⟩, _, rfl, _, _, rfl, rfl, (by decide : (0 : Int) < 1000), _, rfl, _, rfl, _, rfl, _, _, rfl, rfl, _, rfl, by show 7 ≤ sizeLine; decide, fun q2 nq2 => ?_⟩
        have u2 := same_upd (o := .lst ([N, N / 2, N / 3, d % 1000, -N, N + 1, d].map V.int)) nq2
        have e2 : (upd G1 q2 (.lst ([N, N / 2, N / 3, d % 1000, -N, N + 1, d].map V.int))) q2 = some (.lst ([N, N / 2, N / 3, d % 1000, -N, N + 1, d].map V.int)) := upd_same
        refine ⟨q1, q2, _, _, rfl, rfl, u2 _ _ e1, e2, by rw [sizeLine_eq, rgV_length]; show 13 + 7 ≤ 16777216; decide, fun pl npl => ?_⟩
        rw [rg_ints, ← List.map_append]
        have u3 := same_upd (o := .lst ((((List.range ((12 : Int) - -1).toNat).map fun i : Nat => (-1 : Int) + (i : Int)) ++ [N, N / 2, N / 3, d % 1000, -N, N + 1, d]).map V.int)) npl
        generalize (((List.range ((12 : Int) - -1).toNat).map fun i : Nat => (-1 : Int) + (i : Int)) ++ [N, N / 2, N / 3, d % 1000, -N, N + 1, d]) = ps at *
        have u23 := u2.trans u3
        have epl : (upd (upd G1 q2 (.lst ([N, N / 2, N / 3, d % 1000, -N, N + 1, d].map V.int))) pl (.lst (ps.map V.int))) pl = some (.lst (ps.map V.int)) := upd_same
        refine ⟨_, rfl, pl, rfl, ⟨_, SqL.of epl⟩, for_list (K := K) (a := pl) (xs := ps.map V.int) (fun j σ H10 => ∃ x9 x10 x11 : Option V, σ = [some (.ref sa), some (.int k), some (.int N), some (.int d), some (.ref pm), some (.ref pt), x6, x7, some (.ref pl), x9, x10, x11, none, none, x14, none] ∧ Same G1 H10 ∧ H10 pl = some (.lst (ps.map V.int))) ⟨_, _, _, rfl, u23, epl⟩ (fun j σ H10 _ ⟨_, _, _, _, _, w⟩ => SqL.of w) ?_ ?_⟩
        · rintro j y σ H10 hy ⟨x9, x10, x11, rfl, w, wp⟩
          obtain ⟨pr, rfl⟩ : ∃ pr : Int, y = .int pr := by
            rw [List.getElem?_map] at hy
            cases z : ps[j]? with
            | none =>
              rw [z] at hy
              cases hy
            | some v =>
              rw [z] at hy
              exact ⟨v, (Option.some.inj hy).symm⟩
          refine ⟨_, rfl, fun x dx nx ndx ne => ⟨x, dx, .int pr, rfl, upd_same, rfl, ?_⟩⟩
          have w1 := made_b (C := CB) (v := .int pr) nx ndx
          have ex : (upd (upd (upd H10 dx (.own x)) x (.ins CB dx [])) x (.ins CB dx [("prime", .int pr)])) x = some (.ins CB dx [("prime", .int pr)]) := upd_same
          generalize upd (upd (upd H10 dx (.own x)) x (.ins CB dx [])) x (.ins CB dx [("prime", .int pr)]) = H11 at *
          refine ⟨_, rfl, _, rfl, N, pr, rfl, by omega, by omega, fun H12 w2 => ⟨_, _, rfl, ?_⟩⟩
          have ex := w2 _ _ ex
          refine ⟨_, rfl, x, CB, dx, _, _, rfl, ex, c_Barred.cl, nP, look_prime _, _, rfl, rfl, _, rfl, ?_⟩
          rw [dec_vint, decide_eq_true rfl]
          refine iteF ⟨_, rfl, x, dx, _, rfl, ex, look_shows2 _, _, rfl, x, dx, pr, N, rfl, ex, by omega, by omega, _, rfl, _, _, rfl, _, rfl, ?_⟩
          rw [beq_self_eq_true]
          exact iteF ⟨_, _, _, rfl, w.trans (w1.trans w2), w2 _ _ (w1 _ _ wp)⟩
        · rintro σ H10 ⟨x9, x10, x11, rfl, w, wp⟩
          refine fun x dx nx ndx ne => ⟨x, dx, [], rfl, upd_same, rfl, _, rfl, x, N, rfl, _, rfl, _, _, rfl, rfl, (by decide : (0 : Int) < 4), rfl, _, _, rfl, _, rfl, ?_⟩
          rw [dec_vint, beq_self_eq_true]
          exact iteF ⟨_, _, _, _, _, _, _, _, _, _, _, _, rfl, (s1.trans (s19.trans (u1.trans w))).trans (same_new nx (same_upd ndx))⟩
    · rintro σ H' ⟨v1, v2, v3, v4, v5, v6, v7, v8, v9, v10, v11, v14, rfl, s1⟩
      refine says_tri (v := true) (by decide +kernel) (by decide) (by decide) fun G1 w1 => ?_
      refine says_tri (v := true) (by decide +kernel) (by decide) (by decide) fun G2 w2 => ?_
      refine says_bar (v := true) (by decide +kernel) (by decide) (by decide) fun G3 w3 => ?_
      refine ⟨len3, fun g1 ng1 => ?_⟩
      have e1 : (upd G3 g1 (.lst [.bl true, .bl true, .bl true])) g1 = some (.lst [.bl true, .bl true, .bl true]) := upd_same
      generalize upd G3 g1 (.lst [.bl true, .bl true, .bl true]) = G4 at *
      refine ⟨_, rfl, ?_⟩
      refine says_bar (v := true) (by decide +kernel) (by decide) (by decide) fun G5 w5 => ?_
      refine says_half (v := true) (by decide) fun G6 w6 => ?_
      refine ⟨len2, fun g2 ng2 => ?_⟩
      have w7 := same_upd (o := .lst [.bl true, .bl true]) ng2
      have e2 : (upd G6 g2 (.lst [.bl true, .bl true])) g2 = some (.lst [.bl true, .bl true]) := upd_same
      generalize upd G6 g2 (.lst [.bl true, .bl true]) = G7 at *
      refine ⟨g1, g2, _, _, rfl, rfl, w7 _ _ (w6 _ _ (w5 _ _ e1)), e2, by show 5 ≤ sizeLine; decide, fun g3 ng3 => ?_⟩
      have e3 : (upd G7 g3 (.lst ([.bl true, .bl true, .bl true] ++ [.bl true, .bl true]))) g3 = some (.lst (List.replicate 5 (.bl true))) := upd_same
      generalize upd G7 g3 (.lst ([.bl true, .bl true, .bl true] ++ [.bl true, .bl true])) = G8 at *
      refine says_nil (by decide) (by decide) fun G9 w9 => ?_
      refine says_nil (by decide) (by decide) fun G10 w10 => ?_
      refine says_bar (v := false) (by decide +kernel) (by decide) (by decide) fun G11 w11 => ?_
      refine says_bar (v := false) (by decide +kernel) (by decide) (by decide) fun G12 w12 => ?_
      refine says_half (v := false) (by decide) fun G13 w13 => ?_
      refine ⟨by show 5 ≤ sizeLine; decide, fun g4 ng4 => ?_⟩
      have w14 := same_upd (o := .lst [.bl false, .bl false, .bl false, .bl false, .bl false]) ng4
      have e4 : (upd G13 g4 (.lst [.bl false, .bl false, .bl false, .bl false, .bl false])) g4 = some (.lst (List.replicate 5 (.bl false))) := upd_same
      generalize upd G13 g4 (.lst [.bl false, .bl false, .bl false, .bl false, .bl false]) = G14 at *
      have e3 := w14 _ _ (w13 _ _ (w12 _ _ (w11 _ _ (w10 _ _ (w9 _ _ e3)))))
      refine ⟨_, rfl, g3, rfl, ⟨_, SqL.of e3⟩, fun D nD => lc_over_lst (xs := List.replicate 5 (.bl true)) (ys := List.replicate 5 (.bl true)) (j := 15) (SqL.of e3) nD rfl (by decide) (fun i x y hx hy => ?_) (fun H2 s2 d2 => ?_)⟩
      · have hx := (List.mem_replicate.mp (List.mem_of_getElem? hx)).2
        have hy := (List.mem_replicate.mp (List.mem_of_getElem? hy)).2
        subst hx hy
        intro F1 u1 R hR
        exact ⟨_, rfl, true, true, rfl, hR _ (Same.refl _)⟩
      · refine ⟨D, List.replicate 5 true, rfl, SqL.of (by rw [d2, List.map_replicate]), true, rfl, iteT ?_⟩
        have e4 := s2 _ _ e4
        refine ⟨_, rfl, g4, rfl, ⟨_, SqL.of e4⟩, fun D2 nD2 => lc_over_lst (xs := List.replicate 5 (.bl false)) (ys := List.replicate 5 (.bl true)) (j := 15) (SqL.of e4) nD2 rfl (by decide) (fun i x y hx hy => ?_) (fun H3 s3 d3 => ?_)⟩
        · have hx := (List.mem_replicate.mp (List.mem_of_getElem? hx)).2
          have hy := (List.mem_replicate.mp (List.mem_of_getElem? hy)).2
          subst hx hy
          intro F1 u1 R hR
          exact ⟨_, rfl, false, false, rfl, hR _ (Same.refl _)⟩
        · exact ⟨D2, List.replicate 5 true, rfl, SqL.of (by rw [d3, List.map_replicate]), q _⟩
end
end SqP

namespace SqP
open PySem PySem.Spec PyProof.Rows L2 Sq
/-! ### the law's end, the built-in modules' names told too -/
theorem frag_mem {K : PySem.W.Frag} {a : Addr} {o : Obj} (h : (a, o) ∈ K) : ∃ o', K.lookup a = some o' := by
  induction K with
  | nil => cases h
  | cons p K ih =>
    obtain ⟨b, u⟩ := p
    by_cases e : a = b
    · exact ⟨u, by rw [e, List.lookup_cons_self]⟩
    · have hb : (a == b) = false := by simpa using e
      rcases List.mem_cons.mp h with z | z
      · exact absurd (Prod.mk.inj z).1 e
      · obtain ⟨o', h'⟩ := ih z
        exact ⟨o', by rw [List.lookup_cons, hb]; exact h'⟩
theorem frag_of {E : PySem.W.Frag} {a : Addr} {o : Obj} (h : E.lookup a = some o) : (a, o) ∈ E := by
  induction E with
  | nil => cases h
  | cons p E ih =>
    obtain ⟨b, u⟩ := p
    rw [List.lookup_cons] at h
    by_cases e : (a == b) = true
    · rw [e] at h
      have h : some u = some o := h
      cases h
      rw [beq_iff_eq.mp e]
      exact List.mem_cons_self
    · rw [Bool.not_eq_true] at e
      rw [e] at h
      exact List.mem_cons_of_mem _ (ih h)
theorem frag_app {K E : PySem.W.Frag} {a : Addr} {o : Obj} (h : (K ++ E).lookup a = some o) : K.lookup a = some o ∨ (K.lookup a = none ∧ (a, o) ∈ E) := by
  rw [List.lookup_append] at h
  cases e : K.lookup a with
  | some u =>
    rw [e] at h
    exact .inl h
  | none =>
    rw [e] at h
    have h : E.lookup a = some o := h
    exact .inr ⟨rfl, frag_of h⟩
theorem frag_left {K E : PySem.W.Frag} {a : Addr} {o : Obj} (h : K.lookup a = some o) : (K ++ E).lookup a = some o := by
  rw [List.lookup_append, h]
  rfl
theorem frag_in {K E : PySem.W.Frag} {h : Heap} (hK : K.In h) (hE : ∀ p ∈ E, h.get? p.1 = some p.2) : PySem.W.Frag.In (K ++ E) h := fun a o e => by
  rcases frag_app e with q | ⟨_, q⟩
  · exact hK a o q
  · exact hE _ q
theorem frag_at {K : PySem.W.Frag} {h base : Heap} {a : Addr} {o : Obj} (hK : K.In h) (hB : K.In base) (m : (a, o) ∈ K) (e : h.get? a = some o) : base.get? a = some o := by
  obtain ⟨o', l⟩ := frag_mem m
  have := hK a o' l
  rw [e] at this
  cases this
  exact hB a o l
theorem fn_more {P : Program} {w : World} {K E : PySem.W.Frag} {mg : Str → Option Value} {base : Heap} {CX : CXT} {k : Nat} {f : Addr} {fd : FuncData} {ps : List Str} {sp : Sp} (F : FnOk P w K mg base CX k f fd ps sp) : FnOk P w (K ++ E) mg base CX k f fd ps sp :=
  ⟨F.len, fun A outer s H args us vs Q X hr e hb hv hs => F.run A outer s H args us vs Q X hr ⟨e.frames, ⟨fun a o q => e.mod.kin a o (frag_left q), e.mod.glob, e.mod.blt, e.mod.nolimit⟩, e.bs, e.bsz, e.funs, e.frf, e.hok, e.bare⟩ hb hv hs⟩
theorem walk_ofS {l : PySem.W.OpenLaw} {n k : Nat} {q : Program} {loose : List Str} {XP : (Str → Option Value) → Heap → Prop} {YP : World → Heap → Prop} {d : DefRec} {K : Params → PySem.W.Frag} {sp : PySem.W.Frag → Sp} {x : Str}
    (hn : l.most = some n) (hn2 : n ≤ sizeLine) (hdf : d.params.defaults = []) (hr : Room k callerA) (hq : importsNone q = true)
    (hY : ∀ (w : World) (h : Heap), YP w h → (K w.params).In h)
    (F : ∀ (w : World) (mg : Str → Option Value) (fa : Addr) (h : Heap), (K w.params).In h → h.Ns mainGlobals mg → mg d.name = some (.ref fa) →
      ∃ fd : FuncData, (∀ (s : Shared) (u : Value), BindsTo s fd ⟨[u], []⟩ [(x, u)]) ∧
        ∀ base : Heap, (K w.params).In base → base.Ns mainGlobals mg → base.NoSeer → FnOk l.prog w (K w.params) mg base CX0 k fa fd [x] (sp (K w.params)))
    (hsp : ∀ (K : PySem.W.Frag) (H : Hp) (a : Addr) (ns : List Int), ns.length ≤ n → (∀ z ∈ ns, Bd 1048577 z) → SqL K H a (ns.map V.int) → sp K [.ref a] H (fun v _ => v = .bl true) fun _ _ _ => False) :
    PySem.W.WalkO q loose XP YP l.row.toRowW d [] (fun f vs => PySem.call f vs) := by
  refine Att.attach_callB hn hdf fun w s₀ s₁ mg mb fa o pm cd doc a vs ns G Y ho hd hcd hmg hobj hints hlen hbits hg => ?_
  have KX := hY w _ Y
  obtain ⟨fd, hb, hF⟩ := F w mg fa _ KX G.T.g hmg
  have seer := G.T.seer hq
  obtain ⟨mc, ⟨oc, ec, pc, c1, c2, c3, c4⟩, hc1, hc2⟩ := seer.statics
  obtain ⟨mm, ⟨om, em, pm', m1, m2, m3, m4⟩, hm1⟩ := seer.mods
  obtain ⟨mi, ⟨oi, ei, pi', i1, i2, i3, i4⟩, hi1⟩ := seer.imp
  obtain ⟨mz, bm, ob, ⟨oz, ez, pz, z1, z2, z3, z4⟩, hz1, hz2, hz3, hz4⟩ := seer.main
  have all : ∀ p ∈ ([(cStatics, oc), (sysModules, om), (builtinsNs, oi), (mainGlobals, oz), (bm, ob)] : PySem.W.Frag), s₁.heap.get? p.1 = some p.2 ∧ ((∃ es ep, p.2.data = .dict es ep) ∨ p.2.cls = .type "module") := by
    intro p hp
    simp only [List.mem_cons, List.not_mem_nil, or_false] at hp
    rcases hp with e | e | e | e | e <;> subst e
    · exact ⟨c1, .inl ⟨_, _, c2⟩⟩
    · exact ⟨m1, .inl ⟨_, _, m2⟩⟩
    · exact ⟨i1, .inl ⟨_, _, i2⟩⟩
    · exact ⟨z1, .inl ⟨_, _, z2⟩⟩
    · exact ⟨hz2, .inr hz3⟩
  have KX2 := frag_in KX fun p hp => (all p hp).1
  refine law_call (K := K w.params ++ [(cStatics, oc), (sysModules, om), (builtinsNs, oi), (mainGlobals, oz), (bm, ob)]) KX2 G.T.g G.T.b G.T.builtins G.T.nolimit hg hobj hints (Nat.le_trans hlen hn2) hr
    (fun base hB hN => fn_more (hF base (fun a o e => hB a o (frag_left e)) hN ?_)) hb (fun H hO hS => hsp (K w.params) H a ns hlen (fun z hz => (Sq.Bd.mono (k := 1048576) (PySem.intBits_le_iff.mp (hbits z hz)) (by decide))) ?_) (fun H e s' h => h)
  · have at' : ∀ {b : Addr} {u : Obj}, (b, u) ∈ ([(cStatics, oc), (sysModules, om), (builtinsNs, oi), (mainGlobals, oz), (bm, ob)] : PySem.W.Frag) → base.get? b = some u := fun m => frag_at KX2 hB (List.mem_append_right _ m) (all _ m).1
    exact ⟨⟨mc, ⟨oc, ec, pc, at' (by simp), c2, c3, c4⟩, hc1, hc2⟩, ⟨mm, ⟨om, em, pm', at' (by simp), m2, m3, m4⟩, hm1⟩, ⟨mi, ⟨oi, ei, pi', at' (by simp), i2, i3, i4⟩, hi1⟩, ⟨mz, bm, ob, ⟨oz, ez, pz, at' (by simp), z2, z3, z4⟩, hz1, at' (by simp), hz3, hz4⟩⟩
  · rcases hS with h | ⟨u, its, m, hk, h1, h2, h3, h4, h5⟩
    · exact .inl h
    · rcases frag_app hk with z | ⟨_, z⟩
      · exact .inr ⟨u, its, m, z, h1, h2, h3, h4, h5⟩
      · rcases (all _ z).2 with ⟨es, ep, e⟩ | e
        · rw [show (a, u).2.data = u.data from rfl, h3] at e
          cases e
        · rw [show (a, u).2.cls = u.cls from rfl, h1] at e
          exact absurd (Value.type.inj e) (by decide)
/-- a def that the top wrote -/
theorem is_mk {K : PySem.W.Frag} {h : Heap} {mg : Str → Option Value} {x : Str} {st : Stmt} {ps : List Str} {f : Addr} {oc : Value} {od an : Option Addr} {osl : Array (Option Value)} {kV doc pm cdv ct : Value} (X : K.In h) (G : h.Ns mainGlobals mg)
    (a : PySem.W.nsIn K mainGlobals x = some (some (.ref f))) (l : K.lookup f = some ⟨oc, od, .func (PySem.W.fnOf x x (defArgs st) (defBody st) (defScope st) .none kV doc pm an cdv ct), osl⟩) (c : PySem.W.codeIn K cdv x = true) (k : PySem.W.keepIn K (.ref f) = true)
    (hb : ∀ (kV doc pm : Value) (an : Option Addr) (cdv ct : Value) (us : List Value), us.length = ps.length → bindArgs (PySem.W.fnOf x x (defArgs st) (defBody st) (defScope st) .none kV doc pm an cdv ct) ⟨us, []⟩ = pure (ps.zip us)) : Is K mg x st ps :=
  ⟨f, _, fun_mk l c k, (fun_mk l c k).binds hb, PySem.W.mg_of X G a⟩
theorem with_is {C : Prop} {K : PySem.W.Frag} {h : Heap} {mg : Str → Option Value} {x : Str} {st : Stmt} {ps : List Str} {f : Addr} {oc : Value} {od an : Option Addr} {osl : Array (Option Value)} {kV doc pm cdv ct : Value} (X : K.In h) (G : h.Ns mainGlobals mg)
    (a : PySem.W.nsIn K mainGlobals x = some (some (.ref f))) (l : K.lookup f = some ⟨oc, od, .func (PySem.W.fnOf x x (defArgs st) (defBody st) (defScope st) .none kV doc pm an cdv ct), osl⟩) (c : PySem.W.codeIn K cdv x = true) (k : PySem.W.keepIn K (.ref f) = true)
    (hb : ∀ (kV doc pm : Value) (an : Option Addr) (cdv ct : Value) (us : List Value), us.length = ps.length → bindArgs (PySem.W.fnOf x x (defArgs st) (defBody st) (defScope st) .none kV doc pm an cdv ct) ⟨us, []⟩ = pure (ps.zip us)) (r : Is K mg x st ps → C) : C := r (is_mk X G a l c k hb)
theorem law_mk {K : PySem.W.Frag} {h : Heap} {mg : Str → Option Value} {x y : Str} {st : Stmt} {f fa : Addr} {oc : Value} {od an : Option Addr} {osl : Array (Option Value)} {kV doc pm cdv ct : Value} (X : K.In h) (G : h.Ns mainGlobals mg) (hfa : mg x = some (.ref fa))
    (a : PySem.W.nsIn K mainGlobals x = some (some (.ref f))) (l : K.lookup f = some ⟨oc, od, .func (PySem.W.fnOf x x (defArgs st) (defBody st) (defScope st) .none kV doc pm an cdv ct), osl⟩) (c : PySem.W.codeIn K cdv x = true) (k : PySem.W.keepIn K (.ref f) = true)
    (hb : ∀ (kV doc pm : Value) (an : Option Addr) (cdv ct : Value) (us : List Value), us.length = ([y] : List Str).length → bindArgs (PySem.W.fnOf x x (defArgs st) (defBody st) (defScope st) .none kV doc pm an cdv ct) ⟨us, []⟩ = pure (([y] : List Str).zip us)) :
    ∃ fd : FuncData, Fun K x x st fa fd ∧ ∀ (s : Shared) (u : Value), BindsTo s fd ⟨[u], []⟩ [(y, u)] := by
  have e := hfa.symm.trans (PySem.W.mg_of X G a)
  cases e
  exact ⟨_, fun_mk l c k, fun s u => .of_eq (hb kV doc pm an cdv ct [u] rfl)⟩
theorem with_law {C : Prop} {K : PySem.W.Frag} {h : Heap} {mg : Str → Option Value} {x y : Str} {st : Stmt} {f fa : Addr} {oc : Value} {od an : Option Addr} {osl : Array (Option Value)} {kV doc pm cdv ct : Value} (X : K.In h) (G : h.Ns mainGlobals mg) (hfa : mg x = some (.ref fa))
    (a : PySem.W.nsIn K mainGlobals x = some (some (.ref f))) (l : K.lookup f = some ⟨oc, od, .func (PySem.W.fnOf x x (defArgs st) (defBody st) (defScope st) .none kV doc pm an cdv ct), osl⟩) (c : PySem.W.codeIn K cdv x = true) (k : PySem.W.keepIn K (.ref f) = true)
    (hb : ∀ (kV doc pm : Value) (an : Option Addr) (cdv ct : Value) (us : List Value), us.length = ([y] : List Str).length → bindArgs (PySem.W.fnOf x x (defArgs st) (defBody st) (defScope st) .none kV doc pm an cdv ct) ⟨us, []⟩ = pure (([y] : List Str).zip us))
    (r : (∃ fd : FuncData, Fun K x x st fa fd ∧ ∀ (s : Shared) (u : Value), BindsTo s fd ⟨[u], []⟩ [(y, u)]) → C) : C := r (law_mk X G hfa a l c k hb)
end SqP

namespace SqP
open PySem PySem.Spec PyProof.Rows L2
theorem with_cls {C : Prop} {K : PySem.W.Frag} {h : Heap} {mg : Str → Option Value} {x : Str} {c : Addr} (X : K.In h) (G : h.Ns mainGlobals mg) (a : PySem.W.nsIn K mainGlobals x = some (some (.ref c))) (pg : PySem.W.plainGet K c Str.empty = true) (hd : PySem.W.hasDictIn K c = true) (po : PySem.W.plainOver K c = true)
    (sa : PySem.W.findIn K (.ref c) "__setattr__" = some (some (.builtin "object.__setattr__"))) (mk : PySem.W.makesIn K c = true) (kc : PySem.W.keepIn K (.ref c) = true) (r : KC K mg x c → C) : C := r ⟨⟨pg, hd, po, sa⟩, PySem.W.mg_of X G a, mk, kc⟩
theorem with_no {C : Prop} {K : PySem.W.Frag} {mg : Str → Option Value} {x fl : Str} {c : Addr} (_ : KC K mg x c) (n : PySem.W.findIn K (.ref c) fl = some none) (r : NoAttr K c fl → C) : C := r n
theorem with_oi {C : Prop} {K : PySem.W.Frag} {mg : Str → Option Value} {x : Str} {c : Addr} (_ : KC K mg x c) (n : PySem.W.findIn K (.ref c) "__init__" = some (some (.builtin "object.__init__"))) (r : PySem.W.findIn K (.ref c) "__init__" = some (some (.builtin "object.__init__")) → C) : C := r n
theorem with_ism {C : Prop} {K : PySem.W.Frag} {mg : Str → Option Value} {x m qual : Str} {c f : Addr} {st : Stmt} {ps : List Str} {oc : Value} {od an : Option Addr} {osl : Array (Option Value)} {kV doc pm cdv ct : Value} (_ : KC K mg x c)
    (a : PySem.W.findIn K (.ref c) m = some (some (.ref f))) (i : PySem.W.isFn K (.ref f) = true) (l : K.lookup f = some ⟨oc, od, .func (PySem.W.fnOf m qual (defArgs st) (defBody st) (defScope st) .none kV doc pm an cdv ct), osl⟩) (co : PySem.W.codeIn K cdv qual = true) (k : PySem.W.keepIn K (.ref f) = true)
    (hb : ∀ (kV doc pm : Value) (an : Option Addr) (cdv ct : Value) (us : List Value), us.length = ps.length → bindArgs (PySem.W.fnOf m qual (defArgs st) (defBody st) (defScope st) .none kV doc pm an cdv ct) ⟨us, []⟩ = pure (ps.zip us)) (r : IsM K c m qual st ps → C) : C :=
  r ⟨f, _, fun_mk l co k, (fun_mk l co k).binds hb, ⟨a, i, k⟩⟩
end SqP

open PySem PySem.W PyProof.Rows in
set_option maxRecDepth 100000 in
set_option maxHeartbeats 0 in
theorem PySem.Challenge.cw_squaretree_k04_answers_by_hand_holds : PySem.Challenge.rw_squaretree_k04_answers_by_hand.Holds := by
  w_on; o_law; k_head; (case hw => w_witness2)
  k_fill
  refine SqP.walk_ofS (l := PySem.Challenge.rw_squaretree_k04_answers_by_hand) (n := 63) (k := 37) (x := "_law_script") (sp := SqP.sp_law) rfl (by decide) rfl ⟨rfl, by decide, by decide⟩ (by decide +kernel) (fun w h Y => PySem.W.kIn_of Y) ?F (fun K H a ns hl hb hS => ⟨a, ns, rfl, hS, hb, hl, fun _ => rfl⟩)
  case F =>
    intro w mg fa h KX G hmg
    have z_isi : mg "isinstance" = none := by
      refine' PySem.W.mg_none_of KX G ?z
      (case z => k_is)
    have z_int : mg "int" = none := by
      refine' PySem.W.mg_none_of KX G ?z
      (case z => k_is)
    have z_bool : mg "bool" = none := by
      refine' PySem.W.mg_none_of KX G ?z
      (case z => k_is)
    have z_list : mg "list" = none := by
      refine' PySem.W.mg_none_of KX G ?z
      (case z => k_is)
    have z_len : mg "len" = none := by
      refine' PySem.W.mg_none_of KX G ?z
      (case z => k_is)
    have z_all : mg "all" = none := by
      refine' PySem.W.mg_none_of KX G ?z
      (case z => k_is)
    have z_any : mg "any" = none := by
      refine' PySem.W.mg_none_of KX G ?z
      (case z => k_is)
    have z_range : mg "range" = none := by
      refine' PySem.W.mg_none_of KX G ?z
      (case z => k_is)
    have z_sorted : mg "sorted" = none := by
      refine' PySem.W.mg_none_of KX G ?z
      (case z => k_is)
    have z_max : mg "max" = none := by
      refine' PySem.W.mg_none_of KX G ?z
      (case z => k_is)
    have B : SqP.Bt mg := ⟨z_isi, z_int, z_bool, z_list, z_len, z_all, z_any, z_range, z_sorted, z_max⟩
    refine' SqP.with_cls (x := "Longest") KX G ?a_Longest ?pg_Longest ?hd_Longest ?po_Longest ?sa_Longest ?mk_Longest ?kc_Longest (fun c_Longest => ?r_Longest)
    (case a_Longest => k_is); (case pg_Longest => k_is); (case hd_Longest => k_is); (case po_Longest => k_is); (case sa_Longest => k_is); (case mk_Longest => k_is); (case kc_Longest => k_is)
    refine' SqP.with_no (fl := "triples") c_Longest ?n_Longest_triples (fun n_Longest_triples => ?rn_Longest_triples)
    (case n_Longest_triples => k_is)
    refine' SqP.with_cls (x := "Leg") KX G ?a_Leg ?pg_Leg ?hd_Leg ?po_Leg ?sa_Leg ?mk_Leg ?kc_Leg (fun c_Leg => ?r_Leg)
    (case a_Leg => k_is); (case pg_Leg => k_is); (case hd_Leg => k_is); (case po_Leg => k_is); (case sa_Leg => k_is); (case mk_Leg => k_is); (case kc_Leg => k_is)
    refine' SqP.with_no (fl := "triples") c_Leg ?n_Leg_triples (fun n_Leg_triples => ?rn_Leg_triples)
    (case n_Leg_triples => k_is)
    refine' SqP.with_cls (x := "Barred") KX G ?a_Barred ?pg_Barred ?hd_Barred ?po_Barred ?sa_Barred ?mk_Barred ?kc_Barred (fun c_Barred => ?r_Barred)
    (case a_Barred => k_is); (case pg_Barred => k_is); (case hd_Barred => k_is); (case po_Barred => k_is); (case sa_Barred => k_is); (case mk_Barred => k_is); (case kc_Barred => k_is)
    refine' SqP.with_no (fl := "prime") c_Barred ?n_Barred_prime (fun n_Barred_prime => ?rn_Barred_prime)
    (case n_Barred_prime => k_is)
    refine' SqP.with_cls (x := "Halved") KX G ?a_Halved ?pg_Halved ?hd_Halved ?po_Halved ?sa_Halved ?mk_Halved ?kc_Halved (fun c_Halved => ?r_Halved)
    (case a_Halved => k_is); (case pg_Halved => k_is); (case hd_Halved => k_is); (case po_Halved => k_is); (case sa_Halved => k_is); (case mk_Halved => k_is); (case kc_Halved => k_is)
    refine' SqP.with_oi c_Halved ?i_Halved (fun i_Halved => ?ri_Halved)
    (case i_Halved => k_is)
    refine' SqP.with_is (x := "is_whole") (st := SqP.s_is_whole) (ps := ["thing"]) KX G ?a_is_whole ?l_is_whole ?c_is_whole ?k_is_whole (fun _ _ _ _ _ _ us hl => match us, hl with | [_], _ => rfl) (fun D_is_whole => ?r_is_whole)
    (case a_is_whole => k_is); (case l_is_whole => k_is); (case c_is_whole => k_is); (case k_is_whole => k_is)
    refine' SqP.with_is (x := "common") (st := SqP.s_common) (ps := ["one", "other"]) KX G ?a_common ?l_common ?c_common ?k_common (fun _ _ _ _ _ _ us hl => match us, hl with | [_, _], _ => rfl) (fun D_common => ?r_common)
    (case a_common => k_is); (case l_common => k_is); (case c_common => k_is); (case k_common => k_is)
    refine' SqP.with_is (x := "root_of") (st := SqP.s_root_of) (ps := ["number"]) KX G ?a_root_of ?l_root_of ?c_root_of ?k_root_of (fun _ _ _ _ _ _ us hl => match us, hl with | [_], _ => rfl) (fun D_root_of => ?r_root_of)
    (case a_root_of => k_is); (case l_root_of => k_is); (case c_root_of => k_is); (case k_root_of => k_is)
    refine' SqP.with_is (x := "triple_by") (st := SqP.s_triple_by) (ps := ["pair"]) KX G ?a_triple_by ?l_triple_by ?c_triple_by ?k_triple_by (fun _ _ _ _ _ _ us hl => match us, hl with | [_], _ => rfl) (fun D_triple_by => ?r_triple_by)
    (case a_triple_by => k_is); (case l_triple_by => k_is); (case c_triple_by => k_is); (case k_triple_by => k_is)
    refine' SqP.with_is (x := "longest_of") (st := SqP.s_longest_of) (ps := ["number"]) KX G ?a_longest_of ?l_longest_of ?c_longest_of ?k_longest_of (fun _ _ _ _ _ _ us hl => match us, hl with | [_], _ => rfl) (fun D_longest_of => ?r_longest_of)
    (case a_longest_of => k_is); (case l_longest_of => k_is); (case c_longest_of => k_is); (case k_longest_of => k_is)
    refine' SqP.with_is (x := "legs_of") (st := SqP.s_legs_of) (ps := ["number"]) KX G ?a_legs_of ?l_legs_of ?c_legs_of ?k_legs_of (fun _ _ _ _ _ _ us hl => match us, hl with | [_], _ => rfl) (fun D_legs_of => ?r_legs_of)
    (case a_legs_of => k_is); (case l_legs_of => k_is); (case c_legs_of => k_is); (case k_legs_of => k_is)
    refine' SqP.with_ism (m := "__init__") (qual := "Longest.__init__") (st := SqP.s_Longest_init) (ps := ["self", "triples"]) c_Longest ?a_Longest_init ?i_Longest_init ?l_Longest_init ?c_Longest_init ?k_Longest_init (fun _ _ _ _ _ _ us hl => match us, hl with | [_, _], _ => rfl) (fun D_Longest_init => ?r_Longest_init)
    (case a_Longest_init => k_is); (case i_Longest_init => k_is); (case l_Longest_init => k_is); (case c_Longest_init => k_is); (case k_Longest_init => k_is)
    refine' SqP.with_ism (m := "shows") (qual := "Longest.shows") (st := SqP.s_Longest_shows) (ps := ["self", "number"]) c_Longest ?a_Longest_shows ?i_Longest_shows ?l_Longest_shows ?c_Longest_shows ?k_Longest_shows (fun _ _ _ _ _ _ us hl => match us, hl with | [_, _], _ => rfl) (fun D_Longest_shows => ?r_Longest_shows)
    (case a_Longest_shows => k_is); (case i_Longest_shows => k_is); (case l_Longest_shows => k_is); (case c_Longest_shows => k_is); (case k_Longest_shows => k_is)
    refine' SqP.with_ism (m := "__init__") (qual := "Leg.__init__") (st := SqP.s_Leg_init) (ps := ["self", "triples"]) c_Leg ?a_Leg_init ?i_Leg_init ?l_Leg_init ?c_Leg_init ?k_Leg_init (fun _ _ _ _ _ _ us hl => match us, hl with | [_, _], _ => rfl) (fun D_Leg_init => ?r_Leg_init)
    (case a_Leg_init => k_is); (case i_Leg_init => k_is); (case l_Leg_init => k_is); (case c_Leg_init => k_is); (case k_Leg_init => k_is)
    refine' SqP.with_ism (m := "shows") (qual := "Leg.shows") (st := SqP.s_Leg_shows) (ps := ["self", "number"]) c_Leg ?a_Leg_shows ?i_Leg_shows ?l_Leg_shows ?c_Leg_shows ?k_Leg_shows (fun _ _ _ _ _ _ us hl => match us, hl with | [_, _], _ => rfl) (fun D_Leg_shows => ?r_Leg_shows)
    (case a_Leg_shows => k_is); (case i_Leg_shows => k_is); (case l_Leg_shows => k_is); (case c_Leg_shows => k_is); (case k_Leg_shows => k_is)
    refine' SqP.with_ism (m := "__init__") (qual := "Barred.__init__") (st := SqP.s_Barred_init) (ps := ["self", "prime"]) c_Barred ?a_Barred_init ?i_Barred_init ?l_Barred_init ?c_Barred_init ?k_Barred_init (fun _ _ _ _ _ _ us hl => match us, hl with | [_, _], _ => rfl) (fun D_Barred_init => ?r_Barred_init)
    (case a_Barred_init => k_is); (case i_Barred_init => k_is); (case l_Barred_init => k_is); (case c_Barred_init => k_is); (case k_Barred_init => k_is)
    refine' SqP.with_ism (m := "shows") (qual := "Barred.shows") (st := SqP.s_Barred_shows) (ps := ["self", "number"]) c_Barred ?a_Barred_shows ?i_Barred_shows ?l_Barred_shows ?c_Barred_shows ?k_Barred_shows (fun _ _ _ _ _ _ us hl => match us, hl with | [_, _], _ => rfl) (fun D_Barred_shows => ?r_Barred_shows)
    (case a_Barred_shows => k_is); (case i_Barred_shows => k_is); (case l_Barred_shows => k_is); (case c_Barred_shows => k_is); (case k_Barred_shows => k_is)
    refine' SqP.with_ism (m := "shows") (qual := "Halved.shows") (st := SqP.s_Halved_shows) (ps := ["self", "number"]) c_Halved ?a_Halved_shows ?i_Halved_shows ?l_Halved_shows ?c_Halved_shows ?k_Halved_shows (fun _ _ _ _ _ _ us hl => match us, hl with | [_, _], _ => rfl) (fun D_Halved_shows => ?r_Halved_shows)
    (case a_Halved_shows => k_is); (case i_Halved_shows => k_is); (case l_Halved_shows => k_is); (case c_Halved_shows => k_is); (case k_Halved_shows => k_is)
    refine' SqP.with_is (x := "_law_cell_at") (st := SqP.s__law_cell_at) (ps := ["_law_script", "_law_k"]) KX G ?a__law_cell_at ?l__law_cell_at ?c__law_cell_at ?k__law_cell_at (fun _ _ _ _ _ _ us hl => match us, hl with | [_, _], _ => rfl) (fun D__law_cell_at => ?r__law_cell_at)
    (case a__law_cell_at => k_is); (case l__law_cell_at => k_is); (case c__law_cell_at => k_is); (case k__law_cell_at => k_is)
    refine' SqP.with_is (x := "_law_draw") (st := SqP.s__law_draw) (ps := ["_law_cell", "_law_k", "_law_many"]) KX G ?a__law_draw ?l__law_draw ?c__law_draw ?k__law_draw (fun _ _ _ _ _ _ us hl => match us, hl with | [_, _, _], _ => rfl) (fun D__law_draw => ?r__law_draw)
    (case a__law_draw => k_is); (case l__law_draw => k_is); (case c__law_draw => k_is); (case k__law_draw => k_is)
    refine' SqP.with_is (x := "_law_value") (st := SqP.s__law_value) (ps := ["_law_cell", "_law_k", "_law_limit"]) KX G ?a__law_value ?l__law_value ?c__law_value ?k__law_value (fun _ _ _ _ _ _ us hl => match us, hl with | [_, _, _], _ => rfl) (fun D__law_value => ?r__law_value)
    (case a__law_value => k_is); (case l__law_value => k_is); (case c__law_value => k_is); (case k__law_value => k_is)
    refine' SqP.with_is (x := "_law_triple") (st := SqP.s__law_triple) (ps := ["_law_pair"]) KX G ?a__law_triple ?l__law_triple ?c__law_triple ?k__law_triple (fun _ _ _ _ _ _ us hl => match us, hl with | [_], _ => rfl) (fun D__law_triple => ?r__law_triple)
    (case a__law_triple => k_is); (case l__law_triple => k_is); (case c__law_triple => k_is); (case k__law_triple => k_is)
    refine' SqP.with_is (x := "_law_common") (st := SqP.s__law_common) (ps := ["_law_one", "_law_other"]) KX G ?a__law_common ?l__law_common ?c__law_common ?k__law_common (fun _ _ _ _ _ _ us hl => match us, hl with | [_, _], _ => rfl) (fun D__law_common => ?r__law_common)
    (case a__law_common => k_is); (case l__law_common => k_is); (case c__law_common => k_is); (case k__law_common => k_is)
    refine' SqP.with_is (x := "_law_root") (st := SqP.s__law_root) (ps := ["_law_number_here"]) KX G ?a__law_root ?l__law_root ?c__law_root ?k__law_root (fun _ _ _ _ _ _ us hl => match us, hl with | [_], _ => rfl) (fun D__law_root => ?r__law_root)
    (case a__law_root => k_is); (case l__law_root => k_is); (case c__law_root => k_is); (case k__law_root => k_is)
    refine' SqP.with_is (x := "_law_longest") (st := SqP.s__law_longest) (ps := ["_law_number_here"]) KX G ?a__law_longest ?l__law_longest ?c__law_longest ?k__law_longest (fun _ _ _ _ _ _ us hl => match us, hl with | [_], _ => rfl) (fun D__law_longest => ?r__law_longest)
    (case a__law_longest => k_is); (case l__law_longest => k_is); (case c__law_longest => k_is); (case k__law_longest => k_is)
    refine' SqP.with_is (x := "_law_legs") (st := SqP.s__law_legs) (ps := ["_law_number_here"]) KX G ?a__law_legs ?l__law_legs ?c__law_legs ?k__law_legs (fun _ _ _ _ _ _ us hl => match us, hl with | [_], _ => rfl) (fun D__law_legs => ?r__law_legs)
    (case a__law_legs => k_is); (case l__law_legs => k_is); (case c__law_legs => k_is); (case k__law_legs => k_is)
    refine' SqP.with_is (x := "_law_is_prime") (st := SqP.s__law_is_prime) (ps := ["_law_number_here"]) KX G ?a__law_is_prime ?l__law_is_prime ?c__law_is_prime ?k__law_is_prime (fun _ _ _ _ _ _ us hl => match us, hl with | [_], _ => rfl) (fun D__law_is_prime => ?r__law_is_prime)
    (case a__law_is_prime => k_is); (case l__law_is_prime => k_is); (case c__law_is_prime => k_is); (case k__law_is_prime => k_is)
    refine' SqP.with_is (x := "_law_bars") (st := SqP.s__law_bars) (ps := ["_law_number_here", "_law_prime"]) KX G ?a__law_bars ?l__law_bars ?c__law_bars ?k__law_bars (fun _ _ _ _ _ _ us hl => match us, hl with | [_, _], _ => rfl) (fun D__law_bars => ?r__law_bars)
    (case a__law_bars => k_is); (case l__law_bars => k_is); (case c__law_bars => k_is); (case k__law_bars => k_is)
    refine' SqP.with_is (x := "_law_number") (st := SqP.s__law_number) (ps := ["_law_script", "_law_k"]) KX G ?a__law_number ?l__law_number ?c__law_number ?k__law_number (fun _ _ _ _ _ _ us hl => match us, hl with | [_, _], _ => rfl) (fun D__law_number => ?r__law_number)
    (case a__law_number => k_is); (case l__law_number => k_is); (case c__law_number => k_is); (case k__law_number => k_is)
    refine' SqP.with_is (x := "_law_says") (st := SqP.s__law_says) (ps := ["_law_said", "_law_due"]) KX G ?a__law_says ?l__law_says ?c__law_says ?k__law_says (fun _ _ _ _ _ _ us hl => match us, hl with | [_, _], _ => rfl) (fun D__law_says => ?r__law_says)
    (case a__law_says => k_is); (case l__law_says => k_is); (case c__law_says => k_is); (case k__law_says => k_is)
    refine' SqP.with_is (x := "_law_lists_right") (st := SqP.s__law_lists_right) (ps := ["_law_number_here", "_law_triples", "_law_mine", "_law_theirs"]) KX G ?a__law_lists_right ?l__law_lists_right ?c__law_lists_right ?k__law_lists_right (fun _ _ _ _ _ _ us hl => match us, hl with | [_, _, _, _], _ => rfl) (fun D__law_lists_right => ?r__law_lists_right)
    (case a__law_lists_right => k_is); (case l__law_lists_right => k_is); (case c__law_lists_right => k_is); (case k__law_lists_right => k_is)
    refine' SqP.with_law (x := "law") (y := "_law_script") (st := SqP.s_law) KX G hmg ?a_law ?l_law ?c_law ?k_law (fun _ _ _ _ _ _ us hl => match us, hl with | [_], _ => rfl) (fun DL => ?r_law)
    (case a_law => k_is); (case l_law => k_is); (case c_law => k_is); (case k_law => k_is)
    obtain ⟨fd, FL, bL⟩ := DL
    refine ⟨fd, bL, fun base hB hN seer => ?_⟩
    have H_is_whole := SqP.ok_is_whole (P := PySem.Challenge.rw_squaretree_k04_answers_by_hand.prog) (w := w) (mg := mg) (base := base) B D_is_whole 
    have H_common := SqP.ok_common (P := PySem.Challenge.rw_squaretree_k04_answers_by_hand.prog) (w := w) (mg := mg) (base := base)  D_common 
    have H_root_of := SqP.ok_root_of (P := PySem.Challenge.rw_squaretree_k04_answers_by_hand.prog) (w := w) (mg := mg) (base := base) seer rfl D_root_of 
    have H_triple_by := SqP.ok_triple_by (P := PySem.Challenge.rw_squaretree_k04_answers_by_hand.prog) (w := w) (mg := mg) (base := base)  D_triple_by 
    have H_longest_of := SqP.ok_longest_of (P := PySem.Challenge.rw_squaretree_k04_answers_by_hand.prog) (w := w) (mg := mg) (base := base) B D_longest_of H_root_of H_common H_triple_by
    have H_legs_of := SqP.ok_legs_of (P := PySem.Challenge.rw_squaretree_k04_answers_by_hand.prog) (w := w) (mg := mg) (base := base) B seer rfl D_legs_of H_common H_triple_by
    have H_Longest_init := SqP.ok_Longest_init (P := PySem.Challenge.rw_squaretree_k04_answers_by_hand.prog) (w := w) (mg := mg) (base := base) B c_Longest n_Longest_triples D_Longest_init 
    have H_Longest_shows := SqP.ok_Longest_shows (P := PySem.Challenge.rw_squaretree_k04_answers_by_hand.prog) (w := w) (mg := mg) (base := base) B c_Longest n_Longest_triples D_Longest_shows H_longest_of
    have H_Leg_init := SqP.ok_Leg_init (P := PySem.Challenge.rw_squaretree_k04_answers_by_hand.prog) (w := w) (mg := mg) (base := base) B c_Leg n_Leg_triples D_Leg_init 
    have H_Leg_shows := SqP.ok_Leg_shows (P := PySem.Challenge.rw_squaretree_k04_answers_by_hand.prog) (w := w) (mg := mg) (base := base) B c_Leg n_Leg_triples D_Leg_shows H_legs_of
    have H_Barred_init := SqP.ok_Barred_init (P := PySem.Challenge.rw_squaretree_k04_answers_by_hand.prog) (w := w) (mg := mg) (base := base) c_Barred n_Barred_prime D_Barred_init 
    have H_Barred_shows := SqP.ok_Barred_shows (P := PySem.Challenge.rw_squaretree_k04_answers_by_hand.prog) (w := w) (mg := mg) (base := base) c_Barred n_Barred_prime D_Barred_shows H_is_whole
    have H_Halved_shows := SqP.ok_Halved_shows (P := PySem.Challenge.rw_squaretree_k04_answers_by_hand.prog) (w := w) (mg := mg) (base := base)  D_Halved_shows 
    have H__law_cell_at := SqP.ok__law_cell_at (P := PySem.Challenge.rw_squaretree_k04_answers_by_hand.prog) (w := w) (mg := mg) (base := base) B D__law_cell_at 
    have H__law_draw := SqP.ok__law_draw (P := PySem.Challenge.rw_squaretree_k04_answers_by_hand.prog) (w := w) (mg := mg) (base := base)  D__law_draw 
    have H__law_value := SqP.ok__law_value (P := PySem.Challenge.rw_squaretree_k04_answers_by_hand.prog) (w := w) (mg := mg) (base := base)  D__law_value H__law_draw
    have H__law_triple := SqP.ok__law_triple (P := PySem.Challenge.rw_squaretree_k04_answers_by_hand.prog) (w := w) (mg := mg) (base := base)  D__law_triple 
    have H__law_common := SqP.ok__law_common (P := PySem.Challenge.rw_squaretree_k04_answers_by_hand.prog) (w := w) (mg := mg) (base := base)  D__law_common 
    have H__law_root := SqP.ok__law_root (P := PySem.Challenge.rw_squaretree_k04_answers_by_hand.prog) (w := w) (mg := mg) (base := base)  D__law_root 
    have H__law_longest := SqP.ok__law_longest (P := PySem.Challenge.rw_squaretree_k04_answers_by_hand.prog) (w := w) (mg := mg) (base := base) B D__law_longest H__law_root H__law_common H__law_triple
    have H__law_legs := SqP.ok__law_legs (P := PySem.Challenge.rw_squaretree_k04_answers_by_hand.prog) (w := w) (mg := mg) (base := base) B seer rfl D__law_legs H__law_root H__law_common H__law_triple
    have H__law_is_prime := SqP.ok__law_is_prime (P := PySem.Challenge.rw_squaretree_k04_answers_by_hand.prog) (w := w) (mg := mg) (base := base) B D__law_is_prime H__law_root
    have H__law_bars := SqP.ok__law_bars (P := PySem.Challenge.rw_squaretree_k04_answers_by_hand.prog) (w := w) (mg := mg) (base := base)  D__law_bars H__law_is_prime
    have H__law_number := SqP.ok__law_number (P := PySem.Challenge.rw_squaretree_k04_answers_by_hand.prog) (w := w) (mg := mg) (base := base) B D__law_number H__law_cell_at H__law_value H__law_draw
    have H__law_says := SqP.ok__law_says (P := PySem.Challenge.rw_squaretree_k04_answers_by_hand.prog) (w := w) (mg := mg) (base := base) B D__law_says 
    have H__law_lists_right := SqP.ok__law_lists_right (P := PySem.Challenge.rw_squaretree_k04_answers_by_hand.prog) (w := w) (mg := mg) (base := base) B c_Longest n_Longest_triples c_Leg n_Leg_triples D__law_lists_right H_Longest_init H_Leg_init H_Longest_shows H_Leg_shows H__law_says
    exact SqP.ok_law B c_Longest c_Leg c_Barred n_Barred_prime c_Halved i_Halved FL H_Longest_init H_Leg_init H_Barred_init H_Longest_shows H_Leg_shows H_Barred_shows H_Halved_shows H__law_cell_at H__law_value H__law_longest H__law_legs H__law_bars H__law_number H__law_says H__law_lists_right
